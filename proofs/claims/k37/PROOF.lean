import PyProof.Rows.All
import Wide.All
import OpenK.AllK
import Wide.FinOn
import HandS.ForMost
import HandS.Walk
import HandS.Gcd
import HandS.IsInst
import HandS.TupAny
import HandS.Zip
import HandS.Style
import HandS.Flow
import HandS.Conv
import HandS.SortInts
import KE.GoesMore
import PySem.Challenge.RW_bothwheels_k37_whole_pairs_and_trains_be
/-! the mathematics: plain lists of ints, no program in sight -/
set_option linter.unusedVariables false
namespace M

/-! ### wheels -/
def led (ws : List Int) (z : Int) : Int := ws.getD (z % (ws.length : Int)).toNat 0 + z / (ws.length : Int) * (ws.length : Int)
def adj : List Int → Bool
  | a :: b :: r => decide (a ≤ b) && adj (b :: r)
  | _ => true
def isWh (ws : List Int) : Bool := !ws.isEmpty && adj ws && decide (ws.getLastD 0 ≤ ws.headD 0 + (ws.length : Int))
/-- f, n times -/
def itr (f : Int → Int) : Nat → Int → Int
  | 0, z => z
  | n + 1, z => itr f n (f z)
def gc (a b : Int) : Int := ((Nat.gcd a.natAbs b.natAbs : Nat) : Int)
/-- a fraction made least -/
def mk (a b : Int) : Int × Int := (a / gc a b, b / gc a b)

theorem itr_add (f : Int → Int) : ∀ (m n : Nat) (z : Int), itr f (m + n) z = itr f n (itr f m z)
  | 0, n, z => by rw [Nat.zero_add]; rfl
  | m + 1, n, z => by
    rw [Nat.succ_add]
    exact itr_add f m n (f z)
theorem itr_succ (f : Int → Int) (n : Nat) (z : Int) : itr f (n + 1) z = f (itr f n z) := by
  have h := itr_add f n 1 z
  exact h

/-- what is used of a wheel's map -/
structure Mono (f : Int → Int) (N : Int) : Prop where
  pos : 0 < N
  mono : ∀ x y, x ≤ y → f x ≤ f y
  per : ∀ x, f (x + N) = f x + N
theorem Mono.perk {f : Int → Int} {N : Int} (h : Mono f N) : ∀ (k : Nat) (x : Int), f (x + k * N) = f x + k * N
  | 0, x => by simp
  | k + 1, x => by
    have e : x + ((k + 1 : Nat) : Int) * N = (x + k * N) + N := by
      rw [Int.natCast_succ, Int.add_mul, Int.one_mul, Int.add_assoc]
    rw [e, h.per, h.perk k x, Int.natCast_succ, Int.add_mul, Int.one_mul, Int.add_assoc]
theorem Mono.perz {f : Int → Int} {N : Int} (h : Mono f N) (k x : Int) : f (x + k * N) = f x + k * N := by
  rcases Int.le_total 0 k with hk | hk
  · have e : k = (k.toNat : Int) := by omega
    rw [e]; exact h.perk _ _
  · have e : k = -((-k).toNat : Int) := by omega
    have q := h.perk (-k).toNat (x + k * N)
    have e2 : x + k * N + ((-k).toNat : Int) * N = x := by
      have : ((-k).toNat : Int) = -k := by omega
      rw [this, Int.neg_mul]; omega
    rw [e2] at q
    have : ((-k).toNat : Int) = -k := by omega
    rw [this, Int.neg_mul] at q
    omega
theorem Mono.itr {f : Int → Int} {N : Int} (h : Mono f N) : ∀ n : Nat, Mono (M.itr f n) N
  | 0 => ⟨h.pos, fun _ _ q => q, fun _ => rfl⟩
  | n + 1 => by
    have q := h.itr n
    exact ⟨h.pos, fun x y l => q.mono _ _ (h.mono x y l), fun x => by
      show M.itr f n (f (x + N)) = M.itr f n (f x) + N
      rw [h.per, q.per]⟩
/-- led so many times b, again and again -/
theorem Mono.many {f : Int → Int} {N : Int} (h : Mono f N) {b : Nat} {x r : Int} (e : M.itr f b x = x + r * N) : ∀ k : Nat, M.itr f (b * k) x = x + (k : Int) * r * N
  | 0 => by simp [M.itr]
  | k + 1 => by
    rw [Nat.mul_succ, itr_add, h.many e k, (h.itr b).perz, e, Int.natCast_succ, Int.add_mul, Int.one_mul, Int.add_mul]
    omega
/-- f led beats by f' 's rounds: the common comparison -/
theorem Mono.cmp {f g : Int → Int} {N : Int} (hf : Mono f N) (hg : Mono g N) (hle : ∀ x, f x ≤ g x) {b d : Nat} {x y r s : Int} (hb : 0 < b) (hd : 0 < d) (e1 : M.itr f b x = x + r * N) (e2 : M.itr g d y = y + s * N) : r * d ≤ s * b := by
  have all : ∀ (n : Nat) (z w : Int), z ≤ w → M.itr f n z ≤ M.itr g n w := by
    intro n
    induction n with
    | zero => intro z w h; exact h
    | succ n ih => intro z w h; exact ih _ _ (Int.le_trans (hle z) (hg.mono _ _ h))
  -- y moved by rounds to x or behind, less than a round
  have hN := hf.pos
  have a1 := hf.many e1 d
  have a2 := hg.many e2 b
  rw [Nat.mul_comm d b] at a2
  -- x ≤ y + k N < x + N
  have hk : ∃ k : Int, x ≤ y + k * N ∧ y + k * N < x + N := by
    refine ⟨-((y - x) / N), ?_⟩
    have h1 := Int.mul_ediv_add_emod (y - x) N
    have h2 := Int.emod_nonneg (y - x) (Int.ne_of_gt hN)
    have h3 := Int.emod_lt_of_pos (y - x) hN
    rw [Int.neg_mul, Int.mul_comm ((y - x) / N) N]
    constructor <;> omega
  obtain ⟨k, k1, k2⟩ := hk
  have m1 := all (b * d) x (y + k * N) k1
  rw [(hg.itr (b * d)).perz, a1, a2] at m1
  -- x + d r N ≤ y + b s N + k N < x + N + b s N
  have m2 : ((d : Int) * r) * N < ((b : Int) * s + 1) * N := by
    rw [Int.add_mul, Int.one_mul]; omega
  have m3 := Int.lt_of_mul_lt_mul_right m2 (Int.le_of_lt hN)
  rw [Int.mul_comm r, Int.mul_comm s]
  omega
theorem Mono.same {f : Int → Int} {N : Int} (h : Mono f N) {b d : Nat} {x y r s : Int} (hb : 0 < b) (hd : 0 < d) (e1 : M.itr f b x = x + r * N) (e2 : M.itr f d y = y + s * N) : r * d = s * b :=
  Int.le_antisymm (h.cmp h (fun _ => Int.le_refl _) hb hd e1 e2) (h.cmp h (fun _ => Int.le_refl _) hd hb e2 e1)

/-! ### fractions made least -/
theorem gc_pos {a b : Int} (hb : 0 < b) : 0 < gc a b := by
  unfold gc
  have : 0 < Nat.gcd a.natAbs b.natAbs := Nat.gcd_pos_of_pos_right _ (by omega)
  omega
theorem gc_dvd_l (a b : Int) : gc a b ∣ a := by
  exact Int.gcd_dvd_left a b
theorem gc_dvd_r (a b : Int) : gc a b ∣ b := by
  exact Int.gcd_dvd_right a b
theorem mk_mul1 {a b : Int} : (mk a b).1 * gc a b = a := Int.ediv_mul_cancel (gc_dvd_l a b)
theorem mk_mul2 {a b : Int} : (mk a b).2 * gc a b = b := Int.ediv_mul_cancel (gc_dvd_r a b)
theorem mk_pos {a b : Int} (hb : 0 < b) : 0 < (mk a b).2 := by
  have h := @mk_mul2 a b
  have g := gc_pos (a := a) hb
  rcases Int.lt_or_le 0 (mk a b).2 with q | q
  · exact q
  · have := Int.mul_le_mul_of_nonneg_right q (Int.le_of_lt g)
    omega
theorem mk_le {a b : Int} (hb : 0 < b) : (mk a b).2 ≤ b := by
  have h := @mk_mul2 a b
  have g := gc_pos (a := a) hb
  have p := mk_pos (a := a) hb
  have : (mk a b).2 * 1 ≤ (mk a b).2 * gc a b := Int.mul_le_mul_of_nonneg_left (by omega) (Int.le_of_lt p)
  omega
theorem mk_cop {a b : Int} (hb : 0 < b) : Nat.Coprime (mk a b).1.natAbs (mk a b).2.natAbs := by
  have hg : 0 < Nat.gcd a.natAbs b.natAbs := Nat.gcd_pos_of_pos_right _ (by omega)
  have h := Nat.coprime_div_gcd_div_gcd (m := a.natAbs) (n := b.natAbs) hg
  have e1 : (mk a b).1.natAbs = a.natAbs / Nat.gcd a.natAbs b.natAbs := by
    have q := congrArg Int.natAbs (@mk_mul1 a b)
    rw [Int.natAbs_mul] at q
    have g : (gc a b).natAbs = Nat.gcd a.natAbs b.natAbs := rfl
    rw [g] at q
    exact (Nat.div_eq_of_eq_mul_left hg q.symm).symm
  have e2 : (mk a b).2.natAbs = b.natAbs / Nat.gcd a.natAbs b.natAbs := by
    have q := congrArg Int.natAbs (@mk_mul2 a b)
    rw [Int.natAbs_mul] at q
    have g : (gc a b).natAbs = Nat.gcd a.natAbs b.natAbs := rfl
    rw [g] at q
    exact (Nat.div_eq_of_eq_mul_left hg q.symm).symm
  rw [e1, e2]
  exact h
theorem cop_eq {a b c d : Int} (hb : 0 < b) (hd : 0 < d) (h1 : Nat.Coprime a.natAbs b.natAbs) (h2 : Nat.Coprime c.natAbs d.natAbs) (e : a * d = c * b) : (a, b) = (c, d) := by
  have e' : a.natAbs * d.natAbs = c.natAbs * b.natAbs := by rw [← Int.natAbs_mul, ← Int.natAbs_mul, e]
  have q1 : b.natAbs ∣ d.natAbs := h1.symm.dvd_of_dvd_mul_left (by rw [e']; exact Nat.dvd_mul_left _ _)
  have q2 : d.natAbs ∣ b.natAbs := h2.symm.dvd_of_dvd_mul_left (by rw [← e']; exact Nat.dvd_mul_left _ _)
  have q3 := Nat.dvd_antisymm q1 q2
  have q4 : b = d := by omega
  subst q4
  have q5 : a = c := Int.eq_of_mul_eq_mul_right (Int.ne_of_gt hb) e
  rw [q5]
theorem mk_congr {a b c d : Int} (hb : 0 < b) (hd : 0 < d) (e : a * d = c * b) : mk a b = mk c d := by
  refine cop_eq (mk_pos hb) (mk_pos hd) (mk_cop hb) (mk_cop hd) ?_
  have h1 := @mk_mul1 a b
  have h2 := @mk_mul2 a b
  have h3 := @mk_mul1 c d
  have h4 := @mk_mul2 c d
  have g1 := gc_pos (a := a) hb
  have g2 := gc_pos (a := c) hd
  have k : (mk a b).1 * (mk c d).2 * (gc a b * gc c d) = (mk c d).1 * (mk a b).2 * (gc a b * gc c d) := by
    have l : (mk a b).1 * (mk c d).2 * (gc a b * gc c d) = ((mk a b).1 * gc a b) * ((mk c d).2 * gc c d) := by
      ac_rfl
    have r : (mk c d).1 * (mk a b).2 * (gc a b * gc c d) = ((mk c d).1 * gc c d) * ((mk a b).2 * gc a b) := by
      ac_rfl
    rw [l, r, h1, h2, h3, h4, e]
  exact Int.eq_of_mul_eq_mul_right (Int.ne_of_gt (Int.mul_pos g1 g2)) k
theorem mk_self {a b : Int} (hb : 0 < b) (h : Nat.gcd a.natAbs b.natAbs = 1) : mk a b = (a, b) := by
  unfold mk gc
  rw [h]
  simp
theorem mk_gcd {a b : Int} (hb : 0 < b) : Nat.gcd (mk a b).1.natAbs (mk a b).2.natAbs = 1 := mk_cop hb

/-! ### wheels are monotone -/
theorem adj_get : ∀ {ws : List Int} {i j : Nat} {a b : Int}, adj ws = true → i ≤ j → ws[i]? = some a → ws[j]? = some b → a ≤ b
  | [], _, _, _, _, _, _, h, _ => by simp at h
  | [x], i, j, a, b, _, _, h1, h2 => by
    have i0 : i = 0 := by
      cases i with
      | zero => rfl
      | succ i => simp at h1
    have j0 : j = 0 := by
      cases j with
      | zero => rfl
      | succ j => simp at h2
    subst i0 j0
    rw [h1] at h2
    cases h2
    exact Int.le_refl _
  | x :: y :: r, i, j, a, b, h, hij, h1, h2 => by
    have h' : x ≤ y ∧ adj (y :: r) = true := by
      have : (decide (x ≤ y) && adj (y :: r)) = true := h
      simpa using this
    cases i with
    | zero =>
      have ha : a = x := by simpa using h1.symm
      subst ha
      cases j with
      | zero =>
        have hb : b = a := by simpa using h2.symm
        rw [hb]; exact Int.le_refl _
      | succ j => exact Int.le_trans h'.1 (adj_get (i := 0) (j := j) h'.2 (Nat.zero_le _) rfl (by simpa using h2))
    | succ i =>
      cases j with
      | zero => omega
      | succ j => exact adj_get (i := i) (j := j) h'.2 (by omega) (by simpa using h1) (by simpa using h2)
theorem isWh_pos {ws : List Int} (h : isWh ws = true) : 0 < ws.length := by
  cases ws with
  | nil => cases h
  | cons a r => exact Nat.succ_pos _
theorem getD_at {ws : List Int} {i : Nat} (h : i < ws.length) : ws[i]? = some (ws.getD i 0) := by
  rw [List.getD_eq_getElem?_getD, List.getElem?_eq_getElem h]
  rfl
theorem isWh_bounds {ws : List Int} (h : isWh ws = true) {i j : Nat} (hi : i < ws.length) (hj : j < ws.length) : (i ≤ j → ws.getD i 0 ≤ ws.getD j 0) ∧ ws.getD i 0 ≤ ws.getD j 0 + ws.length := by
  have hn := isWh_pos h
  have h' : adj ws = true ∧ ws.getLastD 0 ≤ ws.headD 0 + (ws.length : Int) := by
    unfold isWh at h
    simp only [Bool.and_eq_true, decide_eq_true_eq] at h
    exact ⟨h.1.2, h.2⟩
  have e1 : ws.headD 0 = ws.getD 0 0 := by cases ws <;> rfl
  have e2 : ws.getLastD 0 = ws.getD (ws.length - 1) 0 := by
    cases ws with
    | nil => rfl
    | cons a r =>
      show (a :: r).getLastD 0 = _
      rw [List.getLastD_eq_getLast?, List.getLast?_eq_getElem?, List.getD_eq_getElem?_getD]
  have l1 := adj_get h'.1 (Nat.zero_le j) (getD_at hn) (getD_at hj)
  have l2 := adj_get h'.1 (show i ≤ ws.length - 1 by omega) (getD_at hi) (getD_at (show ws.length - 1 < ws.length by omega))
  exact ⟨fun q => adj_get h'.1 q (getD_at hi) (getD_at hj), by omega⟩
theorem led_mono {ws : List Int} (h : isWh ws = true) : Mono (led ws) ws.length := by
  have hn : (0 : Int) < ws.length := by have := isWh_pos h; omega
  refine ⟨hn, fun x y l => ?_, fun x => ?_⟩
  · have x1 := Int.mul_ediv_add_emod x ws.length
    have y1 := Int.mul_ediv_add_emod y ws.length
    have x2 := Int.emod_nonneg x (Int.ne_of_gt hn)
    have y2 := Int.emod_nonneg y (Int.ne_of_gt hn)
    have x3 := Int.emod_lt_of_pos x hn
    have y3 := Int.emod_lt_of_pos y hn
    unfold led
    have bx := isWh_bounds h (i := (x % ws.length).toNat) (j := (y % ws.length).toNat) (by omega) (by omega)
    have hq := Int.ediv_le_ediv hn l
    rcases Int.lt_or_eq_of_le hq with hq | hq
    · have : (x / (ws.length : Int) + 1) * ws.length ≤ y / (ws.length : Int) * ws.length := Int.mul_le_mul_of_nonneg_right (by omega) (Int.le_of_lt hn)
      rw [Int.add_mul, Int.one_mul] at this
      have := bx.2
      omega
    · rw [hq] at x1 ⊢
      have := bx.1 (by omega)
      omega
  · unfold led
    rw [Int.add_emod_right, Int.add_ediv_of_dvd_right (Int.dvd_refl _), Int.ediv_self (Int.ne_of_gt hn), Int.add_mul, Int.one_mul, Int.add_assoc]
end M
set_option linter.unusedVariables false
namespace M

/-! ### a place comes again -/
theorem pigeon : ∀ (n : Nat) (f : Nat → Nat), (∀ i, i ≤ n → f i < n) → ∃ i j, i < j ∧ j ≤ n ∧ f i = f j
  | 0, f, h => absurd (h 0 (Nat.le_refl _)) (Nat.not_lt_zero _)
  | n + 1, f, h => by
    by_cases hv : ∃ i, i ≤ n ∧ f i = f (n + 1)
    · obtain ⟨i, hi, e⟩ := hv
      exact ⟨i, n + 1, by omega, Nat.le_refl _, e⟩
    · have ne : ∀ i, i ≤ n → f i ≠ f (n + 1) := fun i hi e => hv ⟨i, hi, e⟩
      obtain ⟨i, j, hij, hj, e⟩ := pigeon n (fun i => if f i = n then f (n + 1) else f i) fun i hi => by
        have h1 := h i (by omega)
        have h2 := h (n + 1) (Nat.le_refl _)
        have h3 := ne i hi
        show (if f i = n then f (n + 1) else f i) < n
        split <;> omega
      refine ⟨i, j, hij, by omega, ?_⟩
      have e : (if f i = n then f (n + 1) else f i) = (if f j = n then f (n + 1) else f j) := e
      have h1 := ne i (by omega)
      have h2 := ne j hj
      split at e <;> split at e <;> omega
theorem mod_eq_add {a b N : Int} (h : a % N = b % N) : ∃ r : Int, b = a + r * N := by
  refine ⟨b / N - a / N, ?_⟩
  have h1 := Int.mul_ediv_add_emod a N
  have h2 := Int.mul_ediv_add_emod b N
  rw [Int.sub_mul, Int.mul_comm (b / N), Int.mul_comm (a / N)]
  omega
theorem recur {f : Int → Int} {N : Int} (h : Mono f N) (z : Int) : ∃ (m : Nat) (r : Int), 0 < m ∧ m ≤ N.toNat ∧ itr f m (itr f N.toNat z) = itr f N.toNat z + r * N := by
  have hN := h.pos
  obtain ⟨i, j, hij, hj, e⟩ := pigeon N.toNat (fun i => (itr f i z % N).toNat) fun i _ => by
    have := Int.emod_lt_of_pos (itr f i z) hN
    have := Int.emod_nonneg (itr f i z) (Int.ne_of_gt hN)
    show (itr f i z % N).toNat < N.toNat
    omega
  have e : (itr f i z % N).toNat = (itr f j z % N).toNat := e
  have e' : itr f i z % N = itr f j z % N := by
    have := Int.emod_nonneg (itr f i z) (Int.ne_of_gt hN)
    have := Int.emod_nonneg (itr f j z) (Int.ne_of_gt hN)
    omega
  obtain ⟨r, hr⟩ := mod_eq_add e'
  refine ⟨j - i, r, by omega, by omega, ?_⟩
  have e1 : itr f N.toNat z = itr f (N.toNat - i) (itr f i z) := by rw [← itr_add, show i + (N.toNat - i) = N.toNat by omega]
  have e2 : itr f (j - i) (itr f N.toNat z) = itr f (N.toNat - i) (itr f j z) := by
    rw [← itr_add, ← itr_add]
    congr 1
    omega
  rw [e2, hr, (h.itr _).perz, ← e1]
theorem itr_mod {f : Int → Int} {N : Int} (h : Mono f N) : ∀ (n : Nat) (z : Int), itr f n (z % N) % N = itr f n z % N := fun n z => by
  have e : z = z % N + z / N * N := by
    have := Int.mul_ediv_add_emod z N
    rw [Int.mul_comm] at this
    omega
  conv => rhs; rw [e, (h.itr n).perz]
  rw [Int.add_mul_emod_self_right]

/-! ### the turning: a walk of as many beats as places, then once round -/
def soon (f : Int → Int) (N z0 : Int) : Nat → Nat → Int → Option (Int × Int)
  | 0, _, _ => none
  | k + 1, lap, z => if (f z - z0) % N = 0 then some (mk ((f z - z0) / N) ((lap : Int) + 1)) else soon f N z0 k (lap + 1) (f z)
def trn (ws : List Int) : Int × Int := (soon (led ws) ws.length (itr (led ws) ws.length 0) ws.length 0 (itr (led ws) ws.length 0)).getD (0, 1)
theorem soon_some {f : Int → Int} {N : Int} (h : Mono f N) {z0 : Int} : ∀ (k lap : Nat) (z : Int), z = itr f lap z0 → (∃ m r, lap < m ∧ m ≤ lap + k ∧ itr f m z0 = z0 + r * N) → ∃ (b : Nat) (r : Int), 0 < b ∧ b ≤ lap + k ∧ itr f b z0 = z0 + r * N ∧ soon f N z0 k lap z = some (mk r b)
  | 0, lap, z, _, ⟨m, r, h1, h2, _⟩ => absurd h1 (by omega)
  | k + 1, lap, z, hz, ⟨m, r, h1, h2, h3⟩ => by
    have hf : f z = itr f (lap + 1) z0 := by rw [itr_succ, ← hz]
    by_cases hd : (f z - z0) % N = 0
    · refine ⟨lap + 1, (f z - z0) / N, Nat.succ_pos _, by omega, ?_, ?_⟩
      · rw [← hf, Int.ediv_mul_cancel (Int.dvd_of_emod_eq_zero hd)]
        omega
      · show (if (f z - z0) % N = 0 then _ else _) = _
        rw [if_pos hd]
        rfl
    · have hm : m ≠ lap + 1 := fun e => hd (by
        rw [hf, ← e, h3, show z0 + r * N - z0 = r * N by omega, Int.mul_emod_left])
      obtain ⟨b, r', b1, b2, b3, b4⟩ := soon_some h k (lap + 1) (f z) hf ⟨m, r, by omega, by omega, h3⟩
      refine ⟨b, r', b1, by omega, b3, ?_⟩
      show (if (f z - z0) % N = 0 then _ else _) = _
      rw [if_neg hd]
      exact b4
theorem trn_ex {ws : List Int} (h : isWh ws = true) : ∃ (b : Nat) (x r : Int), 0 < b ∧ b ≤ ws.length ∧ itr (led ws) b x = x + r * ws.length ∧ trn ws = mk r b ∧ soon (led ws) ws.length (itr (led ws) ws.length 0) ws.length 0 (itr (led ws) ws.length 0) = some (trn ws) := by
  have hm := led_mono h
  obtain ⟨m, r, m1, m2, m3⟩ := recur hm 0
  rw [Int.toNat_natCast] at m2 m3
  obtain ⟨b, r', b1, b2, b3, b4⟩ := soon_some hm (z0 := itr (led ws) ws.length 0) ws.length 0 (itr (led ws) ws.length 0) rfl ⟨m, r, m1, by omega, m3⟩
  have e : trn ws = mk r' b := by
    unfold trn
    rw [b4]
    rfl
  exact ⟨b, _, r', b1, by omega, b3, e, by rw [e]; exact b4⟩
theorem trn_of {ws : List Int} (h : isWh ws = true) {b : Nat} {x r : Int} (hb : 0 < b) (e : itr (led ws) b x = x + r * ws.length) : trn ws = mk r b := by
  obtain ⟨b', x', r', b1, _, e', e2, _⟩ := trn_ex h
  rw [e2]
  exact mk_congr (by omega) (by omega) ((led_mono h).same b1 hb e' e)
theorem trn_ok {ws : List Int} (h : isWh ws = true) : 0 < (trn ws).2 ∧ (trn ws).2 ≤ ws.length ∧ Nat.gcd (trn ws).1.natAbs (trn ws).2.natAbs = 1 := by
  obtain ⟨b, x, r, b1, b2, _, e, _⟩ := trn_ex h
  rw [e]
  refine ⟨mk_pos (by omega), ?_, mk_gcd (by omega)⟩
  have := mk_le (a := r) (b := (b : Int)) (by omega)
  omega
/-- a wheel that leads at least so far turns at least so much -/
theorem Mono.cmpGe {g : Int → Int} {R : Int} (hg : Mono g R) {b d : Nat} {x y r s : Int} (e1 : x + r * R ≤ M.itr g b x) (e2 : M.itr g d y = y + s * R) : r * d ≤ s * b := by
  have hR := hg.pos
  have a1 : ∀ k : Nat, x + (k : Int) * r * R ≤ M.itr g (b * k) x := by
    intro k
    induction k with
    | zero => simp [M.itr]
    | succ k ih =>
      rw [Nat.mul_succ, itr_add]
      have q := (hg.itr b).mono _ _ ih
      rw [(hg.itr b).perz] at q
      rw [Int.natCast_succ, Int.add_mul, Int.one_mul, Int.add_mul]
      omega
  have a1 := a1 d
  have a2 := hg.many e2 b
  rw [Nat.mul_comm d b] at a2
  have hk : ∃ k : Int, x ≤ y + k * R ∧ y + k * R < x + R := by
    refine ⟨-((y - x) / R), ?_⟩
    have h1 := Int.mul_ediv_add_emod (y - x) R
    have h2 := Int.emod_nonneg (y - x) (Int.ne_of_gt hR)
    have h3 := Int.emod_lt_of_pos (y - x) hR
    rw [Int.neg_mul, Int.mul_comm ((y - x) / R) R]
    constructor <;> omega
  obtain ⟨k, k1, k2⟩ := hk
  have m1 := (hg.itr (b * d)).mono _ _ k1
  rw [(hg.itr (b * d)).perz, a2] at m1
  have m2 : ((d : Int) * r) * R < ((b : Int) * s + 1) * R := by
    rw [Int.add_mul, Int.one_mul]; omega
  have m3 := Int.lt_of_mul_lt_mul_right m2 (Int.le_of_lt hR)
  rw [Int.mul_comm r, Int.mul_comm s]
  omega

/-! ### what is left if those to which no place leads go -/
def gitr (g : Nat → Nat) : Nat → Nat → Nat
  | 0, p => p
  | n + 1, p => gitr g n (g p)
theorem gitr_add (g : Nat → Nat) : ∀ (m n p : Nat), gitr g (m + n) p = gitr g n (gitr g m p)
  | 0, n, p => by rw [Nat.zero_add]; rfl
  | m + 1, n, p => by rw [Nat.succ_add]; exact gitr_add g m n (g p)
def Per (g : Nat → Nat) (p : Nat) : Prop := ∃ b, 0 < b ∧ gitr g b p = p
def cnt (N : Nat) (t : Nat → Bool) : Nat := (List.range N).countP t
theorem cnt_succ (N : Nat) (t : Nat → Bool) : cnt (N + 1) t = cnt N t + if t N then 1 else 0 := by
  unfold cnt
  rw [List.range_succ, List.countP_append, List.countP_singleton]
theorem cnt_congr : ∀ {N : Nat} {t u : Nat → Bool}, (∀ q, q < N → t q = u q) → cnt N t = cnt N u
  | 0, _, _, _ => rfl
  | N + 1, t, u, h => by rw [cnt_succ, cnt_succ, cnt_congr (N := N) fun q hq => h q (by omega), h N (by omega)]
theorem cnt_drop : ∀ {N : Nat} {t u : Nat → Bool} {p : Nat}, p < N → t p = true → u p = false → (∀ q, q < N → q ≠ p → u q = t q) → cnt N t = cnt N u + 1
  | 0, _, _, _, h, _, _, _ => absurd h (Nat.not_lt_zero _)
  | N + 1, t, u, p, hp, h1, h2, h3 => by
    rw [cnt_succ, cnt_succ]
    by_cases e : p = N
    · subst e
      rw [h1, h2, cnt_congr (t := t) (u := u) fun q hq => (h3 q (by omega) (by omega)).symm]
      simp
    · rw [cnt_drop (N := N) (t := t) (u := u) (p := p) (by omega) h1 h2 fun q hq ne => h3 q (by omega) ne, h3 N (by omega) (fun z => e z.symm)]
      omega
theorem cnt_pos : ∀ {N : Nat} {t : Nat → Bool}, 0 < cnt N t → ∃ q, q < N ∧ t q = true
  | 0, _, h => absurd h (Nat.not_lt_zero _)
  | N + 1, t, h => by
    rw [cnt_succ] at h
    by_cases e : t N = true
    · exact ⟨N, by omega, e⟩
    · rw [if_neg e] at h
      obtain ⟨q, h1, h2⟩ := cnt_pos (N := N) (t := t) h
      exact ⟨q, by omega, h2⟩
theorem cnt_ge : ∀ {N : Nat} {t : Nat → Bool} {p : Nat}, p < N → t p = true → 0 < cnt N t
  | 0, _, _, h, _ => absurd h (Nat.not_lt_zero _)
  | N + 1, t, p, h, e => by
    rw [cnt_succ]
    by_cases q : p = N
    · subst q; rw [e]; simp
    · have := cnt_ge (N := N) (t := t) (p := p) (by omega) e
      omega
structure Peel (N : Nat) (g : Nat → Nat) (many : Nat → Int) (left : List Nat) (rm : Nat → Bool) : Prop where
  cnt : ∀ p, p < N → many p = (cnt N fun q => !rm q && g q == p : Nat)
  lft : ∀ p, p ∈ left → p < N ∧ many p = 0 ∧ rm p = false
  nd : left.Nodup
  all : ∀ p, p < N → many p = 0 → rm p = true ∨ p ∈ left
  np : ∀ p, p < N → rm p = true ∨ p ∈ left → ¬ Per g p
  out : ∀ p, p < N → rm p = true → many p = 0
theorem per_pred {N : Nat} {g : Nat → Nat} (hg : ∀ q, q < N → g q < N) {p : Nat} (hp : p < N) (h : Per g p) : ∃ q, q < N ∧ g q = p ∧ Per g q := by
  obtain ⟨b, hb, e⟩ := h
  have lt : ∀ n x, x < N → gitr g n x < N := by
    intro n
    induction n with
    | zero => intro x h; exact h
    | succ n ih => intro x h; exact ih _ (hg x h)
  have e1 : gitr g ((b - 1) + 1) p = p := by rw [show b - 1 + 1 = b by omega]; exact e
  rw [gitr_add] at e1
  refine ⟨gitr g (b - 1) p, lt _ _ hp, e1, b, hb, ?_⟩
  rw [← gitr_add, Nat.add_comm, gitr_add, e]
theorem peel_start {N : Nat} {g : Nat → Nat} (hg : ∀ q, q < N → g q < N) {many : Nat → Int} (h : ∀ p, p < N → many p = (cnt N fun q => g q == p : Nat)) : Peel N g many ((List.range N).filter fun p => many p == 0) fun _ => false := by
  have hm : ∀ p, p ∈ ((List.range N).filter fun p => many p == 0) ↔ p < N ∧ many p = 0 := fun p => by
    rw [List.mem_filter, List.mem_range, beq_iff_eq]
  refine ⟨fun p hp => by rw [h p hp]; simp, fun p hp => ⟨((hm p).mp hp).1, ((hm p).mp hp).2, rfl⟩, List.Pairwise.filter _ List.nodup_range, fun p hp e => .inr ((hm p).mpr ⟨hp, e⟩), fun p hp e hper => ?_, fun p hp e => nomatch e⟩
  rcases e with e | e
  · cases e
  · obtain ⟨q, q1, q2, _⟩ := per_pred hg hp hper
    have := cnt_ge (N := N) (t := fun q => g q == p) q1 (by simp [q2])
    have e2 := ((hm p).mp e).2
    rw [h p hp] at e2
    omega
theorem peel_step {N : Nat} {g : Nat → Nat} (hg : ∀ q, q < N → g q < N) {many many' : Nat → Int} {left : List Nat} {rm : Nat → Bool} {p : Nat} (h : Peel N g many (left ++ [p]) rm)
    (hm : many' (g p) = many (g p) - 1) (ho : ∀ q, q ≠ g p → many' q = many q) :
    1 ≤ many (g p) ∧ Peel N g many' (if many' (g p) = 0 then left ++ [g p] else left) (fun q => rm q || q == p) ∧ cnt N (fun q => !(rm q || q == p)) < cnt N fun q => !rm q := by
  have hp : p ∈ left ++ [p] := List.mem_append_right _ (List.mem_singleton.mpr rfl)
  obtain ⟨pN, p0, prm⟩ := h.lft p hp
  have npp : ¬ Per g p := h.np p pN (.inr hp)
  have gN := hg p pN
  have nd' := h.nd
  rw [List.nodup_append] at nd'
  obtain ⟨nd1, _, nd3⟩ := nd'
  have nleft : p ∉ left := fun z => nd3 p z p (List.mem_singleton.mpr rfl) rfl
  have c1 : ∀ x, x < N → x ≠ g p → (cnt N fun q => !(rm q || q == p) && g q == x) = cnt N fun q => !rm q && g q == x := fun x _ ne => cnt_congr fun q _ => by
    by_cases e : q = p
    · subst e
      have : (g q == x) = false := beq_eq_false_iff_ne.mpr (fun z => ne z.symm)
      rw [this, Bool.and_false, Bool.and_false]
    · rw [beq_eq_false_iff_ne.mpr e, Bool.or_false]
  have c2 : (cnt N fun q => !rm q && g q == g p) = (cnt N fun q => !(rm q || q == p) && g q == g p) + 1 :=
    cnt_drop pN (by rw [prm]; simp) (by simp) fun q _ ne => by rw [beq_eq_false_iff_ne.mpr ne, Bool.or_false]
  have hcnt : ∀ x, x < N → many' x = (cnt N fun q => !(rm q || q == p) && g q == x : Nat) := fun x hx => by
    by_cases e : x = g p
    · rw [e, hm, h.cnt _ gN, c2]; omega
    · rw [ho x e, h.cnt x hx, c1 x hx e]
  have hge : 1 ≤ many (g p) := by rw [h.cnt _ gN, c2]; omega
  -- a place that comes back is not let go
  have keep : many' (g p) = 0 → ¬ Per g (g p) := fun e0 hper => by
    obtain ⟨q, q1, q2, q3⟩ := per_pred hg gN hper
    have qp : q ≠ p := fun z => npp (z ▸ q3)
    have qr : rm q = false := by
      cases z : rm q with
      | false => rfl
      | true => exact absurd q3 (h.np q q1 (.inl z))
    have := cnt_ge (N := N) (t := fun q => !(rm q || q == p) && g q == g p) q1 (by simp [q2, qr, qp])
    have := hcnt _ gN
    omega
  have mem' : ∀ x, x ∈ (if many' (g p) = 0 then left ++ [g p] else left) → x ∈ left ∨ (x = g p ∧ many' (g p) = 0) := fun x hx => by
    by_cases e : many' (g p) = 0
    · rw [if_pos e] at hx
      rcases List.mem_append.mp hx with z | z
      · exact .inl z
      · exact .inr ⟨List.mem_singleton.mp z, e⟩
    · rw [if_neg e] at hx
      exact .inl hx
  have left_ne : ∀ x, x ∈ left → x ≠ g p := fun x hx e => by
    have := (h.lft x (List.mem_append_left _ hx)).2.1
    rw [e] at this
    omega
  have gp_rm : rm (g p) = false := by
    cases z : rm (g p) with
    | false => rfl
    | true => have := h.out _ gN z; omega
  have p_ne : p ≠ g p := fun z => by rw [← z] at hge; omega
  refine ⟨hge, ⟨hcnt, fun x hx => ?_, ?_, fun x hx e => ?_, fun x hx e => ?_, fun x hx e => ?_⟩, ?_⟩
  · rcases mem' x hx with z | ⟨z, e0⟩
    · obtain ⟨l1, l2, l3⟩ := h.lft x (List.mem_append_left _ z)
      refine ⟨l1, by rw [ho x (left_ne x z)]; exact l2, ?_⟩
      have : x ≠ p := fun q => nleft (q ▸ z)
      rw [l3, beq_eq_false_iff_ne.mpr this]
      rfl
    · rw [z]
      refine ⟨gN, e0, ?_⟩
      rw [gp_rm, beq_eq_false_iff_ne.mpr (Ne.symm p_ne)]
      rfl
  · by_cases e : many' (g p) = 0
    · rw [if_pos e, List.nodup_append]
      exact ⟨nd1, by simp, fun a ha b hb => by rw [List.mem_singleton.mp hb]; exact left_ne a ha⟩
    · rw [if_neg e]; exact nd1
  · by_cases q : x = g p
    · right
      rw [← q, if_pos e]
      exact List.mem_append_right _ (List.mem_singleton.mpr rfl)
    · rw [ho x q] at e
      rcases h.all x hx e with z | z
      · left
        show (rm x || x == p) = true
        rw [z]; rfl
      · rcases List.mem_append.mp z with z | z
        · right
          by_cases e0 : many' (g p) = 0
          · rw [if_pos e0]; exact List.mem_append_left _ z
          · rw [if_neg e0]; exact z
        · left
          show (rm x || x == p) = true
          rw [List.mem_singleton.mp z]; simp
  · rcases e with e | e
    · have e : (rm x || x == p) = true := e
      rcases Bool.or_eq_true_iff.mp e with z | z
      · exact h.np x hx (.inl z)
      · rw [eq_of_beq z]; exact npp
    · rcases mem' x e with z | ⟨z, e0⟩
      · exact h.np x hx (.inr (List.mem_append_left _ z))
      · rw [z]; exact keep e0
  · have e : (rm x || x == p) = true := e
    have hx0 : many x = 0 := by
      rcases Bool.or_eq_true_iff.mp e with z | z
      · exact h.out x hx z
      · rw [eq_of_beq z]; exact p0
    rw [ho x (fun z => by rw [z] at hx0; omega)]
    exact hx0
  · have := cnt_drop (N := N) (t := fun q => !rm q) (u := fun q => !(rm q || q == p)) pN (by simp [prm]) (by simp) fun q _ ne => by rw [beq_eq_false_iff_ne.mpr ne, Bool.or_false]
    omega
theorem peel_end {N : Nat} {g : Nat → Nat} (hg : ∀ q, q < N → g q < N) {many : Nat → Int} {rm : Nat → Bool} (h : Peel N g many [] rm) {p : Nat} (hp : p < N) : 0 < many p ↔ Per g p := by
  have none_ : ∀ q, q ∉ ([] : List Nat) := fun q z => by cases z
  constructor
  · intro hpos
    -- each place left has one left that leads to it
    have back : ∀ x, x < N ∧ 0 < many x → ∃ y, (y < N ∧ 0 < many y) ∧ g y = x := fun x ⟨hx, hx0⟩ => by
      rw [h.cnt x hx] at hx0
      obtain ⟨y, y1, y2⟩ := cnt_pos (show 0 < cnt N fun q => !rm q && g q == x by omega)
      have y2 : (!rm y && g y == x) = true := y2
      obtain ⟨y3, y4⟩ := Bool.and_eq_true_iff.mp y2
      refine ⟨y, ⟨y1, ?_⟩, eq_of_beq y4⟩
      have n0 : many y ≠ 0 := fun z => by
        rcases h.all y y1 z with q | q
        · rw [q] at y3; cases y3
        · exact none_ _ q
      have := h.cnt y y1
      omega
    obtain ⟨pr, hpr⟩ : ∃ pr : Nat → Nat, ∀ x, x < N ∧ 0 < many x → (pr x < N ∧ 0 < many (pr x)) ∧ g (pr x) = x := by
      refine ⟨fun x => if q : x < N ∧ 0 < many x then Classical.choose (back x q) else 0, fun x q => ?_⟩
      have e : (if q : x < N ∧ 0 < many x then Classical.choose (back x q) else 0) = Classical.choose (back x q) := dif_pos q
      dsimp only
      rw [e]
      exact Classical.choose_spec (back x q)
    have chain : ∀ n, (gitr pr n p < N ∧ 0 < many (gitr pr n p)) ∧ gitr g n (gitr pr n p) = p := by
      intro n
      induction n with
      | zero => exact ⟨⟨hp, hpos⟩, rfl⟩
      | succ n ih =>
        have e : gitr pr (n + 1) p = pr (gitr pr n p) := gitr_add pr n 1 p
        obtain ⟨q1, q2⟩ := hpr _ ih.1
        rw [e]
        refine ⟨q1, ?_⟩
        show gitr g n (g (pr (gitr pr n p))) = p
        rw [q2]
        exact ih.2
    obtain ⟨i, j, hij, _, e⟩ := pigeon N (fun n => gitr pr n p) fun n _ => (chain n).1.1
    have e : gitr pr i p = gitr pr j p := e
    -- the place met twice comes back, and so does p, to which it leads
    have down : ∀ n x, x < N ∧ 0 < many x → gitr g n (gitr pr n x) = x := by
      intro n
      induction n with
      | zero => intro x _; rfl
      | succ n ih =>
        intro x hx
        obtain ⟨q1, q2⟩ := hpr x hx
        have e1 : gitr pr (n + 1) x = gitr pr n (pr x) := rfl
        have e2 : gitr g (n + 1) (gitr pr n (pr x)) = g (gitr g n (gitr pr n (pr x))) := gitr_add g n 1 _
        rw [e1, e2, ih _ q1, q2]
    have per_i : gitr g (j - i) (gitr pr i p) = gitr pr i p := by
      have e1 : gitr pr j p = gitr pr (j - i) (gitr pr i p) := by rw [← gitr_add, show i + (j - i) = j by omega]
      have e2 := down (j - i) _ (chain i).1
      rw [← e1, ← e] at e2
      exact e2
    refine ⟨j - i, by omega, ?_⟩
    have c := (chain i).2
    have e3 : gitr g (j - i) (gitr g i (gitr pr i p)) = gitr g i (gitr g (j - i) (gitr pr i p)) := by rw [← gitr_add, ← gitr_add, Nat.add_comm]
    rw [per_i, c] at e3
    exact e3
  · intro hper
    have : rm p ≠ true := fun z => h.np p hp (.inl z) hper
    have n0 : many p ≠ 0 := fun z => by
      rcases h.all p hp z with q | q
      · exact this q
      · exact none_ _ q
    have := h.cnt p hp
    omega
theorem per_ex {N : Nat} {g : Nat → Nat} (hN : 0 < N) (hg : ∀ q, q < N → g q < N) : ∃ p, p < N ∧ Per g p := by
  have lt : ∀ n x, x < N → gitr g n x < N := by
    intro n
    induction n with
    | zero => intro x h; exact h
    | succ n ih => intro x h; exact ih _ (hg x h)
  obtain ⟨i, j, hij, _, e⟩ := pigeon N (fun n => gitr g n 0) fun n _ => lt n 0 hN
  have e : gitr g i 0 = gitr g j 0 := e
  refine ⟨gitr g i 0, lt _ _ hN, j - i, by omega, ?_⟩
  rw [← gitr_add, show i + (j - i) = j by omega, e]
/-! the places of a wheel -/
def gl (ws : List Int) (p : Nat) : Nat := (ws.getD p 0 % (ws.length : Int)).toNat
theorem gl_lt {ws : List Int} (hn : 0 < ws.length) (p : Nat) : gl ws p < ws.length := by
  unfold gl
  have := Int.emod_lt_of_pos (ws.getD p 0) (show (0 : Int) < ws.length by omega)
  have := Int.emod_nonneg (ws.getD p 0) (show (ws.length : Int) ≠ 0 by omega)
  omega
theorem led_place {ws : List Int} {p : Nat} (hp : p < ws.length) : led ws p = ws.getD p 0 := by
  unfold led
  rw [Int.emod_eq_of_lt (by omega) (by omega), Int.ediv_eq_zero_of_lt (by omega) (by omega)]
  simp
theorem gitr_led {ws : List Int} (h : isWh ws = true) : ∀ (n p : Nat), p < ws.length → ((gitr (gl ws) n p : Nat) : Int) = itr (led ws) n p % (ws.length : Int)
  | 0, p, hp => by
    show (p : Int) = (p : Int) % (ws.length : Int)
    rw [Int.emod_eq_of_lt (by omega) (by omega)]
  | n + 1, p, hp => by
    have hn := isWh_pos h
    show ((gitr (gl ws) n (gl ws p) : Nat) : Int) = itr (led ws) n (led ws p) % _
    rw [gitr_led h n _ (gl_lt hn p), led_place hp]
    have e : ((gl ws p : Nat) : Int) = ws.getD p 0 % (ws.length : Int) := by
      unfold gl
      have := Int.emod_nonneg (ws.getD p 0) (show (ws.length : Int) ≠ 0 by omega)
      omega
    rw [e, itr_mod (led_mono h)]
/-- an own place -/
def Own (ws : List Int) (p : Nat) : Prop := p < ws.length ∧ ∃ (b : Nat) (r : Int), 0 < b ∧ itr (led ws) b p = (p : Int) + r * ws.length
theorem own_of_per {ws : List Int} (h : isWh ws = true) {p : Nat} (hp : p < ws.length) (hper : Per (gl ws) p) : Own ws p := by
  obtain ⟨b, hb, e⟩ := hper
  have q := gitr_led h b p hp
  rw [e] at q
  obtain ⟨r, hr⟩ := mod_eq_add (a := (p : Int)) (b := itr (led ws) b p) (N := ws.length) (by rw [← q]; exact Int.emod_eq_of_lt (by omega) (by omega))
  exact ⟨hp, b, r, hb, hr⟩
end M
set_option linter.unusedVariables false
namespace M

/-! ### places told on -/
def ahd (ps : List Int) (ring z : Int) (strict : Bool) : Int := z / ring * (ps.length : Int) + ((ps.filter fun o => decide (o < z % ring) || (o == z % ring && !strict)).length : Int) - 1
def tld (ps : List Int) (ring i : Int) : Int := ps.getD (i % (ps.length : Int)).toNat 0 + i / (ps.length : Int) * ring
def grt (ps : List Int) (m ring : Int) : List Int := (List.range ring.toNat).map fun (z : Nat) => tld ps ring (ahd ps ring z true + 1 + m)
def srt (xs : List Int) : List Int := xs.mergeSort fun a b => decide (a ≤ b)
theorem srt_perm (xs : List Int) : (srt xs).Perm xs := List.mergeSort_perm _ _
theorem srt_sorted (xs : List Int) : (srt xs).Pairwise (· ≤ ·) := by
  have h := List.pairwise_mergeSort (le := fun a b : Int => decide (a ≤ b)) (fun a b c h1 h2 => by simp only [decide_eq_true_eq] at *; omega) (fun a b => by simp only [Bool.or_eq_true, decide_eq_true_eq]; omega) xs
  exact h.imp fun h => by simpa using h

theorem below_sorted : ∀ {ps : List Int} {j : Nat} {a : Int}, ps.Pairwise (· < ·) → ps[j]? = some a → (ps.filter fun o => decide (o < a)).length = j ∧ (ps.filter fun o => decide (o ≤ a)).length = j + 1
  | [], _, _, _, h => by simp at h
  | x :: r, 0, a, hp, h => by
    have e : a = x := by simpa using h.symm
    subst e
    have hr := (List.pairwise_cons.mp hp).1
    have f1 : r.filter (fun o => decide (o < a)) = [] := List.filter_eq_nil_iff.mpr fun y hy => by have := hr y hy; simp; omega
    have f2 : r.filter (fun o => decide (o ≤ a)) = [] := List.filter_eq_nil_iff.mpr fun y hy => by have := hr y hy; simp; omega
    rw [List.filter_cons, List.filter_cons, f1, f2]
    simp
  | x :: r, j + 1, a, hp, h => by
    have ha : r[j]? = some a := by simpa using h
    have hx := (List.pairwise_cons.mp hp).1 a (List.mem_of_getElem? ha)
    obtain ⟨i1, i2⟩ := below_sorted (List.pairwise_cons.mp hp).2 ha
    rw [List.filter_cons, List.filter_cons, if_pos (by simp; omega), if_pos (by simp; omega), List.length_cons, List.length_cons, i1, i2]
    exact ⟨rfl, rfl⟩
theorem below_next : ∀ {ps : List Int} {m a : Int}, ps.Pairwise (· < ·) → ps[(ps.filter fun o => decide (o < m)).length]? = some a → m ≤ a
  | [], _, _, _, h => by simp at h
  | x :: r, m, a, hp, h => by
    rw [List.filter_cons] at h
    by_cases hx : x < m
    · rw [if_pos (by simpa using hx), List.length_cons] at h
      exact below_next (List.pairwise_cons.mp hp).2 (by simpa using h)
    · have hr := (List.pairwise_cons.mp hp).1
      have f1 : r.filter (fun o => decide (o < m)) = [] := List.filter_eq_nil_iff.mpr fun y hy => by have := hr y hy; simp; omega
      rw [if_neg (by simpa using hx), f1] at h
      have e : a = x := by simpa using h.symm
      omega

/-! sums -/
def sumR : Nat → (Nat → Int) → Int
  | 0, _ => 0
  | n + 1, F => sumR n F + F n
theorem sumR_congr : ∀ {n : Nat} {F G : Nat → Int}, (∀ b, b < n → F b = G b) → sumR n F = sumR n G
  | 0, _, _, _ => rfl
  | n + 1, F, G, h => by
    show sumR n F + F n = sumR n G + G n
    rw [sumR_congr (n := n) fun b hb => h b (by omega), h n (by omega)]
theorem sumR_add : ∀ (n : Nat) (F G : Nat → Int), sumR n (fun b => F b + G b) = sumR n F + sumR n G
  | 0, _, _ => rfl
  | n + 1, F, G => by
    show sumR n (fun b => F b + G b) + (F n + G n) = (sumR n F + F n) + (sumR n G + G n)
    rw [sumR_add n F G]; omega
theorem sumR_const : ∀ (n : Nat) (k : Int), sumR n (fun _ => k) = k * n
  | 0, k => by simp [sumR]
  | n + 1, k => by
    show sumR n (fun _ => k) + k = _
    rw [sumR_const n k, Int.natCast_succ, Int.mul_add, Int.mul_one]
theorem sumR_cnt : ∀ (n : Nat) (t : Nat → Bool), sumR n (fun b => if t b then 1 else 0) = (cnt n t : Int)
  | 0, _ => rfl
  | n + 1, t => by
    show sumR n _ + _ = _
    rw [sumR_cnt n t, cnt_succ]
    by_cases h : t n = true <;> simp [h]
theorem sumR_steps : ∀ (n b0 : Nat), b0 < n → sumR n (fun b => if b ≤ b0 then (0 : Int) else -1) = -((n : Int) - 1 - b0)
  | 0, _, h => absurd h (Nat.not_lt_zero _)
  | n + 1, b0, h => by
    show sumR n _ + (if n ≤ b0 then (0 : Int) else -1) = _
    by_cases e : n ≤ b0
    · have e' : b0 = n := by omega
      subst e'
      rw [if_pos e, sumR_congr (G := fun _ => 0) fun b hb => if_pos (by omega), sumR_const]
      omega
    · rw [if_neg e, sumR_steps n b0 (by omega)]
      omega

/-! ### ascending numbers told on, and the greatest wheel that leads them -/
structure Asc (Y : Int → Int) (q : Nat) (R : Int) : Prop where
  hq : 0 < q
  hR : 0 < R
  lt : ∀ i, Y i < Y (i + 1)
  per : ∀ i, Y (i + q) = Y i + R
section
variable {Y : Int → Int} {q : Nat} {R : Int}
theorem Asc.ltk (h : Asc Y q R) : ∀ (n : Nat) (i : Int), Y i < Y (i + (n + 1 : Nat))
  | 0, i => h.lt i
  | n + 1, i => by
    have a := h.ltk n i
    have b := h.lt (i + (n + 1 : Nat))
    have e : i + ((n + 1 : Nat) : Int) + 1 = i + ((n + 1 + 1 : Nat) : Int) := by omega
    rw [e] at b
    omega
theorem Asc.strict (h : Asc Y q R) {i j : Int} (l : i < j) : Y i < Y j := by
  have a := h.ltk (j - i - 1).toNat i
  have e : i + (((j - i - 1).toNat + 1 : Nat) : Int) = j := by omega
  rw [e] at a
  exact a
theorem Asc.le (h : Asc Y q R) {i j : Int} (l : i ≤ j) : Y i ≤ Y j := by
  rcases Int.lt_or_eq_of_le l with l | l
  · exact Int.le_of_lt (h.strict l)
  · rw [l]; exact Int.le_refl _
theorem Asc.inj (h : Asc Y q R) {i j : Int} (e : Y i = Y j) : i = j := by
  rcases Int.lt_trichotomy i j with l | l | l
  · have := h.strict l; omega
  · exact l
  · have := h.strict l; omega
theorem Asc.perk (h : Asc Y q R) : ∀ (k : Nat) (i : Int), Y (i + k * q) = Y i + k * R
  | 0, i => by simp
  | k + 1, i => by
    have e : i + ((k + 1 : Nat) : Int) * q = (i + k * q) + q := by rw [Int.natCast_succ, Int.add_mul, Int.one_mul, Int.add_assoc]
    rw [e, h.per, h.perk k i, Int.natCast_succ, Int.add_mul, Int.one_mul, Int.add_assoc]
theorem Asc.perz (h : Asc Y q R) (k i : Int) : Y (i + k * q) = Y i + k * R := by
  rcases Int.le_total 0 k with hk | hk
  · have e : k = (k.toNat : Int) := by omega
    rw [e]; exact h.perk _ _
  · have a := h.perk (-k).toNat (i + k * q)
    have e : ((-k).toNat : Int) = -k := by omega
    rw [e, Int.neg_mul, Int.neg_mul] at a
    have e2 : i + k * (q : Int) + -(k * (q : Int)) = i := by omega
    rw [e2] at a
    omega
/-- the places: the first q of them, within the ring, ascending -/
structure Plc (Y : Int → Int) (q : Nat) (R : Int) (ps : List Int) : Prop where
  asc : Asc Y q R
  srt : ps.Pairwise (· < ·)
  perm : ps.Perm ((List.range q).map fun (b : Nat) => Y b % R)
variable {ps : List Int}
theorem Plc.len (h : Plc Y q R ps) : ps.length = q := by rw [h.perm.length_eq, List.length_map, List.length_range]
theorem Plc.mem (h : Plc Y q R ps) {a : Int} : a ∈ ps ↔ ∃ b : Nat, b < q ∧ Y b % R = a := by
  rw [h.perm.mem_iff, List.mem_map]
  constructor
  · rintro ⟨b, h1, h2⟩; exact ⟨b, List.mem_range.mp h1, h2⟩
  · rintro ⟨b, h1, h2⟩; exact ⟨b, List.mem_range.mpr h1, h2⟩
theorem Plc.mk' (h : Asc Y q R) {ps : List Int} (hs : ps.Pairwise (· ≤ ·)) (hp : ps.Perm ((List.range q).map fun (b : Nat) => Y b % R)) : Plc Y q R ps := by
  refine ⟨h, ?_, hp⟩
  have nd : ((List.range q).map fun (b : Nat) => Y b % R).Nodup := by
    refine List.Pairwise.map _ (R := fun a b : Nat => a < b ∧ a < q ∧ b < q) (fun a b ⟨l, la, lb⟩ e => ?_) ?_
    · obtain ⟨r, hr⟩ := mod_eq_add e
      have l1 := h.strict (show (a : Int) < b by omega)
      have l2 := h.strict (show (b : Int) < (a : Int) + q by omega)
      rw [h.per] at l2
      have hR := h.hR
      have r0 : 0 < r := by
        rcases Int.lt_or_le 0 r with z | z
        · exact z
        · have := Int.mul_le_mul_of_nonneg_right z (Int.le_of_lt hR); omega
      have : 1 * R ≤ r * R := Int.mul_le_mul_of_nonneg_right (by omega) (Int.le_of_lt hR)
      omega
    · refine List.Pairwise.imp_of_mem (fun {a b} ha hb l => ⟨l, List.mem_range.mp ha, List.mem_range.mp hb⟩) List.pairwise_lt_range
  have nd2 : ps.Nodup := hp.nodup_iff.mpr nd
  exact (hs.and nd2).imp fun ⟨a, b⟩ => by omega
/-- the number of the last place at or ahead of z -/
theorem Plc.idx (h : Plc Y q R ps) (z : Int) : ahd ps R z false = sumR q (fun b => (z - Y b) / R) + (sumR q (fun b => Y b / R + 1) - 1) := by
  have hR := h.asc.hR
  have hc : (ps.filter fun o => decide (o < z % R) || (o == z % R && !false)).length = cnt q fun b => decide (Y b % R ≤ z % R) := by
    have e : (ps.filter fun o => decide (o < z % R) || (o == z % R && !false)) = ps.filter fun o => decide (o ≤ z % R) := by
      apply List.filter_congr
      intro o _
      rw [Bool.eq_iff_iff]
      simp only [Bool.not_false, Bool.and_true, Bool.or_eq_true, decide_eq_true_eq, beq_iff_eq]
      omega
    rw [e, (h.perm.filter _).length_eq, List.filter_map, List.length_map, ← List.countP_eq_length_filter]
    rfl
  unfold ahd
  rw [hc, h.len, ← sumR_cnt, ← sumR_const, ← sumR_add]
  have : ∀ b, b < q → (z / R + if decide (Y b % R ≤ z % R) = true then 1 else 0) = (z - Y b) / R + (Y b / R + 1) := fun b _ => by
    have z1 := Int.mul_ediv_add_emod z R
    have y1 := Int.mul_ediv_add_emod (Y b) R
    have z2 := Int.emod_nonneg z (Int.ne_of_gt hR)
    have z3 := Int.emod_lt_of_pos z hR
    have y2 := Int.emod_nonneg (Y b) (Int.ne_of_gt hR)
    have y3 := Int.emod_lt_of_pos (Y b) hR
    by_cases c : Y b % R ≤ z % R
    · rw [if_pos (by simpa using c)]
      have e : z - Y b = (z % R - Y b % R) + (z / R - Y b / R) * R := by
        rw [Int.sub_mul, Int.mul_comm (z / R), Int.mul_comm (Y b / R)]; omega
      have e0 : (z % R - Y b % R) / R = 0 := Int.ediv_eq_zero_of_lt (by omega) (by omega)
      rw [e, Int.add_mul_ediv_right _ _ (Int.ne_of_gt hR), e0]
      omega
    · rw [if_neg (by simpa using c)]
      have e : z - Y b = (z % R - Y b % R + R) + (z / R - Y b / R - 1) * R := by
        rw [Int.sub_mul, Int.sub_mul, Int.one_mul, Int.mul_comm (z / R), Int.mul_comm (Y b / R)]; omega
      have e0 : (z % R - Y b % R + R) / R = 0 := Int.ediv_eq_zero_of_lt (by omega) (by omega)
      rw [e, Int.add_mul_ediv_right _ _ (Int.ne_of_gt hR), e0]
      omega
  rw [sumR_congr this, sumR_add]
  omega
/-- how far the numbers of the places and those of Y lie apart -/
def gap (Y : Int → Int) (q : Nat) (R : Int) : Int := sumR q (fun b => Y b / R + 1) - 1 - ((q : Int) - 1)
theorem Plc.idxY (h : Plc Y q R ps) (i : Int) : ahd ps R (Y i) false = gap Y q R + i := by
  have hR := h.asc.hR
  have hq : (0 : Int) < q := by have := h.asc.hq; omega
  have i1 := Int.mul_ediv_add_emod i q
  have i2 := Int.emod_nonneg i (Int.ne_of_gt hq)
  have i3 := Int.emod_lt_of_pos i hq
  have ei : i = (i % q) + (i / q) * q := by rw [Int.mul_comm (i / q)]; omega
  have eY : Y i = Y (i % q) + (i / q) * R := by
    conv => lhs; rw [ei]
    exact h.asc.perz _ _
  rw [h.idx]
  have : ∀ b, b < q → (Y i - Y b) / R = i / q + (if b ≤ (i % q).toNat then (0 : Int) else -1) := fun b hb => by
    have e : Y i - Y b = (Y (i % q) - Y b) + (i / q) * R := by omega
    rw [e, Int.add_mul_ediv_right _ _ (Int.ne_of_gt hR)]
    by_cases c : b ≤ (i % q).toNat
    · rw [if_pos c]
      have l1 := h.asc.le (show (b : Int) ≤ i % q by omega)
      have l2 := h.asc.strict (show i % q < (b : Int) + q by omega)
      rw [h.asc.per] at l2
      have e0 : (Y (i % q) - Y b) / R = 0 := Int.ediv_eq_zero_of_lt (by omega) (by omega)
      rw [e0]
      omega
    · rw [if_neg c]
      have l1 := h.asc.strict (show i % q < (b : Int) by omega)
      have l2 := h.asc.strict (show (b : Int) < i % q + q by omega)
      rw [h.asc.per] at l2
      have e2 : Y (i % q) - Y b = (Y (i % q) - Y b + R) + (-1) * R := by omega
      have e0 : (Y (i % q) - Y b + R) / R = 0 := Int.ediv_eq_zero_of_lt (by omega) (by omega)
      rw [e2, Int.add_mul_ediv_right _ _ (Int.ne_of_gt hR), e0]
      omega
  rw [sumR_congr this, sumR_add, sumR_const, sumR_steps q _ (by omega)]
  unfold gap
  rw [Int.mul_comm (i / q)]
  omega
theorem Plc.at_ (h : Plc Y q R ps) {j : Nat} (hj : j < q) : ∃ a, ps[j]? = some a ∧ ps.getD j 0 = a ∧ 0 ≤ a ∧ a < R ∧ ∃ b : Nat, b < q ∧ Y b % R = a := by
  have hl : j < ps.length := by rw [h.len]; exact hj
  have e := getD_at hl
  obtain ⟨b, hb, hb2⟩ := h.mem.mp (List.mem_of_getElem? e)
  refine ⟨_, e, rfl, ?_, ?_, b, hb, hb2⟩
  · rw [← hb2]; exact Int.emod_nonneg _ (Int.ne_of_gt h.asc.hR)
  · rw [← hb2]; exact Int.emod_lt_of_pos _ h.asc.hR
/-- the t-th place told on is a number of Y -/
theorem Plc.tldY (h : Plc Y q R ps) (t : Int) : tld ps R t = Y (t - gap Y q R) := by
  have hR := h.asc.hR
  have hq : (0 : Int) < q := by have := h.asc.hq; omega
  have t2 := Int.emod_nonneg t (Int.ne_of_gt hq)
  have t3 := Int.emod_lt_of_pos t hq
  have t1 := Int.mul_ediv_add_emod t q
  obtain ⟨a, a1, a2, a3, a4, b, hb, hb2⟩ := h.at_ (j := (t % q).toNat) (by omega)
  have e1 : tld ps R t = a + t / q * R := by unfold tld; rw [h.len, a2]
  have y1 := Int.mul_ediv_add_emod (Y b) R
  have e2 : tld ps R t = Y ((b : Int) + (t / q - Y b / R) * q) := by
    rw [e1, h.asc.perz, Int.sub_mul, ← hb2, Int.mul_comm (Y b / R)]
    omega
  have e3 : ahd ps R (tld ps R t) false = t := by
    rw [e1]
    unfold ahd
    rw [Int.add_mul_ediv_right _ _ (Int.ne_of_gt hR), Int.ediv_eq_zero_of_lt a3 a4, Int.add_mul_emod_self_right, Int.emod_eq_of_lt a3 a4, h.len]
    have e : (ps.filter fun o => decide (o < a) || (o == a && !false)) = ps.filter fun o => decide (o ≤ a) := by
      apply List.filter_congr
      intro o _
      rw [Bool.eq_iff_iff]
      simp only [Bool.not_false, Bool.and_true, Bool.or_eq_true, decide_eq_true_eq, beq_iff_eq]
      omega
    rw [e, (below_sorted h.srt a1).2, Int.mul_comm, Int.zero_add]
    rw [Int.mul_comm] at t1
    rw [Int.mul_comm (q : Int)]
    omega
  have e4 := h.idxY ((b : Int) + (t / q - Y b / R) * q)
  rw [← e2, e3] at e4
  rw [e2]
  congr 1
  omega
/-- the number of the first place at or behind z -/
theorem Plc.nxt (h : Plc Y q R ps) (z : Int) : ahd ps R z true + 1 = z / R * q + ((ps.filter fun o => decide (o < z % R)).length : Int) := by
  unfold ahd
  rw [h.len]
  have e : (ps.filter fun o => decide (o < z % R) || (o == z % R && !true)) = ps.filter fun o => decide (o < z % R) := by
    apply List.filter_congr
    intro o _
    simp
  rw [e]
  omega
theorem Plc.nxt_le (h : Plc Y q R ps) {z w : Int} (l : z ≤ w) : ahd ps R z true ≤ ahd ps R w true := by
  have hR := h.asc.hR
  have a := h.nxt z
  have b := h.nxt w
  have c := List.length_filter_le (fun o => decide (o < z % R)) ps
  rw [h.len] at c
  rcases Int.lt_or_eq_of_le (Int.ediv_le_ediv hR l) with d | d
  · have : (z / R + 1) * q ≤ w / R * q := Int.mul_le_mul_of_nonneg_right (by omega) (by omega)
    rw [Int.add_mul, Int.one_mul] at this
    omega
  · have z1 := Int.mul_ediv_add_emod z R
    have w1 := Int.mul_ediv_add_emod w R
    rw [d] at z1 a
    have m : z % R ≤ w % R := by omega
    have : (ps.filter fun o => decide (o < z % R)).length ≤ (ps.filter fun o => decide (o < w % R)).length := by
      rw [← List.countP_eq_length_filter, ← List.countP_eq_length_filter]
      exact List.countP_mono_left fun o _ ho => by simp only [decide_eq_true_eq] at *; omega
    omega
theorem Plc.nxt_per (h : Plc Y q R ps) (z k : Int) : ahd ps R (z + k * R) true = ahd ps R z true + k * q := by
  have a := h.nxt z
  have b := h.nxt (z + k * R)
  rw [Int.add_mul_ediv_right _ _ (Int.ne_of_gt h.asc.hR), Int.add_mul_emod_self_right, Int.add_mul] at b
  omega
theorem Plc.nxt_ge (h : Plc Y q R ps) (z : Int) : z ≤ Y (ahd ps R z true + 1 - gap Y q R) := by
  have hR := h.asc.hR
  have hq : (0 : Int) < q := by have := h.asc.hq; omega
  rw [← h.tldY, h.nxt]
  have z1 := Int.mul_ediv_add_emod z R
  have z2 := Int.emod_nonneg z (Int.ne_of_gt hR)
  have z3 := Int.emod_lt_of_pos z hR
  have c := List.length_filter_le (fun o => decide (o < z % R)) ps
  rw [h.len] at c
  generalize hk : (ps.filter fun o => decide (o < z % R)).length = k at c
  unfold tld
  rw [h.len, Int.add_comm (z / R * q)]
  by_cases e : k < q
  · rw [Int.add_mul_emod_self_right, Int.add_mul_ediv_right _ _ (Int.ne_of_gt hq), Int.emod_eq_of_lt (by omega) (by omega), Int.ediv_eq_zero_of_lt (by omega) (by omega), Int.toNat_natCast]
    obtain ⟨a, a1, a2, _⟩ := h.at_ e
    have := below_next h.srt (m := z % R) (a := a) (by rw [hk]; exact a1)
    rw [a2, Int.zero_add, Int.mul_comm (z / R)]
    omega
  · have e' : k = q := by omega
    rw [e', Int.add_mul_emod_self_right, Int.add_mul_ediv_right _ _ (Int.ne_of_gt hq), Int.emod_self, Int.ediv_self (Int.ne_of_gt hq)]
    obtain ⟨a, a1, a2, a3, _⟩ := h.at_ h.asc.hq
    show z ≤ ps.getD 0 0 + (1 + z / R) * R
    rw [a2, Int.add_mul, Int.one_mul, Int.mul_comm (z / R)]
    omega
theorem Plc.nxtY (h : Plc Y q R ps) (i : Int) : ahd ps R (Y i) true + 1 = gap Y q R + i := by
  have a := h.nxt (Y i)
  have b := h.idxY i
  unfold ahd at b
  have hq : (0 : Int) < q := by have := h.asc.hq; omega
  have ei : i = (i % q) + (i / q) * q := by have := Int.mul_ediv_add_emod i q; rw [Int.mul_comm (i / q)]; omega
  have eY : Y i % R = Y ((i % q).toNat : Int) % R := by
    have i2 := Int.emod_nonneg i (Int.ne_of_gt hq)
    have e2 : (((i % q).toNat : Nat) : Int) = i % q := by omega
    rw [e2]
    conv => lhs; rw [ei, h.asc.perz]
    rw [Int.add_mul_emod_self_right]
  have i3 := Int.emod_lt_of_pos i hq
  have hm : Y i % R ∈ ps := h.mem.mpr ⟨(i % q).toNat, by omega, eY.symm⟩
  obtain ⟨j, hj⟩ := List.mem_iff_getElem?.mp hm
  obtain ⟨c1, c2⟩ := below_sorted h.srt hj
  have e : (ps.filter fun o => decide (o < Y i % R) || (o == Y i % R && !false)) = ps.filter fun o => decide (o ≤ Y i % R) := by
    apply List.filter_congr
    intro o _
    rw [Bool.eq_iff_iff]
    simp only [Bool.not_false, Bool.and_true, Bool.or_eq_true, decide_eq_true_eq, beq_iff_eq]
    omega
  rw [e, c2, h.len] at b
  rw [c1] at a
  omega
theorem tld_per {ps : List Int} {q : Nat} (hl : ps.length = q) (hq : 0 < q) (R t k : Int) : tld ps R (t + k * q) = tld ps R t + k * R := by
  unfold tld
  rw [hl, Int.add_mul_emod_self_right, Int.add_mul_ediv_right _ _ (by omega), Int.add_mul]
  omega
theorem grt_len (ps : List Int) (m ring : Int) : (grt ps m ring).length = ring.toNat := by unfold grt; rw [List.length_map, List.length_range]
theorem Plc.led (h : Plc Y q R ps) (m z : Int) : M.led (grt ps m R) z = Y (ahd ps R z true + 1 + m - gap Y q R) := by
  have hR := h.asc.hR
  have z1 := Int.mul_ediv_add_emod z R
  have z2 := Int.emod_nonneg z (Int.ne_of_gt hR)
  have z3 := Int.emod_lt_of_pos z hR
  unfold M.led
  rw [grt_len]
  have eR : ((R.toNat : Nat) : Int) = R := by omega
  rw [eR]
  have e : (grt ps m R).getD (z % R).toNat 0 = tld ps R (ahd ps R (z % R) true + 1 + m) := by
    unfold grt
    rw [List.getD_eq_getElem?_getD, List.getElem?_map, List.getElem?_range (by omega)]
    show tld ps R (ahd ps R (((z % R).toNat : Nat) : Int) true + 1 + m) = _
    rw [show (((z % R).toNat : Nat) : Int) = z % R by omega]
  rw [e, ← tld_per h.len h.asc.hq, h.tldY]
  congr 1
  have := h.nxt_per (z % R) (z / R)
  rw [show z % R + z / R * R = z by rw [Int.mul_comm (z / R)]; omega] at this
  omega
theorem adj_of : ∀ {ws : List Int}, (∀ i, i + 1 < ws.length → ws.getD i 0 ≤ ws.getD (i + 1) 0) → adj ws = true
  | [], _ => rfl
  | [_], _ => rfl
  | a :: b :: r, h => by
    show (decide (a ≤ b) && adj (b :: r)) = true
    have h0 := h 0 (by simp)
    have h0 : a ≤ b := h0
    rw [decide_eq_true h0, Bool.true_and]
    exact adj_of fun i hi => h (i + 1) (by simpa using hi)
theorem isWh_of {ws : List Int} (hn : 0 < ws.length) (h1 : ∀ i, i + 1 < ws.length → ws.getD i 0 ≤ ws.getD (i + 1) 0) (h2 : ws.getD (ws.length - 1) 0 ≤ ws.getD 0 0 + ws.length) : isWh ws = true := by
  have e1 : ws.headD 0 = ws.getD 0 0 := by cases ws <;> rfl
  have e2 : ws.getLastD 0 = ws.getD (ws.length - 1) 0 := by
    cases ws with
    | nil => rfl
    | cons a r => rw [List.getLastD_eq_getLast?, List.getLast?_eq_getElem?, List.getD_eq_getElem?_getD]
  have e3 : ws.isEmpty = false := by cases ws with
    | nil => cases hn
    | cons => rfl
  unfold isWh
  rw [adj_of h1, e1, e2, e3, decide_eq_true h2]
  rfl
theorem Plc.isWh (h : Plc Y q R ps) (m : Int) : M.isWh (grt ps m R) = true := by
  have hR := h.asc.hR
  have hl := grt_len ps m R
  have g : ∀ i, i < (grt ps m R).length → (grt ps m R).getD i 0 = Y (ahd ps R i true + 1 + m - gap Y q R) := fun i hi => by
    rw [← h.led m i, led_place hi]
  refine isWh_of (by omega) (fun i hi => ?_) ?_
  · rw [g _ (by omega), g _ hi]
    have := h.nxt_le (show (i : Int) ≤ ((i + 1 : Nat) : Int) by omega)
    exact h.asc.le (by omega)
  · rw [g _ (by omega), g _ (by omega), hl]
    have a := h.nxt_le (show (((R.toNat - 1 : Nat)) : Int) ≤ 0 + 1 * R by omega)
    rw [h.nxt_per 0 1] at a
    have b := h.asc.per (ahd ps R (0 : Nat) true + 1 + m - gap Y q R)
    have eR : ((R.toNat : Nat) : Int) = R := by omega
    rw [eR, ← b]
    refine h.asc.le ?_
    show ahd ps R ((R.toNat - 1 : Nat) : Int) true + 1 + m - gap Y q R ≤ ahd ps R ((0 : Nat) : Int) true + 1 + m - gap Y q R + q
    have c : ahd ps R ((0 : Nat) : Int) true = ahd ps R 0 true := rfl
    rw [c]
    omega
theorem Plc.itrY (h : Plc Y q R ps) (p : Int) : ∀ (n : Nat) (i : Int), itr (M.led (grt ps p R)) n (Y i) = Y (i + n * p)
  | 0, i => by simp [itr]
  | n + 1, i => by
    show itr _ n (M.led (grt ps p R) (Y i)) = _
    have e : M.led (grt ps p R) (Y i) = Y (i + p) := by
      rw [h.led, h.nxtY]
      congr 1
      omega
    rw [e, h.itrY p n, Int.natCast_succ, Int.add_mul, Int.one_mul]
    congr 1
    omega
theorem Plc.trn (h : Plc Y q R ps) {p : Int} (hc : Nat.gcd p.natAbs q = 1) : M.trn (grt ps p R) = (p, (q : Int)) := by
  have hR := h.asc.hR
  have e := h.itrY p q 0
  rw [Int.zero_add, show ((q : Int) * p) = 0 + p * q by rw [Int.zero_add, Int.mul_comm], h.asc.perz] at e
  have eR : (((grt ps p R).length : Nat) : Int) = R := by rw [grt_len]; omega
  rw [trn_of (h.isWh p) h.asc.hq (by rw [eR]; exact e)]
  exact mk_self (by have := h.asc.hq; omega) (by rw [Int.natAbs_natCast]; exact hc)
end
end M
set_option linter.unusedVariables false
namespace M

/-! ### the greatest of a list -/
def mxL : List Int → Int
  | [] => 0
  | [a] => a
  | a :: b :: r => max a (mxL (b :: r))
theorem mxL_mem : ∀ {xs : List Int}, xs ≠ [] → mxL xs ∈ xs
  | [], h => absurd rfl h
  | [a], _ => List.mem_singleton.mpr rfl
  | a :: b :: r, _ => by
    have ih := mxL_mem (xs := b :: r) (by simp)
    show max a (mxL (b :: r)) ∈ _
    rcases Int.le_total a (mxL (b :: r)) with l | l
    · rw [Int.max_eq_right l]; exact List.mem_cons_of_mem _ ih
    · rw [Int.max_eq_left l]; exact List.mem_cons_self
theorem mxL_ge : ∀ {xs : List Int} {x : Int}, x ∈ xs → x ≤ mxL xs
  | [a], x, h => by rw [List.mem_singleton.mp h]; exact Int.le_refl _
  | a :: b :: r, x, h => by
    show x ≤ max a (mxL (b :: r))
    rcases List.mem_cons.mp h with e | e
    · rw [e]; exact Int.le_max_left _ _
    · exact Int.le_trans (mxL_ge e) (Int.le_max_right _ _)
theorem cnt_zero {n : Nat} {u : Nat → Bool} (h : ∀ j, j < n → u j = false) : cnt n u = 0 := by
  cases e : cnt n u with
  | zero => rfl
  | succ m =>
    obtain ⟨q, h1, h2⟩ := cnt_pos (N := n) (t := u) (by omega)
    rw [h q h1] at h2
    cases h2
theorem cnt_shift : ∀ (m : Nat) (u : Nat → Bool), cnt (m + 1) u = (if u 0 then 1 else 0) + cnt m fun t => u (t + 1)
  | 0, u => by rw [cnt_succ]; show 0 + _ = _ + 0; omega
  | m + 1, u => by rw [cnt_succ, cnt_shift m u, cnt_succ m fun t => u (t + 1)]; omega
theorem cnt_app : ∀ (a b : Nat) (u : Nat → Bool), cnt (a + b) u = cnt a u + cnt b fun s => u (a + s)
  | a, 0, u => rfl
  | a, b + 1, u => by rw [← Nat.add_assoc, cnt_succ, cnt_app a b u, cnt_succ]; omega
theorem cnt_rev : ∀ (n : Nat) (u : Nat → Bool), cnt n u = cnt n fun t => u (n - 1 - t)
  | 0, _ => rfl
  | n + 1, u => by
    rw [cnt_succ, cnt_rev n u, cnt_shift]
    have e : (cnt n fun t => u (n + 1 - 1 - (t + 1))) = cnt n fun t => u (n - 1 - t) := cnt_congr fun q hq => by
      rw [show n + 1 - 1 - (q + 1) = n - 1 - q by omega]
    rw [e]
    show _ = (if u (n + 1 - 1 - 0) then 1 else 0) + _
    rw [show n + 1 - 1 - 0 = n by omega]
    omega

/-! ### a walk that gains no more, made even -/
def Xf (F : Nat → Int) (p : Int) (q : Nat) (N i : Int) : Int := mxL ((List.range q).map fun (n : Nat) => F n + (i - n * p) / q * N)
section
variable {F : Nat → Int} {p : Int} {q : Nat} {N : Int}
theorem Xf_at (hq : 0 < q) (i : Int) : ∃ n, n < q ∧ Xf F p q N i = F n + (i - n * p) / q * N := by
  have h := mxL_mem (xs := (List.range q).map fun (n : Nat) => F n + (i - n * p) / q * N) (by
    intro z
    have := congrArg List.length z
    rw [List.length_map, List.length_range] at this
    simp at this
    omega)
  obtain ⟨n, h1, h2⟩ := List.mem_map.mp h
  exact ⟨n, List.mem_range.mp h1, h2.symm⟩
theorem Xf_ge (i : Int) {n : Nat} (h : n < q) : F n + (i - n * p) / q * N ≤ Xf F p q N i := mxL_ge (List.mem_map.mpr ⟨n, List.mem_range.mpr h, rfl⟩)
theorem Xf_mono (hq : 0 < q) (hN : 0 < N) {i j : Int} (l : i ≤ j) : Xf F p q N i ≤ Xf F p q N j := by
  obtain ⟨n, h1, h2⟩ := Xf_at (F := F) (p := p) (N := N) hq i
  rw [h2]
  refine Int.le_trans ?_ (Xf_ge j h1)
  have : (i - n * p) / q ≤ (j - n * p) / q := Int.ediv_le_ediv (by omega) (by omega)
  have := Int.mul_le_mul_of_nonneg_right this (Int.le_of_lt hN)
  omega
theorem Xf_per (hq : 0 < q) (hN : 0 < N) (i : Int) : Xf F p q N (i + q) = Xf F p q N i + N := by
  have step : ∀ n : Nat, (i + q - n * p) / q * N = (i - n * p) / q * N + N := fun n => by
    have e : i + (q : Int) - n * p = (i - n * p) + 1 * q := by omega
    rw [e, Int.add_mul_ediv_right _ _ (by omega), Int.add_mul, Int.one_mul]
  apply Int.le_antisymm
  · obtain ⟨n, h1, h2⟩ := Xf_at (F := F) (p := p) (N := N) hq (i + q)
    rw [h2, step]
    have := Xf_ge (F := F) (p := p) (N := N) i h1
    omega
  · obtain ⟨n, h1, h2⟩ := Xf_at (F := F) (p := p) (N := N) hq i
    have := Xf_ge (F := F) (p := p) (N := N) (i + q) h1
    rw [step] at this
    omega
theorem Xf_led {f : Int → Int} (hf : Mono f N) (hq : 0 < q) (hF : ∀ n, n < q → F (n + 1) = f (F n)) (hp : F q ≤ F 0 + p * N) (i : Int) : f (Xf F p q N i) ≤ Xf F p q N (i + p) := by
  obtain ⟨n, h1, h2⟩ := Xf_at (F := F) (p := p) (N := N) hq i
  rw [h2, hf.perz, ← hF n h1]
  by_cases e : n + 1 < q
  · have := Xf_ge (F := F) (p := p) (N := N) (i + p) e
    have e2 : i + p - ((n + 1 : Nat) : Int) * p = i - n * p := by rw [Int.natCast_succ, Int.add_mul, Int.one_mul]; omega
    rw [e2] at this
    exact this
  · have e' : n + 1 = q := by omega
    have := Xf_ge (F := F) (p := p) (N := N) (i + p) hq
    rw [e']
    have e2 : (i + p - ((0 : Nat) : Int) * p) / q = (i - n * p) / q + p := by
      have e3 : i + p - ((0 : Nat) : Int) * p = (i - n * p) + p * q := by
        have : (q : Int) = n + 1 := by omega
        rw [this, Int.mul_add, Int.mul_one, Int.mul_comm p]
        simp
        omega
      rw [e3, Int.add_mul_ediv_right _ _ (by omega)]
    rw [e2, Int.add_mul] at this
    omega
/-- how many ahead lie at the same place -/
def cf (F : Nat → Int) (p : Int) (q : Nat) (N i : Int) : Nat := cnt (q - 1) fun (t : Nat) => Xf F p q N (i - ((t : Int) + 1)) == Xf F p q N i
def Yf (F : Nat → Int) (p : Int) (q : Nat) (N i : Int) : Int := Xf F p q N i * q + cf F p q N i
theorem cnt_le (n : Nat) (u : Nat → Bool) : cnt n u ≤ n := by
  unfold cnt
  have := List.countP_le_length (p := u) (l := List.range n)
  rwa [List.length_range] at this
theorem cf_succ (hq : 0 < q) (hN : 0 < N) {i : Int} (e : Xf F p q N (i + 1) = Xf F p q N i) : cf F p q N (i + 1) = cf F p q N i + 1 := by
  have hper := Xf_per (F := F) (p := p) hq hN (i + 1 - q)
  rw [show i + 1 - (q : Int) + q = i + 1 by omega] at hper
  unfold cf
  rw [e]
  cases hm : q - 1 with
  | zero =>
    have : (q : Int) = 1 := by omega
    rw [this, show i + 1 - 1 = i by omega] at hper
    omega
  | succ m =>
    rw [cnt_shift, cnt_succ]
    have e0 : (Xf F p q N (i + 1 - (((0 : Nat) : Int) + 1)) == Xf F p q N i) = true := by
      rw [show i + 1 - (((0 : Nat) : Int) + 1) = i by omega]
      simp
    have e1 : (Xf F p q N (i - (((m : Nat) : Int) + 1)) == Xf F p q N i) = false := by
      rw [show i - (((m : Nat) : Int) + 1) = i + 1 - q by omega]
      exact beq_eq_false_iff_ne.mpr (by omega)
    rw [e0, e1]
    have e2 : (cnt m fun (t : Nat) => Xf F p q N (i + 1 - (((t + 1 : Nat) : Int) + 1)) == Xf F p q N i) = cnt m fun (t : Nat) => Xf F p q N (i - ((t : Int) + 1)) == Xf F p q N i := cnt_congr fun t _ => by
      rw [show i + 1 - (((t + 1 : Nat) : Int) + 1) = i - ((t : Int) + 1) by omega]
    rw [e2]
    simp
    omega
theorem Yf_asc (hq : 0 < q) (hN : 0 < N) : Asc (Yf F p q N) q (N * q) := by
  refine ⟨hq, Int.mul_pos hN (by omega), fun i => ?_, fun i => ?_⟩
  · unfold Yf
    have l := Xf_mono (F := F) (p := p) hq hN (show i ≤ i + 1 by omega)
    have c := cnt_le (q - 1) fun (t : Nat) => Xf F p q N (i - ((t : Int) + 1)) == Xf F p q N i
    have c : cf F p q N i ≤ q - 1 := c
    rcases Int.lt_or_eq_of_le l with l | l
    · have : (Xf F p q N i + 1) * q ≤ Xf F p q N (i + 1) * q := Int.mul_le_mul_of_nonneg_right (by omega) (by omega)
      rw [Int.add_mul, Int.one_mul] at this
      omega
    · rw [← l, cf_succ hq hN l.symm]
      omega
  · unfold Yf
    rw [Xf_per hq hN, Int.add_mul]
    have : cf F p q N (i + q) = cf F p q N i := by
      unfold cf
      refine cnt_congr fun t _ => ?_
      rw [show i + (q : Int) - ((t : Int) + 1) = (i - ((t : Int) + 1)) + q by omega, Xf_per hq hN, Xf_per hq hN, Bool.eq_iff_iff, beq_iff_eq, beq_iff_eq]
      omega
    rw [this]
    omega
theorem cf_code (hq : 0 < q) (hN : 0 < N) {i : Nat} (hi : i < q) : cf F p q N i = (cnt i fun (j : Nat) => Xf F p q N j == Xf F p q N i) + cnt q fun (j : Nat) => Xf F p q N j - N == Xf F p q N i := by
  unfold cf
  have e1 : q - 1 = i + (q - 1 - i) := by omega
  rw [e1, cnt_app]
  have a : (cnt i fun (t : Nat) => Xf F p q N ((i : Int) - ((t : Int) + 1)) == Xf F p q N i) = cnt i fun (j : Nat) => Xf F p q N j == Xf F p q N i := by
    rw [cnt_rev i fun (j : Nat) => Xf F p q N j == Xf F p q N i]
    refine cnt_congr fun t ht => ?_
    rw [show ((i - 1 - t : Nat) : Int) = (i : Int) - ((t : Int) + 1) by omega]
  have b : (cnt q fun (j : Nat) => Xf F p q N j - N == Xf F p q N i) = cnt (q - 1 - i) fun (s : Nat) => Xf F p q N ((i : Int) - (((i + s : Nat) : Int) + 1)) == Xf F p q N i := by
    have e2 : q = (i + 1) + (q - 1 - i) := by omega
    have e3 : (cnt q fun (j : Nat) => Xf F p q N j - N == Xf F p q N i) = cnt ((i + 1) + (q - 1 - i)) fun (j : Nat) => Xf F p q N j - N == Xf F p q N i := by rw [← e2]
    rw [e3, cnt_app, cnt_zero (n := i + 1) fun j hj => beq_eq_false_iff_ne.mpr (by
      have := Xf_mono (F := F) (p := p) hq hN (show (j : Int) ≤ i by omega)
      omega), Nat.zero_add, cnt_rev]
    refine cnt_congr fun s hs => ?_
    have h := Xf_per (F := F) (p := p) hq hN ((i : Int) - (((i + s : Nat) : Int) + 1))
    rw [show (i : Int) - (((i + s : Nat) : Int) + 1) + q = ((i + 1 + (q - 1 - i - 1 - s) : Nat) : Int) by omega] at h
    rw [h, Bool.eq_iff_iff, beq_iff_eq, beq_iff_eq]
    omega
  rw [a, b]
end

/-! ### a wheel raised -/
def k0 (ws : List Int) (p : Int) (q : Nat) : Nat := ((List.range ws.length).find? fun (k : Nat) => decide (itr (led ws) q k ≤ (k : Int) + p * ws.length)).getD (ws.length - 1)
def rows (ws : List Int) (p : Int) (q : Nat) : List Int := (List.range (q + 1)).map fun n => itr (led ws) n (k0 ws p q)
def near (ws : List Int) (p : Int) (q : Nat) : List Int := (List.range q).map fun (i : Nat) => mxL ((List.range q).map fun (n : Nat) => (rows ws p q).getD n 0 + ((i : Int) - n * p) / q * ws.length)
def spots (ns : List Int) (q : Nat) (N : Int) : List Int := (List.range q).map fun (i : Nat) => ns.getD i 0 * q + (cnt i fun j => ns.getD j 0 == ns.getD i 0 : Nat) + (cnt q fun j => ns.getD j 0 - N == ns.getD i 0 : Nat)
def rsd (ws : List Int) (p : Int) (q : Nat) : List Int :=
  let sp := spots (near ws p q) q ws.length
  let fine := (ws.length : Int) * q
  let rd := srt (sp.map fun o => o % fine)
  grt rd (ahd rd fine (tld sp fine p) false - ahd rd fine (sp.getD 0 0) false) fine
theorem rsd_len (ws : List Int) (p : Int) (q : Nat) : (rsd ws p q).length = ws.length * q := by
  unfold rsd
  rw [grt_len, ← Int.natCast_mul, Int.toNat_natCast]
theorem rows_at (ws : List Int) (p : Int) (q : Nat) {n : Nat} (h : n ≤ q) : (rows ws p q).getD n 0 = itr (led ws) n (k0 ws p q) := by
  unfold rows
  rw [List.getD_eq_getElem?_getD, List.getElem?_map, List.getElem?_range (by omega)]
  rfl
theorem near_at (ws : List Int) (p : Int) (q : Nat) {i : Nat} (h : i < q) : (near ws p q).getD i 0 = Xf (fun n => (rows ws p q).getD n 0) p q ws.length i := by
  unfold near
  rw [List.getD_eq_getElem?_getD, List.getElem?_map, List.getElem?_range h]
  rfl
theorem spots_eq (ws : List Int) (p : Int) {q : Nat} (hq : 0 < q) (hn : 0 < ws.length) : spots (near ws p q) q ws.length = (List.range q).map fun (i : Nat) => Yf (fun n => (rows ws p q).getD n 0) p q ws.length i := by
  unfold spots
  apply List.map_congr_left
  intro i hi
  have hi := List.mem_range.mp hi
  rw [near_at ws p q hi]
  unfold Yf
  rw [cf_code hq (by omega) hi]
  have e1 : (cnt i fun j => (near ws p q).getD j 0 == Xf (fun n => (rows ws p q).getD n 0) p q ws.length i) = cnt i fun (j : Nat) => Xf (fun n => (rows ws p q).getD n 0) p q ws.length j == Xf (fun n => (rows ws p q).getD n 0) p q ws.length i :=
    cnt_congr fun j hj => by rw [near_at ws p q (by omega)]
  have e2 : (cnt q fun j => (near ws p q).getD j 0 - (ws.length : Int) == Xf (fun n => (rows ws p q).getD n 0) p q ws.length i) = cnt q fun (j : Nat) => Xf (fun n => (rows ws p q).getD n 0) p q ws.length j - (ws.length : Int) == Xf (fun n => (rows ws p q).getD n 0) p q ws.length i :=
    cnt_congr fun j hj => by rw [near_at ws p q hj]
  rw [e1, e2]
  omega
/-- some place gains no more -/
theorem k0_ok {ws : List Int} (h : isWh ws = true) {p : Int} {q : Nat} (hq : 0 < q) (hle : (trn ws).1 * q ≤ p * (trn ws).2) : itr (led ws) q (k0 ws p q) ≤ (k0 ws p q : Int) + p * ws.length := by
  have hm := led_mono h
  have hN : (0 : Int) < ws.length := hm.pos
  unfold k0
  cases e : (List.range ws.length).find? fun (k : Nat) => decide (itr (led ws) q k ≤ (k : Int) + p * ws.length) with
  | some k =>
    have := List.find?_some e
    exact of_decide_eq_true this
  | none =>
    exfalso
    have all := List.find?_eq_none.mp e
    -- so each number gains one more
    have gain : ∀ z : Int, z + p * ws.length + 1 ≤ itr (led ws) q z := fun z => by
      have z1 := Int.mul_ediv_add_emod z ws.length
      have z2 := Int.emod_nonneg z (Int.ne_of_gt hN)
      have z3 := Int.emod_lt_of_pos z hN
      have a := all (z % ws.length).toNat (List.mem_range.mpr (by omega))
      simp only [decide_eq_true_eq] at a
      rw [show (((z % ws.length).toNat : Nat) : Int) = z % ws.length by omega] at a
      have b := (hm.itr q).perz (z / ws.length) (z % ws.length)
      rw [show z % (ws.length : Int) + z / ws.length * ws.length = z by rw [Int.mul_comm (z / _)]; omega] at b
      rw [b, Int.mul_comm (z / _)]
      omega
    have gains : ∀ (n : Nat) (z : Int), z + n * (p * ws.length + 1) ≤ itr (led ws) (q * n) z := by
      intro n
      induction n with
      | zero => intro z; simp [itr]
      | succ n ih =>
        intro z
        rw [Nat.mul_succ, itr_add]
        have a := ih z
        have b := gain (itr (led ws) (q * n) z)
        rw [Int.natCast_succ, Int.add_mul, Int.one_mul]
        omega
    obtain ⟨b, x, r, b1, _, b3, b4, _⟩ := trn_ex h
    have c1 := hm.many b3 q
    have c2 := gains b x
    rw [Nat.mul_comm q b, c1] at c2
    -- r q ≤ p b
    have hb : (0 : Int) < b := by omega
    have d : r * q ≤ p * b := by
      rw [b4] at hle
      have g := gc_pos (a := r) hb
      have m1 := @mk_mul1 r (b : Int)
      have m2 := @mk_mul2 r (b : Int)
      have := Int.mul_le_mul_of_nonneg_right hle (Int.le_of_lt g)
      have e1 : (mk r b).1 * (q : Int) * gc r b = r * q := by rw [Int.mul_right_comm, m1]
      have e2 : p * (mk r b).2 * gc r b = p * b := by rw [Int.mul_assoc, m2]
      rw [e1, e2] at this
      exact this
    have d2 := Int.mul_le_mul_of_nonneg_right d (Int.le_of_lt hN)
    rw [Int.mul_add, Int.mul_one, ← Int.mul_assoc, Int.mul_comm (b : Int) p] at c2
    rw [Int.mul_comm (q : Int) r] at c2
    omega
/-- THE RAISED WHEEL: no less, and it turns just so -/
theorem rsd_ok {ws : List Int} (h : isWh ws = true) {p : Int} {q : Nat} (hq : 0 < q) (hc : Nat.gcd p.natAbs q = 1) (hle : (trn ws).1 * q ≤ p * (trn ws).2) :
    isWh (rsd ws p q) = true ∧ trn (rsd ws p q) = (p, (q : Int)) ∧ ∀ z : Nat, z < ws.length → (q : Int) * ws.getD z 0 ≤ led (rsd ws p q) ((q : Int) * z) := by
  have hn := isWh_pos h
  have hN : (0 : Int) < ws.length := by omega
  have hm := led_mono h
  generalize hF : (fun n => (rows ws p q).getD n 0) = F
  have asc := Yf_asc (F := F) (p := p) (N := ws.length) hq hN
  have hsp : spots (near ws p q) q ws.length = (List.range q).map fun (i : Nat) => Yf F p q ws.length i := by rw [← hF]; exact spots_eq ws p hq hn
  have plc : Plc (Yf F p q ws.length) q ((ws.length : Int) * q) (srt ((spots (near ws p q) q ws.length).map fun o => o % ((ws.length : Int) * q))) := by
    refine Plc.mk' asc (srt_sorted _) ((srt_perm _).trans ?_)
    rw [hsp, List.map_map]
    exact List.Perm.refl _
  have sp0 : (spots (near ws p q) q ws.length).getD 0 0 = Yf F p q ws.length 0 := by
    rw [hsp, List.getD_eq_getElem?_getD, List.getElem?_map, List.getElem?_range hq]
    rfl
  have spp : tld (spots (near ws p q) q ws.length) ((ws.length : Int) * q) p = Yf F p q ws.length p := by
    have p1 := Int.mul_ediv_add_emod p q
    have p2 := Int.emod_nonneg p (show (q : Int) ≠ 0 by omega)
    have p3 := Int.emod_lt_of_pos p (show (0 : Int) < q by omega)
    unfold tld
    have hl : (spots (near ws p q) q ws.length).length = q := by rw [hsp, List.length_map, List.length_range]
    rw [hl, hsp, List.getD_eq_getElem?_getD, List.getElem?_map, List.getElem?_range (by omega)]
    show Yf F p q ws.length (((p % q).toNat : Nat) : Int) + _ = _
    rw [show (((p % (q : Int)).toNat : Nat) : Int) = p % q by omega, ← asc.perz]
    congr 1
    rw [Int.mul_comm (p / _)]
    omega
  have em : ahd (srt ((spots (near ws p q) q ws.length).map fun o => o % ((ws.length : Int) * q))) ((ws.length : Int) * q) (tld (spots (near ws p q) q ws.length) ((ws.length : Int) * q) p) false - ahd (srt ((spots (near ws p q) q ws.length).map fun o => o % ((ws.length : Int) * q))) ((ws.length : Int) * q) ((spots (near ws p q) q ws.length).getD 0 0) false = p := by
    rw [spp, sp0, plc.idxY, plc.idxY]
    omega
  have er : rsd ws p q = grt (srt ((spots (near ws p q) q ws.length).map fun o => o % ((ws.length : Int) * q))) p ((ws.length : Int) * q) := by
    unfold rsd
    dsimp only
    rw [em]
  rw [er]
  refine ⟨plc.isWh p, plc.trn hc, fun z hz => ?_⟩
  rw [plc.led]
  generalize hi : ahd (srt ((spots (near ws p q) q ws.length).map fun o => o % ((ws.length : Int) * q))) ((ws.length : Int) * q) ((q : Int) * z) true + 1 - gap (Yf F p q ws.length) q ((ws.length : Int) * q) = i
  have e1 : ahd (srt ((spots (near ws p q) q ws.length).map fun o => o % ((ws.length : Int) * q))) ((ws.length : Int) * q) ((q : Int) * z) true + 1 + p - gap (Yf F p q ws.length) q ((ws.length : Int) * q) = i + p := by omega
  rw [e1]
  have g1 := plc.nxt_ge ((q : Int) * z)
  rw [hi] at g1
  have g2 : (z : Int) ≤ Xf F p q ws.length i := by
    have c := cnt_le (q - 1) fun (t : Nat) => Xf F p q ws.length (i - ((t : Int) + 1)) == Xf F p q ws.length i
    have c : cf F p q ws.length i ≤ q - 1 := c
    have g1 : (q : Int) * z ≤ Xf F p q ws.length i * q + cf F p q ws.length i := g1
    rcases Int.lt_or_le (Xf F p q ws.length i) z with l | l
    · have : (Xf F p q ws.length i + 1) * q ≤ z * q := Int.mul_le_mul_of_nonneg_right (by omega) (by omega)
      rw [Int.add_mul, Int.one_mul, Int.mul_comm (z : Int)] at this
      omega
    · exact l
  have g3 := Xf_led (F := F) (p := p) (q := q) hm hq (fun n hn' => by rw [← hF]; show (rows ws p q).getD (n + 1) 0 = led ws ((rows ws p q).getD n 0); rw [rows_at ws p q (by omega), rows_at ws p q (by omega), itr_succ])
    (by rw [← hF]; show (rows ws p q).getD q 0 ≤ (rows ws p q).getD 0 0 + _; rw [rows_at ws p q (by omega), rows_at ws p q (by omega)]; exact k0_ok h hq hle) i
  have g4 := hm.mono _ _ g2
  rw [led_place hz] at g4
  have g5 : (q : Int) * ws.getD z 0 ≤ Xf F p q ws.length (i + p) * q := by
    rw [Int.mul_comm]
    exact Int.mul_le_mul_of_nonneg_right (Int.le_trans g4 g3) (by omega)
  have g6 : Yf F p q ws.length (i + p) = Xf F p q ws.length (i + p) * q + cf F p q ws.length (i + p) := rfl
  rw [g6]
  omega
/-- a finer wheel that is no less turns at least so much -/
theorem no_less {ws gs : List Int} (h : isWh ws = true) (hg : isWh gs = true) {m : Nat} (hm : gs.length = m * ws.length) (hge : ∀ z : Nat, z < ws.length → (m : Int) * ws.getD z 0 ≤ led gs ((m : Int) * z)) :
    (trn ws).1 * (trn gs).2 ≤ (trn gs).1 * (trn ws).2 := by
  have hw := led_mono h
  have hG := led_mono hg
  have hN := hw.pos
  have all : ∀ z : Int, (m : Int) * led ws z ≤ led gs ((m : Int) * z) := fun z => by
    have z1 := Int.mul_ediv_add_emod z ws.length
    have z2 := Int.emod_nonneg z (Int.ne_of_gt hN)
    have z3 := Int.emod_lt_of_pos z hN
    have a := hge (z % ws.length).toNat (by omega)
    rw [← led_place (p := (z % ws.length).toNat) (by omega), show (((z % ws.length).toNat : Nat) : Int) = z % ws.length by omega] at a
    have ez : z = z % ws.length + z / ws.length * ws.length := by rw [Int.mul_comm (z / _)]; omega
    have b := hw.perz (z / ws.length) (z % ws.length)
    have c := hG.perz (z / ws.length) ((m : Int) * (z % ws.length))
    rw [← ez] at b
    have e2 : (m : Int) * (z % ws.length) + z / ws.length * (gs.length : Int) = m * z := by
      rw [hm, Int.natCast_mul]
      conv => rhs; rw [ez, Int.mul_add]
      have : z / (ws.length : Int) * ((m : Int) * ws.length) = m * (z / ws.length * ws.length) := by ac_rfl
      rw [this]
    rw [e2] at c
    rw [b, c, hm, Int.natCast_mul, Int.mul_add]
    have : z / (ws.length : Int) * ((m : Int) * ws.length) = m * (z / ws.length * ws.length) := by ac_rfl
    omega
  have alln : ∀ (n : Nat) (z : Int), (m : Int) * itr (led ws) n z ≤ itr (led gs) n ((m : Int) * z) := by
    intro n
    induction n with
    | zero => intro z; exact Int.le_refl _
    | succ n ih =>
      intro z
      exact Int.le_trans (ih (led ws z)) ((hG.itr n).mono _ _ (all z))
  obtain ⟨b, x, r, b1, _, b3, b4, _⟩ := trn_ex h
  obtain ⟨d, y, s, d1, _, d3, d4, _⟩ := trn_ex hg
  have key := hG.cmpGe (b := b) (x := (m : Int) * x) (r := r) (by
    have a := alln b x
    rw [b3, Int.mul_add] at a
    rw [hm, Int.natCast_mul]
    have : r * ((m : Int) * ws.length) = m * (r * ws.length) := by ac_rfl
    omega) d3
  rw [b4, d4]
  have hb : (0 : Int) < b := by omega
  have hd : (0 : Int) < d := by omega
  have m1 := @mk_mul1 r (b : Int)
  have m2 := @mk_mul2 r (b : Int)
  have m3 := @mk_mul1 s (d : Int)
  have m4 := @mk_mul2 s (d : Int)
  have g1 := gc_pos (a := r) hb
  have g2 := gc_pos (a := s) hd
  have e1 : (mk r b).1 * (mk s d).2 * (gc r b * gc s d) = r * d := by
    have : (mk r b).1 * (mk s d).2 * (gc r b * gc s d) = ((mk r b).1 * gc r b) * ((mk s d).2 * gc s d) := by ac_rfl
    rw [this, m1, m4]
  have e2 : (mk s d).1 * (mk r b).2 * (gc r b * gc s d) = s * b := by
    have : (mk s d).1 * (mk r b).2 * (gc r b * gc s d) = ((mk s d).1 * gc s d) * ((mk r b).2 * gc r b) := by ac_rfl
    rw [this, m3, m2]
  rw [← e1, ← e2] at key
  exact Int.le_of_mul_le_mul_right key (Int.mul_pos g1 g2)
end M
set_option Elab.async false
set_option linter.all false
set_option maxRecDepth 100000
set_option maxHeartbeats 2000000
namespace DL
open PySem L2

/-! ### data of mine -/
inductive D where
  | non | bl (b : Bool) | int (i : Int) | lst (xs : List D) | tup (xs : List D)

mutual
def py : D → PyData
  | .non => .none
  | .bl b => .bool b
  | .int i => .int i
  | .lst xs => .list (pys xs)
  | .tup xs => .tuple (pys xs)
def pys : List D → List PyData
  | [] => []
  | d :: ds => py d :: pys ds
end

mutual
inductive Dn (H : Hp) : V → D → Prop
  | non : Dn H .non .non
  | bl (b : Bool) : Dn H (.bl b) (.bl b)
  | int (i : Int) : Dn H (.int i) (.int i)
  | lst {a : Addr} {xs : List V} {ds : List D} : H a = some (.lst xs) → Ds H xs ds → Dn H (.ref a) (.lst ds)
  | tup {a : Addr} {xs : List V} {ds : List D} : H a = some (.tup xs) → Ds H xs ds → Dn H (.ref a) (.tup ds)
inductive Ds (H : Hp) : List V → List D → Prop
  | nil : Ds H [] []
  | cons {v : V} {vs : List V} {d : D} {ds : List D} : Dn H v d → Ds H vs ds → Ds H (v :: vs) (d :: ds)
end

mutual
theorem Dn.mono {H H' : Hp} (e : Same H H') : ∀ {v : V} {d : D}, Dn H v d → Dn H' v d
  | _, _, .non => .non
  | _, _, .bl b => .bl b
  | _, _, .int i => .int i
  | _, _, .lst h k => .lst (e _ _ h) (Ds.mono e k)
  | _, _, .tup h k => .tup (e _ _ h) (Ds.mono e k)
theorem Ds.mono {H H' : Hp} (e : Same H H') : ∀ {vs : List V} {ds : List D}, Ds H vs ds → Ds H' vs ds
  | _, _, .nil => .nil
  | _, _, .cons h k => .cons (Dn.mono e h) (Ds.mono e k)
end
mutual
theorem Dn.dp {H : Hp} (K : PySem.W.Frag) : ∀ {v : V} {d : D}, Dn H v d → Dp K H v (py d)
  | _, _, .non => .non
  | _, _, .bl b => .bl b
  | _, _, .int i => .int i
  | _, _, .lst h k => .lst (SqL.of h) (Ds.dp K k)
  | _, _, .tup h k => .tup (SqT.of h) (Ds.dp K k)
theorem Ds.dp {H : Hp} (K : PySem.W.Frag) : ∀ {vs : List V} {ds : List D}, Ds H vs ds → DpAll K H vs (pys ds)
  | _, _, .nil => .nil
  | _, _, .cons h k => .cons (Dn.dp K h) (Ds.dp K k)
end

section
variable {H H' : Hp}
theorem Ds.len : ∀ {vs : List V} {ds : List D}, Ds H vs ds → vs.length = ds.length
  | _, _, .nil => rfl
  | _, _, .cons _ k => congrArg (· + 1) (Ds.len k)
theorem Ds.get : ∀ {vs : List V} {ds : List D} {i : Nat} {d : D}, Ds H vs ds → ds[i]? = some d → ∃ v, vs[i]? = some v ∧ Dn H v d
  | _, _, _, _, .nil, e => by simp at e
  | _, _, 0, _, .cons h _, e => by simp at e; subst e; exact ⟨_, rfl, h⟩
  | _, _, i + 1, d, .cons _ k, e => by
    obtain ⟨v, h1, h2⟩ := Ds.get (i := i) (d := d) k (by simpa using e)
    exact ⟨v, by simpa using h1, h2⟩
theorem Ds.getV : ∀ {vs : List V} {ds : List D} {i : Nat} {v : V}, Ds H vs ds → vs[i]? = some v → ∃ d, ds[i]? = some d ∧ Dn H v d
  | _, _, _, _, .nil, e => by simp at e
  | _, _, 0, _, .cons h _, e => by simp at e; subst e; exact ⟨_, rfl, h⟩
  | _, _, i + 1, d, .cons _ k, e => by
    obtain ⟨v, h1, h2⟩ := Ds.getV (i := i) (v := d) k (by simpa using e)
    exact ⟨v, by simpa using h1, h2⟩
theorem Ds.app : ∀ {vs ws : List V} {ds es : List D}, Ds H vs ds → Ds H ws es → Ds H (vs ++ ws) (ds ++ es)
  | _, _, _, _, .nil, k => k
  | _, _, _, _, .cons h t, k => .cons h (Ds.app t k)
theorem Ds.one {v : V} {d : D} (h : Dn H v d) : Ds H [v] [d] := .cons h .nil
theorem Ds.set {v : V} {d : D} (h : Dn H v d) : ∀ {vs : List V} {ds : List D} (i : Nat), Ds H vs ds → Ds H (vs.set i v) (ds.set i d)
  | _, _, _, .nil => .nil
  | _, _, 0, .cons _ t => .cons h t
  | _, _, i + 1, .cons q t => .cons q (Ds.set h i t)
theorem Ds.take : ∀ {vs : List V} {ds : List D} (n : Nat), Ds H vs ds → Ds H (vs.take n) (ds.take n)
  | _, _, 0, _ => .nil
  | _, _, _ + 1, .nil => .nil
  | _, _, n + 1, .cons r t => .cons r (Ds.take n t)
theorem Ds.drop : ∀ {vs : List V} {ds : List D} (n : Nat), Ds H vs ds → Ds H (vs.drop n) (ds.drop n)
  | _, _, 0, r => r
  | _, _, _ + 1, .nil => .nil
  | _, _, n + 1, .cons _ t => Ds.drop n t
theorem Ds.dropLast {vs : List V} {ds : List D} (h : Ds H vs ds) : Ds H vs.dropLast ds.dropLast := by
  rw [List.dropLast_eq_take, List.dropLast_eq_take, h.len]
  exact h.take _
theorem Ds.rev : ∀ {vs : List V} {ds : List D}, Ds H vs ds → Ds H vs.reverse ds.reverse
  | _, _, .nil => .nil
  | _, _, .cons r t => by
    rw [List.reverse_cons, List.reverse_cons]
    exact (Ds.rev t).app (.one r)
theorem Ds.atI {vs : List V} {ds : List D} {i : Int} {d : D} (h : Ds H vs ds) (e : L2.atI ds i = some d) : ∃ v, L2.atI vs i = some v ∧ Dn H v d := by
  unfold L2.atI at e ⊢
  rw [h.len]
  cases q : ixN ds.length i with
  | none => rw [q] at e; cases e
  | some j =>
    rw [q] at e
    exact h.get e
theorem Ds.ints : ∀ (ns : List Int), Ds H (ns.map V.int) (ns.map D.int)
  | [] => .nil
  | _ :: r => .cons (.int _) (Ds.ints r)
theorem Ds.ofInts : ∀ {ns : List Int} {vs : List V}, Ds H vs (ns.map D.int) → vs = ns.map V.int
  | [], _, .nil => rfl
  | _ :: r, _, .cons h k => by
    cases h
    rw [Ds.ofInts k]
    rfl
theorem Ds.ofBools : ∀ {bs : List Bool} {vs : List V}, Ds H vs (bs.map D.bl) → vs = bs.map V.bl
  | [], _, .nil => rfl
  | _ :: r, _, .cons h k => by
    cases h
    rw [Ds.ofBools k]
    rfl
theorem Ds.rep {v : V} {d : D} (h : Dn H v d) : ∀ n : Nat, Ds H (List.replicate n v) (List.replicate n d)
  | 0 => .nil
  | n + 1 => .cons h (Ds.rep h n)
end

/-! ### slots by data -/
/-- the draws' list: what is left of a great number, a seed, a count of at most n -/
structure TinOk (n : Nat) (a b c : Int) : Prop where
  a0 : 0 ≤ a
  b0 : 0 ≤ b
  b1 : b < 4611686018427387904
  c0 : 0 ≤ c
  c1 : c ≤ n

inductive Sl where
  | un | dat (d : D) | own (ds : List D) | tin (n : Nat)
def Sl.mu : Sl → Bool
  | .own _ => true
  | .tin _ => true
  | _ => false
abbrev Gam := List Sl

structure En (Hs H : Hp) (σ : L2.St) (Γ : Gam) : Prop where
  ex : Same Hs H
  len : σ.length = Γ.length
  dat : ∀ (i : Nat) (d : D), Γ[i]? = some (.dat d) → ∃ v, σ[i]? = some (some v) ∧ Dn Hs v d
  own : ∀ (i : Nat) (ds : List D), Γ[i]? = some (.own ds) → ∃ l vs, σ[i]? = some (some (.ref l)) ∧ Hs l = none ∧ H l = some (.lst vs) ∧ Ds Hs vs ds
  tin : ∀ (i n : Nat), Γ[i]? = some (.tin n) → ∃ l a b c, σ[i]? = some (some (.ref l)) ∧ Hs l = none ∧ H l = some (.lst [.int a, .int b, .int c]) ∧ TinOk n a b c
  sep : ∀ (i j : Nat) (s t : Sl) (l : Addr), Γ[i]? = some s → Γ[j]? = some t → s.mu = true → t.mu = true → σ[i]? = some (some (.ref l)) → σ[j]? = some (some (.ref l)) → i = j

structure Ext (Hs H Hs' H' : Hp) : Prop where
  s : Same Hs Hs'
  e : Same Hs' H'
  h : Same H H'
  f : ∀ a, H a ≠ none → Hs a = none → Hs' a = none

section
variable {Hs H Hs' H' Hs2 H2 : Hp} {σ : L2.St} {Γ : Gam}
theorem Ext.refl (h : Same Hs H) : Ext Hs H Hs H := ⟨.refl _, h, .refl _, fun _ _ q => q⟩
theorem Ext.trans (a : Ext Hs H Hs' H') (b : Ext Hs' H' Hs2 H2) : Ext Hs H Hs2 H2 :=
  ⟨a.s.trans b.s, b.e, a.h.trans b.h, fun x h1 h2 => b.f x (fun z => by
    cases q : H x with
    | none => exact h1 q
    | some o => rw [a.h x o q] at z; cases z) (a.f x h1 h2)⟩
theorem same_upd {p : Addr} {o : HO} (h : H p = none) : Same H (upd H p o) := fun b u q => by rw [upd_ne (ne_of_none q h)]; exact q
theorem Ext.new {p : Addr} {o : HO} (h : Same Hs H) (hp : H p = none) : Ext Hs H (upd Hs p o) (upd H p o) := by
  have hs : Hs p = none := h.free hp
  refine ⟨same_upd hs, fun b u q => ?_, same_upd hp, fun a h1 h2 => ?_⟩
  · by_cases e : b = p
    · subst e; rw [upd_same] at q ⊢; exact q
    · rw [upd_ne e] at q ⊢; exact h _ _ q
  · have e : a ≠ p := fun z => h1 (by rw [z]; exact hp)
    rw [upd_ne e]; exact h2
theorem Ext.newOwn {p : Addr} {o : HO} (h : Same Hs H) (hp : H p = none) : Ext Hs H Hs (upd H p o) :=
  ⟨.refl _, h.trans (same_upd hp), same_upd hp, fun _ _ q => q⟩
/-- a new list becomes a datum -/
theorem Ext.settle {p : Addr} {o : HO} (x : Ext Hs H Hs' H') (hp : H p = none) (hs : Hs' p = none) (ho : H' p = some o) : Ext Hs H (upd Hs' p o) H' := by
  refine ⟨x.s.trans (same_upd hs), fun b u q => ?_, x.h, fun a h1 h2 => ?_⟩
  · by_cases e : b = p
    · subst e; rw [upd_same] at q; rw [ho]; exact q
    · rw [upd_ne e] at q; exact x.e _ _ q
  · have e : a ≠ p := fun z => h1 (by rw [z]; exact hp)
    rw [upd_ne e]; exact x.f a h1 h2
theorem ne_none {a : Addr} {o : HO} (h : H a = some o) : H a ≠ none := fun z => by rw [h] at z; cases z
theorem En.ext (n : En Hs H σ Γ) (x : Ext Hs H Hs' H') : En Hs' H' σ Γ :=
  ⟨x.e, n.len, fun i d h => let ⟨v, h1, h2⟩ := n.dat i d h; ⟨v, h1, h2.mono x.s⟩,
   fun i ds h => let ⟨l, vs, h1, h2, h3, h4⟩ := n.own i ds h; ⟨l, vs, h1, x.f l (ne_none h3) h2, x.h _ _ h3, h4.mono x.s⟩,
   fun i m h => let ⟨l, a, b, c, h1, h2, h3, h4⟩ := n.tin i m h; ⟨l, a, b, c, h1, x.f l (ne_none h3) h2, x.h _ _ h3, h4⟩, n.sep⟩
theorem get_set {α : Type} {l : List α} {i j : Nat} {x y : α} (h : (l.set i x)[j]? = some y) : (j = i ∧ y = x ∧ i < l.length) ∨ (j ≠ i ∧ l[j]? = some y) := by
  by_cases e : i = j
  · subst e
    by_cases hl : i < l.length
    · rw [List.getElem?_set_self hl] at h; cases h; exact .inl ⟨rfl, rfl, hl⟩
    · rw [List.getElem?_eq_none (by simpa using hl)] at h; cases h
  · rw [List.getElem?_set_ne e] at h
    exact .inr ⟨fun z => e z.symm, h⟩
theorem En.set {i : Nat} {v : V} {d : D} (n : En Hs H σ Γ) (h : Dn Hs v d) : En Hs H (σ.set i (some v)) (Γ.set i (.dat d)) := by
  refine ⟨n.ex, by rw [List.length_set, List.length_set, n.len], fun j e q => ?_, fun j ds q => ?_, fun j m q => ?_, fun j k s t l q1 q2 m1 m2 e1 e2 => ?_⟩
  · rcases get_set q with ⟨rfl, h1, hl⟩ | ⟨ne, q⟩
    · cases h1
      exact ⟨v, by rw [List.getElem?_set_self (by rw [n.len]; exact hl)], h⟩
    · obtain ⟨w, h1, h2⟩ := n.dat j e q
      exact ⟨w, by rw [List.getElem?_set_ne (Ne.symm ne)]; exact h1, h2⟩
  · rcases get_set q with ⟨rfl, h1, hl⟩ | ⟨ne, q⟩
    · cases h1
    · obtain ⟨l, w, h1, h2⟩ := n.own j ds q
      exact ⟨l, w, by rw [List.getElem?_set_ne (Ne.symm ne)]; exact h1, h2⟩
  · rcases get_set q with ⟨rfl, h1, hl⟩ | ⟨ne, q⟩
    · cases h1
    · obtain ⟨l, a, b, c, h1, h2⟩ := n.tin j m q
      exact ⟨l, a, b, c, by rw [List.getElem?_set_ne (Ne.symm ne)]; exact h1, h2⟩
  · rcases get_set q1 with ⟨_, h1, _⟩ | ⟨ne1, q1⟩
    · rw [h1] at m1; cases m1
    · rcases get_set q2 with ⟨_, h1, _⟩ | ⟨ne2, q2⟩
      · rw [h1] at m2; cases m2
      · rw [List.getElem?_set_ne (Ne.symm ne1)] at e1
        rw [List.getElem?_set_ne (Ne.symm ne2)] at e2
        exact n.sep j k s t l q1 q2 m1 m2 e1 e2
theorem En.mu_ne {p : Addr} (n : En Hs H σ Γ) (hp : H p = none) : ∀ (j : Nat) (s : Sl), Γ[j]? = some s → s.mu = true → σ[j]? ≠ some (some (.ref p)) := fun j s q m e => by
  cases s with
  | un => cases m
  | dat d => cases m
  | own ds =>
    obtain ⟨l, w, h1, h2, h3, _⟩ := n.own j ds q
    rw [h1] at e; cases e; rw [hp] at h3; cases h3
  | tin k =>
    obtain ⟨l, a, b, c, h1, h2, h3, _⟩ := n.tin j k q
    rw [h1] at e; cases e; rw [hp] at h3; cases h3
/-- a slot takes a list of ours that no other slot holds -/
theorem En.setOwn {i : Nat} {l : Addr} {vs : List V} {ds : List D} (n : En Hs H σ Γ) (hs : Hs l = none) (hl : H l = some (.lst vs)) (h : Ds Hs vs ds) (hn : ∀ (j : Nat) (s : Sl), j ≠ i → Γ[j]? = some s → s.mu = true → σ[j]? ≠ some (some (.ref l))) :
    En Hs H (σ.set i (some (.ref l))) (Γ.set i (.own ds)) := by
  refine ⟨n.ex, by rw [List.length_set, List.length_set, n.len], fun j e q => ?_, fun j es q => ?_, fun j m q => ?_, fun j k s t p q1 q2 m1 m2 e1 e2 => ?_⟩
  · rcases get_set q with ⟨rfl, h1, hl⟩ | ⟨ne, q⟩
    · cases h1
    · obtain ⟨w, h1, h2⟩ := n.dat j e q
      exact ⟨w, by rw [List.getElem?_set_ne (Ne.symm ne)]; exact h1, h2⟩
  · rcases get_set q with ⟨rfl, h1, hj⟩ | ⟨ne, q⟩
    · cases h1
      exact ⟨l, vs, by rw [List.getElem?_set_self (by rw [n.len]; exact hj)], hs, hl, h⟩
    · obtain ⟨l, w, h1, h2⟩ := n.own j es q
      exact ⟨l, w, by rw [List.getElem?_set_ne (Ne.symm ne)]; exact h1, h2⟩
  · rcases get_set q with ⟨rfl, h1, hl⟩ | ⟨ne, q⟩
    · cases h1
    · obtain ⟨l, a, b, c, h1, h2⟩ := n.tin j m q
      exact ⟨l, a, b, c, by rw [List.getElem?_set_ne (Ne.symm ne)]; exact h1, h2⟩
  · rcases get_set q1 with ⟨h0, h1, hi⟩ | ⟨ne1, r1⟩
    · rw [h0] at e1
      rw [List.getElem?_set_self (by rw [n.len]; exact hi)] at e1
      cases e1
      rcases get_set q2 with ⟨h2, _, _⟩ | ⟨ne2, r2⟩
      · rw [h0, h2]
      · rw [List.getElem?_set_ne (Ne.symm ne2)] at e2
        exact absurd e2 (hn k t ne2 r2 m2)
    · rw [List.getElem?_set_ne (Ne.symm ne1)] at e1
      rcases get_set q2 with ⟨h0, h1, hi⟩ | ⟨ne2, r2⟩
      · rw [h0] at e2
        rw [List.getElem?_set_self (by rw [n.len]; exact hi)] at e2
        cases e2
        exact absurd e1 (hn j s ne1 r1 m1)
      · rw [List.getElem?_set_ne (Ne.symm ne2)] at e2
        exact n.sep j k s t p r1 r2 m1 m2 e1 e2
def wipeE (Γ : Gam) : List Nat → Gam
  | [] => Γ
  | v :: vs => (wipeE Γ vs).set v .un
theorem En.unset {i : Nat} (n : En Hs H σ Γ) (v : Option V) : En Hs H (σ.set i v) (Γ.set i .un) := by
  refine ⟨n.ex, by rw [List.length_set, List.length_set, n.len], fun j e q => ?_, fun j es q => ?_, fun j m q => ?_, fun j k s t p q1 q2 m1 m2 e1 e2 => ?_⟩
  · rcases get_set q with ⟨rfl, h1, hl⟩ | ⟨ne, q⟩
    · cases h1
    · obtain ⟨w, h1, h2⟩ := n.dat j e q
      exact ⟨w, by rw [List.getElem?_set_ne (Ne.symm ne)]; exact h1, h2⟩
  · rcases get_set q with ⟨rfl, h1, hj⟩ | ⟨ne, q⟩
    · cases h1
    · obtain ⟨l, w, h1, h2⟩ := n.own j es q
      exact ⟨l, w, by rw [List.getElem?_set_ne (Ne.symm ne)]; exact h1, h2⟩
  · rcases get_set q with ⟨rfl, h1, hl⟩ | ⟨ne, q⟩
    · cases h1
    · obtain ⟨l, a, b, c, h1, h2⟩ := n.tin j m q
      exact ⟨l, a, b, c, by rw [List.getElem?_set_ne (Ne.symm ne)]; exact h1, h2⟩
  · rcases get_set q1 with ⟨h0, h1, hi⟩ | ⟨ne1, q1⟩
    · rw [h1] at m1; cases m1
    · rcases get_set q2 with ⟨h0, h1, hi⟩ | ⟨ne2, q2⟩
      · rw [h1] at m2; cases m2
      · rw [List.getElem?_set_ne (Ne.symm ne1)] at e1
        rw [List.getElem?_set_ne (Ne.symm ne2)] at e2
        exact n.sep j k s t p q1 q2 m1 m2 e1 e2
theorem En.wipe (n : En Hs H σ Γ) : ∀ vs : List Nat, En Hs H (wipe σ vs) (wipeE Γ vs)
  | [] => n
  | v :: vs => (n.wipe vs).unset none
/-- an own list written -/
theorem En.put {i : Nat} {l : Addr} {vs : List V} {ds es : List D} (n : En Hs H σ Γ) (hi : Γ[i]? = some (.own es)) (hl : σ[i]? = some (some (.ref l))) (h : Ds Hs vs ds) :
    En Hs (upd H l (.lst vs)) σ (Γ.set i (.own ds)) := by
  obtain ⟨l', ws, q1, q2, q3, q4⟩ := n.own i es hi
  rw [hl] at q1
  cases q1
  refine ⟨fun b u e => ?_, by rw [List.length_set]; exact n.len, fun j e q => ?_, fun j e q => ?_, fun j m q => ?_, fun j k s t p a1 a2 m1 m2 e1 e2 => ?_⟩
  · have ne : b ≠ l := fun z => by rw [z, q2] at e; cases e
    rw [upd_ne ne]; exact n.ex _ _ e
  · rcases get_set q with ⟨rfl, h1, _⟩ | ⟨ne, q⟩
    · cases h1
    · exact n.dat j e q
  · rcases get_set q with ⟨rfl, h1, _⟩ | ⟨ne, q⟩
    · cases h1
      exact ⟨l, vs, hl, q2, upd_same, h⟩
    · obtain ⟨l', w, h1, h2, h3, h4⟩ := n.own j e q
      have nl : l' ≠ l := fun z => by
        subst z
        exact ne (n.sep j i _ _ l' q hi rfl rfl h1 hl)
      exact ⟨l', w, h1, h2, by rw [upd_ne nl]; exact h3, h4⟩
  · rcases get_set q with ⟨rfl, h1, _⟩ | ⟨ne, q⟩
    · cases h1
    · obtain ⟨l', a, b, c, h1, h2, h3, h4⟩ := n.tin j m q
      have nl : l' ≠ l := fun z => by
        subst z
        exact ne (n.sep j i _ _ l' q hi rfl rfl h1 hl)
      exact ⟨l', a, b, c, h1, h2, by rw [upd_ne nl]; exact h3, h4⟩
  · have r1 : ∃ s', Γ[j]? = some s' ∧ s'.mu = true := by
      rcases get_set a1 with ⟨h0, h1, _⟩ | ⟨_, q⟩
      · rw [h0]; exact ⟨_, hi, rfl⟩
      · exact ⟨s, q, m1⟩
    have r2 : ∃ s', Γ[k]? = some s' ∧ s'.mu = true := by
      rcases get_set a2 with ⟨h0, h1, _⟩ | ⟨_, q⟩
      · rw [h0]; exact ⟨_, hi, rfl⟩
      · exact ⟨t, q, m2⟩
    obtain ⟨s1, b1, b2⟩ := r1
    obtain ⟨t1, c1, c2⟩ := r2
    exact n.sep j k s1 t1 p b1 c1 b2 c2 e1 e2
end

/-! ### pure evaluation -/
def Ev (te : TE) (Γ : Gam) (d : D) : Prop := ∀ Hs H σ, En Hs H σ Γ → ∀ Q : VK, (∀ v Hs' H', Ext Hs H Hs' H' → Dn Hs' v d → Q v H') → te σ H Q
def Et (tt : TT) (Γ : Gam) (b : Bool) : Prop := ∀ Hs H σ, En Hs H σ Γ → ∀ Q : Bool → Hp → Prop, (∀ Hs' H', Ext Hs H Hs' H' → Q b H') → tt σ H Q
def Av (ta : TA) (Γ : Gam) (ds : List D) : Prop := ∀ Hs H σ, En Hs H σ Γ → ∀ Q : List V → Hp → Prop, (∀ vs Hs' H', Ext Hs H Hs' H' → Ds Hs' vs ds → Q vs H') → ta σ H Q
/-- a new list -/
def Fv (te : TE) (Γ : Gam) (ds : List D) : Prop := ∀ Hs H σ, En Hs H σ Γ → ∀ Q : VK, (∀ p vs Hs' H', Ext Hs H Hs' H' → H p = none → Hs' p = none → H' p = some (.lst vs) → Ds Hs' vs ds → Q (.ref p) H') → te σ H Q
def Ov (to : TO) (Γ : Gam) (o : Option Int) : Prop := ∀ Hs H σ, En Hs H σ Γ → ∀ Q : Option Int → Hp → Prop, (∀ Hs' H', Ext Hs H Hs' H' → Q o H') → to σ H Q
/-- an operation by values -/
def Op2 (r : R2) (x y z : D) : Prop := ∀ Hs H vx vy, Same Hs H → Dn Hs vx x → Dn Hs vy y → ∀ Q : VK, (∀ v Hs' H', Ext Hs H Hs' H' → Dn Hs' v z → Q v H') → r vx vy H Q
def Op1 (r : V → Hp → VK → Prop) (x z : D) : Prop := ∀ Hs H vx, Same Hs H → Dn Hs vx x → ∀ Q : VK, (∀ v Hs' H', Ext Hs H Hs' H' → Dn Hs' v z → Q v H') → r vx H Q
def OpN (r : List V → Hp → VK → Prop) (xs : List D) (z : D) : Prop := ∀ Hs H vs, Same Hs H → Ds Hs vs xs → ∀ Q : VK, (∀ v Hs' H', Ext Hs H Hs' H' → Dn Hs' v z → Q v H') → r vs H Q
/-- a call that makes a list -/
def OpF (r : List V → Hp → VK → Prop) (xs : List D) (zs : List D) : Prop := ∀ Hs H vs, Same Hs H → Ds Hs vs xs → ∀ Q : VK, (∀ p ws Hs' H', Ext Hs H Hs' H' → H p = none → Hs' p = none → H' p = some (.lst ws) → Ds Hs' ws zs → Q (.ref p) H') → r vs H Q

section
variable {Γ : Gam} {K : PySem.W.Frag} {ta tb te : TE} {t u : TT} {d x y z : D} {xs ys ds : List D} {i j : Int}
theorem Fv.ev (h : Fv te Γ ds) : Ev te Γ (.lst ds) := fun Hs H σ n Q q => h Hs H σ n Q fun p vs Hs' H' x h1 h2 h3 h4 =>
  q (.ref p) (upd Hs' p (.lst vs)) H' (x.settle h1 h2 h3) (.lst upd_same (h4.mono (same_upd h2)))
theorem ev_v {k : Nat} (h : Γ[k]? = some (.dat d)) : Ev (tVar k) Γ d := fun Hs H σ n Q q =>
  let ⟨v, h1, h2⟩ := n.dat k d h
  ⟨v, h1, q v Hs H (.refl n.ex) h2⟩
theorem ev_int : Ev (tC (.int i)) Γ (.int i) := fun Hs H _ n _ q => q _ Hs H (.refl n.ex) (.int i)
theorem ev_bl {b : Bool} : Ev (tC (.bl b)) Γ (.bl b) := fun Hs H _ n _ q => q _ Hs H (.refl n.ex) (.bl b)
theorem ev_non : Ev (tC .non) Γ .non := fun Hs H _ n _ q => q _ Hs H (.refl n.ex) .non
theorem ev_op {r : R2} (ha : Ev ta Γ x) (hb : Ev tb Γ y) (hr : Op2 r x y z) : Ev (tOp r ta tb) Γ z := fun Hs H σ n Q q =>
  ha Hs H σ n _ fun _ Hs1 H1 e1 d1 => hb Hs1 H1 σ (n.ext e1) _ fun _ Hs2 H2 e2 d2 => hr Hs2 H2 _ _ e2.e (d1.mono e2.s) d2 _ fun v Hs3 H3 e3 d3 => q v Hs3 H3 ((e1.trans e2).trans e3) d3
theorem ev_un {r : V → Hp → VK → Prop} (ha : Ev ta Γ x) (hr : Op1 r x z) : Ev (tUn r ta) Γ z := fun Hs H σ n Q q =>
  ha Hs H σ n _ fun _ Hs1 H1 e1 d1 => hr Hs1 H1 _ e1.e d1 _ fun v Hs3 H3 e3 d3 => q v Hs3 H3 (e1.trans e3) d3
theorem av_nil : Av tNil Γ [] := fun Hs H _ n _ q => q [] Hs H (.refl n.ex) .nil
theorem av_cons {tr : TA} (h : Ev te Γ x) (hr : Av tr Γ xs) : Av (tCons te tr) Γ (x :: xs) := fun Hs H σ n Q q =>
  h Hs H σ n _ fun _ Hs1 H1 e1 d1 => hr Hs1 H1 σ (n.ext e1) _ fun _ Hs2 H2 e2 d2 => q _ Hs2 H2 (e1.trans e2) (.cons (d1.mono e2.s) d2)
theorem ev_tup {tr : TA} (h : Av tr Γ xs) (hl : xs.length ≤ 100000 := by simp) : Ev (tTup tr) Γ (.tup xs) := fun Hs H σ n Q q =>
  h Hs H σ n _ fun vs Hs1 H1 e1 d1 => ⟨by rw [d1.len]; exact Nat.le_trans hl (by decide), fun p hp => q (.ref p) _ _ (e1.trans (Ext.new e1.e hp)) (.tup upd_same (d1.mono (same_upd (e1.e.free hp))))⟩
theorem fv_lst {tr : TA} (h : Av tr Γ xs) (hl : xs.length ≤ 100000 := by simp) : Fv (tLst tr) Γ xs := fun Hs H σ n Q q =>
  h Hs H σ n _ fun vs Hs1 H1 e1 d1 => ⟨by rw [d1.len]; exact Nat.le_trans hl (by decide), fun p hp => q p vs Hs1 _ (e1.trans (Ext.newOwn e1.e hp)) (e1.h.free hp) (e1.e.free hp) upd_same d1⟩
theorem ev_cb {tr : TA} {r : List V → Hp → VK → Prop} (h : Av tr Γ xs) (hr : OpN r xs z) : Ev (tCB r tr) Γ z := fun Hs H σ n Q q =>
  h Hs H σ n _ fun vs Hs1 H1 e1 d1 => hr Hs1 H1 vs e1.e d1 _ fun v Hs2 H2 e2 d2 => q v Hs2 H2 (e1.trans e2) d2
theorem fv_cb {tr : TA} {r : List V → Hp → VK → Prop} (h : Av tr Γ xs) (hr : OpF r xs ys) : Fv (tCB r tr) Γ ys := fun Hs H σ n Q q =>
  h Hs H σ n _ fun vs Hs1 H1 e1 d1 => hr Hs1 H1 vs e1.e d1 _ fun p ws Hs2 H2 e2 p1 p2 p3 d2 => q p ws Hs2 H2 (e1.trans e2) (e1.h.free p1) p2 p3 d2
theorem OpF.n {r : List V → Hp → VK → Prop} (h : OpF r xs ys) : OpN r xs (.lst ys) := fun Hs H vs s d Q q => h Hs H vs s d Q fun p ws Hs' H' x h1 h2 h3 h4 =>
  q (.ref p) (upd Hs' p (.lst ws)) H' (x.settle h1 h2 h3) (.lst upd_same (h4.mono (same_upd h2)))

/-! operators -/
theorem o_I0 {g : Int → Int → V} {z : D} (hz : ∀ Hs, Dn Hs (g i j) z) : Op2 (rI0 g) (.int i) (.int j) z := fun Hs H vx vy s dx dy Q q => by
  cases dx; cases dy
  exact ⟨i, j, rfl, rfl, q _ Hs H (.refl s) (hz Hs)⟩
theorem o_I {C : Int → Int → Prop} {g : Int → Int → V} {z : D} (hc : C i j) (hz : ∀ Hs, Dn Hs (g i j) z) : Op2 (rI C g) (.int i) (.int j) z := fun Hs H vx vy s dx dy Q q => by
  cases dx; cases dy
  exact ⟨i, j, rfl, rfl, hc, q _ Hs H (.refl s) (hz Hs)⟩
theorem e_add (ha : Ev ta Γ (.int i)) (hb : Ev tb Γ (.int j)) : Ev (tOp (rI0 fun i j => .int (i + j)) ta tb) Γ (.int (i + j)) := ev_op ha hb (o_I0 fun _ => .int _)
theorem e_sub (ha : Ev ta Γ (.int i)) (hb : Ev tb Γ (.int j)) : Ev (tOp (rI0 fun i j => .int (i - j)) ta tb) Γ (.int (i - j)) := ev_op ha hb (o_I0 fun _ => .int _)
theorem e_mul (ha : Ev ta Γ (.int i)) (hb : Ev tb Γ (.int j)) (hc : (-(2 ^ 64) < i ∧ i < 2 ^ 64) ∨ (-(2 ^ 64) < j ∧ j < 2 ^ 64)) : Ev (tOp (rI CMul fun i j => .int (i * j)) ta tb) Γ (.int (i * j)) := ev_op ha hb (o_I hc fun _ => .int _)
theorem e_div (ha : Ev ta Γ (.int i)) (hb : Ev tb Γ (.int j)) (hc : 0 < j ∧ j < 1073741824) : Ev (tOp (rI CDiv fun i j => .int (i / j)) ta tb) Γ (.int (i / j)) := ev_op ha hb (o_I hc fun _ => .int _)
theorem e_mod (ha : Ev ta Γ (.int i)) (hb : Ev tb Γ (.int j)) (hc : 0 < j) : Ev (tOp (rI (fun _ j => 0 < j) fun i j => .int (i % j)) ta tb) Γ (.int (i % j)) := ev_op ha hb (o_I hc fun _ => .int _)
theorem e_pow (ha : Ev ta Γ (.int i)) (hb : Ev tb Γ (.int j)) (hc : 0 ≤ j ∧ j ≤ 1000000 ∧ i.natAbs < 2 ^ 64) : Ev (tOp (rI CPow fun i j => .int (i ^ j.toNat)) ta tb) Γ (.int (i ^ j.toNat)) := ev_op ha hb (o_I hc fun _ => .int _)
theorem e_lt (ha : Ev ta Γ (.int i)) (hb : Ev tb Γ (.int j)) : Ev (tOp (rI0 fun i j => .bl (decide (i < j))) ta tb) Γ (.bl (decide (i < j))) := ev_op ha hb (o_I0 fun _ => .bl _)
theorem e_le (ha : Ev ta Γ (.int i)) (hb : Ev tb Γ (.int j)) : Ev (tOp (rI0 fun i j => .bl (decide (i ≤ j))) ta tb) Γ (.bl (decide (i ≤ j))) := ev_op ha hb (o_I0 fun _ => .bl _)
theorem e_gt (ha : Ev ta Γ (.int i)) (hb : Ev tb Γ (.int j)) : Ev (tOp (rI0 fun i j => .bl (decide (j < i))) ta tb) Γ (.bl (decide (j < i))) := ev_op ha hb (o_I0 fun _ => .bl _)
theorem e_ge (ha : Ev ta Γ (.int i)) (hb : Ev tb Γ (.int j)) : Ev (tOp (rI0 fun i j => .bl (decide (j ≤ i))) ta tb) Γ (.bl (decide (j ≤ i))) := ev_op ha hb (o_I0 fun _ => .bl _)
theorem e_neg (ha : Ev ta Γ (.int i)) : Ev (tUn (rU fun i => .int (-i)) ta) Γ (.int (-i)) := ev_un ha fun Hs H vx s dx Q q => by
  cases dx
  exact ⟨i, rfl, q _ Hs H (.refl s) (.int _)⟩
theorem e_eq (ha : Ev ta Γ x) (hb : Ev tb Γ y) (hx : SeqAt.shaped (py x) = true) (hy : SeqAt.shaped (py y) = true) : Ev (tOp (rEqD K) ta tb) Γ (.bl (PyData.eqv (py x) (py y))) := ev_op ha hb fun Hs H vx vy s dx dy Q q =>
  ⟨_, _, (dx.mono s).dp K, (dy.mono s).dp K, hx, hy, q _ Hs H (.refl s) (.bl _)⟩
theorem e_ne (ha : Ev ta Γ x) (hb : Ev tb Γ y) (hx : SeqAt.shaped (py x) = true) (hy : SeqAt.shaped (py y) = true) : Ev (tOp (rNeD K) ta tb) Γ (.bl (!PyData.eqv (py x) (py y))) := ev_op ha hb fun Hs H vx vy s dx dy Q q =>
  ⟨_, _, (dx.mono s).dp K, (dy.mono s).dp K, hx, hy, q _ Hs H (.refl s) (.bl _)⟩
def D.isNon : D → Bool
  | .non => true
  | _ => false
theorem Dn.non_iff {H : Hp} {v : V} {d : D} (h : Dn H v d) : decide (v = .non) = d.isNon := by cases h <;> simp [D.isNon]
theorem e_isN (ha : Ev ta Γ x) : Ev (tOp (fun x y H Q => y = V.non ∧ Q (.bl (decide (x = .non))) H) ta (tC .non)) Γ (.bl x.isNon) := ev_op ha ev_non fun Hs H vx vy s dx dy Q q => by
  cases dy
  exact ⟨rfl, by rw [dx.non_iff]; exact q _ Hs H (.refl s) (.bl _)⟩
/-- an item -/
theorem o_ixT (h : atI ds i = some z) : Op2 (rIxT K) (.tup ds) (.int i) z := fun Hs H vx vy s dx dy Q q => by
  cases dx with
  | tup ha hd =>
    cases dy
    obtain ⟨v, h1, h2⟩ := hd.atI h
    exact ⟨_, _, i, v, rfl, rfl, SqT.of (s _ _ ha), h1, q v Hs H (.refl s) h2⟩
theorem o_ixL (h : atI ds i = some z) : Op2 (rIxL K) (.lst ds) (.int i) z := fun Hs H vx vy s dx dy Q q => by
  cases dx with
  | lst ha hd =>
    cases dy
    obtain ⟨v, h1, h2⟩ := hd.atI h
    exact ⟨_, _, i, v, rfl, rfl, SqL.of (s _ _ ha), h1, q v Hs H (.refl s) h2⟩
theorem e_ixT (ha : Ev ta Γ (.tup ds)) (hb : Ev tb Γ (.int i)) (h : atI ds i = some z) : Ev (tOp (rIxT K) ta tb) Γ z := ev_op ha hb (o_ixT h)
theorem e_ixL (ha : Ev ta Γ (.lst ds)) (hb : Ev tb Γ (.int i)) (h : atI ds i = some z) : Ev (tOp (rIxL K) ta tb) Γ z := ev_op ha hb (o_ixL h)
/-- an item of an own list -/
theorem e_ixO {k : Nat} (ho : Γ[k]? = some (.own ds)) (hb : Ev tb Γ (.int i)) (h : atI ds i = some z) : Ev (tOp (rIxL K) (tVar k) tb) Γ z := fun Hs H σ n Q q => by
  obtain ⟨l, vs, h1, h2, h3, h4⟩ := n.own k ds ho
  refine ⟨_, h1, hb Hs H σ n _ fun v Hs1 H1 e1 d1 => ?_⟩
  cases d1
  obtain ⟨v, g1, g2⟩ := h4.atI h
  exact ⟨l, vs, i, v, rfl, rfl, SqL.of (e1.h _ _ h3), g1, q v Hs1 H1 e1 (g2.mono e1.s)⟩
theorem e_catT (ha : Ev ta Γ (.tup xs)) (hb : Ev tb Γ (.tup ys)) (hl : xs.length + ys.length ≤ 100000) : Ev (tOp (rCatA K) ta tb) Γ (.tup (xs ++ ys)) := ev_op ha hb fun Hs H vx vy s dx dy Q q => by
  cases dx with
  | @tup a vs _ h1 k1 =>
    cases dy with
    | @tup b ws _ h2 k2 =>
      refine ⟨a, b, vs, ws, rfl, rfl, SqT.of (s _ _ h1), SqT.of (s _ _ h2), by rw [k1.len, k2.len]; exact Nat.le_trans hl (by decide), fun e => ?_, fun _ e => ?_, fun _ _ p hp => ?_⟩
      · subst e; cases k1; exact q _ Hs H (.refl s) (.tup h2 k2)
      · subst e; cases k2; rw [List.append_nil] at q; exact q _ Hs H (.refl s) (.tup h1 k1)
      · exact q _ _ _ (Ext.new s hp) (.tup upd_same ((k1.app k2).mono (same_upd (s.free hp))))
theorem f_catL (ha : Ev ta Γ (.lst xs)) (hb : Ev tb Γ (.lst ys)) (hl : xs.length + ys.length ≤ 100000) : Fv (tOp rCat ta tb) Γ (xs ++ ys) := fun Hs H σ n Q q =>
  ha Hs H σ n _ fun vx Hs1 H1 e1 d1 => hb Hs1 H1 σ (n.ext e1) _ fun vy Hs2 H2 e2 d2 => by
    have d1' := d1.mono e2.s
    cases d1' with
    | @lst a vs _ h1 k1 =>
      cases d2 with
      | @lst b ws _ h2 k2 =>
        exact ⟨a, b, vs, ws, rfl, rfl, e2.e _ _ h1, e2.e _ _ h2, by rw [k1.len, k2.len]; exact Nat.le_trans hl (by decide), fun p hp =>
          q p _ Hs2 _ ((e1.trans e2).trans (Ext.newOwn e2.e hp)) ((e1.trans e2).h.free hp) (e2.e.free hp) upd_same (k1.app k2)⟩
theorem f_rep (ha : Ev ta Γ (.lst [x])) (hb : Ev tb Γ (.int i)) (hl : 0 ≤ i ∧ i ≤ 100000) : Fv (tOp rRep ta tb) Γ (List.replicate i.toNat x) := fun Hs H σ n Q q =>
  ha Hs H σ n _ fun vx Hs1 H1 e1 d1 => hb Hs1 H1 σ (n.ext e1) _ fun vy Hs2 H2 e2 d2 => by
    have d1' := d1.mono e2.s
    cases d2
    cases d1' with
    | @lst a vs _ h1 k1 =>
      cases k1 with
      | cons k0 kn =>
        cases kn
        refine ⟨a, i, _, rfl, rfl, e2.e _ _ h1, by omega, by omega, ?_, fun p hp => ?_⟩
        · show 1 * i.toNat ≤ sizeLine
          have : i.toNat ≤ 100000 := by omega
          rw [Nat.one_mul]
          exact Nat.le_trans this (by decide)
        · refine q p _ Hs2 _ ((e1.trans e2).trans (Ext.newOwn e2.e hp)) ((e1.trans e2).h.free hp) (e2.e.free hp) upd_same ?_
          have h := Ds.rep k0 i.toNat
          have e : (List.replicate i.toNat [‹V›]).flatten = List.replicate i.toNat ‹V› := by
            induction i.toNat with
            | zero => rfl
            | succ m ih => rw [List.replicate_succ, List.flatten_cons, ih, List.replicate_succ]; rfl
          first
            | exact h
            | (rw [e]; exact h)

/-! tests -/
theorem t_test {b : Bool} (h : Ev te Γ (.bl b)) : Et (tTest te) Γ b := fun Hs H σ n Q q => h Hs H σ n _ fun v Hs1 H1 e1 d1 => by cases d1; exact ⟨b, rfl, q Hs1 H1 e1⟩
theorem t_B {b : Bool} (h : Ev te Γ (.bl b)) : Et (tB te) Γ b := fun Hs H σ n Q q => h Hs H σ n _ fun v Hs1 H1 e1 d1 => by cases d1; exact ⟨b, rfl, q Hs1 H1 e1⟩
theorem t_yes : Et tYes Γ true := fun Hs H σ n Q q => q Hs H (.refl n.ex)
theorem t_and {a b : Bool} (h1 : Et t Γ a) (h2 : a = true → Et u Γ b) : Et (tAnd t u) Γ (a && b) := fun Hs H σ n Q q => h1 Hs H σ n _ fun Hs1 H1 e1 => by
  cases a with
  | true =>
    show u σ H1 Q
    exact h2 rfl Hs1 H1 σ (n.ext e1) Q fun Hs2 H2 e2 => q Hs2 H2 (e1.trans e2)
  | false => exact q Hs1 H1 e1
theorem t_or {a b : Bool} (h1 : Et t Γ a) (h2 : a = false → Et u Γ b) : Et (tOr t u) Γ (a || b) := fun Hs H σ n Q q => h1 Hs H σ n _ fun Hs1 H1 e1 => by
  cases a with
  | false =>
    show u σ H1 Q
    exact h2 rfl Hs1 H1 σ (n.ext e1) Q fun Hs2 H2 e2 => q Hs2 H2 (e1.trans e2)
  | true => exact q Hs1 H1 e1
theorem t_not {a : Bool} (h1 : Et t Γ a) : Et (tNot t) Γ (!a) := fun Hs H σ n Q q => h1 Hs H σ n _ fun Hs1 H1 e1 => q Hs1 H1 e1
theorem Et.is {a b : Bool} (h : Et t Γ a) (e : a = b) : Et t Γ b := e ▸ h
theorem Ev.is (h : Ev te Γ x) (e : x = y) : Ev te Γ y := e ▸ h
theorem Fv.is (h : Fv te Γ xs) (e : xs = ys) : Fv te Γ ys := e ▸ h
theorem e_and {a b : Bool} (h1 : Ev ta Γ (.bl a)) (h2 : a = true → Ev tb Γ (.bl b)) : Ev (tAndV ta tb) Γ (.bl (a && b)) := fun Hs H σ n Q q => h1 Hs H σ n _ fun v Hs1 H1 e1 d1 => by
  cases d1
  refine ⟨a, rfl, ?_⟩
  cases a with
  | true =>
    show tb σ H1 Q
    exact h2 rfl Hs1 H1 σ (n.ext e1) Q fun v Hs2 H2 e2 d2 => q v Hs2 H2 (e1.trans e2) d2
  | false => exact q _ Hs1 H1 e1 (.bl false)
theorem e_or {a b : Bool} (h1 : Ev ta Γ (.bl a)) (h2 : a = false → Ev tb Γ (.bl b)) : Ev (tOrV ta tb) Γ (.bl (a || b)) := fun Hs H σ n Q q => h1 Hs H σ n _ fun v Hs1 H1 e1 d1 => by
  cases d1
  refine ⟨a, rfl, ?_⟩
  cases a with
  | false =>
    show tb σ H1 Q
    exact h2 rfl Hs1 H1 σ (n.ext e1) Q fun v Hs2 H2 e2 d2 => q v Hs2 H2 (e1.trans e2) d2
  | true => exact q _ Hs1 H1 e1 (.bl true)
theorem e_not {a : Bool} (h1 : Ev ta Γ (.bl a)) : Ev (tNotV ta) Γ (.bl (!a)) := fun Hs H σ n Q q => h1 Hs H σ n _ fun v Hs1 H1 e1 d1 => by
  cases d1
  exact ⟨a, rfl, q _ Hs1 H1 e1 (.bl _)⟩
theorem e_if {b : Bool} (h : Et t Γ b) (h1 : b = true → Ev ta Γ d) (h2 : b = false → Ev tb Γ d) : Ev (tIf t ta tb) Γ d := fun Hs H σ n Q q => h Hs H σ n _ fun Hs1 H1 e1 => by
  cases b with
  | true =>
    show ta σ H1 Q
    exact h1 rfl Hs1 H1 σ (n.ext e1) Q fun v Hs2 H2 e2 d2 => q v Hs2 H2 (e1.trans e2) d2
  | false =>
    show tb σ H1 Q
    exact h2 rfl Hs1 H1 σ (n.ext e1) Q fun v Hs2 H2 e2 d2 => q v Hs2 H2 (e1.trans e2) d2
end
end DL
set_option Elab.async false
set_option linter.all false
set_option maxRecDepth 100000
set_option maxHeartbeats 2000000
namespace DL
open PySem L2 RZ

theorem Ext.mut {Hs H Hs' H' : Hp} {p : Addr} {o : HO} (x : Ext Hs H Hs' H') (hp : H p = none) (hs : Hs' p = none) : Ext Hs H Hs' (upd H' p o) := by
  refine ⟨x.s, fun b u q => ?_, fun b u q => ?_, x.f⟩
  · have e : b ≠ p := fun z => by rw [z, hs] at q; cases q
    rw [upd_ne e]; exact x.e _ _ q
  · have e : b ≠ p := fun z => by rw [z, hp] at q; cases q
    rw [upd_ne e]; exact x.h _ _ q

/-! ### what is walked -/
def YOk (Hs : Hp) (Y : Nat → Hp → V → Hp → Prop) (ds : List D) : Prop := ∀ (i : Nat) (Hs1 H1 : Hp) (x : V) (H2 : Hp), Same Hs Hs1 → Same Hs1 H1 → i < ds.length → Y i H1 x H2 → ∃ d Hs2, ds[i]? = some d ∧ Ext Hs1 H1 Hs2 H2 ∧ Dn Hs2 x d
/-- a walk over data that stand still as long as what is settled does -/
def Iv (wi : TI) (Γ : Gam) (ds : List D) : Prop := ∀ Hs H σ, En Hs H σ Γ → ∀ R : It → Hp → Prop,
  (∀ J Hs' H', Ext Hs H Hs' H' → (∃ G Y, Walk J ds.length G Y ∧ (∀ H2, Same Hs' H2 → G H2) ∧ YOk Hs' Y ds) → R J H') → wi σ H R
/-- .. as long as the whole heap does -/
def Iw (wi : TI) (Γ : Gam) (ds : List D) : Prop := ∀ Hs H σ, En Hs H σ Γ → ∀ R : It → Hp → Prop,
  (∀ J Hs' H', Ext Hs H Hs' H' → (∃ G Y, Walk J ds.length G Y ∧ (∀ H2, Same H' H2 → G H2) ∧ YOk Hs' Y ds) → R J H') → wi σ H R
section
variable {Γ : Gam} {K : PySem.W.Frag} {ta tb te tl : TE} {d x y z : D} {xs ys ds : List D} {tar : TA}
theorem Iv.w {wi : TI} (h : Iv wi Γ ds) : Iw wi Γ ds := fun Hs H σ n R q => h Hs H σ n R fun J Hs' H' e ⟨G, Y, w, g, y⟩ => q J Hs' H' e ⟨G, Y, w, fun H2 s => g H2 (e.e.trans s), y⟩
theorem yat_ok {Hs : Hp} {vs : List V} (h : Ds Hs vs ds) : YOk Hs (YAt vs) ds := fun i Hs1 H1 x H2 s1 s2 hi ⟨e, hx⟩ => by
  obtain ⟨d, h1, h2⟩ := h.getV hx
  exact ⟨d, Hs1, h1, by rw [e]; exact .refl s2, h2.mono s1⟩
theorem iv_list (h : Ev tl Γ (.lst ds)) : Iv (iList K tl) Γ ds := fun Hs H σ n R q => h Hs H σ n _ fun v Hs' H' e d => by
  cases d with
  | @lst a vs _ h1 h2 =>
    refine ⟨a, rfl, ⟨vs, SqL.of (e.e _ _ h1)⟩, q _ Hs' H' e ?_⟩
    refine ⟨_, _, h2.len ▸ walk_list (xs := vs), fun H2 s => SqL.of (s _ _ h1), yat_ok h2⟩
theorem iv_tup (h : Ev tl Γ (.tup ds)) : Iv (iTup K tl) Γ ds := fun Hs H σ n R q => h Hs H σ n _ fun v Hs' H' e d => by
  cases d with
  | @tup a vs _ h1 h2 =>
    refine ⟨a, rfl, ⟨vs, SqT.of (e.e _ _ h1)⟩, q _ Hs' H' e ?_⟩
    refine ⟨_, _, h2.len ▸ walk_tup (xs := vs), fun H2 s => SqT.of (s _ _ h1), yat_ok h2⟩
theorem yfn_ok {Hs : Hp} {n : Nat} (f : Nat → Int) : YOk Hs (YFn fun i => .int (f i)) ((List.range n).map fun i => .int (f i)) := fun i Hs1 H1 x H2 s1 s2 hi ⟨e, hx⟩ => by
  rw [List.length_map, List.length_range] at hi
  exact ⟨.int (f i), Hs1, by rw [List.getElem?_map, List.getElem?_range hi]; rfl, by rw [e]; exact .refl s2, by rw [hx]; exact .int _⟩
theorem iv_rng1 {n : Int} (h : Av tar Γ [.int n]) (hn : -(2 ^ 62) ≤ n ∧ n < 2 ^ 62) : Iv (iRng1 tar) Γ ((List.range n.toNat).map fun (i : Nat) => D.int (i : Int)) := fun Hs H σ en R q => h Hs H σ en _ fun vs Hs' H' e d => by
  cases d with
  | cons d1 d2 =>
    cases d1
    cases d2
    refine ⟨n, rfl, hn.1, hn.2, q _ Hs' H' e ?_⟩
    refine ⟨_, _, by rw [List.length_map, List.length_range]; exact walk_range (lo := 0) (n := n.toNat), fun _ _ => trivial, ?_⟩
    have := yfn_ok (Hs := Hs') (n := n.toNat) fun i => (i : Int)
    intro i Hs1 H1 x H2 s1 s2 hi ⟨e1, e2⟩
    exact this i Hs1 H1 x H2 s1 s2 hi ⟨e1, by rw [e2]; show V.int (0 + (i : Int)) = V.int (i : Int); rw [Int.zero_add]⟩
theorem iv_rng2 {lo n : Int} (h : Av tar Γ [.int lo, .int n]) (hn : -(2 ^ 62) ≤ lo ∧ lo < 2 ^ 62 ∧ -(2 ^ 62) ≤ n ∧ n < 2 ^ 62) : Iv (iRng2 tar) Γ ((List.range (n - lo).toNat).map fun (i : Nat) => D.int (lo + (i : Int))) := fun Hs H σ en R q => h Hs H σ en _ fun vs Hs' H' e d => by
  cases d with
  | cons d1 d2 =>
    cases d1
    cases d2 with
    | cons d1 d2 =>
      cases d1
      cases d2
      refine ⟨lo, n, rfl, hn, q _ Hs' H' e ?_⟩
      exact ⟨_, _, by rw [List.length_map, List.length_range]; exact walk_range (lo := lo) (n := (n - lo).toNat), fun _ _ => trivial, yfn_ok fun i => lo + (i : Int)⟩
theorem ypair_ok {Hs : Hp} {n : Nat} {f g : Nat → Option V} {c : Nat → D} {k : Nat → D} (hf : ∀ i v, i < n → f i = some v → Dn Hs v (c i)) (hg : ∀ i v, i < n → g i = some v → Dn Hs v (k i)) :
    YOk Hs (YPair f g) ((List.range n).map fun i => .tup [c i, k i]) := fun i Hs1 H1 x H2 s1 s2 hi ⟨T, a, b, e1, e2, e3, e4, e5⟩ => by
  rw [List.length_map, List.length_range] at hi
  subst e1
  subst e3
  refine ⟨_, _, by rw [List.getElem?_map, List.getElem?_range hi]; rfl, Ext.new s2 e2, .tup upd_same ?_⟩
  have h1 := ((hf i a hi e4).mono s1).mono (same_upd (o := .tup [a, b]) (s2.free e2))
  have h2 := ((hg i b hi e5).mono s1).mono (same_upd (o := .tup [a, b]) (s2.free e2))
  exact .cons h1 (.cons h2 .nil)
/-- pairs (i, item) -/
def enumD (ds : List D) : List D := (List.range ds.length).map fun (i : Nat) => D.tup [.int (i : Int), ds.getD i .non]
theorem getD_of {α : Type} {l : List α} {i : Nat} {a b : α} (h : l[i]? = some a) : l.getD i b = a := by rw [List.getD_eq_getElem?_getD, h]; rfl
theorem iv_enum (h : Av tar Γ [.lst ds]) : Iv (iEnum K tar) Γ (enumD ds) := fun Hs H σ en R q => h Hs H σ en _ fun vs Hs' H' e d => by
  cases d with
  | cons d1 d2 =>
    cases d2
    cases d1 with
    | @lst a ws _ h1 h2 =>
      refine ⟨a, ws, rfl, SqL.of (e.e _ _ h1), q _ Hs' H' e ?_⟩
      refine ⟨_, _, by unfold enumD; rw [List.length_map, List.length_range, ← h2.len]; exact walk_enum (xs := ws), fun H2 s => SqL.of (s _ _ h1), ?_⟩
      refine ypair_ok (fun i v hi hv => ?_) fun i v hi hv => ?_
      · cases hv; exact .int _
      · obtain ⟨d, g1, g2⟩ := h2.getV hv
        rw [getD_of g1]
        exact g2
theorem iw_enumO {k : Nat} (h : Γ[k]? = some (.own ds)) : Iw (iEnum K (tCons (tVar k) tNil)) Γ (enumD ds) := fun Hs H σ en R q => by
  obtain ⟨l, vs, h1, h2, h3, h4⟩ := en.own k ds h
  refine ⟨_, h1, l, vs, rfl, SqL.of h3, q _ Hs H (.refl en.ex) ?_⟩
  refine ⟨_, _, by unfold enumD; rw [List.length_map, List.length_range, ← h4.len]; exact walk_enum (xs := vs), fun H2 s => SqL.of (s _ _ h3), ?_⟩
  refine ypair_ok (fun i v hi hv => ?_) fun i v hi hv => ?_
  · cases hv; exact .int _
  · obtain ⟨d, g1, g2⟩ := h4.getV hv
    rw [getD_of g1]
    exact g2
/-- pairs of two -/
def zipD (xs ys : List D) : List D := (List.range (min xs.length ys.length)).map fun (i : Nat) => D.tup [xs.getD i .non, ys.getD i .non]
theorem iv_zipL (h : Av tar Γ [.lst xs, .lst ys]) : Iv (iZipA K tar) Γ (zipD xs ys) := fun Hs H σ en R q => h Hs H σ en _ fun vs Hs' H' e d => by
  cases d with
  | cons d1 d2 =>
    cases d2 with
    | cons d2 d3 =>
      cases d3
      cases d1 with
      | @lst a ws _ h1 h2 =>
        cases d2 with
        | @lst b us _ k1 k2 =>
          refine ⟨a, b, ws, us, rfl, .inl ⟨SqL.of (e.e _ _ h1), SqL.of (e.e _ _ k1), q _ Hs' H' e ?_⟩⟩
          refine ⟨_, _, walk_zip (xs := ws) (ys := us) (by unfold zipD; rw [List.length_map, List.length_range, h2.len, k2.len]), fun H2 s => ⟨SqL.of (s _ _ h1), SqL.of (s _ _ k1)⟩, ?_⟩
          refine ypair_ok (fun i v hi hv => ?_) fun i v hi hv => ?_
          · obtain ⟨d, g1, g2⟩ := h2.getV hv
            rw [getD_of g1]; exact g2
          · obtain ⟨d, g1, g2⟩ := k2.getV hv
            rw [getD_of g1]; exact g2
end
theorem walk_zipT {K : PySem.W.Frag} {a b : Addr} {xs ys : List V} {n : Nat} (hn : n = min xs.length ys.length) : Walk (ItzT K a b) n (fun H => SqT K H a xs ∧ SqT K H b ys) (YPair (fun i => xs[i]?) (fun i => ys[i]?)) := by
  subst hn
  refine ⟨fun i _ hi q => ?_, fun _ q => ⟨xs, ys, q.1, q.2, by omega⟩, fun i H v H' _ q y => ?_⟩
  · have h1 : i < xs.length := by omega
    have h2 : i < ys.length := by omega
    exact ⟨xs, ys, xs[i], ys[i], q.1, q.2, by simp [h1], by simp [h2]⟩
  · obtain ⟨T, x, z, h1, h2, h3, h4, h5⟩ := y
    exact ⟨T, x, z, h1, h2, h3, h4 xs q.1, h5 ys q.2⟩
section
variable {Γ : Gam} {K : PySem.W.Frag} {ta tb te tl : TE} {d x y z : D} {xs ys ds : List D} {tar : TA}
theorem iv_zipT (h : Av tar Γ [.tup xs, .tup ys]) : Iv (iZipA K tar) Γ (zipD xs ys) := fun Hs H σ en R q => h Hs H σ en _ fun vs Hs' H' e d => by
  cases d with
  | cons d1 d2 =>
    cases d2 with
    | cons d2 d3 =>
      cases d3
      cases d1 with
      | @tup a ws _ h1 h2 =>
        cases d2 with
        | @tup b us _ k1 k2 =>
          refine ⟨a, b, ws, us, rfl, .inr ⟨SqT.of (e.e _ _ h1), SqT.of (e.e _ _ k1), q _ Hs' H' e ?_⟩⟩
          refine ⟨_, _, walk_zipT (xs := ws) (ys := us) (by unfold zipD; rw [List.length_map, List.length_range, h2.len, k2.len]), fun H2 s => ⟨SqT.of (s _ _ h1), SqT.of (s _ _ k1)⟩, ?_⟩
          refine ypair_ok (fun i v hi hv => ?_) fun i v hi hv => ?_
          · obtain ⟨d, g1, g2⟩ := h2.getV hv
            rw [getD_of g1]; exact g2
          · obtain ⟨d, g1, g2⟩ := k2.getV hv
            rw [getD_of g1]; exact g2

/-! ### targets -/
/-- a target takes a datum: the slots ps alone change, to data -/
def Gv (g : TG) (ps : List Nat) (Γ : Gam) (d : D) (Γ' : Gam) : Prop := ∀ Hs H σ v, En Hs H σ Γ → Dn Hs v d → ∀ Q : L2.St → Hp → Prop,
  (∀ σ', En Hs H σ' Γ' → (∀ vs : List Nat, (∀ p ∈ ps, p ∈ vs) → wipe σ' vs = wipe σ vs) → (∀ (j : Nat) (s : Sl), Γ'[j]? = some s → s.mu = true → Γ[j]? = some s ∧ σ'[j]? = σ[j]?) → Q σ' H) → g v σ H Q
def Gvs (g : TGs) (ps : List Nat) (Γ : Gam) (ds : List D) (Γ' : Gam) : Prop := ∀ Hs H σ vs, En Hs H σ Γ → Ds Hs vs ds → ∀ Q : L2.St → Hp → Prop,
  (∀ σ', En Hs H σ' Γ' → (∀ ws : List Nat, (∀ p ∈ ps, p ∈ ws) → wipe σ' ws = wipe σ ws) → (∀ (j : Nat) (s : Sl), Γ'[j]? = some s → s.mu = true → Γ[j]? = some s ∧ σ'[j]? = σ[j]?) → Q σ' H) → g vs σ H Q
theorem wipe_set {σ : L2.St} {i : Nat} {x : Option V} : ∀ {vs : List Nat}, i ∈ vs → wipe (σ.set i x) vs = wipe σ vs
  | v :: vs, h => by
    show (wipe (σ.set i x) vs).set v none = (wipe σ vs).set v none
    by_cases hv : i ∈ vs
    · rw [wipe_set hv]
    · have e : i = v := by
        rcases List.mem_cons.mp h with q | q
        · exact q
        · exact absurd q hv
      subst e
      have : ∀ {σ : L2.St} {ws : List Nat}, i ∉ ws → wipe (σ.set i x) ws = (wipe σ ws).set i x := by
        intro σ ws
        induction ws with
        | nil => intro _; rfl
        | cons w ws ih =>
          intro hw
          have h1 : i ≠ w := fun z => hw (by rw [z]; exact List.mem_cons_self)
          have h2 : i ∉ ws := fun z => hw (List.mem_cons_of_mem _ z)
          show (wipe (σ.set i x) ws).set w none = ((wipe σ ws).set w none).set i x
          rw [ih h2, List.set_comm _ _ h1]
      rw [this hv, List.set_set]
theorem wipe_wipe {σ : L2.St} (vs : List Nat) : wipe (wipe σ vs) vs = wipe σ vs := by
  have key : ∀ (ws : List Nat), (∀ w ∈ ws, w ∈ vs) → wipe (wipe σ ws) vs = wipe σ vs := by
    intro ws
    induction ws with
    | nil => intro _; rfl
    | cons w ws ih =>
      intro h
      show wipe ((wipe σ ws).set w none) vs = wipe σ vs
      rw [wipe_set (h w List.mem_cons_self)]
      exact ih fun v hv => h v (List.mem_cons_of_mem _ hv)
  exact key vs fun _ h => h
theorem gv_name {j : Nat} : Gv (gName j) [j] Γ d (Γ.set j (.dat d)) := fun Hs H σ v n dv Q q =>
  q _ (n.set dv) (fun vs h => wipe_set (h j List.mem_cons_self)) fun k s hk m => by
    rcases get_set hk with ⟨_, h1, _⟩ | ⟨ne, h1⟩
    · rw [h1] at m; cases m
    · exact ⟨h1, List.getElem?_set_ne (Ne.symm ne)⟩
theorem gvs_nil : Gvs gNil [] Γ [] Γ := fun Hs H σ v n dv Q q => by
  cases dv
  exact ⟨rfl, q σ n (fun _ _ => rfl) fun _ _ h _ => ⟨h, rfl⟩⟩
theorem gvs_cons {g : TG} {gs : TGs} {ps qs : List Nat} {Γ1 Γ2 : Gam} (h1 : Gv g ps Γ d Γ1) (h2 : Gvs gs qs Γ1 ds Γ2) : Gvs (gCons g gs) (ps ++ qs) Γ (d :: ds) Γ2 := fun Hs H σ v n dv Q q => by
  cases dv with
  | cons dv dr =>
    refine ⟨_, _, rfl, h1 Hs H σ _ n dv _ fun σ1 n1 w1 k1 => h2 Hs H σ1 _ n1 dr _ fun σ2 n2 w2 k2 => q σ2 n2 (fun vs hv => ?_) fun j s hj m => ?_⟩
    · exact (w2 vs fun p hp => hv p (List.mem_append_right _ hp)).trans (w1 vs fun p hp => hv p (List.mem_append_left _ hp))
    · obtain ⟨a, b⟩ := k2 j s hj m
      obtain ⟨a', b'⟩ := k1 j s a m
      exact ⟨a', b.trans b'⟩
theorem gv_tup {gs : TGs} {ps : List Nat} {n : Nat} {Γ1 : Gam} (hn : ds.length = n) (h : Gvs gs ps Γ ds Γ1) : Gv (gTup K n gs) ps Γ (.tup ds) Γ1 := fun Hs H σ v en dv Q q => by
  cases dv with
  | @tup a vs _ h1 h2 => exact ⟨a, vs, rfl, SqT.of (en.ex _ _ h1), by rw [h2.len, hn], h Hs H σ vs en h2 Q q⟩
theorem gv_t2 {i j : Nat} {x y : D} : Gv (gTup K 2 (gCons (gName i) (gCons (gName j) gNil))) [i, j] Γ (.tup [x, y]) ((Γ.set i (.dat x)).set j (.dat y)) :=
  gv_tup rfl (gvs_cons gv_name (gvs_cons gv_name gvs_nil))
theorem gv_t3 {i j k : Nat} {x y z : D} : Gv (gTup K 3 (gCons (gName i) (gCons (gName j) (gCons (gName k) gNil)))) [i, j, k] Γ (.tup [x, y, z]) (((Γ.set i (.dat x)).set j (.dat y)).set k (.dat z)) :=
  gv_tup rfl (gvs_cons gv_name (gvs_cons gv_name (gvs_cons gv_name gvs_nil)))

/-! ### list comprehensions -/
theorem map_take_succ {α β : Type} {as : List α} {i : Nat} {a : α} {p : α → Bool} {f : α → β} (h : as[i]? = some a) : ((as.take (i + 1)).filter p).map f = ((as.take i).filter p).map f ++ (if p a = true then [f a] else []) := by
  rw [List.take_add_one, h, List.filter_append, List.map_append]
  congr 1
  show ([a].filter p).map f = _
  rw [List.filter_cons]
  split <;> rfl
theorem fv_lcw {α : Type} {wi : TI} {g : TG} {tt : TT} {vs : List Nat} {as : List α} {c : α → D} {p : α → Bool} {f : α → D} (hi : Iw wi Γ (as.map c)) (hl : as.length ≤ 100000)
    (hb : ∀ a ∈ as, ∃ ps Γ', Gv g ps (wipeE Γ vs) (c a) Γ' ∧ (∀ q ∈ ps, q ∈ vs) ∧ Et tt Γ' (p a) ∧ (p a = true → Ev te Γ' (f a))) : Fv (tLc wi g tt te vs) Γ ((as.filter p).map f) := fun Hs H σ n Q q =>
  hi Hs H σ n _ fun J Hs1 H1 e1 ⟨G, Y, w, hG, hY⟩ D hD => by
    rw [List.length_map] at w
    refine lc_it w (Qd := fun H' => Q (.ref D) H') (fun i H' => ∃ Hs' acc, Ext Hs1 H1 Hs' H' ∧ Hs' D = none ∧ H' D = some (.lst acc) ∧ Ds Hs' acc (((as.take i).filter p).map f))
      ⟨Hs1, [], Ext.newOwn e1.e hD, e1.e.free hD, upd_same, .nil⟩ (fun i H' _ ⟨Hs', acc, e, _, _, _⟩ => hG H' e.h) ?_ ?_
    · rintro i x H' H2 hi ⟨Hs', acc, e, hD1, hD2, hds⟩ y
      obtain ⟨d, Hs2, g1, e2, dx⟩ := hY i Hs' H' x H2 e.s e.e (by rw [List.length_map]; exact hi) y
      obtain ⟨a, ha⟩ : ∃ a, as[i]? = some a := ⟨as[i], List.getElem?_eq_getElem hi⟩
      rw [List.getElem?_map, ha] at g1
      cases g1
      obtain ⟨ps, Γ', hg, hps, ht, he⟩ := hb a (List.mem_of_getElem? ha)
      have e3 := e.trans e2
      have nD : Hs2 D = none := e2.f D (ne_none hD2) hD1
      have kD : H2 D = some (.lst acc) := e2.h _ _ hD2
      refine hg Hs2 H2 _ x (((n.ext e1).ext e3).wipe vs) dx _ fun σ2 n2 w2 _ => ⟨(w2 vs hps).trans (wipe_wipe vs), ?_⟩
      refine ht Hs2 H2 σ2 n2 _ fun Hs3 H3 e4 => ?_
      have nD3 := e4.f D (ne_none kD) nD
      have kD3 := e4.h _ _ kD
      have base := hds.mono (e2.s.trans e4.s)
      have succ := map_take_succ (p := p) (f := f) ha
      cases hp : p a with
      | true =>
        show te σ2 H3 _
        refine he hp Hs3 H3 σ2 (n2.ext e4) _ fun v Hs4 H4 e5 dv => ?_
        refine ⟨acc, e5.h _ _ kD3, ?_, Hs4, acc ++ [v], ((e3.trans e4).trans e5).mut hD (e5.f D (ne_none kD3) nD3), e5.f D (ne_none kD3) nD3, upd_same, ?_⟩
        · have l1 := hds.len
          have l2 : (((as.take i).filter p).map f).length ≤ as.length := by
            rw [List.length_map]
            refine Nat.le_trans (List.length_filter_le _ _) ?_
            rw [List.length_take]; exact Nat.min_le_right _ _
          exact Nat.lt_of_le_of_lt (Nat.le_trans (by rw [l1]; exact l2) hl) (by decide)
        · rw [succ, if_pos hp]
          exact (base.mono e5.s).app (.one dv)
      | false =>
        refine ⟨Hs3, acc, e3.trans e4, nD3, kD3, ?_⟩
        rw [succ, if_neg (by rw [hp]; decide), List.append_nil]
        exact base
    · rintro H' ⟨Hs', acc, e, hD1, hD2, hds⟩
      rw [List.take_length] at hds
      exact q D acc Hs' H' (e1.trans e) (e1.h.free hD) hD1 hD2 hds
theorem fv_lc {α : Type} {wi : TI} {g : TG} {tt : TT} {vs : List Nat} {as : List α} {c : α → D} {p : α → Bool} {f : α → D} (hi : Iv wi Γ (as.map c)) (hl : as.length ≤ 100000)
    (hb : ∀ a ∈ as, ∃ ps Γ', Gv g ps (wipeE Γ vs) (c a) Γ' ∧ (∀ q ∈ ps, q ∈ vs) ∧ Et tt Γ' (p a) ∧ (p a = true → Ev te Γ' (f a))) : Fv (tLc wi g tt te vs) Γ ((as.filter p).map f) := fv_lcw hi.w hl hb
/-- no test -/
theorem fv_lc1 {α : Type} {wi : TI} {g : TG} {vs : List Nat} {as : List α} {c : α → D} {f : α → D} (hi : Iv wi Γ (as.map c)) (hl : as.length ≤ 100000)
    (hb : ∀ a ∈ as, ∃ ps Γ', Gv g ps (wipeE Γ vs) (c a) Γ' ∧ (∀ q ∈ ps, q ∈ vs) ∧ Ev te Γ' (f a)) : Fv (tLc wi g tYes te vs) Γ (as.map f) := by
  have h := fv_lc (p := fun _ => true) (tt := tYes) hi hl (f := f) (te := te) (g := g) (vs := vs) fun a ha => by
    obtain ⟨ps, Γ', h1, h2, h3⟩ := hb a ha
    exact ⟨ps, Γ', h1, h2, t_yes, fun _ => h3⟩
  rwa [List.filter_eq_self.mpr (fun _ _ => rfl)] at h
end
end DL
set_option Elab.async false
set_option linter.all false
set_option maxRecDepth 100000
set_option maxHeartbeats 2000000
namespace DL
open PySem L2 RZ

section
variable {Γ : Gam} {K : PySem.W.Frag} {ta tb te tl : TE} {d x y z : D} {xs ys ds : List D} {tar : TA} {i j : Int}
/-! ### built-in calls -/
abbrev rLenS (K : PySem.W.Frag) : List V → Hp → VK → Prop := fun xs H Q => ∃ p ys, xs = [.ref p] ∧ (SqL K H p ys ∨ SqT K H p ys) ∧ Q (.int ys.length) H
theorem e_lenT (h : Ev te Γ (.tup ds)) : Ev (tCB (rLenS K) (tCons te tNil)) Γ (.int (ds.length : Int)) := ev_cb (av_cons h av_nil) fun Hs H vs s dv Q q => by
  cases dv with
  | cons d1 d2 =>
    cases d2
    cases d1 with
    | tup h1 h2 => exact ⟨_, _, rfl, .inr (SqT.of (s _ _ h1)), by rw [h2.len]; exact q _ Hs H (.refl s) (.int _)⟩
theorem e_lenL (h : Ev te Γ (.lst ds)) : Ev (tCB (rLenS K) (tCons te tNil)) Γ (.int (ds.length : Int)) := ev_cb (av_cons h av_nil) fun Hs H vs s dv Q q => by
  cases dv with
  | cons d1 d2 =>
    cases d2
    cases d1 with
    | lst h1 h2 => exact ⟨_, _, rfl, .inl (SqL.of (s _ _ h1)), by rw [h2.len]; exact q _ Hs H (.refl s) (.int _)⟩
theorem e_lenO {k : Nat} (h : Γ[k]? = some (.own ds)) : Ev (tCB (rLenS K) (tCons (tVar k) tNil)) Γ (.int (ds.length : Int)) := fun Hs H σ n Q q => by
  obtain ⟨l, vs, h1, h2, h3, h4⟩ := n.own k ds h
  exact ⟨_, h1, l, vs, rfl, .inl (SqL.of h3), by rw [h4.len]; exact q _ Hs H (.refl n.ex) (.int _)⟩
abbrev rAbs : List V → Hp → VK → Prop := fun xs H Q => ∃ i, xs = [.int i] ∧ Q (.int (if i < 0 then -i else i)) H
theorem abs_if (i : Int) : (if i < 0 then -i else i) = (i.natAbs : Int) := by split <;> omega
theorem e_abs (h : Ev te Γ (.int i)) : Ev (tCB rAbs (tCons te tNil)) Γ (.int (i.natAbs : Int)) := ev_cb (av_cons h av_nil) fun Hs H vs s dv Q q => by
  cases dv with
  | cons d1 d2 => cases d2; cases d1; exact ⟨i, rfl, by rw [abs_if]; exact q _ Hs H (.refl s) (.int _)⟩
abbrev rInt1 : List V → Hp → VK → Prop := fun xs H Q => (∃ i, xs = [.int i] ∧ Q (.int i) H) ∨ ∃ k, xs = [.bl k] ∧ Q (.int (if k then 1 else 0)) H
theorem e_int (h : Ev te Γ (.int i)) : Ev (tCB rInt1 (tCons te tNil)) Γ (.int i) := ev_cb (av_cons h av_nil) fun Hs H vs s dv Q q => by
  cases dv with
  | cons d1 d2 => cases d2; cases d1; exact .inl ⟨i, rfl, q _ Hs H (.refl s) (.int _)⟩
theorem e_intB {b : Bool} (h : Ev te Γ (.bl b)) : Ev (tCB rInt1 (tCons te tNil)) Γ (.int (if b then 1 else 0)) := ev_cb (av_cons h av_nil) fun Hs H vs s dv Q q => by
  cases dv with
  | cons d1 d2 => cases d2; cases d1; exact .inr ⟨b, rfl, q _ Hs H (.refl s) (.int _)⟩
abbrev rMax2 : List V → Hp → VK → Prop := fun xs H Q => ∃ i j, xs = [.int i, .int j] ∧ Q (.int (if j > i then j else i)) H
abbrev rMin2 : List V → Hp → VK → Prop := fun xs H Q => ∃ i j, xs = [.int i, .int j] ∧ Q (.int (if j < i then j else i)) H
theorem e_max2 (ha : Ev ta Γ (.int i)) (hb : Ev tb Γ (.int j)) : Ev (tCB rMax2 (tCons ta (tCons tb tNil))) Γ (.int (max i j)) := ev_cb (av_cons ha (av_cons hb av_nil)) fun Hs H vs s dv Q q => by
  cases dv with
  | cons d1 d2 =>
    cases d2 with
    | cons d2 d3 =>
      cases d3; cases d1; cases d2
      refine ⟨i, j, rfl, ?_⟩
      rw [show (if j > i then j else i) = max i j by split <;> omega]
      exact q _ Hs H (.refl s) (.int _)
theorem e_min2 (ha : Ev ta Γ (.int i)) (hb : Ev tb Γ (.int j)) : Ev (tCB rMin2 (tCons ta (tCons tb tNil))) Γ (.int (min i j)) := ev_cb (av_cons ha (av_cons hb av_nil)) fun Hs H vs s dv Q q => by
  cases dv with
  | cons d1 d2 =>
    cases d2 with
    | cons d2 d3 =>
      cases d3; cases d1; cases d2
      refine ⟨i, j, rfl, ?_⟩
      rw [show (if j < i then j else i) = min i j by split <;> omega]
      exact q _ Hs H (.refl s) (.int _)
theorem e_gcd (ha : Ev ta Γ (.int i)) (hb : Ev tb Γ (.int j)) : Ev (tCB rGcd (tCons ta (tCons tb tNil))) Γ (.int ((Nat.gcd i.natAbs j.natAbs : Nat) : Int)) := ev_cb (av_cons ha (av_cons hb av_nil)) fun Hs H vs s dv Q q => by
  cases dv with
  | cons d1 d2 =>
    cases d2 with
    | cons d2 d3 =>
      cases d3; cases d1; cases d2
      exact ⟨i, j, rfl, q _ Hs H (.refl s) (.int _)⟩
abbrev rDivmod : List V → Hp → VK → Prop := fun xs H Q => ∃ i j, xs = [.int i, .int j] ∧ CDiv i j ∧ ∀ p, H p = none → Q (.ref p) (upd H p (.tup [.int (i / j), .int (i % j)]))
theorem e_divmod (ha : Ev ta Γ (.int i)) (hb : Ev tb Γ (.int j)) (hc : 0 < j ∧ j < 1073741824) : Ev (tCB rDivmod (tCons ta (tCons tb tNil))) Γ (.tup [.int (i / j), .int (i % j)]) := ev_cb (av_cons ha (av_cons hb av_nil)) fun Hs H vs s dv Q q => by
  cases dv with
  | cons d1 d2 =>
    cases d2 with
    | cons d2 d3 =>
      cases d3; cases d1; cases d2
      exact ⟨i, j, rfl, hc, fun p hp => q _ _ _ (Ext.new s hp) (.tup upd_same (.cons (.int _) (.cons (.int _) .nil)))⟩
theorem e_sum {ns : List Int} (h : Ev te Γ (.lst (ns.map D.int))) : Ev (tCB (rSum K) (tCons te tNil)) Γ (.int ns.sum) := ev_cb (av_cons h av_nil) fun Hs H vs s dv Q q => by
  cases dv with
  | cons d1 d2 =>
    cases d2
    cases d1 with
    | lst h1 h2 => exact ⟨_, ns, rfl, SqL.of (by rw [← h2.ofInts]; exact s _ _ h1), q _ Hs H (.refl s) (.int _)⟩
theorem e_max {ns : List Int} {m : Int} (h : Ev te Γ (.lst (ns.map D.int))) (hm : m ∈ ns) (hx : ∀ y ∈ ns, y ≤ m) : Ev (tCB (rMax K) (tCons te tNil)) Γ (.int m) := ev_cb (av_cons h av_nil) fun Hs H vs s dv Q q => by
  cases dv with
  | cons d1 d2 =>
    cases d2
    cases d1 with
    | lst h1 h2 =>
      refine ⟨_, ns, rfl, SqL.of (by rw [← h2.ofInts]; exact s _ _ h1), List.length_pos_of_mem hm, fun k hk hy => ?_⟩
      rw [show k = m from Int.le_antisymm (hx k hk) (hy m hm)]
      exact q _ Hs H (.refl s) (.int _)
theorem e_min {ns : List Int} {m : Int} (h : Ev te Γ (.lst (ns.map D.int))) (hm : m ∈ ns) (hx : ∀ y ∈ ns, m ≤ y) : Ev (tCB (rMin K) (tCons te tNil)) Γ (.int m) := ev_cb (av_cons h av_nil) fun Hs H vs s dv Q q => by
  cases dv with
  | cons d1 d2 =>
    cases d2
    cases d1 with
    | lst h1 h2 =>
      refine ⟨_, ns, rfl, SqL.of (by rw [← h2.ofInts]; exact s _ _ h1), List.length_pos_of_mem hm, fun k hk hy => ?_⟩
      rw [show k = m from Int.le_antisymm (hy m hm) (hx k hk)]
      exact q _ Hs H (.refl s) (.int _)
theorem e_all {bs : List Bool} (h : Ev te Γ (.lst (bs.map D.bl))) : Ev (tCB (rAll K) (tCons te tNil)) Γ (.bl (bs.all id)) := ev_cb (av_cons h av_nil) fun Hs H vs s dv Q q => by
  cases dv with
  | cons d1 d2 =>
    cases d2
    cases d1 with
    | lst h1 h2 => exact ⟨_, bs, rfl, SqL.of (by rw [← h2.ofBools]; exact s _ _ h1), q _ Hs H (.refl s) (.bl _)⟩
theorem e_any {bs : List Bool} (h : Ev te Γ (.lst (bs.map D.bl))) : Ev (tCB (rAny K) (tCons te tNil)) Γ (.bl (bs.any id)) := ev_cb (av_cons h av_nil) fun Hs H vs s dv Q q => by
  cases dv with
  | cons d1 d2 =>
    cases d2
    cases d1 with
    | lst h1 h2 => exact ⟨_, bs, rfl, SqL.of (by rw [← h2.ofBools]; exact s _ _ h1), q _ Hs H (.refl s) (.bl _)⟩
abbrev rTupOf (K : PySem.W.Frag) : List V → Hp → VK → Prop := fun xs H Q => ∃ p ys, xs = [.ref p] ∧ ((SqL K H p ys ∧ ∀ l, H l = none → Q (.ref l) (upd H l (.tup ys))) ∨ (SqT K H p ys ∧ Q (.ref p) H))
theorem e_tupleL (h : Ev te Γ (.lst ds)) : Ev (tCB (rTupOf K) (tCons te tNil)) Γ (.tup ds) := ev_cb (av_cons h av_nil) fun Hs H vs s dv Q q => by
  cases dv with
  | cons d1 d2 =>
    cases d2
    cases d1 with
    | lst h1 h2 => exact ⟨_, _, rfl, .inl ⟨SqL.of (s _ _ h1), fun l hl => q _ _ _ (Ext.new s hl) (.tup upd_same (h2.mono (same_upd (s.free hl))))⟩⟩
theorem e_tupleO {k : Nat} (h : Γ[k]? = some (.own ds)) : Ev (tCB (rTupOf K) (tCons (tVar k) tNil)) Γ (.tup ds) := fun Hs H σ n Q q => by
  obtain ⟨l, vs, h1, h2, h3, h4⟩ := n.own k ds h
  exact ⟨_, h1, l, vs, rfl, .inl ⟨SqL.of h3, fun p hp => q _ _ _ (Ext.new n.ex hp) (.tup upd_same (h4.mono (same_upd (n.ex.free hp))))⟩⟩
abbrev rLstOf (K : PySem.W.Frag) : List V → Hp → VK → Prop := fun xs H Q => ∃ p ys, xs = [.ref p] ∧ (SqL K H p ys ∨ SqT K H p ys) ∧ ∀ l, H l = none → Q (.ref l) (upd H l (.lst ys))
theorem f_listT (h : Ev te Γ (.tup ds)) : Fv (tCB (rLstOf K) (tCons te tNil)) Γ ds := fv_cb (av_cons h av_nil) fun Hs H vs s dv Q q => by
  cases dv with
  | cons d1 d2 =>
    cases d2
    cases d1 with
    | tup h1 h2 => exact ⟨_, _, rfl, .inr (SqT.of (s _ _ h1)), fun l hl => q l _ Hs _ (Ext.newOwn s hl) hl (s.free hl) upd_same h2⟩
theorem f_listL (h : Ev te Γ (.lst ds)) : Fv (tCB (rLstOf K) (tCons te tNil)) Γ ds := fv_cb (av_cons h av_nil) fun Hs H vs s dv Q q => by
  cases dv with
  | cons d1 d2 =>
    cases d2
    cases d1 with
    | lst h1 h2 => exact ⟨_, _, rfl, .inl (SqL.of (s _ _ h1)), fun l hl => q l _ Hs _ (Ext.newOwn s hl) hl (s.free hl) upd_same h2⟩

/-! isinstance -/
def D.tyn : D → String
  | .non => "NoneType"
  | .bl _ => "bool"
  | .int _ => "int"
  | .lst _ => "list"
  | .tup _ => "tuple"
theorem Dn.ty {H : Hp} {v : V} (h : Dn H v d) : TyX K H v (.type d.tyn) := by
  cases h with
  | non => exact .base .non
  | bl b => exact .base (.bl b)
  | int i => exact .base (.int i)
  | lst h _ => exact .base (.lst h)
  | tup h _ => exact .base (.tup h)
theorem e_isi {T : String} {b : Bool} (ha : Ev ta Γ x) (hb : kitB x.tyn T = some b) : Ev (tCB (rIsi K) (tCons ta (tCons (tC (.ty T)) tNil))) Γ (.bl b) := fun Hs H σ n Q q =>
  ha Hs H σ n _ fun v Hs1 H1 e1 d1 => ⟨v, _, _, _, b, rfl, .ty T, ((d1.mono e1.e).ty), kit_ty hb, q _ Hs1 H1 e1 (.bl b)⟩
theorem e_isi2 {A B : String} {a b : Bool} (ha : Ev ta Γ x) (h1 : kitB x.tyn A = some a) (h2 : kitB x.tyn B = some b) : Ev (tCB (rIsiT K) (tCons ta (tCons (tTup (tCons (tC (.ty A)) (tCons (tC (.ty B)) tNil))) tNil))) Γ (.bl (a || b)) := fun Hs H σ n Q q =>
  ha Hs H σ n _ fun v Hs1 H1 e1 d1 => ⟨by show 2 ≤ sizeLine; decide, fun p hp => by
    have e2 := Ext.new (o := .tup [.ty A, .ty B]) e1.e hp
    refine ⟨v, p, _, _, _, a || b, rfl, upd_same, .cons (.ty A) (.cons (.ty B) .nil), ((d1.mono e1.e).mono e2.h).ty, kitAny_cons (kit_ty h1) (fun ea => ?_) (fun ea => by rw [ea]; rfl), q _ _ _ (e1.trans e2) (.bl _)⟩
    rw [ea]
    refine kitAny_cons (kit_ty h2) (fun eb => ?_) (fun eb => by rw [eb]; rfl)
    rw [eb]
    exact kitAny_nil⟩
def D.isTup : D → Bool
  | .tup _ => true
  | _ => false
def D.isLst : D → Bool
  | .lst _ => true
  | _ => false
def D.isBl : D → Bool
  | .bl _ => true
  | _ => false
/-- a number, True and False too -/
def D.isI : D → Bool
  | .int _ => true
  | .bl _ => true
  | _ => false
theorem k_tup : ∀ x : D, kitB x.tyn "tuple" = some x.isTup
  | .non => show kitB "NoneType" "tuple" = some false by decide +kernel
  | .bl _ => show kitB "bool" "tuple" = some false by decide +kernel
  | .int _ => show kitB "int" "tuple" = some false by decide +kernel
  | .lst _ => show kitB "list" "tuple" = some false by decide +kernel
  | .tup _ => show kitB "tuple" "tuple" = some true by decide +kernel
theorem k_lst : ∀ x : D, kitB x.tyn "list" = some x.isLst
  | .non => show kitB "NoneType" "list" = some false by decide +kernel
  | .bl _ => show kitB "bool" "list" = some false by decide +kernel
  | .int _ => show kitB "int" "list" = some false by decide +kernel
  | .lst _ => show kitB "list" "list" = some true by decide +kernel
  | .tup _ => show kitB "tuple" "list" = some false by decide +kernel
theorem k_bool : ∀ x : D, kitB x.tyn "bool" = some x.isBl
  | .non => show kitB "NoneType" "bool" = some false by decide +kernel
  | .bl _ => show kitB "bool" "bool" = some true by decide +kernel
  | .int _ => show kitB "int" "bool" = some false by decide +kernel
  | .lst _ => show kitB "list" "bool" = some false by decide +kernel
  | .tup _ => show kitB "tuple" "bool" = some false by decide +kernel
theorem k_int : ∀ x : D, kitB x.tyn "int" = some x.isI
  | .non => show kitB "NoneType" "int" = some false by decide +kernel
  | .bl _ => show kitB "bool" "int" = some true by decide +kernel
  | .int _ => show kitB "int" "int" = some true by decide +kernel
  | .lst _ => show kitB "list" "int" = some false by decide +kernel
  | .tup _ => show kitB "tuple" "int" = some false by decide +kernel
theorem k_str : ∀ x : D, kitB x.tyn "str" = some false
  | .non => show kitB "NoneType" "str" = some false by decide +kernel
  | .bl _ => show kitB "bool" "str" = some false by decide +kernel
  | .int _ => show kitB "int" "str" = some false by decide +kernel
  | .lst _ => show kitB "list" "str" = some false by decide +kernel
  | .tup _ => show kitB "tuple" "str" = some false by decide +kernel

/-! slices -/
theorem ov_none : Ov tNoPart Γ none := fun Hs H σ n Q q => q Hs H (.refl n.ex)
theorem ov_some (h : Ev te Γ (.int i)) : Ov (tPart te) Γ (some i) := fun Hs H σ n Q q => h Hs H σ n _ fun v Hs1 H1 e1 d1 => by
  cases d1
  exact ⟨i, rfl, q Hs1 H1 e1⟩
def cutD (ds : List D) (lo hi : Option Int) : List D := (ds.drop (HT.sIx ds.length 0 lo)).take (HT.sIx ds.length ds.length hi - HT.sIx ds.length 0 lo)
theorem Ds.cut {H : Hp} {vs : List V} (h : Ds H vs ds) (lo hi : Option Int) : Ds H (cutV vs lo hi) (cutD ds lo hi) := by
  unfold cutV cutD
  rw [h.len]
  exact (h.drop _).take _
theorem e_sliceT {lo hi : Option Int} {to1 to2 : TO} (h : Ev te Γ (.tup ds)) (h1 : Ov to1 Γ lo) (h2 : Ov to2 Γ hi) : Ev (tSl (rSlA K) te to1 to2) Γ (.tup (cutD ds lo hi)) := fun Hs H σ n Q q =>
  h Hs H σ n _ fun v Hs1 H1 e1 d1 => h1 Hs1 H1 σ (n.ext e1) _ fun Hs2 H2 e2 => h2 Hs2 H2 σ ((n.ext e1).ext e2) _ fun Hs3 H3 e3 => by
    have d3 := (d1.mono e2.s).mono e3.s
    have e := (e1.trans e2).trans e3
    cases d3 with
    | @tup a vs _ g1 g2 =>
      refine ⟨a, vs, rfl, SqT.of (e3.e _ _ g1), fun hw => ?_, fun _ p hp => ?_⟩
      · have key : cutD ds lo hi = ds := by
          unfold cutD
          rw [g2.len] at hw
          rw [hw.1, hw.2, List.drop_zero, Nat.sub_zero, List.take_length]
        rw [key] at q
        exact q _ Hs3 H3 e (.tup g1 g2)
      · exact q _ _ _ (e.trans (Ext.new e3.e hp)) (.tup upd_same ((g2.cut lo hi).mono (same_upd (e3.e.free hp))))
theorem f_sliceL {lo hi : Option Int} {to1 to2 : TO} (h : Ev te Γ (.lst ds)) (h1 : Ov to1 Γ lo) (h2 : Ov to2 Γ hi) : Fv (tSl (rSlL K) te to1 to2) Γ (cutD ds lo hi) := fun Hs H σ n Q q =>
  h Hs H σ n _ fun v Hs1 H1 e1 d1 => h1 Hs1 H1 σ (n.ext e1) _ fun Hs2 H2 e2 => h2 Hs2 H2 σ ((n.ext e1).ext e2) _ fun Hs3 H3 e3 => by
    have d3 := (d1.mono e2.s).mono e3.s
    have e := (e1.trans e2).trans e3
    cases d3 with
    | @lst a vs _ g1 g2 =>
      exact ⟨a, vs, rfl, SqL.of (e3.e _ _ g1), fun p hp => q p _ Hs3 _ (e.trans (Ext.newOwn e3.e hp)) (e.h.free hp) (e3.e.free hp) upd_same (g2.cut lo hi)⟩
theorem f_revL (h : Ev te Γ (.lst ds)) : Fv (tRevL K te) Γ ds.reverse := fun Hs H σ n Q q =>
  h Hs H σ n _ fun v Hs1 H1 e1 d1 => by
    cases d1 with
    | @lst a vs _ g1 g2 => exact ⟨a, vs, rfl, SqL.of (e1.e _ _ g1), fun p hp => q p _ Hs1 _ (e1.trans (Ext.newOwn e1.e hp)) (e1.h.free hp) (e1.e.free hp) upd_same g2.rev⟩
end

/-! ### the base of a body: what stood at the entry -/
structure Base where
  Hs : Hp
  H : Hp
  L : Addr → Prop
structure Ok (B : Base) (Hs H : Hp) (σ : L2.St) (Γ : Gam) : Prop where
  en : En Hs H σ Γ
  s0 : Same B.Hs Hs
  f0 : ∀ a, B.H a ≠ none → B.Hs a = none → Hs a = none
  k0 : ∀ a o, B.H a = some o → ¬ B.L a → H a = some o
  p0 : ∀ a, B.H a ≠ none → H a ≠ none
  ow : ∀ (i : Nat) (ds : List D) (l : Addr), Γ[i]? = some (.own ds) → σ[i]? = some (some (.ref l)) → B.H l = none
  ti : ∀ (i n : Nat) (l : Addr), Γ[i]? = some (.tin n) → σ[i]? = some (some (.ref l)) → B.L l
section
variable {B : Base} {Hs H Hs' H' : Hp} {σ σ' : L2.St} {Γ Γ' : Gam}
theorem Ok.ext (k : Ok B Hs H σ Γ) (x : Ext Hs H Hs' H') : Ok B Hs' H' σ Γ :=
  ⟨k.en.ext x, k.s0.trans x.s, fun a h1 h2 => x.f a (k.p0 a h1) (k.f0 a h1 h2), fun a o h1 h2 => x.h _ _ (k.k0 a o h1 h2), fun a h1 z => by
    cases q : H a with
    | none => exact k.p0 a h1 q
    | some o => exact absurd z (by rw [x.h _ _ q]; intro z'; cases z'), k.ow, k.ti⟩
theorem Ok.to (k : Ok B Hs H σ Γ) (n : En Hs H σ' Γ') (h : ∀ (j : Nat) (s : Sl), Γ'[j]? = some s → s.mu = true → Γ[j]? = some s ∧ σ'[j]? = σ[j]?) : Ok B Hs H σ' Γ' :=
  ⟨n, k.s0, k.f0, k.k0, k.p0, fun i ds l h1 h2 => by
    obtain ⟨a, b⟩ := h i _ h1 rfl
    exact k.ow i ds l a (by rw [← b]; exact h2), fun i m l h1 h2 => by
    obtain ⟨a, b⟩ := h i _ h1 rfl
    exact k.ti i m l a (by rw [← b]; exact h2)⟩
theorem Ok.set {i : Nat} {v : V} {d : D} (k : Ok B Hs H σ Γ) (h : Dn Hs v d) : Ok B Hs H (σ.set i (some v)) (Γ.set i (.dat d)) :=
  k.to (k.en.set h) fun j s hj m => by
    rcases get_set hj with ⟨_, h1, _⟩ | ⟨ne, h1⟩
    · rw [h1] at m; cases m
    · exact ⟨h1, List.getElem?_set_ne (Ne.symm ne)⟩
theorem Ok.setOwn {i : Nat} {l : Addr} {vs : List V} {ds : List D} (k : Ok B Hs H σ Γ) (hs : Hs l = none) (hl : H l = some (.lst vs)) (h : Ds Hs vs ds) (hb : B.H l = none) (hn : ∀ (j : Nat) (s : Sl), Γ[j]? = some s → s.mu = true → σ[j]? ≠ some (some (.ref l))) :
    Ok B Hs H (σ.set i (some (.ref l))) (Γ.set i (.own ds)) := by
  refine ⟨k.en.setOwn hs hl h fun j s _ => hn j s, k.s0, k.f0, k.k0, k.p0, fun j es p h1 h2 => ?_, fun j m p h1 h2 => ?_⟩
  · rcases get_set h1 with ⟨rfl, _, hj⟩ | ⟨ne, h1⟩
    · rw [List.getElem?_set_self (by rw [k.en.len]; exact hj)] at h2
      cases h2
      exact hb
    · rw [List.getElem?_set_ne (Ne.symm ne)] at h2
      exact k.ow j es p h1 h2
  · rcases get_set h1 with ⟨_, h3, _⟩ | ⟨ne, h1⟩
    · cases h3
    · rw [List.getElem?_set_ne (Ne.symm ne)] at h2
      exact k.ti j m p h1 h2
end

/-! ### fewer slots known -/
inductive Le : Gam → Gam → Prop
  | nil : Le [] []
  | un {s : Sl} {Γ Δ : Gam} : Le Γ Δ → Le (s :: Γ) (.un :: Δ)
  | eq {s t : Sl} {Γ Δ : Gam} : s = t → Le Γ Δ → Le (s :: Γ) (t :: Δ)
theorem Le.refl : ∀ Γ : Gam, Le Γ Γ
  | [] => .nil
  | _ :: Γ => .eq rfl (Le.refl Γ)
theorem Le.len : ∀ {Γ Δ : Gam}, Le Γ Δ → Γ.length = Δ.length
  | _, _, .nil => rfl
  | _, _, .un h => congrArg (· + 1) h.len
  | _, _, .eq _ h => congrArg (· + 1) h.len
theorem Le.get : ∀ {Γ Δ : Gam} {i : Nat} {s : Sl}, Le Γ Δ → Δ[i]? = some s → s ≠ .un → Γ[i]? = some s
  | _, _, _, _, .nil, h, _ => by simp at h
  | _, _, 0, _, .un _, h, n => by simp at h; exact absurd h.symm n
  | _, _, 0, _, .eq e _, h, n => by simp at h ⊢; rw [e]; exact h
  | _, _, i + 1, _, .un l, h, n => by simpa using Le.get (i := i) l (by simpa using h) n
  | _, _, i + 1, _, .eq _ l, h, n => by simpa using Le.get (i := i) l (by simpa using h) n
theorem mu_ne_un {s : Sl} (h : s.mu = true) : s ≠ .un := fun z => by rw [z] at h; cases h
theorem En.le {Hs H : Hp} {σ : L2.St} {Γ Δ : Gam} (n : En Hs H σ Γ) (l : Le Γ Δ) : En Hs H σ Δ :=
  ⟨n.ex, n.len.trans l.len, fun i d h => n.dat i d (l.get h (by intro z; cases z)), fun i d h => n.own i d (l.get h (by intro z; cases z)), fun i d h => n.tin i d (l.get h (by intro z; cases z)),
   fun i j s t a h1 h2 m1 m2 e1 e2 => n.sep i j s t a (l.get h1 (mu_ne_un m1)) (l.get h2 (mu_ne_un m2)) m1 m2 e1 e2⟩
theorem Ok.le {B : Base} {Hs H : Hp} {σ : L2.St} {Γ Δ : Gam} (k : Ok B Hs H σ Γ) (l : Le Γ Δ) : Ok B Hs H σ Δ :=
  k.to (k.en.le l) fun j s h m => ⟨l.get h (mu_ne_un m), rfl⟩
theorem Ev.le {te : TE} {Γ Δ : Gam} {d : D} (h : Ev te Δ d) (l : Le Γ Δ) : Ev te Γ d := fun Hs H σ n Q q => h Hs H σ (n.le l) Q q

/-! ### statements -/
structure Out where
  nx : Gam → Prop
  rt : D → Gam → Prop
  bk : Gam → Prop
  ct : Gam → Prop
def DS (ts : TS) (Γ : Gam) (O : Out) : Prop := ∀ B Hs H σ, Ok B Hs H σ Γ → ∀ E : Ends,
  (∀ σ' Hs' H' Γ', O.nx Γ' → Ok B Hs' H' σ' Γ' → Same Hs Hs' → E.nx σ' H') → (∀ v d σ' Hs' H' Γ', O.rt d Γ' → Ok B Hs' H' σ' Γ' → Same Hs Hs' → Dn Hs' v d → E.rt v H') →
  (∀ σ' Hs' H' Γ', O.bk Γ' → Ok B Hs' H' σ' Γ' → Same Hs Hs' → E.bk σ' H') → (∀ σ' Hs' H' Γ', O.ct Γ' → Ok B Hs' H' σ' Γ' → Same Hs Hs' → E.ct σ' H') → ts E σ H
section
variable {Γ Γ' : Gam} {O : Out} {K : PySem.W.Frag} {ta tb te tl : TE} {d x y z : D} {xs ys ds : List D} {tar : TA} {i j : Int} {ts tz tu tw : TS} {tt : TT} {b : Bool}
theorem DS.le {Δ : Gam} (h : DS ts Δ O) (l : Le Γ Δ) : DS ts Γ O := fun B Hs H σ k E a b c e => h B Hs H σ (k.le l) E a b c e
theorem d_next (h : O.nx Γ) : DS tNext Γ O := fun B Hs H σ k E a _ _ _ => a σ Hs H Γ h k (.refl _)
theorem d_break (h : O.bk Γ) : DS tBreak Γ O := fun B Hs H σ k E _ _ a _ => a σ Hs H Γ h k (.refl _)
theorem d_cont (h : O.ct Γ) : DS tCont Γ O := fun B Hs H σ k E _ _ _ a => a σ Hs H Γ h k (.refl _)
theorem d_seq (h : DS ts Γ { O with nx := fun Γ' => DS tz Γ' O }) : DS (tSeq ts tz) Γ O := fun B Hs H σ k E a b c e =>
  h B Hs H σ k _ (fun σ' Hs' H' Γ' hm k' s' => hm B Hs' H' σ' k' E (fun σ2 Hs2 H2 Γ2 p k2 s2 => a σ2 Hs2 H2 Γ2 p k2 (s'.trans s2)) (fun v d σ2 Hs2 H2 Γ2 p k2 s2 => b v d σ2 Hs2 H2 Γ2 p k2 (s'.trans s2))
    (fun σ2 Hs2 H2 Γ2 p k2 s2 => c σ2 Hs2 H2 Γ2 p k2 (s'.trans s2)) (fun σ2 Hs2 H2 Γ2 p k2 s2 => e σ2 Hs2 H2 Γ2 p k2 (s'.trans s2))) b c e
theorem d_mono {O' : Out} (h : DS ts Γ O) (h1 : ∀ Γ', O.nx Γ' → O'.nx Γ') (h2 : ∀ d Γ', O.rt d Γ' → O'.rt d Γ') (h3 : ∀ Γ', O.bk Γ' → O'.bk Γ') (h4 : ∀ Γ', O.ct Γ' → O'.ct Γ') : DS ts Γ O' := fun B Hs H σ k E a b c e =>
  h B Hs H σ k E (fun σ' Hs' H' Γ' p => a σ' Hs' H' Γ' (h1 _ p)) (fun v d σ' Hs' H' Γ' p => b v d σ' Hs' H' Γ' (h2 _ _ p)) (fun σ' Hs' H' Γ' p => c σ' Hs' H' Γ' (h3 _ p)) fun σ' Hs' H' Γ' p => e σ' Hs' H' Γ' (h4 _ p)
theorem d_ret (h : Ev te Γ d) (hr : O.rt d Γ) : DS (tRet te) Γ O := fun B Hs H σ k E _ b _ _ => h Hs H σ k.en _ fun v Hs1 H1 e1 d1 => b v d σ Hs1 H1 Γ hr (k.ext e1) e1.s d1
theorem d_asgG {g : TG} {ps : List Nat} (h : Ev te Γ d) (hg : Gv g ps Γ d Γ') (hn : O.nx Γ') : DS (tAsg te g) Γ O := fun B Hs H σ k E a _ _ _ =>
  h Hs H σ k.en _ fun v Hs1 H1 e1 d1 => hg Hs1 H1 σ v (k.en.ext e1) d1 _ fun σ2 n2 _ k2 => a σ2 Hs1 H1 Γ' hn ((k.ext e1).to n2 k2) e1.s
theorem d_asg {n : Nat} (h : Ev te Γ d) (hn : O.nx (Γ.set n (.dat d))) : DS (tAsg te (gName n)) Γ O := d_asgG h gv_name hn
theorem d_asgL {n : Nat} (h : Fv te Γ ds) (hn : O.nx (Γ.set n (.own ds))) : DS (tAsg te (gName n)) Γ O := fun B Hs H σ k E a _ _ _ =>
  h Hs H σ k.en _ fun p vs Hs1 H1 e1 p1 p2 p3 d1 => a _ Hs1 H1 _ hn ((k.ext e1).setOwn p2 p3 d1 (by
    cases q : B.H p with
    | none => rfl
    | some o => exact absurd p1 (k.p0 p (ne_none q))) fun j s h1 h2 => k.en.mu_ne p1 j s h1 h2) e1.s
theorem d_if (h : Et tt Γ b) (h1 : b = true → DS tu Γ O) (h2 : b = false → DS tw Γ O) : DS (tIfS tt tu tw) Γ O := fun B Hs H σ k E a r c e =>
  h Hs H σ k.en _ fun Hs1 H1 e1 => by
    have k1 := k.ext e1
    cases b with
    | true =>
      exact h1 rfl B Hs1 H1 σ k1 E (fun σ2 Hs2 H2 Γ2 p k2 s2 => a σ2 Hs2 H2 Γ2 p k2 (e1.s.trans s2)) (fun v d σ2 Hs2 H2 Γ2 p k2 s2 => r v d σ2 Hs2 H2 Γ2 p k2 (e1.s.trans s2))
        (fun σ2 Hs2 H2 Γ2 p k2 s2 => c σ2 Hs2 H2 Γ2 p k2 (e1.s.trans s2)) (fun σ2 Hs2 H2 Γ2 p k2 s2 => e σ2 Hs2 H2 Γ2 p k2 (e1.s.trans s2))
    | false =>
      exact h2 rfl B Hs1 H1 σ k1 E (fun σ2 Hs2 H2 Γ2 p k2 s2 => a σ2 Hs2 H2 Γ2 p k2 (e1.s.trans s2)) (fun v d σ2 Hs2 H2 Γ2 p k2 s2 => r v d σ2 Hs2 H2 Γ2 p k2 (e1.s.trans s2))
        (fun σ2 Hs2 H2 Γ2 p k2 s2 => c σ2 Hs2 H2 Γ2 p k2 (e1.s.trans s2)) (fun σ2 Hs2 H2 Γ2 p k2 s2 => e σ2 Hs2 H2 Γ2 p k2 (e1.s.trans s2))
/-- what follows, in a row -/
theorem q_asg {n : Nat} (h : Ev te Γ d) (hz : DS tz (Γ.set n (.dat d)) O) : DS (tSeq (tAsg te (gName n)) tz) Γ O := d_seq (d_asg h hz)
theorem q_asgG {g : TG} {ps : List Nat} (h : Ev te Γ d) (hg : Gv g ps Γ d Γ') (hz : DS tz Γ' O) : DS (tSeq (tAsg te g) tz) Γ O := d_seq (d_asgG h hg hz)
theorem q_asgL {n : Nat} (h : Fv te Γ ds) (hz : DS tz (Γ.set n (.own ds)) O) : DS (tSeq (tAsg te (gName n)) tz) Γ O := d_seq (d_asgL h hz)
theorem q_if (h : Et tt Γ b) (h1 : b = true → DS tu Γ { O with nx := fun Γ' => DS tz Γ' O }) (h2 : b = false → DS tw Γ { O with nx := fun Γ' => DS tz Γ' O }) : DS (tSeq (tIfS tt tu tw) tz) Γ O := d_seq (d_if h h1 h2)
/-- an if without else -/
theorem q_when (h : Et tt Γ b) (h1 : b = true → DS tu Γ { O with nx := fun Γ' => DS tz Γ' O }) (h2 : b = false → DS tz Γ O) : DS (tSeq (tIfS tt tu tNext) tz) Γ O := q_if h h1 fun e => d_next (h2 e)
theorem d_par {m n : Nat} (h : Av tar Γ [x, y]) (hn : O.nx ((Γ.set m (.dat x)).set n (.dat y))) : DS (tPar m n tar) Γ O := fun B Hs H σ k E a _ _ _ =>
  h Hs H σ k.en _ fun vs Hs1 H1 e1 d1 => by
    cases d1 with
    | cons d1 d2 =>
      cases d2 with
      | cons d2 d3 =>
        cases d3
        exact ⟨_, _, rfl, a _ Hs1 H1 _ hn (((k.ext e1).set d1).set d2) e1.s⟩
theorem q_par {m n : Nat} (h : Av tar Γ [x, y]) (hz : DS tz ((Γ.set m (.dat x)).set n (.dat y)) O) : DS (tSeq (tPar m n tar) tz) Γ O := d_seq (d_par h hz)
theorem d_parL {m n : Nat} (h : Fv ta Γ ds) (h2 : Ev tb Γ y) (hn : O.nx ((Γ.set m (.own ds)).set n (.dat y))) : DS (tPar m n (tCons ta (tCons tb tNil))) Γ O := fun B Hs H σ k E a _ _ _ =>
  h Hs H σ k.en _ fun p vs Hs1 H1 e1 p1 p2 p3 d1 => h2 Hs1 H1 σ (k.en.ext e1) _ fun v Hs2 H2 e2 d2 => by
    refine ⟨_, _, rfl, a _ Hs2 H2 _ hn ((((k.ext e1).ext e2).setOwn (e2.f p (ne_none p3) p2) (e2.h _ _ p3) (d1.mono e2.s) ?_ fun j s q1 q2 => k.en.mu_ne p1 j s q1 q2).set d2) (e1.s.trans e2.s)⟩
    cases q : B.H p with
    | none => rfl
    | some o => exact absurd p1 (k.p0 p (ne_none q))
theorem q_parL {m n : Nat} (h : Fv ta Γ ds) (h2 : Ev tb Γ y) (hz : DS tz ((Γ.set m (.own ds)).set n (.dat y)) O) : DS (tSeq (tPar m n (tCons ta (tCons tb tNil))) tz) Γ O := d_seq (d_parL h h2 hz)
theorem d_par3 {l m n : Nat} (h : Av tar Γ [x, y, z]) (hn : O.nx (((Γ.set l (.dat x)).set m (.dat y)).set n (.dat z))) : DS (tPar3 l m n tar) Γ O := fun B Hs H σ k E a _ _ _ =>
  h Hs H σ k.en _ fun vs Hs1 H1 e1 d1 => by
    cases d1 with
    | cons d1 d2 =>
      cases d2 with
      | cons d2 d3 =>
        cases d3 with
        | cons d3 d4 =>
          cases d4
          exact ⟨_, _, _, rfl, a _ Hs1 H1 _ hn ((((k.ext e1).set d1).set d2).set d3) e1.s⟩
theorem q_par3 {l m n : Nat} (h : Av tar Γ [x, y, z]) (hz : DS tz (((Γ.set l (.dat x)).set m (.dat y)).set n (.dat z)) O) : DS (tSeq (tPar3 l m n tar) tz) Γ O := d_seq (d_par3 h hz)
/-- own lists -/
theorem Ok.put {B : Base} {Hs H : Hp} {σ : L2.St} {n : Nat} {l : Addr} {vs : List V} {es : List D} (k : Ok B Hs H σ Γ) (hi : Γ[n]? = some (.own es)) (hl : σ[n]? = some (some (.ref l))) (h : Ds Hs vs ds) : Ok B Hs (upd H l (.lst vs)) σ (Γ.set n (.own ds)) := by
  have hb := k.ow n es l hi hl
  refine ⟨k.en.put hi hl h, k.s0, k.f0, fun a o h1 h2 => ?_, fun a h1 h2 => ?_, fun j fs p h1 h2 => ?_, fun j m p h1 h2 => ?_⟩
  · rw [upd_ne (fun z => by rw [z, hb] at h1; cases h1)]; exact k.k0 a o h1 h2
  · rw [upd_ne (fun z => by rw [z, hb] at h1; exact h1 rfl)] at h2; exact k.p0 a h1 h2
  · rcases get_set h1 with ⟨rfl, _, _⟩ | ⟨_, h1⟩
    · rw [hl] at h2; cases h2; exact hb
    · exact k.ow j fs p h1 h2
  · rcases get_set h1 with ⟨_, h3, _⟩ | ⟨_, h1⟩
    · cases h3
    · exact k.ti j m p h1 h2
theorem d_app {n : Nat} (hi : Γ[n]? = some (.own ds)) (h : Ev te Γ d) (hz : ds.length < 100000) (hn : O.nx (Γ.set n (.own (ds ++ [d])))) : DS (tDrop (tBM K "list" rAppend (tVar n) (tCons te tNil))) Γ O := fun B Hs H σ k E a _ _ _ => by
  obtain ⟨l, vs, h1, h2, h3, h4⟩ := k.en.own n ds hi
  refine ⟨_, h1, .inl ⟨rfl, _, SqL.of h3⟩, h Hs H σ k.en _ fun v Hs1 H1 e1 d1 => ?_⟩
  refine ⟨l, vs, v, rfl, rfl, e1.h _ _ h3, by rw [h4.len]; exact Nat.lt_of_lt_of_le hz (by decide), a σ Hs1 _ _ hn ((k.ext e1).put hi h1 ((h4.mono e1.s).app (.one d1))) e1.s⟩
theorem q_app {n : Nat} (hi : Γ[n]? = some (.own ds)) (h : Ev te Γ d) (hz : ds.length < 100000) (hn : DS tz (Γ.set n (.own (ds ++ [d]))) O) : DS (tSeq (tDrop (tBM K "list" rAppend (tVar n) (tCons te tNil))) tz) Γ O := d_seq (d_app hi h hz hn)
theorem d_setL {n : Nat} {j : Nat} (hi : Γ[n]? = some (.own ds)) (h : Ev te Γ d) (ho : Ev tb Γ (.int i)) (hj : ixN ds.length i = some j) (hn : O.nx (Γ.set n (.own (ds.set j d)))) : DS (tAsg te (gSub (tVar n) tb rSetL)) Γ O := fun B Hs H σ k E a _ _ _ => by
  obtain ⟨l, vs, h1, h2, h3, h4⟩ := k.en.own n ds hi
  refine h Hs H σ k.en _ fun v Hs1 H1 e1 d1 => ⟨_, h1, ho Hs1 H1 σ (k.en.ext e1) _ fun w Hs2 H2 e2 d2 => ?_⟩
  cases d2
  refine ⟨l, vs, i, j, rfl, rfl, e2.h _ _ (e1.h _ _ h3), by rw [h4.len]; exact hj, a σ Hs2 _ _ hn (((k.ext e1).ext e2).put hi h1 (Ds.set (d1.mono e2.s) j ((h4.mono e1.s).mono e2.s))) (e1.s.trans e2.s)⟩
theorem q_setL {n : Nat} {j : Nat} (hi : Γ[n]? = some (.own ds)) (h : Ev te Γ d) (ho : Ev tb Γ (.int i)) (hj : ixN ds.length i = some j) (hn : DS tz (Γ.set n (.own (ds.set j d))) O) : DS (tSeq (tAsg te (gSub (tVar n) tb rSetL)) tz) Γ O := d_seq (d_setL hi h ho hj hn)
/-- an own list becomes a datum -/
theorem DS.settle {n : Nat} (hi : Γ[n]? = some (.own ds)) (h : DS ts (Γ.set n (.dat (.lst ds))) O) : DS ts Γ O := fun B Hs H σ k E a r c e => by
  obtain ⟨l, vs, h1, h2, h3, h4⟩ := k.en.own n ds hi
  have x : Same Hs (upd Hs l (.lst vs)) := same_upd h2
  have hb := k.ow n ds l hi h1
  have hd : Dn (upd Hs l (.lst vs)) (.ref l) (.lst ds) := .lst upd_same (h4.mono x)
  have hnl : n < σ.length := (List.getElem?_eq_some_iff.mp h1).1
  have n2 : En (upd Hs l (.lst vs)) H σ (Γ.set n (.dat (.lst ds))) := by
    refine ⟨fun b u q => ?_, by rw [List.length_set]; exact k.en.len, fun j d q => ?_, fun j es q => ?_, fun j m q => ?_, fun i j s t p a1 a2 m1 m2 e1 e2 => ?_⟩
    · by_cases z : b = l
      · subst z; rw [upd_same] at q; rw [h3]; exact q
      · rw [upd_ne z] at q; exact k.en.ex _ _ q
    · rcases get_set q with ⟨rfl, z, _⟩ | ⟨ne, q⟩
      · cases z; exact ⟨_, h1, hd⟩
      · obtain ⟨v, g1, g2⟩ := k.en.dat j d q
        exact ⟨v, g1, g2.mono x⟩
    · rcases get_set q with ⟨rfl, z, _⟩ | ⟨ne, q⟩
      · cases z
      · obtain ⟨l', w, g1, g2, g3, g4⟩ := k.en.own j es q
        have nl : l' ≠ l := fun z => by
          subst z
          exact ne (k.en.sep j n _ _ l' q hi rfl rfl g1 h1)
        exact ⟨l', w, g1, by rw [upd_ne nl]; exact g2, g3, g4.mono x⟩
    · rcases get_set q with ⟨rfl, z, _⟩ | ⟨ne, q⟩
      · cases z
      · obtain ⟨l', a', b', c', g1, g2, g3, g4⟩ := k.en.tin j m q
        have nl : l' ≠ l := fun z => by
          subst z
          exact ne (k.en.sep j n _ _ l' q hi rfl rfl g1 h1)
        exact ⟨l', a', b', c', g1, by rw [upd_ne nl]; exact g2, g3, g4⟩
    · rcases get_set a1 with ⟨_, z, _⟩ | ⟨_, a1⟩
      · rw [z] at m1; cases m1
      · rcases get_set a2 with ⟨_, z, _⟩ | ⟨_, a2⟩
        · rw [z] at m2; cases m2
        · exact k.en.sep i j s t p a1 a2 m1 m2 e1 e2
  have k2 : Ok B (upd Hs l (.lst vs)) H σ (Γ.set n (.dat (.lst ds))) := by
    refine ⟨n2, k.s0.trans x, fun p g1 g2 => ?_, k.k0, k.p0, fun j es p g1 g2 => ?_, fun j m p g1 g2 => ?_⟩
    · rw [upd_ne (fun z => g1 (by rw [z]; exact hb))]; exact k.f0 p g1 g2
    · rcases get_set g1 with ⟨_, z, _⟩ | ⟨_, g1⟩
      · cases z
      · exact k.ow j es p g1 g2
    · rcases get_set g1 with ⟨_, z, _⟩ | ⟨_, g1⟩
      · cases z
      · exact k.ti j m p g1 g2
  exact h B _ H σ k2 E (fun σ2 Hs2 H2 Γ2 p k2 s2 => a σ2 Hs2 H2 Γ2 p k2 (x.trans s2)) (fun v d σ2 Hs2 H2 Γ2 p k2 s2 => r v d σ2 Hs2 H2 Γ2 p k2 (x.trans s2))
        (fun σ2 Hs2 H2 Γ2 p k2 s2 => c σ2 Hs2 H2 Γ2 p k2 (x.trans s2)) (fun σ2 Hs2 H2 Γ2 p k2 s2 => e σ2 Hs2 H2 Γ2 p k2 (x.trans s2))

/-! loops -/
theorem d_for {wi : TI} {g : TG} (hi : Iv wi Γ ds) (Pv : Nat → Gam → Prop) (h0 : Pv 0 Γ)
    (hs : ∀ (m : Nat) (d : D) (Γ1 : Gam), ds[m]? = some d → Pv m Γ1 → ∃ ps Γ2, Gv g ps Γ1 d Γ2 ∧ DS tu Γ2 { nx := Pv (m + 1), rt := O.rt, bk := O.nx, ct := Pv (m + 1) }) (hd : ∀ Γ1, Pv ds.length Γ1 → O.nx Γ1) : DS (tFor wi g tu) Γ O := fun B Hs H σ k E a r c e =>
  hi Hs H σ k.en _ fun J Hs1 H1 e1 ⟨G, Y, w, hG, hY⟩ => by
    refine for_it w (D := E) (fun m σ' H' => ∃ Hs' Γ', Pv m Γ' ∧ Ok B Hs' H' σ' Γ' ∧ Same Hs1 Hs') ⟨Hs1, Γ, h0, k.ext e1, .refl _⟩ (fun m σ' H' _ ⟨Hs', Γ', _, k', s'⟩ => hG H' (s'.trans k'.en.ex)) ?_ ?_
    · rintro m x σ' H' H2 hm ⟨Hs', Γ', p, k', s'⟩ y
      obtain ⟨d, Hs2, g1, e2, dx⟩ := hY m Hs' H' x H2 s' k'.en.ex hm y
      obtain ⟨ps, Γ2, hg, hb⟩ := hs m d Γ' g1 p
      have k2 := k'.ext e2
      refine hg Hs2 H2 σ' x k2.en dx _ fun σ3 n3 _ k3 => ?_
      refine hb B Hs2 H2 σ3 (k2.to n3 k3) _ (fun σ4 Hs4 H4 Γ4 p4 k4 s4 => ?_) (fun v d σ4 Hs4 H4 Γ4 p4 k4 s4 d4 => ?_) (fun σ4 Hs4 H4 Γ4 p4 k4 s4 => ?_) (fun σ4 Hs4 H4 Γ4 p4 k4 s4 => ?_)
      · exact ⟨Hs4, Γ4, p4, k4, (s'.trans e2.s).trans s4⟩
      · exact r v d σ4 Hs4 H4 Γ4 p4 k4 (((e1.s.trans s').trans e2.s).trans s4) d4
      · exact a σ4 Hs4 H4 Γ4 p4 k4 (((e1.s.trans s').trans e2.s).trans s4)
      · exact ⟨Hs4, Γ4, p4, k4, (s'.trans e2.s).trans s4⟩
    · rintro σ' H' ⟨Hs', Γ', p, k', s'⟩
      exact a σ' Hs' H' Γ' (hd Γ' p) k' (e1.s.trans s')
theorem q_for {wi : TI} {g : TG} (hi : Iv wi Γ ds) (Pv : Nat → Gam → Prop) (h0 : Pv 0 Γ)
    (hs : ∀ (m : Nat) (d : D) (Γ1 : Gam), ds[m]? = some d → Pv m Γ1 → ∃ ps Γ2, Gv g ps Γ1 d Γ2 ∧ DS tu Γ2 { nx := Pv (m + 1), rt := O.rt, bk := fun Γ' => DS tz Γ' O, ct := Pv (m + 1) }) (hd : ∀ Γ1, Pv ds.length Γ1 → DS tz Γ1 O) : DS (tSeq (tFor wi g tu) tz) Γ O :=
  d_seq (d_for hi Pv h0 hs hd)
theorem d_while (Pv : Nat → Gam → Prop) (m0 : Nat) (h0 : Pv m0 Γ)
    (hs : ∀ (m : Nat) (Γ1 : Gam), Pv m Γ1 → ∃ b, Et tt Γ1 b ∧ (b = true → DS tu Γ1 { nx := fun Γ2 => ∃ m', m' < m ∧ Pv m' Γ2, rt := O.rt, bk := O.nx, ct := fun Γ2 => ∃ m', m' < m ∧ Pv m' Γ2 }) ∧ (b = false → O.nx Γ1)) : DS (tWhile tt tu) Γ O := fun B Hs H σ k E a r c e => by
  refine ⟨fun m σ' H' => ∃ Hs' Γ', Pv m Γ' ∧ Ok B Hs' H' σ' Γ' ∧ Same Hs Hs', ⟨m0, Hs, Γ, h0, k, .refl _⟩, ?_⟩
  rintro m σ' H' ⟨Hs', Γ', p, k', s'⟩
  obtain ⟨b, hb, h1, h2⟩ := hs m Γ' p
  refine hb Hs' H' σ' k'.en _ fun Hs2 H2 e2 => ?_
  have k2 := k'.ext e2
  cases b with
  | true =>
    refine ⟨fun σ4 H4 => ∃ m', m' < m ∧ ∃ Hs4 Γ4, Pv m' Γ4 ∧ Ok B Hs4 H4 σ4 Γ4 ∧ Same Hs Hs4, fun σ4 H4 q => q, ?_⟩
    refine h1 rfl B Hs2 H2 σ' k2 _ (fun σ4 Hs4 H4 Γ4 p4 k4 s4 => ?_) (fun v d σ4 Hs4 H4 Γ4 p4 k4 s4 d4 => ?_) (fun σ4 Hs4 H4 Γ4 p4 k4 s4 => ?_) (fun σ4 Hs4 H4 Γ4 p4 k4 s4 => ?_)
    · obtain ⟨m', hm, p'⟩ := p4
      exact ⟨m', hm, Hs4, Γ4, p', k4, (s'.trans e2.s).trans s4⟩
    · exact r v d σ4 Hs4 H4 Γ4 p4 k4 ((s'.trans e2.s).trans s4) d4
    · exact a σ4 Hs4 H4 Γ4 p4 k4 ((s'.trans e2.s).trans s4)
    · obtain ⟨m', hm, p'⟩ := p4
      exact ⟨m', hm, Hs4, Γ4, p', k4, (s'.trans e2.s).trans s4⟩
  | false => exact a σ' Hs2 H2 Γ' (h2 rfl) k2 (s'.trans e2.s)
theorem q_while (Pv : Nat → Gam → Prop) (m0 : Nat) (h0 : Pv m0 Γ)
    (hs : ∀ (m : Nat) (Γ1 : Gam), Pv m Γ1 → ∃ b, Et tt Γ1 b ∧ (b = true → DS tu Γ1 { nx := fun Γ2 => ∃ m', m' < m ∧ Pv m' Γ2, rt := O.rt, bk := fun Γ' => DS tz Γ' O, ct := fun Γ2 => ∃ m', m' < m ∧ Pv m' Γ2 }) ∧ (b = false → DS tz Γ1 O)) : DS (tSeq (tWhile tt tu) tz) Γ O :=
  d_seq (d_while Pv m0 h0 hs)
end

/-! ### promises of defs that leave all as it was -/
def spF (R : List D → D → Prop) : Sp := fun vs H Q _ => ∃ Hs ds d, Same Hs H ∧ Ds Hs vs ds ∧ R ds d ∧ ∀ v Hs' H', Ext Hs H Hs' H' → Dn Hs' v d → Q v H'
theorem ev_call {Γ : Gam} {tar : TA} {ds : List D} {d : D} {R : List D → D → Prop} {E : XK} (h : Av tar Γ ds) (hr : R ds d) : Ev (tCall (spF R) [] E tar) Γ d := fun Hs H σ n Q q =>
  h Hs H σ n _ fun vs Hs1 H1 e1 d1 => ⟨Hs1, ds, d, e1.e, by rw [List.append_nil]; exact d1, hr, fun v Hs2 H2 e2 d2 => q v Hs2 H2 (e1.trans e2) d2⟩
/-- the slots at the entry -/
def ent (N : List Str) (ds : List D) : Gam := ds.map .dat ++ List.replicate (N.length - ds.length) .un
def retO (d : D) : Out := { nx := fun _ => False, rt := fun d' _ => d' = d, bk := fun _ => False, ct := fun _ => False }
theorem ok_ent {N : List Str} {Hs H : Hp} {vs : List V} {ds : List D} (s : Same Hs H) (h : Ds Hs vs ds) : Ok ⟨Hs, H, fun _ => False⟩ Hs H (L2.start N vs) (ent N ds) := by
  have hno : ∀ (i : Nat) (t : Sl), (ent N ds)[i]? = some t → t.mu = true → False := fun i t q m => by
    have hm := List.mem_of_getElem? q
    unfold ent at hm
    rcases List.mem_append.mp hm with z | z
    · obtain ⟨d, _, e⟩ := List.mem_map.mp z
      rw [← e] at m; cases m
    · rw [List.eq_of_mem_replicate z] at m; cases m
  refine ⟨⟨s, ?_, fun i d q => ?_, fun i es q => (hno i _ q rfl).elim, fun i m q => (hno i _ q rfl).elim, fun i j a b l q1 q2 m1 m2 _ _ => (hno i a q1 m1).elim⟩, .refl _, fun a _ z => z, fun a o z _ => z, fun a z => z, fun i es l q => (hno i _ q rfl).elim, fun i m l q => (hno i _ q rfl).elim⟩
  · unfold L2.start ent
    rw [List.length_append, List.length_append, List.length_map, List.length_map, List.length_replicate, List.length_replicate, h.len]
  · unfold ent at q
    by_cases hi : i < ds.length
    · rw [List.getElem?_append_left (by rw [List.length_map]; exact hi), List.getElem?_map] at q
      cases e : ds[i]? with
      | none => rw [e] at q; cases q
      | some d' =>
        rw [e] at q
        cases q
        obtain ⟨v, g1, g2⟩ := h.get e
        refine ⟨v, ?_, g2⟩
        unfold L2.start
        rw [List.getElem?_append_left (by rw [List.length_map, h.len]; exact hi), List.getElem?_map, g1]
        rfl
    · rw [List.getElem?_append_right (by rw [List.length_map]; omega), List.getElem?_replicate] at q
      split at q <;> cases q
theorem fn_pure {P : Program} {w : World} {K : PySem.W.Frag} {mg : Str → Option Value} {base : Heap} {x qual : Str} {st : Stmt} {f : Addr} {fd : FuncData} {N ps : List Str} {k : Nat} {R : List D → D → Prop} (F : Fun K x qual st f fd) (S : FnScope N ps (defScope st))
    (hl : ∀ ds d, R ds d → ds.length = ps.length)
    (hb : ∀ (cdv : Value) (A : Around) (outer : List Env) (s : Shared) (H : Hp) (E : XK), Room k (A.deeper (PyProof.Rows.envOfC qual (defScope st) s.heap.objs.size f cdv)) →
      ∃ t, PSs (cxOf CX0 P w K mg base N qual (defScope st) f cdv A outer s H E).nox (defBody st) t ∧ ∀ ds d, R ds d → DS t (ent N ds) (retO d)) : FnOk P w K mg base CX0 (k + 1) f fd ps (spF R) := by
  refine F.ok S (fun vs H Q E h => ?_) (fun cdv A outer s H vs Q E hr h => ?_)
  · obtain ⟨Hs, ds, d, _, h1, h2, _⟩ := h
    rw [h1.len]; exact hl ds d h2
  · obtain ⟨Hs, ds, d, h0, h1, h2, q⟩ := h
    obtain ⟨t, ht, hd⟩ := hb cdv A outer s H E hr
    refine ⟨t, ht, hd ds d h2 ⟨Hs, H, fun _ => False⟩ Hs H (L2.start N vs) (ok_ent h0 h1) _ (fun _ _ _ _ z => z.elim) (fun v d' σ' Hs' H' Γ' hd' k' s' dv => ?_) (fun _ _ _ _ z => z.elim) (fun _ _ _ _ z => z.elim)⟩
    have e : d' = d := hd'
    subst e
    exact q v Hs' H' ⟨k'.s0, k'.en.ex, fun b o z => k'.k0 b o z (fun q => q), k'.f0⟩ dv
end DL
set_option Elab.async false
set_option linter.all false
set_option maxRecDepth 100000
set_option maxHeartbeats 2000000
/-! rules of mine at the library's level -/
namespace DL
open PySem L2 PyProof.Rows HT

/-! ### sorted(tuple of ints) -/
section
variable {prog : Program} {w : World} {A : Around} {E : Value → Shared → Prop} {s : Shared}
theorem collect_tupX {t : Addr} {vs : List Value} {Q : List Value → Shared → Prop} (ht : IsTup s.heap t vs.toArray) (hz : vs.length ≤ sizeLine)
    (h : ∀ h', (∀ b o', s.heap.get? b = some o' → h'.get? b = some o') → Q vs { s with heap := h' }) : wpAny (model prog w) A (collect (.ref t)) Q E s := by
  obtain ⟨o, ho, hc, n, hd⟩ := id ht
  exact wpAny_collect_seq t (.inr rfl) ho hc hd (fun h' k => by simpa using h h' k) (by simpa using hz)
/-- sorted(t) from what collects t -/
theorem sortedX {l : Addr} {vs : List Value} {ltv : Value → Value → Bool} {Q : Value → Shared → Prop} (O : SrtO.Swo ltv) (ht : IsTup s.heap l vs.toArray) (hz : vs.length ≤ sizeLine)
    (hS : 2 ≤ vs.length → ∀ (h₁ : Heap) (a : Addr), (∀ b o, s.heap.get? b = some o → b ≠ a ∧ h₁.get? b = some o) → SrtO.SortableO prog w A.in1.in1 { s with heap := h₁ } a vs ltv)
    (h : ∀ (out : List Value) (h1 h' : Heap) (ep : Nat), SrtO.Srtd ltv out → SrtO.Stb ltv out vs → (∀ b o, s.heap.get? b = some o → h1.get? b = some o) → h'.get? h1.objs.size = some (seqObj "list" out.toArray ep) → (∀ b o, h1.get? b = some o → h'.get? b = some o) → Q (.ref h1.objs.size) { s with heap := h' }) :
    wpAny (model prog w) A (call (.builtin "sorted") [.ref l]) Q E s := by
  refine Calls.call_function_entry kind_sorted plain_sorted entry_sorted (args_sorted1 _) ?_
  unfold Builtin.«sorted»
  refine wpAny_bind (m := checkCount "sorted" 1 1 _) (wpAny_pure (wpAny_bind (collect_tupX ht hz fun h1 k1 => wpAny_bind (wpAny_newList ?_ hz))))
  have hoL : (h1.push (seqObj "list" vs.toArray 0)).get? h1.objs.size = some (seqObj "list" vs.toArray 0) := Heap.get?_push_size _ rfl
  have keep : ∀ b o, s.heap.get? b = some o → b ≠ h1.objs.size ∧ (h1.push (seqObj "list" vs.toArray 0)).get? b = some o := fun b o q =>
    ⟨Nat.ne_of_lt (Heap.lt_size (k1 b o q)), Heap.get?_push_of_some _ (k1 b o q)⟩
  refine wpAny_bind (wpAny_holding (wpAny_call_entry slot_list_sort ⟨_, hoL, rfl⟩ entry_list_sort (SrtO.list_sort_ord O hoL hz (fun h2 => hS h2 _ _ keep) fun out hs hb => ⟨_, rfl, ?_⟩) (args_list_sort _)))
  obtain ⟨ep, he⟩ := sortedHeap_at (vs := vs) (out := out.toArray) hoL
  refine wpAny_pure ⟨_, rfl, h out h1 _ ep hs hb k1 he fun b o q => ?_⟩
  have q2 : (h1.push (seqObj "list" vs.toArray 0)).get? b = some o := Heap.get?_push_of_some _ q
  rw [sortedHeap_old (Nat.ne_of_lt (Heap.lt_size q)) (Heap.lt_size q2)]
  exact q2
end
section
variable {X : Cx}
def rSortedT (K : PySem.W.Frag) : List V → Hp → VK → Prop := fun vs H Q => ∃ (a : Addr) (ns : List Int), vs = [V.ref a] ∧ SqT K H a (ns.map V.int) ∧
  ∀ (ns' : List Int) (p : Addr), ns'.Perm ns → ns'.Pairwise (· ≤ ·) → H p = none → Q (.ref p) (upd H p (.lst (ns'.map V.int)))
theorem cr_sortedT : CallR X (.builtin "sorted") (rSortedT X.K) := by
  intro pins s σ H vs us Q I r h
  obtain ⟨a, ns, rfl, hs, q⟩ := h
  obtain ⟨its, rv, ht, hz⟩ := I.tuple hs
  rw [Vals.ref1 r]
  have hi := rv.ints
  refine sortedX SrtO.swo_int ht (by rw [← rv.length]; exact hz) (fun h2 h₁ a' _ => SrtO.ints_sortable hi h2) fun out h1 h' ep s1 s2 k1 he k2 => ?_
  obtain ⟨m1, m2, m3⟩ := SrtO.ints_out hi s1 s2
  have I1 : Inv X pins σ H { s with heap := h1 } := I.kept (t' := s.toks) k1
  have hlen : ((out.map SrtO.iv).map V.int).length ≤ sizeLine := by
    rw [List.length_map, m2.length_eq]
    rw [List.length_map] at hz
    exact hz
  exact ⟨.ref _, upd H h1.objs.size (.lst ((out.map SrtO.iv).map V.int)), I1.laid (t' := s.toks) k2 (Nat.le_refl _) ⟨hlen, out, ep, vals_of_ints m1, he⟩, rfl, q _ _ m2 m3 (I1.hok.fresh (Nat.le_refl _))⟩
end

/-! ### t[-2::-1]: all but the last, from the end -/
section
variable {prog : Program} {w : World} {A : Around} {E : Value → Shared → Prop} {s : Shared}
theorem adjust_back2 (n : Nat) (h : 1 ≤ n) : Builtin.Slice.sliceAdjust (some (-2)) none (-1) (n : Int) = ((n : Int) - 2, -1) := by
  unfold Builtin.Slice.sliceAdjust
  have e1 : ((-1 : Int) < 0) = True := eq_true (by decide)
  have e2 : ((-2 : Int) < 0) = True := eq_true (by decide)
  simp only [e1, e2, if_true]
  refine Prod.ext ?_ rfl
  show max ((-2 : Int) + n) (-1) = (n : Int) - 2
  omega
theorem places_back2 (n : Nat) (h : 1 ≤ n) : Builtin.Slice.slicePlaces ((n : Int) - 2) (-1) (-1) = n - 1 := by
  unfold Builtin.Slice.slicePlaces
  have e1 : ((-1 : Int) > 0) = False := eq_false (by decide)
  simp only [e1, if_false]
  split
  · rw [show -(-1 : Int) = 1 by decide, Int.ediv_one]
    omega
  · omega
theorem filterMap_some {α β : Type} {f : α → Option β} {g : α → β} : ∀ {l : List α}, (∀ k ∈ l, f k = some (g k)) → l.filterMap f = l.map g
  | [], _ => rfl
  | k :: l, h => by
    rw [List.filterMap_cons, h k List.mem_cons_self, List.map_cons]
    exact congrArg _ (filterMap_some fun x hx => h x (List.mem_cons_of_mem _ hx))
theorem pick_back2 (xs : List Value) : ((List.range (xs.length - 1)).filterMap fun (k : Nat) => xs.toArray[(((xs.length : Int) - 2) + (k : Int) * (-1)).toNat]?) = xs.dropLast.reverse := by
  apply List.ext_getElem?
  intro i
  have e : ∀ k ∈ List.range (xs.length - 1), xs.toArray[(((xs.length : Int) - 2) + (k : Int) * (-1)).toNat]? = some (xs.getD (xs.length - 2 - k) .none) := fun k hk => by
    have hk' := List.mem_range.mp hk
    have e1 : (((xs.length : Int) - 2) + (k : Int) * (-1)).toNat = xs.length - 2 - k := by omega
    rw [e1, List.getElem?_toArray, List.getD_eq_getElem?_getD, List.getElem?_eq_getElem (by omega)]
    rfl
  have e2 : ((List.range (xs.length - 1)).filterMap fun (k : Nat) => xs.toArray[(((xs.length : Int) - 2) + (k : Int) * (-1)).toNat]?) = (List.range (xs.length - 1)).map fun k => xs.getD (xs.length - 2 - k) .none := by
    exact filterMap_some e
  rw [e2, List.getElem?_map]
  by_cases hi : i < xs.length - 1
  · rw [List.getElem?_range hi, List.getElem?_reverse (by rw [List.length_dropLast]; exact hi), List.length_dropLast, List.getElem?_dropLast, if_pos (by omega)]
    show some (xs.getD (xs.length - 2 - i) .none) = _
    rw [List.getD_eq_getElem?_getD, List.getElem?_eq_getElem (show xs.length - 2 - i < xs.length by omega), List.getElem?_eq_getElem (show xs.length - 1 - 1 - i < xs.length by omega)]
    show some _ = some _
    congr 2
  · rw [List.getElem?_eq_none (by rw [List.length_range]; omega), List.getElem?_eq_none (by rw [List.length_reverse, List.length_dropLast]; omega)]
    rfl
theorem back2_item {t sl : Addr} {its : List Value} {vl vs : Value} {Q : Value → Shared → Prop} (ht : IsTup s.heap t its.toArray) (hs : s.heap.IsSliceOf sl vl .none vs) (pl : IsPart vl (some (-2))) (ps : IsPart vs (some (-1))) (hn : 1 ≤ its.length) (hz : its.length ≤ sizeLine)
    (h : Q (.ref s.heap.objs.size) { s with heap := s.heap.push { cls := .type "tuple", data := .seq its.dropLast.reverse.toArray } }) : wpAny (model prog w) A (getItem (.ref t) (.ref sl)) Q E s := by
  have hsize : sizeOk (.seq its.dropLast.reverse.toArray) := by
    show its.dropLast.reverse.toArray.size ≤ sizeLine
    rw [List.size_toArray, List.length_reverse, List.length_dropLast]
    omega
  obtain ⟨os, hos, hcs, hds⟩ := id hs
  have hTs : s.TypeIs (.ref sl) "slice" := ⟨os, hos, hcs⟩
  have hw : its.toArray.size = its.length := by simp
  unfold getItem
  try with_reducible refine wpAny_holding ?_
  first | refine wpAny_bind (wpAny_pure ?_) | skip
  refine wpAny_bind (wpAny_sequenceKey ht.typeIs (by decide) (wpAny_bind (wpAny_callSpecial?_slot (name := Str.ofString "__getitem__") ht.typeIs PyProof.Rows.slot_tuple_getitem
    (wpAny_call_entry PyProof.Rows.slot_tuple_getitem ht.typeIs entry_tuple_getitem ?_ (args_tuple_getitem _ _)))))
  refine wpAny_bind (m := Builtin.Tuple.tupleItemsOf (.ref t)) (tupleItemsOf_ ht (wpAny_bind (wpAny_typeOf hTs ?_)))
  rw [if_pos (by decide)]
  refine wpAny_bind ?_
  · unfold Builtin.Slice.sliceApplied Builtin.Slice.sliceFields
    refine wpAny_bind (wpAny_bind (wpAny_field hos hds (x := vl) rfl (wpAny_bind (wpAny_field hos hds (x := .none) rfl (wpAny_bind (wpAny_field hos hds (x := vs) rfl (wpAny_pure ?_)))))))
    refine wpAny_bind (slicePart_ ps ?_)
    show wpAny _ _ (if ((-1 : Int) == 0) = true then _ else _) _ _ s
    rw [if_neg (by decide)]
    refine wpAny_bind (slicePart_ pl (wpAny_bind (slicePart_none (wpAny_bind (wpAny_pure ?_)))))
    show wpAny _ _ (match Builtin.Slice.sliceAdjust (some (-2)) none (-1) (its.toArray.size : Int) with | (lo, hi) => pure (lo, (-1 : Int), Builtin.Slice.slicePlaces lo hi (-1))) _ _ s
    rw [hw, adjust_back2 _ hn]
    show wpAny _ _ (pure ((its.length : Int) - 2, (-1 : Int), Builtin.Slice.slicePlaces ((its.length : Int) - 2) (-1) (-1))) _ _ s
    rw [places_back2 _ hn]
    refine wpAny_pure ?_
    show wpAny _ _ (if (((its.length : Int) - 2) == 0 && (-1 : Int) == 1 && (its.length - 1) == its.toArray.size) = true then _ else _) _ _ s
    rw [if_neg (by
      have : ((-1 : Int) == 1) = false := by decide
      rw [this, Bool.and_false, Bool.false_and]
      decide)]
    rw [pick_back2]
    first
      | exact wpAny_bind (m := Builtin.Tuple.tupleExact _) (wpAny_newObj_type (wpAny_pure ⟨_, rfl, wpAny_pure h⟩) hsize)
      | exact wpAny_bind (m := Builtin.Tuple.tupleExact _) (wpAny_newObj_type (wpAny_bind (wpAny_pure (wpAny_pure ⟨_, rfl, wpAny_pure h⟩))) hsize)
      | exact wpAny_bind (wpAny_bind (m := Builtin.Tuple.tupleExact _) (wpAny_newObj_type (wpAny_pure (wpAny_pure ⟨_, rfl, wpAny_pure h⟩)) hsize))
      | exact wpAny_bind (wpAny_bind (m := Builtin.Tuple.tupleExact _) (wpAny_newObj_type (wpAny_pure ⟨_, rfl, wpAny_pure h⟩) hsize))
end
section
variable {X : Cx}
/-- t[-2::-1] -/
def tRevT2 (K : PySem.W.Frag) (te : TE) : TE := fun σ H Q => te σ H fun x H1 => ∃ a xs, x = .ref a ∧ SqT K H1 a xs ∧ 1 ≤ xs.length ∧ ∀ p, H1 p = none → Q (.ref p) (upd H1 p (.tup xs.dropLast.reverse))
theorem vals_dropLast {xs : List V} {us : List Value} (r : Vals xs us) : Vals xs.dropLast us.dropLast := by
  rw [List.dropLast_eq_take, List.dropLast_eq_take, r.length]
  exact r.take _
theorem pe_revT2 {e : Expr} {te : TE} {k k2 : Nat} {p1 p2 p3 p4 p5 pos : Pos} (he : PE X e te) :
    PE X (.Subscript e (.Slice (some (.UnaryOp .USub (.Constant (.int 2) k2 p4) p5)) none (some (.UnaryOp .USub (.Constant (.int 1) k p1) p2)) p3) pos) (tRevT2 X.K te) := by
  refine ⟨fun pins s σ H Q I h => ?_⟩
  refine Subscript_ (thn (he.run pins s σ H _ I h) fun v s1 ⟨x, H1, I1, r1, a, xs, ex, hx, hn, q⟩ => ?_)
  subst ex
  cases r1
  have hlo : PO X (some (.UnaryOp .USub (.Constant (.int 2) k2 p4) p5)) (tPart (tUn (rU fun i => .int (-i)) (tC (.int 2)))) := po_some (pe_un un_neg pe_int)
  have hst : PO X (some (.UnaryOp .USub (.Constant (.int 1) k p1) p2)) (tPart (tUn (rU fun i => .int (-i)) (tC (.int 1)))) := po_some (pe_un un_neg pe_int)
  refine wpAny_Slice (thn (hlo.run pins s1 σ H1 (fun o H2 => o = some (-2) ∧ H2 = H1) I1 ⟨2, rfl, -2, rfl, rfl, rfl⟩) fun vl s2 ⟨l, H2, I2, pl, el, e2⟩ => ?_)
  subst el e2
  refine thn (po_none.run pins s2 σ H2 (fun o H3 => o = none ∧ H3 = H2) I2 ⟨rfl, rfl⟩) fun vu s3 ⟨u, H3, I3, pu, eu, e3⟩ => ?_
  subst eu e3
  cases pu
  refine thn (hst.run pins s3 σ H3 (fun o H4 => o = some (-1) ∧ H4 = H3) I3 ⟨1, rfl, -1, rfl, rfl, rfl⟩) fun vs s4 ⟨o, H4, I4, ps, eo, e4⟩ => ?_
  subst eo e4
  have I5 : Inv X pins σ H4 { s4 with heap := s4.heap.push { cls := .type "slice", data := .fields #[vl, .none, vs] } } := I4.kept (t' := s4.toks) fun b ob q => Heap.get?_push_of_some _ q
  obtain ⟨its, r, ht, hz⟩ := I5.tuple hx
  refine tail_any (ops := [.ref a, .ref s4.heap.objs.size]) ht.typeIs PyProof.Rows.slot_tuple_getitem.lookup ?_ (by with_unfolding_all rfl)
  refine back2_item ht (Heap.IsSliceOf.new _ vl .none vs) pl ps (by rw [← r.length]; exact hn) (by rw [← r.length]; exact hz) ?_
  refine ⟨.ref _, _, I5.laid (t' := s4.toks) (o := .tup xs.dropLast.reverse) (fun b ob q => Heap.get?_push_of_some _ q) (Nat.le_refl _) ?_, rfl, q _ (I5.hok.fresh (Nat.le_refl _))⟩
  refine ⟨by rw [List.length_reverse, List.length_dropLast]; omega, _, (vals_dropLast r).reverse, IsTup.new _ _⟩

/-! ### o[i] op= e on a list -/
theorem get_list : PGet X (rIxL X.K) := by
  intro pins s σ H o i ov iv Q I ro ri h
  obtain ⟨p, xs, k, z, rfl, rfl, hq, he, q⟩ := h
  cases ro
  obtain ⟨t, rfl⟩ := ri
  obtain ⟨its, r, pl, hz⟩ := I.list hq
  obtain ⟨j, h1, h2, h3, h4, h5⟩ := atI_get he
  obtain ⟨w, ew, rw'⟩ := r.get h2
  have hl := r.length
  have hn := line63
  have fin : EP X pins σ Q w s := ⟨z, H, I, rw', q⟩
  by_cases h0 : 0 ≤ k
  · have hj : k.toNat = j := by
      rw [seqIndex_of h0 h5] at h1
      exact Option.some.inj h1
    exact wpAny_getItem_list pl.isList h0 (by omega) (by rw [hj]; simpa using ew) fin
  · have hj : (k + (its.toArray.size : Int)).toNat = j := by
      rw [seqIndex_neg (by omega) h4] at h1
      rw [List.size_toArray, ← hl]
      exact Option.some.inj h1
    exact wpAny_getItem_list_neg pl.isList (by omega) (by rw [List.size_toArray]; omega) (by omega) (by rw [hj]; simpa using ew) fin

/-! ### tuple(range(a, b, c)) -/
def rgV3 (a c : Int) (n : Nat) : List V := (List.range n).map fun i => V.int (a + (i : Nat) * c)
def tTupRg3 (ta : TA) : TE := fun σ H Q => ta σ H fun vs H1 => ∃ (i j c : Int) (n : Nat), vs = [.int i, .int j, .int c] ∧ RgC i j c n ∧ n ≤ 2 ^ 24 ∧ ∀ q, H1 q = none → Q (.ref q) (upd H1 q (.tup (rgV3 i c n)))
theorem pe_tupRg3 {a b c : Expr} {ta : TA} {p pos p2 pos2 : Pos} (hg : Gl X "tuple") (hm : X.mg "tuple" = none) (hg2 : Gl X "range") (hm2 : X.mg "range" = none) (ha : PA X [a, b, c] ta) (hc : X.calm = true := by rfl)
    (hs : starEach [a, b, c] X.env = (false, eval a X.env) :: starEach [b, c] X.env := by rfl) (hpl : (backTo pos (starEach [b, c] X.env)).any (·.1) = false := by rfl)
    (na : starEach [Expr.Call (.Name "range" p) [a, b, c] [] pos] X.env = (false, eval (Expr.Call (.Name "range" p) [a, b, c] [] pos) X.env) :: starEach [] X.env := by rfl) :
    PE X (.Call (.Name "tuple" p2) [.Call (.Name "range" p) [a, b, c] [] pos] [] pos2) (tTupRg3 ta) := by
  refine ⟨fun pins s σ H Q I h => ?_⟩
  refine Call_ (ld_blt I hg hm boot_tuple (PyProof.Rows.callWith_type1 (args_cons ?_ na) na))
  refine Call_ (ld_blt I hg2 hm2 boot_range (PyProof.Rows.callWith_type1 (thn (ha.run pos pins s σ H _ I h) fun us s1 ⟨vs, H1, I1, r1, q1⟩ => ?_) hs hpl))
  obtain ⟨i, j, k, n, e, ⟨c0, c1, c2, c3⟩, hn, q⟩ := q1
  subst e
  cases r1 with
  | cons r rr =>
    cases rr with
    | cons r' rr =>
      cases rr with
      | cons r'' rr =>
        cases rr
        obtain ⟨t, rfl⟩ := r
        obtain ⟨t', rfl⟩ := r'
        obtain ⟨t'', rfl⟩ := r''
        refine call_range_3 c0 (args_nil ?_) (.inl (PyProof.noPylong_small c1))
        have I2 : Inv X pins σ H1 { s1 with heap := s1.heap.push { cls := .type "range", data := .fields #[.int i t, .int j t', .int k t''] } } := I1.kept (t' := s1.toks) fun b o e => Heap.get?_push_of_some _ e
        refine call_tuple_range (n := n) (I2.ok.hd hc) (IsRange.new ..) c2 c3 hn fun h' tk acc hk hi => ?_
        have I3 : Inv X pins σ H1 { s1 with heap := h', toks := tk } := I2.kept hk
        refine ⟨.ref h'.objs.size, upd H1 h'.objs.size (.tup (rgV3 i k n)), I3.laid (t' := tk) (fun c o e => Heap.get?_push_of_some _ e) (Nat.le_refl _) (show ObjOk X.prog X.w _ _ _ (.tup (rgV3 i k n)) from ⟨?_, acc.toList, ?_, ?_⟩), rfl, q _ (I3.hok.fresh (Nat.le_refl _))⟩
        · unfold rgV3
          rw [List.length_map, List.length_range, sizeLine_eq]; omega
        · have e : acc.toList.length = n := by rw [Array.length_toList]; exact hi.1
          unfold rgV3
          rw [← e]
          refine vals_of_get acc.toList _ fun m u hm => ?_
          obtain ⟨t, rfl⟩ := hi.2 m u (by rw [← hm, Array.getElem?_toList])
          exact ⟨t, rfl⟩
        · rw [Array.toArray_toList]; exact IsTup.new _ _
end
end DL
set_option Elab.async false
set_option linter.all false
set_option maxRecDepth 100000
set_option maxHeartbeats 2000000
namespace DL
open PySem L2 PyProof.Rows RZ

/-! ### enumerate(tuple) -/
def IteT (K : PySem.W.Frag) (a : Addr) : It :=
  ⟨fun i H => ∃ (xs : List V) (x : V), SqT K H a xs ∧ xs[i]? = some x, fun i H v H' => ∃ T x, v = .ref T ∧ H T = none ∧ H' = upd H T (.tup [.int (i : Nat), x]) ∧ ∀ xs, SqT K H a xs → xs[i]? = some x, fun i H => ∃ xs : List V, SqT K H a xs ∧ xs.length ≤ i⟩
theorem turn_enumT {P : Program} {w : World} {K : PySem.W.Frag} {elts : List Expr} {kk : Nat} {tpos : Pos} (a e it : Addr) (hae : a ≠ e) (hai : a ≠ it) :
    Turn P w K (.Tuple elts kk tpos) (IteT K a) [e, it] e (fun i h => (∃ old, IsEnum h e it ((i : Nat) : Int) old) ∧ h.IsTupleIter it a i ∧ e ≠ it) where
  mem := by simp
  obj := fun i h st b hb => by
    obtain ⟨⟨old, he⟩, ⟨o, ho, hc, hd⟩, _⟩ := st
    rcases (by simpa using hb : b = e ∨ b = it) with z | z
    · rw [z]; exact ⟨_, he, fun v q => nomatch q⟩
    · rw [z]; exact ⟨o, ho, fun v q => by rw [hd] at q; cases q⟩
  keep := fun i h h' st k => let ⟨⟨old, he⟩, hi, hne⟩ := st; ⟨⟨old, k e (by simp) _ he⟩, hi.at fun o q => k it (by simp) o q, hne⟩
  item := by
    intro X hP hw hK hc i pins s σ H E I hf st hg
    subst hP hw hK
    obtain ⟨⟨old, he⟩, hit, hne⟩ := st
    obtain ⟨xs, x, hq, hx⟩ := hg
    obtain ⟨its, rv, p, hz⟩ := I.tuple hq
    obtain ⟨u, hu, ru⟩ := rv.get hx
    have hel : e < s.heap.objs.size := Heap.lt_size he
    have hil : it < s.heap.objs.size := by obtain ⟨_, q, _⟩ := hit; exact Heap.lt_size q
    have hi : i < its.toArray.size := by
      rw [List.size_toArray]; exact (List.getElem?_eq_some_iff.mp hu).1
    refine wpAny_pyNext_enum_itemD (Draws.tuple (prog := X.prog) (w := X.w) (A := X.A.in1) (I.ok.hd hc) it a hai its.toArray) he ⟨hit, p⟩ hi hne (fun z => (show e = it ∨ e = a by simpa using z).elim hne fun z => hae z.symm) fun y h' tk hy ho st' hT hsz hk => ?_
    have hyu : y = u := by
      have e1 : its.toArray[i]? = some u := by simpa using hu
      rw [e1] at hy
      exact (Option.some.inj hy).symm
    subst hyu
    refine ⟨_, rfl, wpAny_letOwnedTupleGo_enum (s := { s with heap := h', toks := tk + 1 }) ho fun h'' he' sb => ?_⟩
    have hT2 : h''.get? s.heap.objs.size = some { cls := .type "tuple", data := .seq #[.int i tk, y] } := (sb.2 _ (Nat.ne_of_gt hel)).trans hT
    have new : ObjOk X.prog X.w (upd H s.heap.objs.size (.tup [.int (i : Nat), x])) h'' s.heap.objs.size (.tup [.int (i : Nat), x]) :=
      ⟨by show 2 ≤ sizeLine; decide, [.int i tk, y], .cons ⟨_, rfl⟩ (.cons ru .nil), ⟨_, hT2, rfl, _, rfl⟩⟩
    have I1 : Inv X pins σ (upd H s.heap.objs.size (.tup [.int (i : Nat), x])) { s with heap := h'', toks := tk + 1 } :=
      I.turnedNew (ch := [e, it]) (fun b ob hb q => (sb.2 b (fun z => hb (by simp [z]))).trans (hk b ob (fun z => hb (by simp [z])) (fun z => hb (by simp [z])) q)) hf (Nat.le_refl _) new
    refine ⟨.ref s.heap.objs.size, _, I1, rfl, ⟨_, x, rfl, I.hok.fresh (Nat.le_refl _), rfl, fun ys hy => by rw [I.tuple_inj hy hq]; exact hx⟩, ⟨⟨y, ?_⟩, st'.1.at fun o q => (sb.2 it (Ne.symm hne)).trans q, hne⟩, fun b hb => ?_⟩
    · rw [show ((i + 1 : Nat) : Int) = (i : Int) + 1 by omega]; exact he'
    · have hb' : b < s.heap.objs.size := by
        rcases (by simpa using hb : b = e ∨ b = it) with z | z
        · rw [z]; exact hel
        · rw [z]; exact hil
      rw [upd_ne (Nat.ne_of_lt hb')]
      exact (hf b hb).1
  done := by
    intro X hP hw hK hc i pins s σ H E I hf st hg
    subst hP hw hK
    obtain ⟨⟨old, he⟩, hit, hne⟩ := st
    obtain ⟨xs, hq, hx⟩ := hg
    obtain ⟨its, rv, p, hz⟩ := I.tuple hq
    obtain ⟨f0, f1, f2, f3, f4, f5⟩ := hf it (by simp)
    have hl := rv.length
    have D := Draws.tuple (prog := X.prog) (w := X.w) (A := X.A.in1) (I.ok.hd hc) it a hai its.toArray
    have hend : its.toArray[i]? = none := by simp; omega
    have hT : s.TypeIs (.ref e) "enumerate" := ⟨_, he, rfl⟩
    unfold pyNext
    refine wpAny_bind (wpAny_attempt (wpAny_callSpecial?_slot (name := Str.ofString "__next__") hT F.slot_enumerate_next (wpAny_call_entry F.slot_enumerate_next hT F.entry_enumerate_next ?_ (F.args_enumerate_next_1 _))))
    refine wpAny_bind (m := field (.ref e) 2) (wpAny_field he rfl (x := .ref it) rfl ?_)
    refine wpAny_bind (wpAny_nextOf_tuple_end (I.ok.hd hc) hit p hend fun h' x eb hx' => ?_)
    obtain ⟨o, ho, hcl⟩ := hx'
    refine wpAny_bind (wpAny_isInstance (T := "StopIteration") (b := true) ⟨o, ho, hcl⟩ isSubtype_stop (wpAny_pure ?_))
    exact ⟨rfl, I.turned (t' := s.toks) (fun b o hb q => eb b o hb q) f0 f1 f3 f4 f5⟩
  self := fun A i s Q E st h => let ⟨⟨_, he⟩, _⟩ := st; wpAny_pyIter_enum he h
theorem meets_enum_newT (t : Addr) (items : Array Value) (o : Obj) (hc : o.cls = .type "tuple") (n : Nat) (hd : o.data = .seq items n) :
    Meets (Builtin.«enumerate.__new__» ⟨[.type "enumerate", .ref t], []⟩) (fun _ R s => s.heap.get? t = some o ∧
      R (.ok (.ret (.ref (s.heap.push { cls := .type "tuple_iterator", data := .fields #[.ref t, .int 0 0] }).objs.size))) { s with heap := (s.heap.push { cls := .type "tuple_iterator", data := .fields #[.ref t, .int 0 0] }).push { cls := .type "enumerate", data := .fields #[.none, .bool false, .ref s.heap.objs.size, rawInt 0, .none, .none] } }) :=
  .of_wp fun prog w A R s h => by
    obtain ⟨hp, g, d, tk, os⟩ := s; obtain ⟨h1, h⟩ := h
    have hsub := sub_enumerate
    have q1 : ∀ {A' : Around} {E : Value → Shared → Prop} {Q : Value → Shared → Prop}, Q (.ref hp.objs.size) ⟨hp.push { cls := .type "tuple_iterator", data := .fields #[.ref t, .int 0 0] }, g, d, tk, os⟩ → wpAny (model prog w) A' (pyIter (.ref t)) Q E ⟨hp, g, d, tk, os⟩ :=
      fun q => wpAny_pyIter_tuple (s := ⟨hp, g, d, tk, os⟩) (show hp.IsTuple t items from ⟨o, h1, hc, n, hd⟩) q
    wp_walk using q1
    refine wpAny_stack_any fun st => wpAny_pure ?_
    split
    · rename_i c _ _ _ _ _
      cases (c == Value.type "enumerate")
      · wp_walk using q1
        exact ⟨_, rfl, h⟩
      · wp_walk using q1
        exact ⟨_, rfl, h⟩
    · wp_walk using q1
      exact ⟨_, rfl, h⟩
section
variable {prog : Program} {w : World} {A : Around} {E : Value → Shared → Prop} {s : Shared}
theorem call_enum_tup {t : Addr} {items : Array Value} {Q : Value → Shared → Prop} (hL : IsTup s.heap t items)
    (h : ∀ h', IsEnum h' (s.heap.objs.size + 1) s.heap.objs.size 0 .none → h'.IsTupleIter s.heap.objs.size t 0 → h'.objs.size = s.heap.objs.size + 2 →
      (∀ b o, s.heap.get? b = some o → h'.get? b = some o) → Q (.ref (s.heap.objs.size + 1)) { s with heap := h' }) : wpAny (model prog w) A (call (.type "enumerate") [.ref t]) Q E s := by
  obtain ⟨o, hl, hc, n, hd⟩ := hL
  refine callType_new F.called_enumerate (by decide) (F.typeCall_enumerate_1 _) (F.newCall_enumerate_1 _) (fun obj => F.args_object_init_2 obj _) F.entry_enumerate_new (meets_enum_newT t items o hc n hd) ⟨hl, ?_⟩
  have hz : (s.heap.push { cls := .type "tuple_iterator", data := .fields #[.ref t, .int 0 0] }).objs.size = s.heap.objs.size + 1 := Heap.size_push ..
  show _ ∧ _
  rw [hz]
  have he : IsEnum ((s.heap.push { cls := .type "tuple_iterator", data := .fields #[.ref t, .int 0 0] }).push { cls := .type "enumerate", data := .fields #[.none, .bool false, .ref s.heap.objs.size, rawInt 0, .none, .none] }) (s.heap.objs.size + 1) s.heap.objs.size 0 .none := by
    have q := Heap.get?_push_size (s.heap.push { cls := .type "tuple_iterator", data := .fields #[.ref t, .int 0 0] }) (o := { cls := .type "enumerate", data := .fields #[.none, .bool false, .ref s.heap.objs.size, rawInt 0, .none, .none] }) rfl
    rw [hz] at q; exact q
  refine ⟨⟨_, he, rfl⟩, h _ he ⟨_, Heap.get?_push_of_some _ (Heap.get?_push_size _ rfl), rfl, rfl⟩ (by rw [Heap.size_push, hz]) fun b o x => Heap.get?_push_of_some _ (Heap.get?_push_of_some _ x)⟩
end
def iEnumT (K : PySem.W.Frag) (ta : TA) : TI := fun σ H R => ta σ H fun vs H1 => ∃ a xs, vs = [.ref a] ∧ SqT K H1 a xs ∧ R (IteT K a) H1
theorem pi_enumT {X : Cx} {e : Expr} {ta : TA} {p pos tpos : Pos} {elts : List Expr} {kk : Nat} (hg : Gl X "enumerate") (hm : X.mg "enumerate" = none) (ha : PA X [e] ta) (hs : starEach [e] X.env = [(false, eval e X.env)] := by rfl) :
    PI X (.Tuple elts kk tpos) (.Call (.Name "enumerate" p) [e] [] pos) (iEnumT X.K ta) := by
  refine ⟨fun pins s σ H R I h => ?_⟩
  refine Call_ (ld_blt I hg hm boot_enumerate (PyProof.Rows.callWith_type1 (thn (ha.run pos pins s σ H _ I h) fun us s1 ⟨vs, H1, I1, r1, a, xs, ex, hq, q⟩ => ?_) hs rfl))
  subst ex
  cases r1 with
  | cons r rr =>
    cases rr
    cases r
    obtain ⟨its, rv, p', hz⟩ := I1.tuple hq
    have hlt : a < s1.heap.objs.size := p'.lt
    refine call_enum_tup p' fun h' he hit hsz hk => wpAny_pyIter_enum he ?_
    have I2 : Inv X pins σ H1 { s1 with heap := h' } := I1.kept (t' := s1.toks) hk
    refine ⟨s1.heap.objs.size + 1, [s1.heap.objs.size + 1, s1.heap.objs.size], _, _, H1, rfl, I2, turn_enumT a (s1.heap.objs.size + 1) s1.heap.objs.size (Nat.ne_of_lt (Nat.lt_succ_of_lt hlt)) (Nat.ne_of_lt hlt), ⟨⟨.none, he⟩, hit, Nat.succ_ne_self _⟩, fun b hb => ?_, q⟩
    have hle : s1.heap.objs.size ≤ b := by
      rcases (by simpa using hb : b = s1.heap.objs.size + 1 ∨ b = s1.heap.objs.size) with z | z
      · rw [z]; exact Nat.le_add_right _ _
      · rw [z]; exact Nat.le_refl _
    exact I1.fpOk hle (I1.hok.fresh hle)
theorem walk_enumT {K : PySem.W.Frag} {a : Addr} {xs : List V} : Walk (IteT K a) xs.length (fun H => SqT K H a xs) (YPair (fun i => some (.int (i : Nat))) (fun i => xs[i]?)) := by
  refine ⟨fun i _ hi q => ⟨xs, xs[i], q, by simp [hi]⟩, fun _ q => ⟨xs, q, Nat.le_refl _⟩, fun i H v H' _ q y => ?_⟩
  obtain ⟨T, x, h1, h2, h3, h4⟩ := y
  exact ⟨T, .int (i : Nat), x, h1, h2, h3, rfl, h4 xs q⟩

section
variable {Γ : Gam} {K : PySem.W.Frag} {ta tb te tl : TE} {d x y z : D} {xs ys ds : List D} {tar : TA} {i j : Int} {O : Out} {tz : TS}
theorem iv_enumT (h : Av tar Γ [.tup ds]) : Iv (iEnumT K tar) Γ (enumD ds) := fun Hs H σ en R q => h Hs H σ en _ fun vs Hs' H' e d => by
  cases d with
  | cons d1 d2 =>
    cases d2
    cases d1 with
    | @tup a ws _ h1 h2 =>
      refine ⟨a, ws, rfl, SqT.of (e.e _ _ h1), q _ Hs' H' e ?_⟩
      refine ⟨_, _, by unfold enumD; rw [List.length_map, List.length_range, ← h2.len]; exact walk_enumT (xs := ws), fun H2 s => SqT.of (s _ _ h1), ?_⟩
      refine ypair_ok (fun i v hi hv => ?_) fun i v hi hv => ?_
      · cases hv; exact .int _
      · obtain ⟨d, g1, g2⟩ := h2.getV hv
        rw [getD_of g1]
        exact g2
theorem e_revT2 (h : Ev te Γ (.tup ds)) (hn : 1 ≤ ds.length) : Ev (tRevT2 K te) Γ (.tup ds.dropLast.reverse) := fun Hs H σ n Q q => h Hs H σ n _ fun v Hs1 H1 e1 d1 => by
  cases d1 with
  | @tup a vs _ g1 g2 => exact ⟨a, vs, rfl, SqT.of (e1.e _ _ g1), by rw [g2.len]; exact hn, fun p hp => q _ _ _ (e1.trans (Ext.new e1.e hp)) (.tup upd_same ((g2.dropLast.rev).mono (same_upd (e1.e.free hp))))⟩
/-- the one sorted list -/
theorem sorted_unique {as bs : List Int} (hp : as.Perm bs) (ha : as.Pairwise (· ≤ ·)) (hb : bs.Pairwise (· ≤ ·)) : as = bs := by
  induction as generalizing bs with
  | nil => exact hp.nil_eq
  | cons a r ih =>
    cases bs with
    | nil => exact absurd hp.symm.nil_eq (by simp)
    | cons b s =>
      have h1 : a ∈ b :: s := hp.mem_iff.mp List.mem_cons_self
      have h2 : b ∈ a :: r := hp.mem_iff.mpr List.mem_cons_self
      have e : a = b := by
        rcases List.mem_cons.mp h1 with q | q
        · exact q
        · rcases List.mem_cons.mp h2 with q' | q'
          · exact q'.symm
          · have a1 := (List.pairwise_cons.mp hb).1 a q
            have a2 := (List.pairwise_cons.mp ha).1 b q'
            omega
      subst e
      rw [ih (List.Perm.cons_inv hp) (List.pairwise_cons.mp ha).2 (List.pairwise_cons.mp hb).2]
theorem f_sortedT {ns ms : List Int} (h : Ev te Γ (.tup (ns.map D.int))) (hp : ms.Perm ns) (hs : ms.Pairwise (· ≤ ·)) : Fv (tCB (rSortedT K) (tCons te tNil)) Γ (ms.map D.int) := fv_cb (av_cons h av_nil) fun Hs H vs s dv Q q => by
  cases dv with
  | cons d1 d2 =>
    cases d2
    cases d1 with
    | tup h1 h2 =>
      refine ⟨_, ns, rfl, SqT.of (by rw [← h2.ofInts]; exact s _ _ h1), fun ns' p hp' hs' hn => ?_⟩
      have e : ns' = ms := sorted_unique (hp'.trans hp.symm) hs' hs
      subst e
      exact q p _ Hs _ (Ext.newOwn s hn) hn (s.free hn) upd_same (Ds.ints _)
theorem f_sortedL {ns ms : List Int} (h : Ev te Γ (.lst (ns.map D.int))) (hp : ms.Perm ns) (hs : ms.Pairwise (· ≤ ·)) : Fv (tCB (rSortedI K) (tCons te tNil)) Γ (ms.map D.int) := fv_cb (av_cons h av_nil) fun Hs H vs s dv Q q => by
  cases dv with
  | cons d1 d2 =>
    cases d2
    cases d1 with
    | lst h1 h2 =>
      refine ⟨_, ns, rfl, SqL.of (by rw [← h2.ofInts]; exact s _ _ h1), fun ns' p hp' hs' hn => ?_⟩
      have e : ns' = ms := sorted_unique (hp'.trans hp.symm) hs' hs
      subst e
      exact q p _ Hs _ (Ext.newOwn s hn) hn (s.free hn) upd_same (Ds.ints _)
theorem e_tupRg3 {a b c : Int} {n : Nat} (h : Av tar Γ [.int a, .int b, .int c]) (hr : RgC a b c n) (hn : n ≤ 16777216) : Ev (tTupRg3 tar) Γ (.tup ((List.range n).map fun (i : Nat) => D.int (a + (i : Int) * c))) := fun Hs H σ en Q q => h Hs H σ en _ fun vs Hs1 H1 e1 d1 => by
  cases d1 with
  | cons d1 d2 =>
    cases d2 with
    | cons d2 d3 =>
      cases d3 with
      | cons d3 d4 =>
        cases d4; cases d1; cases d2; cases d3
        refine ⟨a, b, c, n, rfl, hr, hn, fun p hp => q _ _ _ (e1.trans (Ext.new e1.e hp)) (.tup upd_same ?_)⟩
        unfold rgV3
        have key : ∀ (l : List Nat) (H : Hp), Ds H (l.map fun i => V.int (a + (i : Nat) * c)) (l.map fun (i : Nat) => D.int (a + (i : Int) * c)) := by
          intro l H
          induction l with
          | nil => exact .nil
          | cons k l ih => exact .cons (.int _) ih
        exact key _ _
/-- own[i] += k -/
theorem d_augS {n : Nat} {j : Nat} {f : Int → Int → Int} {a b : Int} (hi : Γ[n]? = some (.own ds)) (ho : Ev tb Γ (.int i)) (hj : ixN ds.length i = some j) (hd : ds[j]? = some (.int a)) (h : Ev te Γ (.int b)) (hn : O.nx (Γ.set n (.own (ds.set j (.int (f a b)))))) :
    DS (tAugS (tVar n) tb te (rIxL K) (ipI f) rSetL) Γ O := fun B Hs H σ k E a1 _ _ _ => by
  obtain ⟨l, vs, h1, h2, h3, h4⟩ := k.en.own n ds hi
  refine ⟨_, h1, ho Hs H σ k.en _ fun v Hs1 H1 e1 d1 => ?_⟩
  cases d1
  obtain ⟨w, g1, g2⟩ := h4.get hd
  cases g2
  refine ⟨l, vs, i, .int a, rfl, rfl, SqL.of (e1.h _ _ h3), ?_, h Hs1 H1 σ (k.en.ext e1) _ fun v Hs2 H2 e2 d2 => ?_⟩
  · unfold L2.atI
    rw [h4.len, hj]
    exact g1
  cases d2
  refine ⟨a, b, rfl, rfl, l, vs, i, j, rfl, rfl, e2.h _ _ (e1.h _ _ h3), by rw [h4.len]; exact hj, ?_⟩
  exact a1 σ Hs2 _ _ hn (((k.ext e1).ext e2).put hi h1 (Ds.set (.int _) j ((h4.mono e1.s).mono e2.s))) (e1.s.trans e2.s)
theorem q_augS {n : Nat} {j : Nat} {f : Int → Int → Int} {a b : Int} (hi : Γ[n]? = some (.own ds)) (ho : Ev tb Γ (.int i)) (hj : ixN ds.length i = some j) (hd : ds[j]? = some (.int a)) (h : Ev te Γ (.int b)) (hn : DS tz (Γ.set n (.own (ds.set j (.int (f a b))))) O) :
    DS (tSeq (tAugS (tVar n) tb te (rIxL K) (ipI f) rSetL) tz) Γ O := d_seq (d_augS hi ho hj hd h hn)
/-- x = list[own.pop()] -/
theorem d_popIx {m n g : Nat} {j : Int} (hi : Γ[n]? = some (.own (ds ++ [.int j]))) (hg : Γ[g]? = some (.dat (.lst xs))) (hx : L2.atI xs j = some d) (hne : g ≠ n) (hn : O.nx ((Γ.set n (.own ds)).set m (.dat d))) :
    DS (tAsg (tOp (rIxL K) (tVar g) (tBM0 K "list" rPop (tVar n))) (gName m)) Γ O := fun B Hs H σ k E a _ _ _ => by
  obtain ⟨l, vs, h1, h2, h3, h4⟩ := k.en.own n _ hi
  obtain ⟨v, g1, g2⟩ := k.en.dat g _ hg
  have hv : vs = vs.dropLast ++ [.int j] ∧ Ds Hs vs.dropLast ds := by
    have e := h4.len
    rw [List.length_append, List.length_singleton] at e
    have h5 := h4.dropLast
    rw [List.dropLast_concat] at h5
    obtain ⟨w, e1, e2⟩ := h4.get (i := ds.length) (d := .int j) (by simp)
    cases e2
    refine ⟨?_, h5⟩
    have hne : vs ≠ [] := fun z => by rw [z] at e; simp at e
    have e3 : vs.getLast hne = .int j := by
      rw [List.getLast_eq_getElem]
      have e4 := List.getElem?_eq_some_iff.mp e1
      obtain ⟨q1, q2⟩ := e4
      have : vs.length - 1 = ds.length := by omega
      simp only [this]
      exact q2
    rw [← e3, List.dropLast_concat_getLast hne]
  refine ⟨v, g1, _, h1, .inl ⟨rfl, _, SqL.of h3⟩, l, vs, .int j, rfl, rfl, h3, ?_, ?_⟩
  · obtain ⟨e1, _⟩ := hv
    have e2 : vs.length - 1 = vs.dropLast.length := by rw [List.length_dropLast]
    rw [e2]
    conv => lhs; rw [e1]
    simp
  · cases g2 with
    | @lst q ws _ w1 w2 =>
      obtain ⟨u, u1, u2⟩ := w2.atI hx
      have hql : q ≠ l := fun z => by rw [z, h2] at w1; cases w1
      refine ⟨q, ws, j, u, rfl, rfl, SqL.of (by rw [upd_ne hql]; exact k.en.ex _ _ w1), u1, ?_⟩
      exact a _ Hs _ _ hn ((k.put hi h1 hv.2).set u2) (.refl _)
theorem q_popIx {m n g : Nat} {j : Int} (hi : Γ[n]? = some (.own (ds ++ [.int j]))) (hg : Γ[g]? = some (.dat (.lst xs))) (hx : L2.atI xs j = some d) (hne : g ≠ n) (hn : DS tz ((Γ.set n (.own ds)).set m (.dat d)) O) :
    DS (tSeq (tAsg (tOp (rIxL K) (tVar g) (tBM0 K "list" rPop (tVar n))) (gName m)) tz) Γ O := d_seq (d_popIx hi hg hx hne hn)
end

abbrev xAdd : R2 := rI0 fun i j => .int (i + j)
abbrev xSub : R2 := rI0 fun i j => .int (i - j)
abbrev xMul : R2 := rI CMul fun i j => .int (i * j)
abbrev xDiv : R2 := rI CDiv fun i j => .int (i / j)
abbrev xMod : R2 := rI (fun _ j => 0 < j) fun i j => .int (i % j)
abbrev xPow : R2 := rI CPow fun i j => .int (i ^ j.toNat)
abbrev xLt : R2 := rI0 fun i j => .bl (decide (i < j))
abbrev xLe : R2 := rI0 fun i j => .bl (decide (i ≤ j))
abbrev xGt : R2 := rI0 fun i j => .bl (decide (j < i))
abbrev xGe : R2 := rI0 fun i j => .bl (decide (j ≤ i))
abbrev xIsN : R2 := fun x y H Q => y = V.non ∧ Q (.bl (decide (x = .non))) H
abbrev xNeg : V → Hp → VK → Prop := rU fun i => .int (-i)
/-! ### a def that is called by its name -/
structure Has (P : Program) (w : World) (K : PySem.W.Frag) (mg : Str → Option Value) (base : Heap) (k : Nat) (x : Str) (ps : List Str) (sp : Sp) : Prop where
  ex : ∃ f fd, FnOk P w K mg base CX0 k f fd ps sp ∧ mg x = some (.ref f) ∧ PySem.W.keepIn K (.ref f) = true ∧ Binds K fd ps []
section
variable {X : Cx} {k : Nat} {x : Str} {ps : List Str} {sp : Sp} {e : Expr} {es : List Expr} {t : TA} {p pos : Pos}
theorem pe_fn (h : Has X.prog X.w X.K X.mg X.base k x ps sp) (hr : Room k X.A) (hg : Gl X x) (ha : PA X (e :: es) t) (hdb : (x == ("__debug__" : Str)) = false := by decide)
    (he : starEach (e :: es) X.env = (false, eval e X.env) :: starEach es X.env := by rfl) (hpl : (backTo pos (starEach es X.env)).any (·.1) = false := by rfl) : PE X (.Call (.Name x p) (e :: es) [] pos) (tCall sp [] E0 t) := by
  obtain ⟨f, fd, h1, h2, h3, h4⟩ := h.ex
  exact pe_call h1 hr hg h2 h3 h4 .nil pass0 ha hdb he hpl
theorem pe_fn0 (h : Has X.prog X.w X.K X.mg X.base k x ps sp) (hr : Room k X.A) (hg : Gl X x) (hdb : (x == ("__debug__" : Str)) = false := by decide) : PE X (.Call (.Name x p) [] [] pos) (tCall sp [] E0 tNil) := by
  obtain ⟨f, fd, h1, h2, h3, h4⟩ := h.ex
  exact pe_call0 h1 hr hg h2 h3 h4 .nil pass0 hdb
theorem pe_many {p : Pos} (h : ∃ t, X.mg "MANY" = some (.int 2000 t)) (hg : Gl X "MANY") : PE X (.Name "MANY" p) (tC (.int 2000)) := by
  obtain ⟨t, h⟩ := h
  exact pe_glob hg h ⟨t, rfl⟩
end
/-- the built-in names that the text uses -/
structure Glob (mg : Str → Option Value) : Prop where
  z_len : mg "len" = none
  z_range : mg "range" = none
  z_isinstance : mg "isinstance" = none
  z_tuple : mg "tuple" = none
  z_list : mg "list" = none
  z_int : mg "int" = none
  z_bool : mg "bool" = none
  z_str : mg "str" = none
  z_all : mg "all" = none
  z_any : mg "any" = none
  z_zip : mg "zip" = none
  z_enumerate : mg "enumerate" = none
  z_sum : mg "sum" = none
  z_max : mg "max" = none
  z_min : mg "min" = none
  z_sorted : mg "sorted" = none
  z_abs : mg "abs" = none
  z_divmod : mg "divmod" = none
  gcd : mg "gcd" = some (.builtin "math.gcd")
  many : ∃ t, mg "MANY" = some (.int 2000 t)
end DL
set_option Elab.async false
set_option maxRecDepth 100000
namespace DL
open PySem L2
def topS (i : Nat) : Stmt := PySem.Challenge.pw_bothwheels_k37_whole_pairs_and_trains_be.main.body.getD i (.Pass ⟨0, 0, 0, 0⟩)
end DL
set_option Elab.async false
set_option linter.all false
set_option maxRecDepth 100000
set_option maxHeartbeats 4000000
namespace DL
open PySem L2 PyProof.Rows RZ
abbrev s_is_number : Stmt := topS 5
theorem sc_is_number : FnScope ["thing"] ["thing"] (defScope s_is_number) := ⟨rfl, rfl, rfl, by decide +kernel, rfl, by decide +kernel, by decide +kernel⟩
def t_is_number (K : PySem.W.Frag) : TS :=
  (tRet (tAndV (tCB (rIsi K) (tCons (tVar 0) (tCons (tC (.ty "int")) tNil))) (tNotV (tCB (rIsi K) (tCons (tVar 0) (tCons (tC (.ty "bool")) tNil))))))
theorem p_is_number {P : Program} {w : World} {K : PySem.W.Frag} {mg : Str → Option Value} {base : Heap} (G : Glob mg) {f : Addr} {cdv : Value} {A : Around} {outer : List Env} {s : Shared} {H : Hp} {E : XK} (hr : Room 0 (A.deeper (PyProof.Rows.envOfC "is_number" (defScope s_is_number) s.heap.objs.size f cdv))) :
    PSs (cxOf CX0 P w K mg base ["thing"] "is_number" (defScope s_is_number) f cdv A outer s H E).nox (defBody s_is_number) (t_is_number K) :=
  (pss_one (ps_ret (pe_and (pe_callB call_isi (by rfl) G.z_isinstance (by decide +kernel) (pa_cons (pv 0) (pa_cons (pe_bltn (v := .ty "int") (by rfl) G.z_int (by decide +kernel) rfl) pa_nil))) (pe_one (pe_not (pe_callB call_isi (by rfl) G.z_isinstance (by decide +kernel) (pa_cons (pv 0) (pa_cons (pe_bltn (v := .ty "bool") (by rfl) G.z_bool (by decide +kernel) rfl) pa_nil))))))))
abbrev s_is_from : Stmt := topS 6
theorem sc_is_from : FnScope ["thing", "least"] ["thing", "least"] (defScope s_is_from) := ⟨rfl, rfl, rfl, by decide +kernel, rfl, by decide +kernel, by decide +kernel⟩
def t_is_from (K : PySem.W.Frag) (S_is_number : Sp) : TS :=
  (tRet (tAndV (tCall S_is_number [] E0 (tCons (tVar 0) tNil)) (tOp xGe (tVar 0) (tVar 1))))
theorem p_is_from {P : Program} {w : World} {K : PySem.W.Frag} {mg : Str → Option Value} {base : Heap} (G : Glob mg) {S_is_number : Sp} (h_is_number : Has P w K mg base 1 "is_number" ["thing"] S_is_number) {f : Addr} {cdv : Value} {A : Around} {outer : List Env} {s : Shared} {H : Hp} {E : XK} (hr : Room 1 (A.deeper (PyProof.Rows.envOfC "is_from" (defScope s_is_from) s.heap.objs.size f cdv))) :
    PSs (cxOf CX0 P w K mg base ["thing", "least"] "is_from" (defScope s_is_from) f cdv A outer s H E).nox (defBody s_is_from) (t_is_from K S_is_number) :=
  (pss_one (ps_ret (pe_and (pe_fn h_is_number (hr.mono (by decide)) (by rfl) (pa_cons (pv 0) pa_nil)) (pe_one (pe_cmpR op_ge (pv 0) (pv 1) (nomark _))))))
abbrev s_is_long : Stmt := topS 7
theorem sc_is_long : FnScope ["thing", "length"] ["thing", "length"] (defScope s_is_long) := ⟨rfl, rfl, rfl, by decide +kernel, rfl, by decide +kernel, by decide +kernel⟩
def t_is_long (K : PySem.W.Frag) : TS :=
  (tRet (tAndV (tCB (rIsi K) (tCons (tVar 0) (tCons (tC (.ty "tuple")) tNil))) (tOp (rEqD K) (tCB (rLenS K) (tCons (tVar 0) tNil)) (tVar 1))))
theorem p_is_long {P : Program} {w : World} {K : PySem.W.Frag} {mg : Str → Option Value} {base : Heap} (G : Glob mg) {f : Addr} {cdv : Value} {A : Around} {outer : List Env} {s : Shared} {H : Hp} {E : XK} (hr : Room 0 (A.deeper (PyProof.Rows.envOfC "is_long" (defScope s_is_long) s.heap.objs.size f cdv))) :
    PSs (cxOf CX0 P w K mg base ["thing", "length"] "is_long" (defScope s_is_long) f cdv A outer s H E).nox (defBody s_is_long) (t_is_long K) :=
  (pss_one (ps_ret (pe_and (pe_callB call_isi (by rfl) G.z_isinstance (by decide +kernel) (pa_cons (pv 0) (pa_cons (pe_bltn (v := .ty "tuple") (by rfl) G.z_tuple (by decide +kernel) rfl) pa_nil))) (pe_one (pe_cmpR (op_eqD hr.units) (pe_callB call_len_seq (by rfl) G.z_len (by decide +kernel) (pa_cons (pv 0) pa_nil)) (pv 1) (nomark _))))))
abbrev s_tupled : Stmt := topS 8
theorem sc_tupled : FnScope ["value", "own"] ["value"] (defScope s_tupled) := ⟨rfl, rfl, rfl, by decide +kernel, rfl, by decide +kernel, by decide +kernel⟩
def t_tupled (K : PySem.W.Frag) (S_tupled : Sp) : TS :=
  (tRet (tIf (tB (tCB (rIsiT K) (tCons (tVar 0) (tCons (tTup (tCons (tC (.ty "list")) (tCons (tC (.ty "tuple")) tNil))) tNil)))) (tCB (rTupOf K) (tCons (tLc (iTup K (tVar 0)) (gName 1) tYes (tCall S_tupled [] E0 (tCons (tVar 1) tNil)) [1]) tNil)) (tVar 0)))
theorem p_tupled {P : Program} {w : World} {K : PySem.W.Frag} {mg : Str → Option Value} {base : Heap} {kk : Nat} (G : Glob mg) {S_tupled : Sp} (h_tupled : Has P w K mg base kk "tupled" ["value"] S_tupled) {f : Addr} {cdv : Value} {A : Around} {outer : List Env} {s : Shared} {H : Hp} {E : XK} (hr : Room kk (A.deeper (PyProof.Rows.envOfC "tupled" (defScope s_tupled) s.heap.objs.size f cdv))) :
    PSs (cxOf CX0 P w K mg base ["value", "own"] "tupled" (defScope s_tupled) f cdv A outer s H E).nox (defBody s_tupled) (t_tupled K S_tupled) :=
  (pss_one (ps_ret (pe_ifExp (pt_val (pe_callB call_isiT (by rfl) G.z_isinstance (by decide +kernel) (pa_cons (pv 0) (pa_cons (pe_tup (pa_cons (pe_bltn (v := .ty "list") (by rfl) G.z_list (by decide +kernel) rfl) (pa_cons (pe_bltn (v := .ty "tuple") (by rfl) G.z_tuple (by decide +kernel) rfl) pa_nil))) pa_nil)))) (pe_callTy call_tuple_of (by rfl) G.z_tuple (by decide +kernel) (pa_cons (pe_lc (own := [("own", 1)]) (g := (gName 1)) (tt := tYes) rfl sc_tupled.nd (pi_tup (pv 0)) (blkOk_by (N := ["value", "own"]) (sc := defScope s_tupled) (by decide +kernel)) (fun _ _ _ _ _ => (pg_name (i := 1) sc_tupled.nd rfl (Or.inl rfl))) (fun _ _ _ _ _ => pts_nil) (fun _ _ _ _ _ => (pe_fn h_tupled (hr.mono (by omega)) (by rfl) (pa_cons (pv 1) pa_nil)))) pa_nil)) (pv 0))))
abbrev s_is_wheel : Stmt := topS 10
theorem sc_is_wheel : FnScope ["thing", "near", "far", "own"] ["thing"] (defScope s_is_wheel) := ⟨rfl, rfl, rfl, by decide +kernel, rfl, by decide +kernel, by decide +kernel⟩
def t_is_wheel (K : PySem.W.Frag) (S_is_number : Sp) : TS :=
  (tSeq (tIfS (tOr (tNot (tB (tCB (rIsi K) (tCons (tVar 0) (tCons (tC (.ty "tuple")) tNil))))) (tOr (tTest (tOp (rEqD K) (tCB (rLenS K) (tCons (tVar 0) tNil)) (tC (.int 0)))) (tNot (tB (tCB (rAll K) (tCons (tLc (iTup K (tVar 0)) (gName 3) tYes (tCall S_is_number [] E0 (tCons (tVar 3) tNil)) [3]) tNil)))))) (tRet (tC (.bl false))) tNext)
    (tSeq (tIfS (tNot (tB (tCB (rAll K) (tCons (tLc (iZipA K (tCons (tVar 0) (tCons (tSl (rSlA K) (tVar 0) (tPart (tC (.int 1))) tNoPart) tNil))) (gTup K 2 (gCons (gName 1) (gCons (gName 2) gNil))) tYes (tOp xLe (tVar 1) (tVar 2)) [1, 2]) tNil)))) (tRet (tC (.bl false))) tNext)
    (tRet (tOp xLe (tOp (rIxT K) (tVar 0) (tUn xNeg (tC (.int 1)))) (tOp xAdd (tOp (rIxT K) (tVar 0) (tC (.int 0))) (tCB (rLenS K) (tCons (tVar 0) tNil)))))))
theorem p_is_wheel {P : Program} {w : World} {K : PySem.W.Frag} {mg : Str → Option Value} {base : Heap} (G : Glob mg) {S_is_number : Sp} (h_is_number : Has P w K mg base 1 "is_number" ["thing"] S_is_number) {f : Addr} {cdv : Value} {A : Around} {outer : List Env} {s : Shared} {H : Hp} {E : XK} (hr : Room 1 (A.deeper (PyProof.Rows.envOfC "is_wheel" (defScope s_is_wheel) s.heap.objs.size f cdv))) :
    PSs (cxOf CX0 P w K mg base ["thing", "near", "far", "own"] "is_wheel" (defScope s_is_wheel) f cdv A outer s H E).nox (defBody s_is_wheel) (t_is_wheel K S_is_number) :=
  (pss_cons (ps_if (PW.pt (pw_or (pt_not (pt_val (pe_callB call_isi (by rfl) G.z_isinstance (by decide +kernel) (pa_cons (pv 0) (pa_cons (pe_bltn (v := .ty "tuple") (by rfl) G.z_tuple (by decide +kernel) rfl) pa_nil))))) (pw_or (pt_cmpR (op_eqD hr.units) (pe_callB call_len_seq (by rfl) G.z_len (by decide +kernel) (pa_cons (pv 0) pa_nil)) pe_int (nomark _)) (pw_or1 (pt_not (pt_val (pe_callB (cr_all rfl) (by rfl) G.z_all (by decide +kernel) (pa_cons (pe_lc (own := [("own", 3)]) (g := (gName 3)) (tt := tYes) rfl sc_is_wheel.nd (pi_tup (pv 0)) (blkOk_by (N := ["thing", "near", "far", "own"]) (sc := defScope s_is_wheel) (by decide +kernel)) (fun _ _ _ _ _ => (pg_name (i := 3) sc_is_wheel.nd rfl (Or.inl rfl))) (fun _ _ _ _ _ => pts_nil) (fun _ _ _ _ _ => (pe_fn h_is_number (hr.mono (by decide)) (by rfl) (pa_cons (pv 3) pa_nil)))) pa_nil)))))))) (pss_one (ps_ret pe_bl)) pss_nil)
    (pss_cons (ps_if (pt_not (pt_val (pe_callB (cr_all rfl) (by rfl) G.z_all (by decide +kernel) (pa_cons (pe_lc (own := [("near", 1), ("far", 2)]) (g := (gTup K 2 (gCons (gName 1) (gCons (gName 2) gNil)))) (tt := tYes) rfl sc_is_wheel.nd (pi_zipA (by rfl) G.z_zip (pa_cons (pv 0) (pa_cons (pe_slice sl_tupA (pv 0) (po_some pe_int) po_none) pa_nil))) (blkOk_by (N := ["thing", "near", "far", "own"]) (sc := defScope s_is_wheel) (by decide +kernel)) (fun _ _ _ _ _ => (pg_tup rfl (pgs_cons (pg_name (i := 1) sc_is_wheel.nd rfl (Or.inl rfl)) (pgs_cons (pg_name (i := 2) sc_is_wheel.nd rfl (Or.inl rfl)) pgs_nil)))) (fun _ _ _ _ _ => pts_nil) (fun _ _ _ _ _ => (pe_cmpR op_le (pv 1) (pv 2) (nomark _)))) pa_nil)))) (pss_one (ps_ret pe_bl)) pss_nil)
    (pss_one (ps_ret (pe_cmpR op_le (pe_ix ix_tup (pv 0) (pe_un un_neg pe_int) (fun _ _ => rfl)) (pe_op op_add (pe_ix ix_tup (pv 0) pe_int (fun _ _ => rfl)) (pe_callB call_len_seq (by rfl) G.z_len (by decide +kernel) (pa_cons (pv 0) pa_nil))) (nomark _))))))
abbrev s_sure_wheel : Stmt := topS 11
theorem sc_sure_wheel : FnScope ["wheel", "own"] ["wheel"] (defScope s_sure_wheel) := ⟨rfl, rfl, rfl, by decide +kernel, rfl, by decide +kernel, by decide +kernel⟩
def t_sure_wheel (K : PySem.W.Frag) (S_is_wheel S_tupled : Sp) : TS :=
  (tSeq (tAsg (tCall S_tupled [] E0 (tCons (tVar 0) tNil)) (gName 1))
    (tSeq (tIfS (tNot (tB (tCall S_is_wheel [] E0 (tCons (tVar 1) tNil)))) tNever tNext)
    (tRet (tVar 1))))
theorem p_sure_wheel {P : Program} {w : World} {K : PySem.W.Frag} {mg : Str → Option Value} {base : Heap} (G : Glob mg) {S_is_wheel : Sp} (h_is_wheel : Has P w K mg base 2 "is_wheel" ["thing"] S_is_wheel) {S_tupled : Sp} (h_tupled : Has P w K mg base 3 "tupled" ["value"] S_tupled) {f : Addr} {cdv : Value} {A : Around} {outer : List Env} {s : Shared} {H : Hp} {E : XK} (hr : Room 3 (A.deeper (PyProof.Rows.envOfC "sure_wheel" (defScope s_sure_wheel) s.heap.objs.size f cdv))) :
    PSs (cxOf CX0 P w K mg base ["wheel", "own"] "sure_wheel" (defScope s_sure_wheel) f cdv A outer s H E).nox (defBody s_sure_wheel) (t_sure_wheel K S_is_wheel S_tupled) :=
  (pss_cons (ps_set (i := 1) sc_sure_wheel.nd rfl (Or.inl rfl) (pe_fn h_tupled (hr.mono (by decide)) (by rfl) (pa_cons (pv 0) pa_nil)))
    (pss_cons (ps_if (pt_not (pt_val (pe_fn h_is_wheel (hr.mono (by decide)) (by rfl) (pa_cons (pv 1) pa_nil)))) (pss_one ps_never) pss_nil)
    (pss_one (ps_ret (pv 1)))))
abbrev s_is_train : Stmt := topS 12
theorem sc_is_train : FnScope ["thing", "own"] ["thing"] (defScope s_is_train) := ⟨rfl, rfl, rfl, by decide +kernel, rfl, by decide +kernel, by decide +kernel⟩
def t_is_train (K : PySem.W.Frag) (S_is_wheel : Sp) : TS :=
  (tSeq (tIfS (tOr (tNot (tB (tCB (rIsi K) (tCons (tVar 0) (tCons (tC (.ty "tuple")) tNil))))) (tOr (tTest (tOp (rEqD K) (tCB (rLenS K) (tCons (tVar 0) tNil)) (tC (.int 0)))) (tNot (tB (tCB (rAll K) (tCons (tLc (iTup K (tVar 0)) (gName 1) tYes (tCall S_is_wheel [] E0 (tCons (tVar 1) tNil)) [1]) tNil)))))) (tRet (tC (.bl false))) tNext)
    (tRet (tCB (rAll K) (tCons (tLc (iTup K (tVar 0)) (gName 1) tYes (tOp (rEqD K) (tCB (rLenS K) (tCons (tVar 1) tNil)) (tCB (rLenS K) (tCons (tOp (rIxT K) (tVar 0) (tC (.int 0))) tNil))) [1]) tNil))))
theorem p_is_train {P : Program} {w : World} {K : PySem.W.Frag} {mg : Str → Option Value} {base : Heap} (G : Glob mg) {S_is_wheel : Sp} (h_is_wheel : Has P w K mg base 2 "is_wheel" ["thing"] S_is_wheel) {f : Addr} {cdv : Value} {A : Around} {outer : List Env} {s : Shared} {H : Hp} {E : XK} (hr : Room 2 (A.deeper (PyProof.Rows.envOfC "is_train" (defScope s_is_train) s.heap.objs.size f cdv))) :
    PSs (cxOf CX0 P w K mg base ["thing", "own"] "is_train" (defScope s_is_train) f cdv A outer s H E).nox (defBody s_is_train) (t_is_train K S_is_wheel) :=
  (pss_cons (ps_if (PW.pt (pw_or (pt_not (pt_val (pe_callB call_isi (by rfl) G.z_isinstance (by decide +kernel) (pa_cons (pv 0) (pa_cons (pe_bltn (v := .ty "tuple") (by rfl) G.z_tuple (by decide +kernel) rfl) pa_nil))))) (pw_or (pt_cmpR (op_eqD hr.units) (pe_callB call_len_seq (by rfl) G.z_len (by decide +kernel) (pa_cons (pv 0) pa_nil)) pe_int (nomark _)) (pw_or1 (pt_not (pt_val (pe_callB (cr_all rfl) (by rfl) G.z_all (by decide +kernel) (pa_cons (pe_lc (own := [("own", 1)]) (g := (gName 1)) (tt := tYes) rfl sc_is_train.nd (pi_tup (pv 0)) (blkOk_by (N := ["thing", "own"]) (sc := defScope s_is_train) (by decide +kernel)) (fun _ _ _ _ _ => (pg_name (i := 1) sc_is_train.nd rfl (Or.inl rfl))) (fun _ _ _ _ _ => pts_nil) (fun _ _ _ _ _ => (pe_fn h_is_wheel (hr.mono (by decide)) (by rfl) (pa_cons (pv 1) pa_nil)))) pa_nil)))))))) (pss_one (ps_ret pe_bl)) pss_nil)
    (pss_one (ps_ret (pe_callB (cr_all rfl) (by rfl) G.z_all (by decide +kernel) (pa_cons (pe_lc (own := [("own", 1)]) (g := (gName 1)) (tt := tYes) rfl sc_is_train.nd (pi_tup (pv 0)) (blkOk_by (N := ["thing", "own"]) (sc := defScope s_is_train) (by decide +kernel)) (fun _ _ _ _ _ => (pg_name (i := 1) sc_is_train.nd rfl (Or.inl rfl))) (fun _ _ _ _ _ => pts_nil) (fun _ _ _ _ _ => (pe_cmpR (op_eqD hr.units) (pe_callB call_len_seq (by rfl) G.z_len (by decide +kernel) (pa_cons (pv 1) pa_nil)) (pe_callB call_len_seq (by rfl) G.z_len (by decide +kernel) (pa_cons (pe_ix ix_tup (pv 0) pe_int (fun _ _ => rfl)) pa_nil)) (nomark _)))) pa_nil)))))
abbrev s_led_in : Stmt := topS 13
theorem sc_led_in : FnScope ["wheel", "number", "rounds", "place"] ["wheel", "number"] (defScope s_led_in) := ⟨rfl, rfl, rfl, by decide +kernel, rfl, by decide +kernel, by decide +kernel⟩
def t_led_in (K : PySem.W.Frag) : TS :=
  (tSeq (tAsg (tCB rDivmod (tCons (tVar 1) (tCons (tCB (rLenS K) (tCons (tVar 0) tNil)) tNil))) (gTup K 2 (gCons (gName 2) (gCons (gName 3) gNil))))
    (tRet (tOp xAdd (tOp (rIxT K) (tVar 0) (tVar 3)) (tOp xMul (tVar 2) (tCB (rLenS K) (tCons (tVar 0) tNil))))))
theorem p_led_in {P : Program} {w : World} {K : PySem.W.Frag} {mg : Str → Option Value} {base : Heap} (G : Glob mg) {f : Addr} {cdv : Value} {A : Around} {outer : List Env} {s : Shared} {H : Hp} {E : XK} (hr : Room 0 (A.deeper (PyProof.Rows.envOfC "led_in" (defScope s_led_in) s.heap.objs.size f cdv))) :
    PSs (cxOf CX0 P w K mg base ["wheel", "number", "rounds", "place"] "led_in" (defScope s_led_in) f cdv A outer s H E).nox (defBody s_led_in) (t_led_in K) :=
  (pss_cons (ps_asg (pe_callB call_divmod (by rfl) G.z_divmod (by decide +kernel) (pa_cons (pv 1) (pa_cons (pe_callB call_len_seq (by rfl) G.z_len (by decide +kernel) (pa_cons (pv 0) pa_nil)) pa_nil))) (pg_tup rfl (pgs_cons (pg_name (i := 2) sc_led_in.nd rfl (Or.inl rfl)) (pgs_cons (pg_name (i := 3) sc_led_in.nd rfl (Or.inl rfl)) pgs_nil))))
    (pss_one (ps_ret (pe_op op_add (pe_ix ix_tup (pv 0) (pv 3) (fun _ _ => rfl)) (pe_op op_mul (pv 2) (pe_callB call_len_seq (by rfl) G.z_len (by decide +kernel) (pa_cons (pv 0) pa_nil)))))))
abbrev s_behind : Stmt := topS 14
theorem sc_behind : FnScope ["wheel", "other", "number"] ["wheel", "other"] (defScope s_behind) := ⟨rfl, rfl, rfl, by decide +kernel, rfl, by decide +kernel, by decide +kernel⟩
def t_behind (K : PySem.W.Frag) (S_led_in : Sp) : TS :=
  (tRet (tCB (rTupOf K) (tCons (tLc (iTup K (tVar 1)) (gName 2) tYes (tCall S_led_in [] E0 (tCons (tVar 0) (tCons (tVar 2) tNil))) [2]) tNil)))
theorem p_behind {P : Program} {w : World} {K : PySem.W.Frag} {mg : Str → Option Value} {base : Heap} (G : Glob mg) {S_led_in : Sp} (h_led_in : Has P w K mg base 1 "led_in" ["wheel", "number"] S_led_in) {f : Addr} {cdv : Value} {A : Around} {outer : List Env} {s : Shared} {H : Hp} {E : XK} (hr : Room 1 (A.deeper (PyProof.Rows.envOfC "behind" (defScope s_behind) s.heap.objs.size f cdv))) :
    PSs (cxOf CX0 P w K mg base ["wheel", "other", "number"] "behind" (defScope s_behind) f cdv A outer s H E).nox (defBody s_behind) (t_behind K S_led_in) :=
  (pss_one (ps_ret (pe_callTy call_tuple_of (by rfl) G.z_tuple (by decide +kernel) (pa_cons (pe_lc (own := [("number", 2)]) (g := (gName 2)) (tt := tYes) rfl sc_behind.nd (pi_tup (pv 1)) (blkOk_by (N := ["wheel", "other", "number"]) (sc := defScope s_behind) (by decide +kernel)) (fun _ _ _ _ _ => (pg_name (i := 2) sc_behind.nd rfl (Or.inl rfl))) (fun _ _ _ _ _ => pts_nil) (fun _ _ _ _ _ => (pe_fn h_led_in (hr.mono (by decide)) (by rfl) (pa_cons (pv 0) (pa_cons (pv 2) pa_nil))))) pa_nil))))
abbrev s_put_in : Stmt := topS 15
theorem sc_put_in : FnScope ["train", "found", "own"] ["train"] (defScope s_put_in) := ⟨rfl, rfl, rfl, by decide +kernel, rfl, by decide +kernel, by decide +kernel⟩
def t_put_in (K : PySem.W.Frag) (S_behind : Sp) : TS :=
  (tSeq (tAsg (tOp (rIxT K) (tVar 0) (tUn xNeg (tC (.int 1)))) (gName 1))
    (tSeq (tFor (iTup K (tRevT2 K (tVar 0))) (gName 2) (tAsg (tCall S_behind [] E0 (tCons (tVar 2) (tCons (tVar 1) tNil))) (gName 1)))
    (tRet (tVar 1))))
theorem p_put_in {P : Program} {w : World} {K : PySem.W.Frag} {mg : Str → Option Value} {base : Heap} (G : Glob mg) {S_behind : Sp} (h_behind : Has P w K mg base 2 "behind" ["wheel", "other"] S_behind) {f : Addr} {cdv : Value} {A : Around} {outer : List Env} {s : Shared} {H : Hp} {E : XK} (hr : Room 2 (A.deeper (PyProof.Rows.envOfC "put_in" (defScope s_put_in) s.heap.objs.size f cdv))) :
    PSs (cxOf CX0 P w K mg base ["train", "found", "own"] "put_in" (defScope s_put_in) f cdv A outer s H E).nox (defBody s_put_in) (t_put_in K S_behind) :=
  (pss_cons (ps_set (i := 1) sc_put_in.nd rfl (Or.inl rfl) (pe_ix ix_tup (pv 0) (pe_un un_neg pe_int) (fun _ _ => rfl)))
    (pss_cons (ps_for PassesOwn.never rfl (pi_tup (pe_revT2 (pv 0))) (pg_name (i := 2) sc_put_in.nd rfl (Or.inl rfl)) (pss_one (ps_set (i := 1) sc_put_in.nd rfl (Or.inl rfl) (pe_fn h_behind (hr.mono (by decide)) (by rfl) (pa_cons (pv 2) (pa_cons (pv 1) pa_nil))))))
    (pss_one (ps_ret (pv 1)))))
abbrev s_is_fraction : Stmt := topS 17
theorem sc_is_fraction : FnScope ["thing"] ["thing"] (defScope s_is_fraction) := ⟨rfl, rfl, rfl, by decide +kernel, rfl, by decide +kernel, by decide +kernel⟩
def t_is_fraction (K : PySem.W.Frag) (S_is_from S_is_long S_is_number : Sp) : TS :=
  (tSeq (tIfS (tOr (tNot (tB (tCall S_is_long [] E0 (tCons (tVar 0) (tCons (tC (.int 2)) tNil))))) (tOr (tNot (tB (tCall S_is_number [] E0 (tCons (tOp (rIxT K) (tVar 0) (tC (.int 0))) tNil)))) (tNot (tB (tCall S_is_from [] E0 (tCons (tOp (rIxT K) (tVar 0) (tC (.int 1))) (tCons (tC (.int 1)) tNil))))))) (tRet (tC (.bl false))) tNext)
    (tRet (tOp (rEqD K) (tCB rGcd (tCons (tOp (rIxT K) (tVar 0) (tC (.int 0))) (tCons (tOp (rIxT K) (tVar 0) (tC (.int 1))) tNil))) (tC (.int 1)))))
theorem p_is_fraction {P : Program} {w : World} {K : PySem.W.Frag} {mg : Str → Option Value} {base : Heap} (G : Glob mg) {S_is_from : Sp} (h_is_from : Has P w K mg base 2 "is_from" ["thing", "least"] S_is_from) {S_is_long : Sp} (h_is_long : Has P w K mg base 1 "is_long" ["thing", "length"] S_is_long) {S_is_number : Sp} (h_is_number : Has P w K mg base 1 "is_number" ["thing"] S_is_number) {f : Addr} {cdv : Value} {A : Around} {outer : List Env} {s : Shared} {H : Hp} {E : XK} (hr : Room 2 (A.deeper (PyProof.Rows.envOfC "is_fraction" (defScope s_is_fraction) s.heap.objs.size f cdv))) :
    PSs (cxOf CX0 P w K mg base ["thing"] "is_fraction" (defScope s_is_fraction) f cdv A outer s H E).nox (defBody s_is_fraction) (t_is_fraction K S_is_from S_is_long S_is_number) :=
  (pss_cons (ps_if (PW.pt (pw_or (pt_not (pt_val (pe_fn h_is_long (hr.mono (by decide)) (by rfl) (pa_cons (pv 0) (pa_cons pe_int pa_nil))))) (pw_or (pt_not (pt_val (pe_fn h_is_number (hr.mono (by decide)) (by rfl) (pa_cons (pe_ix ix_tup (pv 0) pe_int (fun _ _ => rfl)) pa_nil)))) (pw_or1 (pt_not (pt_val (pe_fn h_is_from (hr.mono (by decide)) (by rfl) (pa_cons (pe_ix ix_tup (pv 0) pe_int (fun _ _ => rfl)) (pa_cons pe_int pa_nil))))))))) (pss_one (ps_ret pe_bl)) pss_nil)
    (pss_one (ps_ret (pe_cmpR (op_eqD hr.units) (pe_callBfun cr_gcd (by rfl) G.gcd (pa_cons (pe_ix ix_tup (pv 0) pe_int (fun _ _ => rfl)) (pa_cons (pe_ix ix_tup (pv 0) pe_int (fun _ _ => rfl)) pa_nil))) pe_int (nomark _)))))
abbrev s_sure_fraction : Stmt := topS 18
theorem sc_sure_fraction : FnScope ["one", "own"] ["one"] (defScope s_sure_fraction) := ⟨rfl, rfl, rfl, by decide +kernel, rfl, by decide +kernel, by decide +kernel⟩
def t_sure_fraction (K : PySem.W.Frag) (S_is_fraction S_tupled : Sp) : TS :=
  (tSeq (tAsg (tCall S_tupled [] E0 (tCons (tVar 0) tNil)) (gName 1))
    (tSeq (tIfS (tNot (tB (tCall S_is_fraction [] E0 (tCons (tVar 1) tNil)))) tNever tNext)
    (tRet (tVar 1))))
theorem p_sure_fraction {P : Program} {w : World} {K : PySem.W.Frag} {mg : Str → Option Value} {base : Heap} (G : Glob mg) {S_is_fraction : Sp} (h_is_fraction : Has P w K mg base 3 "is_fraction" ["thing"] S_is_fraction) {S_tupled : Sp} (h_tupled : Has P w K mg base 3 "tupled" ["value"] S_tupled) {f : Addr} {cdv : Value} {A : Around} {outer : List Env} {s : Shared} {H : Hp} {E : XK} (hr : Room 3 (A.deeper (PyProof.Rows.envOfC "sure_fraction" (defScope s_sure_fraction) s.heap.objs.size f cdv))) :
    PSs (cxOf CX0 P w K mg base ["one", "own"] "sure_fraction" (defScope s_sure_fraction) f cdv A outer s H E).nox (defBody s_sure_fraction) (t_sure_fraction K S_is_fraction S_tupled) :=
  (pss_cons (ps_set (i := 1) sc_sure_fraction.nd rfl (Or.inl rfl) (pe_fn h_tupled (hr.mono (by decide)) (by rfl) (pa_cons (pv 0) pa_nil)))
    (pss_cons (ps_if (pt_not (pt_val (pe_fn h_is_fraction (hr.mono (by decide)) (by rfl) (pa_cons (pv 1) pa_nil)))) (pss_one ps_never) pss_nil)
    (pss_one (ps_ret (pv 1)))))
abbrev s_made : Stmt := topS 19
theorem sc_made : FnScope ["above", "below", "by"] ["above", "below"] (defScope s_made) := ⟨rfl, rfl, rfl, by decide +kernel, rfl, by decide +kernel, by decide +kernel⟩
def t_made (K : PySem.W.Frag) : TS :=
  (tSeq (tAsg (tCB rGcd (tCons (tVar 0) (tCons (tVar 1) tNil))) (gName 2))
    (tRet (tIf (tTest (tOp xGt (tVar 1) (tC (.int 0)))) (tTup (tCons (tOp xDiv (tVar 0) (tVar 2)) (tCons (tOp xDiv (tVar 1) (tVar 2)) tNil))) (tTup (tCons (tOp xDiv (tUn xNeg (tVar 0)) (tVar 2)) (tCons (tOp xDiv (tUn xNeg (tVar 1)) (tVar 2)) tNil))))))
theorem p_made {P : Program} {w : World} {K : PySem.W.Frag} {mg : Str → Option Value} {base : Heap} (G : Glob mg) {f : Addr} {cdv : Value} {A : Around} {outer : List Env} {s : Shared} {H : Hp} {E : XK} (hr : Room 0 (A.deeper (PyProof.Rows.envOfC "made" (defScope s_made) s.heap.objs.size f cdv))) :
    PSs (cxOf CX0 P w K mg base ["above", "below", "by"] "made" (defScope s_made) f cdv A outer s H E).nox (defBody s_made) (t_made K) :=
  (pss_cons (ps_set (i := 2) sc_made.nd rfl (Or.inl rfl) (pe_callBfun cr_gcd (by rfl) G.gcd (pa_cons (pv 0) (pa_cons (pv 1) pa_nil))))
    (pss_one (ps_ret (pe_ifExp (pt_cmpR op_gt (pv 1) pe_int (nomark _)) (pe_tup (pa_cons (pe_op op_fdiv (pv 0) (pv 2)) (pa_cons (pe_op op_fdiv (pv 1) (pv 2)) pa_nil))) (pe_tup (pa_cons (pe_op op_fdiv (pe_un un_neg (pv 0)) (pv 2)) (pa_cons (pe_op op_fdiv (pe_un un_neg (pv 1)) (pv 2)) pa_nil)))))))
abbrev s_two : Stmt := topS 20
theorem sc_two : FnScope ["one", "other"] ["one", "other"] (defScope s_two) := ⟨rfl, rfl, rfl, by decide +kernel, rfl, by decide +kernel, by decide +kernel⟩
def t_two (K : PySem.W.Frag) (S_sure_fraction : Sp) : TS :=
  (tRet (tTup (tCons (tCall S_sure_fraction [] E0 (tCons (tVar 0) tNil)) (tCons (tCall S_sure_fraction [] E0 (tCons (tVar 1) tNil)) tNil))))
theorem p_two {P : Program} {w : World} {K : PySem.W.Frag} {mg : Str → Option Value} {base : Heap} (G : Glob mg) {S_sure_fraction : Sp} (h_sure_fraction : Has P w K mg base 4 "sure_fraction" ["one"] S_sure_fraction) {f : Addr} {cdv : Value} {A : Around} {outer : List Env} {s : Shared} {H : Hp} {E : XK} (hr : Room 4 (A.deeper (PyProof.Rows.envOfC "two" (defScope s_two) s.heap.objs.size f cdv))) :
    PSs (cxOf CX0 P w K mg base ["one", "other"] "two" (defScope s_two) f cdv A outer s H E).nox (defBody s_two) (t_two K S_sure_fraction) :=
  (pss_one (ps_ret (pe_tup (pa_cons (pe_fn h_sure_fraction (hr.mono (by decide)) (by rfl) (pa_cons (pv 0) pa_nil)) (pa_cons (pe_fn h_sure_fraction (hr.mono (by decide)) (by rfl) (pa_cons (pv 1) pa_nil)) pa_nil)))))
abbrev s_negative : Stmt := topS 21
theorem sc_negative : FnScope ["one", "a", "b"] ["one"] (defScope s_negative) := ⟨rfl, rfl, rfl, by decide +kernel, rfl, by decide +kernel, by decide +kernel⟩
def t_negative (K : PySem.W.Frag) (S_sure_fraction : Sp) : TS :=
  (tSeq (tAsg (tCall S_sure_fraction [] E0 (tCons (tVar 0) tNil)) (gTup K 2 (gCons (gName 1) (gCons (gName 2) gNil))))
    (tRet (tTup (tCons (tUn xNeg (tVar 1)) (tCons (tVar 2) tNil)))))
theorem p_negative {P : Program} {w : World} {K : PySem.W.Frag} {mg : Str → Option Value} {base : Heap} (G : Glob mg) {S_sure_fraction : Sp} (h_sure_fraction : Has P w K mg base 4 "sure_fraction" ["one"] S_sure_fraction) {f : Addr} {cdv : Value} {A : Around} {outer : List Env} {s : Shared} {H : Hp} {E : XK} (hr : Room 4 (A.deeper (PyProof.Rows.envOfC "negative" (defScope s_negative) s.heap.objs.size f cdv))) :
    PSs (cxOf CX0 P w K mg base ["one", "a", "b"] "negative" (defScope s_negative) f cdv A outer s H E).nox (defBody s_negative) (t_negative K S_sure_fraction) :=
  (pss_cons (ps_asg (pe_fn h_sure_fraction (hr.mono (by decide)) (by rfl) (pa_cons (pv 0) pa_nil)) (pg_tup rfl (pgs_cons (pg_name (i := 1) sc_negative.nd rfl (Or.inl rfl)) (pgs_cons (pg_name (i := 2) sc_negative.nd rfl (Or.inl rfl)) pgs_nil))))
    (pss_one (ps_ret (pe_tup (pa_cons (pe_un un_neg (pv 1)) (pa_cons (pv 2) pa_nil))))))
abbrev s_compared : Stmt := topS 22
theorem sc_compared : FnScope ["one", "other", "a", "b", "c", "d"] ["one", "other"] (defScope s_compared) := ⟨rfl, rfl, rfl, by decide +kernel, rfl, by decide +kernel, by decide +kernel⟩
def t_compared (K : PySem.W.Frag) (S_two : Sp) : TS :=
  (tSeq (tAsg (tCall S_two [] E0 (tCons (tVar 0) (tCons (tVar 1) tNil))) (gTup K 2 (gCons (gTup K 2 (gCons (gName 2) (gCons (gName 3) gNil))) (gCons (gTup K 2 (gCons (gName 4) (gCons (gName 5) gNil))) gNil))))
    (tRet (tOp xSub (tCB rInt1 (tCons (tOp xGt (tOp xMul (tVar 2) (tVar 5)) (tOp xMul (tVar 4) (tVar 3))) tNil)) (tCB rInt1 (tCons (tOp xLt (tOp xMul (tVar 2) (tVar 5)) (tOp xMul (tVar 4) (tVar 3))) tNil)))))
theorem p_compared {P : Program} {w : World} {K : PySem.W.Frag} {mg : Str → Option Value} {base : Heap} (G : Glob mg) {S_two : Sp} (h_two : Has P w K mg base 5 "two" ["one", "other"] S_two) {f : Addr} {cdv : Value} {A : Around} {outer : List Env} {s : Shared} {H : Hp} {E : XK} (hr : Room 5 (A.deeper (PyProof.Rows.envOfC "compared" (defScope s_compared) s.heap.objs.size f cdv))) :
    PSs (cxOf CX0 P w K mg base ["one", "other", "a", "b", "c", "d"] "compared" (defScope s_compared) f cdv A outer s H E).nox (defBody s_compared) (t_compared K S_two) :=
  (pss_cons (ps_asg (pe_fn h_two (hr.mono (by decide)) (by rfl) (pa_cons (pv 0) (pa_cons (pv 1) pa_nil))) (pg_tup rfl (pgs_cons (pg_tup rfl (pgs_cons (pg_name (i := 2) sc_compared.nd rfl (Or.inl rfl)) (pgs_cons (pg_name (i := 3) sc_compared.nd rfl (Or.inl rfl)) pgs_nil))) (pgs_cons (pg_tup rfl (pgs_cons (pg_name (i := 4) sc_compared.nd rfl (Or.inl rfl)) (pgs_cons (pg_name (i := 5) sc_compared.nd rfl (Or.inl rfl)) pgs_nil))) pgs_nil))))
    (pss_one (ps_ret (pe_op op_sub (pe_callTy call_int1 (by rfl) G.z_int (by decide +kernel) (pa_cons (pe_cmpR op_gt (pe_op op_mul (pv 2) (pv 5)) (pe_op op_mul (pv 4) (pv 3)) (nomark _)) pa_nil)) (pe_callTy call_int1 (by rfl) G.z_int (by decide +kernel) (pa_cons (pe_cmpR op_lt (pe_op op_mul (pv 2) (pv 5)) (pe_op op_mul (pv 4) (pv 3)) (nomark _)) pa_nil))))))
end DL
set_option Elab.async false
set_option linter.all false
set_option maxRecDepth 100000
set_option maxHeartbeats 4000000
namespace DL
open PySem L2 PyProof.Rows RZ
abbrev s_floor_in : Stmt := topS 23
theorem sc_floor_in : FnScope ["fraction", "number"] ["fraction", "number"] (defScope s_floor_in) := ⟨rfl, rfl, rfl, by decide +kernel, rfl, by decide +kernel, by decide +kernel⟩
def t_floor_in (K : PySem.W.Frag) : TS :=
  (tRet (tOp xDiv (tOp xMul (tOp (rIxT K) (tVar 0) (tC (.int 0))) (tVar 1)) (tOp (rIxT K) (tVar 0) (tC (.int 1)))))
theorem p_floor_in {P : Program} {w : World} {K : PySem.W.Frag} {mg : Str → Option Value} {base : Heap} (G : Glob mg) {f : Addr} {cdv : Value} {A : Around} {outer : List Env} {s : Shared} {H : Hp} {E : XK} (hr : Room 0 (A.deeper (PyProof.Rows.envOfC "floor_in" (defScope s_floor_in) s.heap.objs.size f cdv))) :
    PSs (cxOf CX0 P w K mg base ["fraction", "number"] "floor_in" (defScope s_floor_in) f cdv A outer s H E).nox (defBody s_floor_in) (t_floor_in K) :=
  (pss_one (ps_ret (pe_op op_fdiv (pe_op op_mul (pe_ix ix_tup (pv 0) pe_int (fun _ _ => rfl)) (pv 1)) (pe_ix ix_tup (pv 0) pe_int (fun _ _ => rfl)))))
abbrev s_common_of : Stmt := topS 24
theorem sc_common_of : FnScope ["numbers", "found", "own"] ["numbers"] (defScope s_common_of) := ⟨rfl, rfl, rfl, by decide +kernel, rfl, by decide +kernel, by decide +kernel⟩
def t_common_of (K : PySem.W.Frag) : TS :=
  (tSeq (tAsg (tC (.int 1)) (gName 1))
    (tSeq (tFor (iList K (tVar 0)) (gName 2) (tAsg (tOp xDiv (tOp xMul (tVar 1) (tVar 2)) (tCB rGcd (tCons (tVar 1) (tCons (tVar 2) tNil)))) (gName 1)))
    (tRet (tVar 1))))
theorem p_common_of {P : Program} {w : World} {K : PySem.W.Frag} {mg : Str → Option Value} {base : Heap} (G : Glob mg) {f : Addr} {cdv : Value} {A : Around} {outer : List Env} {s : Shared} {H : Hp} {E : XK} (hr : Room 0 (A.deeper (PyProof.Rows.envOfC "common_of" (defScope s_common_of) s.heap.objs.size f cdv))) :
    PSs (cxOf CX0 P w K mg base ["numbers", "found", "own"] "common_of" (defScope s_common_of) f cdv A outer s H E).nox (defBody s_common_of) (t_common_of K) :=
  (pss_cons (ps_set (i := 1) sc_common_of.nd rfl (Or.inl rfl) pe_int)
    (pss_cons (ps_for PassesOwn.never rfl (pi_list (pv 0)) (pg_name (i := 2) sc_common_of.nd rfl (Or.inl rfl)) (pss_one (ps_set (i := 1) sc_common_of.nd rfl (Or.inl rfl) (pe_op op_fdiv (pe_op op_mul (pv 1) (pv 2)) (pe_callBfun cr_gcd (by rfl) G.gcd (pa_cons (pv 1) (pa_cons (pv 2) pa_nil)))))))
    (pss_one (ps_ret (pv 1)))))
abbrev s_common_bottom : Stmt := topS 25
theorem sc_common_bottom : FnScope ["fractions", "own", "_", "below", "one"] ["fractions"] (defScope s_common_bottom) := ⟨rfl, rfl, rfl, by decide +kernel, rfl, by decide +kernel, by decide +kernel⟩
def t_common_bottom (K : PySem.W.Frag) (S_common_of S_is_fraction S_tupled : Sp) : TS :=
  (tSeq (tAsg (tCall S_tupled [] E0 (tCons (tVar 0) tNil)) (gName 1))
    (tSeq (tIfS (tOr (tNot (tB (tCB (rIsi K) (tCons (tVar 1) (tCons (tC (.ty "tuple")) tNil))))) (tNot (tB (tCB (rAll K) (tCons (tLc (iTup K (tVar 1)) (gName 4) tYes (tCall S_is_fraction [] E0 (tCons (tVar 4) tNil)) [4]) tNil))))) tNever tNext)
    (tRet (tCall S_common_of [] E0 (tCons (tLc (iTup K (tVar 1)) (gTup K 2 (gCons (gName 2) (gCons (gName 3) gNil))) tYes (tVar 3) [2, 3]) tNil)))))
theorem p_common_bottom {P : Program} {w : World} {K : PySem.W.Frag} {mg : Str → Option Value} {base : Heap} (G : Glob mg) {S_common_of : Sp} (h_common_of : Has P w K mg base 1 "common_of" ["numbers"] S_common_of) {S_is_fraction : Sp} (h_is_fraction : Has P w K mg base 3 "is_fraction" ["thing"] S_is_fraction) {S_tupled : Sp} (h_tupled : Has P w K mg base 3 "tupled" ["value"] S_tupled) {f : Addr} {cdv : Value} {A : Around} {outer : List Env} {s : Shared} {H : Hp} {E : XK} (hr : Room 3 (A.deeper (PyProof.Rows.envOfC "common_bottom" (defScope s_common_bottom) s.heap.objs.size f cdv))) :
    PSs (cxOf CX0 P w K mg base ["fractions", "own", "_", "below", "one"] "common_bottom" (defScope s_common_bottom) f cdv A outer s H E).nox (defBody s_common_bottom) (t_common_bottom K S_common_of S_is_fraction S_tupled) :=
  (pss_cons (ps_set (i := 1) sc_common_bottom.nd rfl (Or.inl rfl) (pe_fn h_tupled (hr.mono (by decide)) (by rfl) (pa_cons (pv 0) pa_nil)))
    (pss_cons (ps_if (PW.pt (pw_or (pt_not (pt_val (pe_callB call_isi (by rfl) G.z_isinstance (by decide +kernel) (pa_cons (pv 1) (pa_cons (pe_bltn (v := .ty "tuple") (by rfl) G.z_tuple (by decide +kernel) rfl) pa_nil))))) (pw_or1 (pt_not (pt_val (pe_callB (cr_all rfl) (by rfl) G.z_all (by decide +kernel) (pa_cons (pe_lc (own := [("one", 4)]) (g := (gName 4)) (tt := tYes) rfl sc_common_bottom.nd (pi_tup (pv 1)) (blkOk_by (N := ["fractions", "own", "_", "below", "one"]) (sc := defScope s_common_bottom) (by decide +kernel)) (fun _ _ _ _ _ => (pg_name (i := 4) sc_common_bottom.nd rfl (Or.inl rfl))) (fun _ _ _ _ _ => pts_nil) (fun _ _ _ _ _ => (pe_fn h_is_fraction (hr.mono (by decide)) (by rfl) (pa_cons (pv 4) pa_nil)))) pa_nil))))))) (pss_one ps_never) pss_nil)
    (pss_one (ps_ret (pe_fn h_common_of (hr.mono (by decide)) (by rfl) (pa_cons (pe_lc (own := [("_", 2), ("below", 3)]) (g := (gTup K 2 (gCons (gName 2) (gCons (gName 3) gNil)))) (tt := tYes) rfl sc_common_bottom.nd (pi_tup (pv 1)) (blkOk_by (N := ["fractions", "own", "_", "below", "one"]) (sc := defScope s_common_bottom) (by decide +kernel)) (fun _ _ _ _ _ => (pg_tup rfl (pgs_cons (pg_name (i := 2) sc_common_bottom.nd rfl (Or.inl rfl)) (pgs_cons (pg_name (i := 3) sc_common_bottom.nd rfl (Or.inl rfl)) pgs_nil)))) (fun _ _ _ _ _ => pts_nil) (fun _ _ _ _ _ => (pv 3))) pa_nil))))))
abbrev s_is_turns : Stmt := topS 28
theorem sc_is_turns : FnScope ["thing", "own"] ["thing"] (defScope s_is_turns) := ⟨rfl, rfl, rfl, by decide +kernel, rfl, by decide +kernel, by decide +kernel⟩
def t_is_turns (K : PySem.W.Frag) (S_is_fraction : Sp) : TS :=
  (tRet (tAndV (tCB (rIsi K) (tCons (tVar 0) (tCons (tC (.ty "tuple")) tNil))) (tAndV (tOp xGt (tCB (rLenS K) (tCons (tVar 0) tNil)) (tC (.int 0))) (tCB (rAll K) (tCons (tLc (iTup K (tVar 0)) (gName 1) tYes (tCall S_is_fraction [] E0 (tCons (tVar 1) tNil)) [1]) tNil)))))
theorem p_is_turns {P : Program} {w : World} {K : PySem.W.Frag} {mg : Str → Option Value} {base : Heap} (G : Glob mg) {S_is_fraction : Sp} (h_is_fraction : Has P w K mg base 3 "is_fraction" ["thing"] S_is_fraction) {f : Addr} {cdv : Value} {A : Around} {outer : List Env} {s : Shared} {H : Hp} {E : XK} (hr : Room 3 (A.deeper (PyProof.Rows.envOfC "is_turns" (defScope s_is_turns) s.heap.objs.size f cdv))) :
    PSs (cxOf CX0 P w K mg base ["thing", "own"] "is_turns" (defScope s_is_turns) f cdv A outer s H E).nox (defBody s_is_turns) (t_is_turns K S_is_fraction) :=
  (pss_one (ps_ret (pe_and (pe_callB call_isi (by rfl) G.z_isinstance (by decide +kernel) (pa_cons (pv 0) (pa_cons (pe_bltn (v := .ty "tuple") (by rfl) G.z_tuple (by decide +kernel) rfl) pa_nil))) (pe_and (pe_cmpR op_gt (pe_callB call_len_seq (by rfl) G.z_len (by decide +kernel) (pa_cons (pv 0) pa_nil)) pe_int (nomark _)) (pe_one (pe_callB (cr_all rfl) (by rfl) G.z_all (by decide +kernel) (pa_cons (pe_lc (own := [("own", 1)]) (g := (gName 1)) (tt := tYes) rfl sc_is_turns.nd (pi_tup (pv 0)) (blkOk_by (N := ["thing", "own"]) (sc := defScope s_is_turns) (by decide +kernel)) (fun _ _ _ _ _ => (pg_name (i := 1) sc_is_turns.nd rfl (Or.inl rfl))) (fun _ _ _ _ _ => pts_nil) (fun _ _ _ _ _ => (pe_fn h_is_fraction (hr.mono (by decide)) (by rfl) (pa_cons (pv 1) pa_nil)))) pa_nil)))))))
abbrev s_sure_turns : Stmt := topS 29
theorem sc_sure_turns : FnScope ["turns", "own"] ["turns"] (defScope s_sure_turns) := ⟨rfl, rfl, rfl, by decide +kernel, rfl, by decide +kernel, by decide +kernel⟩
def t_sure_turns (K : PySem.W.Frag) (S_is_turns S_tupled : Sp) : TS :=
  (tSeq (tAsg (tCall S_tupled [] E0 (tCons (tVar 0) tNil)) (gName 1))
    (tSeq (tIfS (tNot (tB (tCall S_is_turns [] E0 (tCons (tVar 1) tNil)))) tNever tNext)
    (tRet (tVar 1))))
theorem p_sure_turns {P : Program} {w : World} {K : PySem.W.Frag} {mg : Str → Option Value} {base : Heap} (G : Glob mg) {S_is_turns : Sp} (h_is_turns : Has P w K mg base 4 "is_turns" ["thing"] S_is_turns) {S_tupled : Sp} (h_tupled : Has P w K mg base 3 "tupled" ["value"] S_tupled) {f : Addr} {cdv : Value} {A : Around} {outer : List Env} {s : Shared} {H : Hp} {E : XK} (hr : Room 4 (A.deeper (PyProof.Rows.envOfC "sure_turns" (defScope s_sure_turns) s.heap.objs.size f cdv))) :
    PSs (cxOf CX0 P w K mg base ["turns", "own"] "sure_turns" (defScope s_sure_turns) f cdv A outer s H E).nox (defBody s_sure_turns) (t_sure_turns K S_is_turns S_tupled) :=
  (pss_cons (ps_set (i := 1) sc_sure_turns.nd rfl (Or.inl rfl) (pe_fn h_tupled (hr.mono (by decide)) (by rfl) (pa_cons (pv 0) pa_nil)))
    (pss_cons (ps_if (pt_not (pt_val (pe_fn h_is_turns (hr.mono (by decide)) (by rfl) (pa_cons (pv 1) pa_nil)))) (pss_one ps_never) pss_nil)
    (pss_one (ps_ret (pv 1)))))
abbrev s_sure_few : Stmt := topS 30
theorem sc_sure_few : FnScope ["turns", "own"] ["turns"] (defScope s_sure_few) := ⟨rfl, rfl, rfl, by decide +kernel, rfl, by decide +kernel, by decide +kernel⟩
def t_sure_few (K : PySem.W.Frag) (S_common_bottom S_sure_turns : Sp) : TS :=
  (tSeq (tAsg (tCall S_sure_turns [] E0 (tCons (tVar 0) tNil)) (gName 1))
    (tSeq (tIfS (tTest (tOp xGt (tCall S_common_bottom [] E0 (tCons (tVar 1) tNil)) (tC (.int 2000)))) tNever tNext)
    (tRet (tVar 1))))
theorem p_sure_few {P : Program} {w : World} {K : PySem.W.Frag} {mg : Str → Option Value} {base : Heap} (G : Glob mg) {S_common_bottom : Sp} (h_common_bottom : Has P w K mg base 4 "common_bottom" ["fractions"] S_common_bottom) {S_sure_turns : Sp} (h_sure_turns : Has P w K mg base 5 "sure_turns" ["turns"] S_sure_turns) {f : Addr} {cdv : Value} {A : Around} {outer : List Env} {s : Shared} {H : Hp} {E : XK} (hr : Room 5 (A.deeper (PyProof.Rows.envOfC "sure_few" (defScope s_sure_few) s.heap.objs.size f cdv))) :
    PSs (cxOf CX0 P w K mg base ["turns", "own"] "sure_few" (defScope s_sure_few) f cdv A outer s H E).nox (defBody s_sure_few) (t_sure_few K S_common_bottom S_sure_turns) :=
  (pss_cons (ps_set (i := 1) sc_sure_few.nd rfl (Or.inl rfl) (pe_fn h_sure_turns (hr.mono (by decide)) (by rfl) (pa_cons (pv 0) pa_nil)))
    (pss_cons (ps_if (pt_cmpR op_gt (pe_fn h_common_bottom (hr.mono (by decide)) (by rfl) (pa_cons (pv 1) pa_nil)) (pe_many G.many (by rfl)) (nomark _)) (pss_one ps_never) pss_nil)
    (pss_one (ps_ret (pv 1)))))
abbrev s_value_in : Stmt := topS 31
theorem sc_value_in : FnScope ["turns", "number", "own"] ["turns", "number"] (defScope s_value_in) := ⟨rfl, rfl, rfl, by decide +kernel, rfl, by decide +kernel, by decide +kernel⟩
def t_value_in (K : PySem.W.Frag) (S_floor_in S_made : Sp) : TS :=
  (tRet (tCall S_made [] E0 (tCons (tOp xSub (tOp xAdd (tCB (rSum K) (tCons (tLc (iTup K (tVar 0)) (gName 2) tYes (tCall S_floor_in [] E0 (tCons (tVar 2) (tCons (tVar 1) tNil))) [2]) tNil)) (tCB (rLenS K) (tCons (tVar 0) tNil))) (tC (.int 1))) (tCons (tVar 1) tNil))))
theorem p_value_in {P : Program} {w : World} {K : PySem.W.Frag} {mg : Str → Option Value} {base : Heap} (G : Glob mg) {S_floor_in : Sp} (h_floor_in : Has P w K mg base 1 "floor_in" ["fraction", "number"] S_floor_in) {S_made : Sp} (h_made : Has P w K mg base 1 "made" ["above", "below"] S_made) {f : Addr} {cdv : Value} {A : Around} {outer : List Env} {s : Shared} {H : Hp} {E : XK} (hr : Room 1 (A.deeper (PyProof.Rows.envOfC "value_in" (defScope s_value_in) s.heap.objs.size f cdv))) :
    PSs (cxOf CX0 P w K mg base ["turns", "number", "own"] "value_in" (defScope s_value_in) f cdv A outer s H E).nox (defBody s_value_in) (t_value_in K S_floor_in S_made) :=
  (pss_one (ps_ret (pe_fn h_made (hr.mono (by decide)) (by rfl) (pa_cons (pe_op op_sub (pe_op op_add (pe_callB (cr_sum rfl) (by rfl) G.z_sum (by decide +kernel) (pa_cons (pe_lc (own := [("own", 2)]) (g := (gName 2)) (tt := tYes) rfl sc_value_in.nd (pi_tup (pv 0)) (blkOk_by (N := ["turns", "number", "own"]) (sc := defScope s_value_in) (by decide +kernel)) (fun _ _ _ _ _ => (pg_name (i := 2) sc_value_in.nd rfl (Or.inl rfl))) (fun _ _ _ _ _ => pts_nil) (fun _ _ _ _ _ => (pe_fn h_floor_in (hr.mono (by decide)) (by rfl) (pa_cons (pv 2) (pa_cons (pv 1) pa_nil))))) pa_nil)) (pe_callB call_len_seq (by rfl) G.z_len (by decide +kernel) (pa_cons (pv 0) pa_nil))) pe_int) (pa_cons (pv 1) pa_nil)))))
abbrev s_bottoms_in : Stmt := topS 32
theorem sc_bottoms_in : FnScope ["turns", "found", "best", "number", "value", "order"] ["turns"] (defScope s_bottoms_in) := ⟨rfl, rfl, rfl, by decide +kernel, rfl, by decide +kernel, by decide +kernel⟩
def t_bottoms_in (K : PySem.W.Frag) (S_common_bottom S_compared S_value_in : Sp) : TS :=
  (tSeq (tPar 1 2 (tCons (tLst tNil) (tCons (tC .non) tNil)))
    (tSeq (tFor (iRng2 (tCons (tC (.int 1)) (tCons (tOp xAdd (tCall S_common_bottom [] E0 (tCons (tVar 0) tNil)) (tC (.int 1))) tNil))) (gName 3) (tSeq (tAsg (tCall S_value_in [] E0 (tCons (tVar 0) (tCons (tVar 3) tNil))) (gName 4))
    (tSeq (tAsg (tIf (tTest (tOp xIsN (tVar 2) (tC .non))) (tC (.int 1)) (tCall S_compared [] E0 (tCons (tVar 4) (tCons (tVar 2) tNil)))) (gName 5))
    (tIfS (tTest (tOp xGt (tVar 5) (tC (.int 0)))) (tPar 1 2 (tCons (tLst (tCons (tVar 3) tNil)) (tCons (tVar 4) tNil))) (tIfS (tTest (tOp (rEqD K) (tVar 5) (tC (.int 0)))) (tDrop (tBM K "list" rAppend (tVar 1) (tCons (tVar 3) tNil))) tNext)))))
    (tRet (tCB (rTupOf K) (tCons (tVar 1) tNil)))))
theorem p_bottoms_in {P : Program} {w : World} {K : PySem.W.Frag} {mg : Str → Option Value} {base : Heap} (G : Glob mg) {S_common_bottom : Sp} (h_common_bottom : Has P w K mg base 4 "common_bottom" ["fractions"] S_common_bottom) {S_compared : Sp} (h_compared : Has P w K mg base 6 "compared" ["one", "other"] S_compared) {S_value_in : Sp} (h_value_in : Has P w K mg base 2 "value_in" ["turns", "number"] S_value_in) {f : Addr} {cdv : Value} {A : Around} {outer : List Env} {s : Shared} {H : Hp} {E : XK} (hr : Room 6 (A.deeper (PyProof.Rows.envOfC "bottoms_in" (defScope s_bottoms_in) s.heap.objs.size f cdv))) :
    PSs (cxOf CX0 P w K mg base ["turns", "found", "best", "number", "value", "order"] "bottoms_in" (defScope s_bottoms_in) f cdv A outer s H E).nox (defBody s_bottoms_in) (t_bottoms_in K S_common_bottom S_compared S_value_in) :=
  (pss_cons (ps_par (i := 1) (j := 2) rfl sc_bottoms_in.nd rfl rfl (by decide) rfl rfl (pa_cons (pe_lst pa_nil) (pa_cons pe_non pa_nil)) (by rfl))
    (pss_cons (ps_for PassesOwn.never rfl (pi_range2 (by rfl) G.z_range (pa_cons pe_int (pa_cons (pe_op op_add (pe_fn h_common_bottom (hr.mono (by decide)) (by rfl) (pa_cons (pv 0) pa_nil)) pe_int) pa_nil))) (pg_name (i := 3) sc_bottoms_in.nd rfl (Or.inl rfl)) (pss_cons (ps_set (i := 4) sc_bottoms_in.nd rfl (Or.inl rfl) (pe_fn h_value_in (hr.mono (by decide)) (by rfl) (pa_cons (pv 0) (pa_cons (pv 3) pa_nil))))
    (pss_cons (ps_set (i := 5) sc_bottoms_in.nd rfl (Or.inl rfl) (pe_ifExp (pt_cmpR op_isN (pv 2) pe_non (nomark _)) pe_int (pe_fn h_compared (hr.mono (by decide)) (by rfl) (pa_cons (pv 4) (pa_cons (pv 2) pa_nil)))))
    (pss_one (ps_if (pt_cmpR op_gt (pv 5) pe_int (nomark _)) (pss_one (ps_par (i := 1) (j := 2) rfl sc_bottoms_in.nd rfl rfl (by decide) rfl rfl (pa_cons (pe_lst (pa_cons (pv 3) pa_nil)) (pa_cons (pv 4) pa_nil)) (by rfl))) (pss_one (ps_if (pt_cmpR (op_eqD hr.units) (pv 5) pe_int (nomark _)) (pss_one (ps_expr (pe_bm PySem.F.plainAttrs_list PySem.F.slot_list_append PySem.F.type_list_append mt_append (pv 1) (pa_cons (pv 3) pa_nil)))) pss_nil)))))))
    (pss_one (ps_ret (pe_callTy call_tuple_of (by rfl) G.z_tuple (by decide +kernel) (pa_cons (pv 1) pa_nil))))))
abbrev s_most_in : Stmt := topS 33
theorem sc_most_in : FnScope ["turns"] ["turns"] (defScope s_most_in) := ⟨rfl, rfl, rfl, by decide +kernel, rfl, by decide +kernel, by decide +kernel⟩
def t_most_in (K : PySem.W.Frag) (S_bottoms_in S_value_in : Sp) : TS :=
  (tRet (tCall S_value_in [] E0 (tCons (tVar 0) (tCons (tOp (rIxT K) (tCall S_bottoms_in [] E0 (tCons (tVar 0) tNil)) (tC (.int 0))) tNil))))
theorem p_most_in {P : Program} {w : World} {K : PySem.W.Frag} {mg : Str → Option Value} {base : Heap} (G : Glob mg) {S_bottoms_in : Sp} (h_bottoms_in : Has P w K mg base 7 "bottoms_in" ["turns"] S_bottoms_in) {S_value_in : Sp} (h_value_in : Has P w K mg base 2 "value_in" ["turns", "number"] S_value_in) {f : Addr} {cdv : Value} {A : Around} {outer : List Env} {s : Shared} {H : Hp} {E : XK} (hr : Room 7 (A.deeper (PyProof.Rows.envOfC "most_in" (defScope s_most_in) s.heap.objs.size f cdv))) :
    PSs (cxOf CX0 P w K mg base ["turns"] "most_in" (defScope s_most_in) f cdv A outer s H E).nox (defBody s_most_in) (t_most_in K S_bottoms_in S_value_in) :=
  (pss_one (ps_ret (pe_fn h_value_in (hr.mono (by decide)) (by rfl) (pa_cons (pv 0) (pa_cons (pe_ix ix_tup (pe_fn h_bottoms_in (hr.mono (by decide)) (by rfl) (pa_cons (pv 0) pa_nil)) pe_int (fun _ _ => rfl)) pa_nil)))))
abbrev s_own_in : Stmt := topS 35
theorem sc_own_in : FnScope ["wheel", "goals", "many", "goal", "left", "number", "place", "own"] ["wheel"] (defScope s_own_in) := ⟨rfl, rfl, rfl, by decide +kernel, rfl, by decide +kernel, by decide +kernel⟩
def t_own_in (K : PySem.W.Frag) : TS :=
  (tSeq (tAsg (tLc (iTup K (tVar 0)) (gName 5) tYes (tOp xMod (tVar 5) (tCB (rLenS K) (tCons (tVar 0) tNil))) [5]) (gName 1))
    (tSeq (tAsg (tOp rRep (tLst (tCons (tC (.int 0)) tNil)) (tCB (rLenS K) (tCons (tVar 0) tNil))) (gName 2))
    (tSeq (tFor (iList K (tVar 1)) (gName 3) (tAugS (tVar 2) (tVar 3) (tC (.int 1)) (rIxL K) (ipI fun i j => i + j) rSetL))
    (tSeq (tAsg (tLc (iEnum K (tCons (tVar 2) tNil)) (gTup K 2 (gCons (gName 6) (gCons (gName 7) gNil))) (tTest (tOp (rEqD K) (tVar 7) (tC (.int 0)))) (tVar 6) [6, 7]) (gName 4))
    (tSeq (tWhile (tTest (tOp xGt (tCB (rLenS K) (tCons (tVar 4) tNil)) (tC (.int 0)))) (tSeq (tAsg (tOp (rIxL K) (tVar 1) (tBM0 K "list" rPop (tVar 4))) (gName 3))
    (tSeq (tAugS (tVar 2) (tVar 3) (tC (.int 1)) (rIxL K) (ipI fun i j => i - j) rSetL)
    (tIfS (tTest (tOp (rEqD K) (tOp (rIxL K) (tVar 2) (tVar 3)) (tC (.int 0)))) (tDrop (tBM K "list" rAppend (tVar 4) (tCons (tVar 3) tNil))) tNext))))
    (tRet (tLc (iEnum K (tCons (tVar 2) tNil)) (gTup K 2 (gCons (gName 6) (gCons (gName 7) gNil))) (tTest (tOp xGt (tVar 7) (tC (.int 0)))) (tVar 6) [6, 7])))))))
theorem p_own_in {P : Program} {w : World} {K : PySem.W.Frag} {mg : Str → Option Value} {base : Heap} (G : Glob mg) {f : Addr} {cdv : Value} {A : Around} {outer : List Env} {s : Shared} {H : Hp} {E : XK} (hr : Room 0 (A.deeper (PyProof.Rows.envOfC "own_in" (defScope s_own_in) s.heap.objs.size f cdv))) :
    PSs (cxOf CX0 P w K mg base ["wheel", "goals", "many", "goal", "left", "number", "place", "own"] "own_in" (defScope s_own_in) f cdv A outer s H E).nox (defBody s_own_in) (t_own_in K) :=
  (pss_cons (ps_setLc (i := 1) (own := [("number", 5)]) (g := (gName 5)) (tt := tYes) rfl sc_own_in.nd rfl rfl (sw_true rfl rfl rfl (by decide +kernel)) (pi_tup (pv 0)) (blkOk_by (N := ["wheel", "goals", "many", "goal", "left", "number", "place", "own"]) (sc := defScope s_own_in) (by decide +kernel)) (fun _ _ _ _ _ => (pg_name (i := 5) sc_own_in.nd rfl (Or.inl rfl))) (fun _ _ _ _ _ => pts_nil) (fun _ _ _ _ _ => (pe_op op_mod (pv 5) (pe_callB call_len_seq (by rfl) G.z_len (by decide +kernel) (pa_cons (pv 0) pa_nil)))))
    (pss_cons (ps_set (i := 2) sc_own_in.nd rfl (Or.inl rfl) (pe_op op_rep (pe_lst (pa_cons pe_int pa_nil)) (pe_callB call_len_seq (by rfl) G.z_len (by decide +kernel) (pa_cons (pv 0) pa_nil))))
    (pss_cons (ps_for PassesOwn.never rfl (pi_list (pv 1)) (pg_name (i := 3) sc_own_in.nd rfl (Or.inl rfl)) (pss_one (ps_augS (pv 2) (pv 3) get_list pe_int ip_add set_list)))
    (pss_cons (ps_setLc (i := 4) (own := [("place", 6), ("own", 7)]) (g := (gTup K 2 (gCons (gName 6) (gCons (gName 7) gNil)))) rfl sc_own_in.nd rfl rfl (sw_true rfl rfl rfl (by decide +kernel)) (pi_enum (by rfl) G.z_enumerate (pa_cons (pv 2) pa_nil)) (blkOk_by (N := ["wheel", "goals", "many", "goal", "left", "number", "place", "own"]) (sc := defScope s_own_in) (by decide +kernel)) (fun _ _ _ _ _ => (pg_tup rfl (pgs_cons (pg_name (i := 6) sc_own_in.nd rfl (Or.inl rfl)) (pgs_cons (pg_name (i := 7) sc_own_in.nd rfl (Or.inl rfl)) pgs_nil)))) (fun _ _ _ _ _ => pts_one (pt_cmpR (op_eqD hr.units) (pv 7) pe_int (nomark _))) (fun _ _ _ _ _ => (pv 6)))
    (pss_cons (ps_while PassesOwn.never (pt_cmpR op_gt (pe_callB call_len_seq (by rfl) G.z_len (by decide +kernel) (pa_cons (pv 4) pa_nil)) pe_int (nomark _)) (pss_cons (ps_set (i := 3) sc_own_in.nd rfl (Or.inl rfl) (pe_ix ix_list (pv 1) (pe_bm0 PySem.F.plainAttrs_list PySem.F.slot_list_pop PySem.F.type_list_pop mt_pop (pv 4)) (fun _ _ => rfl)))
    (pss_cons (ps_augS (pv 2) (pv 3) get_list pe_int ip_sub set_list)
    (pss_one (ps_if (pt_cmpR (op_eqD hr.units) (pe_ix ix_list (pv 2) (pv 3) (fun _ _ => rfl)) pe_int (nomark _)) (pss_one (ps_expr (pe_bm PySem.F.plainAttrs_list PySem.F.slot_list_append PySem.F.type_list_append mt_append (pv 4) (pa_cons (pv 3) pa_nil)))) pss_nil)))))
    (pss_one (ps_ret (pe_lc (own := [("place", 6), ("own", 7)]) (g := (gTup K 2 (gCons (gName 6) (gCons (gName 7) gNil)))) rfl sc_own_in.nd (pi_enum (by rfl) G.z_enumerate (pa_cons (pv 2) pa_nil)) (blkOk_by (N := ["wheel", "goals", "many", "goal", "left", "number", "place", "own"]) (sc := defScope s_own_in) (by decide +kernel)) (fun _ _ _ _ _ => (pg_tup rfl (pgs_cons (pg_name (i := 6) sc_own_in.nd rfl (Or.inl rfl)) (pgs_cons (pg_name (i := 7) sc_own_in.nd rfl (Or.inl rfl)) pgs_nil)))) (fun _ _ _ _ _ => pts_one (pt_cmpR op_gt (pv 7) pe_int (nomark _))) (fun _ _ _ _ _ => (pv 6))))))))))
abbrev s_come_back_in : Stmt := topS 36
theorem sc_come_back_in : FnScope ["wheel", "place", "number", "beats"] ["wheel"] (defScope s_come_back_in) := ⟨rfl, rfl, rfl, by decide +kernel, rfl, by decide +kernel, by decide +kernel⟩
def t_come_back_in (K : PySem.W.Frag) (S_led_in S_own_in : Sp) : TS :=
  (tSeq (tAsg (tOp (rIxL K) (tCall S_own_in [] E0 (tCons (tVar 0) tNil)) (tC (.int 0))) (gName 1))
    (tSeq (tPar 2 3 (tCons (tCall S_led_in [] E0 (tCons (tVar 0) (tCons (tVar 1) tNil))) (tCons (tC (.int 1)) tNil)))
    (tSeq (tWhile (tTest (tOp (rNeD K) (tOp xMod (tVar 2) (tCB (rLenS K) (tCons (tVar 0) tNil))) (tVar 1))) (tPar 2 3 (tCons (tCall S_led_in [] E0 (tCons (tVar 0) (tCons (tVar 2) tNil))) (tCons (tOp xAdd (tVar 3) (tC (.int 1))) tNil))))
    (tRet (tTup (tCons (tVar 1) (tCons (tVar 3) (tCons (tOp xDiv (tOp xSub (tVar 2) (tVar 1)) (tCB (rLenS K) (tCons (tVar 0) tNil))) tNil))))))))
theorem p_come_back_in {P : Program} {w : World} {K : PySem.W.Frag} {mg : Str → Option Value} {base : Heap} (G : Glob mg) {S_led_in : Sp} (h_led_in : Has P w K mg base 1 "led_in" ["wheel", "number"] S_led_in) {S_own_in : Sp} (h_own_in : Has P w K mg base 1 "own_in" ["wheel"] S_own_in) {f : Addr} {cdv : Value} {A : Around} {outer : List Env} {s : Shared} {H : Hp} {E : XK} (hr : Room 1 (A.deeper (PyProof.Rows.envOfC "come_back_in" (defScope s_come_back_in) s.heap.objs.size f cdv))) :
    PSs (cxOf CX0 P w K mg base ["wheel", "place", "number", "beats"] "come_back_in" (defScope s_come_back_in) f cdv A outer s H E).nox (defBody s_come_back_in) (t_come_back_in K S_led_in S_own_in) :=
  (pss_cons (ps_set (i := 1) sc_come_back_in.nd rfl (Or.inl rfl) (pe_ix ix_list (pe_fn h_own_in (hr.mono (by decide)) (by rfl) (pa_cons (pv 0) pa_nil)) pe_int (fun _ _ => rfl)))
    (pss_cons (ps_par (i := 2) (j := 3) rfl sc_come_back_in.nd rfl rfl (by decide) rfl rfl (pa_cons (pe_fn h_led_in (hr.mono (by decide)) (by rfl) (pa_cons (pv 0) (pa_cons (pv 1) pa_nil))) (pa_cons pe_int pa_nil)) (by rfl))
    (pss_cons (ps_while PassesOwn.never (pt_cmpR (op_neD hr.units) (pe_op op_mod (pv 2) (pe_callB call_len_seq (by rfl) G.z_len (by decide +kernel) (pa_cons (pv 0) pa_nil))) (pv 1) (nomark _)) (pss_one (ps_par (i := 2) (j := 3) rfl sc_come_back_in.nd rfl rfl (by decide) rfl rfl (pa_cons (pe_fn h_led_in (hr.mono (by decide)) (by rfl) (pa_cons (pv 0) (pa_cons (pv 2) pa_nil))) (pa_cons (pe_op op_add (pv 3) pe_int) pa_nil)) (by rfl))))
    (pss_one (ps_ret (pe_tup (pa_cons (pv 1) (pa_cons (pv 3) (pa_cons (pe_op op_fdiv (pe_op op_sub (pv 2) (pv 1)) (pe_callB call_len_seq (by rfl) G.z_len (by decide +kernel) (pa_cons (pv 0) pa_nil))) pa_nil)))))))))
abbrev s_turning_in : Stmt := topS 37
theorem sc_turning_in : FnScope ["wheel", "_", "beats", "rounds", "most"] ["wheel"] (defScope s_turning_in) := ⟨rfl, rfl, rfl, by decide +kernel, rfl, by decide +kernel, by decide +kernel⟩
def t_turning_in (K : PySem.W.Frag) (S_come_back_in : Sp) : TS :=
  (tSeq (tAsg (tCall S_come_back_in [] E0 (tCons (tVar 0) tNil)) (gTup K 3 (gCons (gName 1) (gCons (gName 2) (gCons (gName 3) gNil)))))
    (tSeq (tAsg (tCB rGcd (tCons (tVar 2) (tCons (tVar 3) tNil))) (gName 4))
    (tRet (tTup (tCons (tOp xDiv (tVar 3) (tVar 4)) (tCons (tOp xDiv (tVar 2) (tVar 4)) tNil))))))
theorem p_turning_in {P : Program} {w : World} {K : PySem.W.Frag} {mg : Str → Option Value} {base : Heap} (G : Glob mg) {S_come_back_in : Sp} (h_come_back_in : Has P w K mg base 2 "come_back_in" ["wheel"] S_come_back_in) {f : Addr} {cdv : Value} {A : Around} {outer : List Env} {s : Shared} {H : Hp} {E : XK} (hr : Room 2 (A.deeper (PyProof.Rows.envOfC "turning_in" (defScope s_turning_in) s.heap.objs.size f cdv))) :
    PSs (cxOf CX0 P w K mg base ["wheel", "_", "beats", "rounds", "most"] "turning_in" (defScope s_turning_in) f cdv A outer s H E).nox (defBody s_turning_in) (t_turning_in K S_come_back_in) :=
  (pss_cons (ps_asg (pe_fn h_come_back_in (hr.mono (by decide)) (by rfl) (pa_cons (pv 0) pa_nil)) (pg_tup rfl (pgs_cons (pg_name (i := 1) sc_turning_in.nd rfl (Or.inl rfl)) (pgs_cons (pg_name (i := 2) sc_turning_in.nd rfl (Or.inl rfl)) (pgs_cons (pg_name (i := 3) sc_turning_in.nd rfl (Or.inl rfl)) pgs_nil)))))
    (pss_cons (ps_set (i := 4) sc_turning_in.nd rfl (Or.inl rfl) (pe_callBfun cr_gcd (by rfl) G.gcd (pa_cons (pv 2) (pa_cons (pv 3) pa_nil))))
    (pss_one (ps_ret (pe_tup (pa_cons (pe_op op_fdiv (pv 3) (pv 4)) (pa_cons (pe_op op_fdiv (pv 2) (pv 4)) pa_nil)))))))
abbrev s_fits_in : Stmt := topS 39
theorem sc_fits_in : FnScope ["wheel", "fraction", "thing", "way", "found", "many", "place", "own"] ["wheel", "fraction", "thing", "way"] (defScope s_fits_in) := ⟨rfl, rfl, rfl, by decide +kernel, rfl, by decide +kernel, by decide +kernel⟩
def t_fits_in (K : PySem.W.Frag) (S_is_from S_is_long S_is_wheel S_led_in S_turning_in : Sp) : TS :=
  (tSeq (tIfS (tOr (tNot (tB (tCall S_is_long [] E0 (tCons (tVar 2) (tCons (tC (.int 2)) tNil))))) (tOr (tNot (tB (tCall S_is_from [] E0 (tCons (tOp (rIxT K) (tVar 2) (tC (.int 1))) (tCons (tC (.int 1)) tNil))))) (tNot (tB (tCall S_is_wheel [] E0 (tCons (tOp (rIxT K) (tVar 2) (tC (.int 0))) tNil)))))) (tRet (tC (.bl false))) tNext)
    (tSeq (tAsg (tVar 2) (gTup K 2 (gCons (gName 4) (gCons (gName 5) gNil))))
    (tSeq (tIfS (tOr (tTest (tOp (rNeD K) (tCB (rLenS K) (tCons (tVar 4) tNil)) (tOp xMul (tVar 5) (tCB (rLenS K) (tCons (tVar 0) tNil))))) (tTest (tOp (rNeD K) (tCall S_turning_in [] E0 (tCons (tVar 4) tNil)) (tVar 1)))) (tRet (tC (.bl false))) tNext)
    (tRet (tCB (rAll K) (tCons (tLc (iEnumT K (tCons (tVar 0) tNil)) (gTup K 2 (gCons (gName 6) (gCons (gName 7) gNil))) tYes (tOp xGe (tOp xMul (tVar 3) (tCall S_led_in [] E0 (tCons (tVar 4) (tCons (tOp xMul (tVar 5) (tVar 6)) tNil)))) (tOp xMul (tOp xMul (tVar 3) (tVar 5)) (tVar 7))) [6, 7]) tNil))))))
theorem p_fits_in {P : Program} {w : World} {K : PySem.W.Frag} {mg : Str → Option Value} {base : Heap} (G : Glob mg) {S_is_from : Sp} (h_is_from : Has P w K mg base 2 "is_from" ["thing", "least"] S_is_from) {S_is_long : Sp} (h_is_long : Has P w K mg base 1 "is_long" ["thing", "length"] S_is_long) {S_is_wheel : Sp} (h_is_wheel : Has P w K mg base 2 "is_wheel" ["thing"] S_is_wheel) {S_led_in : Sp} (h_led_in : Has P w K mg base 1 "led_in" ["wheel", "number"] S_led_in) {S_turning_in : Sp} (h_turning_in : Has P w K mg base 3 "turning_in" ["wheel"] S_turning_in) {f : Addr} {cdv : Value} {A : Around} {outer : List Env} {s : Shared} {H : Hp} {E : XK} (hr : Room 3 (A.deeper (PyProof.Rows.envOfC "fits_in" (defScope s_fits_in) s.heap.objs.size f cdv))) :
    PSs (cxOf CX0 P w K mg base ["wheel", "fraction", "thing", "way", "found", "many", "place", "own"] "fits_in" (defScope s_fits_in) f cdv A outer s H E).nox (defBody s_fits_in) (t_fits_in K S_is_from S_is_long S_is_wheel S_led_in S_turning_in) :=
  (pss_cons (ps_if (PW.pt (pw_or (pt_not (pt_val (pe_fn h_is_long (hr.mono (by decide)) (by rfl) (pa_cons (pv 2) (pa_cons pe_int pa_nil))))) (pw_or (pt_not (pt_val (pe_fn h_is_from (hr.mono (by decide)) (by rfl) (pa_cons (pe_ix ix_tup (pv 2) pe_int (fun _ _ => rfl)) (pa_cons pe_int pa_nil))))) (pw_or1 (pt_not (pt_val (pe_fn h_is_wheel (hr.mono (by decide)) (by rfl) (pa_cons (pe_ix ix_tup (pv 2) pe_int (fun _ _ => rfl)) pa_nil)))))))) (pss_one (ps_ret pe_bl)) pss_nil)
    (pss_cons (ps_asg (pv 2) (pg_tup rfl (pgs_cons (pg_name (i := 4) sc_fits_in.nd rfl (Or.inr rfl)) (pgs_cons (pg_name (i := 5) sc_fits_in.nd rfl (Or.inr rfl)) pgs_nil))))
    (pss_cons (ps_if (PW.pt (pw_or (pt_cmpR (op_neD hr.units) (pe_callB call_len_seq (by rfl) G.z_len (by decide +kernel) (pa_cons (pv 4) pa_nil)) (pe_op op_mul (pv 5) (pe_callB call_len_seq (by rfl) G.z_len (by decide +kernel) (pa_cons (pv 0) pa_nil))) (nomark _)) (pw_or1 (pt_cmpR (op_neD hr.units) (pe_fn h_turning_in (hr.mono (by decide)) (by rfl) (pa_cons (pv 4) pa_nil)) (pv 1) (nomark _))))) (pss_one (ps_ret pe_bl)) pss_nil)
    (pss_one (ps_ret (pe_callB (cr_all rfl) (by rfl) G.z_all (by decide +kernel) (pa_cons (pe_lc (own := [("place", 6), ("own", 7)]) (g := (gTup K 2 (gCons (gName 6) (gCons (gName 7) gNil)))) (tt := tYes) rfl sc_fits_in.nd (pi_enumT (by rfl) G.z_enumerate (pa_cons (pv 0) pa_nil)) (blkOk_by (N := ["wheel", "fraction", "thing", "way", "found", "many", "place", "own"]) (sc := defScope s_fits_in) (by decide +kernel)) (fun _ _ _ _ _ => (pg_tup rfl (pgs_cons (pg_name (i := 6) sc_fits_in.nd rfl (Or.inl rfl)) (pgs_cons (pg_name (i := 7) sc_fits_in.nd rfl (Or.inl rfl)) pgs_nil)))) (fun _ _ _ _ _ => pts_nil) (fun _ _ _ _ _ => (pe_cmpR op_ge (pe_op op_mul (pv 3) (pe_fn h_led_in (hr.mono (by decide)) (by rfl) (pa_cons (pv 4) (pa_cons (pe_op op_mul (pv 5) (pv 6)) pa_nil)))) (pe_op op_mul (pe_op op_mul (pv 3) (pv 5)) (pv 7)) (nomark _)))) pa_nil)))))))
end DL
set_option Elab.async false
set_option linter.all false
set_option maxRecDepth 100000
set_option maxHeartbeats 4000000
namespace DL
open PySem L2 PyProof.Rows RZ
abbrev s_is_raised : Stmt := topS 40
theorem sc_is_raised : FnScope ["wheel", "fraction", "thing", "own"] ["wheel", "fraction", "thing"] (defScope s_is_raised) := ⟨rfl, rfl, rfl, by decide +kernel, rfl, by decide +kernel, by decide +kernel⟩
def t_is_raised (K : PySem.W.Frag) (S_fits_in S_sure_fraction S_sure_wheel : Sp) : TS :=
  (tSeq (tAsg (tCall S_sure_wheel [] E0 (tCons (tVar 0) tNil)) (gName 3))
    (tRet (tCall S_fits_in [] E0 (tCons (tVar 3) (tCons (tCall S_sure_fraction [] E0 (tCons (tVar 1) tNil)) (tCons (tVar 2) (tCons (tC (.int 1)) tNil)))))))
theorem p_is_raised {P : Program} {w : World} {K : PySem.W.Frag} {mg : Str → Option Value} {base : Heap} (G : Glob mg) {S_fits_in : Sp} (h_fits_in : Has P w K mg base 4 "fits_in" ["wheel", "fraction", "thing", "way"] S_fits_in) {S_sure_fraction : Sp} (h_sure_fraction : Has P w K mg base 4 "sure_fraction" ["one"] S_sure_fraction) {S_sure_wheel : Sp} (h_sure_wheel : Has P w K mg base 4 "sure_wheel" ["wheel"] S_sure_wheel) {f : Addr} {cdv : Value} {A : Around} {outer : List Env} {s : Shared} {H : Hp} {E : XK} (hr : Room 4 (A.deeper (PyProof.Rows.envOfC "is_raised" (defScope s_is_raised) s.heap.objs.size f cdv))) :
    PSs (cxOf CX0 P w K mg base ["wheel", "fraction", "thing", "own"] "is_raised" (defScope s_is_raised) f cdv A outer s H E).nox (defBody s_is_raised) (t_is_raised K S_fits_in S_sure_fraction S_sure_wheel) :=
  (pss_cons (ps_set (i := 3) sc_is_raised.nd rfl (Or.inl rfl) (pe_fn h_sure_wheel (hr.mono (by decide)) (by rfl) (pa_cons (pv 0) pa_nil)))
    (pss_one (ps_ret (pe_fn h_fits_in (hr.mono (by decide)) (by rfl) (pa_cons (pv 3) (pa_cons (pe_fn h_sure_fraction (hr.mono (by decide)) (by rfl) (pa_cons (pv 1) pa_nil)) (pa_cons (pv 2) (pa_cons pe_int pa_nil))))))))
abbrev s_is_lowered : Stmt := topS 41
theorem sc_is_lowered : FnScope ["wheel", "fraction", "thing", "own"] ["wheel", "fraction", "thing"] (defScope s_is_lowered) := ⟨rfl, rfl, rfl, by decide +kernel, rfl, by decide +kernel, by decide +kernel⟩
def t_is_lowered (K : PySem.W.Frag) (S_fits_in S_sure_fraction S_sure_wheel : Sp) : TS :=
  (tSeq (tAsg (tCall S_sure_wheel [] E0 (tCons (tVar 0) tNil)) (gName 3))
    (tRet (tCall S_fits_in [] E0 (tCons (tVar 3) (tCons (tCall S_sure_fraction [] E0 (tCons (tVar 1) tNil)) (tCons (tVar 2) (tCons (tUn xNeg (tC (.int 1))) tNil)))))))
theorem p_is_lowered {P : Program} {w : World} {K : PySem.W.Frag} {mg : Str → Option Value} {base : Heap} (G : Glob mg) {S_fits_in : Sp} (h_fits_in : Has P w K mg base 4 "fits_in" ["wheel", "fraction", "thing", "way"] S_fits_in) {S_sure_fraction : Sp} (h_sure_fraction : Has P w K mg base 4 "sure_fraction" ["one"] S_sure_fraction) {S_sure_wheel : Sp} (h_sure_wheel : Has P w K mg base 4 "sure_wheel" ["wheel"] S_sure_wheel) {f : Addr} {cdv : Value} {A : Around} {outer : List Env} {s : Shared} {H : Hp} {E : XK} (hr : Room 4 (A.deeper (PyProof.Rows.envOfC "is_lowered" (defScope s_is_lowered) s.heap.objs.size f cdv))) :
    PSs (cxOf CX0 P w K mg base ["wheel", "fraction", "thing", "own"] "is_lowered" (defScope s_is_lowered) f cdv A outer s H E).nox (defBody s_is_lowered) (t_is_lowered K S_fits_in S_sure_fraction S_sure_wheel) :=
  (pss_cons (ps_set (i := 3) sc_is_lowered.nd rfl (Or.inl rfl) (pe_fn h_sure_wheel (hr.mono (by decide)) (by rfl) (pa_cons (pv 0) pa_nil)))
    (pss_one (ps_ret (pe_fn h_fits_in (hr.mono (by decide)) (by rfl) (pa_cons (pv 3) (pa_cons (pe_fn h_sure_fraction (hr.mono (by decide)) (by rfl) (pa_cons (pv 1) pa_nil)) (pa_cons (pv 2) (pa_cons (pe_un un_neg pe_int) pa_nil))))))))
abbrev s_turns_so : Stmt := topS 42
theorem sc_turns_so : FnScope ["turns", "thing", "goal", "wheel", "own"] ["turns", "thing", "goal"] (defScope s_turns_so) := ⟨rfl, rfl, rfl, by decide +kernel, rfl, by decide +kernel, by decide +kernel⟩
def t_turns_so (K : PySem.W.Frag) (S_is_train S_put_in S_turning_in : Sp) : TS :=
  (tSeq (tIfS (tOr (tNot (tB (tCall S_is_train [] E0 (tCons (tVar 1) tNil)))) (tTest (tOp (rNeD K) (tCB (rLenS K) (tCons (tVar 1) tNil)) (tCB (rLenS K) (tCons (tVar 0) tNil))))) (tRet (tC (.bl false))) tNext)
    (tSeq (tIfS (tB (tCB (rAny K) (tCons (tLc (iZipA K (tCons (tVar 1) (tCons (tVar 0) tNil))) (gTup K 2 (gCons (gName 3) (gCons (gName 4) gNil))) tYes (tOp (rNeD K) (tCall S_turning_in [] E0 (tCons (tVar 3) tNil)) (tVar 4)) [3, 4]) tNil))) (tRet (tC (.bl false))) tNext)
    (tRet (tOp (rEqD K) (tCall S_turning_in [] E0 (tCons (tCall S_put_in [] E0 (tCons (tVar 1) tNil)) tNil)) (tVar 2)))))
theorem p_turns_so {P : Program} {w : World} {K : PySem.W.Frag} {mg : Str → Option Value} {base : Heap} (G : Glob mg) {S_is_train : Sp} (h_is_train : Has P w K mg base 3 "is_train" ["thing"] S_is_train) {S_put_in : Sp} (h_put_in : Has P w K mg base 3 "put_in" ["train"] S_put_in) {S_turning_in : Sp} (h_turning_in : Has P w K mg base 3 "turning_in" ["wheel"] S_turning_in) {f : Addr} {cdv : Value} {A : Around} {outer : List Env} {s : Shared} {H : Hp} {E : XK} (hr : Room 3 (A.deeper (PyProof.Rows.envOfC "turns_so" (defScope s_turns_so) s.heap.objs.size f cdv))) :
    PSs (cxOf CX0 P w K mg base ["turns", "thing", "goal", "wheel", "own"] "turns_so" (defScope s_turns_so) f cdv A outer s H E).nox (defBody s_turns_so) (t_turns_so K S_is_train S_put_in S_turning_in) :=
  (pss_cons (ps_if (PW.pt (pw_or (pt_not (pt_val (pe_fn h_is_train (hr.mono (by decide)) (by rfl) (pa_cons (pv 1) pa_nil)))) (pw_or1 (pt_cmpR (op_neD hr.units) (pe_callB call_len_seq (by rfl) G.z_len (by decide +kernel) (pa_cons (pv 1) pa_nil)) (pe_callB call_len_seq (by rfl) G.z_len (by decide +kernel) (pa_cons (pv 0) pa_nil)) (nomark _))))) (pss_one (ps_ret pe_bl)) pss_nil)
    (pss_cons (ps_if (pt_val (pe_callB (cr_any rfl) (by rfl) G.z_any (by decide +kernel) (pa_cons (pe_lc (own := [("wheel", 3), ("own", 4)]) (g := (gTup K 2 (gCons (gName 3) (gCons (gName 4) gNil)))) (tt := tYes) rfl sc_turns_so.nd (pi_zipA (by rfl) G.z_zip (pa_cons (pv 1) (pa_cons (pv 0) pa_nil))) (blkOk_by (N := ["turns", "thing", "goal", "wheel", "own"]) (sc := defScope s_turns_so) (by decide +kernel)) (fun _ _ _ _ _ => (pg_tup rfl (pgs_cons (pg_name (i := 3) sc_turns_so.nd rfl (Or.inl rfl)) (pgs_cons (pg_name (i := 4) sc_turns_so.nd rfl (Or.inl rfl)) pgs_nil)))) (fun _ _ _ _ _ => pts_nil) (fun _ _ _ _ _ => (pe_cmpR (op_neD hr.units) (pe_fn h_turning_in (hr.mono (by decide)) (by rfl) (pa_cons (pv 3) pa_nil)) (pv 4) (nomark _)))) pa_nil))) (pss_one (ps_ret pe_bl)) pss_nil)
    (pss_one (ps_ret (pe_cmpR (op_eqD hr.units) (pe_fn h_turning_in (hr.mono (by decide)) (by rfl) (pa_cons (pe_fn h_put_in (hr.mono (by decide)) (by rfl) (pa_cons (pv 1) pa_nil)) pa_nil)) (pv 2) (nomark _))))))
abbrev s_is_reached : Stmt := topS 43
theorem sc_is_reached : FnScope ["turns", "thing", "own"] ["turns", "thing"] (defScope s_is_reached) := ⟨rfl, rfl, rfl, by decide +kernel, rfl, by decide +kernel, by decide +kernel⟩
def t_is_reached (K : PySem.W.Frag) (S_most_in S_sure_few S_turns_so : Sp) : TS :=
  (tSeq (tAsg (tCall S_sure_few [] E0 (tCons (tVar 0) tNil)) (gName 2))
    (tRet (tCall S_turns_so [] E0 (tCons (tVar 2) (tCons (tVar 1) (tCons (tCall S_most_in [] E0 (tCons (tVar 2) tNil)) tNil))))))
theorem p_is_reached {P : Program} {w : World} {K : PySem.W.Frag} {mg : Str → Option Value} {base : Heap} (G : Glob mg) {S_most_in : Sp} (h_most_in : Has P w K mg base 8 "most_in" ["turns"] S_most_in) {S_sure_few : Sp} (h_sure_few : Has P w K mg base 6 "sure_few" ["turns"] S_sure_few) {S_turns_so : Sp} (h_turns_so : Has P w K mg base 4 "turns_so" ["turns", "thing", "goal"] S_turns_so) {f : Addr} {cdv : Value} {A : Around} {outer : List Env} {s : Shared} {H : Hp} {E : XK} (hr : Room 8 (A.deeper (PyProof.Rows.envOfC "is_reached" (defScope s_is_reached) s.heap.objs.size f cdv))) :
    PSs (cxOf CX0 P w K mg base ["turns", "thing", "own"] "is_reached" (defScope s_is_reached) f cdv A outer s H E).nox (defBody s_is_reached) (t_is_reached K S_most_in S_sure_few S_turns_so) :=
  (pss_cons (ps_set (i := 2) sc_is_reached.nd rfl (Or.inl rfl) (pe_fn h_sure_few (hr.mono (by decide)) (by rfl) (pa_cons (pv 0) pa_nil)))
    (pss_one (ps_ret (pe_fn h_turns_so (hr.mono (by decide)) (by rfl) (pa_cons (pv 2) (pa_cons (pv 1) (pa_cons (pe_fn h_most_in (hr.mono (by decide)) (by rfl) (pa_cons (pv 2) pa_nil)) pa_nil)))))))
abbrev s_is_lowest : Stmt := topS 44
theorem sc_is_lowest : FnScope ["turns", "thing", "own", "fraction"] ["turns", "thing"] (defScope s_is_lowest) := ⟨rfl, rfl, rfl, by decide +kernel, rfl, by decide +kernel, by decide +kernel⟩
def t_is_lowest (K : PySem.W.Frag) (S_most_in S_negative S_sure_few S_turns_so : Sp) : TS :=
  (tSeq (tAsg (tCall S_sure_few [] E0 (tCons (tVar 0) tNil)) (gName 2))
    (tRet (tCall S_turns_so [] E0 (tCons (tVar 2) (tCons (tVar 1) (tCons (tCall S_negative [] E0 (tCons (tCall S_most_in [] E0 (tCons (tCB (rTupOf K) (tCons (tLc (iTup K (tVar 2)) (gName 3) tYes (tCall S_negative [] E0 (tCons (tVar 3) tNil)) [3]) tNil)) tNil)) tNil)) tNil))))))
theorem p_is_lowest {P : Program} {w : World} {K : PySem.W.Frag} {mg : Str → Option Value} {base : Heap} (G : Glob mg) {S_most_in : Sp} (h_most_in : Has P w K mg base 8 "most_in" ["turns"] S_most_in) {S_negative : Sp} (h_negative : Has P w K mg base 5 "negative" ["one"] S_negative) {S_sure_few : Sp} (h_sure_few : Has P w K mg base 6 "sure_few" ["turns"] S_sure_few) {S_turns_so : Sp} (h_turns_so : Has P w K mg base 4 "turns_so" ["turns", "thing", "goal"] S_turns_so) {f : Addr} {cdv : Value} {A : Around} {outer : List Env} {s : Shared} {H : Hp} {E : XK} (hr : Room 8 (A.deeper (PyProof.Rows.envOfC "is_lowest" (defScope s_is_lowest) s.heap.objs.size f cdv))) :
    PSs (cxOf CX0 P w K mg base ["turns", "thing", "own", "fraction"] "is_lowest" (defScope s_is_lowest) f cdv A outer s H E).nox (defBody s_is_lowest) (t_is_lowest K S_most_in S_negative S_sure_few S_turns_so) :=
  (pss_cons (ps_set (i := 2) sc_is_lowest.nd rfl (Or.inl rfl) (pe_fn h_sure_few (hr.mono (by decide)) (by rfl) (pa_cons (pv 0) pa_nil)))
    (pss_one (ps_ret (pe_fn h_turns_so (hr.mono (by decide)) (by rfl) (pa_cons (pv 2) (pa_cons (pv 1) (pa_cons (pe_fn h_negative (hr.mono (by decide)) (by rfl) (pa_cons (pe_fn h_most_in (hr.mono (by decide)) (by rfl) (pa_cons (pe_callTy call_tuple_of (by rfl) G.z_tuple (by decide +kernel) (pa_cons (pe_lc (own := [("fraction", 3)]) (g := (gName 3)) (tt := tYes) rfl sc_is_lowest.nd (pi_tup (pv 2)) (blkOk_by (N := ["turns", "thing", "own", "fraction"]) (sc := defScope s_is_lowest) (by decide +kernel)) (fun _ _ _ _ _ => (pg_name (i := 3) sc_is_lowest.nd rfl (Or.inl rfl))) (fun _ _ _ _ _ => pts_nil) (fun _ _ _ _ _ => (pe_fn h_negative (hr.mono (by decide)) (by rfl) (pa_cons (pv 3) pa_nil)))) pa_nil)) pa_nil)) pa_nil)) pa_nil)))))))
abbrev s_law_box : Stmt := topS 46
theorem sc_law_box : FnScope ["_law_script", "_law_k", "_law_bit_so"] ["_law_script", "_law_k"] (defScope s_law_box) := ⟨rfl, rfl, rfl, by decide +kernel, rfl, by decide +kernel, by decide +kernel⟩
def t_law_box (K : PySem.W.Frag) : TS :=
  (tSeq (tAsg (tIf (tTest (tOp xLt (tVar 1) (tCB (rLenS K) (tCons (tVar 0) tNil)))) (tOp (rIxL K) (tVar 0) (tVar 1)) (tC (.int 0))) (gName 2))
    (tRet (tLst (tCons (tOp xMul (tCB rAbs (tCons (tVar 2) tNil)) (tCB rInt1 (tCons (tOp xGe (tCB rAbs (tCons (tVar 2) tNil)) (tOp xPow (tC (.int 10)) (tC (.int 18)))) tNil))) (tCons (tOp xAdd (tOp xAdd (tOp xMod (tCB rInt1 (tCons (tVar 2) tNil)) (tC (.int 2305843009213693951))) (tOp xMul (tC (.int 39373)) (tVar 1))) (tC (.int 3190037))) (tCons (tC (.int 0)) tNil))))))
theorem p_law_box {P : Program} {w : World} {K : PySem.W.Frag} {mg : Str → Option Value} {base : Heap} (G : Glob mg) {f : Addr} {cdv : Value} {A : Around} {outer : List Env} {s : Shared} {H : Hp} {E : XK} (hr : Room 0 (A.deeper (PyProof.Rows.envOfC "_law_box" (defScope s_law_box) s.heap.objs.size f cdv))) :
    PSs (cxOf CX0 P w K mg base ["_law_script", "_law_k", "_law_bit_so"] "_law_box" (defScope s_law_box) f cdv A outer s H E).nox (defBody s_law_box) (t_law_box K) :=
  (pss_cons (ps_set (i := 2) sc_law_box.nd rfl (Or.inl rfl) (pe_ifExp (pt_cmpR op_lt (pv 1) (pe_callB call_len_seq (by rfl) G.z_len (by decide +kernel) (pa_cons (pv 0) pa_nil)) (nomark _)) (pe_ix ix_list (pv 0) (pv 1) (fun _ _ => rfl)) pe_int))
    (pss_one (ps_ret (pe_lst (pa_cons (pe_op op_mul (pe_callB call_abs (by rfl) G.z_abs (by decide +kernel) (pa_cons (pv 2) pa_nil)) (pe_callTy call_int1 (by rfl) G.z_int (by decide +kernel) (pa_cons (pe_cmpR op_ge (pe_callB call_abs (by rfl) G.z_abs (by decide +kernel) (pa_cons (pv 2) pa_nil)) (pe_op op_pow pe_int pe_int) (nomark _)) pa_nil))) (pa_cons (pe_op op_add (pe_op op_add (pe_op op_mod (pe_callTy call_int1 (by rfl) G.z_int (by decide +kernel) (pa_cons (pv 2) pa_nil)) pe_int) (pe_op op_mul pe_int (pv 1))) pe_int) (pa_cons pe_int pa_nil)))))))
abbrev s_law_take : Stmt := topS 47
theorem sc_law_take : FnScope ["_law_tin", "_law_below_so", "_law_drawn", "_law_once_so", "_law_wide_so", "_law_twice_so"] ["_law_tin", "_law_below_so"] (defScope s_law_take) := ⟨rfl, rfl, rfl, by decide +kernel, rfl, by decide +kernel, by decide +kernel⟩
def t_law_take (K : PySem.W.Frag) : TS :=
  (tSeq (tIfS (tTest (tOp xGt (tOp (rIxL K) (tVar 0) (tC (.int 0))) (tC (.int 0)))) (tSeq (tAsg (tOp xMod (tCB rInt1 (tCons (tOp (rIxL K) (tVar 0) (tC (.int 0))) tNil)) (tVar 1)) (gName 2))
    (tSeq (tAsg (tOp xDiv (tOp (rIxL K) (tVar 0) (tC (.int 0))) (tVar 1)) (gSub (tVar 0) (tC (.int 0)) rSetL))
    (tRet (tVar 2)))) tNext)
    (tSeq (tAsg (tOp xAdd (tOp (rIxL K) (tVar 0) (tC (.int 2))) (tC (.int 1))) (gSub (tVar 0) (tC (.int 2)) rSetL))
    (tSeq (tAsg (tOp xMod (tCB rInt1 (tCons (tOp xMul (tOp xAdd (tOp (rIxL K) (tVar 0) (tC (.int 1))) (tOp xMul (tC (.int 48271)) (tOp (rIxL K) (tVar 0) (tC (.int 2))))) (tOp xAdd (tC (.int 39373)) (tOp (rIxL K) (tVar 0) (tC (.int 2))))) tNil)) (tC (.int 2147483647))) (gName 3))
    (tSeq (tAsg (tOp xAdd (tOp xMod (tCB rInt1 (tCons (tVar 3) tNil)) (tC (.int 40009))) (tC (.int 7))) (gName 4))
    (tSeq (tAsg (tOp xMod (tCB rInt1 (tCons (tOp xMul (tOp xAdd (tOp xAdd (tVar 3) (tOp (rIxL K) (tVar 0) (tC (.int 2)))) (tOp xDiv (tOp (rIxL K) (tVar 0) (tC (.int 1))) (tC (.int 1000003)))) (tVar 4)) tNil)) (tC (.int 2147483629))) (gName 5))
    (tRet (tOp xMod (tCB rInt1 (tCons (tOp xDiv (tOp xMod (tCB rInt1 (tCons (tOp xAdd (tOp xMul (tVar 5) (tC (.int 48271))) (tVar 3)) tNil)) (tC (.int 2147483587))) (tC (.int 64))) tNil)) (tVar 1))))))))
theorem p_law_take {P : Program} {w : World} {K : PySem.W.Frag} {mg : Str → Option Value} {base : Heap} (G : Glob mg) {f : Addr} {cdv : Value} {A : Around} {outer : List Env} {s : Shared} {H : Hp} {E : XK} (hr : Room 0 (A.deeper (PyProof.Rows.envOfC "_law_take" (defScope s_law_take) s.heap.objs.size f cdv))) :
    PSs (cxOf CX0 P w K mg base ["_law_tin", "_law_below_so", "_law_drawn", "_law_once_so", "_law_wide_so", "_law_twice_so"] "_law_take" (defScope s_law_take) f cdv A outer s H E).nox (defBody s_law_take) (t_law_take K) :=
  (pss_cons (ps_if (pt_cmpR op_gt (pe_ix ix_list (pv 0) pe_int (fun _ _ => rfl)) pe_int (nomark _)) (pss_cons (ps_set (i := 2) sc_law_take.nd rfl (Or.inl rfl) (pe_op op_mod (pe_callTy call_int1 (by rfl) G.z_int (by decide +kernel) (pa_cons (pe_ix ix_list (pv 0) pe_int (fun _ _ => rfl)) pa_nil)) (pv 1)))
    (pss_cons (ps_asg (pe_op op_fdiv (pe_ix ix_list (pv 0) pe_int (fun _ _ => rfl)) (pv 1)) (pg_sub (pv 0) pe_int set_list))
    (pss_one (ps_ret (pv 2))))) pss_nil)
    (pss_cons (ps_asg (pe_op op_add (pe_ix ix_list (pv 0) pe_int (fun _ _ => rfl)) pe_int) (pg_sub (pv 0) pe_int set_list))
    (pss_cons (ps_set (i := 3) sc_law_take.nd rfl (Or.inl rfl) (pe_op op_mod (pe_callTy call_int1 (by rfl) G.z_int (by decide +kernel) (pa_cons (pe_op op_mul (pe_op op_add (pe_ix ix_list (pv 0) pe_int (fun _ _ => rfl)) (pe_op op_mul pe_int (pe_ix ix_list (pv 0) pe_int (fun _ _ => rfl)))) (pe_op op_add pe_int (pe_ix ix_list (pv 0) pe_int (fun _ _ => rfl)))) pa_nil)) pe_int))
    (pss_cons (ps_set (i := 4) sc_law_take.nd rfl (Or.inl rfl) (pe_op op_add (pe_op op_mod (pe_callTy call_int1 (by rfl) G.z_int (by decide +kernel) (pa_cons (pv 3) pa_nil)) pe_int) pe_int))
    (pss_cons (ps_set (i := 5) sc_law_take.nd rfl (Or.inl rfl) (pe_op op_mod (pe_callTy call_int1 (by rfl) G.z_int (by decide +kernel) (pa_cons (pe_op op_mul (pe_op op_add (pe_op op_add (pv 3) (pe_ix ix_list (pv 0) pe_int (fun _ _ => rfl))) (pe_op op_fdiv (pe_ix ix_list (pv 0) pe_int (fun _ _ => rfl)) pe_int)) (pv 4)) pa_nil)) pe_int))
    (pss_one (ps_ret (pe_op op_mod (pe_callTy call_int1 (by rfl) G.z_int (by decide +kernel) (pa_cons (pe_op op_fdiv (pe_op op_mod (pe_callTy call_int1 (by rfl) G.z_int (by decide +kernel) (pa_cons (pe_op op_add (pe_op op_mul (pv 5) pe_int) (pv 3)) pa_nil)) pe_int) pe_int) pa_nil)) (pv 1)))))))))
abbrev s_law_cells : Stmt := topS 48
theorem sc_law_cells : FnScope ["_law_script", "_law_most_so", "_law_cells_so", "_law_k", "_law_bit_so", "_law_at_so"] ["_law_script", "_law_most_so"] (defScope s_law_cells) := ⟨rfl, rfl, rfl, by decide +kernel, rfl, by decide +kernel, by decide +kernel⟩
def t_law_cells (K : PySem.W.Frag) : TS :=
  (tSeq (tAsg (tOrT K (tCB (rLstOf K) (tCons (tSl (rSlL K) (tVar 0) tNoPart (tPart (tVar 1))) tNil)) (tLst (tCons (tC (.int 0)) tNil))) (gName 2))
    (tSeq (tFor (iEnum K (tCons (tSl (rSlL K) (tVar 0) (tPart (tVar 1)) (tPart (tC (.int 63)))) tNil)) (gTup K 2 (gCons (gName 3) (gCons (gName 4) gNil))) (tSeq (tAsg (tOp xMod (tCB rInt1 (tCons (tVar 3) tNil)) (tVar 1)) (gName 5))
    (tAsg (tOp xAdd (tOp (rIxL K) (tVar 2) (tVar 5)) (tOp xMul (tVar 4) (tOp xAdd (tVar 3) (tC (.int 2))))) (gSub (tVar 2) (tVar 5) rSetL))))
    (tRet (tVar 2))))
theorem p_law_cells {P : Program} {w : World} {K : PySem.W.Frag} {mg : Str → Option Value} {base : Heap} (G : Glob mg) {f : Addr} {cdv : Value} {A : Around} {outer : List Env} {s : Shared} {H : Hp} {E : XK} (hr : Room 0 (A.deeper (PyProof.Rows.envOfC "_law_cells" (defScope s_law_cells) s.heap.objs.size f cdv))) :
    PSs (cxOf CX0 P w K mg base ["_law_script", "_law_most_so", "_law_cells_so", "_law_k", "_law_bit_so", "_law_at_so"] "_law_cells" (defScope s_law_cells) f cdv A outer s H E).nox (defBody s_law_cells) (t_law_cells K) :=
  (pss_cons (ps_set (i := 2) sc_law_cells.nd rfl (Or.inl rfl) (pe_orT (pe_callTy call_list_of (by rfl) G.z_list (by decide +kernel) (pa_cons (pe_slice sl_list (pv 0) po_none (po_some (pv 1))) pa_nil)) (pe_one (pe_lst (pa_cons pe_int pa_nil)))))
    (pss_cons (ps_for PassesOwn.never rfl (pi_enum (by rfl) G.z_enumerate (pa_cons (pe_slice sl_list (pv 0) (po_some (pv 1)) (po_some pe_int)) pa_nil)) (pg_tup rfl (pgs_cons (pg_name (i := 3) sc_law_cells.nd rfl (Or.inl rfl)) (pgs_cons (pg_name (i := 4) sc_law_cells.nd rfl (Or.inl rfl)) pgs_nil))) (pss_cons (ps_set (i := 5) sc_law_cells.nd rfl (Or.inl rfl) (pe_op op_mod (pe_callTy call_int1 (by rfl) G.z_int (by decide +kernel) (pa_cons (pv 3) pa_nil)) (pv 1)))
    (pss_one (ps_asg (pe_op op_add (pe_ix ix_list (pv 2) (pv 5) (fun _ _ => rfl)) (pe_op op_mul (pv 4) (pe_op op_add (pv 3) pe_int))) (pg_sub (pv 2) (pv 5) set_list)))))
    (pss_one (ps_ret (pv 2)))))
abbrev s_law_of : Stmt := topS 49
theorem sc_law_of : FnScope ["_law_tin", "_law_goods_so"] ["_law_tin", "_law_goods_so"] (defScope s_law_of) := ⟨rfl, rfl, rfl, by decide +kernel, rfl, by decide +kernel, by decide +kernel⟩
def t_law_of (K : PySem.W.Frag) (S_law_take : Sp) : TS :=
  (tRet (tOp (rIxL K) (tVar 1) (tCall S_law_take [] E0 (tCons (tVar 0) (tCons (tCB (rLenS K) (tCons (tVar 1) tNil)) tNil)))))
theorem p_law_of {P : Program} {w : World} {K : PySem.W.Frag} {mg : Str → Option Value} {base : Heap} (G : Glob mg) {S_law_take : Sp} (h_law_take : Has P w K mg base 1 "_law_take" ["_law_tin", "_law_below_so"] S_law_take) {f : Addr} {cdv : Value} {A : Around} {outer : List Env} {s : Shared} {H : Hp} {E : XK} (hr : Room 1 (A.deeper (PyProof.Rows.envOfC "_law_of" (defScope s_law_of) s.heap.objs.size f cdv))) :
    PSs (cxOf CX0 P w K mg base ["_law_tin", "_law_goods_so"] "_law_of" (defScope s_law_of) f cdv A outer s H E).nox (defBody s_law_of) (t_law_of K S_law_take) :=
  (pss_one (ps_ret (pe_ix ix_list (pv 1) (pe_fn h_law_take (hr.mono (by decide)) (by rfl) (pa_cons (pv 0) (pa_cons (pe_callB call_len_seq (by rfl) G.z_len (by decide +kernel) (pa_cons (pv 1) pa_nil)) pa_nil))) (fun _ _ => rfl))))
abbrev s_law_same : Stmt := topS 50
theorem sc_law_same : FnScope ["_law_got", "_law_due", "_law_mine", "_law_its"] ["_law_got", "_law_due"] (defScope s_law_same) := ⟨rfl, rfl, rfl, by decide +kernel, rfl, by decide +kernel, by decide +kernel⟩
def t_law_same (K : PySem.W.Frag) (S_law_same : Sp) : TS :=
  (tSeq (tIfS (tB (tCB (rIsiT K) (tCons (tVar 1) (tCons (tTup (tCons (tC (.ty "list")) (tCons (tC (.ty "tuple")) tNil))) tNil)))) (tSeq (tIfS (tOr (tTest (tOp (rNeD K) (tCB (rIsi K) (tCons (tVar 0) (tCons (tC (.ty "list")) tNil))) (tCB (rIsi K) (tCons (tVar 1) (tCons (tC (.ty "list")) tNil))))) (tTest (tOp (rNeD K) (tCB (rIsi K) (tCons (tVar 0) (tCons (tC (.ty "tuple")) tNil))) (tCB (rIsi K) (tCons (tVar 1) (tCons (tC (.ty "tuple")) tNil)))))) (tRet (tC (.bl false))) tNext)
    (tRet (tAndV (tOp (rEqD K) (tCB (rLenS K) (tCons (tVar 0) tNil)) (tCB (rLenS K) (tCons (tVar 1) tNil))) (tCB (rAll K) (tCons (tLc (iZipA K (tCons (tVar 0) (tCons (tVar 1) tNil))) (gTup K 2 (gCons (gName 2) (gCons (gName 3) gNil))) tYes (tCall S_law_same [] E0 (tCons (tVar 2) (tCons (tVar 3) tNil))) [2, 3]) tNil))))) tNext)
    (tSeq (tIfS (tOr (tTest (tOp xIsN (tVar 1) (tC .non))) (tB (tCB (rIsiT K) (tCons (tVar 1) (tCons (tTup (tCons (tC (.ty "bool")) (tCons (tC (.ty "str")) tNil))) tNil))))) (tRet (tAndV (tOp (rEqD K) (tVar 0) (tVar 1)) (tAndV (tOp (rEqD K) (tCB (rIsi K) (tCons (tVar 0) (tCons (tC (.ty "bool")) tNil))) (tCB (rIsi K) (tCons (tVar 1) (tCons (tC (.ty "bool")) tNil)))) (tOp (rEqD K) (tOp xIsN (tVar 0) (tC .non)) (tOp xIsN (tVar 1) (tC .non)))))) tNext)
    (tRet (tAndV (tCB (rIsi K) (tCons (tVar 0) (tCons (tC (.ty "int")) tNil))) (tAndV (tNotV (tCB (rIsi K) (tCons (tVar 0) (tCons (tC (.ty "bool")) tNil)))) (tOp (rEqD K) (tVar 0) (tVar 1)))))))
theorem p_law_same {P : Program} {w : World} {K : PySem.W.Frag} {mg : Str → Option Value} {base : Heap} {kk : Nat} (G : Glob mg) {S_law_same : Sp} (h_law_same : Has P w K mg base kk "_law_same" ["_law_got", "_law_due"] S_law_same) {f : Addr} {cdv : Value} {A : Around} {outer : List Env} {s : Shared} {H : Hp} {E : XK} (hr : Room (max kk 0) (A.deeper (PyProof.Rows.envOfC "_law_same" (defScope s_law_same) s.heap.objs.size f cdv))) :
    PSs (cxOf CX0 P w K mg base ["_law_got", "_law_due", "_law_mine", "_law_its"] "_law_same" (defScope s_law_same) f cdv A outer s H E).nox (defBody s_law_same) (t_law_same K S_law_same) :=
  (pss_cons (ps_if (pt_val (pe_callB call_isiT (by rfl) G.z_isinstance (by decide +kernel) (pa_cons (pv 1) (pa_cons (pe_tup (pa_cons (pe_bltn (v := .ty "list") (by rfl) G.z_list (by decide +kernel) rfl) (pa_cons (pe_bltn (v := .ty "tuple") (by rfl) G.z_tuple (by decide +kernel) rfl) pa_nil))) pa_nil)))) (pss_cons (ps_if (PW.pt (pw_or (pt_cmpR (op_neD hr.units) (pe_callB call_isi (by rfl) G.z_isinstance (by decide +kernel) (pa_cons (pv 0) (pa_cons (pe_bltn (v := .ty "list") (by rfl) G.z_list (by decide +kernel) rfl) pa_nil))) (pe_callB call_isi (by rfl) G.z_isinstance (by decide +kernel) (pa_cons (pv 1) (pa_cons (pe_bltn (v := .ty "list") (by rfl) G.z_list (by decide +kernel) rfl) pa_nil))) (nomark _)) (pw_or1 (pt_cmpR (op_neD hr.units) (pe_callB call_isi (by rfl) G.z_isinstance (by decide +kernel) (pa_cons (pv 0) (pa_cons (pe_bltn (v := .ty "tuple") (by rfl) G.z_tuple (by decide +kernel) rfl) pa_nil))) (pe_callB call_isi (by rfl) G.z_isinstance (by decide +kernel) (pa_cons (pv 1) (pa_cons (pe_bltn (v := .ty "tuple") (by rfl) G.z_tuple (by decide +kernel) rfl) pa_nil))) (nomark _))))) (pss_one (ps_ret pe_bl)) pss_nil)
    (pss_one (ps_ret (pe_and (pe_cmpR (op_eqD hr.units) (pe_callB call_len_seq (by rfl) G.z_len (by decide +kernel) (pa_cons (pv 0) pa_nil)) (pe_callB call_len_seq (by rfl) G.z_len (by decide +kernel) (pa_cons (pv 1) pa_nil)) (nomark _)) (pe_one (pe_callB (cr_all rfl) (by rfl) G.z_all (by decide +kernel) (pa_cons (pe_lc (own := [("_law_mine", 2), ("_law_its", 3)]) (g := (gTup K 2 (gCons (gName 2) (gCons (gName 3) gNil)))) (tt := tYes) rfl sc_law_same.nd (pi_zipA (by rfl) G.z_zip (pa_cons (pv 0) (pa_cons (pv 1) pa_nil))) (blkOk_by (N := ["_law_got", "_law_due", "_law_mine", "_law_its"]) (sc := defScope s_law_same) (by decide +kernel)) (fun _ _ _ _ _ => (pg_tup rfl (pgs_cons (pg_name (i := 2) sc_law_same.nd rfl (Or.inl rfl)) (pgs_cons (pg_name (i := 3) sc_law_same.nd rfl (Or.inl rfl)) pgs_nil)))) (fun _ _ _ _ _ => pts_nil) (fun _ _ _ _ _ => (pe_fn h_law_same (hr.mono (by omega)) (by rfl) (pa_cons (pv 2) (pa_cons (pv 3) pa_nil))))) pa_nil))))))) pss_nil)
    (pss_cons (ps_if (PW.pt (pw_or (pt_cmpR op_isN (pv 1) pe_non (nomark _)) (pw_or1 (pt_val (pe_callB call_isiT (by rfl) G.z_isinstance (by decide +kernel) (pa_cons (pv 1) (pa_cons (pe_tup (pa_cons (pe_bltn (v := .ty "bool") (by rfl) G.z_bool (by decide +kernel) rfl) (pa_cons (pe_bltn (v := .ty "str") (by rfl) G.z_str (by decide +kernel) rfl) pa_nil))) pa_nil))))))) (pss_one (ps_ret (pe_and (pe_cmpR (op_eqD hr.units) (pv 0) (pv 1) (nomark _)) (pe_and (pe_cmpR (op_eqD hr.units) (pe_callB call_isi (by rfl) G.z_isinstance (by decide +kernel) (pa_cons (pv 0) (pa_cons (pe_bltn (v := .ty "bool") (by rfl) G.z_bool (by decide +kernel) rfl) pa_nil))) (pe_callB call_isi (by rfl) G.z_isinstance (by decide +kernel) (pa_cons (pv 1) (pa_cons (pe_bltn (v := .ty "bool") (by rfl) G.z_bool (by decide +kernel) rfl) pa_nil))) (nomark _)) (pe_one (pe_cmpR (op_eqD hr.units) (pe_cmpR op_isN (pv 0) pe_non (nomark _)) (pe_cmpR op_isN (pv 1) pe_non (nomark _)) (nomark _))))))) pss_nil)
    (pss_one (ps_ret (pe_and (pe_callB call_isi (by rfl) G.z_isinstance (by decide +kernel) (pa_cons (pv 0) (pa_cons (pe_bltn (v := .ty "int") (by rfl) G.z_int (by decide +kernel) rfl) pa_nil))) (pe_and (pe_not (pe_callB call_isi (by rfl) G.z_isinstance (by decide +kernel) (pa_cons (pv 0) (pa_cons (pe_bltn (v := .ty "bool") (by rfl) G.z_bool (by decide +kernel) rfl) pa_nil)))) (pe_one (pe_cmpR (op_eqD hr.units) (pv 0) (pv 1) (nomark _)))))))))
abbrev s_law_led : Stmt := topS 51
theorem sc_law_led : FnScope ["_law_disk_here", "_law_z"] ["_law_disk_here", "_law_z"] (defScope s_law_led) := ⟨rfl, rfl, rfl, by decide +kernel, rfl, by decide +kernel, by decide +kernel⟩
def t_law_led (K : PySem.W.Frag) : TS :=
  (tRet (tOp xAdd (tOp (rIxT K) (tVar 0) (tOp xMod (tCB rInt1 (tCons (tVar 1) tNil)) (tCB (rLenS K) (tCons (tVar 0) tNil)))) (tOp xMul (tOp xDiv (tVar 1) (tCB (rLenS K) (tCons (tVar 0) tNil))) (tCB (rLenS K) (tCons (tVar 0) tNil)))))
theorem p_law_led {P : Program} {w : World} {K : PySem.W.Frag} {mg : Str → Option Value} {base : Heap} (G : Glob mg) {f : Addr} {cdv : Value} {A : Around} {outer : List Env} {s : Shared} {H : Hp} {E : XK} (hr : Room 0 (A.deeper (PyProof.Rows.envOfC "_law_led" (defScope s_law_led) s.heap.objs.size f cdv))) :
    PSs (cxOf CX0 P w K mg base ["_law_disk_here", "_law_z"] "_law_led" (defScope s_law_led) f cdv A outer s H E).nox (defBody s_law_led) (t_law_led K) :=
  (pss_one (ps_ret (pe_op op_add (pe_ix ix_tup (pv 0) (pe_op op_mod (pe_callTy call_int1 (by rfl) G.z_int (by decide +kernel) (pa_cons (pv 1) pa_nil)) (pe_callB call_len_seq (by rfl) G.z_len (by decide +kernel) (pa_cons (pv 0) pa_nil))) (fun _ _ => rfl)) (pe_op op_mul (pe_op op_fdiv (pv 1) (pe_callB call_len_seq (by rfl) G.z_len (by decide +kernel) (pa_cons (pv 0) pa_nil))) (pe_callB call_len_seq (by rfl) G.z_len (by decide +kernel) (pa_cons (pv 0) pa_nil))))))
end DL
set_option Elab.async false
set_option linter.all false
set_option maxRecDepth 100000
set_option maxHeartbeats 4000000
namespace DL
open PySem L2 PyProof.Rows RZ
abbrev s_law_shift : Stmt := topS 52
theorem sc_law_shift : FnScope ["_law_ring_so", "_law_m", "_law_k"] ["_law_ring_so", "_law_m"] (defScope s_law_shift) := ⟨rfl, rfl, rfl, by decide +kernel, rfl, by decide +kernel, by decide +kernel⟩
def t_law_shift (K : PySem.W.Frag) : TS :=
  (tRet (tCB (rTupOf K) (tCons (tLc (iRng1 (tCons (tVar 0) tNil)) (gName 2) tYes (tOp xAdd (tVar 2) (tVar 1)) [2]) tNil)))
theorem p_law_shift {P : Program} {w : World} {K : PySem.W.Frag} {mg : Str → Option Value} {base : Heap} (G : Glob mg) {f : Addr} {cdv : Value} {A : Around} {outer : List Env} {s : Shared} {H : Hp} {E : XK} (hr : Room 0 (A.deeper (PyProof.Rows.envOfC "_law_shift" (defScope s_law_shift) s.heap.objs.size f cdv))) :
    PSs (cxOf CX0 P w K mg base ["_law_ring_so", "_law_m", "_law_k"] "_law_shift" (defScope s_law_shift) f cdv A outer s H E).nox (defBody s_law_shift) (t_law_shift K) :=
  (pss_one (ps_ret (pe_callTy call_tuple_of (by rfl) G.z_tuple (by decide +kernel) (pa_cons (pe_lc (own := [("_law_k", 2)]) (g := (gName 2)) (tt := tYes) rfl sc_law_shift.nd (pi_range1 (by rfl) G.z_range (pa_cons (pv 0) pa_nil)) (blkOk_by (N := ["_law_ring_so", "_law_m", "_law_k"]) (sc := defScope s_law_shift) (by decide +kernel)) (fun _ _ _ _ _ => (pg_name (i := 2) sc_law_shift.nd rfl (Or.inl rfl))) (fun _ _ _ _ _ => pts_nil) (fun _ _ _ _ _ => (pe_op op_add (pv 2) (pv 1)))) pa_nil))))
abbrev s_law_put : Stmt := topS 53
theorem sc_law_put : FnScope ["_law_disks_here", "_law_found", "_law_z", "_law_own"] ["_law_disks_here"] (defScope s_law_put) := ⟨rfl, rfl, rfl, by decide +kernel, rfl, by decide +kernel, by decide +kernel⟩
def t_law_put (K : PySem.W.Frag) (S_law_led : Sp) : TS :=
  (tSeq (tAsg (tLst tNil) (gName 1))
    (tSeq (tFor (iRng1 (tCons (tCB (rLenS K) (tCons (tOp (rIxL K) (tVar 0) (tC (.int 0))) tNil)) tNil)) (gName 2) (tSeq (tFor (iList K (tRevL K (tVar 0))) (gName 3) (tAsg (tCall S_law_led [] E0 (tCons (tVar 3) (tCons (tVar 2) tNil))) (gName 2)))
    (tDrop (tBM K "list" rAppend (tVar 1) (tCons (tVar 2) tNil)))))
    (tRet (tCB (rTupOf K) (tCons (tVar 1) tNil)))))
theorem p_law_put {P : Program} {w : World} {K : PySem.W.Frag} {mg : Str → Option Value} {base : Heap} (G : Glob mg) {S_law_led : Sp} (h_law_led : Has P w K mg base 1 "_law_led" ["_law_disk_here", "_law_z"] S_law_led) {f : Addr} {cdv : Value} {A : Around} {outer : List Env} {s : Shared} {H : Hp} {E : XK} (hr : Room 1 (A.deeper (PyProof.Rows.envOfC "_law_put" (defScope s_law_put) s.heap.objs.size f cdv))) :
    PSs (cxOf CX0 P w K mg base ["_law_disks_here", "_law_found", "_law_z", "_law_own"] "_law_put" (defScope s_law_put) f cdv A outer s H E).nox (defBody s_law_put) (t_law_put K S_law_led) :=
  (pss_cons (ps_set (i := 1) sc_law_put.nd rfl (Or.inl rfl) (pe_lst pa_nil))
    (pss_cons (ps_for PassesOwn.never rfl (pi_range1 (by rfl) G.z_range (pa_cons (pe_callB call_len_seq (by rfl) G.z_len (by decide +kernel) (pa_cons (pe_ix ix_list (pv 0) pe_int (fun _ _ => rfl)) pa_nil)) pa_nil)) (pg_name (i := 2) sc_law_put.nd rfl (Or.inl rfl)) (pss_cons (ps_for PassesOwn.never rfl (pi_list (pe_revL (pv 0))) (pg_name (i := 3) sc_law_put.nd rfl (Or.inl rfl)) (pss_one (ps_set (i := 2) sc_law_put.nd rfl (Or.inl rfl) (pe_fn h_law_led (hr.mono (by decide)) (by rfl) (pa_cons (pv 3) (pa_cons (pv 2) pa_nil))))))
    (pss_one (ps_expr (pe_bm PySem.F.plainAttrs_list PySem.F.slot_list_append PySem.F.type_list_append mt_append (pv 1) (pa_cons (pv 2) pa_nil))))))
    (pss_one (ps_ret (pe_callTy call_tuple_of (by rfl) G.z_tuple (by decide +kernel) (pa_cons (pv 1) pa_nil))))))
abbrev s_law_made : Stmt := topS 54
theorem sc_law_made : FnScope ["_law_above_so", "_law_below_so", "_law_near_here", "_law_far"] ["_law_above_so", "_law_below_so"] (defScope s_law_made) := ⟨rfl, rfl, rfl, by decide +kernel, rfl, by decide +kernel, by decide +kernel⟩
def t_law_made (K : PySem.W.Frag) : TS :=
  (tSeq (tPar 2 3 (tCons (tCB rAbs (tCons (tVar 0) tNil)) (tCons (tVar 1) tNil)))
    (tSeq (tWhile (tTest (tOp xGt (tVar 3) (tC (.int 0)))) (tPar 2 3 (tCons (tVar 3) (tCons (tOp xMod (tVar 2) (tVar 3)) tNil))))
    (tRet (tTup (tCons (tOp xDiv (tVar 0) (tVar 2)) (tCons (tOp xDiv (tVar 1) (tVar 2)) tNil))))))
theorem p_law_made {P : Program} {w : World} {K : PySem.W.Frag} {mg : Str → Option Value} {base : Heap} (G : Glob mg) {f : Addr} {cdv : Value} {A : Around} {outer : List Env} {s : Shared} {H : Hp} {E : XK} (hr : Room 0 (A.deeper (PyProof.Rows.envOfC "_law_made" (defScope s_law_made) s.heap.objs.size f cdv))) :
    PSs (cxOf CX0 P w K mg base ["_law_above_so", "_law_below_so", "_law_near_here", "_law_far"] "_law_made" (defScope s_law_made) f cdv A outer s H E).nox (defBody s_law_made) (t_law_made K) :=
  (pss_cons (ps_par (i := 2) (j := 3) rfl sc_law_made.nd rfl rfl (by decide) rfl rfl (pa_cons (pe_callB call_abs (by rfl) G.z_abs (by decide +kernel) (pa_cons (pv 0) pa_nil)) (pa_cons (pv 1) pa_nil)) (by rfl))
    (pss_cons (ps_while PassesOwn.never (pt_cmpR op_gt (pv 3) pe_int (nomark _)) (pss_one (ps_par (i := 2) (j := 3) rfl sc_law_made.nd rfl rfl (by decide) rfl rfl (pa_cons (pv 3) (pa_cons (pe_op op_mod (pv 2) (pv 3)) pa_nil)) (by rfl))))
    (pss_one (ps_ret (pe_tup (pa_cons (pe_op op_fdiv (pv 0) (pv 2)) (pa_cons (pe_op op_fdiv (pv 1) (pv 2)) pa_nil)))))))
abbrev s_law_is_more : Stmt := topS 55
theorem sc_law_is_more : FnScope ["_law_one_so", "_law_two_so"] ["_law_one_so", "_law_two_so"] (defScope s_law_is_more) := ⟨rfl, rfl, rfl, by decide +kernel, rfl, by decide +kernel, by decide +kernel⟩
def t_law_is_more (K : PySem.W.Frag) : TS :=
  (tRet (tOp xGt (tOp xMul (tOp (rIxT K) (tVar 0) (tC (.int 0))) (tOp (rIxT K) (tVar 1) (tC (.int 1)))) (tOp xMul (tOp (rIxT K) (tVar 1) (tC (.int 0))) (tOp (rIxT K) (tVar 0) (tC (.int 1))))))
theorem p_law_is_more {P : Program} {w : World} {K : PySem.W.Frag} {mg : Str → Option Value} {base : Heap} (G : Glob mg) {f : Addr} {cdv : Value} {A : Around} {outer : List Env} {s : Shared} {H : Hp} {E : XK} (hr : Room 0 (A.deeper (PyProof.Rows.envOfC "_law_is_more" (defScope s_law_is_more) s.heap.objs.size f cdv))) :
    PSs (cxOf CX0 P w K mg base ["_law_one_so", "_law_two_so"] "_law_is_more" (defScope s_law_is_more) f cdv A outer s H E).nox (defBody s_law_is_more) (t_law_is_more K) :=
  (pss_one (ps_ret (pe_cmpR op_gt (pe_op op_mul (pe_ix ix_tup (pv 0) pe_int (fun _ _ => rfl)) (pe_ix ix_tup (pv 1) pe_int (fun _ _ => rfl))) (pe_op op_mul (pe_ix ix_tup (pv 1) pe_int (fun _ _ => rfl)) (pe_ix ix_tup (pv 0) pe_int (fun _ _ => rfl))) (nomark _))))
abbrev s_law_greater : Stmt := topS 56
theorem sc_law_greater : FnScope ["_law_rows_so", "_law_found", "_law_own"] ["_law_rows_so"] (defScope s_law_greater) := ⟨rfl, rfl, rfl, by decide +kernel, rfl, by decide +kernel, by decide +kernel⟩
def t_law_greater (K : PySem.W.Frag) (S_law_is_more : Sp) : TS :=
  (tSeq (tAsg (tOp (rIxL K) (tVar 0) (tC (.int 0))) (gName 1))
    (tSeq (tFor (iList K (tSl (rSlL K) (tVar 0) (tPart (tC (.int 1))) tNoPart)) (gName 2) (tAsg (tIf (tB (tCall S_law_is_more [] E0 (tCons (tVar 2) (tCons (tVar 1) tNil)))) (tVar 2) (tVar 1)) (gName 1)))
    (tRet (tVar 1))))
theorem p_law_greater {P : Program} {w : World} {K : PySem.W.Frag} {mg : Str → Option Value} {base : Heap} (G : Glob mg) {S_law_is_more : Sp} (h_law_is_more : Has P w K mg base 1 "_law_is_more" ["_law_one_so", "_law_two_so"] S_law_is_more) {f : Addr} {cdv : Value} {A : Around} {outer : List Env} {s : Shared} {H : Hp} {E : XK} (hr : Room 1 (A.deeper (PyProof.Rows.envOfC "_law_greater" (defScope s_law_greater) s.heap.objs.size f cdv))) :
    PSs (cxOf CX0 P w K mg base ["_law_rows_so", "_law_found", "_law_own"] "_law_greater" (defScope s_law_greater) f cdv A outer s H E).nox (defBody s_law_greater) (t_law_greater K S_law_is_more) :=
  (pss_cons (ps_set (i := 1) sc_law_greater.nd rfl (Or.inl rfl) (pe_ix ix_list (pv 0) pe_int (fun _ _ => rfl)))
    (pss_cons (ps_for PassesOwn.never rfl (pi_list (pe_slice sl_list (pv 0) (po_some pe_int) po_none)) (pg_name (i := 2) sc_law_greater.nd rfl (Or.inl rfl)) (pss_one (ps_set (i := 1) sc_law_greater.nd rfl (Or.inl rfl) (pe_ifExp (pt_val (pe_fn h_law_is_more (hr.mono (by decide)) (by rfl) (pa_cons (pv 2) (pa_cons (pv 1) pa_nil)))) (pv 2) (pv 1)))))
    (pss_one (ps_ret (pv 1)))))
abbrev s_law_told_on : Stmt := topS 57
theorem sc_law_told_on : FnScope ["_law_spots_so", "_law_ring_so", "_law_i"] ["_law_spots_so", "_law_ring_so", "_law_i"] (defScope s_law_told_on) := ⟨rfl, rfl, rfl, by decide +kernel, rfl, by decide +kernel, by decide +kernel⟩
def t_law_told_on (K : PySem.W.Frag) : TS :=
  (tRet (tOp xAdd (tOp (rIxT K) (tVar 0) (tOp xMod (tCB rInt1 (tCons (tVar 2) tNil)) (tCB (rLenS K) (tCons (tVar 0) tNil)))) (tOp xMul (tOp xDiv (tVar 2) (tCB (rLenS K) (tCons (tVar 0) tNil))) (tVar 1))))
theorem p_law_told_on {P : Program} {w : World} {K : PySem.W.Frag} {mg : Str → Option Value} {base : Heap} (G : Glob mg) {f : Addr} {cdv : Value} {A : Around} {outer : List Env} {s : Shared} {H : Hp} {E : XK} (hr : Room 0 (A.deeper (PyProof.Rows.envOfC "_law_told_on" (defScope s_law_told_on) s.heap.objs.size f cdv))) :
    PSs (cxOf CX0 P w K mg base ["_law_spots_so", "_law_ring_so", "_law_i"] "_law_told_on" (defScope s_law_told_on) f cdv A outer s H E).nox (defBody s_law_told_on) (t_law_told_on K) :=
  (pss_one (ps_ret (pe_op op_add (pe_ix ix_tup (pv 0) (pe_op op_mod (pe_callTy call_int1 (by rfl) G.z_int (by decide +kernel) (pa_cons (pv 2) pa_nil)) (pe_callB call_len_seq (by rfl) G.z_len (by decide +kernel) (pa_cons (pv 0) pa_nil))) (fun _ _ => rfl)) (pe_op op_mul (pe_op op_fdiv (pv 2) (pe_callB call_len_seq (by rfl) G.z_len (by decide +kernel) (pa_cons (pv 0) pa_nil))) (pv 1)))))
abbrev s_law_name_ahead : Stmt := topS 58
theorem sc_law_name_ahead : FnScope ["_law_spots_so", "_law_ring_so", "_law_z", "_law_strict_so", "_law_many_so", "_law_rest_so", "_law_under_so", "_law_own"] ["_law_spots_so", "_law_ring_so", "_law_z", "_law_strict_so"] (defScope s_law_name_ahead) := ⟨rfl, rfl, rfl, by decide +kernel, rfl, by decide +kernel, by decide +kernel⟩
def t_law_name_ahead (K : PySem.W.Frag) : TS :=
  (tSeq (tAsg (tCB (rLenS K) (tCons (tVar 0) tNil)) (gName 4))
    (tSeq (tAsg (tOp xMod (tCB rInt1 (tCons (tVar 2) tNil)) (tVar 1)) (gName 5))
    (tSeq (tAsg (tLc (iTup K (tVar 0)) (gName 7) (tOr (tTest (tOp xLt (tVar 7) (tVar 5))) (tAnd (tTest (tOp (rEqD K) (tVar 7) (tVar 5))) (tNot (tB (tVar 3))))) (tVar 7) [7]) (gName 6))
    (tRet (tOp xSub (tOp xAdd (tOp xMul (tOp xDiv (tVar 2) (tVar 1)) (tVar 4)) (tCB (rLenS K) (tCons (tVar 6) tNil))) (tC (.int 1)))))))
theorem p_law_name_ahead {P : Program} {w : World} {K : PySem.W.Frag} {mg : Str → Option Value} {base : Heap} (G : Glob mg) {f : Addr} {cdv : Value} {A : Around} {outer : List Env} {s : Shared} {H : Hp} {E : XK} (hr : Room 0 (A.deeper (PyProof.Rows.envOfC "_law_name_ahead" (defScope s_law_name_ahead) s.heap.objs.size f cdv))) :
    PSs (cxOf CX0 P w K mg base ["_law_spots_so", "_law_ring_so", "_law_z", "_law_strict_so", "_law_many_so", "_law_rest_so", "_law_under_so", "_law_own"] "_law_name_ahead" (defScope s_law_name_ahead) f cdv A outer s H E).nox (defBody s_law_name_ahead) (t_law_name_ahead K) :=
  (pss_cons (ps_set (i := 4) sc_law_name_ahead.nd rfl (Or.inl rfl) (pe_callB call_len_seq (by rfl) G.z_len (by decide +kernel) (pa_cons (pv 0) pa_nil)))
    (pss_cons (ps_set (i := 5) sc_law_name_ahead.nd rfl (Or.inr rfl) (pe_op op_mod (pe_callTy call_int1 (by rfl) G.z_int (by decide +kernel) (pa_cons (pv 2) pa_nil)) (pv 1)))
    (pss_cons (ps_setLc (i := 6) (own := [("_law_own", 7)]) (g := (gName 7)) rfl sc_law_name_ahead.nd rfl rfl (sw_true rfl rfl rfl (by decide +kernel)) (pi_tup (pv 0)) (blkOk_by (N := ["_law_spots_so", "_law_ring_so", "_law_z", "_law_strict_so", "_law_many_so", "_law_rest_so", "_law_under_so", "_law_own"]) (sc := defScope s_law_name_ahead) (by decide +kernel)) (fun _ _ _ _ _ => (pg_name (i := 7) sc_law_name_ahead.nd rfl (Or.inl rfl))) (fun _ _ _ _ _ => pts_one (PW.pt (pw_or (pt_cmpR op_lt (pv 7) (pv 5) (nomark _)) (pw_or1 (PW.pt (pw_and (pt_cmpR (op_eqD hr.units) (pv 7) (pv 5) (nomark _)) (pw_and1 (pt_not (pt_val (pv 3)))))))))) (fun _ _ _ _ _ => (pv 7)))
    (pss_one (ps_ret (pe_op op_sub (pe_op op_add (pe_op op_mul (pe_op op_fdiv (pv 2) (pv 1)) (pv 4)) (pe_callB call_len_seq (by rfl) G.z_len (by decide +kernel) (pa_cons (pv 6) pa_nil))) pe_int))))))
abbrev s_law_greatest : Stmt := topS 59
theorem sc_law_greatest : FnScope ["_law_spots_so", "_law_m", "_law_ring_so", "_law_found", "_law_z"] ["_law_spots_so", "_law_m", "_law_ring_so"] (defScope s_law_greatest) := ⟨rfl, rfl, rfl, by decide +kernel, rfl, by decide +kernel, by decide +kernel⟩
def t_law_greatest (K : PySem.W.Frag) (S_law_name_ahead S_law_told_on : Sp) : TS :=
  (tSeq (tAsg (tLst tNil) (gName 3))
    (tSeq (tFor (iRng1 (tCons (tVar 2) tNil)) (gName 4) (tDrop (tBM K "list" rAppend (tVar 3) (tCons (tCall S_law_told_on [] E0 (tCons (tVar 0) (tCons (tVar 2) (tCons (tOp xAdd (tOp xAdd (tCall S_law_name_ahead [] E0 (tCons (tVar 0) (tCons (tVar 2) (tCons (tVar 4) (tCons (tC (.bl true)) tNil))))) (tC (.int 1))) (tVar 1)) tNil)))) tNil))))
    (tRet (tCB (rTupOf K) (tCons (tVar 3) tNil)))))
theorem p_law_greatest {P : Program} {w : World} {K : PySem.W.Frag} {mg : Str → Option Value} {base : Heap} (G : Glob mg) {S_law_name_ahead : Sp} (h_law_name_ahead : Has P w K mg base 1 "_law_name_ahead" ["_law_spots_so", "_law_ring_so", "_law_z", "_law_strict_so"] S_law_name_ahead) {S_law_told_on : Sp} (h_law_told_on : Has P w K mg base 1 "_law_told_on" ["_law_spots_so", "_law_ring_so", "_law_i"] S_law_told_on) {f : Addr} {cdv : Value} {A : Around} {outer : List Env} {s : Shared} {H : Hp} {E : XK} (hr : Room 1 (A.deeper (PyProof.Rows.envOfC "_law_greatest" (defScope s_law_greatest) s.heap.objs.size f cdv))) :
    PSs (cxOf CX0 P w K mg base ["_law_spots_so", "_law_m", "_law_ring_so", "_law_found", "_law_z"] "_law_greatest" (defScope s_law_greatest) f cdv A outer s H E).nox (defBody s_law_greatest) (t_law_greatest K S_law_name_ahead S_law_told_on) :=
  (pss_cons (ps_set (i := 3) sc_law_greatest.nd rfl (Or.inl rfl) (pe_lst pa_nil))
    (pss_cons (ps_for PassesOwn.never rfl (pi_range1 (by rfl) G.z_range (pa_cons (pv 2) pa_nil)) (pg_name (i := 4) sc_law_greatest.nd rfl (Or.inl rfl)) (pss_one (ps_expr (pe_bm PySem.F.plainAttrs_list PySem.F.slot_list_append PySem.F.type_list_append mt_append (pv 3) (pa_cons (pe_fn h_law_told_on (hr.mono (by decide)) (by rfl) (pa_cons (pv 0) (pa_cons (pv 2) (pa_cons (pe_op op_add (pe_op op_add (pe_fn h_law_name_ahead (hr.mono (by decide)) (by rfl) (pa_cons (pv 0) (pa_cons (pv 2) (pa_cons (pv 4) (pa_cons pe_bl pa_nil))))) pe_int) (pv 1)) pa_nil)))) pa_nil)))))
    (pss_one (ps_ret (pe_callTy call_tuple_of (by rfl) G.z_tuple (by decide +kernel) (pa_cons (pv 3) pa_nil))))))
abbrev s_law_floor : Stmt := topS 60
theorem sc_law_floor : FnScope ["_law_frac_so", "_law_n"] ["_law_frac_so", "_law_n"] (defScope s_law_floor) := ⟨rfl, rfl, rfl, by decide +kernel, rfl, by decide +kernel, by decide +kernel⟩
def t_law_floor (K : PySem.W.Frag) : TS :=
  (tRet (tOp xDiv (tOp xMul (tOp (rIxT K) (tVar 0) (tC (.int 0))) (tVar 1)) (tOp (rIxT K) (tVar 0) (tC (.int 1)))))
theorem p_law_floor {P : Program} {w : World} {K : PySem.W.Frag} {mg : Str → Option Value} {base : Heap} (G : Glob mg) {f : Addr} {cdv : Value} {A : Around} {outer : List Env} {s : Shared} {H : Hp} {E : XK} (hr : Room 0 (A.deeper (PyProof.Rows.envOfC "_law_floor" (defScope s_law_floor) s.heap.objs.size f cdv))) :
    PSs (cxOf CX0 P w K mg base ["_law_frac_so", "_law_n"] "_law_floor" (defScope s_law_floor) f cdv A outer s H E).nox (defBody s_law_floor) (t_law_floor K) :=
  (pss_one (ps_ret (pe_op op_fdiv (pe_op op_mul (pe_ix ix_tup (pv 0) pe_int (fun _ _ => rfl)) (pv 1)) (pe_ix ix_tup (pv 0) pe_int (fun _ _ => rfl)))))
abbrev s_law_together : Stmt := topS 61
theorem sc_law_together : FnScope ["_law_marks_so", "_law_found", "_law_own"] ["_law_marks_so"] (defScope s_law_together) := ⟨rfl, rfl, rfl, by decide +kernel, rfl, by decide +kernel, by decide +kernel⟩
def t_law_together (K : PySem.W.Frag) (S_law_shared : Sp) : TS :=
  (tSeq (tAsg (tC (.int 1)) (gName 1))
    (tSeq (tFor (iTup K (tVar 0)) (gName 2) (tAsg (tOp xDiv (tOp xMul (tVar 1) (tOp (rIxT K) (tVar 2) (tC (.int 1)))) (tCall S_law_shared [] E0 (tCons (tVar 1) (tCons (tOp (rIxT K) (tVar 2) (tC (.int 1))) tNil)))) (gName 1)))
    (tRet (tVar 1))))
theorem p_law_together {P : Program} {w : World} {K : PySem.W.Frag} {mg : Str → Option Value} {base : Heap} (G : Glob mg) {S_law_shared : Sp} (h_law_shared : Has P w K mg base 1 "_law_shared" ["_law_one_so", "_law_two_so"] S_law_shared) {f : Addr} {cdv : Value} {A : Around} {outer : List Env} {s : Shared} {H : Hp} {E : XK} (hr : Room 1 (A.deeper (PyProof.Rows.envOfC "_law_together" (defScope s_law_together) s.heap.objs.size f cdv))) :
    PSs (cxOf CX0 P w K mg base ["_law_marks_so", "_law_found", "_law_own"] "_law_together" (defScope s_law_together) f cdv A outer s H E).nox (defBody s_law_together) (t_law_together K S_law_shared) :=
  (pss_cons (ps_set (i := 1) sc_law_together.nd rfl (Or.inl rfl) pe_int)
    (pss_cons (ps_for PassesOwn.never rfl (pi_tup (pv 0)) (pg_name (i := 2) sc_law_together.nd rfl (Or.inl rfl)) (pss_one (ps_set (i := 1) sc_law_together.nd rfl (Or.inl rfl) (pe_op op_fdiv (pe_op op_mul (pv 1) (pe_ix ix_tup (pv 2) pe_int (fun _ _ => rfl))) (pe_fn h_law_shared (hr.mono (by decide)) (by rfl) (pa_cons (pv 1) (pa_cons (pe_ix ix_tup (pv 2) pe_int (fun _ _ => rfl)) pa_nil)))))))
    (pss_one (ps_ret (pv 1)))))
abbrev s_law_shared : Stmt := topS 62
theorem sc_law_shared : FnScope ["_law_one_so", "_law_two_so"] ["_law_one_so", "_law_two_so"] (defScope s_law_shared) := ⟨rfl, rfl, rfl, by decide +kernel, rfl, by decide +kernel, by decide +kernel⟩
def t_law_shared (K : PySem.W.Frag) : TS :=
  (tSeq (tWhile (tTest (tOp xGt (tVar 1) (tC (.int 0)))) (tPar 0 1 (tCons (tVar 1) (tCons (tOp xMod (tVar 0) (tVar 1)) tNil))))
    (tRet (tVar 0)))
theorem p_law_shared {P : Program} {w : World} {K : PySem.W.Frag} {mg : Str → Option Value} {base : Heap} (G : Glob mg) {f : Addr} {cdv : Value} {A : Around} {outer : List Env} {s : Shared} {H : Hp} {E : XK} (hr : Room 0 (A.deeper (PyProof.Rows.envOfC "_law_shared" (defScope s_law_shared) s.heap.objs.size f cdv))) :
    PSs (cxOf CX0 P w K mg base ["_law_one_so", "_law_two_so"] "_law_shared" (defScope s_law_shared) f cdv A outer s H E).nox (defBody s_law_shared) (t_law_shared K) :=
  (pss_cons (ps_while PassesOwn.never (pt_cmpR op_gt (pv 1) pe_int (nomark _)) (pss_one (ps_par (i := 0) (j := 1) rfl sc_law_shared.nd rfl rfl (by decide) rfl rfl (pa_cons (pv 1) (pa_cons (pe_op op_mod (pv 0) (pv 1)) pa_nil)) (by rfl))))
    (pss_one (ps_ret (pv 0))))
abbrev s_law_most : Stmt := topS 63
theorem sc_law_most : FnScope ["_law_marks_so", "_law_rows_so", "_law_n", "_law_found", "_law_k", "_law_own"] ["_law_marks_so"] (defScope s_law_most) := ⟨rfl, rfl, rfl, by decide +kernel, rfl, by decide +kernel, by decide +kernel⟩
def t_law_most (K : PySem.W.Frag) (S_law_floor S_law_greater S_law_made S_law_together : Sp) : TS :=
  (tSeq (tAsg (tLst tNil) (gName 1))
    (tSeq (tFor (iRng2 (tCons (tC (.int 1)) (tCons (tOp xAdd (tCall S_law_together [] E0 (tCons (tVar 0) tNil)) (tC (.int 1))) tNil))) (gName 2) (tDrop (tBM K "list" rAppend (tVar 1) (tCons (tCall S_law_made [] E0 (tCons (tOp xSub (tOp xAdd (tCB (rSum K) (tCons (tLc (iTup K (tVar 0)) (gName 5) tYes (tCall S_law_floor [] E0 (tCons (tVar 5) (tCons (tVar 2) tNil))) [5]) tNil)) (tCB (rLenS K) (tCons (tVar 0) tNil))) (tC (.int 1))) (tCons (tVar 2) tNil))) tNil))))
    (tSeq (tAsg (tCall S_law_greater [] E0 (tCons (tVar 1) tNil)) (gName 3))
    (tRet (tTup (tCons (tVar 3) (tCons (tLc (iEnum K (tCons (tVar 1) tNil)) (gTup K 2 (gCons (gName 4) (gCons (gName 5) gNil))) (tTest (tOp (rEqD K) (tVar 5) (tVar 3))) (tOp xAdd (tVar 4) (tC (.int 1))) [4, 5]) tNil)))))))
theorem p_law_most {P : Program} {w : World} {K : PySem.W.Frag} {mg : Str → Option Value} {base : Heap} (G : Glob mg) {S_law_floor : Sp} (h_law_floor : Has P w K mg base 1 "_law_floor" ["_law_frac_so", "_law_n"] S_law_floor) {S_law_greater : Sp} (h_law_greater : Has P w K mg base 2 "_law_greater" ["_law_rows_so"] S_law_greater) {S_law_made : Sp} (h_law_made : Has P w K mg base 1 "_law_made" ["_law_above_so", "_law_below_so"] S_law_made) {S_law_together : Sp} (h_law_together : Has P w K mg base 2 "_law_together" ["_law_marks_so"] S_law_together) {f : Addr} {cdv : Value} {A : Around} {outer : List Env} {s : Shared} {H : Hp} {E : XK} (hr : Room 2 (A.deeper (PyProof.Rows.envOfC "_law_most" (defScope s_law_most) s.heap.objs.size f cdv))) :
    PSs (cxOf CX0 P w K mg base ["_law_marks_so", "_law_rows_so", "_law_n", "_law_found", "_law_k", "_law_own"] "_law_most" (defScope s_law_most) f cdv A outer s H E).nox (defBody s_law_most) (t_law_most K S_law_floor S_law_greater S_law_made S_law_together) :=
  (pss_cons (ps_set (i := 1) sc_law_most.nd rfl (Or.inl rfl) (pe_lst pa_nil))
    (pss_cons (ps_for PassesOwn.never rfl (pi_range2 (by rfl) G.z_range (pa_cons pe_int (pa_cons (pe_op op_add (pe_fn h_law_together (hr.mono (by decide)) (by rfl) (pa_cons (pv 0) pa_nil)) pe_int) pa_nil))) (pg_name (i := 2) sc_law_most.nd rfl (Or.inr rfl)) (pss_one (ps_expr (pe_bm PySem.F.plainAttrs_list PySem.F.slot_list_append PySem.F.type_list_append mt_append (pv 1) (pa_cons (pe_fn h_law_made (hr.mono (by decide)) (by rfl) (pa_cons (pe_op op_sub (pe_op op_add (pe_callB (cr_sum rfl) (by rfl) G.z_sum (by decide +kernel) (pa_cons (pe_lc (own := [("_law_own", 5)]) (g := (gName 5)) (tt := tYes) rfl sc_law_most.nd (pi_tup (pv 0)) (blkOk_by (N := ["_law_marks_so", "_law_rows_so", "_law_n", "_law_found", "_law_k", "_law_own"]) (sc := defScope s_law_most) (by decide +kernel)) (fun _ _ _ _ _ => (pg_name (i := 5) sc_law_most.nd rfl (Or.inl rfl))) (fun _ _ _ _ _ => pts_nil) (fun _ _ _ _ _ => (pe_fn h_law_floor (hr.mono (by decide)) (by rfl) (pa_cons (pv 5) (pa_cons (pv 2) pa_nil))))) pa_nil)) (pe_callB call_len_seq (by rfl) G.z_len (by decide +kernel) (pa_cons (pv 0) pa_nil))) pe_int) (pa_cons (pv 2) pa_nil))) pa_nil)))))
    (pss_cons (ps_set (i := 3) sc_law_most.nd rfl (Or.inr rfl) (pe_fn h_law_greater (hr.mono (by decide)) (by rfl) (pa_cons (pv 1) pa_nil)))
    (pss_one (ps_ret (pe_tup (pa_cons (pv 3) (pa_cons (pe_lc (own := [("_law_k", 4), ("_law_own", 5)]) (g := (gTup K 2 (gCons (gName 4) (gCons (gName 5) gNil)))) rfl sc_law_most.nd (pi_enum (by rfl) G.z_enumerate (pa_cons (pv 1) pa_nil)) (blkOk_by (N := ["_law_marks_so", "_law_rows_so", "_law_n", "_law_found", "_law_k", "_law_own"]) (sc := defScope s_law_most) (by decide +kernel)) (fun _ _ _ _ _ => (pg_tup rfl (pgs_cons (pg_name (i := 4) sc_law_most.nd rfl (Or.inl rfl)) (pgs_cons (pg_name (i := 5) sc_law_most.nd rfl (Or.inl rfl)) pgs_nil)))) (fun _ _ _ _ _ => pts_one (pt_cmpR (op_eqD hr.units) (pv 5) (pv 3) (nomark _))) (fun _ _ _ _ _ => (pe_op op_add (pv 4) pe_int))) pa_nil))))))))
abbrev s_law_disk : Stmt := topS 64
theorem sc_law_disk : FnScope ["_law_tin", "_law_ring_so", "_law_start_so", "_law_kind_so", "_law_disk_here", "_law_k", "_law_j", "_law_wide_so", "_law_own", "_law_lap"] ["_law_tin", "_law_ring_so"] (defScope s_law_disk) := ⟨rfl, rfl, rfl, by decide +kernel, rfl, by decide +kernel, by decide +kernel⟩
def t_law_disk (K : PySem.W.Frag) (S_law_shift S_law_take : Sp) : TS :=
  (tSeq (tAsg (tTup (tCons (tOp xSub (tCall S_law_take [] E0 (tCons (tVar 0) (tCons (tOp xMul (tC (.int 3)) (tVar 1)) tNil))) (tVar 1)) (tCons (tCall S_law_take [] E0 (tCons (tVar 0) (tCons (tC (.int 5)) tNil))) tNil))) (gTup K 2 (gCons (gName 2) (gCons (gName 3) gNil))))
    (tSeq (tIfS (tTest (tOp (rEqD K) (tVar 3) (tC (.int 0)))) (tRet (tCall S_law_shift [] E0 (tCons (tVar 1) (tCons (tVar 2) tNil)))) tNext)
    (tSeq (tIfS (tTest (tOp (rEqD K) (tVar 3) (tC (.int 1)))) (tSeq (tAsg (tCB (rLstOf K) (tCons (tCall S_law_shift [] E0 (tCons (tVar 1) (tCons (tVar 2) tNil))) tNil)) (gName 4))
    (tSeq (tAsg (tCall S_law_take [] E0 (tCons (tVar 0) (tCons (tVar 1) tNil))) (gName 5))
    (tSeq (tAsg (tOp xAdd (tOp (rIxL K) (tVar 4) (tVar 5)) (tC (.int 1))) (gSub (tVar 4) (tVar 5) rSetL))
    (tSeq (tFor (iRng2 (tCons (tOp xAdd (tVar 5) (tC (.int 1))) (tCons (tVar 1) tNil))) (gName 6) (tAsg (tCB rMax2 (tCons (tOp (rIxL K) (tVar 4) (tVar 6)) (tCons (tOp (rIxL K) (tVar 4) (tOp xSub (tVar 6) (tC (.int 1)))) tNil))) (gSub (tVar 4) (tVar 6) rSetL)))
    (tRet (tCB (rTupOf K) (tCons (tLc (iList K (tVar 4)) (gName 8) tYes (tCB rMin2 (tCons (tVar 8) (tCons (tOp xAdd (tOp (rIxL K) (tVar 4) (tC (.int 0))) (tVar 1)) tNil))) [8]) tNil))))))) tNext)
    (tSeq (tAsg (tIf (tTest (tOp xGt (tVar 3) (tC (.int 2)))) (tOp xAdd (tVar 1) (tC (.int 1))) (tOp xAdd (tC (.int 1)) (tCall S_law_take [] E0 (tCons (tVar 0) (tCons (tVar 1) tNil))))) (gName 7))
    (tRet (tCB (rTupOf K) (tCons (tCB (rSortedI K) (tCons (tLc (iRng1 (tCons (tVar 1) tNil)) (gName 9) tYes (tOp xAdd (tVar 2) (tCall S_law_take [] E0 (tCons (tVar 0) (tCons (tVar 7) tNil)))) [9]) tNil)) tNil)))))))
theorem p_law_disk {P : Program} {w : World} {K : PySem.W.Frag} {mg : Str → Option Value} {base : Heap} (G : Glob mg) {S_law_shift : Sp} (h_law_shift : Has P w K mg base 1 "_law_shift" ["_law_ring_so", "_law_m"] S_law_shift) {S_law_take : Sp} (h_law_take : Has P w K mg base 1 "_law_take" ["_law_tin", "_law_below_so"] S_law_take) {f : Addr} {cdv : Value} {A : Around} {outer : List Env} {s : Shared} {H : Hp} {E : XK} (hr : Room 1 (A.deeper (PyProof.Rows.envOfC "_law_disk" (defScope s_law_disk) s.heap.objs.size f cdv))) :
    PSs (cxOf CX0 P w K mg base ["_law_tin", "_law_ring_so", "_law_start_so", "_law_kind_so", "_law_disk_here", "_law_k", "_law_j", "_law_wide_so", "_law_own", "_law_lap"] "_law_disk" (defScope s_law_disk) f cdv A outer s H E).nox (defBody s_law_disk) (t_law_disk K S_law_shift S_law_take) :=
  (pss_cons (ps_asg (pe_tup (pa_cons (pe_op op_sub (pe_fn h_law_take (hr.mono (by decide)) (by rfl) (pa_cons (pv 0) (pa_cons (pe_op op_mul pe_int (pv 1)) pa_nil))) (pv 1)) (pa_cons (pe_fn h_law_take (hr.mono (by decide)) (by rfl) (pa_cons (pv 0) (pa_cons pe_int pa_nil))) pa_nil))) (pg_tup rfl (pgs_cons (pg_name (i := 2) sc_law_disk.nd rfl (Or.inr rfl)) (pgs_cons (pg_name (i := 3) sc_law_disk.nd rfl (Or.inl rfl)) pgs_nil))))
    (pss_cons (ps_if (pt_cmpR (op_eqD hr.units) (pv 3) pe_int (nomark _)) (pss_one (ps_ret (pe_fn h_law_shift (hr.mono (by decide)) (by rfl) (pa_cons (pv 1) (pa_cons (pv 2) pa_nil))))) pss_nil)
    (pss_cons (ps_if (pt_cmpR (op_eqD hr.units) (pv 3) pe_int (nomark _)) (pss_cons (ps_set (i := 4) sc_law_disk.nd rfl (Or.inr rfl) (pe_callTy call_list_of (by rfl) G.z_list (by decide +kernel) (pa_cons (pe_fn h_law_shift (hr.mono (by decide)) (by rfl) (pa_cons (pv 1) (pa_cons (pv 2) pa_nil))) pa_nil)))
    (pss_cons (ps_set (i := 5) sc_law_disk.nd rfl (Or.inl rfl) (pe_fn h_law_take (hr.mono (by decide)) (by rfl) (pa_cons (pv 0) (pa_cons (pv 1) pa_nil))))
    (pss_cons (ps_asg (pe_op op_add (pe_ix ix_list (pv 4) (pv 5) (fun _ _ => rfl)) pe_int) (pg_sub (pv 4) (pv 5) set_list))
    (pss_cons (ps_for PassesOwn.never rfl (pi_range2 (by rfl) G.z_range (pa_cons (pe_op op_add (pv 5) pe_int) (pa_cons (pv 1) pa_nil))) (pg_name (i := 6) sc_law_disk.nd rfl (Or.inl rfl)) (pss_one (ps_asg (pe_callB (call_max2 rfl) (by rfl) G.z_max (by decide +kernel) (pa_cons (pe_ix ix_list (pv 4) (pv 6) (fun _ _ => rfl)) (pa_cons (pe_ix ix_list (pv 4) (pe_op op_sub (pv 6) pe_int) (fun _ _ => rfl)) pa_nil))) (pg_sub (pv 4) (pv 6) set_list))))
    (pss_one (ps_ret (pe_callTy call_tuple_of (by rfl) G.z_tuple (by decide +kernel) (pa_cons (pe_lc (own := [("_law_own", 8)]) (g := (gName 8)) (tt := tYes) rfl sc_law_disk.nd (pi_list (pv 4)) (blkOk_by (N := ["_law_tin", "_law_ring_so", "_law_start_so", "_law_kind_so", "_law_disk_here", "_law_k", "_law_j", "_law_wide_so", "_law_own", "_law_lap"]) (sc := defScope s_law_disk) (by decide +kernel)) (fun _ _ _ _ _ => (pg_name (i := 8) sc_law_disk.nd rfl (Or.inl rfl))) (fun _ _ _ _ _ => pts_nil) (fun _ _ _ _ _ => (pe_callB (call_min2 rfl) (by rfl) G.z_min (by decide +kernel) (pa_cons (pv 8) (pa_cons (pe_op op_add (pe_ix ix_list (pv 4) pe_int (fun _ _ => rfl)) (pv 1)) pa_nil))))) pa_nil)))))))) pss_nil)
    (pss_cons (ps_set (i := 7) sc_law_disk.nd rfl (Or.inr rfl) (pe_ifExp (pt_cmpR op_gt (pv 3) pe_int (nomark _)) (pe_op op_add (pv 1) pe_int) (pe_op op_add pe_int (pe_fn h_law_take (hr.mono (by decide)) (by rfl) (pa_cons (pv 0) (pa_cons (pv 1) pa_nil))))))
    (pss_one (ps_ret (pe_callTy call_tuple_of (by rfl) G.z_tuple (by decide +kernel) (pa_cons (pe_callB cr_sortedI (by rfl) G.z_sorted (by decide +kernel) (pa_cons (pe_lc (own := [("_law_lap", 9)]) (g := (gName 9)) (tt := tYes) rfl sc_law_disk.nd (pi_range1 (by rfl) G.z_range (pa_cons (pv 1) pa_nil)) (blkOk_by (N := ["_law_tin", "_law_ring_so", "_law_start_so", "_law_kind_so", "_law_disk_here", "_law_k", "_law_j", "_law_wide_so", "_law_own", "_law_lap"]) (sc := defScope s_law_disk) (by decide +kernel)) (fun _ _ _ _ _ => (pg_name (i := 9) sc_law_disk.nd rfl (Or.inl rfl))) (fun _ _ _ _ _ => pts_nil) (fun _ _ _ _ _ => (pe_op op_add (pv 2) (pe_fn h_law_take (hr.mono (by decide)) (by rfl) (pa_cons (pv 0) (pa_cons (pv 7) pa_nil)))))) pa_nil)) pa_nil))))))))
end DL
set_option Elab.async false
set_option linter.all false
set_option maxRecDepth 100000
set_option maxHeartbeats 4000000
namespace DL
open PySem L2 PyProof.Rows RZ
abbrev s_law_disks : Stmt := topS 65
theorem sc_law_disks : FnScope ["_law_tin", "_law_ring_so", "_law_many_so", "_law_lap"] ["_law_tin", "_law_ring_so", "_law_many_so"] (defScope s_law_disks) := ⟨rfl, rfl, rfl, by decide +kernel, rfl, by decide +kernel, by decide +kernel⟩
def t_law_disks (K : PySem.W.Frag) (S_law_disk : Sp) : TS :=
  (tRet (tCB (rTupOf K) (tCons (tLc (iRng1 (tCons (tVar 2) tNil)) (gName 3) tYes (tCall S_law_disk [] E0 (tCons (tVar 0) (tCons (tVar 1) tNil))) [3]) tNil)))
theorem p_law_disks {P : Program} {w : World} {K : PySem.W.Frag} {mg : Str → Option Value} {base : Heap} (G : Glob mg) {S_law_disk : Sp} (h_law_disk : Has P w K mg base 2 "_law_disk" ["_law_tin", "_law_ring_so"] S_law_disk) {f : Addr} {cdv : Value} {A : Around} {outer : List Env} {s : Shared} {H : Hp} {E : XK} (hr : Room 2 (A.deeper (PyProof.Rows.envOfC "_law_disks" (defScope s_law_disks) s.heap.objs.size f cdv))) :
    PSs (cxOf CX0 P w K mg base ["_law_tin", "_law_ring_so", "_law_many_so", "_law_lap"] "_law_disks" (defScope s_law_disks) f cdv A outer s H E).nox (defBody s_law_disks) (t_law_disks K S_law_disk) :=
  (pss_one (ps_ret (pe_callTy call_tuple_of (by rfl) G.z_tuple (by decide +kernel) (pa_cons (pe_lc (own := [("_law_lap", 3)]) (g := (gName 3)) (tt := tYes) rfl sc_law_disks.nd (pi_range1 (by rfl) G.z_range (pa_cons (pv 2) pa_nil)) (blkOk_by (N := ["_law_tin", "_law_ring_so", "_law_many_so", "_law_lap"]) (sc := defScope s_law_disks) (by decide +kernel)) (fun _ _ _ _ _ => (pg_name (i := 3) sc_law_disks.nd rfl (Or.inl rfl))) (fun _ _ _ _ _ => pts_nil) (fun _ _ _ _ _ => (pe_fn h_law_disk (hr.mono (by decide)) (by rfl) (pa_cons (pv 0) (pa_cons (pv 1) pa_nil))))) pa_nil))))
abbrev s_law_frac : Stmt := topS 66
theorem sc_law_frac : FnScope ["_law_tin", "_law_most_so", "_law_below_so"] ["_law_tin", "_law_most_so"] (defScope s_law_frac) := ⟨rfl, rfl, rfl, by decide +kernel, rfl, by decide +kernel, by decide +kernel⟩
def t_law_frac (K : PySem.W.Frag) (S_law_made S_law_take : Sp) : TS :=
  (tSeq (tAsg (tOp xAdd (tC (.int 1)) (tCall S_law_take [] E0 (tCons (tVar 0) (tCons (tVar 1) tNil)))) (gName 2))
    (tRet (tCall S_law_made [] E0 (tCons (tOp xSub (tCall S_law_take [] E0 (tCons (tVar 0) (tCons (tOp xAdd (tOp xMul (tC (.int 3)) (tVar 2)) (tC (.int 1))) tNil))) (tVar 2)) (tCons (tVar 2) tNil)))))
theorem p_law_frac {P : Program} {w : World} {K : PySem.W.Frag} {mg : Str → Option Value} {base : Heap} (G : Glob mg) {S_law_made : Sp} (h_law_made : Has P w K mg base 1 "_law_made" ["_law_above_so", "_law_below_so"] S_law_made) {S_law_take : Sp} (h_law_take : Has P w K mg base 1 "_law_take" ["_law_tin", "_law_below_so"] S_law_take) {f : Addr} {cdv : Value} {A : Around} {outer : List Env} {s : Shared} {H : Hp} {E : XK} (hr : Room 1 (A.deeper (PyProof.Rows.envOfC "_law_frac" (defScope s_law_frac) s.heap.objs.size f cdv))) :
    PSs (cxOf CX0 P w K mg base ["_law_tin", "_law_most_so", "_law_below_so"] "_law_frac" (defScope s_law_frac) f cdv A outer s H E).nox (defBody s_law_frac) (t_law_frac K S_law_made S_law_take) :=
  (pss_cons (ps_set (i := 2) sc_law_frac.nd rfl (Or.inl rfl) (pe_op op_add pe_int (pe_fn h_law_take (hr.mono (by decide)) (by rfl) (pa_cons (pv 0) (pa_cons (pv 1) pa_nil)))))
    (pss_one (ps_ret (pe_fn h_law_made (hr.mono (by decide)) (by rfl) (pa_cons (pe_op op_sub (pe_fn h_law_take (hr.mono (by decide)) (by rfl) (pa_cons (pv 0) (pa_cons (pe_op op_add (pe_op op_mul pe_int (pv 2)) pe_int) pa_nil))) (pv 2)) (pa_cons (pv 2) pa_nil))))))
abbrev s_law_marks : Stmt := topS 67
theorem sc_law_marks : FnScope ["_law_tin", "_law_many_so", "_law_most_so", "_law_lap"] ["_law_tin", "_law_many_so", "_law_most_so"] (defScope s_law_marks) := ⟨rfl, rfl, rfl, by decide +kernel, rfl, by decide +kernel, by decide +kernel⟩
def t_law_marks (K : PySem.W.Frag) (S_law_frac : Sp) : TS :=
  (tRet (tCB (rTupOf K) (tCons (tLc (iRng1 (tCons (tVar 1) tNil)) (gName 3) tYes (tCall S_law_frac [] E0 (tCons (tVar 0) (tCons (tVar 2) tNil))) [3]) tNil)))
theorem p_law_marks {P : Program} {w : World} {K : PySem.W.Frag} {mg : Str → Option Value} {base : Heap} (G : Glob mg) {S_law_frac : Sp} (h_law_frac : Has P w K mg base 2 "_law_frac" ["_law_tin", "_law_most_so"] S_law_frac) {f : Addr} {cdv : Value} {A : Around} {outer : List Env} {s : Shared} {H : Hp} {E : XK} (hr : Room 2 (A.deeper (PyProof.Rows.envOfC "_law_marks" (defScope s_law_marks) s.heap.objs.size f cdv))) :
    PSs (cxOf CX0 P w K mg base ["_law_tin", "_law_many_so", "_law_most_so", "_law_lap"] "_law_marks" (defScope s_law_marks) f cdv A outer s H E).nox (defBody s_law_marks) (t_law_marks K S_law_frac) :=
  (pss_one (ps_ret (pe_callTy call_tuple_of (by rfl) G.z_tuple (by decide +kernel) (pa_cons (pe_lc (own := [("_law_lap", 3)]) (g := (gName 3)) (tt := tYes) rfl sc_law_marks.nd (pi_range1 (by rfl) G.z_range (pa_cons (pv 1) pa_nil)) (blkOk_by (N := ["_law_tin", "_law_many_so", "_law_most_so", "_law_lap"]) (sc := defScope s_law_marks) (by decide +kernel)) (fun _ _ _ _ _ => (pg_name (i := 3) sc_law_marks.nd rfl (Or.inl rfl))) (fun _ _ _ _ _ => pts_nil) (fun _ _ _ _ _ => (pe_fn h_law_frac (hr.mono (by decide)) (by rfl) (pa_cons (pv 0) (pa_cons (pv 2) pa_nil))))) pa_nil))))
abbrev s_law_is_disk : Stmt := topS 68
theorem sc_law_is_disk : FnScope ["_law_matter", "_law_own"] ["_law_matter"] (defScope s_law_is_disk) := ⟨rfl, rfl, rfl, by decide +kernel, rfl, by decide +kernel, by decide +kernel⟩
def t_law_is_disk (K : PySem.W.Frag) : TS :=
  (tSeq (tIfS (tOr (tNot (tB (tCB (rIsi K) (tCons (tVar 0) (tCons (tC (.ty "tuple")) tNil))))) (tTest (tOp (rEqD K) (tVar 0) (tTup tNil)))) (tRet (tC (.bl false))) tNext)
    (tSeq (tIfS (tTest (tOp (rNeD K) (tLc (iTup K (tVar 0)) (gName 1) (tOr (tNot (tB (tCB (rIsi K) (tCons (tVar 1) (tCons (tC (.ty "int")) tNil))))) (tB (tCB (rIsi K) (tCons (tVar 1) (tCons (tC (.ty "bool")) tNil))))) (tC (.int 1)) [1]) (tLst tNil))) (tRet (tC (.bl false))) tNext)
    (tRet (tAndV (tOp (rEqD K) (tCB (rLstOf K) (tCons (tVar 0) tNil)) (tCB (rSortedT K) (tCons (tVar 0) tNil))) (tOp xLe (tOp (rIxT K) (tVar 0) (tUn xNeg (tC (.int 1)))) (tOp xAdd (tOp (rIxT K) (tVar 0) (tC (.int 0))) (tCB (rLenS K) (tCons (tVar 0) tNil))))))))
theorem p_law_is_disk {P : Program} {w : World} {K : PySem.W.Frag} {mg : Str → Option Value} {base : Heap} (G : Glob mg) {f : Addr} {cdv : Value} {A : Around} {outer : List Env} {s : Shared} {H : Hp} {E : XK} (hr : Room 0 (A.deeper (PyProof.Rows.envOfC "_law_is_disk" (defScope s_law_is_disk) s.heap.objs.size f cdv))) :
    PSs (cxOf CX0 P w K mg base ["_law_matter", "_law_own"] "_law_is_disk" (defScope s_law_is_disk) f cdv A outer s H E).nox (defBody s_law_is_disk) (t_law_is_disk K) :=
  (pss_cons (ps_if (PW.pt (pw_or (pt_not (pt_val (pe_callB call_isi (by rfl) G.z_isinstance (by decide +kernel) (pa_cons (pv 0) (pa_cons (pe_bltn (v := .ty "tuple") (by rfl) G.z_tuple (by decide +kernel) rfl) pa_nil))))) (pw_or1 (pt_cmpR (op_eqD hr.units) (pv 0) (pe_tup pa_nil) (nomark _))))) (pss_one (ps_ret pe_bl)) pss_nil)
    (pss_cons (ps_if (pt_cmpR (op_neD hr.units) (pe_lc (own := [("_law_own", 1)]) (g := (gName 1)) rfl sc_law_is_disk.nd (pi_tup (pv 0)) (blkOk_by (N := ["_law_matter", "_law_own"]) (sc := defScope s_law_is_disk) (by decide +kernel)) (fun _ _ _ _ _ => (pg_name (i := 1) sc_law_is_disk.nd rfl (Or.inl rfl))) (fun _ _ _ _ _ => pts_one (PW.pt (pw_or (pt_not (pt_val (pe_callB call_isi (by rfl) G.z_isinstance (by decide +kernel) (pa_cons (pv 1) (pa_cons (pe_bltn (v := .ty "int") (by rfl) G.z_int (by decide +kernel) rfl) pa_nil))))) (pw_or1 (pt_val (pe_callB call_isi (by rfl) G.z_isinstance (by decide +kernel) (pa_cons (pv 1) (pa_cons (pe_bltn (v := .ty "bool") (by rfl) G.z_bool (by decide +kernel) rfl) pa_nil)))))))) (fun _ _ _ _ _ => pe_int)) (pe_lst pa_nil) (nomark _)) (pss_one (ps_ret pe_bl)) pss_nil)
    (pss_one (ps_ret (pe_and (pe_cmpR (op_eqD hr.units) (pe_callTy call_list_of (by rfl) G.z_list (by decide +kernel) (pa_cons (pv 0) pa_nil)) (pe_callB cr_sortedT (by rfl) G.z_sorted (by decide +kernel) (pa_cons (pv 0) pa_nil)) (nomark _)) (pe_one (pe_cmpR op_le (pe_ix ix_tup (pv 0) (pe_un un_neg pe_int) (fun _ _ => rfl)) (pe_op op_add (pe_ix ix_tup (pv 0) pe_int (fun _ _ => rfl)) (pe_callB call_len_seq (by rfl) G.z_len (by decide +kernel) (pa_cons (pv 0) pa_nil))) (nomark _))))))))
abbrev s_law_raised : Stmt := topS 69
theorem sc_law_raised : FnScope ["_law_disk_here", "_law_frac_so", "_law_ring_so", "_law_above_so", "_law_below_so", "_law_k", "_law_rows_so", "_law_lap", "_law_near_so", "_law_i", "_law_line_so", "_law_spots_so", "_law_own", "_law_ahead_so", "_law_last_so", "_law_fine_so", "_law_round_so", "_law_shift_so", "_law_far_so", "_law_n", "_law_j"] ["_law_disk_here", "_law_frac_so"] (defScope s_law_raised) := ⟨rfl, rfl, rfl, by decide +kernel, rfl, by decide +kernel, by decide +kernel⟩
def t_law_raised (K : PySem.W.Frag) (S_law_greatest S_law_led S_law_name_ahead S_law_told_from : Sp) : TS :=
  (tSeq (tAsg (tTup (tCons (tCB (rLenS K) (tCons (tVar 0) tNil)) (tCons (tOp (rIxT K) (tVar 1) (tC (.int 0))) (tCons (tOp (rIxT K) (tVar 1) (tC (.int 1))) tNil)))) (gTup K 3 (gCons (gName 2) (gCons (gName 3) (gCons (gName 4) gNil)))))
    (tSeq (tFor (iRng1 (tCons (tVar 2) tNil)) (gName 5) (tSeq (tAsg (tLst (tCons (tVar 5) tNil)) (gName 6))
    (tSeq (tFor (iRng1 (tCons (tVar 4) tNil)) (gName 7) (tDrop (tBM K "list" rAppend (tVar 6) (tCons (tCall S_law_led [] E0 (tCons (tVar 0) (tCons (tOp (rIxL K) (tVar 6) (tUn xNeg (tC (.int 1)))) tNil))) tNil))))
    (tIfS (tTest (tOp xLe (tOp (rIxL K) (tVar 6) (tUn xNeg (tC (.int 1)))) (tOp xAdd (tVar 5) (tOp xMul (tVar 3) (tVar 2))))) tBreak tNext))))
    (tSeq (tAsg (tLst tNil) (gName 8))
    (tSeq (tFor (iRng1 (tCons (tVar 4) tNil)) (gName 9) (tSeq (tAsg (tLc (iRng1 (tCons (tVar 4) tNil)) (gName 19) tYes (tOp xAdd (tOp (rIxL K) (tVar 6) (tVar 19)) (tOp xMul (tOp xDiv (tOp xSub (tVar 9) (tOp xMul (tVar 19) (tVar 3))) (tVar 4)) (tVar 2))) [19]) (gName 10))
    (tDrop (tBM K "list" rAppend (tVar 8) (tCons (tCB (rMax K) (tCons (tVar 10) tNil)) tNil)))))
    (tSeq (tAsg (tLst tNil) (gName 11))
    (tSeq (tFor (iEnum K (tCons (tVar 8) tNil)) (gTup K 2 (gCons (gName 9) (gCons (gName 12) gNil))) (tSeq (tAsg (tLc (iRng1 (tCons (tVar 9) tNil)) (gName 20) (tTest (tOp (rEqD K) (tOp (rIxL K) (tVar 8) (tVar 20)) (tVar 12))) (tVar 20) [20]) (gName 13))
    (tSeq (tAsg (tLc (iRng1 (tCons (tVar 4) tNil)) (gName 20) (tTest (tOp (rEqD K) (tOp xSub (tOp (rIxL K) (tVar 8) (tVar 20)) (tVar 2)) (tVar 12))) (tVar 20) [20]) (gName 14))
    (tDrop (tBM K "list" rAppend (tVar 11) (tCons (tOp xAdd (tOp xAdd (tOp xMul (tVar 12) (tVar 4)) (tCB (rLenS K) (tCons (tVar 13) tNil))) (tCB (rLenS K) (tCons (tVar 14) tNil))) tNil))))))
    (tSeq (tAsg (tOp xMul (tVar 2) (tVar 4)) (gName 15))
    (tSeq (tAsg (tCB (rSortedI K) (tCons (tLc (iList K (tVar 11)) (gName 12) tYes (tOp xMod (tCB rInt1 (tCons (tVar 12) tNil)) (tVar 15)) [12]) tNil)) (gName 16))
    (tSeq (tAsg (tCall S_law_name_ahead [] E0 (tCons (tCB (rTupOf K) (tCons (tVar 16) tNil)) (tCons (tVar 15) (tCons (tOp (rIxL K) (tVar 11) (tC (.int 0))) (tCons (tC (.bl false)) tNil))))) (gName 17))
    (tSeq (tAsg (tCall S_law_told_from [] E0 (tCons (tVar 11) (tCons (tVar 15) (tCons (tVar 3) tNil)))) (gName 18))
    (tRet (tCall S_law_greatest [] E0 (tCons (tCB (rTupOf K) (tCons (tVar 16) tNil)) (tCons (tOp xSub (tCall S_law_name_ahead [] E0 (tCons (tCB (rTupOf K) (tCons (tVar 16) tNil)) (tCons (tVar 15) (tCons (tVar 18) (tCons (tC (.bl false)) tNil))))) (tVar 17)) (tCons (tVar 15) tNil)))))))))))))))
theorem p_law_raised {P : Program} {w : World} {K : PySem.W.Frag} {mg : Str → Option Value} {base : Heap} (G : Glob mg) {S_law_greatest : Sp} (h_law_greatest : Has P w K mg base 2 "_law_greatest" ["_law_spots_so", "_law_m", "_law_ring_so"] S_law_greatest) {S_law_led : Sp} (h_law_led : Has P w K mg base 1 "_law_led" ["_law_disk_here", "_law_z"] S_law_led) {S_law_name_ahead : Sp} (h_law_name_ahead : Has P w K mg base 1 "_law_name_ahead" ["_law_spots_so", "_law_ring_so", "_law_z", "_law_strict_so"] S_law_name_ahead) {S_law_told_from : Sp} (h_law_told_from : Has P w K mg base 1 "_law_told_from" ["_law_spots_so", "_law_ring_so", "_law_i"] S_law_told_from) {f : Addr} {cdv : Value} {A : Around} {outer : List Env} {s : Shared} {H : Hp} {E : XK} (hr : Room 2 (A.deeper (PyProof.Rows.envOfC "_law_raised" (defScope s_law_raised) s.heap.objs.size f cdv))) :
    PSs (cxOf CX0 P w K mg base ["_law_disk_here", "_law_frac_so", "_law_ring_so", "_law_above_so", "_law_below_so", "_law_k", "_law_rows_so", "_law_lap", "_law_near_so", "_law_i", "_law_line_so", "_law_spots_so", "_law_own", "_law_ahead_so", "_law_last_so", "_law_fine_so", "_law_round_so", "_law_shift_so", "_law_far_so", "_law_n", "_law_j"] "_law_raised" (defScope s_law_raised) f cdv A outer s H E).nox (defBody s_law_raised) (t_law_raised K S_law_greatest S_law_led S_law_name_ahead S_law_told_from) :=
  (pss_cons (ps_asg (pe_tup (pa_cons (pe_callB call_len_seq (by rfl) G.z_len (by decide +kernel) (pa_cons (pv 0) pa_nil)) (pa_cons (pe_ix ix_tup (pv 1) pe_int (fun _ _ => rfl)) (pa_cons (pe_ix ix_tup (pv 1) pe_int (fun _ _ => rfl)) pa_nil)))) (pg_tup rfl (pgs_cons (pg_name (i := 2) sc_law_raised.nd rfl (Or.inr rfl)) (pgs_cons (pg_name (i := 3) sc_law_raised.nd rfl (Or.inr rfl)) (pgs_cons (pg_name (i := 4) sc_law_raised.nd rfl (Or.inr rfl)) pgs_nil)))))
    (pss_cons (ps_for PassesOwn.never rfl (pi_range1 (by rfl) G.z_range (pa_cons (pv 2) pa_nil)) (pg_name (i := 5) sc_law_raised.nd rfl (Or.inl rfl)) (pss_cons (ps_set (i := 6) sc_law_raised.nd rfl (Or.inr rfl) (pe_lst (pa_cons (pv 5) pa_nil)))
    (pss_cons (ps_for PassesOwn.never rfl (pi_range1 (by rfl) G.z_range (pa_cons (pv 4) pa_nil)) (pg_name (i := 7) sc_law_raised.nd rfl (Or.inl rfl)) (pss_one (ps_expr (pe_bm PySem.F.plainAttrs_list PySem.F.slot_list_append PySem.F.type_list_append mt_append (pv 6) (pa_cons (pe_fn h_law_led (hr.mono (by decide)) (by rfl) (pa_cons (pv 0) (pa_cons (pe_ix ix_list (pv 6) (pe_un un_neg pe_int) (fun _ _ => rfl)) pa_nil))) pa_nil)))))
    (pss_one (ps_if (pt_cmpR op_le (pe_ix ix_list (pv 6) (pe_un un_neg pe_int) (fun _ _ => rfl)) (pe_op op_add (pv 5) (pe_op op_mul (pv 3) (pv 2))) (nomark _)) (pss_one ps_break) pss_nil)))))
    (pss_cons (ps_set (i := 8) sc_law_raised.nd rfl (Or.inr rfl) (pe_lst pa_nil))
    (pss_cons (ps_for PassesOwn.never rfl (pi_range1 (by rfl) G.z_range (pa_cons (pv 4) pa_nil)) (pg_name (i := 9) sc_law_raised.nd rfl (Or.inr rfl)) (pss_cons (ps_setLc (i := 10) (own := [("_law_n", 19)]) (g := (gName 19)) (tt := tYes) rfl sc_law_raised.nd rfl rfl (sw_true rfl rfl rfl (by decide +kernel)) (pi_range1 (by rfl) G.z_range (pa_cons (pv 4) pa_nil)) (blkOk_by (N := ["_law_disk_here", "_law_frac_so", "_law_ring_so", "_law_above_so", "_law_below_so", "_law_k", "_law_rows_so", "_law_lap", "_law_near_so", "_law_i", "_law_line_so", "_law_spots_so", "_law_own", "_law_ahead_so", "_law_last_so", "_law_fine_so", "_law_round_so", "_law_shift_so", "_law_far_so", "_law_n", "_law_j"]) (sc := defScope s_law_raised) (by decide +kernel)) (fun _ _ _ _ _ => (pg_name (i := 19) sc_law_raised.nd rfl (Or.inl rfl))) (fun _ _ _ _ _ => pts_nil) (fun _ _ _ _ _ => (pe_op op_add (pe_ix ix_list (pv 6) (pv 19) (fun _ _ => rfl)) (pe_op op_mul (pe_op op_fdiv (pe_op op_sub (pv 9) (pe_op op_mul (pv 19) (pv 3))) (pv 4)) (pv 2)))))
    (pss_one (ps_expr (pe_bm PySem.F.plainAttrs_list PySem.F.slot_list_append PySem.F.type_list_append mt_append (pv 8) (pa_cons (pe_callB (cr_max rfl) (by rfl) G.z_max (by decide +kernel) (pa_cons (pv 10) pa_nil)) pa_nil))))))
    (pss_cons (ps_set (i := 11) sc_law_raised.nd rfl (Or.inl rfl) (pe_lst pa_nil))
    (pss_cons (ps_for PassesOwn.never rfl (pi_enum (by rfl) G.z_enumerate (pa_cons (pv 8) pa_nil)) (pg_tup rfl (pgs_cons (pg_name (i := 9) sc_law_raised.nd rfl (Or.inr rfl)) (pgs_cons (pg_name (i := 12) sc_law_raised.nd rfl (Or.inr rfl)) pgs_nil))) (pss_cons (ps_setLc (i := 13) (own := [("_law_j", 20)]) (g := (gName 20)) rfl sc_law_raised.nd rfl rfl (sw_true rfl rfl rfl (by decide +kernel)) (pi_range1 (by rfl) G.z_range (pa_cons (pv 9) pa_nil)) (blkOk_by (N := ["_law_disk_here", "_law_frac_so", "_law_ring_so", "_law_above_so", "_law_below_so", "_law_k", "_law_rows_so", "_law_lap", "_law_near_so", "_law_i", "_law_line_so", "_law_spots_so", "_law_own", "_law_ahead_so", "_law_last_so", "_law_fine_so", "_law_round_so", "_law_shift_so", "_law_far_so", "_law_n", "_law_j"]) (sc := defScope s_law_raised) (by decide +kernel)) (fun _ _ _ _ _ => (pg_name (i := 20) sc_law_raised.nd rfl (Or.inl rfl))) (fun _ _ _ _ _ => pts_one (pt_cmpR (op_eqD hr.units) (pe_ix ix_list (pv 8) (pv 20) (fun _ _ => rfl)) (pv 12) (nomark _))) (fun _ _ _ _ _ => (pv 20)))
    (pss_cons (ps_setLc (i := 14) (own := [("_law_j", 20)]) (g := (gName 20)) rfl sc_law_raised.nd rfl rfl (sw_true rfl rfl rfl (by decide +kernel)) (pi_range1 (by rfl) G.z_range (pa_cons (pv 4) pa_nil)) (blkOk_by (N := ["_law_disk_here", "_law_frac_so", "_law_ring_so", "_law_above_so", "_law_below_so", "_law_k", "_law_rows_so", "_law_lap", "_law_near_so", "_law_i", "_law_line_so", "_law_spots_so", "_law_own", "_law_ahead_so", "_law_last_so", "_law_fine_so", "_law_round_so", "_law_shift_so", "_law_far_so", "_law_n", "_law_j"]) (sc := defScope s_law_raised) (by decide +kernel)) (fun _ _ _ _ _ => (pg_name (i := 20) sc_law_raised.nd rfl (Or.inl rfl))) (fun _ _ _ _ _ => pts_one (pt_cmpR (op_eqD hr.units) (pe_op op_sub (pe_ix ix_list (pv 8) (pv 20) (fun _ _ => rfl)) (pv 2)) (pv 12) (nomark _))) (fun _ _ _ _ _ => (pv 20)))
    (pss_one (ps_expr (pe_bm PySem.F.plainAttrs_list PySem.F.slot_list_append PySem.F.type_list_append mt_append (pv 11) (pa_cons (pe_op op_add (pe_op op_add (pe_op op_mul (pv 12) (pv 4)) (pe_callB call_len_seq (by rfl) G.z_len (by decide +kernel) (pa_cons (pv 13) pa_nil))) (pe_callB call_len_seq (by rfl) G.z_len (by decide +kernel) (pa_cons (pv 14) pa_nil))) pa_nil)))))))
    (pss_cons (ps_set (i := 15) sc_law_raised.nd rfl (Or.inr rfl) (pe_op op_mul (pv 2) (pv 4)))
    (pss_cons (ps_set (i := 16) sc_law_raised.nd rfl (Or.inl rfl) (pe_callB cr_sortedI (by rfl) G.z_sorted (by decide +kernel) (pa_cons (pe_lc (own := [("_law_own", 12)]) (g := (gName 12)) (tt := tYes) rfl sc_law_raised.nd (pi_list (pv 11)) (blkOk_by (N := ["_law_disk_here", "_law_frac_so", "_law_ring_so", "_law_above_so", "_law_below_so", "_law_k", "_law_rows_so", "_law_lap", "_law_near_so", "_law_i", "_law_line_so", "_law_spots_so", "_law_own", "_law_ahead_so", "_law_last_so", "_law_fine_so", "_law_round_so", "_law_shift_so", "_law_far_so", "_law_n", "_law_j"]) (sc := defScope s_law_raised) (by decide +kernel)) (fun _ _ _ _ _ => (pg_name (i := 12) sc_law_raised.nd rfl (Or.inl rfl))) (fun _ _ _ _ _ => pts_nil) (fun _ _ _ _ _ => (pe_op op_mod (pe_callTy call_int1 (by rfl) G.z_int (by decide +kernel) (pa_cons (pv 12) pa_nil)) (pv 15)))) pa_nil)))
    (pss_cons (ps_set (i := 17) sc_law_raised.nd rfl (Or.inl rfl) (pe_fn h_law_name_ahead (hr.mono (by decide)) (by rfl) (pa_cons (pe_callTy call_tuple_of (by rfl) G.z_tuple (by decide +kernel) (pa_cons (pv 16) pa_nil)) (pa_cons (pv 15) (pa_cons (pe_ix ix_list (pv 11) pe_int (fun _ _ => rfl)) (pa_cons pe_bl pa_nil))))))
    (pss_cons (ps_set (i := 18) sc_law_raised.nd rfl (Or.inl rfl) (pe_fn h_law_told_from (hr.mono (by decide)) (by rfl) (pa_cons (pv 11) (pa_cons (pv 15) (pa_cons (pv 3) pa_nil)))))
    (pss_one (ps_ret (pe_fn h_law_greatest (hr.mono (by decide)) (by rfl) (pa_cons (pe_callTy call_tuple_of (by rfl) G.z_tuple (by decide +kernel) (pa_cons (pv 16) pa_nil)) (pa_cons (pe_op op_sub (pe_fn h_law_name_ahead (hr.mono (by decide)) (by rfl) (pa_cons (pe_callTy call_tuple_of (by rfl) G.z_tuple (by decide +kernel) (pa_cons (pv 16) pa_nil)) (pa_cons (pv 15) (pa_cons (pv 18) (pa_cons pe_bl pa_nil))))) (pv 17)) (pa_cons (pv 15) pa_nil))))))))))))))))
abbrev s_law_told_from : Stmt := topS 70
theorem sc_law_told_from : FnScope ["_law_spots_so", "_law_ring_so", "_law_i"] ["_law_spots_so", "_law_ring_so", "_law_i"] (defScope s_law_told_from) := ⟨rfl, rfl, rfl, by decide +kernel, rfl, by decide +kernel, by decide +kernel⟩
def t_law_told_from (K : PySem.W.Frag) : TS :=
  (tRet (tOp xAdd (tOp (rIxL K) (tVar 0) (tOp xMod (tCB rInt1 (tCons (tVar 2) tNil)) (tCB (rLenS K) (tCons (tVar 0) tNil)))) (tOp xMul (tOp xDiv (tVar 2) (tCB (rLenS K) (tCons (tVar 0) tNil))) (tVar 1))))
theorem p_law_told_from {P : Program} {w : World} {K : PySem.W.Frag} {mg : Str → Option Value} {base : Heap} (G : Glob mg) {f : Addr} {cdv : Value} {A : Around} {outer : List Env} {s : Shared} {H : Hp} {E : XK} (hr : Room 0 (A.deeper (PyProof.Rows.envOfC "_law_told_from" (defScope s_law_told_from) s.heap.objs.size f cdv))) :
    PSs (cxOf CX0 P w K mg base ["_law_spots_so", "_law_ring_so", "_law_i"] "_law_told_from" (defScope s_law_told_from) f cdv A outer s H E).nox (defBody s_law_told_from) (t_law_told_from K) :=
  (pss_one (ps_ret (pe_op op_add (pe_ix ix_list (pv 0) (pe_op op_mod (pe_callTy call_int1 (by rfl) G.z_int (by decide +kernel) (pa_cons (pv 2) pa_nil)) (pe_callB call_len_seq (by rfl) G.z_len (by decide +kernel) (pa_cons (pv 0) pa_nil))) (fun _ _ => rfl)) (pe_op op_mul (pe_op op_fdiv (pv 2) (pe_callB call_len_seq (by rfl) G.z_len (by decide +kernel) (pa_cons (pv 0) pa_nil))) (pv 1)))))
abbrev s_law_finer : Stmt := topS 71
theorem sc_law_finer : FnScope ["_law_disk_here", "_law_many_so", "_law_found", "_law_own"] ["_law_disk_here", "_law_many_so"] (defScope s_law_finer) := ⟨rfl, rfl, rfl, by decide +kernel, rfl, by decide +kernel, by decide +kernel⟩
def t_law_finer (K : PySem.W.Frag) : TS :=
  (tSeq (tAsg (tLst tNil) (gName 2))
    (tSeq (tFor (iTup K (tVar 0)) (gName 3) (tAsg (tOp rCat (tVar 2) (tOp rRep (tLst (tCons (tOp xMul (tVar 3) (tVar 1)) tNil)) (tVar 1))) (gName 2)))
    (tRet (tCB (rTupOf K) (tCons (tVar 2) tNil)))))
theorem p_law_finer {P : Program} {w : World} {K : PySem.W.Frag} {mg : Str → Option Value} {base : Heap} (G : Glob mg) {f : Addr} {cdv : Value} {A : Around} {outer : List Env} {s : Shared} {H : Hp} {E : XK} (hr : Room 0 (A.deeper (PyProof.Rows.envOfC "_law_finer" (defScope s_law_finer) s.heap.objs.size f cdv))) :
    PSs (cxOf CX0 P w K mg base ["_law_disk_here", "_law_many_so", "_law_found", "_law_own"] "_law_finer" (defScope s_law_finer) f cdv A outer s H E).nox (defBody s_law_finer) (t_law_finer K) :=
  (pss_cons (ps_set (i := 2) sc_law_finer.nd rfl (Or.inl rfl) (pe_lst pa_nil))
    (pss_cons (ps_for PassesOwn.never rfl (pi_tup (pv 0)) (pg_name (i := 3) sc_law_finer.nd rfl (Or.inl rfl)) (pss_one (ps_set (i := 2) sc_law_finer.nd rfl (Or.inl rfl) (pe_op op_cat (pv 2) (pe_op op_rep (pe_lst (pa_cons (pe_op op_mul (pv 3) (pv 1)) pa_nil)) (pv 1))))))
    (pss_one (ps_ret (pe_callTy call_tuple_of (by rfl) G.z_tuple (by decide +kernel) (pa_cons (pv 2) pa_nil))))))
abbrev s_law_soon_turning : Stmt := topS 72
theorem sc_law_soon_turning : FnScope ["_law_disk_here", "_law_z", "_law_ring_so", "_law_lap", "_law_first_so"] ["_law_disk_here"] (defScope s_law_soon_turning) := ⟨rfl, rfl, rfl, by decide +kernel, rfl, by decide +kernel, by decide +kernel⟩
def t_law_soon_turning (K : PySem.W.Frag) (S_law_led S_law_made : Sp) : TS :=
  (tSeq (tPar 1 2 (tCons (tC (.int 0)) (tCons (tCB (rLenS K) (tCons (tVar 0) tNil)) tNil)))
    (tSeq (tFor (iRng1 (tCons (tVar 2) tNil)) (gName 3) (tAsg (tCall S_law_led [] E0 (tCons (tVar 0) (tCons (tVar 1) tNil))) (gName 1)))
    (tSeq (tAsg (tVar 1) (gName 4))
    (tSeq (tFor (iRng1 (tCons (tVar 2) tNil)) (gName 3) (tSeq (tAsg (tCall S_law_led [] E0 (tCons (tVar 0) (tCons (tVar 1) tNil))) (gName 1))
    (tIfS (tTest (tOp (rEqD K) (tOp xMod (tCB rInt1 (tCons (tOp xSub (tVar 1) (tVar 4)) tNil)) (tVar 2)) (tC (.int 0)))) (tRet (tCall S_law_made [] E0 (tCons (tOp xDiv (tOp xSub (tVar 1) (tVar 4)) (tVar 2)) (tCons (tOp xAdd (tVar 3) (tC (.int 1))) tNil)))) tNext)))
    (tRet (tC .non))))))
theorem p_law_soon_turning {P : Program} {w : World} {K : PySem.W.Frag} {mg : Str → Option Value} {base : Heap} (G : Glob mg) {S_law_led : Sp} (h_law_led : Has P w K mg base 1 "_law_led" ["_law_disk_here", "_law_z"] S_law_led) {S_law_made : Sp} (h_law_made : Has P w K mg base 1 "_law_made" ["_law_above_so", "_law_below_so"] S_law_made) {f : Addr} {cdv : Value} {A : Around} {outer : List Env} {s : Shared} {H : Hp} {E : XK} (hr : Room 1 (A.deeper (PyProof.Rows.envOfC "_law_soon_turning" (defScope s_law_soon_turning) s.heap.objs.size f cdv))) :
    PSs (cxOf CX0 P w K mg base ["_law_disk_here", "_law_z", "_law_ring_so", "_law_lap", "_law_first_so"] "_law_soon_turning" (defScope s_law_soon_turning) f cdv A outer s H E).nox (defBody s_law_soon_turning) (t_law_soon_turning K S_law_led S_law_made) :=
  (pss_cons (ps_par (i := 1) (j := 2) rfl sc_law_soon_turning.nd rfl rfl (by decide) rfl rfl (pa_cons pe_int (pa_cons (pe_callB call_len_seq (by rfl) G.z_len (by decide +kernel) (pa_cons (pv 0) pa_nil)) pa_nil)) (by rfl))
    (pss_cons (ps_for PassesOwn.never rfl (pi_range1 (by rfl) G.z_range (pa_cons (pv 2) pa_nil)) (pg_name (i := 3) sc_law_soon_turning.nd rfl (Or.inl rfl)) (pss_one (ps_set (i := 1) sc_law_soon_turning.nd rfl (Or.inl rfl) (pe_fn h_law_led (hr.mono (by decide)) (by rfl) (pa_cons (pv 0) (pa_cons (pv 1) pa_nil))))))
    (pss_cons (ps_set (i := 4) sc_law_soon_turning.nd rfl (Or.inl rfl) (pv 1))
    (pss_cons (ps_for PassesOwn.never rfl (pi_range1 (by rfl) G.z_range (pa_cons (pv 2) pa_nil)) (pg_name (i := 3) sc_law_soon_turning.nd rfl (Or.inl rfl)) (pss_cons (ps_set (i := 1) sc_law_soon_turning.nd rfl (Or.inl rfl) (pe_fn h_law_led (hr.mono (by decide)) (by rfl) (pa_cons (pv 0) (pa_cons (pv 1) pa_nil))))
    (pss_one (ps_if (pt_cmpR (op_eqD hr.units) (pe_op op_mod (pe_callTy call_int1 (by rfl) G.z_int (by decide +kernel) (pa_cons (pe_op op_sub (pv 1) (pv 4)) pa_nil)) (pv 2)) pe_int (nomark _)) (pss_one (ps_ret (pe_fn h_law_made (hr.mono (by decide)) (by rfl) (pa_cons (pe_op op_fdiv (pe_op op_sub (pv 1) (pv 4)) (pv 2)) (pa_cons (pe_op op_add (pv 3) pe_int) pa_nil))))) pss_nil))))
    (pss_one (ps_ret pe_non))))))
abbrev s_law_mirror : Stmt := topS 73
theorem sc_law_mirror : FnScope ["_law_disk_here", "_law_z"] ["_law_disk_here"] (defScope s_law_mirror) := ⟨rfl, rfl, rfl, by decide +kernel, rfl, by decide +kernel, by decide +kernel⟩
def t_law_mirror (K : PySem.W.Frag) (S_law_led : Sp) : TS :=
  (tRet (tCB (rTupOf K) (tCons (tLc (iRng1 (tCons (tCB (rLenS K) (tCons (tVar 0) tNil)) tNil)) (gName 1) tYes (tOp xSub (tC (.int 0)) (tCall S_law_led [] E0 (tCons (tVar 0) (tCons (tOp xSub (tC (.int 0)) (tVar 1)) tNil)))) [1]) tNil)))
theorem p_law_mirror {P : Program} {w : World} {K : PySem.W.Frag} {mg : Str → Option Value} {base : Heap} (G : Glob mg) {S_law_led : Sp} (h_law_led : Has P w K mg base 1 "_law_led" ["_law_disk_here", "_law_z"] S_law_led) {f : Addr} {cdv : Value} {A : Around} {outer : List Env} {s : Shared} {H : Hp} {E : XK} (hr : Room 1 (A.deeper (PyProof.Rows.envOfC "_law_mirror" (defScope s_law_mirror) s.heap.objs.size f cdv))) :
    PSs (cxOf CX0 P w K mg base ["_law_disk_here", "_law_z"] "_law_mirror" (defScope s_law_mirror) f cdv A outer s H E).nox (defBody s_law_mirror) (t_law_mirror K S_law_led) :=
  (pss_one (ps_ret (pe_callTy call_tuple_of (by rfl) G.z_tuple (by decide +kernel) (pa_cons (pe_lc (own := [("_law_z", 1)]) (g := (gName 1)) (tt := tYes) rfl sc_law_mirror.nd (pi_range1 (by rfl) G.z_range (pa_cons (pe_callB call_len_seq (by rfl) G.z_len (by decide +kernel) (pa_cons (pv 0) pa_nil)) pa_nil)) (blkOk_by (N := ["_law_disk_here", "_law_z"]) (sc := defScope s_law_mirror) (by decide +kernel)) (fun _ _ _ _ _ => (pg_name (i := 1) sc_law_mirror.nd rfl (Or.inl rfl))) (fun _ _ _ _ _ => pts_nil) (fun _ _ _ _ _ => (pe_op op_sub pe_int (pe_fn h_law_led (hr.mono (by decide)) (by rfl) (pa_cons (pv 0) (pa_cons (pe_op op_sub pe_int (pv 1)) pa_nil)))))) pa_nil))))
end DL
set_option Elab.async false
set_option linter.all false
set_option maxRecDepth 100000
set_option maxHeartbeats 4000000
namespace DL
open PySem L2 PyProof.Rows RZ
abbrev s_law_less : Stmt := topS 74
theorem sc_law_less : FnScope ["_law_frac_so"] ["_law_frac_so"] (defScope s_law_less) := ⟨rfl, rfl, rfl, by decide +kernel, rfl, by decide +kernel, by decide +kernel⟩
def t_law_less (K : PySem.W.Frag) : TS :=
  (tRet (tTup (tCons (tOp xSub (tC (.int 0)) (tOp (rIxT K) (tVar 0) (tC (.int 0)))) (tCons (tOp (rIxT K) (tVar 0) (tC (.int 1))) tNil))))
theorem p_law_less {P : Program} {w : World} {K : PySem.W.Frag} {mg : Str → Option Value} {base : Heap} (G : Glob mg) {f : Addr} {cdv : Value} {A : Around} {outer : List Env} {s : Shared} {H : Hp} {E : XK} (hr : Room 0 (A.deeper (PyProof.Rows.envOfC "_law_less" (defScope s_law_less) s.heap.objs.size f cdv))) :
    PSs (cxOf CX0 P w K mg base ["_law_frac_so"] "_law_less" (defScope s_law_less) f cdv A outer s H E).nox (defBody s_law_less) (t_law_less K) :=
  (pss_one (ps_ret (pe_tup (pa_cons (pe_op op_sub pe_int (pe_ix ix_tup (pv 0) pe_int (fun _ _ => rfl))) (pa_cons (pe_ix ix_tup (pv 0) pe_int (fun _ _ => rfl)) pa_nil)))))
abbrev s_law_is_moved : Stmt := topS 75
theorem sc_law_is_moved : FnScope ["_law_disk_here", "_law_frac_so", "_law_matter", "_law_way_so", "_law_many_so", "_law_rows_so", "_law_z", "_law_own"] ["_law_disk_here", "_law_frac_so", "_law_matter", "_law_way_so"] (defScope s_law_is_moved) := ⟨rfl, rfl, rfl, by decide +kernel, rfl, by decide +kernel, by decide +kernel⟩
def t_law_is_moved (K : PySem.W.Frag) (S_law_is_disk S_law_led S_law_soon_turning : Sp) : TS :=
  (tSeq (tIfS (tOr (tNot (tB (tCB (rIsi K) (tCons (tVar 2) (tCons (tC (.ty "tuple")) tNil))))) (tOr (tTest (tOp (rNeD K) (tCB (rLenS K) (tCons (tVar 2) tNil)) (tC (.int 2)))) (tNot (tB (tCall S_law_is_disk [] E0 (tCons (tOp (rIxT K) (tVar 2) (tC (.int 0))) tNil)))))) (tRet (tC (.bl false))) tNext)
    (tSeq (tAsg (tOp (rIxT K) (tVar 2) (tC (.int 1))) (gName 4))
    (tSeq (tIfS (tOr (tNot (tB (tCB (rIsi K) (tCons (tVar 4) (tCons (tC (.ty "int")) tNil))))) (tOr (tB (tCB (rIsi K) (tCons (tVar 4) (tCons (tC (.ty "bool")) tNil)))) (tTest (tOp xLt (tVar 4) (tC (.int 1)))))) (tRet (tC (.bl false))) tNext)
    (tSeq (tIfS (tOr (tTest (tOp (rNeD K) (tCB (rLenS K) (tCons (tOp (rIxT K) (tVar 2) (tC (.int 0))) tNil)) (tOp xMul (tVar 4) (tCB (rLenS K) (tCons (tVar 0) tNil))))) (tTest (tOp (rNeD K) (tCall S_law_soon_turning [] E0 (tCons (tOp (rIxT K) (tVar 2) (tC (.int 0))) tNil)) (tVar 1)))) (tRet (tC (.bl false))) tNext)
    (tSeq (tAsg (tLc (iEnumT K (tCons (tVar 0) tNil)) (gTup K 2 (gCons (gName 6) (gCons (gName 7) gNil))) tYes (tOp xMul (tVar 3) (tOp xSub (tCall S_law_led [] E0 (tCons (tOp (rIxT K) (tVar 2) (tC (.int 0))) (tCons (tOp xMul (tVar 4) (tVar 6)) tNil))) (tOp xMul (tVar 4) (tVar 7)))) [6, 7]) (gName 5))
    (tRet (tOp xGe (tCB (rMin K) (tCons (tVar 5) tNil)) (tC (.int 0)))))))))
theorem p_law_is_moved {P : Program} {w : World} {K : PySem.W.Frag} {mg : Str → Option Value} {base : Heap} (G : Glob mg) {S_law_is_disk : Sp} (h_law_is_disk : Has P w K mg base 1 "_law_is_disk" ["_law_matter"] S_law_is_disk) {S_law_led : Sp} (h_law_led : Has P w K mg base 1 "_law_led" ["_law_disk_here", "_law_z"] S_law_led) {S_law_soon_turning : Sp} (h_law_soon_turning : Has P w K mg base 2 "_law_soon_turning" ["_law_disk_here"] S_law_soon_turning) {f : Addr} {cdv : Value} {A : Around} {outer : List Env} {s : Shared} {H : Hp} {E : XK} (hr : Room 2 (A.deeper (PyProof.Rows.envOfC "_law_is_moved" (defScope s_law_is_moved) s.heap.objs.size f cdv))) :
    PSs (cxOf CX0 P w K mg base ["_law_disk_here", "_law_frac_so", "_law_matter", "_law_way_so", "_law_many_so", "_law_rows_so", "_law_z", "_law_own"] "_law_is_moved" (defScope s_law_is_moved) f cdv A outer s H E).nox (defBody s_law_is_moved) (t_law_is_moved K S_law_is_disk S_law_led S_law_soon_turning) :=
  (pss_cons (ps_if (PW.pt (pw_or (pt_not (pt_val (pe_callB call_isi (by rfl) G.z_isinstance (by decide +kernel) (pa_cons (pv 2) (pa_cons (pe_bltn (v := .ty "tuple") (by rfl) G.z_tuple (by decide +kernel) rfl) pa_nil))))) (pw_or (pt_cmpR (op_neD hr.units) (pe_callB call_len_seq (by rfl) G.z_len (by decide +kernel) (pa_cons (pv 2) pa_nil)) pe_int (nomark _)) (pw_or1 (pt_not (pt_val (pe_fn h_law_is_disk (hr.mono (by decide)) (by rfl) (pa_cons (pe_ix ix_tup (pv 2) pe_int (fun _ _ => rfl)) pa_nil)))))))) (pss_one (ps_ret pe_bl)) pss_nil)
    (pss_cons (ps_set (i := 4) sc_law_is_moved.nd rfl (Or.inr rfl) (pe_ix ix_tup (pv 2) pe_int (fun _ _ => rfl)))
    (pss_cons (ps_if (PW.pt (pw_or (pt_not (pt_val (pe_callB call_isi (by rfl) G.z_isinstance (by decide +kernel) (pa_cons (pv 4) (pa_cons (pe_bltn (v := .ty "int") (by rfl) G.z_int (by decide +kernel) rfl) pa_nil))))) (pw_or (pt_val (pe_callB call_isi (by rfl) G.z_isinstance (by decide +kernel) (pa_cons (pv 4) (pa_cons (pe_bltn (v := .ty "bool") (by rfl) G.z_bool (by decide +kernel) rfl) pa_nil)))) (pw_or1 (pt_cmpR op_lt (pv 4) pe_int (nomark _)))))) (pss_one (ps_ret pe_bl)) pss_nil)
    (pss_cons (ps_if (PW.pt (pw_or (pt_cmpR (op_neD hr.units) (pe_callB call_len_seq (by rfl) G.z_len (by decide +kernel) (pa_cons (pe_ix ix_tup (pv 2) pe_int (fun _ _ => rfl)) pa_nil)) (pe_op op_mul (pv 4) (pe_callB call_len_seq (by rfl) G.z_len (by decide +kernel) (pa_cons (pv 0) pa_nil))) (nomark _)) (pw_or1 (pt_cmpR (op_neD hr.units) (pe_fn h_law_soon_turning (hr.mono (by decide)) (by rfl) (pa_cons (pe_ix ix_tup (pv 2) pe_int (fun _ _ => rfl)) pa_nil)) (pv 1) (nomark _))))) (pss_one (ps_ret pe_bl)) pss_nil)
    (pss_cons (ps_setLc (i := 5) (own := [("_law_z", 6), ("_law_own", 7)]) (g := (gTup K 2 (gCons (gName 6) (gCons (gName 7) gNil)))) (tt := tYes) rfl sc_law_is_moved.nd rfl rfl (sw_true rfl rfl rfl (by decide +kernel)) (pi_enumT (by rfl) G.z_enumerate (pa_cons (pv 0) pa_nil)) (blkOk_by (N := ["_law_disk_here", "_law_frac_so", "_law_matter", "_law_way_so", "_law_many_so", "_law_rows_so", "_law_z", "_law_own"]) (sc := defScope s_law_is_moved) (by decide +kernel)) (fun _ _ _ _ _ => (pg_tup rfl (pgs_cons (pg_name (i := 6) sc_law_is_moved.nd rfl (Or.inl rfl)) (pgs_cons (pg_name (i := 7) sc_law_is_moved.nd rfl (Or.inl rfl)) pgs_nil)))) (fun _ _ _ _ _ => pts_nil) (fun _ _ _ _ _ => (pe_op op_mul (pv 3) (pe_op op_sub (pe_fn h_law_led (hr.mono (by decide)) (by rfl) (pa_cons (pe_ix ix_tup (pv 2) pe_int (fun _ _ => rfl)) (pa_cons (pe_op op_mul (pv 4) (pv 6)) pa_nil))) (pe_op op_mul (pv 4) (pv 7))))))
    (pss_one (ps_ret (pe_cmpR op_ge (pe_callB (cr_min rfl) (by rfl) G.z_min (by decide +kernel) (pa_cons (pv 5) pa_nil)) pe_int (nomark _)))))))))
abbrev s_law_goal : Stmt := topS 76
theorem sc_law_goal : FnScope ["_law_marks_so", "_law_way_so", "_law_own"] ["_law_marks_so", "_law_way_so"] (defScope s_law_goal) := ⟨rfl, rfl, rfl, by decide +kernel, rfl, by decide +kernel, by decide +kernel⟩
def t_law_goal (K : PySem.W.Frag) (S_law_less S_law_most : Sp) : TS :=
  (tSeq (tIfS (tTest (tOp xGt (tVar 1) (tC (.int 0)))) (tRet (tOp (rIxT K) (tCall S_law_most [] E0 (tCons (tVar 0) tNil)) (tC (.int 0)))) tNext)
    (tRet (tCall S_law_less [] E0 (tCons (tOp (rIxT K) (tCall S_law_most [] E0 (tCons (tCB (rTupOf K) (tCons (tLc (iTup K (tVar 0)) (gName 2) tYes (tCall S_law_less [] E0 (tCons (tVar 2) tNil)) [2]) tNil)) tNil)) (tC (.int 0))) tNil))))
theorem p_law_goal {P : Program} {w : World} {K : PySem.W.Frag} {mg : Str → Option Value} {base : Heap} (G : Glob mg) {S_law_less : Sp} (h_law_less : Has P w K mg base 1 "_law_less" ["_law_frac_so"] S_law_less) {S_law_most : Sp} (h_law_most : Has P w K mg base 3 "_law_most" ["_law_marks_so"] S_law_most) {f : Addr} {cdv : Value} {A : Around} {outer : List Env} {s : Shared} {H : Hp} {E : XK} (hr : Room 3 (A.deeper (PyProof.Rows.envOfC "_law_goal" (defScope s_law_goal) s.heap.objs.size f cdv))) :
    PSs (cxOf CX0 P w K mg base ["_law_marks_so", "_law_way_so", "_law_own"] "_law_goal" (defScope s_law_goal) f cdv A outer s H E).nox (defBody s_law_goal) (t_law_goal K S_law_less S_law_most) :=
  (pss_cons (ps_if (pt_cmpR op_gt (pv 1) pe_int (nomark _)) (pss_one (ps_ret (pe_ix ix_tup (pe_fn h_law_most (hr.mono (by decide)) (by rfl) (pa_cons (pv 0) pa_nil)) pe_int (fun _ _ => rfl)))) pss_nil)
    (pss_one (ps_ret (pe_fn h_law_less (hr.mono (by decide)) (by rfl) (pa_cons (pe_ix ix_tup (pe_fn h_law_most (hr.mono (by decide)) (by rfl) (pa_cons (pe_callTy call_tuple_of (by rfl) G.z_tuple (by decide +kernel) (pa_cons (pe_lc (own := [("_law_own", 2)]) (g := (gName 2)) (tt := tYes) rfl sc_law_goal.nd (pi_tup (pv 0)) (blkOk_by (N := ["_law_marks_so", "_law_way_so", "_law_own"]) (sc := defScope s_law_goal) (by decide +kernel)) (fun _ _ _ _ _ => (pg_name (i := 2) sc_law_goal.nd rfl (Or.inl rfl))) (fun _ _ _ _ _ => pts_nil) (fun _ _ _ _ _ => (pe_fn h_law_less (hr.mono (by decide)) (by rfl) (pa_cons (pv 2) pa_nil)))) pa_nil)) pa_nil)) pe_int (fun _ _ => rfl)) pa_nil)))))
abbrev s_law_reaches : Stmt := topS 77
theorem sc_law_reaches : FnScope ["_law_marks_so", "_law_matter", "_law_way_so", "_law_own"] ["_law_marks_so", "_law_matter", "_law_way_so"] (defScope s_law_reaches) := ⟨rfl, rfl, rfl, by decide +kernel, rfl, by decide +kernel, by decide +kernel⟩
def t_law_reaches (K : PySem.W.Frag) (S_law_goal S_law_is_disk S_law_put S_law_soon_turning : Sp) : TS :=
  (tSeq (tIfS (tOr (tNot (tB (tCB (rIsi K) (tCons (tVar 1) (tCons (tC (.ty "tuple")) tNil))))) (tTest (tOp (rNeD K) (tCB (rLenS K) (tCons (tVar 1) tNil)) (tCB (rLenS K) (tCons (tVar 0) tNil))))) (tRet (tC (.bl false))) tNext)
    (tSeq (tIfS (tTest (tOp (rNeD K) (tLc (iTup K (tVar 1)) (gName 3) (tOr (tNot (tB (tCall S_law_is_disk [] E0 (tCons (tVar 3) tNil)))) (tTest (tOp (rNeD K) (tCB (rLenS K) (tCons (tVar 3) tNil)) (tCB (rLenS K) (tCons (tOp (rIxT K) (tVar 1) (tC (.int 0))) tNil))))) (tC (.int 1)) [3]) (tLst tNil))) (tRet (tC (.bl false))) tNext)
    (tSeq (tIfS (tTest (tOp (rNeD K) (tLc (iTup K (tVar 1)) (gName 3) tYes (tCall S_law_soon_turning [] E0 (tCons (tVar 3) tNil)) [3]) (tCB (rLstOf K) (tCons (tVar 0) tNil)))) (tRet (tC (.bl false))) tNext)
    (tRet (tOp (rEqD K) (tCall S_law_soon_turning [] E0 (tCons (tCall S_law_put [] E0 (tCons (tCB (rLstOf K) (tCons (tVar 1) tNil)) tNil)) tNil)) (tCall S_law_goal [] E0 (tCons (tVar 0) (tCons (tVar 2) tNil))))))))
theorem p_law_reaches {P : Program} {w : World} {K : PySem.W.Frag} {mg : Str → Option Value} {base : Heap} (G : Glob mg) {S_law_goal : Sp} (h_law_goal : Has P w K mg base 4 "_law_goal" ["_law_marks_so", "_law_way_so"] S_law_goal) {S_law_is_disk : Sp} (h_law_is_disk : Has P w K mg base 1 "_law_is_disk" ["_law_matter"] S_law_is_disk) {S_law_put : Sp} (h_law_put : Has P w K mg base 2 "_law_put" ["_law_disks_here"] S_law_put) {S_law_soon_turning : Sp} (h_law_soon_turning : Has P w K mg base 2 "_law_soon_turning" ["_law_disk_here"] S_law_soon_turning) {f : Addr} {cdv : Value} {A : Around} {outer : List Env} {s : Shared} {H : Hp} {E : XK} (hr : Room 4 (A.deeper (PyProof.Rows.envOfC "_law_reaches" (defScope s_law_reaches) s.heap.objs.size f cdv))) :
    PSs (cxOf CX0 P w K mg base ["_law_marks_so", "_law_matter", "_law_way_so", "_law_own"] "_law_reaches" (defScope s_law_reaches) f cdv A outer s H E).nox (defBody s_law_reaches) (t_law_reaches K S_law_goal S_law_is_disk S_law_put S_law_soon_turning) :=
  (pss_cons (ps_if (PW.pt (pw_or (pt_not (pt_val (pe_callB call_isi (by rfl) G.z_isinstance (by decide +kernel) (pa_cons (pv 1) (pa_cons (pe_bltn (v := .ty "tuple") (by rfl) G.z_tuple (by decide +kernel) rfl) pa_nil))))) (pw_or1 (pt_cmpR (op_neD hr.units) (pe_callB call_len_seq (by rfl) G.z_len (by decide +kernel) (pa_cons (pv 1) pa_nil)) (pe_callB call_len_seq (by rfl) G.z_len (by decide +kernel) (pa_cons (pv 0) pa_nil)) (nomark _))))) (pss_one (ps_ret pe_bl)) pss_nil)
    (pss_cons (ps_if (pt_cmpR (op_neD hr.units) (pe_lc (own := [("_law_own", 3)]) (g := (gName 3)) rfl sc_law_reaches.nd (pi_tup (pv 1)) (blkOk_by (N := ["_law_marks_so", "_law_matter", "_law_way_so", "_law_own"]) (sc := defScope s_law_reaches) (by decide +kernel)) (fun _ _ _ _ _ => (pg_name (i := 3) sc_law_reaches.nd rfl (Or.inl rfl))) (fun _ _ _ _ _ => pts_one (PW.pt (pw_or (pt_not (pt_val (pe_fn h_law_is_disk (hr.mono (by decide)) (by rfl) (pa_cons (pv 3) pa_nil)))) (pw_or1 (pt_cmpR (op_neD hr.units) (pe_callB call_len_seq (by rfl) G.z_len (by decide +kernel) (pa_cons (pv 3) pa_nil)) (pe_callB call_len_seq (by rfl) G.z_len (by decide +kernel) (pa_cons (pe_ix ix_tup (pv 1) pe_int (fun _ _ => rfl)) pa_nil)) (nomark _)))))) (fun _ _ _ _ _ => pe_int)) (pe_lst pa_nil) (nomark _)) (pss_one (ps_ret pe_bl)) pss_nil)
    (pss_cons (ps_if (pt_cmpR (op_neD hr.units) (pe_lc (own := [("_law_own", 3)]) (g := (gName 3)) (tt := tYes) rfl sc_law_reaches.nd (pi_tup (pv 1)) (blkOk_by (N := ["_law_marks_so", "_law_matter", "_law_way_so", "_law_own"]) (sc := defScope s_law_reaches) (by decide +kernel)) (fun _ _ _ _ _ => (pg_name (i := 3) sc_law_reaches.nd rfl (Or.inl rfl))) (fun _ _ _ _ _ => pts_nil) (fun _ _ _ _ _ => (pe_fn h_law_soon_turning (hr.mono (by decide)) (by rfl) (pa_cons (pv 3) pa_nil)))) (pe_callTy call_list_of (by rfl) G.z_list (by decide +kernel) (pa_cons (pv 0) pa_nil)) (nomark _)) (pss_one (ps_ret pe_bl)) pss_nil)
    (pss_one (ps_ret (pe_cmpR (op_eqD hr.units) (pe_fn h_law_soon_turning (hr.mono (by decide)) (by rfl) (pa_cons (pe_fn h_law_put (hr.mono (by decide)) (by rfl) (pa_cons (pe_callTy call_list_of (by rfl) G.z_list (by decide +kernel) (pa_cons (pv 1) pa_nil)) pa_nil)) pa_nil)) (pe_fn h_law_goal (hr.mono (by decide)) (by rfl) (pa_cons (pv 0) (pa_cons (pv 2) pa_nil))) (nomark _)))))))
abbrev s_law_own_train : Stmt := topS 78
theorem sc_law_own_train : FnScope ["_law_marks_so", "_law_beats_so", "_law_many_so", "_law_common_so", "_law_found", "_law_k", "_law_own", "_law_spots_so", "_law_disk_here"] ["_law_marks_so"] (defScope s_law_own_train) := ⟨rfl, rfl, rfl, by decide +kernel, rfl, by decide +kernel, by decide +kernel⟩
def t_law_own_train (K : PySem.W.Frag) (S_law_finer S_law_floor S_law_greatest S_law_most S_law_raised S_law_together : Sp) : TS :=
  (tSeq (tPar3 1 2 3 (tCons (tOp (rIxL K) (tOp (rIxT K) (tCall S_law_most [] E0 (tCons (tVar 0) tNil)) (tC (.int 1))) (tUn xNeg (tC (.int 1)))) (tCons (tCB (rLenS K) (tCons (tVar 0) tNil)) (tCons (tCall S_law_together [] E0 (tCons (tVar 0) tNil)) tNil))))
    (tSeq (tAsg (tLst tNil) (gName 4))
    (tSeq (tFor (iEnumT K (tCons (tVar 0) tNil)) (gTup K 2 (gCons (gName 5) (gCons (gName 6) gNil))) (tSeq (tAsg (tTupRg3 (tCons (tVar 5) (tCons (tOp xMul (tVar 2) (tVar 1)) (tCons (tVar 2) tNil)))) (gName 7))
    (tSeq (tAsg (tCall S_law_raised [] E0 (tCons (tCall S_law_greatest [] E0 (tCons (tVar 7) (tCons (tCall S_law_floor [] E0 (tCons (tVar 6) (tCons (tVar 1) tNil))) (tCons (tOp xMul (tVar 2) (tVar 1)) tNil)))) (tCons (tVar 6) tNil))) (gName 8))
    (tDrop (tBM K "list" rAppend (tVar 4) (tCons (tCall S_law_finer [] E0 (tCons (tVar 8) (tCons (tOp xDiv (tVar 3) (tOp (rIxT K) (tVar 6) (tC (.int 1)))) tNil))) tNil))))))
    (tRet (tCB (rTupOf K) (tCons (tVar 4) tNil))))))
theorem p_law_own_train {P : Program} {w : World} {K : PySem.W.Frag} {mg : Str → Option Value} {base : Heap} (G : Glob mg) {S_law_finer : Sp} (h_law_finer : Has P w K mg base 1 "_law_finer" ["_law_disk_here", "_law_many_so"] S_law_finer) {S_law_floor : Sp} (h_law_floor : Has P w K mg base 1 "_law_floor" ["_law_frac_so", "_law_n"] S_law_floor) {S_law_greatest : Sp} (h_law_greatest : Has P w K mg base 2 "_law_greatest" ["_law_spots_so", "_law_m", "_law_ring_so"] S_law_greatest) {S_law_most : Sp} (h_law_most : Has P w K mg base 3 "_law_most" ["_law_marks_so"] S_law_most) {S_law_raised : Sp} (h_law_raised : Has P w K mg base 3 "_law_raised" ["_law_disk_here", "_law_frac_so"] S_law_raised) {S_law_together : Sp} (h_law_together : Has P w K mg base 2 "_law_together" ["_law_marks_so"] S_law_together) {f : Addr} {cdv : Value} {A : Around} {outer : List Env} {s : Shared} {H : Hp} {E : XK} (hr : Room 3 (A.deeper (PyProof.Rows.envOfC "_law_own_train" (defScope s_law_own_train) s.heap.objs.size f cdv))) :
    PSs (cxOf CX0 P w K mg base ["_law_marks_so", "_law_beats_so", "_law_many_so", "_law_common_so", "_law_found", "_law_k", "_law_own", "_law_spots_so", "_law_disk_here"] "_law_own_train" (defScope s_law_own_train) f cdv A outer s H E).nox (defBody s_law_own_train) (t_law_own_train K S_law_finer S_law_floor S_law_greatest S_law_most S_law_raised S_law_together) :=
  (pss_cons (ps_par3 (i := 1) (j := 2) (l := 3) rfl sc_law_own_train.nd rfl rfl rfl (by decide) (by decide) (by decide) rfl rfl rfl (pa_cons (pe_ix ix_list (pe_ix ix_tup (pe_fn h_law_most (hr.mono (by decide)) (by rfl) (pa_cons (pv 0) pa_nil)) pe_int (fun _ _ => rfl)) (pe_un un_neg pe_int) (fun _ _ => rfl)) (pa_cons (pe_callB call_len_seq (by rfl) G.z_len (by decide +kernel) (pa_cons (pv 0) pa_nil)) (pa_cons (pe_fn h_law_together (hr.mono (by decide)) (by rfl) (pa_cons (pv 0) pa_nil)) pa_nil))) (by rfl))
    (pss_cons (ps_set (i := 4) sc_law_own_train.nd rfl (Or.inl rfl) (pe_lst pa_nil))
    (pss_cons (ps_for PassesOwn.never rfl (pi_enumT (by rfl) G.z_enumerate (pa_cons (pv 0) pa_nil)) (pg_tup rfl (pgs_cons (pg_name (i := 5) sc_law_own_train.nd rfl (Or.inl rfl)) (pgs_cons (pg_name (i := 6) sc_law_own_train.nd rfl (Or.inl rfl)) pgs_nil))) (pss_cons (ps_set (i := 7) sc_law_own_train.nd rfl (Or.inl rfl) (pe_tupRg3 (by rfl) G.z_tuple (by rfl) G.z_range (pa_cons (pv 5) (pa_cons (pe_op op_mul (pv 2) (pv 1)) (pa_cons (pv 2) pa_nil)))))
    (pss_cons (ps_set (i := 8) sc_law_own_train.nd rfl (Or.inl rfl) (pe_fn h_law_raised (hr.mono (by decide)) (by rfl) (pa_cons (pe_fn h_law_greatest (hr.mono (by decide)) (by rfl) (pa_cons (pv 7) (pa_cons (pe_fn h_law_floor (hr.mono (by decide)) (by rfl) (pa_cons (pv 6) (pa_cons (pv 1) pa_nil))) (pa_cons (pe_op op_mul (pv 2) (pv 1)) pa_nil)))) (pa_cons (pv 6) pa_nil))))
    (pss_one (ps_expr (pe_bm PySem.F.plainAttrs_list PySem.F.slot_list_append PySem.F.type_list_append mt_append (pv 4) (pa_cons (pe_fn h_law_finer (hr.mono (by decide)) (by rfl) (pa_cons (pv 8) (pa_cons (pe_op op_fdiv (pv 3) (pe_ix ix_tup (pv 6) pe_int (fun _ _ => rfl))) pa_nil))) pa_nil)))))))
    (pss_one (ps_ret (pe_callTy call_tuple_of (by rfl) G.z_tuple (by decide +kernel) (pa_cons (pv 4) pa_nil)))))))
abbrev s_law_near : Stmt := topS 79
theorem sc_law_near : FnScope ["_law_tin", "_law_frac_so", "_law_kind_so", "_law_below_so", "_law_floor_so"] ["_law_tin", "_law_frac_so"] (defScope s_law_near) := ⟨rfl, rfl, rfl, by decide +kernel, rfl, by decide +kernel, by decide +kernel⟩
def t_law_near (K : PySem.W.Frag) (S_law_floor S_law_made S_law_take : Sp) : TS :=
  (tSeq (tPar 2 3 (tCons (tCall S_law_take [] E0 (tCons (tVar 0) (tCons (tC (.int 5)) tNil))) (tCons (tOp xAdd (tC (.int 1)) (tCall S_law_take [] E0 (tCons (tVar 0) (tCons (tC (.int 6)) tNil)))) tNil)))
    (tSeq (tIfS (tTest (tOp (rEqD K) (tVar 2) (tC (.int 0)))) (tRet (tVar 1)) tNext)
    (tSeq (tAsg (tCall S_law_floor [] E0 (tCons (tVar 1) (tCons (tVar 3) tNil))) (gName 4))
    (tRet (tCall S_law_made [] E0 (tCons (tOp xSub (tOp xAdd (tVar 4) (tCall S_law_take [] E0 (tCons (tVar 0) (tCons (tC (.int 5)) tNil)))) (tC (.int 1))) (tCons (tVar 3) tNil)))))))
theorem p_law_near {P : Program} {w : World} {K : PySem.W.Frag} {mg : Str → Option Value} {base : Heap} (G : Glob mg) {S_law_floor : Sp} (h_law_floor : Has P w K mg base 1 "_law_floor" ["_law_frac_so", "_law_n"] S_law_floor) {S_law_made : Sp} (h_law_made : Has P w K mg base 1 "_law_made" ["_law_above_so", "_law_below_so"] S_law_made) {S_law_take : Sp} (h_law_take : Has P w K mg base 1 "_law_take" ["_law_tin", "_law_below_so"] S_law_take) {f : Addr} {cdv : Value} {A : Around} {outer : List Env} {s : Shared} {H : Hp} {E : XK} (hr : Room 1 (A.deeper (PyProof.Rows.envOfC "_law_near" (defScope s_law_near) s.heap.objs.size f cdv))) :
    PSs (cxOf CX0 P w K mg base ["_law_tin", "_law_frac_so", "_law_kind_so", "_law_below_so", "_law_floor_so"] "_law_near" (defScope s_law_near) f cdv A outer s H E).nox (defBody s_law_near) (t_law_near K S_law_floor S_law_made S_law_take) :=
  (pss_cons (ps_par (i := 2) (j := 3) rfl sc_law_near.nd rfl rfl (by decide) rfl rfl (pa_cons (pe_fn h_law_take (hr.mono (by decide)) (by rfl) (pa_cons (pv 0) (pa_cons pe_int pa_nil))) (pa_cons (pe_op op_add pe_int (pe_fn h_law_take (hr.mono (by decide)) (by rfl) (pa_cons (pv 0) (pa_cons pe_int pa_nil)))) pa_nil)) (by rfl))
    (pss_cons (ps_if (pt_cmpR (op_eqD hr.units) (pv 2) pe_int (nomark _)) (pss_one (ps_ret (pv 1))) pss_nil)
    (pss_cons (ps_set (i := 4) sc_law_near.nd rfl (Or.inl rfl) (pe_fn h_law_floor (hr.mono (by decide)) (by rfl) (pa_cons (pv 1) (pa_cons (pv 3) pa_nil))))
    (pss_one (ps_ret (pe_fn h_law_made (hr.mono (by decide)) (by rfl) (pa_cons (pe_op op_sub (pe_op op_add (pv 4) (pe_fn h_law_take (hr.mono (by decide)) (by rfl) (pa_cons (pv 0) (pa_cons pe_int pa_nil)))) pe_int) (pa_cons (pv 3) pa_nil))))))))
abbrev s_law_spoilt_pair : Stmt := topS 80
theorem sc_law_spoilt_pair : FnScope ["_law_tin", "_law_pair_so", "_law_disk_here", "_law_many_so", "_law_way_so", "_law_k", "_law_more_so"] ["_law_tin", "_law_pair_so"] (defScope s_law_spoilt_pair) := ⟨rfl, rfl, rfl, by decide +kernel, rfl, by decide +kernel, by decide +kernel⟩
def t_law_spoilt_pair (K : PySem.W.Frag) (S_law_finer S_law_of S_law_take : Sp) : TS :=
  (tSeq (tAsg (tVar 1) (gTup K 2 (gCons (gName 2) (gCons (gName 3) gNil))))
    (tSeq (tPar 4 5 (tCons (tCall S_law_take [] E0 (tCons (tVar 0) (tCons (tC (.int 6)) tNil))) (tCons (tCall S_law_take [] E0 (tCons (tVar 0) (tCons (tCB (rLenS K) (tCons (tVar 2) tNil)) tNil))) tNil)))
    (tSeq (tIfS (tTest (tOp xLt (tVar 4) (tC (.int 3)))) (tSeq (tAsg (tCall S_law_of [] E0 (tCons (tVar 0) (tCons (tLst (tCons (tC (.int 1)) (tCons (tUn xNeg (tC (.int 1))) (tCons (tCB (rLenS K) (tCons (tVar 2) tNil)) tNil)))) tNil))) (gName 6))
    (tRet (tTup (tCons (tOp (rCatA K) (tOp (rCatA K) (tSl (rSlA K) (tVar 2) tNoPart (tPart (tVar 5))) (tTup (tCons (tOp xAdd (tOp (rIxT K) (tVar 2) (tVar 5)) (tVar 6)) tNil))) (tSl (rSlA K) (tVar 2) (tPart (tOp xAdd (tVar 5) (tC (.int 1)))) tNoPart)) (tCons (tVar 3) tNil))))) tNext)
    (tSeq (tIfS (tTest (tOp (rEqD K) (tVar 4) (tC (.int 3)))) (tRet (tTup (tCons (tVar 2) (tCons (tOp xAdd (tVar 3) (tCall S_law_of [] E0 (tCons (tVar 0) (tCons (tLst (tCons (tC (.int 1)) (tCons (tUn xNeg (tC (.int 1))) tNil))) tNil)))) tNil)))) tNext)
    (tSeq (tIfS (tTest (tOp (rEqD K) (tVar 4) (tC (.int 4)))) (tRet (tCall S_law_of [] E0 (tCons (tVar 0) (tCons (tLst (tCons (tCB (rLstOf K) (tCons (tVar 1) tNil)) (tCons (tTup (tCons (tCB (rLstOf K) (tCons (tVar 2) tNil)) (tCons (tVar 3) tNil))) (tCons (tTup (tCons (tVar 2) (tCons (tC (.bl true)) tNil))) (tCons (tTup (tCons (tVar 2) tNil)) (tCons (tC .non) (tCons (tVar 2) tNil))))))) tNil)))) tNext)
    (tRet (tTup (tCons (tCall S_law_finer [] E0 (tCons (tVar 2) (tCons (tC (.int 2)) tNil))) (tCons (tOp xMul (tC (.int 2)) (tVar 3)) tNil)))))))))
theorem p_law_spoilt_pair {P : Program} {w : World} {K : PySem.W.Frag} {mg : Str → Option Value} {base : Heap} (G : Glob mg) {S_law_finer : Sp} (h_law_finer : Has P w K mg base 1 "_law_finer" ["_law_disk_here", "_law_many_so"] S_law_finer) {S_law_of : Sp} (h_law_of : Has P w K mg base 2 "_law_of" ["_law_tin", "_law_goods_so"] S_law_of) {S_law_take : Sp} (h_law_take : Has P w K mg base 1 "_law_take" ["_law_tin", "_law_below_so"] S_law_take) {f : Addr} {cdv : Value} {A : Around} {outer : List Env} {s : Shared} {H : Hp} {E : XK} (hr : Room 2 (A.deeper (PyProof.Rows.envOfC "_law_spoilt_pair" (defScope s_law_spoilt_pair) s.heap.objs.size f cdv))) :
    PSs (cxOf CX0 P w K mg base ["_law_tin", "_law_pair_so", "_law_disk_here", "_law_many_so", "_law_way_so", "_law_k", "_law_more_so"] "_law_spoilt_pair" (defScope s_law_spoilt_pair) f cdv A outer s H E).nox (defBody s_law_spoilt_pair) (t_law_spoilt_pair K S_law_finer S_law_of S_law_take) :=
  (pss_cons (ps_asg (pv 1) (pg_tup rfl (pgs_cons (pg_name (i := 2) sc_law_spoilt_pair.nd rfl (Or.inl rfl)) (pgs_cons (pg_name (i := 3) sc_law_spoilt_pair.nd rfl (Or.inl rfl)) pgs_nil))))
    (pss_cons (ps_par (i := 4) (j := 5) rfl sc_law_spoilt_pair.nd rfl rfl (by decide) rfl rfl (pa_cons (pe_fn h_law_take (hr.mono (by decide)) (by rfl) (pa_cons (pv 0) (pa_cons pe_int pa_nil))) (pa_cons (pe_fn h_law_take (hr.mono (by decide)) (by rfl) (pa_cons (pv 0) (pa_cons (pe_callB call_len_seq (by rfl) G.z_len (by decide +kernel) (pa_cons (pv 2) pa_nil)) pa_nil))) pa_nil)) (by rfl))
    (pss_cons (ps_if (pt_cmpR op_lt (pv 4) pe_int (nomark _)) (pss_cons (ps_set (i := 6) sc_law_spoilt_pair.nd rfl (Or.inl rfl) (pe_fn h_law_of (hr.mono (by decide)) (by rfl) (pa_cons (pv 0) (pa_cons (pe_lst (pa_cons pe_int (pa_cons (pe_un un_neg pe_int) (pa_cons (pe_callB call_len_seq (by rfl) G.z_len (by decide +kernel) (pa_cons (pv 2) pa_nil)) pa_nil)))) pa_nil))))
    (pss_one (ps_ret (pe_tup (pa_cons (pe_op op_catA (pe_op op_catA (pe_slice sl_tupA (pv 2) po_none (po_some (pv 5))) (pe_tup (pa_cons (pe_op op_add (pe_ix ix_tup (pv 2) (pv 5) (fun _ _ => rfl)) (pv 6)) pa_nil))) (pe_slice sl_tupA (pv 2) (po_some (pe_op op_add (pv 5) pe_int)) po_none)) (pa_cons (pv 3) pa_nil)))))) pss_nil)
    (pss_cons (ps_if (pt_cmpR (op_eqD hr.units) (pv 4) pe_int (nomark _)) (pss_one (ps_ret (pe_tup (pa_cons (pv 2) (pa_cons (pe_op op_add (pv 3) (pe_fn h_law_of (hr.mono (by decide)) (by rfl) (pa_cons (pv 0) (pa_cons (pe_lst (pa_cons pe_int (pa_cons (pe_un un_neg pe_int) pa_nil))) pa_nil)))) pa_nil))))) pss_nil)
    (pss_cons (ps_if (pt_cmpR (op_eqD hr.units) (pv 4) pe_int (nomark _)) (pss_one (ps_ret (pe_fn h_law_of (hr.mono (by decide)) (by rfl) (pa_cons (pv 0) (pa_cons (pe_lst (pa_cons (pe_callTy call_list_of (by rfl) G.z_list (by decide +kernel) (pa_cons (pv 1) pa_nil)) (pa_cons (pe_tup (pa_cons (pe_callTy call_list_of (by rfl) G.z_list (by decide +kernel) (pa_cons (pv 2) pa_nil)) (pa_cons (pv 3) pa_nil))) (pa_cons (pe_tup (pa_cons (pv 2) (pa_cons pe_bl pa_nil))) (pa_cons (pe_tup (pa_cons (pv 2) pa_nil)) (pa_cons pe_non (pa_cons (pv 2) pa_nil))))))) pa_nil))))) pss_nil)
    (pss_one (ps_ret (pe_tup (pa_cons (pe_fn h_law_finer (hr.mono (by decide)) (by rfl) (pa_cons (pv 2) (pa_cons pe_int pa_nil))) (pa_cons (pe_op op_mul pe_int (pv 3)) pa_nil))))))))))
abbrev s_law_spoilt_train : Stmt := topS 81
theorem sc_law_spoilt_train : FnScope ["_law_tin", "_law_train_so", "_law_way_so", "_law_k", "_law_disk_here", "_law_j", "_law_own"] ["_law_tin", "_law_train_so"] (defScope s_law_spoilt_train) := ⟨rfl, rfl, rfl, by decide +kernel, rfl, by decide +kernel, by decide +kernel⟩
def t_law_spoilt_train (K : PySem.W.Frag) (S_law_finer S_law_of S_law_take : Sp) : TS :=
  (tSeq (tPar 2 3 (tCons (tCall S_law_take [] E0 (tCons (tVar 0) (tCons (tC (.int 6)) tNil))) (tCons (tCall S_law_take [] E0 (tCons (tVar 0) (tCons (tCB (rLenS K) (tCons (tVar 1) tNil)) tNil))) tNil)))
    (tSeq (tIfS (tTest (tOp xLt (tVar 2) (tC (.int 2)))) (tSeq (tAsg (tOp (rIxT K) (tVar 1) (tVar 3)) (gName 4))
    (tSeq (tAsg (tCall S_law_take [] E0 (tCons (tVar 0) (tCons (tCB (rLenS K) (tCons (tVar 4) tNil)) tNil))) (gName 5))
    (tRet (tOp (rCatA K) (tOp (rCatA K) (tSl (rSlA K) (tVar 1) tNoPart (tPart (tVar 3))) (tTup (tCons (tOp (rCatA K) (tOp (rCatA K) (tSl (rSlA K) (tVar 4) tNoPart (tPart (tVar 5))) (tTup (tCons (tOp xAdd (tOp (rIxT K) (tVar 4) (tVar 5)) (tCall S_law_of [] E0 (tCons (tVar 0) (tCons (tLst (tCons (tC (.int 1)) (tCons (tUn xNeg (tC (.int 1))) tNil))) tNil)))) tNil))) (tSl (rSlA K) (tVar 4) (tPart (tOp xAdd (tVar 5) (tC (.int 1)))) tNoPart)) tNil))) (tSl (rSlA K) (tVar 1) (tPart (tOp xAdd (tVar 3) (tC (.int 1)))) tNoPart))))) tNext)
    (tSeq (tIfS (tTest (tOp (rEqD K) (tVar 2) (tC (.int 2)))) (tRet (tOp (rCatA K) (tSl (rSlA K) (tVar 1) (tPart (tOp xAdd (tVar 3) (tC (.int 1)))) tNoPart) (tSl (rSlA K) (tVar 1) tNoPart (tPart (tOp xAdd (tVar 3) (tC (.int 1))))))) tNext)
    (tSeq (tIfS (tTest (tOp (rEqD K) (tVar 2) (tC (.int 3)))) (tRet (tOp (rCatA K) (tSl (rSlA K) (tVar 1) tNoPart (tPart (tVar 3))) (tSl (rSlA K) (tVar 1) (tPart (tOp xAdd (tVar 3) (tC (.int 1)))) tNoPart))) tNext)
    (tSeq (tIfS (tTest (tOp (rEqD K) (tVar 2) (tC (.int 4)))) (tRet (tCB (rTupOf K) (tCons (tLc (iTup K (tVar 1)) (gName 6) tYes (tCall S_law_finer [] E0 (tCons (tVar 6) (tCons (tC (.int 2)) tNil))) [6]) tNil))) tNext)
    (tRet (tCall S_law_of [] E0 (tCons (tVar 0) (tCons (tLst (tCons (tCB (rLstOf K) (tCons (tVar 1) tNil)) (tCons (tOp (rCatA K) (tVar 1) (tSl (rSlA K) (tVar 1) tNoPart (tPart (tC (.int 1))))) (tCons (tOp (rIxT K) (tVar 1) (tC (.int 0))) (tCons (tTup tNil) (tCons (tC .non) tNil)))))) tNil)))))))))
theorem p_law_spoilt_train {P : Program} {w : World} {K : PySem.W.Frag} {mg : Str → Option Value} {base : Heap} (G : Glob mg) {S_law_finer : Sp} (h_law_finer : Has P w K mg base 1 "_law_finer" ["_law_disk_here", "_law_many_so"] S_law_finer) {S_law_of : Sp} (h_law_of : Has P w K mg base 2 "_law_of" ["_law_tin", "_law_goods_so"] S_law_of) {S_law_take : Sp} (h_law_take : Has P w K mg base 1 "_law_take" ["_law_tin", "_law_below_so"] S_law_take) {f : Addr} {cdv : Value} {A : Around} {outer : List Env} {s : Shared} {H : Hp} {E : XK} (hr : Room 2 (A.deeper (PyProof.Rows.envOfC "_law_spoilt_train" (defScope s_law_spoilt_train) s.heap.objs.size f cdv))) :
    PSs (cxOf CX0 P w K mg base ["_law_tin", "_law_train_so", "_law_way_so", "_law_k", "_law_disk_here", "_law_j", "_law_own"] "_law_spoilt_train" (defScope s_law_spoilt_train) f cdv A outer s H E).nox (defBody s_law_spoilt_train) (t_law_spoilt_train K S_law_finer S_law_of S_law_take) :=
  (pss_cons (ps_par (i := 2) (j := 3) rfl sc_law_spoilt_train.nd rfl rfl (by decide) rfl rfl (pa_cons (pe_fn h_law_take (hr.mono (by decide)) (by rfl) (pa_cons (pv 0) (pa_cons pe_int pa_nil))) (pa_cons (pe_fn h_law_take (hr.mono (by decide)) (by rfl) (pa_cons (pv 0) (pa_cons (pe_callB call_len_seq (by rfl) G.z_len (by decide +kernel) (pa_cons (pv 1) pa_nil)) pa_nil))) pa_nil)) (by rfl))
    (pss_cons (ps_if (pt_cmpR op_lt (pv 2) pe_int (nomark _)) (pss_cons (ps_set (i := 4) sc_law_spoilt_train.nd rfl (Or.inl rfl) (pe_ix ix_tup (pv 1) (pv 3) (fun _ _ => rfl)))
    (pss_cons (ps_set (i := 5) sc_law_spoilt_train.nd rfl (Or.inl rfl) (pe_fn h_law_take (hr.mono (by decide)) (by rfl) (pa_cons (pv 0) (pa_cons (pe_callB call_len_seq (by rfl) G.z_len (by decide +kernel) (pa_cons (pv 4) pa_nil)) pa_nil))))
    (pss_one (ps_ret (pe_op op_catA (pe_op op_catA (pe_slice sl_tupA (pv 1) po_none (po_some (pv 3))) (pe_tup (pa_cons (pe_op op_catA (pe_op op_catA (pe_slice sl_tupA (pv 4) po_none (po_some (pv 5))) (pe_tup (pa_cons (pe_op op_add (pe_ix ix_tup (pv 4) (pv 5) (fun _ _ => rfl)) (pe_fn h_law_of (hr.mono (by decide)) (by rfl) (pa_cons (pv 0) (pa_cons (pe_lst (pa_cons pe_int (pa_cons (pe_un un_neg pe_int) pa_nil))) pa_nil)))) pa_nil))) (pe_slice sl_tupA (pv 4) (po_some (pe_op op_add (pv 5) pe_int)) po_none)) pa_nil))) (pe_slice sl_tupA (pv 1) (po_some (pe_op op_add (pv 3) pe_int)) po_none)))))) pss_nil)
    (pss_cons (ps_if (pt_cmpR (op_eqD hr.units) (pv 2) pe_int (nomark _)) (pss_one (ps_ret (pe_op op_catA (pe_slice sl_tupA (pv 1) (po_some (pe_op op_add (pv 3) pe_int)) po_none) (pe_slice sl_tupA (pv 1) po_none (po_some (pe_op op_add (pv 3) pe_int)))))) pss_nil)
    (pss_cons (ps_if (pt_cmpR (op_eqD hr.units) (pv 2) pe_int (nomark _)) (pss_one (ps_ret (pe_op op_catA (pe_slice sl_tupA (pv 1) po_none (po_some (pv 3))) (pe_slice sl_tupA (pv 1) (po_some (pe_op op_add (pv 3) pe_int)) po_none)))) pss_nil)
    (pss_cons (ps_if (pt_cmpR (op_eqD hr.units) (pv 2) pe_int (nomark _)) (pss_one (ps_ret (pe_callTy call_tuple_of (by rfl) G.z_tuple (by decide +kernel) (pa_cons (pe_lc (own := [("_law_own", 6)]) (g := (gName 6)) (tt := tYes) rfl sc_law_spoilt_train.nd (pi_tup (pv 1)) (blkOk_by (N := ["_law_tin", "_law_train_so", "_law_way_so", "_law_k", "_law_disk_here", "_law_j", "_law_own"]) (sc := defScope s_law_spoilt_train) (by decide +kernel)) (fun _ _ _ _ _ => (pg_name (i := 6) sc_law_spoilt_train.nd rfl (Or.inl rfl))) (fun _ _ _ _ _ => pts_nil) (fun _ _ _ _ _ => (pe_fn h_law_finer (hr.mono (by decide)) (by rfl) (pa_cons (pv 6) (pa_cons pe_int pa_nil))))) pa_nil)))) pss_nil)
    (pss_one (ps_ret (pe_fn h_law_of (hr.mono (by decide)) (by rfl) (pa_cons (pv 0) (pa_cons (pe_lst (pa_cons (pe_callTy call_list_of (by rfl) G.z_list (by decide +kernel) (pa_cons (pv 1) pa_nil)) (pa_cons (pe_op op_catA (pv 1) (pe_slice sl_tupA (pv 1) po_none (po_some pe_int))) (pa_cons (pe_ix ix_tup (pv 1) pe_int (fun _ _ => rfl)) (pa_cons (pe_tup pa_nil) (pa_cons pe_non pa_nil)))))) pa_nil))))))))))
end DL
set_option Elab.async false
set_option linter.all false
set_option maxRecDepth 100000
set_option maxHeartbeats 4000000
namespace DL
open PySem L2 PyProof.Rows RZ
abbrev s_law_by_hand_right : Stmt := topS 82
theorem sc_law_by_hand_right : FnScope ["_law_slow_so", "_law_quick_so", "_law_half_so", "_law_third_so", "_law_things_so", "_law_got", "_law_due", "_law_f_so", "_law_g_so", "_law_far_so", "_law_own"] [] (defScope s_law_by_hand_right) := ⟨rfl, rfl, rfl, by decide +kernel, rfl, by decide +kernel, by decide +kernel⟩
def t_law_by_hand_right (K : PySem.W.Frag) (S_law_same S_is_lowest S_is_raised S_is_reached : Sp) : TS :=
  (tSeq (tAsg (tTup (tCons (tTup (tCons (tC (.int 0)) (tCons (tC (.int 2)) (tCons (tC (.int 2)) tNil)))) (tCons (tTup (tCons (tC (.int 1)) (tCons (tC (.int 6)) (tCons (tC (.int 7)) (tCons (tC (.int 7)) (tCons (tC (.int 7)) (tCons (tC (.int 7)) tNil))))))) (tCons (tTup (tCons (tC (.int 1)) (tCons (tC (.int 2)) tNil))) (tCons (tTup (tCons (tC (.int 1)) (tCons (tC (.int 3)) tNil))) tNil))))) (gTup K 4 (gCons (gName 0) (gCons (gName 1) (gCons (gName 2) (gCons (gName 3) gNil))))))
    (tSeq (tAsg (tLst (tCons (tTup (tCons (tVar 1) (tCons (tC (.int 2)) tNil))) (tCons (tTup (tCons (tVar 1) (tCons (tC (.int 1)) tNil))) (tCons (tTup (tCons (tVar 1) (tCons (tC (.int 3)) tNil))) (tCons (tLst (tCons (tVar 1) (tCons (tC (.int 2)) tNil))) (tCons (tTup (tCons (tCB (rLstOf K) (tCons (tVar 1) tNil)) (tCons (tC (.int 2)) tNil))) (tCons (tTup (tCons (tVar 1) (tCons (tC (.int 2)) (tCons (tC (.int 0)) tNil)))) (tCons (tTup (tCons (tVar 1) (tCons (tC (.bl true)) tNil))) (tCons (tTup (tCons (tSl (rSlA K) (tVar 1) tNoPart (tPart (tC (.int 5)))) (tCons (tC (.int 2)) tNil))) (tCons (tC .non) (tCons (tTup (tCons (tVar 1) tNil)) (tCons (tC (.int 7)) tNil)))))))))))) (gName 4))
    (tSeq (tAsg (tLst (tCons (tLc (iList K (tVar 4)) (gName 10) tYes (tCall S_is_raised [] E0 (tCons (tVar 0) (tCons (tVar 2) (tCons (tVar 10) tNil)))) [10]) (tCons (tCall S_is_raised [] E0 (tCons (tVar 0) (tCons (tVar 3) (tCons (tTup (tCons (tVar 1) (tCons (tC (.int 2)) tNil))) tNil)))) (tCons (tCall S_is_raised [] E0 (tCons (tTup (tCons (tC (.int 0)) (tCons (tC (.int 3)) (tCons (tC (.int 3)) tNil)))) (tCons (tVar 2) (tCons (tTup (tCons (tVar 1) (tCons (tC (.int 2)) tNil))) tNil)))) (tCons (tCall S_is_raised [] E0 (tCons (tTup (tCons (tC (.int 1)) (tCons (tC (.int 4)) (tCons (tC (.int 4)) tNil)))) (tCons (tVar 2) (tCons (tTup (tCons (tVar 1) (tCons (tC (.int 2)) tNil))) tNil)))) tNil))))) (gName 5))
    (tSeq (tAsg (tLst (tCons (tOp rCat (tLst (tCons (tC (.bl true)) tNil)) (tOp rRep (tLst (tCons (tC (.bl false)) tNil)) (tC (.int 10)))) (tCons (tC (.bl false)) (tCons (tC (.bl true)) (tCons (tC (.bl false)) tNil))))) (gName 6))
    (tSeq (tAsg (tTup (tCons (tTup (tCons (tC (.int 3)) (tCons (tC (.int 6)) (tCons (tC (.int 6)) (tCons (tC (.int 6)) (tCons (tC (.int 9)) (tCons (tC (.int 9)) tNil))))))) (tCons (tTup (tCons (tC (.int 3)) (tCons (tC (.int 3)) (tCons (tC (.int 5)) (tCons (tC (.int 5)) (tCons (tC (.int 7)) (tCons (tC (.int 7)) tNil))))))) (tCons (tTup (tCons (tTup (tCons (tC (.int 3)) (tCons (tC (.int 4)) (tCons (tC (.int 5)) (tCons (tC (.int 6)) (tCons (tC (.int 7)) (tCons (tC (.int 8)) tNil))))))) (tCons (tTup (tCons (tC (.int 2)) (tCons (tC (.int 3)) (tCons (tC (.int 4)) (tCons (tC (.int 5)) (tCons (tC (.int 6)) (tCons (tC (.int 7)) tNil))))))) tNil))) tNil)))) (gTup K 3 (gCons (gName 7) (gCons (gName 8) (gCons (gName 9) gNil)))))
    (tSeq (tAsg (tLst (tCons (tTup (tCons (tVar 7) (tCons (tVar 8) tNil))) (tCons (tTup (tCons (tVar 8) (tCons (tVar 7) tNil))) (tCons (tLst (tCons (tVar 7) (tCons (tVar 8) tNil))) (tCons (tTup (tCons (tVar 7) tNil)) (tCons (tTup (tCons (tVar 7) (tCons (tVar 8) (tCons (tVar 8) tNil)))) (tCons (tVar 9) (tCons (tTup (tCons (tVar 7) (tCons (tSl (rSlA K) (tVar 8) tNoPart (tPart (tC (.int 5)))) tNil))) (tCons (tTup (tCons (tVar 7) (tCons (tTup (tCons (tC (.int 3)) (tCons (tC (.int 3)) (tCons (tC (.int 5)) (tCons (tC (.int 5)) (tCons (tC (.int 7)) (tCons (tC (.int 5)) tNil))))))) tNil))) (tCons (tC .non) (tCons (tTup tNil) tNil))))))))))) (gName 4))
    (tSeq (tAsg (tOp rCat (tVar 5) (tLst (tCons (tLc (iList K (tVar 4)) (gName 10) tYes (tCall S_is_reached [] E0 (tCons (tTup (tCons (tVar 2) (tCons (tVar 3) tNil))) (tCons (tVar 10) tNil))) [10]) (tCons (tCall S_is_lowest [] E0 (tCons (tTup (tCons (tVar 2) (tCons (tVar 3) tNil))) (tCons (tVar 9) tNil))) (tCons (tCall S_is_lowest [] E0 (tCons (tTup (tCons (tVar 2) tNil)) (tCons (tTup (tCons (tTup (tCons (tC (.int 1)) (tCons (tC (.int 2)) tNil))) tNil)) tNil))) (tCons (tCall S_is_reached [] E0 (tCons (tTup (tCons (tVar 2) tNil)) (tCons (tTup (tCons (tTup (tCons (tC (.int 1)) (tCons (tC (.int 2)) tNil))) tNil)) tNil))) tNil)))))) (gName 5))
    (tRet (tCall S_law_same [] E0 (tCons (tVar 5) (tCons (tOp rCat (tVar 6) (tLst (tCons (tOp rCat (tLst (tCons (tC (.bl true)) tNil)) (tOp rRep (tLst (tCons (tC (.bl false)) tNil)) (tC (.int 9)))) (tCons (tC (.bl false)) (tCons (tC (.bl true)) (tCons (tC (.bl true)) tNil)))))) tNil)))))))))))
theorem p_law_by_hand_right {P : Program} {w : World} {K : PySem.W.Frag} {mg : Str → Option Value} {base : Heap} (G : Glob mg) {S_law_same : Sp} (h_law_same : Has P w K mg base 5 "_law_same" ["_law_got", "_law_due"] S_law_same) {S_is_lowest : Sp} (h_is_lowest : Has P w K mg base 9 "is_lowest" ["turns", "thing"] S_is_lowest) {S_is_raised : Sp} (h_is_raised : Has P w K mg base 5 "is_raised" ["wheel", "fraction", "thing"] S_is_raised) {S_is_reached : Sp} (h_is_reached : Has P w K mg base 9 "is_reached" ["turns", "thing"] S_is_reached) {f : Addr} {cdv : Value} {A : Around} {outer : List Env} {s : Shared} {H : Hp} {E : XK} (hr : Room 9 (A.deeper (PyProof.Rows.envOfC "_law_by_hand_right" (defScope s_law_by_hand_right) s.heap.objs.size f cdv))) :
    PSs (cxOf CX0 P w K mg base ["_law_slow_so", "_law_quick_so", "_law_half_so", "_law_third_so", "_law_things_so", "_law_got", "_law_due", "_law_f_so", "_law_g_so", "_law_far_so", "_law_own"] "_law_by_hand_right" (defScope s_law_by_hand_right) f cdv A outer s H E).nox (defBody s_law_by_hand_right) (t_law_by_hand_right K S_law_same S_is_lowest S_is_raised S_is_reached) :=
  (pss_cons (ps_asg (pe_tup (pa_cons (pe_tup (pa_cons pe_int (pa_cons pe_int (pa_cons pe_int pa_nil)))) (pa_cons (pe_tup (pa_cons pe_int (pa_cons pe_int (pa_cons pe_int (pa_cons pe_int (pa_cons pe_int (pa_cons pe_int pa_nil))))))) (pa_cons (pe_tup (pa_cons pe_int (pa_cons pe_int pa_nil))) (pa_cons (pe_tup (pa_cons pe_int (pa_cons pe_int pa_nil))) pa_nil))))) (pg_tup rfl (pgs_cons (pg_name (i := 0) sc_law_by_hand_right.nd rfl (Or.inr rfl)) (pgs_cons (pg_name (i := 1) sc_law_by_hand_right.nd rfl (Or.inl rfl)) (pgs_cons (pg_name (i := 2) sc_law_by_hand_right.nd rfl (Or.inr rfl)) (pgs_cons (pg_name (i := 3) sc_law_by_hand_right.nd rfl (Or.inr rfl)) pgs_nil))))))
    (pss_cons (ps_set (i := 4) sc_law_by_hand_right.nd rfl (Or.inl rfl) (pe_lst (pa_cons (pe_tup (pa_cons (pv 1) (pa_cons pe_int pa_nil))) (pa_cons (pe_tup (pa_cons (pv 1) (pa_cons pe_int pa_nil))) (pa_cons (pe_tup (pa_cons (pv 1) (pa_cons pe_int pa_nil))) (pa_cons (pe_lst (pa_cons (pv 1) (pa_cons pe_int pa_nil))) (pa_cons (pe_tup (pa_cons (pe_callTy call_list_of (by rfl) G.z_list (by decide +kernel) (pa_cons (pv 1) pa_nil)) (pa_cons pe_int pa_nil))) (pa_cons (pe_tup (pa_cons (pv 1) (pa_cons pe_int (pa_cons pe_int pa_nil)))) (pa_cons (pe_tup (pa_cons (pv 1) (pa_cons pe_bl pa_nil))) (pa_cons (pe_tup (pa_cons (pe_slice sl_tupA (pv 1) po_none (po_some pe_int)) (pa_cons pe_int pa_nil))) (pa_cons pe_non (pa_cons (pe_tup (pa_cons (pv 1) pa_nil)) (pa_cons pe_int pa_nil)))))))))))))
    (pss_cons (ps_set (i := 5) sc_law_by_hand_right.nd rfl (Or.inl rfl) (pe_lst (pa_cons (pe_lc (own := [("_law_own", 10)]) (g := (gName 10)) (tt := tYes) rfl sc_law_by_hand_right.nd (pi_list (pv 4)) (blkOk_by (N := ["_law_slow_so", "_law_quick_so", "_law_half_so", "_law_third_so", "_law_things_so", "_law_got", "_law_due", "_law_f_so", "_law_g_so", "_law_far_so", "_law_own"]) (sc := defScope s_law_by_hand_right) (by decide +kernel)) (fun _ _ _ _ _ => (pg_name (i := 10) sc_law_by_hand_right.nd rfl (Or.inl rfl))) (fun _ _ _ _ _ => pts_nil) (fun _ _ _ _ _ => (pe_fn h_is_raised (hr.mono (by decide)) (by rfl) (pa_cons (pv 0) (pa_cons (pv 2) (pa_cons (pv 10) pa_nil)))))) (pa_cons (pe_fn h_is_raised (hr.mono (by decide)) (by rfl) (pa_cons (pv 0) (pa_cons (pv 3) (pa_cons (pe_tup (pa_cons (pv 1) (pa_cons pe_int pa_nil))) pa_nil)))) (pa_cons (pe_fn h_is_raised (hr.mono (by decide)) (by rfl) (pa_cons (pe_tup (pa_cons pe_int (pa_cons pe_int (pa_cons pe_int pa_nil)))) (pa_cons (pv 2) (pa_cons (pe_tup (pa_cons (pv 1) (pa_cons pe_int pa_nil))) pa_nil)))) (pa_cons (pe_fn h_is_raised (hr.mono (by decide)) (by rfl) (pa_cons (pe_tup (pa_cons pe_int (pa_cons pe_int (pa_cons pe_int pa_nil)))) (pa_cons (pv 2) (pa_cons (pe_tup (pa_cons (pv 1) (pa_cons pe_int pa_nil))) pa_nil)))) pa_nil))))))
    (pss_cons (ps_set (i := 6) sc_law_by_hand_right.nd rfl (Or.inl rfl) (pe_lst (pa_cons (pe_op op_cat (pe_lst (pa_cons pe_bl pa_nil)) (pe_op op_rep (pe_lst (pa_cons pe_bl pa_nil)) pe_int)) (pa_cons pe_bl (pa_cons pe_bl (pa_cons pe_bl pa_nil))))))
    (pss_cons (ps_asg (pe_tup (pa_cons (pe_tup (pa_cons pe_int (pa_cons pe_int (pa_cons pe_int (pa_cons pe_int (pa_cons pe_int (pa_cons pe_int pa_nil))))))) (pa_cons (pe_tup (pa_cons pe_int (pa_cons pe_int (pa_cons pe_int (pa_cons pe_int (pa_cons pe_int (pa_cons pe_int pa_nil))))))) (pa_cons (pe_tup (pa_cons (pe_tup (pa_cons pe_int (pa_cons pe_int (pa_cons pe_int (pa_cons pe_int (pa_cons pe_int (pa_cons pe_int pa_nil))))))) (pa_cons (pe_tup (pa_cons pe_int (pa_cons pe_int (pa_cons pe_int (pa_cons pe_int (pa_cons pe_int (pa_cons pe_int pa_nil))))))) pa_nil))) pa_nil)))) (pg_tup rfl (pgs_cons (pg_name (i := 7) sc_law_by_hand_right.nd rfl (Or.inl rfl)) (pgs_cons (pg_name (i := 8) sc_law_by_hand_right.nd rfl (Or.inl rfl)) (pgs_cons (pg_name (i := 9) sc_law_by_hand_right.nd rfl (Or.inl rfl)) pgs_nil)))))
    (pss_cons (ps_set (i := 4) sc_law_by_hand_right.nd rfl (Or.inl rfl) (pe_lst (pa_cons (pe_tup (pa_cons (pv 7) (pa_cons (pv 8) pa_nil))) (pa_cons (pe_tup (pa_cons (pv 8) (pa_cons (pv 7) pa_nil))) (pa_cons (pe_lst (pa_cons (pv 7) (pa_cons (pv 8) pa_nil))) (pa_cons (pe_tup (pa_cons (pv 7) pa_nil)) (pa_cons (pe_tup (pa_cons (pv 7) (pa_cons (pv 8) (pa_cons (pv 8) pa_nil)))) (pa_cons (pv 9) (pa_cons (pe_tup (pa_cons (pv 7) (pa_cons (pe_slice sl_tupA (pv 8) po_none (po_some pe_int)) pa_nil))) (pa_cons (pe_tup (pa_cons (pv 7) (pa_cons (pe_tup (pa_cons pe_int (pa_cons pe_int (pa_cons pe_int (pa_cons pe_int (pa_cons pe_int (pa_cons pe_int pa_nil))))))) pa_nil))) (pa_cons pe_non (pa_cons (pe_tup pa_nil) pa_nil))))))))))))
    (pss_cons (ps_set (i := 5) sc_law_by_hand_right.nd rfl (Or.inl rfl) (pe_op op_cat (pv 5) (pe_lst (pa_cons (pe_lc (own := [("_law_own", 10)]) (g := (gName 10)) (tt := tYes) rfl sc_law_by_hand_right.nd (pi_list (pv 4)) (blkOk_by (N := ["_law_slow_so", "_law_quick_so", "_law_half_so", "_law_third_so", "_law_things_so", "_law_got", "_law_due", "_law_f_so", "_law_g_so", "_law_far_so", "_law_own"]) (sc := defScope s_law_by_hand_right) (by decide +kernel)) (fun _ _ _ _ _ => (pg_name (i := 10) sc_law_by_hand_right.nd rfl (Or.inl rfl))) (fun _ _ _ _ _ => pts_nil) (fun _ _ _ _ _ => (pe_fn h_is_reached (hr.mono (by decide)) (by rfl) (pa_cons (pe_tup (pa_cons (pv 2) (pa_cons (pv 3) pa_nil))) (pa_cons (pv 10) pa_nil))))) (pa_cons (pe_fn h_is_lowest (hr.mono (by decide)) (by rfl) (pa_cons (pe_tup (pa_cons (pv 2) (pa_cons (pv 3) pa_nil))) (pa_cons (pv 9) pa_nil))) (pa_cons (pe_fn h_is_lowest (hr.mono (by decide)) (by rfl) (pa_cons (pe_tup (pa_cons (pv 2) pa_nil)) (pa_cons (pe_tup (pa_cons (pe_tup (pa_cons pe_int (pa_cons pe_int pa_nil))) pa_nil)) pa_nil))) (pa_cons (pe_fn h_is_reached (hr.mono (by decide)) (by rfl) (pa_cons (pe_tup (pa_cons (pv 2) pa_nil)) (pa_cons (pe_tup (pa_cons (pe_tup (pa_cons pe_int (pa_cons pe_int pa_nil))) pa_nil)) pa_nil))) pa_nil)))))))
    (pss_one (ps_ret (pe_fn h_law_same (hr.mono (by decide)) (by rfl) (pa_cons (pv 5) (pa_cons (pe_op op_cat (pv 6) (pe_lst (pa_cons (pe_op op_cat (pe_lst (pa_cons pe_bl pa_nil)) (pe_op op_rep (pe_lst (pa_cons pe_bl pa_nil)) pe_int)) (pa_cons pe_bl (pa_cons pe_bl (pa_cons pe_bl pa_nil)))))) pa_nil))))))))))))
abbrev s_law_pairs_right : Stmt := topS 83
theorem sc_law_pairs_right : FnScope ["_law_tin", "_law_disk_here", "_law_turns_so", "_law_frac_so", "_law_way_so", "_law_own", "_law_things_so", "_law_got", "_law_due", "_law_lap", "_law_its"] ["_law_tin"] (defScope s_law_pairs_right) := ⟨rfl, rfl, rfl, by decide +kernel, rfl, by decide +kernel, by decide +kernel⟩
def t_law_pairs_right (K : PySem.W.Frag) (S_law_disk S_law_is_more S_law_is_moved S_law_less S_law_mirror S_law_near S_law_raised S_law_same S_law_soon_turning S_law_spoilt_pair S_law_take S_is_lowered S_is_raised : Sp) : TS :=
  (tSeq (tAsg (tCall S_law_disk [] E0 (tCons (tVar 0) (tCons (tOp xAdd (tC (.int 1)) (tCall S_law_take [] E0 (tCons (tVar 0) (tCons (tC (.int 6)) tNil)))) tNil))) (gName 1))
    (tSeq (tAsg (tCall S_law_soon_turning [] E0 (tCons (tVar 1) tNil)) (gName 2))
    (tSeq (tAsg (tTup (tCons (tCall S_law_near [] E0 (tCons (tVar 0) (tCons (tVar 2) tNil))) (tCons (tC (.int 1)) tNil))) (gTup K 2 (gCons (gName 3) (gCons (gName 4) gNil))))
    (tSeq (tIfS (tB (tCall S_law_is_more [] E0 (tCons (tVar 2) (tCons (tVar 3) tNil)))) (tAsg (tTup (tCons (tTup (tCons (tCall S_law_mirror [] E0 (tCons (tCall S_law_raised [] E0 (tCons (tCall S_law_mirror [] E0 (tCons (tVar 1) tNil)) (tCons (tCall S_law_less [] E0 (tCons (tVar 3) tNil)) tNil))) tNil)) (tCons (tOp (rIxT K) (tVar 3) (tC (.int 1))) tNil))) (tCons (tUn xNeg (tC (.int 1))) tNil))) (gTup K 2 (gCons (gName 5) (gCons (gName 4) gNil)))) (tAsg (tTup (tCons (tCall S_law_raised [] E0 (tCons (tVar 1) (tCons (tVar 3) tNil))) (tCons (tOp (rIxT K) (tVar 3) (tC (.int 1))) tNil))) (gName 5)))
    (tSeq (tAsg (tOp rCat (tLst (tCons (tVar 5) (tCons (tTup (tCons (tVar 1) (tCons (tC (.int 1)) tNil))) tNil))) (tLc (iRng1 (tCons (tC (.int 4)) tNil)) (gName 9) tYes (tCall S_law_spoilt_pair [] E0 (tCons (tVar 0) (tCons (tVar 5) tNil))) [9])) (gName 6))
    (tSeq (tAsg (tLst (tCons (tLc (iList K (tVar 6)) (gName 10) tYes (tCall S_is_raised [] E0 (tCons (tVar 1) (tCons (tVar 3) (tCons (tVar 10) tNil)))) [10]) (tCons (tLc (iList K (tVar 6)) (gName 10) tYes (tCall S_is_lowered [] E0 (tCons (tVar 1) (tCons (tVar 3) (tCons (tVar 10) tNil)))) [10]) tNil))) (gName 7))
    (tSeq (tAsg (tLst (tCons (tLc (iList K (tVar 6)) (gName 10) tYes (tCall S_law_is_moved [] E0 (tCons (tVar 1) (tCons (tVar 3) (tCons (tVar 10) (tCons (tC (.int 1)) tNil))))) [10]) (tCons (tLc (iList K (tVar 6)) (gName 10) tYes (tCall S_law_is_moved [] E0 (tCons (tVar 1) (tCons (tVar 3) (tCons (tVar 10) (tCons (tUn xNeg (tC (.int 1))) tNil))))) [10]) tNil))) (gName 8))
    (tRet (tAndV (tOp (rEqD K) (tOp (rIxL K) (tOp (rIxL K) (tVar 8) (tC (.int 0))) (tC (.int 0))) (tOrV (tOp xGt (tVar 4) (tC (.int 0))) (tOp (rEqD K) (tVar 3) (tVar 2)))) (tCall S_law_same [] E0 (tCons (tVar 7) (tCons (tVar 8) tNil))))))))))))
theorem p_law_pairs_right {P : Program} {w : World} {K : PySem.W.Frag} {mg : Str → Option Value} {base : Heap} (G : Glob mg) {S_law_disk : Sp} (h_law_disk : Has P w K mg base 2 "_law_disk" ["_law_tin", "_law_ring_so"] S_law_disk) {S_law_is_more : Sp} (h_law_is_more : Has P w K mg base 1 "_law_is_more" ["_law_one_so", "_law_two_so"] S_law_is_more) {S_law_is_moved : Sp} (h_law_is_moved : Has P w K mg base 3 "_law_is_moved" ["_law_disk_here", "_law_frac_so", "_law_matter", "_law_way_so"] S_law_is_moved) {S_law_less : Sp} (h_law_less : Has P w K mg base 1 "_law_less" ["_law_frac_so"] S_law_less) {S_law_mirror : Sp} (h_law_mirror : Has P w K mg base 2 "_law_mirror" ["_law_disk_here"] S_law_mirror) {S_law_near : Sp} (h_law_near : Has P w K mg base 2 "_law_near" ["_law_tin", "_law_frac_so"] S_law_near) {S_law_raised : Sp} (h_law_raised : Has P w K mg base 3 "_law_raised" ["_law_disk_here", "_law_frac_so"] S_law_raised) {S_law_same : Sp} (h_law_same : Has P w K mg base 5 "_law_same" ["_law_got", "_law_due"] S_law_same) {S_law_soon_turning : Sp} (h_law_soon_turning : Has P w K mg base 2 "_law_soon_turning" ["_law_disk_here"] S_law_soon_turning) {S_law_spoilt_pair : Sp} (h_law_spoilt_pair : Has P w K mg base 3 "_law_spoilt_pair" ["_law_tin", "_law_pair_so"] S_law_spoilt_pair) {S_law_take : Sp} (h_law_take : Has P w K mg base 1 "_law_take" ["_law_tin", "_law_below_so"] S_law_take) {S_is_lowered : Sp} (h_is_lowered : Has P w K mg base 5 "is_lowered" ["wheel", "fraction", "thing"] S_is_lowered) {S_is_raised : Sp} (h_is_raised : Has P w K mg base 5 "is_raised" ["wheel", "fraction", "thing"] S_is_raised) {f : Addr} {cdv : Value} {A : Around} {outer : List Env} {s : Shared} {H : Hp} {E : XK} (hr : Room 5 (A.deeper (PyProof.Rows.envOfC "_law_pairs_right" (defScope s_law_pairs_right) s.heap.objs.size f cdv))) :
    PSs (cxOf CX0 P w K mg base ["_law_tin", "_law_disk_here", "_law_turns_so", "_law_frac_so", "_law_way_so", "_law_own", "_law_things_so", "_law_got", "_law_due", "_law_lap", "_law_its"] "_law_pairs_right" (defScope s_law_pairs_right) f cdv A outer s H E).nox (defBody s_law_pairs_right) (t_law_pairs_right K S_law_disk S_law_is_more S_law_is_moved S_law_less S_law_mirror S_law_near S_law_raised S_law_same S_law_soon_turning S_law_spoilt_pair S_law_take S_is_lowered S_is_raised) :=
  (pss_cons (ps_set (i := 1) sc_law_pairs_right.nd rfl (Or.inr rfl) (pe_fn h_law_disk (hr.mono (by decide)) (by rfl) (pa_cons (pv 0) (pa_cons (pe_op op_add pe_int (pe_fn h_law_take (hr.mono (by decide)) (by rfl) (pa_cons (pv 0) (pa_cons pe_int pa_nil)))) pa_nil))))
    (pss_cons (ps_set (i := 2) sc_law_pairs_right.nd rfl (Or.inl rfl) (pe_fn h_law_soon_turning (hr.mono (by decide)) (by rfl) (pa_cons (pv 1) pa_nil)))
    (pss_cons (ps_asg (pe_tup (pa_cons (pe_fn h_law_near (hr.mono (by decide)) (by rfl) (pa_cons (pv 0) (pa_cons (pv 2) pa_nil))) (pa_cons pe_int pa_nil))) (pg_tup rfl (pgs_cons (pg_name (i := 3) sc_law_pairs_right.nd rfl (Or.inr rfl)) (pgs_cons (pg_name (i := 4) sc_law_pairs_right.nd rfl (Or.inl rfl)) pgs_nil))))
    (pss_cons (ps_if (pt_val (pe_fn h_law_is_more (hr.mono (by decide)) (by rfl) (pa_cons (pv 2) (pa_cons (pv 3) pa_nil)))) (pss_one (ps_asg (pe_tup (pa_cons (pe_tup (pa_cons (pe_fn h_law_mirror (hr.mono (by decide)) (by rfl) (pa_cons (pe_fn h_law_raised (hr.mono (by decide)) (by rfl) (pa_cons (pe_fn h_law_mirror (hr.mono (by decide)) (by rfl) (pa_cons (pv 1) pa_nil)) (pa_cons (pe_fn h_law_less (hr.mono (by decide)) (by rfl) (pa_cons (pv 3) pa_nil)) pa_nil))) pa_nil)) (pa_cons (pe_ix ix_tup (pv 3) pe_int (fun _ _ => rfl)) pa_nil))) (pa_cons (pe_un un_neg pe_int) pa_nil))) (pg_tup rfl (pgs_cons (pg_name (i := 5) sc_law_pairs_right.nd rfl (Or.inr rfl)) (pgs_cons (pg_name (i := 4) sc_law_pairs_right.nd rfl (Or.inl rfl)) pgs_nil))))) (pss_one (ps_set (i := 5) sc_law_pairs_right.nd rfl (Or.inr rfl) (pe_tup (pa_cons (pe_fn h_law_raised (hr.mono (by decide)) (by rfl) (pa_cons (pv 1) (pa_cons (pv 3) pa_nil))) (pa_cons (pe_ix ix_tup (pv 3) pe_int (fun _ _ => rfl)) pa_nil))))))
    (pss_cons (ps_set (i := 6) sc_law_pairs_right.nd rfl (Or.inl rfl) (pe_op op_cat (pe_lst (pa_cons (pv 5) (pa_cons (pe_tup (pa_cons (pv 1) (pa_cons pe_int pa_nil))) pa_nil))) (pe_lc (own := [("_law_lap", 9)]) (g := (gName 9)) (tt := tYes) rfl sc_law_pairs_right.nd (pi_range1 (by rfl) G.z_range (pa_cons pe_int pa_nil)) (blkOk_by (N := ["_law_tin", "_law_disk_here", "_law_turns_so", "_law_frac_so", "_law_way_so", "_law_own", "_law_things_so", "_law_got", "_law_due", "_law_lap", "_law_its"]) (sc := defScope s_law_pairs_right) (by decide +kernel)) (fun _ _ _ _ _ => (pg_name (i := 9) sc_law_pairs_right.nd rfl (Or.inl rfl))) (fun _ _ _ _ _ => pts_nil) (fun _ _ _ _ _ => (pe_fn h_law_spoilt_pair (hr.mono (by decide)) (by rfl) (pa_cons (pv 0) (pa_cons (pv 5) pa_nil)))))))
    (pss_cons (ps_set (i := 7) sc_law_pairs_right.nd rfl (Or.inl rfl) (pe_lst (pa_cons (pe_lc (own := [("_law_its", 10)]) (g := (gName 10)) (tt := tYes) rfl sc_law_pairs_right.nd (pi_list (pv 6)) (blkOk_by (N := ["_law_tin", "_law_disk_here", "_law_turns_so", "_law_frac_so", "_law_way_so", "_law_own", "_law_things_so", "_law_got", "_law_due", "_law_lap", "_law_its"]) (sc := defScope s_law_pairs_right) (by decide +kernel)) (fun _ _ _ _ _ => (pg_name (i := 10) sc_law_pairs_right.nd rfl (Or.inl rfl))) (fun _ _ _ _ _ => pts_nil) (fun _ _ _ _ _ => (pe_fn h_is_raised (hr.mono (by decide)) (by rfl) (pa_cons (pv 1) (pa_cons (pv 3) (pa_cons (pv 10) pa_nil)))))) (pa_cons (pe_lc (own := [("_law_its", 10)]) (g := (gName 10)) (tt := tYes) rfl sc_law_pairs_right.nd (pi_list (pv 6)) (blkOk_by (N := ["_law_tin", "_law_disk_here", "_law_turns_so", "_law_frac_so", "_law_way_so", "_law_own", "_law_things_so", "_law_got", "_law_due", "_law_lap", "_law_its"]) (sc := defScope s_law_pairs_right) (by decide +kernel)) (fun _ _ _ _ _ => (pg_name (i := 10) sc_law_pairs_right.nd rfl (Or.inl rfl))) (fun _ _ _ _ _ => pts_nil) (fun _ _ _ _ _ => (pe_fn h_is_lowered (hr.mono (by decide)) (by rfl) (pa_cons (pv 1) (pa_cons (pv 3) (pa_cons (pv 10) pa_nil)))))) pa_nil))))
    (pss_cons (ps_set (i := 8) sc_law_pairs_right.nd rfl (Or.inl rfl) (pe_lst (pa_cons (pe_lc (own := [("_law_its", 10)]) (g := (gName 10)) (tt := tYes) rfl sc_law_pairs_right.nd (pi_list (pv 6)) (blkOk_by (N := ["_law_tin", "_law_disk_here", "_law_turns_so", "_law_frac_so", "_law_way_so", "_law_own", "_law_things_so", "_law_got", "_law_due", "_law_lap", "_law_its"]) (sc := defScope s_law_pairs_right) (by decide +kernel)) (fun _ _ _ _ _ => (pg_name (i := 10) sc_law_pairs_right.nd rfl (Or.inl rfl))) (fun _ _ _ _ _ => pts_nil) (fun _ _ _ _ _ => (pe_fn h_law_is_moved (hr.mono (by decide)) (by rfl) (pa_cons (pv 1) (pa_cons (pv 3) (pa_cons (pv 10) (pa_cons pe_int pa_nil))))))) (pa_cons (pe_lc (own := [("_law_its", 10)]) (g := (gName 10)) (tt := tYes) rfl sc_law_pairs_right.nd (pi_list (pv 6)) (blkOk_by (N := ["_law_tin", "_law_disk_here", "_law_turns_so", "_law_frac_so", "_law_way_so", "_law_own", "_law_things_so", "_law_got", "_law_due", "_law_lap", "_law_its"]) (sc := defScope s_law_pairs_right) (by decide +kernel)) (fun _ _ _ _ _ => (pg_name (i := 10) sc_law_pairs_right.nd rfl (Or.inl rfl))) (fun _ _ _ _ _ => pts_nil) (fun _ _ _ _ _ => (pe_fn h_law_is_moved (hr.mono (by decide)) (by rfl) (pa_cons (pv 1) (pa_cons (pv 3) (pa_cons (pv 10) (pa_cons (pe_un un_neg pe_int) pa_nil))))))) pa_nil))))
    (pss_one (ps_ret (pe_and (pe_cmpR (op_eqD hr.units) (pe_ix ix_list (pe_ix ix_list (pv 8) pe_int (fun _ _ => rfl)) pe_int (fun _ _ => rfl)) (pe_or (pe_cmpR op_gt (pv 4) pe_int (nomark _)) (pe_one (pe_cmpR (op_eqD hr.units) (pv 3) (pv 2) (nomark _)))) (nomark _)) (pe_one (pe_fn h_law_same (hr.mono (by decide)) (by rfl) (pa_cons (pv 7) (pa_cons (pv 8) pa_nil))))))))))))))
abbrev s_law_right : Stmt := topS 84
theorem sc_law_right : FnScope ["_law_tin", "_law_marks_so", "_law_way_so", "_law_own", "_law_things_so", "_law_any_so", "_law_rows_so", "_law_got", "_law_due", "_law_lap", "_law_its"] ["_law_tin"] (defScope s_law_right) := ⟨rfl, rfl, rfl, by decide +kernel, rfl, by decide +kernel, by decide +kernel⟩
def t_law_right (K : PySem.W.Frag) (S_law_disks S_law_less S_law_marks S_law_mirror S_law_of S_law_own_train S_law_pairs_right S_law_reaches S_law_same S_law_soon_turning S_law_spoilt_train S_law_take S_is_lowest S_is_reached : Sp) : TS :=
  (tSeq (tIfS (tNot (tB (tCall S_law_pairs_right [] E0 (tCons (tVar 0) tNil)))) (tRet (tC (.bl false))) tNext)
    (tSeq (tAsg (tTup (tCons (tCall S_law_marks [] E0 (tCons (tVar 0) (tCons (tOp xAdd (tC (.int 1)) (tCall S_law_take [] E0 (tCons (tVar 0) (tCons (tC (.int 3)) tNil)))) (tCons (tC (.int 3)) tNil)))) (tCons (tCall S_law_of [] E0 (tCons (tVar 0) (tCons (tLst (tCons (tC (.int 1)) (tCons (tUn xNeg (tC (.int 1))) tNil))) tNil))) tNil))) (gTup K 2 (gCons (gName 1) (gCons (gName 2) gNil))))
    (tSeq (tAsg (tCall S_law_own_train [] E0 (tCons (tVar 1) tNil)) (gName 3))
    (tSeq (tIfS (tTest (tOp xLt (tVar 2) (tC (.int 0)))) (tAsg (tCB (rTupOf K) (tCons (tLc (iTup K (tCall S_law_own_train [] E0 (tCons (tCB (rTupOf K) (tCons (tLc (iTup K (tVar 1)) (gName 10) tYes (tCall S_law_less [] E0 (tCons (tVar 10) tNil)) [10]) tNil)) tNil))) (gName 10) tYes (tCall S_law_mirror [] E0 (tCons (tVar 10) tNil)) [10]) tNil)) (gName 3)) tNext)
    (tSeq (tAsg (tOp rCat (tLst (tCons (tVar 3) tNil)) (tLc (iRng1 (tCons (tC (.int 3)) tNil)) (gName 9) tYes (tCall S_law_spoilt_train [] E0 (tCons (tVar 0) (tCons (tVar 3) tNil))) [9])) (gName 4))
    (tSeq (tAsg (tCall S_law_disks [] E0 (tCons (tVar 0) (tCons (tOp xAdd (tC (.int 1)) (tCall S_law_take [] E0 (tCons (tVar 0) (tCons (tC (.int 6)) tNil)))) (tCons (tCB (rLenS K) (tCons (tVar 1) tNil)) tNil)))) (gName 5))
    (tSeq (tAsg (tCB (rTupOf K) (tCons (tLc (iTup K (tVar 5)) (gName 10) tYes (tCall S_law_soon_turning [] E0 (tCons (tVar 10) tNil)) [10]) tNil)) (gName 6))
    (tSeq (tAsg (tLst (tCons (tLc (iList K (tVar 4)) (gName 10) tYes (tCall S_is_reached [] E0 (tCons (tVar 1) (tCons (tVar 10) tNil))) [10]) (tCons (tLc (iList K (tVar 4)) (gName 10) tYes (tCall S_is_lowest [] E0 (tCons (tVar 1) (tCons (tVar 10) tNil))) [10]) tNil))) (gName 7))
    (tSeq (tAsg (tLst (tCons (tLc (iList K (tVar 4)) (gName 10) tYes (tCall S_law_reaches [] E0 (tCons (tVar 1) (tCons (tVar 10) (tCons (tC (.int 1)) tNil)))) [10]) (tCons (tLc (iList K (tVar 4)) (gName 10) tYes (tCall S_law_reaches [] E0 (tCons (tVar 1) (tCons (tVar 10) (tCons (tUn xNeg (tC (.int 1))) tNil)))) [10]) tNil))) (gName 8))
    (tSeq (tAsg (tOp rCat (tVar 7) (tLst (tCons (tCall S_is_reached [] E0 (tCons (tVar 6) (tCons (tVar 5) tNil))) (tCons (tCall S_is_lowest [] E0 (tCons (tVar 6) (tCons (tVar 5) tNil))) tNil)))) (gName 7))
    (tSeq (tAsg (tOp rCat (tVar 8) (tLst (tCons (tCall S_law_reaches [] E0 (tCons (tVar 6) (tCons (tVar 5) (tCons (tC (.int 1)) tNil)))) (tCons (tCall S_law_reaches [] E0 (tCons (tVar 6) (tCons (tVar 5) (tCons (tUn xNeg (tC (.int 1))) tNil)))) tNil)))) (gName 8))
    (tRet (tCall S_law_same [] E0 (tCons (tVar 7) (tCons (tVar 8) tNil)))))))))))))))
theorem p_law_right {P : Program} {w : World} {K : PySem.W.Frag} {mg : Str → Option Value} {base : Heap} (G : Glob mg) {S_law_disks : Sp} (h_law_disks : Has P w K mg base 3 "_law_disks" ["_law_tin", "_law_ring_so", "_law_many_so"] S_law_disks) {S_law_less : Sp} (h_law_less : Has P w K mg base 1 "_law_less" ["_law_frac_so"] S_law_less) {S_law_marks : Sp} (h_law_marks : Has P w K mg base 3 "_law_marks" ["_law_tin", "_law_many_so", "_law_most_so"] S_law_marks) {S_law_mirror : Sp} (h_law_mirror : Has P w K mg base 2 "_law_mirror" ["_law_disk_here"] S_law_mirror) {S_law_of : Sp} (h_law_of : Has P w K mg base 2 "_law_of" ["_law_tin", "_law_goods_so"] S_law_of) {S_law_own_train : Sp} (h_law_own_train : Has P w K mg base 4 "_law_own_train" ["_law_marks_so"] S_law_own_train) {S_law_pairs_right : Sp} (h_law_pairs_right : Has P w K mg base 6 "_law_pairs_right" ["_law_tin"] S_law_pairs_right) {S_law_reaches : Sp} (h_law_reaches : Has P w K mg base 5 "_law_reaches" ["_law_marks_so", "_law_matter", "_law_way_so"] S_law_reaches) {S_law_same : Sp} (h_law_same : Has P w K mg base 5 "_law_same" ["_law_got", "_law_due"] S_law_same) {S_law_soon_turning : Sp} (h_law_soon_turning : Has P w K mg base 2 "_law_soon_turning" ["_law_disk_here"] S_law_soon_turning) {S_law_spoilt_train : Sp} (h_law_spoilt_train : Has P w K mg base 3 "_law_spoilt_train" ["_law_tin", "_law_train_so"] S_law_spoilt_train) {S_law_take : Sp} (h_law_take : Has P w K mg base 1 "_law_take" ["_law_tin", "_law_below_so"] S_law_take) {S_is_lowest : Sp} (h_is_lowest : Has P w K mg base 9 "is_lowest" ["turns", "thing"] S_is_lowest) {S_is_reached : Sp} (h_is_reached : Has P w K mg base 9 "is_reached" ["turns", "thing"] S_is_reached) {f : Addr} {cdv : Value} {A : Around} {outer : List Env} {s : Shared} {H : Hp} {E : XK} (hr : Room 9 (A.deeper (PyProof.Rows.envOfC "_law_right" (defScope s_law_right) s.heap.objs.size f cdv))) :
    PSs (cxOf CX0 P w K mg base ["_law_tin", "_law_marks_so", "_law_way_so", "_law_own", "_law_things_so", "_law_any_so", "_law_rows_so", "_law_got", "_law_due", "_law_lap", "_law_its"] "_law_right" (defScope s_law_right) f cdv A outer s H E).nox (defBody s_law_right) (t_law_right K S_law_disks S_law_less S_law_marks S_law_mirror S_law_of S_law_own_train S_law_pairs_right S_law_reaches S_law_same S_law_soon_turning S_law_spoilt_train S_law_take S_is_lowest S_is_reached) :=
  (pss_cons (ps_if (pt_not (pt_val (pe_fn h_law_pairs_right (hr.mono (by decide)) (by rfl) (pa_cons (pv 0) pa_nil)))) (pss_one (ps_ret pe_bl)) pss_nil)
    (pss_cons (ps_asg (pe_tup (pa_cons (pe_fn h_law_marks (hr.mono (by decide)) (by rfl) (pa_cons (pv 0) (pa_cons (pe_op op_add pe_int (pe_fn h_law_take (hr.mono (by decide)) (by rfl) (pa_cons (pv 0) (pa_cons pe_int pa_nil)))) (pa_cons pe_int pa_nil)))) (pa_cons (pe_fn h_law_of (hr.mono (by decide)) (by rfl) (pa_cons (pv 0) (pa_cons (pe_lst (pa_cons pe_int (pa_cons (pe_un un_neg pe_int) pa_nil))) pa_nil))) pa_nil))) (pg_tup rfl (pgs_cons (pg_name (i := 1) sc_law_right.nd rfl (Or.inr rfl)) (pgs_cons (pg_name (i := 2) sc_law_right.nd rfl (Or.inl rfl)) pgs_nil))))
    (pss_cons (ps_set (i := 3) sc_law_right.nd rfl (Or.inr rfl) (pe_fn h_law_own_train (hr.mono (by decide)) (by rfl) (pa_cons (pv 1) pa_nil)))
    (pss_cons (ps_if (pt_cmpR op_lt (pv 2) pe_int (nomark _)) (pss_one (ps_set (i := 3) sc_law_right.nd rfl (Or.inr rfl) (pe_callTy call_tuple_of (by rfl) G.z_tuple (by decide +kernel) (pa_cons (pe_lc (own := [("_law_its", 10)]) (g := (gName 10)) (tt := tYes) rfl sc_law_right.nd (pi_tup (pe_fn h_law_own_train (hr.mono (by decide)) (by rfl) (pa_cons (pe_callTy call_tuple_of (by rfl) G.z_tuple (by decide +kernel) (pa_cons (pe_lc (own := [("_law_its", 10)]) (g := (gName 10)) (tt := tYes) rfl sc_law_right.nd (pi_tup (pv 1)) (blkOk_by (N := ["_law_tin", "_law_marks_so", "_law_way_so", "_law_own", "_law_things_so", "_law_any_so", "_law_rows_so", "_law_got", "_law_due", "_law_lap", "_law_its"]) (sc := defScope s_law_right) (by decide +kernel)) (fun _ _ _ _ _ => (pg_name (i := 10) sc_law_right.nd rfl (Or.inl rfl))) (fun _ _ _ _ _ => pts_nil) (fun _ _ _ _ _ => (pe_fn h_law_less (hr.mono (by decide)) (by rfl) (pa_cons (pv 10) pa_nil)))) pa_nil)) pa_nil))) (blkOk_by (N := ["_law_tin", "_law_marks_so", "_law_way_so", "_law_own", "_law_things_so", "_law_any_so", "_law_rows_so", "_law_got", "_law_due", "_law_lap", "_law_its"]) (sc := defScope s_law_right) (by decide +kernel)) (fun _ _ _ _ _ => (pg_name (i := 10) sc_law_right.nd rfl (Or.inl rfl))) (fun _ _ _ _ _ => pts_nil) (fun _ _ _ _ _ => (pe_fn h_law_mirror (hr.mono (by decide)) (by rfl) (pa_cons (pv 10) pa_nil)))) pa_nil)))) pss_nil)
    (pss_cons (ps_set (i := 4) sc_law_right.nd rfl (Or.inl rfl) (pe_op op_cat (pe_lst (pa_cons (pv 3) pa_nil)) (pe_lc (own := [("_law_lap", 9)]) (g := (gName 9)) (tt := tYes) rfl sc_law_right.nd (pi_range1 (by rfl) G.z_range (pa_cons pe_int pa_nil)) (blkOk_by (N := ["_law_tin", "_law_marks_so", "_law_way_so", "_law_own", "_law_things_so", "_law_any_so", "_law_rows_so", "_law_got", "_law_due", "_law_lap", "_law_its"]) (sc := defScope s_law_right) (by decide +kernel)) (fun _ _ _ _ _ => (pg_name (i := 9) sc_law_right.nd rfl (Or.inl rfl))) (fun _ _ _ _ _ => pts_nil) (fun _ _ _ _ _ => (pe_fn h_law_spoilt_train (hr.mono (by decide)) (by rfl) (pa_cons (pv 0) (pa_cons (pv 3) pa_nil)))))))
    (pss_cons (ps_set (i := 5) sc_law_right.nd rfl (Or.inl rfl) (pe_fn h_law_disks (hr.mono (by decide)) (by rfl) (pa_cons (pv 0) (pa_cons (pe_op op_add pe_int (pe_fn h_law_take (hr.mono (by decide)) (by rfl) (pa_cons (pv 0) (pa_cons pe_int pa_nil)))) (pa_cons (pe_callB call_len_seq (by rfl) G.z_len (by decide +kernel) (pa_cons (pv 1) pa_nil)) pa_nil)))))
    (pss_cons (ps_set (i := 6) sc_law_right.nd rfl (Or.inl rfl) (pe_callTy call_tuple_of (by rfl) G.z_tuple (by decide +kernel) (pa_cons (pe_lc (own := [("_law_its", 10)]) (g := (gName 10)) (tt := tYes) rfl sc_law_right.nd (pi_tup (pv 5)) (blkOk_by (N := ["_law_tin", "_law_marks_so", "_law_way_so", "_law_own", "_law_things_so", "_law_any_so", "_law_rows_so", "_law_got", "_law_due", "_law_lap", "_law_its"]) (sc := defScope s_law_right) (by decide +kernel)) (fun _ _ _ _ _ => (pg_name (i := 10) sc_law_right.nd rfl (Or.inl rfl))) (fun _ _ _ _ _ => pts_nil) (fun _ _ _ _ _ => (pe_fn h_law_soon_turning (hr.mono (by decide)) (by rfl) (pa_cons (pv 10) pa_nil)))) pa_nil)))
    (pss_cons (ps_set (i := 7) sc_law_right.nd rfl (Or.inl rfl) (pe_lst (pa_cons (pe_lc (own := [("_law_its", 10)]) (g := (gName 10)) (tt := tYes) rfl sc_law_right.nd (pi_list (pv 4)) (blkOk_by (N := ["_law_tin", "_law_marks_so", "_law_way_so", "_law_own", "_law_things_so", "_law_any_so", "_law_rows_so", "_law_got", "_law_due", "_law_lap", "_law_its"]) (sc := defScope s_law_right) (by decide +kernel)) (fun _ _ _ _ _ => (pg_name (i := 10) sc_law_right.nd rfl (Or.inl rfl))) (fun _ _ _ _ _ => pts_nil) (fun _ _ _ _ _ => (pe_fn h_is_reached (hr.mono (by decide)) (by rfl) (pa_cons (pv 1) (pa_cons (pv 10) pa_nil))))) (pa_cons (pe_lc (own := [("_law_its", 10)]) (g := (gName 10)) (tt := tYes) rfl sc_law_right.nd (pi_list (pv 4)) (blkOk_by (N := ["_law_tin", "_law_marks_so", "_law_way_so", "_law_own", "_law_things_so", "_law_any_so", "_law_rows_so", "_law_got", "_law_due", "_law_lap", "_law_its"]) (sc := defScope s_law_right) (by decide +kernel)) (fun _ _ _ _ _ => (pg_name (i := 10) sc_law_right.nd rfl (Or.inl rfl))) (fun _ _ _ _ _ => pts_nil) (fun _ _ _ _ _ => (pe_fn h_is_lowest (hr.mono (by decide)) (by rfl) (pa_cons (pv 1) (pa_cons (pv 10) pa_nil))))) pa_nil))))
    (pss_cons (ps_set (i := 8) sc_law_right.nd rfl (Or.inl rfl) (pe_lst (pa_cons (pe_lc (own := [("_law_its", 10)]) (g := (gName 10)) (tt := tYes) rfl sc_law_right.nd (pi_list (pv 4)) (blkOk_by (N := ["_law_tin", "_law_marks_so", "_law_way_so", "_law_own", "_law_things_so", "_law_any_so", "_law_rows_so", "_law_got", "_law_due", "_law_lap", "_law_its"]) (sc := defScope s_law_right) (by decide +kernel)) (fun _ _ _ _ _ => (pg_name (i := 10) sc_law_right.nd rfl (Or.inl rfl))) (fun _ _ _ _ _ => pts_nil) (fun _ _ _ _ _ => (pe_fn h_law_reaches (hr.mono (by decide)) (by rfl) (pa_cons (pv 1) (pa_cons (pv 10) (pa_cons pe_int pa_nil)))))) (pa_cons (pe_lc (own := [("_law_its", 10)]) (g := (gName 10)) (tt := tYes) rfl sc_law_right.nd (pi_list (pv 4)) (blkOk_by (N := ["_law_tin", "_law_marks_so", "_law_way_so", "_law_own", "_law_things_so", "_law_any_so", "_law_rows_so", "_law_got", "_law_due", "_law_lap", "_law_its"]) (sc := defScope s_law_right) (by decide +kernel)) (fun _ _ _ _ _ => (pg_name (i := 10) sc_law_right.nd rfl (Or.inl rfl))) (fun _ _ _ _ _ => pts_nil) (fun _ _ _ _ _ => (pe_fn h_law_reaches (hr.mono (by decide)) (by rfl) (pa_cons (pv 1) (pa_cons (pv 10) (pa_cons (pe_un un_neg pe_int) pa_nil)))))) pa_nil))))
    (pss_cons (ps_set (i := 7) sc_law_right.nd rfl (Or.inl rfl) (pe_op op_cat (pv 7) (pe_lst (pa_cons (pe_fn h_is_reached (hr.mono (by decide)) (by rfl) (pa_cons (pv 6) (pa_cons (pv 5) pa_nil))) (pa_cons (pe_fn h_is_lowest (hr.mono (by decide)) (by rfl) (pa_cons (pv 6) (pa_cons (pv 5) pa_nil))) pa_nil)))))
    (pss_cons (ps_set (i := 8) sc_law_right.nd rfl (Or.inl rfl) (pe_op op_cat (pv 8) (pe_lst (pa_cons (pe_fn h_law_reaches (hr.mono (by decide)) (by rfl) (pa_cons (pv 6) (pa_cons (pv 5) (pa_cons pe_int pa_nil)))) (pa_cons (pe_fn h_law_reaches (hr.mono (by decide)) (by rfl) (pa_cons (pv 6) (pa_cons (pv 5) (pa_cons (pe_un un_neg pe_int) pa_nil)))) pa_nil)))))
    (pss_one (ps_ret (pe_fn h_law_same (hr.mono (by decide)) (by rfl) (pa_cons (pv 7) (pa_cons (pv 8) pa_nil))))))))))))))))
end DL
set_option Elab.async false
set_option linter.all false
set_option maxRecDepth 100000
set_option maxHeartbeats 4000000
namespace DL
open PySem L2 PyProof.Rows RZ
abbrev s_law : Stmt := topS 85
theorem sc_law : FnScope ["_law_script"] ["_law_script"] (defScope s_law) := ⟨rfl, rfl, rfl, by decide +kernel, rfl, by decide +kernel, by decide +kernel⟩
def t_law (K : PySem.W.Frag) (S_law_box S_law_by_hand_right S_law_cells S_law_right : Sp) : TS :=
  (tRet (tAndV (tCall S_law_by_hand_right [] E0 tNil) (tCall S_law_right [] E0 (tCons (tCall S_law_box [] E0 (tCons (tCall S_law_cells [] E0 (tCons (tVar 0) (tCons (tC (.int 1)) tNil))) (tCons (tC (.int 0)) tNil))) tNil))))
theorem p_law {P : Program} {w : World} {K : PySem.W.Frag} {mg : Str → Option Value} {base : Heap} (G : Glob mg) {S_law_box : Sp} (h_law_box : Has P w K mg base 1 "_law_box" ["_law_script", "_law_k"] S_law_box) {S_law_by_hand_right : Sp} (h_law_by_hand_right : Has P w K mg base 10 "_law_by_hand_right" [] S_law_by_hand_right) {S_law_cells : Sp} (h_law_cells : Has P w K mg base 1 "_law_cells" ["_law_script", "_law_most_so"] S_law_cells) {S_law_right : Sp} (h_law_right : Has P w K mg base 10 "_law_right" ["_law_tin"] S_law_right) {f : Addr} {cdv : Value} {A : Around} {outer : List Env} {s : Shared} {H : Hp} {E : XK} (hr : Room 10 (A.deeper (PyProof.Rows.envOfC "law" (defScope s_law) s.heap.objs.size f cdv))) :
    PSs (cxOf CX0 P w K mg base ["_law_script"] "law" (defScope s_law) f cdv A outer s H E).nox (defBody s_law) (t_law K S_law_box S_law_by_hand_right S_law_cells S_law_right) :=
  (pss_one (ps_ret (pe_and (pe_fn0 h_law_by_hand_right (hr.mono (by decide)) (by rfl)) (pe_one (pe_fn h_law_right (hr.mono (by decide)) (by rfl) (pa_cons (pe_fn h_law_box (hr.mono (by decide)) (by rfl) (pa_cons (pe_fn h_law_cells (hr.mono (by decide)) (by rfl) (pa_cons (pv 0) (pa_cons pe_int pa_nil))) (pa_cons pe_int pa_nil))) pa_nil))))))
end DL
set_option Elab.async false
set_option linter.all false
set_option maxRecDepth 100000
set_option maxHeartbeats 2000000
namespace DL
open PySem L2 PyProof.Rows RZ

/-! ### forms of data -/
abbrev ti (ws : List Int) : D := .tup (ws.map D.int)
abbrev li (ws : List Int) : D := .lst (ws.map D.int)
abbrev fr (f : Int × Int) : D := .tup [.int f.1, .int f.2]
abbrev tf (fs : List (Int × Int)) : D := .tup (fs.map fr)
abbrev tt (ts : List (List Int)) : D := .tup (ts.map ti)
/-- of so many levels at most, no list or tuple longer than the bound -/
def Sm : Nat → D → Prop
  | _, .non => True
  | _, .bl _ => True
  | _, .int _ => True
  | n + 1, .lst ds => ds.length ≤ 100000 ∧ ∀ d ∈ ds, Sm n d
  | n + 1, .tup ds => ds.length ≤ 100000 ∧ ∀ d ∈ ds, Sm n d
  | 0, .lst _ => False
  | 0, .tup _ => False
theorem Sm.up : ∀ {n : Nat} {d : D}, Sm n d → Sm (n + 1) d
  | n, .non, _ => by cases n <;> trivial
  | n, .bl _, _ => by cases n <;> trivial
  | n, .int _, _ => by cases n <;> trivial
  | 0, .lst _, h => h.elim
  | 0, .tup _, h => h.elim
  | n + 1, .lst _, h => ⟨h.1, fun d hd => (h.2 d hd).up⟩
  | n + 1, .tup _, h => ⟨h.1, fun d hd => (h.2 d hd).up⟩
theorem Sm.le {n m : Nat} {d : D} (h : Sm n d) (l : n ≤ m) : Sm m d := by
  induction l with
  | refl => exact h
  | step _ ih => exact ih.up
theorem sm_int {n : Nat} {i : Int} : Sm n (.int i) := by cases n <;> trivial
theorem sm_bl {n : Nat} {i : Bool} : Sm n (.bl i) := by cases n <;> trivial
theorem sm_non {n : Nat} : Sm n .non := by cases n <;> trivial
theorem sm_ti {n : Nat} {ws : List Int} (h : ws.length ≤ 100000) : Sm (n + 1) (ti ws) :=
  ⟨by rw [List.length_map]; exact h, fun d hd => by obtain ⟨i, _, rfl⟩ := List.mem_map.mp hd; exact sm_int⟩
theorem sm_li {n : Nat} {ws : List Int} (h : ws.length ≤ 100000) : Sm (n + 1) (li ws) :=
  ⟨by rw [List.length_map]; exact h, fun d hd => by obtain ⟨i, _, rfl⟩ := List.mem_map.mp hd; exact sm_int⟩
theorem sm_tup {n : Nat} {ds : List D} (h : ds.length ≤ 100000) (k : ∀ d ∈ ds, Sm n d) : Sm (n + 1) (.tup ds) := ⟨h, k⟩
theorem sm_lst {n : Nat} {ds : List D} (h : ds.length ≤ 100000) (k : ∀ d ∈ ds, Sm n d) : Sm (n + 1) (.lst ds) := ⟨h, k⟩
theorem sm_fr {n : Nat} {f : Int × Int} : Sm (n + 1) (fr f) := ⟨by show 2 ≤ 100000; decide, fun d hd => by
  rcases List.mem_cons.mp hd with rfl | hd
  · exact sm_int
  · rw [List.mem_singleton.mp hd]; exact sm_int⟩
theorem sm_tf {n : Nat} {fs : List (Int × Int)} (h : fs.length ≤ 100000) : Sm (n + 2) (tf fs) :=
  ⟨by rw [List.length_map]; exact h, fun d hd => by obtain ⟨i, _, rfl⟩ := List.mem_map.mp hd; exact sm_fr⟩
theorem Sm.shape : ∀ {n : Nat} {d : D}, Sm n d → (py d).canLay0 = true ∧ (py d).depth ≤ n
  | n, .non, _ => ⟨rfl, Nat.zero_le _⟩
  | n, .bl _, _ => ⟨rfl, Nat.zero_le _⟩
  | n, .int _, _ => ⟨rfl, Nat.zero_le _⟩
  | 0, .lst _, h => h.elim
  | 0, .tup _, h => h.elim
  | n + 1, .lst ds, h => by
    have k : ∀ es : List D, (∀ d ∈ es, Sm n d) → PyData.canLayAll0 (pys es) = true ∧ PyData.depthAll (pys es) ≤ n := by
      intro es
      induction es with
      | nil => intro _; exact ⟨rfl, Nat.zero_le _⟩
      | cons e es ih =>
        intro hh
        obtain ⟨a, b⟩ := Sm.shape (hh e List.mem_cons_self)
        obtain ⟨a', b'⟩ := ih fun d hd => hh d (List.mem_cons_of_mem _ hd)
        refine ⟨?_, ?_⟩
        · show ((py e).canLay0 && PyData.canLayAll0 (pys es)) = true
          rw [a, a']; rfl
        · show max (py e).depth (PyData.depthAll (pys es)) ≤ n
          exact Nat.max_le.mpr ⟨b, b'⟩
    exact ⟨(k ds h.2).1, Nat.succ_le_succ (k ds h.2).2⟩
  | n + 1, .tup ds, h => by
    have k : ∀ es : List D, (∀ d ∈ es, Sm n d) → PyData.canLayAll0 (pys es) = true ∧ PyData.depthAll (pys es) ≤ n := by
      intro es
      induction es with
      | nil => intro _; exact ⟨rfl, Nat.zero_le _⟩
      | cons e es ih =>
        intro hh
        obtain ⟨a, b⟩ := Sm.shape (hh e List.mem_cons_self)
        obtain ⟨a', b'⟩ := ih fun d hd => hh d (List.mem_cons_of_mem _ hd)
        refine ⟨?_, ?_⟩
        · show ((py e).canLay0 && PyData.canLayAll0 (pys es)) = true
          rw [a, a']; rfl
        · show max (py e).depth (PyData.depthAll (pys es)) ≤ n
          exact Nat.max_le.mpr ⟨b, b'⟩
    exact ⟨(k ds h.2).1, Nat.succ_le_succ (k ds h.2).2⟩
theorem Sm.shaped {n : Nat} {d : D} (h : Sm n d) (hn : n ≤ 64 := by decide) : SeqAt.shaped (py d) = true := by
  obtain ⟨a, b⟩ := h.shape
  unfold SeqAt.shaped
  rw [a, decide_eq_true (Nat.le_trans b hn)]
  rfl

/-! equalities of data -/
theorem eqv_ints : ∀ (ns ms : List Int), PyData.eqvAll (pys (ns.map D.int)) (pys (ms.map D.int)) = decide (ns = ms)
  | [], [] => rfl
  | [], _ :: _ => rfl
  | _ :: _, [] => rfl
  | n :: ns, m :: ms => by
    show ((n == m) && PyData.eqvAll (pys (ns.map D.int)) (pys (ms.map D.int))) = _
    rw [eqv_ints ns ms, Bool.eq_iff_iff]
    simp
theorem eqv_fr (f g : Int × Int) : PyData.eqv (py (fr f)) (py (fr g)) = decide (f = g) := by
  have h := eqv_ints [f.1, f.2] [g.1, g.2]
  obtain ⟨a, b⟩ := f
  obtain ⟨c, d⟩ := g
  have e : PyData.eqv (py (fr (a, b))) (py (fr (c, d))) = PyData.eqvAll (pys ([a, b].map D.int)) (pys ([c, d].map D.int)) := rfl
  rw [e, h, Bool.eq_iff_iff]
  simp
theorem eqv_frs : ∀ (fs gs : List (Int × Int)), PyData.eqvAll (pys (fs.map fr)) (pys (gs.map fr)) = decide (fs = gs)
  | [], [] => rfl
  | [], _ :: _ => rfl
  | _ :: _, [] => rfl
  | n :: ns, m :: ms => by
    show (PyData.eqv (py (fr n)) (py (fr m)) && PyData.eqvAll (pys (ns.map fr)) (pys (ms.map fr))) = _
    rw [eqv_frs ns ms, eqv_fr, Bool.eq_iff_iff]
    simp
section
variable {Γ : Gam} {K : PySem.W.Frag} {ta tb te tl : TE} {d x y z : D} {xs ys ds : List D} {tar : TA} {i j : Int} {α : Type} {c : α → D} {as : List α} {a : α}
theorem e_eqI (ha : Ev ta Γ (.int i)) (hb : Ev tb Γ (.int j)) : Ev (tOp (rEqD K) ta tb) Γ (.bl (decide (i = j))) := (e_eq ha hb (sm_int (n := 0)).shaped (sm_int (n := 0)).shaped).is (congrArg D.bl (by
  show (i == j) = _
  rw [Bool.eq_iff_iff]; simp))
theorem e_neI (ha : Ev ta Γ (.int i)) (hb : Ev tb Γ (.int j)) : Ev (tOp (rNeD K) ta tb) Γ (.bl (decide (i ≠ j))) := (e_ne ha hb (sm_int (n := 0)).shaped (sm_int (n := 0)).shaped).is (congrArg D.bl (by
  show (!(i == j)) = _
  rw [Bool.eq_iff_iff]; simp))
theorem e_eqF {f g : Int × Int} (ha : Ev ta Γ (fr f)) (hb : Ev tb Γ (fr g)) : Ev (tOp (rEqD K) ta tb) Γ (.bl (decide (f = g))) := (e_eq ha hb (sm_fr (n := 0)).shaped (sm_fr (n := 0)).shaped).is (congrArg D.bl (eqv_fr f g))
theorem e_neF {f g : Int × Int} (ha : Ev ta Γ (fr f)) (hb : Ev tb Γ (fr g)) : Ev (tOp (rNeD K) ta tb) Γ (.bl (decide (f ≠ g))) := (e_ne ha hb (sm_fr (n := 0)).shaped (sm_fr (n := 0)).shaped).is (congrArg D.bl (by rw [eqv_fr, Bool.eq_iff_iff]; simp))
theorem e_eqB {p q : Bool} (ha : Ev ta Γ (.bl p)) (hb : Ev tb Γ (.bl q)) : Ev (tOp (rEqD K) ta tb) Γ (.bl (p == q)) := (e_eq ha hb (sm_bl (n := 0)).shaped (sm_bl (n := 0)).shaped).is rfl
theorem e_neB {p q : Bool} (ha : Ev ta Γ (.bl p)) (hb : Ev tb Γ (.bl q)) : Ev (tOp (rNeD K) ta tb) Γ (.bl (!(p == q))) := (e_ne ha hb (sm_bl (n := 0)).shaped (sm_bl (n := 0)).shaped).is rfl
theorem e_eqLI {ns ms : List Int} (ha : Ev ta Γ (li ns)) (hb : Ev tb Γ (li ms)) (h1 : ns.length ≤ 100000) (h2 : ms.length ≤ 100000) : Ev (tOp (rEqD K) ta tb) Γ (.bl (decide (ns = ms))) := (e_eq ha hb (sm_li (n := 0) h1).shaped (sm_li (n := 0) h2).shaped).is (congrArg D.bl (eqv_ints ns ms))
theorem e_neLF {ns ms : List (Int × Int)} (ha : Ev ta Γ (.lst (ns.map fr))) (hb : Ev tb Γ (.lst (ms.map fr))) (h1 : ns.length ≤ 100000) (h2 : ms.length ≤ 100000) : Ev (tOp (rNeD K) ta tb) Γ (.bl (decide (ns ≠ ms))) :=
  (e_ne ha hb (Sm.shaped (n := 2) ⟨by rw [List.length_map]; exact h1, fun d hd => by obtain ⟨i, _, rfl⟩ := List.mem_map.mp hd; exact sm_fr⟩) (Sm.shaped (n := 2) ⟨by rw [List.length_map]; exact h2, fun d hd => by obtain ⟨i, _, rfl⟩ := List.mem_map.mp hd; exact sm_fr⟩)).is (congrArg D.bl (by
    show (!PyData.eqvAll (pys (ns.map fr)) (pys (ms.map fr))) = _
    rw [eqv_frs, Bool.eq_iff_iff]; simp))
/-- lengths, items of what a map gives -/
theorem e_lenM (h : Ev te Γ (.tup (as.map c))) : Ev (tCB (rLenS K) (tCons te tNil)) Γ (.int (as.length : Int)) := (e_lenT h).is (by rw [List.length_map])
theorem e_lenN (h : Ev te Γ (.lst (as.map c))) : Ev (tCB (rLenS K) (tCons te tNil)) Γ (.int (as.length : Int)) := (e_lenL h).is (by rw [List.length_map])
theorem atI_map (h : L2.atI as i = some a) : L2.atI (as.map c) i = some (c a) := by
  unfold L2.atI at h ⊢
  rw [List.length_map]
  cases e : ixN as.length i with
  | none => rw [e] at h; cases h
  | some j =>
    rw [e] at h
    show (as.map c)[j]? = _
    rw [List.getElem?_map, show as[j]? = some a from h]
    rfl
theorem atI_pos {α : Type} {as : List α} {a : α} {i : Int} (h0 : 0 ≤ i) (h : as[i.toNat]? = some a) : L2.atI as i = some a := by
  have hl := (List.getElem?_eq_some_iff.mp h).1
  unfold L2.atI ixN
  rw [if_pos h0, if_pos (by omega)]
  exact h
theorem atI_last {α : Type} {as : List α} {a : α} (h : as[as.length - 1]? = some a) : L2.atI as (-1) = some a := by
  have hl := (List.getElem?_eq_some_iff.mp h).1
  unfold L2.atI ixN
  rw [if_neg (by decide), if_pos (by omega)]
  show as[((-1 : Int) + as.length).toNat]? = _
  rw [show ((-1 : Int) + as.length).toNat = as.length - 1 by omega]
  exact h
theorem ints_at {ws : List Int} {i : Int} (h0 : 0 ≤ i) (h1 : i < ws.length) : L2.atI (ws.map D.int) i = some (.int (ws.getD i.toNat 0)) := atI_map (atI_pos h0 (M.getD_at (by omega)))
theorem e_ixM (ha : Ev ta Γ (.tup (as.map c))) (hb : Ev tb Γ (.int i)) (h : L2.atI as i = some a) : Ev (tOp (rIxT K) ta tb) Γ (c a) := e_ixT ha hb (atI_map h)
theorem e_ixI {ws : List Int} (ha : Ev ta Γ (ti ws)) (hb : Ev tb Γ (.int i)) (h0 : 0 ≤ i) (h1 : i < ws.length) : Ev (tOp (rIxT K) ta tb) Γ (.int (ws.getD i.toNat 0)) := e_ixT ha hb (ints_at h0 h1)
theorem e_ixLI {ws : List Int} (ha : Ev ta Γ (li ws)) (hb : Ev tb Γ (.int i)) (h0 : 0 ≤ i) (h1 : i < ws.length) : Ev (tOp (rIxL K) ta tb) Γ (.int (ws.getD i.toNat 0)) := e_ixL ha hb (ints_at h0 h1)
theorem e_fr0 {f : Int × Int} (ha : Ev ta Γ (fr f)) : Ev (tOp (rIxT K) ta (tC (.int 0))) Γ (.int f.1) := e_ixT ha ev_int rfl
theorem e_fr1 {f : Int × Int} (ha : Ev ta Γ (fr f)) : Ev (tOp (rIxT K) ta (tC (.int 1))) Γ (.int f.2) := e_ixT ha ev_int rfl
/-- pure calls -/
theorem e_c1 {R : List D → D → Prop} (ha : Ev ta Γ x) (hr : R [x] d) : Ev (tCall (spF R) [] E0 (tCons ta tNil)) Γ d := ev_call (av_cons ha av_nil) hr
theorem e_c2 {R : List D → D → Prop} (ha : Ev ta Γ x) (hb : Ev tb Γ y) (hr : R [x, y] d) : Ev (tCall (spF R) [] E0 (tCons ta (tCons tb tNil))) Γ d := ev_call (av_cons ha (av_cons hb av_nil)) hr
end
theorem small_of {n : Nat} (h : n ≤ 100000) : (-(2 ^ 64) : Int) < n ∧ (n : Int) < 2 ^ 64 := by constructor <;> omega
end DL
set_option Elab.async false
set_option linter.all false
set_option maxRecDepth 100000
set_option maxHeartbeats 2000000
namespace DL
open PySem L2 PyProof.Rows RZ
variable {K : PySem.W.Frag}

/-! ### plain.py -/
def numD : D → Bool
  | .int _ => true
  | _ => false
def R_is_number (ds : List D) (d : D) : Prop := ∃ x, ds = [x] ∧ d = .bl (numD x)
theorem numD_eq (x : D) : (x.isI && !x.isBl) = numD x := by cases x <;> rfl
theorem d_is_number {ds : List D} {d : D} (h : R_is_number ds d) : DS (t_is_number K) (ent ["thing"] ds) (retO d) := by
  obtain ⟨x, rfl, rfl⟩ := h
  exact d_ret (e_and (e_isi (ev_v rfl) (k_int x)) fun _ => e_not (e_isi (ev_v rfl) (k_bool x))) (congrArg D.bl (numD_eq x))
def fromD (x : D) (l : Int) : Bool := match x with
  | .int i => decide (l ≤ i)
  | _ => false
def R_is_from (ds : List D) (d : D) : Prop := ∃ x l, ds = [x, .int l] ∧ d = .bl (fromD x l)
theorem d_is_from {ds : List D} {d : D} (h : R_is_from ds d) : DS (t_is_from K (spF R_is_number)) (ent ["thing", "least"] ds) (retO d) := by
  obtain ⟨x, l, rfl, rfl⟩ := h
  cases x with
  | int i => exact d_ret (e_and (e_c1 (ev_v rfl) ⟨_, rfl, rfl⟩) fun _ => e_ge (ev_v rfl) (ev_v rfl)) rfl
  | non => exact d_ret (e_and (b := false) (e_c1 (ev_v rfl) ⟨_, rfl, rfl⟩) fun z => nomatch z) rfl
  | bl b => exact d_ret (e_and (b := false) (e_c1 (ev_v rfl) ⟨_, rfl, rfl⟩) fun z => nomatch z) rfl
  | lst b => exact d_ret (e_and (b := false) (e_c1 (ev_v rfl) ⟨_, rfl, rfl⟩) fun z => nomatch z) rfl
  | tup b => exact d_ret (e_and (b := false) (e_c1 (ev_v rfl) ⟨_, rfl, rfl⟩) fun z => nomatch z) rfl
def longD (x : D) (n : Int) : Bool := match x with
  | .tup ds => decide ((ds.length : Int) = n)
  | _ => false
def R_is_long (ds : List D) (d : D) : Prop := ∃ x n, ds = [x, .int n] ∧ d = .bl (longD x n)
theorem d_is_long {ds : List D} {d : D} (h : R_is_long ds d) : DS (t_is_long K) (ent ["thing", "length"] ds) (retO d) := by
  obtain ⟨x, l, rfl, rfl⟩ := h
  cases x with
  | tup es => exact d_ret (e_and (e_isi (ev_v rfl) (k_tup _)) fun _ => e_eqI (e_lenT (ev_v rfl)) (ev_v rfl)) rfl
  | non => exact d_ret (e_and (b := false) (e_isi (ev_v rfl) (k_tup _)) fun z => nomatch z) rfl
  | bl b => exact d_ret (e_and (b := false) (e_isi (ev_v rfl) (k_tup _)) fun z => nomatch z) rfl
  | lst b => exact d_ret (e_and (b := false) (e_isi (ev_v rfl) (k_tup _)) fun z => nomatch z) rfl
  | int b => exact d_ret (e_and (b := false) (e_isi (ev_v rfl) (k_tup _)) fun z => nomatch z) rfl
/-- ints, tuples of such .., n levels -/
def Tt : Nat → D → Prop
  | _, .int _ => True
  | n + 1, .tup ds => ds.length ≤ 100000 ∧ ∀ d ∈ ds, Tt n d
  | _, _ => False
def R_tupled (n : Nat) (ds : List D) (d : D) : Prop := ∃ x, ds = [x] ∧ Tt n x ∧ d = x
theorem d_tupled {n : Nat} {ds : List D} {d : D} {R : List D → D → Prop} (hR : ∀ m x, m + 1 = n → Tt m x → R [x] x) (h : R_tupled n ds d) : DS (t_tupled K (spF R)) (ent ["value", "own"] ds) (retO d) := by
  obtain ⟨x, rfl, hx, e⟩ := h
  rw [e]
  clear e
  cases x with
  | int i => exact d_ret (e_if (t_B (e_isi2 (ev_v rfl) (k_lst _) (k_tup _))) (fun z => nomatch z) fun _ => ev_v rfl) rfl
  | tup es =>
    cases n with
    | zero => exact hx.elim
    | succ m =>
      have hc : Fv (tLc (iTup K (tVar 0)) (gName 1) tYes (tCall (spF R) [] E0 (tCons (tVar 1) tNil)) [1]) [.dat (.tup es), .un] (es.map id) :=
        fv_lc1 (c := id) (by rw [List.map_id]; exact iv_tup (ev_v rfl)) hx.1 fun a ha => ⟨_, _, gv_name, by simp, e_c1 (ev_v rfl) (hR m a rfl (hx.2 a ha))⟩
      rw [List.map_id] at hc
      exact d_ret (e_if (t_B (e_isi2 (ev_v rfl) (k_lst _) (k_tup _))) (fun _ => e_tupleL hc.ev) fun z => nomatch z) rfl
  | non => cases n <;> exact hx.elim
  | bl b => cases n <;> exact hx.elim
  | lst b => cases n <;> exact hx.elim
theorem tt_ti {n : Nat} {ws : List Int} (h : ws.length ≤ 100000) : Tt (n + 1) (ti ws) := ⟨by rw [List.length_map]; exact h, fun d hd => by
  obtain ⟨i, _, rfl⟩ := List.mem_map.mp hd
  cases n <;> trivial⟩
theorem tt_fr {n : Nat} {f : Int × Int} : Tt (n + 1) (fr f) := tt_ti (ws := [f.1, f.2]) (by show 2 ≤ 100000; decide)
theorem tt_tf {n : Nat} {fs : List (Int × Int)} (h : fs.length ≤ 100000) : Tt (n + 2) (tf fs) := ⟨by rw [List.length_map]; exact h, fun d hd => by
  obtain ⟨i, _, rfl⟩ := List.mem_map.mp hd
  exact tt_fr⟩

/-! ### wheels.py -/
def toI : D → Int
  | .int i => i
  | _ => 0
def intsOf (ds : List D) : List Int := ds.map toI
theorem intsOf_map (ws : List Int) : intsOf (ws.map D.int) = ws := by
  unfold intsOf
  rw [List.map_map]
  exact (List.map_congr_left fun _ _ => rfl).trans (List.map_id ws)
theorem of_ints : ∀ {ds : List D}, ds.all numD = true → ds = (intsOf ds).map D.int
  | [], _ => rfl
  | d :: ds, h => by
    rw [List.all_cons, Bool.and_eq_true] at h
    cases d with
    | int i => exact congrArg _ (of_ints h.2)
    | non => exact nomatch h.1
    | bl b => exact nomatch h.1
    | lst b => exact nomatch h.1
    | tup b => exact nomatch h.1
theorem all_num (ws : List Int) : (ws.map D.int).all numD = true := List.all_eq_true.mpr fun d hd => by
  obtain ⟨i, _, rfl⟩ := List.mem_map.mp hd
  rfl
def wheelD (x : D) : Bool := match x with
  | .tup ds => ds.all numD && M.isWh (intsOf ds)
  | _ => false
def lenD (x : D) : Nat := match x with
  | .tup ds => ds.length
  | .lst ds => ds.length
  | _ => 0
def R_is_wheel (ds : List D) (d : D) : Prop := ∃ x, ds = [x] ∧ lenD x ≤ 100000 ∧ d = .bl (wheelD x)
/-- neighbours -/
theorem adj_zip : ∀ ws : List Int, (((List.range (min ws.length (ws.length - 1))).map fun i => decide (ws.getD i 0 ≤ ws.getD (i + 1) 0)).all id) = M.adj ws
  | [] => rfl
  | [_] => rfl
  | a :: b :: r => by
    have e : min (a :: b :: r).length ((a :: b :: r).length - 1) = (b :: r).length := by simp
    have ih := adj_zip (b :: r)
    have e2 : min (b :: r).length ((b :: r).length - 1) = r.length := by simp
    rw [e2] at ih
    rw [e]
    show ((List.range (r.length + 1)).map _).all id = (decide (a ≤ b) && M.adj (b :: r))
    rw [List.range_succ_eq_map, List.map_cons, List.all_cons, ← ih, List.map_map]
    rfl
theorem cut_from1 {ds : List D} (h : 1 ≤ ds.length) : cutD ds (some 1) none = ds.drop 1 := by
  unfold cutD HT.sIx
  have e1 : HT.sIx ds.length 0 (some 1) = 1 := by unfold HT.sIx; simp; omega
  have e2 : HT.sIx ds.length ds.length none = ds.length := rfl
  show (ds.drop (HT.sIx ds.length 0 (some 1))).take (HT.sIx ds.length ds.length none - HT.sIx ds.length 0 (some 1)) = _
  rw [e1, e2]
  exact List.take_of_length_le (by rw [List.length_drop]; omega)
theorem fv_all {α : Type} {Γ : Gam} {te : TE} {as : List α} {f : α → Bool} (h : Fv te Γ (as.map fun a => D.bl (f a))) : Ev (tCB (rAll K) (tCons te tNil)) Γ (.bl (as.all f)) := by
  have e : (as.map fun a => D.bl (f a)) = (as.map f).map D.bl := by rw [List.map_map]; rfl
  rw [e] at h
  exact (e_all h.ev).is (by rw [List.all_map]; rfl)
theorem fv_any {α : Type} {Γ : Gam} {te : TE} {as : List α} {f : α → Bool} (h : Fv te Γ (as.map fun a => D.bl (f a))) : Ev (tCB (rAny K) (tCons te tNil)) Γ (.bl (as.any f)) := by
  have e : (as.map fun a => D.bl (f a)) = (as.map f).map D.bl := by rw [List.map_map]; rfl
  rw [e] at h
  exact (e_any h.ev).is (by rw [List.any_map]; rfl)
theorem d_is_wheel {ds : List D} {d : D} (h : R_is_wheel ds d) : DS (t_is_wheel K (spF R_is_number)) (ent ["thing", "near", "far", "own"] ds) (retO d) := by
  obtain ⟨x, rfl, hl, rfl⟩ := h
  have no : x.isTup = false → wheelD x = false → DS (t_is_wheel K (spF R_is_number)) (ent ["thing", "near", "far", "own"] [x]) (retO (.bl (wheelD x))) := fun h1 h2 => by
    rw [h2]
    refine q_when (t_or (b := false) (t_not (t_B (e_isi (ev_v rfl) (k_tup _)))) fun z => ?_) (fun _ => d_ret ev_bl rfl) fun z => ?_
    · rw [h1] at z; cases z
    · rw [h1] at z; cases z
  cases x with
  | non => exact no rfl rfl
  | bl b => exact no rfl rfl
  | int b => exact no rfl rfl
  | lst b => exact no rfl rfl
  | tup es =>
    have hl : es.length ≤ 100000 := hl
    show DS (tSeq _ _) [.dat (.tup es), .un, .un, .un] _
    have hall : Ev (tCB (rAll K) (tCons (tLc (iTup K (tVar 0)) (gName 3) tYes (tCall (spF R_is_number) [] E0 (tCons (tVar 3) tNil)) [3]) tNil)) [.dat (.tup es), .un, .un, .un] (.bl (es.all numD)) := by
      refine fv_all (as := es) ?_
      exact fv_lc1 (c := id) (by rw [List.map_id]; exact iv_tup (ev_v rfl)) (by omega) fun a ha => ⟨_, _, gv_name, by simp, e_c1 (ev_v rfl) ⟨a, rfl, rfl⟩⟩
    refine q_when (t_or (t_not (t_B (e_isi (ev_v rfl) (k_tup _)))) fun _ => t_or (t_test (e_eqI (e_lenT (ev_v rfl)) ev_int)) fun _ => t_not (t_B hall)) (fun z => d_ret ev_bl ?_) fun z => ?_
    · -- no wheel
      show D.bl false = D.bl (es.all numD && M.isWh (intsOf es))
      have z : (false || (decide ((es.length : Int) = 0) || !es.all numD)) = true := z
      rw [Bool.false_or, Bool.or_eq_true, decide_eq_true_eq] at z
      rcases z with z | z
      · have : es = [] := List.eq_nil_of_length_eq_zero (by omega)
        subst this; rfl
      · have z' : es.all numD = false := by simpa using z
        rw [z']; rfl
    · have z : (false || (decide ((es.length : Int) = 0) || !es.all numD)) = false := z
      rw [Bool.false_or, Bool.or_eq_false_iff, decide_eq_false_iff_not] at z
      have hn : es.all numD = true := by simpa using z.2
      have hp : 1 ≤ es.length := by omega
      obtain ⟨ws, rfl⟩ : ∃ ws : List Int, es = ws.map D.int := ⟨_, of_ints hn⟩
      rw [List.length_map] at hl hp
      have hw : wheelD (.tup (ws.map D.int)) = M.isWh ws := by
        unfold wheelD
        show ((ws.map D.int).all numD && M.isWh (intsOf (ws.map D.int))) = _
        rw [intsOf_map, hn]; rfl
      have hz : Ev (tCB (rAll K) (tCons (tLc (iZipA K (tCons (tVar 0) (tCons (tSl (rSlA K) (tVar 0) (tPart (tC (.int 1))) tNoPart) tNil))) (gTup K 2 (gCons (gName 1) (gCons (gName 2) gNil))) tYes (tOp xLe (tVar 1) (tVar 2)) [1, 2]) tNil)) [.dat (.tup (ws.map D.int)), .un, .un, .un] (.bl (M.adj ws)) := by
        rw [← adj_zip]
        have hi : Iv (iZipA K (tCons (tVar 0) (tCons (tSl (rSlA K) (tVar 0) (tPart (tC (.int 1))) tNoPart) tNil))) [.dat (.tup (ws.map D.int)), .un, .un, .un] (zipD (ws.map D.int) (cutD (ws.map D.int) (some 1) none)) :=
          iv_zipT (av_cons (ev_v rfl) (av_cons (e_sliceT (ev_v rfl) (ov_some ev_int) ov_none) av_nil))
        rw [cut_from1 (by rw [List.length_map]; exact hp)] at hi
        have hlen : min (ws.map D.int).length ((ws.map D.int).drop 1).length = min ws.length (ws.length - 1) := by rw [List.length_drop, List.length_map]
        unfold zipD at hi
        rw [hlen] at hi
        have hi2 := fv_all (K := K) (fv_lc1 (te := tOp xLe (tVar 1) (tVar 2)) (g := gTup K 2 (gCons (gName 1) (gCons (gName 2) gNil))) (vs := [1, 2]) (f := fun i => D.bl (decide (ws.getD i 0 ≤ ws.getD (i + 1) 0))) hi (by rw [List.length_range]; omega) fun i hi => by
          have hi := List.mem_range.mp hi
          have e1 : (ws.map D.int).getD i .non = .int (ws.getD i 0) := by rw [List.getD_eq_getElem?_getD, List.getElem?_map, M.getD_at (by omega)]; rfl
          have e2 : ((ws.map D.int).drop 1).getD i .non = .int (ws.getD (i + 1) 0) := by rw [List.getD_eq_getElem?_getD, List.getElem?_drop, Nat.add_comm, List.getElem?_map, M.getD_at (by omega)]; rfl
          rw [e1, e2]
          exact ⟨_, _, gv_t2, by simp, e_le (ev_v rfl) (ev_v rfl)⟩)
        exact hi2.is (by rw [List.all_map]; rfl)
      refine q_when (t_not (t_B hz)) (fun z => d_ret ev_bl ?_) fun z => ?_
      · show D.bl false = D.bl _
        rw [hw]
        unfold M.isWh
        have z' : M.adj ws = false := by simpa using z
        rw [z', Bool.and_false, Bool.false_and]
      · have z' : M.adj ws = true := by simpa using z
        refine d_ret (e_le (e_ixT (ev_v rfl) (e_neg ev_int) (atI_map (atI_last (M.getD_at (by omega))))) (e_add (e_ixT (ev_v rfl) ev_int (ints_at (by decide) (by omega))) (e_lenM (ev_v rfl)))) ?_
        show D.bl (decide (ws.getD (ws.length - 1) 0 ≤ ws.getD (0 : Int).toNat 0 + (ws.length : Int))) = D.bl _
        rw [hw]
        unfold M.isWh
        have e1 : ws.headD 0 = ws.getD 0 0 := by cases ws <;> rfl
        have e2 : ws.getLastD 0 = ws.getD (ws.length - 1) 0 := by
          cases ws with
          | nil => rfl
          | cons a r => rw [List.getLastD_eq_getLast?, List.getLast?_eq_getElem?, List.getD_eq_getElem?_getD]
        have e3 : ws.isEmpty = false := by cases ws with
          | nil => simp at hp
          | cons => rfl
        rw [z', e1, e2, e3]
        rfl
end DL
set_option Elab.async false
set_option linter.all false
set_option maxRecDepth 100000
set_option maxHeartbeats 2000000
namespace DL
open PySem L2 PyProof.Rows RZ
variable {K : PySem.W.Frag}

/-! ### wheels.py, the rest -/
theorem wheelD_ti (ws : List Int) : wheelD (ti ws) = M.isWh ws := by
  show ((ws.map D.int).all numD && M.isWh (intsOf (ws.map D.int))) = _
  rw [intsOf_map, all_num]; rfl
theorem lenD_ti (ws : List Int) : lenD (ti ws) = ws.length := by show (ws.map D.int).length = _; rw [List.length_map]
theorem Sm.len {n : Nat} {d : D} (h : Sm n d) : lenD d ≤ 100000 := by
  cases d with
  | lst ds => cases n with
    | zero => exact h.elim
    | succ n => exact h.1
  | tup ds => cases n with
    | zero => exact h.elim
    | succ n => exact h.1
  | _ => exact Nat.zero_le _
theorem wheelD_get {x : D} (h : wheelD x = true) : ∃ ws, x = ti ws ∧ M.isWh ws = true := by
  cases x with
  | tup ds =>
    have h : (ds.all numD && M.isWh (intsOf ds)) = true := h
    rw [Bool.and_eq_true] at h
    exact ⟨intsOf ds, congrArg D.tup (of_ints h.1), h.2⟩
  | _ => exact nomatch h
def R_sure_wheel (ds : List D) (d : D) : Prop := ∃ ws, ds = [ti ws] ∧ M.isWh ws = true ∧ ws.length ≤ 100000 ∧ d = ti ws
theorem d_sure_wheel {ds : List D} {d : D} (h : R_sure_wheel ds d) : DS (t_sure_wheel K (spF R_is_wheel) (spF (R_tupled 2))) (ent ["wheel", "own"] ds) (retO d) := by
  obtain ⟨ws, rfl, hw, hl, rfl⟩ := h
  refine q_asg (e_c1 (ev_v rfl) ⟨_, rfl, tt_ti hl, rfl⟩) (q_when (t_not (t_B (e_c1 (ev_v rfl) ⟨_, rfl, by rw [lenD_ti]; exact hl, rfl⟩))) (fun z => ?_) fun _ => d_ret (ev_v rfl) rfl)
  rw [wheelD_ti, hw] at z; exact nomatch z
def trainD (x : D) : Bool := match x with
  | .tup ds => !ds.isEmpty && ds.all wheelD && ds.all fun o => decide (lenD o = lenD (ds.headD .non))
  | _ => false
def R_is_train (ds : List D) (d : D) : Prop := ∃ x, ds = [x] ∧ Sm 3 x ∧ d = .bl (trainD x)
theorem e_lenW {Γ : Gam} {te : TE} {x : D} (h : Ev te Γ x) (hw : wheelD x = true) : Ev (tCB (rLenS K) (tCons te tNil)) Γ (.int (lenD x : Int)) := by
  obtain ⟨ws, rfl, _⟩ := wheelD_get hw
  exact e_lenT h
theorem d_is_train {ds : List D} {d : D} (h : R_is_train ds d) : DS (t_is_train K (spF R_is_wheel)) (ent ["thing", "own"] ds) (retO d) := by
  obtain ⟨x, rfl, hs, rfl⟩ := h
  have no : x.isTup = false → trainD x = false → DS (t_is_train K (spF R_is_wheel)) (ent ["thing", "own"] [x]) (retO (.bl (trainD x))) := fun h1 h2 => by
    rw [h2]
    refine q_when (t_or (b := false) (t_not (t_B (e_isi (ev_v rfl) (k_tup _)))) fun z => ?_) (fun _ => d_ret ev_bl rfl) fun z => ?_
    · rw [h1] at z; cases z
    · rw [h1] at z; cases z
  cases x with
  | non => exact no rfl rfl
  | bl b => exact no rfl rfl
  | int b => exact no rfl rfl
  | lst b => exact no rfl rfl
  | tup es =>
    obtain ⟨hl, hi⟩ := hs
    have hall : Ev (tCB (rAll K) (tCons (tLc (iTup K (tVar 0)) (gName 1) tYes (tCall (spF R_is_wheel) [] E0 (tCons (tVar 1) tNil)) [1]) tNil)) [.dat (.tup es), .un] (.bl (es.all wheelD)) :=
      fv_all (as := es) (fv_lc1 (c := id) (by rw [List.map_id]; exact iv_tup (ev_v rfl)) hl fun a ha => ⟨_, _, gv_name, by simp, e_c1 (ev_v rfl) ⟨a, rfl, (hi a ha).len, rfl⟩⟩)
    refine q_when (t_or (t_not (t_B (e_isi (ev_v rfl) (k_tup _)))) fun _ => t_or (t_test (e_eqI (e_lenT (ev_v rfl)) ev_int)) fun _ => t_not (t_B hall)) (fun z => d_ret ev_bl ?_) fun z => ?_
    · have z : (false || (decide ((es.length : Int) = 0) || !es.all wheelD)) = true := z
      rw [Bool.false_or, Bool.or_eq_true, decide_eq_true_eq] at z
      rcases z with z | z
      · have : es = [] := List.eq_nil_of_length_eq_zero (by omega)
        subst this; rfl
      · have z' : es.all wheelD = false := by simpa using z
        show D.bl false = D.bl (!es.isEmpty && es.all wheelD && _)
        rw [z', Bool.and_false, Bool.false_and]
    · have z : (false || (decide ((es.length : Int) = 0) || !es.all wheelD)) = false := z
      rw [Bool.false_or, Bool.or_eq_false_iff, decide_eq_false_iff_not] at z
      have hn : es.all wheelD = true := by simpa using z.2
      have hw := List.all_eq_true.mp hn
      cases es with
      | nil => exact absurd rfl z.1
      | cons e r =>
        refine d_ret (fv_all (as := e :: r) (f := fun o => decide ((lenD o : Int) = (lenD e : Int))) (fv_lc1 (c := id) (by rw [List.map_id]; exact iv_tup (ev_v rfl)) hl fun a ha => ⟨_, _, gv_name, by simp, e_eqI (e_lenW (ev_v rfl) (hw a ha)) (e_lenW (e_ixT (ev_v rfl) ev_int (atI_pos (by decide) rfl : L2.atI (e :: r) 0 = some e)) (hw e List.mem_cons_self))⟩)) ?_
        show D.bl _ = D.bl (!(e :: r).isEmpty && (e :: r).all wheelD && (e :: r).all fun o => decide (lenD o = lenD e))
        rw [hn]
        congr 1
        show _ = ((e :: r).all fun o => decide (lenD o = lenD e))
        congr 1
        funext o
        rw [Bool.eq_iff_iff, decide_eq_true_eq, decide_eq_true_eq]
        exact Int.ofNat_inj
def R_led_in (ds : List D) (d : D) : Prop := ∃ ws z, ds = [ti ws, .int z] ∧ 0 < ws.length ∧ ws.length ≤ 100000 ∧ d = .int (M.led ws z)
theorem d_led_in {ds : List D} {d : D} (h : R_led_in ds d) : DS (t_led_in K) (ent ["wheel", "number", "rounds", "place"] ds) (retO d) := by
  obtain ⟨ws, z, rfl, h0, hl, rfl⟩ := h
  have a1 := Int.emod_nonneg z (show (ws.length : Int) ≠ 0 by omega)
  have a2 := Int.emod_lt_of_pos z (show (0 : Int) < ws.length by omega)
  exact q_asgG (e_divmod (ev_v rfl) (e_lenM (ev_v rfl)) (by omega)) gv_t2 (d_ret (e_add (e_ixI (ev_v rfl) (ev_v rfl) a1 a2) (e_mul (ev_v rfl) (e_lenM (ev_v rfl)) (.inr (small_of hl)))) rfl)
def R_behind (ds : List D) (d : D) : Prop := ∃ ws vs, ds = [ti ws, ti vs] ∧ 0 < ws.length ∧ ws.length ≤ 100000 ∧ vs.length ≤ 100000 ∧ d = ti (vs.map (M.led ws))
theorem d_behind {ds : List D} {d : D} (h : R_behind ds d) : DS (t_behind K (spF R_led_in)) (ent ["wheel", "other", "number"] ds) (retO d) := by
  obtain ⟨ws, vs, rfl, h0, hl, hv, rfl⟩ := h
  refine d_ret (e_tupleL (Fv.ev (fv_lc1 (as := vs) (c := D.int) (f := fun z => D.int (M.led ws z)) (iv_tup (ev_v rfl)) hv fun a _ => ⟨_, _, gv_name, by simp, e_c2 (ev_v rfl) (ev_v rfl) ⟨ws, a, rfl, h0, hl, rfl⟩⟩))) ?_
  show D.tup _ = D.tup _
  rw [List.map_map]; rfl
def putM : List (List Int) → List Int
  | [] => []
  | [w] => w
  | w :: v :: r => (putM (v :: r)).map (M.led w)
theorem putM_len : ∀ {ts : List (List Int)} {N : Nat}, ts ≠ [] → (∀ t ∈ ts, t.length = N) → (putM ts).length = N
  | [], _, h, _ => absurd rfl h
  | [w], N, _, h => h w List.mem_cons_self
  | w :: v :: r, N, _, h => by
    show ((putM (v :: r)).map _).length = N
    rw [List.length_map]
    exact putM_len (by simp) fun t ht => h t (List.mem_cons_of_mem _ ht)
def R_put_in (ds : List D) (d : D) : Prop := ∃ ts N, ds = [tt ts] ∧ ts ≠ [] ∧ ts.length ≤ 100000 ∧ 0 < N ∧ N ≤ 100000 ∧ (∀ t ∈ ts, t.length = N) ∧ d = ti (putM ts)
theorem putM_drop {ts : List (List Int)} {k : Nat} (h : k + 1 < ts.length) : putM (ts.drop k) = (putM (ts.drop (k + 1))).map (M.led (ts.getD k [])) := by
  rw [List.drop_eq_getElem_cons (show k < ts.length by omega)]
  have e : ts.getD k [] = ts[k] := by rw [List.getD_eq_getElem?_getD, List.getElem?_eq_getElem (by omega)]; rfl
  rw [e]
  cases q : ts.drop (k + 1) with
  | nil => have := congrArg List.length q; rw [List.length_drop] at this; simp at this; omega
  | cons v r => rfl
theorem d_put_in {ds : List D} {d : D} (h : R_put_in ds d) : DS (t_put_in K (spF R_behind)) (ent ["train", "found", "own"] ds) (retO d) := by
  obtain ⟨ts, N, rfl, hne, hl, h0, hN, hall, rfl⟩ := h
  have hp : 1 ≤ ts.length := List.length_pos_iff.mpr hne
  have hlast : ts[ts.length - 1]? = some (ts.getD (ts.length - 1) []) := by rw [List.getD_eq_getElem?_getD, List.getElem?_eq_getElem (by omega)]; rfl
  have hput1 : putM (ts.drop (ts.length - 1)) = ts.getD (ts.length - 1) [] := by
    rw [List.drop_eq_getElem_cons (show ts.length - 1 < ts.length by omega), show ts.length - 1 + 1 = ts.length by omega, List.drop_length]
    rw [List.getD_eq_getElem?_getD, List.getElem?_eq_getElem (by omega)]; rfl
  have ldrop : ∀ k, k < ts.length → (putM (ts.drop k)).length = N := fun k hk => putM_len (fun z => by have := congrArg List.length z; rw [List.length_drop] at this; simp at this; omega) fun t ht => hall t (List.mem_of_mem_drop ht)
  refine q_asg (e_ixM (ev_v rfl) (e_neg ev_int) (atI_last hlast)) ?_
  refine q_for (ds := (ts.map ti).dropLast.reverse) (iv_tup (e_revT2 (ev_v rfl) (by rw [List.length_map]; exact hp))) (fun m Γ => ∃ s, Γ = [.dat (tt ts), .dat (ti (putM (ts.drop (ts.length - 1 - m)))), s]) ⟨.un, by rw [Nat.sub_zero, hput1]; rfl⟩ ?_ ?_
  · rintro m d Γ1 hd ⟨s, rfl⟩
    have hm : m < ts.length - 1 := by
      have := (List.getElem?_eq_some_iff.mp hd).1
      simpa using this
    have e : d = ti (ts.getD (ts.length - 1 - (m + 1)) []) := by
      rw [List.getElem?_reverse (by simpa using hm), List.length_dropLast, List.length_map, List.getElem?_dropLast, if_pos (by rw [List.length_map]; omega), List.getElem?_map, show ts.length - 1 - 1 - m = ts.length - 1 - (m + 1) by omega, List.getElem?_eq_getElem (by omega)] at hd
      rw [List.getD_eq_getElem?_getD, List.getElem?_eq_getElem (by omega)]
      exact (Option.some.inj hd).symm
    subst e
    refine ⟨_, _, gv_name, d_asg (e_c2 (ev_v rfl) (ev_v rfl) ⟨_, _, rfl, ?_, ?_, ?_, rfl⟩) ⟨.dat (ti (ts.getD (ts.length - 1 - (m + 1)) [])), ?_⟩⟩
    · rw [hall _ (by rw [List.getD_eq_getElem?_getD, List.getElem?_eq_getElem (by omega)]; exact List.getElem_mem _)]; exact h0
    · rw [hall _ (by rw [List.getD_eq_getElem?_getD, List.getElem?_eq_getElem (by omega)]; exact List.getElem_mem _)]; exact hN
    · rw [ldrop _ (by omega)]; exact hN
    · have e2 := putM_drop (ts := ts) (k := ts.length - 1 - (m + 1)) (by omega)
      rw [show ts.length - 1 - (m + 1) + 1 = ts.length - 1 - m by omega] at e2
      rw [e2]
      rfl
  · rintro Γ1 ⟨s, rfl⟩
    refine d_ret (ev_v rfl) ?_
    rw [List.length_reverse, List.length_dropLast, List.length_map, Nat.sub_self]
    rfl

/-! ### fractions.py -/
structure Vf (f : Int × Int) : Prop where
  p : 0 < f.2
  b : f.2 ≤ 2000
  c : Nat.gcd f.1.natAbs f.2.natAbs = 1
def R_is_fraction (ds : List D) (d : D) : Prop := ∃ f, ds = [fr f] ∧ Vf f ∧ d = .bl true
theorem d_is_fraction {ds : List D} {d : D} (h : R_is_fraction ds d) : DS (t_is_fraction K (spF R_is_from) (spF R_is_long) (spF R_is_number)) (ent ["thing"] ds) (retO d) := by
  obtain ⟨f, rfl, hf, rfl⟩ := h
  refine q_when (t_or (t_not (t_B (e_c2 (ev_v rfl) ev_int ⟨_, _, rfl, rfl⟩))) fun _ => t_or (t_not (t_B (e_c1 (e_fr0 (ev_v rfl)) ⟨_, rfl, rfl⟩))) fun _ => t_not (t_B (e_c2 (e_fr1 (ev_v rfl)) ev_int ⟨_, _, rfl, rfl⟩))) (fun z => ?_) fun _ => d_ret (e_eqI (e_gcd (e_fr0 (ev_v rfl)) (e_fr1 (ev_v rfl))) ev_int) ?_
  · have z : (false || (false || !decide (1 ≤ f.2))) = true := z
    have := hf.p
    simp at z; omega
  · rw [hf.c]; rfl
def R_sure_fraction (ds : List D) (d : D) : Prop := ∃ f, ds = [fr f] ∧ Vf f ∧ d = fr f
theorem d_sure_fraction {ds : List D} {d : D} (h : R_sure_fraction ds d) : DS (t_sure_fraction K (spF R_is_fraction) (spF (R_tupled 2))) (ent ["one", "own"] ds) (retO d) := by
  obtain ⟨f, rfl, hf, rfl⟩ := h
  exact q_asg (e_c1 (ev_v rfl) ⟨_, rfl, tt_fr, rfl⟩) (q_when (t_not (t_B (e_c1 (ev_v rfl) ⟨_, rfl, hf, rfl⟩))) (fun z => nomatch z) fun _ => d_ret (ev_v rfl) rfl)
def R_made (ds : List D) (d : D) : Prop := ∃ a b : Int, ds = [.int a, .int b] ∧ 0 < b ∧ b < 1073741824 ∧ d = fr (M.mk a b)
theorem gc_le {a b : Int} (hb : 0 < b) : M.gc a b ≤ b := by
  obtain ⟨c, hc⟩ := M.gc_dvd_r a b
  have := M.gc_pos (a := a) hb
  have h1 : 0 < c := by
    rcases Int.lt_or_le 0 c with h | h
    · exact h
    · have := Int.mul_le_mul_of_nonneg_left h (show 0 ≤ M.gc a b by omega)
      rw [Int.mul_zero] at this; omega
  have := Int.mul_le_mul_of_nonneg_left (show 1 ≤ c by omega) (show 0 ≤ M.gc a b by omega)
  omega
theorem d_made {ds : List D} {d : D} (h : R_made ds d) : DS (t_made K) (ent ["above", "below", "by"] ds) (retO d) := by
  obtain ⟨a, b, rfl, hb, hl, rfl⟩ := h
  have g1 : 0 < M.gc a b := M.gc_pos hb
  have g2 : M.gc a b ≤ b := gc_le hb
  refine q_asg (d := .int (M.gc a b)) (e_gcd (ev_v rfl) (ev_v rfl)) (d_ret (e_if (t_test (e_gt (ev_v rfl) ev_int)) (fun _ => ev_tup (av_cons (e_div (ev_v rfl) (ev_v rfl) (by omega)) (av_cons (e_div (ev_v rfl) (ev_v rfl) (by omega)) av_nil))) fun z => ?_) rfl)
  have := of_decide_eq_false z
  exact absurd hb this
def R_two (ds : List D) (d : D) : Prop := ∃ f g, ds = [fr f, fr g] ∧ Vf f ∧ Vf g ∧ d = .tup [fr f, fr g]
theorem d_two {ds : List D} {d : D} (h : R_two ds d) : DS (t_two K (spF R_sure_fraction)) (ent ["one", "other"] ds) (retO d) := by
  obtain ⟨f, g, rfl, hf, hg, rfl⟩ := h
  exact d_ret (ev_tup (av_cons (e_c1 (ev_v rfl) ⟨_, rfl, hf, rfl⟩) (av_cons (e_c1 (ev_v rfl) ⟨_, rfl, hg, rfl⟩) av_nil))) rfl
def ngf (f : Int × Int) : Int × Int := (-f.1, f.2)
theorem Vf.ng {f : Int × Int} (h : Vf f) : Vf (ngf f) := ⟨h.p, h.b, by show Nat.gcd (-f.1).natAbs f.2.natAbs = 1; rw [Int.natAbs_neg]; exact h.c⟩
def R_negative (ds : List D) (d : D) : Prop := ∃ f, ds = [fr f] ∧ Vf f ∧ d = fr (ngf f)
theorem d_negative {ds : List D} {d : D} (h : R_negative ds d) : DS (t_negative K (spF R_sure_fraction)) (ent ["one", "a", "b"] ds) (retO d) := by
  obtain ⟨f, rfl, hf, rfl⟩ := h
  exact q_asgG (e_c1 (ev_v rfl) ⟨_, rfl, hf, rfl⟩) gv_t2 (d_ret (ev_tup (av_cons (e_neg (ev_v rfl)) (av_cons (ev_v rfl) av_nil))) rfl)
def more (f g : Int × Int) : Bool := decide (g.1 * f.2 < f.1 * g.2)
def cmpI (f g : Int × Int) : Int := (if more f g then 1 else 0) - (if more g f then 1 else 0)
def R_compared (ds : List D) (d : D) : Prop := ∃ f g, ds = [fr f, fr g] ∧ Vf f ∧ Vf g ∧ d = .int (cmpI f g)
theorem d_compared {ds : List D} {d : D} (h : R_compared ds d) : DS (t_compared K (spF R_two)) (ent ["one", "other", "a", "b", "c", "d"] ds) (retO d) := by
  obtain ⟨f, g, rfl, hf, hg, rfl⟩ := h
  have f1 := hf.p; have f2 := hf.b; have g1 := hg.p; have g2 := hg.b
  have s1 : (-(2 ^ 64) : Int) < f.2 ∧ f.2 < 2 ^ 64 := by constructor <;> omega
  have s2 : (-(2 ^ 64) : Int) < g.2 ∧ g.2 < 2 ^ 64 := by constructor <;> omega
  refine q_asgG (e_c2 (ev_v rfl) (ev_v rfl) ⟨_, _, rfl, hf, hg, rfl⟩) (gv_tup rfl (gvs_cons gv_t2 (gvs_cons gv_t2 gvs_nil))) (d_ret (e_sub (e_intB (e_gt (e_mul (ev_v rfl) (ev_v rfl) (.inr s2)) (e_mul (ev_v rfl) (ev_v rfl) (.inr s1)))) (e_intB (e_lt (e_mul (ev_v rfl) (ev_v rfl) (.inr s2)) (e_mul (ev_v rfl) (ev_v rfl) (.inr s1))))) ?_)
  rfl
def flr (f : Int × Int) (n : Int) : Int := f.1 * n / f.2
def R_floor (ds : List D) (d : D) : Prop := ∃ f n, ds = [fr f, .int n] ∧ Vf f ∧ -100000 ≤ n ∧ n ≤ 100000 ∧ d = .int (flr f n)
theorem d_floor_in {ds : List D} {d : D} (h : R_floor ds d) : DS (t_floor_in K) (ent ["fraction", "number"] ds) (retO d) := by
  obtain ⟨f, n, rfl, hf, h1, h2, rfl⟩ := h
  have f1 := hf.p; have f2 := hf.b
  exact d_ret (e_div (e_mul (e_fr0 (ev_v rfl)) (ev_v rfl) (.inr (by constructor <;> omega))) (e_fr1 (ev_v rfl)) (by omega)) rfl
/-- the common bottom -/
def cmb (bs : List Int) : Int := bs.foldl (fun a b => a * b / M.gc a b) 1
def bts (fs : List (Int × Int)) : List Int := fs.map (·.2)
theorem cmb_pos : ∀ {bs : List Int} {a : Int}, 0 < a → (∀ b ∈ bs, 0 < b) → 0 < bs.foldl (fun a b => a * b / M.gc a b) a
  | [], _, h, _ => h
  | b :: bs, a, h, hb => by
    have b0 := hb b List.mem_cons_self
    refine cmb_pos (bs := bs) ?_ fun x hx => hb x (List.mem_cons_of_mem _ hx)
    have g0 : 0 < M.gc a b := M.gc_pos b0
    have g1 : M.gc a b ≤ b := gc_le b0
    refine Int.ediv_pos_of_pos_of_dvd (Int.mul_pos h b0) (by omega) (Int.dvd_trans (M.gc_dvd_r a b) (Int.dvd_mul_left _ _))
def R_common_of (ds : List D) (d : D) : Prop := ∃ bs : List Int, ds = [li bs] ∧ (∀ b ∈ bs, 0 < b ∧ b ≤ 2000) ∧ d = .int (cmb bs)
theorem foldl_take {α β : Type} (f : β → α → β) (b0 : β) {as : List α} {m : Nat} {a : α} (h : as[m]? = some a) : (as.take (m + 1)).foldl f b0 = f ((as.take m).foldl f b0) a := by
  rw [List.take_add_one, h, List.foldl_append]; rfl
theorem d_common_of {ds : List D} {d : D} (h : R_common_of ds d) : DS (t_common_of K) (ent ["numbers", "found", "own"] ds) (retO d) := by
  obtain ⟨bs, rfl, hb, rfl⟩ := h
  refine q_asg ev_int ?_
  refine q_for (ds := bs.map D.int) (iv_list (ev_v rfl)) (fun m Γ => ∃ s, Γ = [.dat (li bs), .dat (.int (cmb (bs.take m))), s]) ⟨.un, rfl⟩ ?_ ?_
  · rintro m d Γ1 hd ⟨s, rfl⟩
    rw [List.getElem?_map] at hd
    cases q : bs[m]? with
    | none => rw [q] at hd; cases hd
    | some b =>
      rw [q] at hd
      cases hd
      obtain ⟨b1, b2⟩ := hb b (List.mem_of_getElem? q)
      have g0 : 0 < M.gc (cmb (bs.take m)) b := M.gc_pos b1
      have g1 : M.gc (cmb (bs.take m)) b ≤ b := gc_le b1
      refine ⟨_, _, gv_name, d_asg (e_div (e_mul (ev_v rfl) (ev_v rfl) (.inr (by constructor <;> omega))) (e_gcd (ev_v rfl) (ev_v rfl)) (show 0 < M.gc (cmb (bs.take m)) b ∧ M.gc (cmb (bs.take m)) b < 1073741824 by omega)) ⟨.dat (.int b), ?_⟩⟩
      unfold cmb
      rw [foldl_take _ _ q]
      rfl
  · rintro Γ1 ⟨s, rfl⟩
    refine d_ret (ev_v rfl) ?_
    rw [List.length_map, List.take_length]
    rfl
def cmn (fs : List (Int × Int)) : Int := cmb (bts fs)
structure Vfs (fs : List (Int × Int)) : Prop where
  l : fs.length ≤ 100
  v : ∀ f ∈ fs, Vf f
theorem cmn_pos {fs : List (Int × Int)} (h : Vfs fs) : 0 < cmn fs := cmb_pos (by decide) fun b hb => by
  obtain ⟨f, hf, rfl⟩ := List.mem_map.mp hb
  exact (h.v f hf).p
def R_common_bottom (ds : List D) (d : D) : Prop := ∃ fs, ds = [tf fs] ∧ Vfs fs ∧ d = .int (cmn fs)
theorem all_true {α : Type} {as : List α} : as.all (fun _ => true) = true := List.all_eq_true.mpr fun _ _ => rfl
theorem d_common_bottom {ds : List D} {d : D} (h : R_common_bottom ds d) : DS (t_common_bottom K (spF R_common_of) (spF R_is_fraction) (spF (R_tupled 2))) (ent ["fractions", "own", "_", "below", "one"] ds) (retO d) := by
  obtain ⟨fs, rfl, hv, rfl⟩ := h
  have hl : fs.length ≤ 100000 := Nat.le_trans hv.l (by decide)
  refine q_asg (e_c1 (ev_v rfl) ⟨_, rfl, tt_tf hl, rfl⟩) ?_
  refine q_when (t_or (t_not (t_B (e_isi (ev_v rfl) (k_tup _)))) fun _ => t_not (t_B (fv_all (as := fs) (f := fun _ => true) (fv_lc1 (c := fr) (iv_tup (ev_v rfl)) hl fun a ha => ⟨_, _, gv_name, by simp, e_c1 (ev_v rfl) ⟨a, rfl, hv.v a ha, rfl⟩⟩)))) (fun z => ?_) fun _ => ?_
  · rw [all_true] at z; exact nomatch z
  · have hc : Fv (tLc (iTup K (tVar 1)) (gTup K 2 (gCons (gName 2) (gCons (gName 3) gNil))) tYes (tVar 3) [2, 3]) [.dat (tf fs), .dat (tf fs), .un, .un, .un] (fs.map fun f => D.int f.2) :=
      fv_lc1 (c := fr) (f := fun f => D.int f.2) (iv_tup (ev_v rfl)) hl fun a ha => ⟨_, _, gv_t2, by simp, ev_v rfl⟩
    refine d_ret (e_c1 hc.ev ⟨bts fs, ?_, fun b hb => ?_, rfl⟩) rfl
    · show [D.lst _] = [D.lst _]
      unfold bts
      rw [List.map_map]; rfl
    · obtain ⟨f, hf, rfl⟩ := List.mem_map.mp hb
      exact ⟨(hv.v f hf).p, (hv.v f hf).b⟩
end DL
set_option Elab.async false
set_option linter.all false
set_option maxRecDepth 100000
set_option maxHeartbeats 2000000
namespace DL
open PySem L2 PyProof.Rows RZ
variable {K : PySem.W.Frag}

/-! ### most.py -/
theorem Vfs.up {fs : List (Int × Int)} (h : Vfs fs) : fs.length ≤ 100000 := Nat.le_trans h.l (by decide)
def R_is_turns (ds : List D) (d : D) : Prop := ∃ fs, ds = [tf fs] ∧ Vfs fs ∧ fs ≠ [] ∧ d = .bl true
theorem d_is_turns {ds : List D} {d : D} (h : R_is_turns ds d) : DS (t_is_turns K (spF R_is_fraction)) (ent ["thing", "own"] ds) (retO d) := by
  obtain ⟨fs, rfl, hv, hne, rfl⟩ := h
  have hp := List.length_pos_iff.mpr hne
  refine d_ret (e_and (e_isi (ev_v rfl) (k_tup _)) fun _ => e_and (e_gt (e_lenM (ev_v rfl)) ev_int) fun _ => fv_all (as := fs) (f := fun _ => true) (fv_lc1 (c := fr) (iv_tup (ev_v rfl)) hv.up fun a ha => ⟨_, _, gv_name, by simp, e_c1 (ev_v rfl) ⟨a, rfl, hv.v a ha, rfl⟩⟩)) ?_
  rw [all_true]
  show D.bl (true && (decide ((0 : Int) < fs.length) && true)) = D.bl true
  rw [decide_eq_true (by omega)]; rfl
def R_sure_turns (ds : List D) (d : D) : Prop := ∃ fs, ds = [tf fs] ∧ Vfs fs ∧ fs ≠ [] ∧ d = tf fs
theorem d_sure_turns {ds : List D} {d : D} (h : R_sure_turns ds d) : DS (t_sure_turns K (spF R_is_turns) (spF (R_tupled 2))) (ent ["turns", "own"] ds) (retO d) := by
  obtain ⟨fs, rfl, hv, hne, rfl⟩ := h
  exact q_asg (e_c1 (ev_v rfl) ⟨_, rfl, tt_tf hv.up, rfl⟩) (q_when (t_not (t_B (e_c1 (ev_v rfl) ⟨_, rfl, hv, hne, rfl⟩))) (fun z => nomatch z) fun _ => d_ret (ev_v rfl) rfl)
/-- .. few enough -/
structure Few (fs : List (Int × Int)) : Prop extends Vfs fs where
  ne : fs ≠ []
  c : cmn fs ≤ 2000
def R_sure_few (ds : List D) (d : D) : Prop := ∃ fs, ds = [tf fs] ∧ Few fs ∧ d = tf fs
theorem d_sure_few {ds : List D} {d : D} (h : R_sure_few ds d) : DS (t_sure_few K (spF R_common_bottom) (spF R_sure_turns)) (ent ["turns", "own"] ds) (retO d) := by
  obtain ⟨fs, rfl, hf, rfl⟩ := h
  exact q_asg (e_c1 (ev_v rfl) ⟨_, rfl, hf.toVfs, hf.ne, rfl⟩) (q_when (t_test (e_gt (e_c1 (ev_v rfl) ⟨_, rfl, hf.toVfs, rfl⟩) ev_int)) (fun z => absurd (of_decide_eq_true z) (by have := hf.c; omega)) fun _ => d_ret (ev_v rfl) rfl)
def val (fs : List (Int × Int)) (n : Int) : Int × Int := M.mk ((fs.map fun f => flr f n).sum + fs.length - 1) n
def R_value_in (ds : List D) (d : D) : Prop := ∃ fs n, ds = [tf fs, .int n] ∧ Vfs fs ∧ 1 ≤ n ∧ n ≤ 2000 ∧ d = fr (val fs n)
theorem d_value_in {ds : List D} {d : D} (h : R_value_in ds d) : DS (t_value_in K (spF R_floor) (spF R_made)) (ent ["turns", "number", "own"] ds) (retO d) := by
  obtain ⟨fs, n, rfl, hv, h1, h2, rfl⟩ := h
  have hc : Fv (tLc (iTup K (tVar 0)) (gName 2) tYes (tCall (spF R_floor) [] E0 (tCons (tVar 2) (tCons (tVar 1) tNil))) [2]) [.dat (tf fs), .dat (.int n), .un] (fs.map fun f => D.int (flr f n)) :=
    fv_lc1 (c := fr) (iv_tup (ev_v rfl)) hv.up fun a ha => ⟨_, _, gv_name, by simp, e_c2 (ev_v rfl) (ev_v rfl) ⟨a, n, rfl, hv.v a ha, by omega, by omega, rfl⟩⟩
  have hc2 := hc.is (ys := (fs.map fun f => flr f n).map D.int) (by rw [List.map_map]; rfl)
  exact d_ret (e_c2 (e_sub (e_add (e_sum hc2.ev) (e_lenM (ev_v rfl))) ev_int) (ev_v rfl) ⟨_, _, rfl, by omega, by omega, rfl⟩) rfl
theorem vf_val {fs : List (Int × Int)} {n : Int} (h1 : 1 ≤ n) (h2 : n ≤ 2000) : Vf (val fs n) :=
  ⟨M.mk_pos (by omega), Int.le_trans (M.mk_le (by omega)) h2, M.mk_gcd (by omega)⟩
/-- the greatest of the first k + 1 values, and where -/
def bst (fs : List (Int × Int)) : Nat → Int × Int
  | 0 => val fs 1
  | k + 1 => if more (val fs ((k : Int) + 2)) (bst fs k) then val fs ((k : Int) + 2) else bst fs k
def fnd (fs : List (Int × Int)) : Nat → List Int
  | 0 => [1]
  | k + 1 => if more (val fs ((k : Int) + 2)) (bst fs k) then [(k : Int) + 2] else if more (bst fs k) (val fs ((k : Int) + 2)) then fnd fs k else fnd fs k ++ [(k : Int) + 2]
theorem bst_succ (fs : List (Int × Int)) (k : Nat) : bst fs (k + 1) = if more (val fs ((k : Int) + 2)) (bst fs k) then val fs ((k : Int) + 2) else bst fs k := rfl
theorem fnd_succ (fs : List (Int × Int)) (k : Nat) : fnd fs (k + 1) = if more (val fs ((k : Int) + 2)) (bst fs k) then [(k : Int) + 2] else if more (bst fs k) (val fs ((k : Int) + 2)) then fnd fs k else fnd fs k ++ [(k : Int) + 2] := rfl
theorem bst_val (fs : List (Int × Int)) : ∀ k : Nat, ∃ n : Int, 1 ≤ n ∧ n ≤ k + 1 ∧ bst fs k = val fs n
  | 0 => ⟨1, by omega, by omega, rfl⟩
  | k + 1 => by
    obtain ⟨n, h1, h2, h3⟩ := bst_val fs k
    rw [bst_succ]
    split
    · exact ⟨(k : Int) + 2, by omega, by omega, rfl⟩
    · exact ⟨n, h1, by omega, h3⟩
theorem vf_bst {fs : List (Int × Int)} {k : Nat} (h : k < 2000) : Vf (bst fs k) := by
  obtain ⟨n, h1, h2, h3⟩ := bst_val fs k
  rw [h3]; exact vf_val h1 (by omega)
theorem fnd_head (fs : List (Int × Int)) : ∀ k : Nat, ∃ (n : Int) (r : List Int), fnd fs k = n :: r ∧ 1 ≤ n ∧ n ≤ k + 1 ∧ val fs n = bst fs k
  | 0 => ⟨1, [], rfl, by omega, by omega, rfl⟩
  | k + 1 => by
    obtain ⟨n, r, h0, h1, h2, h3⟩ := fnd_head fs k
    rw [bst_succ, fnd_succ]
    split
    · exact ⟨(k : Int) + 2, [], rfl, by omega, by omega, rfl⟩
    · split
      · exact ⟨n, r, h0, h1, by omega, h3⟩
      · exact ⟨n, r ++ [(k : Int) + 2], by rw [h0]; rfl, h1, by omega, h3⟩
theorem fnd_len (fs : List (Int × Int)) : ∀ k : Nat, (fnd fs k).length ≤ k + 1
  | 0 => Nat.le_refl _
  | k + 1 => by
    have := fnd_len fs k
    rw [fnd_succ]
    split
    · show 1 ≤ _; omega
    · split
      · omega
      · rw [List.length_append]; show _ + 1 ≤ _; omega
def top (fs : List (Int × Int)) : Nat := (cmn fs - 1).toNat
def mst (fs : List (Int × Int)) : Int × Int := bst fs (top fs)
def R_bottoms_in (ds : List D) (d : D) : Prop := ∃ fs, ds = [tf fs] ∧ Few fs ∧ d = ti (fnd fs (top fs))
theorem more_irr {f g : Int × Int} (h : more f g = true) : more g f = false := by
  unfold more at h ⊢
  have := of_decide_eq_true h
  exact decide_eq_false (by omega)
theorem cmpI_pos {f g : Int × Int} (h : 0 < cmpI f g) : more f g = true := by
  unfold cmpI at h
  cases q : more f g with
  | true => rfl
  | false =>
    rw [q] at h
    exfalso
    cases q2 : more g f <;> rw [q2] at h <;> simp at h
theorem cmpI_zero {f g : Int × Int} (h : cmpI f g = 0) : more f g = false ∧ more g f = false := by
  unfold cmpI at h
  cases q : more f g with
  | true => rw [q, more_irr q] at h; simp at h
  | false =>
    cases q2 : more g f with
    | true => rw [q, q2] at h; simp at h
    | false => exact ⟨rfl, rfl⟩
theorem cmpI_neg {f g : Int × Int} (h : ¬ 0 < cmpI f g) (h2 : cmpI f g ≠ 0) : more f g = false ∧ more g f = true := by
  unfold cmpI at h h2
  cases q : more f g with
  | true => rw [q, more_irr q] at h; simp at h
  | false =>
    cases q2 : more g f with
    | true => exact ⟨rfl, rfl⟩
    | false => rw [q, q2] at h2; simp at h2
theorem d_bottoms_in {ds : List D} {d : D} (h : R_bottoms_in ds d) : DS (t_bottoms_in K (spF R_common_bottom) (spF R_compared) (spF R_value_in)) (ent ["turns", "found", "best", "number", "value", "order"] ds) (retO d) := by
  obtain ⟨fs, rfl, hf, rfl⟩ := h
  have c1 := cmn_pos hf.toVfs
  have c2 := hf.c
  refine q_parL (fv_lst av_nil) ev_non ?_
  have hi : Iv (iRng2 (tCons (tC (.int 1)) (tCons (tOp xAdd (tCall (spF R_common_bottom) [] E0 (tCons (tVar 0) tNil)) (tC (.int 1))) tNil))) [.dat (tf fs), .own [], .dat .non, .un, .un, .un] ((List.range (cmn fs + 1 - 1).toNat).map fun (i : Nat) => D.int (1 + (i : Int))) :=
    iv_rng2 (av_cons ev_int (av_cons (e_add (e_c1 (ev_v rfl) ⟨_, rfl, hf.toVfs, rfl⟩) ev_int) av_nil)) (by omega)
  have hlen : (cmn fs + 1 - 1).toNat = top fs + 1 := by unfold top; omega
  rw [hlen] at hi
  refine q_for hi (fun m Γ => ∃ s3 s4 s5, Γ = [.dat (tf fs), .own (if m = 0 then [] else (fnd fs (m - 1)).map D.int), .dat (if m = 0 then .non else fr (bst fs (m - 1))), s3, s4, s5]) ⟨.un, .un, .un, rfl⟩ ?_ ?_
  · rintro m d Γ1 hd ⟨s3, s4, s5, rfl⟩
    have hm : m < top fs + 1 := by
      have := (List.getElem?_eq_some_iff.mp hd).1
      simpa using this
    have ht : top fs < 2000 := by unfold top; omega
    rw [List.getElem?_map, List.getElem?_range hm] at hd
    obtain rfl : D.int (1 + (m : Int)) = d := Option.some.inj hd
    refine ⟨_, _, gv_name, ?_⟩
    refine q_asg (e_c2 (ev_v rfl) (ev_v rfl) ⟨fs, 1 + (m : Int), rfl, hf.toVfs, by omega, by omega, rfl⟩) ?_
    cases m with
    | zero =>
      refine q_asg (d := .int 1) (e_if (t_test (e_isN (ev_v rfl))) (fun _ => ev_int) fun z => nomatch z) ?_
      refine d_if (t_test (e_gt (ev_v rfl) ev_int)) (fun _ => d_parL (fv_lst (av_cons (ev_v rfl) av_nil)) (ev_v rfl) ⟨_, _, _, rfl⟩) fun z => nomatch z
    | succ k =>
      have hv : Vf (val fs ((k : Int) + 2)) := vf_val (by omega) (by omega)
      have hb : Vf (bst fs k) := vf_bst (by omega)
      have e2 : (1 : Int) + ((k + 1 : Nat) : Int) = (k : Int) + 2 := by omega
      rw [e2]
      refine q_asg (d := .int (cmpI (val fs ((k : Int) + 2)) (bst fs k))) (e_if (b := false) (t_test (e_isN (x := fr (bst fs k)) (ev_v rfl))) (fun z => nomatch z) fun _ => e_c2 (ev_v rfl) (ev_v rfl) ⟨_, _, rfl, hv, hb, rfl⟩) ?_
      refine d_if (t_test (e_gt (ev_v rfl) ev_int)) (fun z => d_parL (fv_lst (av_cons (ev_v rfl) av_nil)) (ev_v rfl) ?_) fun z => d_if (t_test (e_eqI (ev_v rfl) ev_int)) (fun y => d_app rfl (ev_v rfl) ?_ ?_) fun y => d_next ?_
      · have q := cmpI_pos (of_decide_eq_true z)
        have f1 : fnd fs (k + 1) = [(k : Int) + 2] := by rw [fnd_succ, q]; rfl
        have b1 : bst fs (k + 1) = val fs ((k : Int) + 2) := by rw [bst_succ, q]; rfl
        refine ⟨.dat (.int ((k : Int) + 2)), .dat (fr (val fs ((k : Int) + 2))), .dat (.int (cmpI (val fs ((k : Int) + 2)) (bst fs k))), ?_⟩
        show _ = [Sl.dat (tf fs), Sl.own (List.map D.int (fnd fs (k + 1))), Sl.dat (fr (bst fs (k + 1))), _, _, _]
        rw [f1, b1]
        rfl
      · show ((fnd fs k).map D.int).length < 100000
        rw [List.length_map]
        have := fnd_len fs k
        omega
      · obtain ⟨q1, q2⟩ := cmpI_zero (of_decide_eq_true y)
        have f1 : fnd fs (k + 1) = fnd fs k ++ [(k : Int) + 2] := by rw [fnd_succ, q1, q2]; rfl
        have b1 : bst fs (k + 1) = bst fs k := by rw [bst_succ, q1]; rfl
        refine ⟨.dat (.int ((k : Int) + 2)), .dat (fr (val fs ((k : Int) + 2))), .dat (.int (cmpI (val fs ((k : Int) + 2)) (bst fs k))), ?_⟩
        show _ = [Sl.dat (tf fs), Sl.own (List.map D.int (fnd fs (k + 1))), Sl.dat (fr (bst fs (k + 1))), _, _, _]
        rw [f1, b1, List.map_append]
        rfl
      · obtain ⟨q1, q2⟩ := cmpI_neg (of_decide_eq_false z) (of_decide_eq_false y)
        have f1 : fnd fs (k + 1) = fnd fs k := by rw [fnd_succ, q1, q2]; rfl
        have b1 : bst fs (k + 1) = bst fs k := by rw [bst_succ, q1]; rfl
        refine ⟨.dat (.int ((k : Int) + 2)), .dat (fr (val fs ((k : Int) + 2))), .dat (.int (cmpI (val fs ((k : Int) + 2)) (bst fs k))), ?_⟩
        show _ = [Sl.dat (tf fs), Sl.own (List.map D.int (fnd fs (k + 1))), Sl.dat (fr (bst fs (k + 1))), _, _, _]
        rw [f1, b1]
        rfl
  · rintro Γ1 ⟨s3, s4, s5, rfl⟩
    refine d_ret (e_tupleO rfl) ?_
    rw [List.length_map, List.length_range]
    rfl
def R_most_in (ds : List D) (d : D) : Prop := ∃ fs, ds = [tf fs] ∧ Few fs ∧ d = fr (mst fs)
theorem d_most_in {ds : List D} {d : D} (h : R_most_in ds d) : DS (t_most_in K (spF R_bottoms_in) (spF R_value_in)) (ent ["turns"] ds) (retO d) := by
  obtain ⟨fs, rfl, hf, rfl⟩ := h
  obtain ⟨n, r, h0, h1, h2, h3⟩ := fnd_head fs (top fs)
  have ht : top fs < 2000 := by have := hf.c; have := cmn_pos hf.toVfs; unfold top; omega
  exact d_ret (e_c2 (ev_v rfl) (e_ixM (a := n) (e_c1 (ev_v rfl) ⟨fs, rfl, hf, rfl⟩) ev_int (by rw [h0]; exact atI_pos (by decide) rfl)) ⟨fs, n, rfl, hf.toVfs, h1, by omega, by unfold mst; rw [h3]⟩) rfl
theorem cmn_ng (fs : List (Int × Int)) : cmn (fs.map ngf) = cmn fs := by
  unfold cmn bts
  rw [List.map_map]; rfl
theorem Few.ng {fs : List (Int × Int)} (h : Few fs) : Few (fs.map ngf) :=
  ⟨⟨by rw [List.length_map]; exact h.l, fun f hf => by obtain ⟨g, hg, rfl⟩ := List.mem_map.mp hf; exact (h.v g hg).ng⟩, by
    intro z; exact h.ne (List.map_eq_nil_iff.mp z), by rw [cmn_ng]; exact h.c⟩
theorem vf_mst {fs : List (Int × Int)} (h : Few fs) : Vf (mst fs) := vf_bst (by have := h.c; have := cmn_pos h.toVfs; unfold top; omega)
end DL
set_option Elab.async false
set_option linter.all false
set_option maxRecDepth 100000
set_option maxHeartbeats 2000000
namespace M
theorem ret_min {ws : List Int} (h : isWh ws = true) {p : Nat} (hp : p < ws.length) (ho : Own ws p) : ∃ (b : Nat) (r : Int), 0 < b ∧ b ≤ ws.length ∧ itr (led ws) b p = (p : Int) + r * ws.length ∧ ∀ k, 0 < k → k < b → itr (led ws) k p % (ws.length : Int) ≠ p := by
  have hm := led_mono h
  have hN := hm.pos
  obtain ⟨_, b0, r0, hb0, e0⟩ := ho
  have hpp : (p : Int) % (ws.length : Int) = p := Int.emod_eq_of_lt (by omega) (by omega)
  -- the least b
  have least : ∀ n : Nat, (∃ k, 0 < k ∧ k ≤ n ∧ itr (led ws) k p % (ws.length : Int) = p) → ∃ b, 0 < b ∧ itr (led ws) b p % (ws.length : Int) = p ∧ ∀ k, 0 < k → k < b → itr (led ws) k p % (ws.length : Int) ≠ p := by
    intro n
    induction n with
    | zero => rintro ⟨k, h1, h2, _⟩; omega
    | succ n ih =>
      rintro ⟨k, h1, h2, h3⟩
      by_cases q : ∃ k, 0 < k ∧ k ≤ n ∧ itr (led ws) k p % (ws.length : Int) = p
      · exact ih q
      · refine ⟨k, h1, h3, fun j j1 j2 j3 => q ⟨j, j1, by omega, j3⟩⟩
  obtain ⟨b, hb, eb, hmin⟩ := least b0 ⟨b0, hb0, Nat.le_refl _, by rw [e0, Int.add_mul_emod_self_right]; exact hpp⟩
  obtain ⟨r, hr⟩ := mod_eq_add (a := (p : Int)) (b := itr (led ws) b p) (N := ws.length) (by rw [eb, hpp])
  refine ⟨b, r, hb, ?_, hr, hmin⟩
  rcases Nat.lt_or_ge ws.length b with lt | ge
  · exfalso
    obtain ⟨i, j, hij, hj, e⟩ := pigeon ws.length (fun i => (itr (led ws) i p % (ws.length : Int)).toNat) fun i _ => by
      have := Int.emod_nonneg (itr (led ws) i p) (show (ws.length : Int) ≠ 0 by omega)
      have := Int.emod_lt_of_pos (itr (led ws) i p) hN
      omega
    have e' : itr (led ws) i p % (ws.length : Int) = itr (led ws) j p % (ws.length : Int) := by
      have a1 := Int.emod_nonneg (itr (led ws) i p) (show (ws.length : Int) ≠ 0 by omega)
      have a2 := Int.emod_nonneg (itr (led ws) j p) (show (ws.length : Int) ≠ 0 by omega)
      have : (itr (led ws) i p % (ws.length : Int)).toNat = (itr (led ws) j p % (ws.length : Int)).toNat := e
      omega
    have s1 : itr (led ws) (j + (b - j)) p % (ws.length : Int) = p := by rw [show j + (b - j) = b by omega]; exact eb
    rw [itr_add, ← itr_mod hm, ← e', itr_mod hm, ← itr_add] at s1
    exact hmin (i + (b - j)) (by omega) (by omega) s1
  · exact ge
theorem isWh_map {ws vs : List Int} (h : isWh ws = true) (hv : isWh vs = true) (hl : ws.length = vs.length) : isWh (vs.map (led ws)) = true := by
  have hm := led_mono h
  have hn := isWh_pos hv
  have at_ : ∀ i, i < vs.length → (vs.map (led ws)).getD i 0 = led ws (vs.getD i 0) := fun i hi => by
    rw [List.getD_eq_getElem?_getD, List.getElem?_map, getD_at hi]; rfl
  refine isWh_of (by rw [List.length_map]; exact hn) (fun i hi => ?_) ?_
  · rw [List.length_map] at hi
    rw [at_ i (by omega), at_ (i + 1) hi]
    exact hm.mono _ _ ((isWh_bounds hv (by omega) hi).1 (by omega))
  · rw [List.length_map, at_ _ (by omega), at_ 0 hn, ← hl, ← hm.per, hl]
    exact hm.mono _ _ ((isWh_bounds hv (by omega) hn).2)
end M
namespace DL
open PySem L2 PyProof.Rows RZ
variable {K : PySem.W.Frag}

/-! ### turnings.py -/
noncomputable def ownB (ws : List Int) (p : Nat) : Bool := @decide (M.Per (M.gl ws) p) (Classical.propDecidable _)
noncomputable def ownL (ws : List Int) : List Int := ((List.range ws.length).filter (ownB ws)).map fun (p : Nat) => (p : Int)
def R_own_in (ds : List D) (d : D) : Prop := ∃ ws, ds = [ti ws] ∧ M.isWh ws = true ∧ ws.length ≤ 100000 ∧ d = li (ownL ws)
def ol (N : Nat) (f : Nat → Int) : List D := (List.range N).map fun p => D.int (f p)
theorem ol_len (N : Nat) (f : Nat → Int) : (ol N f).length = N := by unfold ol; rw [List.length_map, List.length_range]
theorem ol_get {N : Nat} {f : Nat → Int} {j : Nat} (h : j < N) : (ol N f)[j]? = some (.int (f j)) := by unfold ol; rw [List.getElem?_map, List.getElem?_range h]; rfl
theorem ol_congr {N : Nat} {f g : Nat → Int} (h : ∀ p, p < N → f p = g p) : ol N f = ol N g := by
  unfold ol
  exact List.map_congr_left fun p hp => congrArg D.int (h p (List.mem_range.mp hp))
theorem ol_set {N : Nat} {f : Nat → Int} {j : Nat} {v : Int} : (ol N f).set j (.int v) = ol N fun p => if p = j then v else f p := by
  apply List.ext_getElem?
  intro i
  by_cases hi : i < N
  · rw [ol_get hi]
    by_cases e : j = i
    · subst e
      rw [List.getElem?_set_self (by rw [ol_len]; exact hi), if_pos rfl]
    · rw [List.getElem?_set_ne e, ol_get hi, if_neg (fun z => e z.symm)]
  · rw [List.getElem?_eq_none (by rw [List.length_set, ol_len]; omega), List.getElem?_eq_none (by rw [ol_len]; omega)]
theorem ol_ix {N : Nat} {f : Nat → Int} {j : Nat} (h : j < N) : ixN (ol N f).length (j : Int) = some j := by
  rw [ol_len]
  unfold ixN
  rw [if_pos (by omega), if_pos (by omega), Int.toNat_natCast]
theorem ol_at {N : Nat} {f : Nat → Int} {j : Nat} (h : j < N) : L2.atI (ol N f) (j : Int) = some (.int (f j)) := atI_pos (by omega) (by rw [Int.toNat_natCast]; exact ol_get h)
theorem enumD_ol (N : Nat) (f : Nat → Int) : enumD (ol N f) = (List.range N).map fun (i : Nat) => D.tup [.int (i : Int), .int (f i)] := by
  unfold enumD
  rw [ol_len]
  exact List.map_congr_left fun p hp => by rw [getD_of (ol_get (List.mem_range.mp hp))]
theorem ol_rep (N : Nat) : List.replicate N (D.int 0) = ol N fun _ => 0 := by
  unfold ol
  apply List.ext_getElem?
  intro i
  by_cases hi : i < N
  · rw [List.getElem?_map, List.getElem?_range hi, List.getElem?_replicate, if_pos hi]; rfl
  · rw [List.getElem?_eq_none (by rw [List.length_replicate]; omega), List.getElem?_eq_none (by rw [List.length_map, List.length_range]; omega)]
theorem gls_get {ws : List Int} {p : Nat} (hp : p < ws.length) : (ws.map fun z => D.int (z % (ws.length : Int)))[p]? = some (.int (M.gl ws p)) := by
  rw [List.getElem?_map, M.getD_at hp]
  show some (D.int _) = _
  unfold M.gl
  have := Int.emod_nonneg (ws.getD p 0) (show (ws.length : Int) ≠ 0 by omega)
  rw [Int.toNat_of_nonneg this]
theorem snoc_of {α : Type} {l : List α} (h : 0 < l.length) : ∃ r a, l = r ++ [a] := ⟨l.dropLast, l.getLast (List.length_pos_iff.mp h), (List.dropLast_concat_getLast _).symm⟩
theorem d_own_in {ds : List D} {d : D} (h : R_own_in ds d) : DS (t_own_in K) (ent ["wheel", "goals", "many", "goal", "left", "number", "place", "own"] ds) (retO d) := by
  obtain ⟨ws, rfl, hw, hl0, rfl⟩ := h
  have hn := M.isWh_pos hw
  have hl : ws.length ≤ 100000 := by omega
  have hN : (0 : Int) < ws.length := by omega
  generalize hNN : ws.length = N at *
  have hg : ∀ q, q < N → M.gl ws q < N := fun q _ => by rw [← hNN]; exact M.gl_lt (by omega) q
  have hgl : ∀ p, p < N → (ws.map fun z => D.int (z % (N : Int)))[p]? = some (.int (M.gl ws p)) := fun p hp => by
    have := gls_get (ws := ws) (p := p) (by omega)
    rwa [hNN] at this
  have glen : (ws.map fun z => D.int (z % (N : Int))).length = N := by rw [List.length_map, hNN]
  have elen : ∀ {Γ : Gam}, Γ[0]? = some (.dat (ti ws)) → Ev (tCB (rLenS K) (tCons (tVar 0) tNil)) Γ (.int (N : Int)) := fun q => (e_lenM (ev_v q)).is (by rw [hNN])
  refine q_asg (d := .lst (ws.map fun z => D.int (z % (N : Int)))) (Fv.ev (fv_lc1 (c := D.int) (iv_tup (ev_v rfl)) (by omega) fun a _ => ⟨_, _, gv_name, by simp, e_mod (ev_v rfl) (elen rfl) hN⟩)) ?_
  refine q_asgL (f_rep (Fv.ev (fv_lst (av_cons ev_int av_nil))) (elen rfl) (by omega)) ?_
  rw [Int.toNat_natCast, ol_rep]
  -- each place's many
  refine q_for (ds := ws.map fun z => D.int (z % (N : Int))) (iv_list (ev_v rfl)) (fun m Γ => ∃ s, Γ = [.dat (ti ws), .dat (.lst (ws.map fun z => D.int (z % (N : Int)))), .own (ol N fun p => (M.cnt m fun q => M.gl ws q == p : Nat)), s, .un, .un, .un, .un]) ⟨.un, rfl⟩ ?_ ?_
  · rintro m d Γ1 hd ⟨s, rfl⟩
    have hm : m < N := by have := (List.getElem?_eq_some_iff.mp hd).1; rwa [glen] at this
    rw [hgl m hm] at hd
    obtain rfl : D.int (M.gl ws m) = d := Option.some.inj hd
    refine ⟨_, _, gv_name, d_augS (a := (M.cnt m fun q => M.gl ws q == M.gl ws m : Nat)) rfl (ev_v rfl) (ol_ix (hg m hm)) (ol_get (hg m hm)) ev_int ⟨.dat (.int (M.gl ws m)), ?_⟩⟩
    rw [ol_set]
    show [_, _, _, _, _, _, _, _] = [_, _, _, _, _, _, _, _]
    congr 3
    refine congrArg Sl.own (ol_congr fun p _ => ?_)
    rw [M.cnt_succ]
    by_cases e : p = M.gl ws m
    · subst e; rw [if_pos rfl, if_pos (beq_self_eq_true _)]; rfl
    · rw [if_neg e, if_neg (by rw [beq_iff_eq]; exact fun z => e z.symm)]; rfl
  rintro Γ1 ⟨s, rfl⟩
  rw [glen]
  have hF : Fv (tLc (iEnum K (tCons (tVar 2) tNil)) (gTup K 2 (gCons (gName 6) (gCons (gName 7) gNil))) (tTest (tOp (rEqD K) (tVar 7) (tC (.int 0)))) (tVar 6) [6, 7]) [.dat (ti ws), .dat (.lst (ws.map fun z => D.int (z % (N : Int)))), .own (ol N fun p => (M.cnt N fun q => M.gl ws q == p : Nat)), s, .un, .un, .un, .un]
      (((List.range N).filter fun p => decide (((M.cnt N fun q => M.gl ws q == p : Nat) : Int) = 0)).map fun (p : Nat) => D.int (p : Int)) :=
    fv_lcw (as := List.range N) (c := fun (i : Nat) => D.tup [.int (i : Int), .int (M.cnt N fun q => M.gl ws q == i : Nat)]) (by rw [← enumD_ol]; exact iw_enumO rfl) (by rw [List.length_range]; exact hl) fun a _ => ⟨_, _, gv_t2, by simp, t_test (e_eqI (ev_v rfl) ev_int), fun _ => ev_v rfl⟩
  refine q_asgL hF ?_
  have hpeel := M.peel_start (g := M.gl ws) hg (many := fun p => (M.cnt N fun q => M.gl ws q == p : Nat)) fun _ _ => rfl
  have e0 : ((List.range N).filter fun p => decide (((M.cnt N fun q => M.gl ws q == p : Nat) : Int) = 0)) = (List.range N).filter fun p => ((M.cnt N fun q => M.gl ws q == p : Nat) : Int) == 0 := by
    congr 1
  rw [e0]
  generalize ((List.range N).filter fun p => ((M.cnt N fun q => M.gl ws q == p : Nat) : Int) == 0) = left0 at hpeel
  generalize (fun p => ((M.cnt N fun q => M.gl ws q == p : Nat) : Int)) = many0 at hpeel
  refine q_while (fun m Γ => ∃ many left rm s, M.Peel N (M.gl ws) many left rm ∧ m = M.cnt N (fun q => !rm q) ∧ Γ = [.dat (ti ws), .dat (.lst (ws.map fun z => D.int (z % (N : Int)))), .own (ol N many), s, .own (left.map fun (p : Nat) => D.int p), .un, .un, .un]) _ ⟨many0, left0, _, s, hpeel, rfl, rfl⟩ ?_
  rintro m Γ2 ⟨many, left, rm, s, hp, rfl, rfl⟩
  refine ⟨_, t_test (e_gt (e_lenO rfl) ev_int), fun z => ?_, fun z => ?_⟩
  · have z := of_decide_eq_true z
    rw [List.length_map] at z
    obtain ⟨l, p, rfl⟩ := snoc_of (l := left) (by omega)
    have hpN := (hp.lft p (List.mem_append_right _ (List.mem_singleton.mpr rfl))).1
    have hgN := hg p hpN
    obtain ⟨h1, h2, h3⟩ := M.peel_step hg (many' := fun q => if q = M.gl ws p then many (M.gl ws p) - 1 else many q) hp (if_pos rfl) fun q hq => if_neg hq
    rw [List.map_append]
    refine q_popIx (xs := ws.map fun z => D.int (z % (N : Int))) (d := .int (M.gl ws p)) rfl rfl (atI_pos (by omega) (by rw [Int.toNat_natCast]; exact hgl p hpN)) (by decide) ?_
    refine q_augS (a := many (M.gl ws p)) rfl (ev_v rfl) (ol_ix hgN) (ol_get hgN) ev_int ?_
    rw [ol_set]
    have hz : (if M.gl ws p = M.gl ws p then many (M.gl ws p) - 1 else many (M.gl ws p)) = many (M.gl ws p) - 1 := if_pos rfl
    refine d_if (t_test (e_eqI ((e_ixO rfl (ev_v rfl) (ol_at hgN)).is (congrArg D.int hz)) ev_int)) (fun y => d_app rfl (ev_v rfl) ?_ ⟨_, h3, _, _, _, .dat (.int (M.gl ws p)), h2, rfl, ?_⟩) fun y => d_next ⟨_, h3, _, _, _, .dat (.int (M.gl ws p)), h2, rfl, ?_⟩
    · rw [List.length_map]
      have nd := hp.nd
      have : (l ++ [p]).length ≤ N := by
        have hsub : (l ++ [p]) ⊆ List.range N := fun x hx => List.mem_range.mpr (hp.lft x hx).1
        have := nd.length_le_of_subset hsub
        rwa [List.length_range] at this
      rw [List.length_append] at this
      simp at this
      omega
    · have y := of_decide_eq_true y
      simp only [if_true]
      rw [if_pos y, List.map_append]
      rfl
    · have y := of_decide_eq_false y
      simp only [if_true]
      rw [if_neg y]
      rfl
  · have z := of_decide_eq_false z
    rw [List.length_map] at z
    have : left = [] := List.eq_nil_of_length_eq_zero (by omega)
    subst this
    have hF : Fv (tLc (iEnum K (tCons (tVar 2) tNil)) (gTup K 2 (gCons (gName 6) (gCons (gName 7) gNil))) (tTest (tOp xGt (tVar 7) (tC (.int 0)))) (tVar 6) [6, 7]) [.dat (ti ws), .dat (.lst (ws.map fun z => D.int (z % (N : Int)))), .own (ol N many), s, .own (([] : List Nat).map fun (p : Nat) => D.int p), .un, .un, .un]
        (((List.range N).filter fun p => decide (0 < many p)).map fun (p : Nat) => D.int (p : Int)) :=
      fv_lcw (as := List.range N) (c := fun (i : Nat) => D.tup [.int (i : Int), .int (many i)]) (by rw [← enumD_ol]; exact iw_enumO rfl) (by rw [List.length_range]; exact hl) fun a _ => ⟨_, _, gv_t2, by simp, t_test (e_gt (ev_v rfl) ev_int), fun _ => ev_v rfl⟩
    refine d_ret hF.ev ?_
    show D.lst _ = D.lst _
    unfold ownL
    rw [List.map_map, hNN]
    have e : ((List.range N).filter fun p => decide (0 < many p)) = (List.range N).filter (ownB ws) := by
      apply List.filter_congr
      intro p hp'
      have := M.peel_end hg hp (List.mem_range.mp hp')
      unfold ownB
      rw [Bool.eq_iff_iff, decide_eq_true_eq, @decide_eq_true_eq _ (Classical.propDecidable _)]
      exact this
    rw [e]
    rfl

def R_come_back (ds : List D) (d : D) : Prop := ∃ (ws : List Int) (p b : Nat) (r : Int), ds = [ti ws] ∧ M.isWh ws = true ∧ ws.length ≤ 100000 ∧ (ownL ws)[0]? = some (p : Int) ∧ p < ws.length ∧ 0 < b ∧ M.itr (M.led ws) b p = (p : Int) + r * ws.length ∧ (∀ k, 0 < k → k < b → M.itr (M.led ws) k p % (ws.length : Int) ≠ p) ∧ d = .tup [.int p, .int b, .int r]
theorem d_come_back_in {ds : List D} {d : D} (h : R_come_back ds d) : DS (t_come_back_in K (spF R_led_in) (spF R_own_in)) (ent ["wheel", "place", "number", "beats"] ds) (retO d) := by
  obtain ⟨ws, p, b, r, rfl, hw, hl, h0, hp, hb, hr, hmin, rfl⟩ := h
  have hn := M.isWh_pos hw
  have hN : (0 : Int) < ws.length := by omega
  refine q_asg (d := .int (p : Int)) (e_ixL (e_c1 (ev_v rfl) ⟨ws, rfl, hw, hl, rfl⟩) ev_int (atI_pos (by decide) (by show ((ownL ws).map D.int)[0]? = _; rw [List.getElem?_map, h0]; rfl))) ?_
  refine q_par (av_cons (e_c2 (ev_v rfl) (ev_v rfl) ⟨ws, p, rfl, hn, by omega, rfl⟩) (av_cons ev_int av_nil)) ?_
  refine q_while (fun m Γ => ∃ k : Nat, 1 ≤ k ∧ k ≤ b ∧ m = b - k ∧ Γ = [.dat (ti ws), .dat (.int p), .dat (.int (M.itr (M.led ws) k p)), .dat (.int (k : Int))]) (b - 1) ⟨1, Nat.le_refl _, hb, rfl, rfl⟩ ?_
  rintro m Γ1 ⟨k, k1, k2, rfl, rfl⟩
  refine ⟨_, t_test (e_neI (e_mod (ev_v rfl) (e_lenM (ev_v rfl)) hN) (ev_v rfl)), fun z => ?_, fun z => ?_⟩
  · have z := of_decide_eq_true z
    have hk : k ≠ b := fun e => z (by rw [e, hr, Int.add_mul_emod_self_right]; exact Int.emod_eq_of_lt (by omega) (by omega))
    refine d_par (av_cons (e_c2 (ev_v rfl) (ev_v rfl) ⟨ws, _, rfl, hn, by omega, rfl⟩) (av_cons (e_add (ev_v rfl) ev_int) av_nil)) ⟨b - (k + 1), by omega, k + 1, by omega, by omega, rfl, ?_⟩
    rw [M.itr_succ]
    rfl
  · have z := of_decide_eq_false z
    have hk : k = b := by
      rcases Nat.lt_or_ge k b with l | l
      · exact absurd (hmin k (by omega) l) z
      · omega
    subst hk
    refine d_ret (ev_tup (av_cons (ev_v rfl) (av_cons (ev_v rfl) (av_cons (e_div (e_sub (ev_v rfl) (ev_v rfl)) (e_lenM (ev_v rfl)) (by omega)) av_nil)))) ?_
    show D.tup [_, _, .int _] = D.tup [_, _, .int _]
    rw [hr, show (p : Int) + r * ws.length - p = r * ws.length by omega, Int.mul_ediv_cancel _ (by omega)]
def R_turning_in (ds : List D) (d : D) : Prop := ∃ ws, ds = [ti ws] ∧ M.isWh ws = true ∧ ws.length ≤ 100000 ∧ d = fr (M.trn ws)
theorem ownL_head {ws : List Int} (h : M.isWh ws = true) : ∃ p : Nat, (ownL ws)[0]? = some (p : Int) ∧ p < ws.length ∧ M.Own ws p := by
  have hn := M.isWh_pos h
  obtain ⟨p, hp, hper⟩ := M.per_ex hn fun q _ => M.gl_lt hn q
  have hmem : p ∈ (List.range ws.length).filter (ownB ws) := List.mem_filter.mpr ⟨List.mem_range.mpr hp, by unfold ownB; exact @decide_eq_true _ (Classical.propDecidable _) hper⟩
  unfold ownL
  cases q : (List.range ws.length).filter (ownB ws) with
  | nil => rw [q] at hmem; cases hmem
  | cons a r =>
    have ha : a ∈ (List.range ws.length).filter (ownB ws) := by rw [q]; exact List.mem_cons_self
    obtain ⟨a1, a2⟩ := List.mem_filter.mp ha
    have a1 := List.mem_range.mp a1
    exact ⟨a, rfl, a1, M.own_of_per h a1 (by unfold ownB at a2; exact @of_decide_eq_true _ (Classical.propDecidable _) a2)⟩
theorem d_turning_in {ds : List D} {d : D} (h : R_turning_in ds d) : DS (t_turning_in K (spF R_come_back)) (ent ["wheel", "_", "beats", "rounds", "most"] ds) (retO d) := by
  obtain ⟨ws, rfl, hw, hl, rfl⟩ := h
  obtain ⟨p, p1, p2, p3⟩ := ownL_head hw
  obtain ⟨b, r, hb, hbl, hr, hmin⟩ := M.ret_min hw p2 p3
  rw [M.trn_of hw hb hr]
  refine q_asgG (e_c1 (ev_v rfl) ⟨ws, p, b, r, rfl, hw, hl, p1, p2, hb, hr, hmin, rfl⟩) gv_t3 ?_
  have g1 : 0 < M.gc r b := M.gc_pos (by omega)
  have g2 : M.gc r b ≤ b := gc_le (by omega)
  refine q_asg (d := .int (M.gc r b)) ((e_gcd (ev_v rfl) (ev_v rfl)).is (by unfold M.gc; rw [Nat.gcd_comm])) (d_ret (ev_tup (av_cons (e_div (ev_v rfl) (ev_v rfl) (by omega)) (av_cons (e_div (ev_v rfl) (ev_v rfl) (by omega)) av_nil))) rfl)
end DL
set_option Elab.async false
set_option linter.all false
set_option maxRecDepth 100000
set_option maxHeartbeats 2000000
namespace DL
open PySem L2 PyProof.Rows RZ
variable {K : PySem.W.Frag}

/-! ### makers.py -/
def itemsD : D → List D
  | .tup ds => ds
  | .lst ds => ds
  | _ => []
def wsOf (x : D) : List Int := intsOf (itemsD x)
theorem wsOf_ti (ws : List Int) : wsOf (ti ws) = ws := intsOf_map ws
def fits (ws : List Int) (f : Int × Int) (x : D) (way : Int) : Bool := match x with
  | .tup [w, .int m] => decide (1 ≤ m) && wheelD w && decide ((lenD w : Int) = m * ws.length) && decide (M.trn (wsOf w) = f) && (List.range ws.length).all fun z => decide (way * m * ws.getD z 0 ≤ way * M.led (wsOf w) (m * (z : Int)))
  | _ => false
theorem enumD_ints (ws : List Int) : enumD (ws.map D.int) = (List.range ws.length).map fun (i : Nat) => D.tup [.int (i : Int), .int (ws.getD i 0)] := by
  unfold enumD
  rw [List.length_map]
  exact List.map_congr_left fun p hp => by
    have hp := List.mem_range.mp hp
    rw [getD_of (show (ws.map D.int)[p]? = some (.int (ws.getD p 0)) by rw [List.getElem?_map, M.getD_at hp]; rfl)]
theorem all_range_congr {n : Nat} {f g : Nat → Bool} (h : ∀ i, i < n → f i = g i) : (List.range n).all f = (List.range n).all g := by
  rw [Bool.eq_iff_iff, List.all_eq_true, List.all_eq_true]
  exact ⟨fun q i hi => by rw [← h i (List.mem_range.mp hi)]; exact q i hi, fun q i hi => by rw [h i (List.mem_range.mp hi)]; exact q i hi⟩
theorem small_way {way : Int} (h : way = 1 ∨ way = -1) : (-(2 ^ 64) : Int) < way ∧ way < 2 ^ 64 := by rcases h with rfl | rfl <;> decide
def isInt : D → Bool
  | .int _ => true
  | _ => false
theorem fits_no {ws : List Int} {f : Int × Int} {x : D} {way : Int} (h : longD x 2 = false) : fits ws f x way = false := by
  unfold fits
  split
  · exact absurd h (by show decide (((2 : Nat) : Int) = 2) ≠ false; decide)
  · rfl
theorem long_get {x : D} (h : longD x 2 = true) : ∃ a b, x = .tup [a, b] := by
  cases x with
  | tup ds =>
    have h := of_decide_eq_true h
    match ds, h with
    | [a, b], _ => exact ⟨a, b, rfl⟩
    | [], h => exact absurd h (by decide)
    | [_], h => exact absurd h (by show ¬ ((0 + 1 : Nat) : Int) = 2; decide)
    | _ :: _ :: _ :: r, h => exact absurd h (by show ¬ ((r.length + 1 + 1 + 1 : Nat) : Int) = 2; omega)
  | _ => exact nomatch h
def R_fits_in (ds : List D) (d : D) : Prop := ∃ ws f x way, ds = [ti ws, fr f, x, .int way] ∧ M.isWh ws = true ∧ ws.length ≤ 100000 ∧ Sm 3 x ∧ (way = 1 ∨ way = -1) ∧ d = .bl (fits ws f x way)
theorem d_fits_in {ds : List D} {d : D} (h : R_fits_in ds d) : DS (t_fits_in K (spF R_is_from) (spF R_is_long) (spF R_is_wheel) (spF R_led_in) (spF R_turning_in)) (ent ["wheel", "fraction", "thing", "way", "found", "many", "place", "own"] ds) (retO d) := by
  obtain ⟨ws, f, x, way, rfl, hw, hl, hs, hy, rfl⟩ := h
  have hn := M.isWh_pos hw
  cases hx : longD x 2 with
  | false =>
    refine q_when (t_or (b := false) (t_not (t_B (e_c2 (ev_v rfl) ev_int ⟨x, 2, rfl, rfl⟩))) fun z => ?_) (fun _ => d_ret ev_bl ?_) fun z => ?_
    · rw [hx] at z; cases z
    · rw [fits_no hx]; rfl
    · rw [hx] at z; cases z
  | true =>
    obtain ⟨w, m, rfl⟩ := long_get hx
    have hsw : Sm 2 w := hs.2 w List.mem_cons_self
    have hwl := hsw.len
    refine q_when (t_or (t_not (t_B (e_c2 (ev_v rfl) ev_int ⟨_, 2, rfl, rfl⟩))) fun _ => t_or (t_not (t_B (e_c2 (e_ixT (ev_v rfl) ev_int (atI_pos (a := m) (by decide) rfl)) ev_int ⟨m, 1, rfl, rfl⟩))) fun _ => t_not (t_B (e_c1 (e_ixT (ev_v rfl) ev_int (atI_pos (a := w) (by decide) rfl)) ⟨w, rfl, hwl, rfl⟩))) (fun z => d_ret ev_bl ?_) fun z => ?_
    · have z : (!longD (.tup [w, m]) 2 || (!fromD m 1 || !wheelD w)) = true := z
      rw [hx] at z
      cases m with
      | int m =>
        have z : (!true || (!decide (1 ≤ m) || !wheelD w)) = true := z
        show D.bl false = D.bl (decide (1 ≤ m) && wheelD w && _ && _ && _)
        cases hd : decide (1 ≤ m) <;> cases hw' : wheelD w <;> rw [hd, hw'] at z <;> first | rfl | exact absurd z (by decide)
      | _ => rfl
    · have z : (!longD (.tup [w, m]) 2 || (!fromD m 1 || !wheelD w)) = false := z
      rw [hx] at z
      cases m with
      | int m =>
        have z : (!true || (!decide (1 ≤ m) || !wheelD w)) = false := z
        have hm : 1 ≤ m := by
          cases hd : decide (1 ≤ m) with
          | true => exact of_decide_eq_true hd
          | false => rw [hd] at z; exact nomatch z
        have hww : wheelD w = true := by
          cases hd : wheelD w with
          | true => rfl
          | false => rw [hd, decide_eq_true hm] at z; exact nomatch z
        obtain ⟨gs, rfl, hg⟩ := wheelD_get hww
        rw [lenD_ti] at hwl
        have hfit : fits ws f (.tup [ti gs, .int m]) way = (decide ((gs.length : Int) = m * ws.length) && decide (M.trn gs = f) && (List.range ws.length).all fun z => decide (way * m * ws.getD z 0 ≤ way * M.led gs (m * (z : Int)))) := by
          show (decide (1 ≤ m) && wheelD (ti gs) && decide ((lenD (ti gs) : Int) = m * ws.length) && decide (M.trn (wsOf (ti gs)) = f) && (List.range ws.length).all fun z => decide (way * m * ws.getD z 0 ≤ way * M.led (wsOf (ti gs)) (m * (z : Int)))) = _
          rw [decide_eq_true hm, hww, lenD_ti, wsOf_ti]; rfl
        rw [hfit]
        refine q_asgG (ev_v rfl) gv_t2 ?_
        refine q_when (t_or (t_test (e_neI (e_lenM (ev_v rfl)) (e_mul (ev_v rfl) (e_lenM (ev_v rfl)) (.inr (small_of hl))))) fun _ => t_test (e_neF (e_c1 (ev_v rfl) ⟨gs, rfl, hg, hwl, rfl⟩) (ev_v rfl))) (fun y => d_ret ev_bl ?_) fun y => ?_
        · rw [Bool.or_eq_true, decide_eq_true_eq, decide_eq_true_eq] at y
          rcases y with y | y
          · rw [decide_eq_false y]; rfl
          · rw [decide_eq_false y, Bool.and_false, Bool.false_and]; rfl
        · rw [Bool.or_eq_false_iff, decide_eq_false_iff_not, decide_eq_false_iff_not] at y
          have y1 : (gs.length : Int) = m * ws.length := Decidable.not_not.mp y.1
          have y2 : M.trn gs = f := Decidable.not_not.mp y.2
          have hmb : m ≤ 100000 := by
            have := Int.mul_le_mul_of_nonneg_left (show (1 : Int) ≤ ws.length by omega) (show 0 ≤ m by omega)
            omega
          have hwm : (-(2 ^ 64) : Int) < way * m ∧ way * m < 2 ^ 64 := by rcases hy with rfl | rfl <;> constructor <;> omega
          have hg0 := M.isWh_pos hg
          rw [decide_eq_true y1, decide_eq_true y2]
          refine d_ret (fv_all (as := List.range ws.length) (f := fun z => decide (way * m * ws.getD z 0 ≤ way * M.led gs (m * (z : Int)))) (fv_lc1 (c := fun (i : Nat) => D.tup [.int (i : Int), .int (ws.getD i 0)]) (by rw [← enumD_ints]; exact iv_enumT (av_cons (ev_v rfl) av_nil)) (by rw [List.length_range]; exact hl) fun a ha => ⟨_, _, gv_t2, by simp, ?_⟩)) rfl
          have ha := List.mem_range.mp ha
          exact e_ge (e_mul (ev_v rfl) (e_c2 (ev_v rfl) (e_mul (ev_v rfl) (ev_v rfl) (.inl (by constructor <;> omega))) ⟨gs, _, rfl, hg0, hwl, rfl⟩) (.inl (small_way hy))) (e_mul (e_mul (ev_v rfl) (ev_v rfl) (.inl (small_way hy))) (ev_v rfl) (.inl hwm))
      | _ => exact nomatch z
def R_moved (way : Int) (ds : List D) (d : D) : Prop := ∃ ws f x, ds = [ti ws, fr f, x] ∧ M.isWh ws = true ∧ ws.length ≤ 100000 ∧ Vf f ∧ Sm 3 x ∧ d = .bl (fits ws f x way)
theorem d_is_raised {ds : List D} {d : D} (h : R_moved 1 ds d) : DS (t_is_raised K (spF R_fits_in) (spF R_sure_fraction) (spF R_sure_wheel)) (ent ["wheel", "fraction", "thing", "own"] ds) (retO d) := by
  obtain ⟨ws, f, x, rfl, hw, hl, hf, hs, rfl⟩ := h
  exact q_asg (e_c1 (ev_v rfl) ⟨ws, rfl, hw, hl, rfl⟩) (d_ret (ev_call (av_cons (ev_v rfl) (av_cons (e_c1 (ev_v rfl) ⟨f, rfl, hf, rfl⟩) (av_cons (ev_v rfl) (av_cons ev_int av_nil)))) ⟨ws, f, x, 1, rfl, hw, hl, hs, .inl rfl, rfl⟩) rfl)
theorem d_is_lowered {ds : List D} {d : D} (h : R_moved (-1) ds d) : DS (t_is_lowered K (spF R_fits_in) (spF R_sure_fraction) (spF R_sure_wheel)) (ent ["wheel", "fraction", "thing", "own"] ds) (retO d) := by
  obtain ⟨ws, f, x, rfl, hw, hl, hf, hs, rfl⟩ := h
  exact q_asg (e_c1 (ev_v rfl) ⟨ws, rfl, hw, hl, rfl⟩) (d_ret (ev_call (av_cons (ev_v rfl) (av_cons (e_c1 (ev_v rfl) ⟨f, rfl, hf, rfl⟩) (av_cons (ev_v rfl) (av_cons (e_neg ev_int) av_nil)))) ⟨ws, f, x, -1, rfl, hw, hl, hs, .inr rfl, rfl⟩) rfl)
/-! trains -/
def tso (fs : List (Int × Int)) (x : D) (goal : Int × Int) : Bool := trainD x && decide (lenD x = fs.length) && decide ((itemsD x).map (fun o => M.trn (wsOf o)) = fs) && decide (M.trn (putM ((itemsD x).map wsOf)) = goal)
structure Trn (ts : List (List Int)) (N : Nat) : Prop where
  ne : ts ≠ []
  n0 : 0 < N
  wh : ∀ t ∈ ts, M.isWh t = true
  ln : ∀ t ∈ ts, t.length = N
theorem tis_of : ∀ {ds : List D}, ds.all wheelD = true → ∃ ts : List (List Int), ds = ts.map ti ∧ ∀ t ∈ ts, M.isWh t = true
  | [], _ => ⟨[], rfl, fun _ h => nomatch h⟩
  | d :: ds, h => by
    rw [List.all_cons, Bool.and_eq_true] at h
    obtain ⟨w, rfl, hw⟩ := wheelD_get h.1
    obtain ⟨ts, rfl, ht⟩ := tis_of h.2
    refine ⟨w :: ts, rfl, fun t hm => ?_⟩
    rcases List.mem_cons.mp hm with rfl | hm
    · exact hw
    · exact ht t hm
theorem trainD_get {x : D} (h : trainD x = true) : ∃ ts N, x = tt ts ∧ Trn ts N := by
  cases x with
  | tup ds =>
    have h : (!ds.isEmpty && ds.all wheelD && ds.all fun o => decide (lenD o = lenD (ds.headD .non))) = true := h
    rw [Bool.and_eq_true, Bool.and_eq_true] at h
    obtain ⟨ts, rfl, ht⟩ := tis_of h.1.2
    cases ts with
    | nil => exact absurd h.1.1 (by decide)
    | cons t r =>
      refine ⟨t :: r, t.length, rfl, by simp, M.isWh_pos (ht t List.mem_cons_self), ht, fun u hu => ?_⟩
      have := of_decide_eq_true (List.all_eq_true.mp h.2 (ti u) (List.mem_map_of_mem hu))
      rw [lenD_ti] at this
      rw [this]
      exact lenD_ti t
  | _ => exact nomatch h
theorem Trn.put {ts : List (List Int)} {N : Nat} (h : Trn ts N) : M.isWh (putM ts) = true ∧ (putM ts).length = N := by
  refine ⟨?_, putM_len h.ne h.ln⟩
  obtain ⟨h0, _, h2, h3⟩ := h
  induction ts with
  | nil => exact absurd rfl h0
  | cons w r ih =>
    cases r with
    | nil => exact h2 w List.mem_cons_self
    | cons v r =>
      have hl : ∀ t ∈ v :: r, t.length = N := fun t ht => h3 t (List.mem_cons_of_mem _ ht)
      refine M.isWh_map (h2 w List.mem_cons_self) (ih (by simp) (fun t ht => h2 t (List.mem_cons_of_mem _ ht)) hl) ?_
      rw [putM_len (by simp) hl, h3 w List.mem_cons_self]
theorem wsOf_map (ts : List (List Int)) : (ts.map ti).map wsOf = ts := by
  rw [List.map_map]
  exact (List.map_congr_left fun t _ => wsOf_ti t).trans (List.map_id ts)
theorem tso_tt {fs : List (Int × Int)} {ts : List (List Int)} {goal : Int × Int} (h : trainD (tt ts) = true) : tso fs (tt ts) goal = (decide (ts.length = fs.length) && decide (ts.map M.trn = fs) && decide (M.trn (putM ts) = goal)) := by
  have e1 : (itemsD (tt ts)).map (fun o => M.trn (wsOf o)) = ts.map M.trn := by
    show (ts.map ti).map _ = _
    rw [List.map_map]
    exact List.map_congr_left fun t _ => congrArg M.trn (wsOf_ti t)
  have e2 : (itemsD (tt ts)).map wsOf = ts := wsOf_map ts
  have e3 : lenD (tt ts) = ts.length := List.length_map _
  unfold tso
  rw [h, e1, e2, e3, Bool.true_and]
theorem zipD_maps {α β : Type} {c : α → D} {k : β → D} {as : List α} {bs : List β} {a0 : α} {b0 : β} (h : as.length = bs.length) : zipD (as.map c) (bs.map k) = (List.range as.length).map fun i => D.tup [c (as.getD i a0), k (bs.getD i b0)] := by
  unfold zipD
  rw [List.length_map, List.length_map, ← h, Nat.min_self]
  exact List.map_congr_left fun i hi => by
    have hi := List.mem_range.mp hi
    rw [getD_of (show (as.map c)[i]? = some (c (as.getD i a0)) by rw [List.getElem?_map, List.getD_eq_getElem?_getD, List.getElem?_eq_getElem hi]; rfl),
      getD_of (show (bs.map k)[i]? = some (k (bs.getD i b0)) by rw [List.getElem?_map, List.getD_eq_getElem?_getD, List.getElem?_eq_getElem (by omega)]; rfl)]
theorem getD_mem {α : Type} {as : List α} {i : Nat} {a0 : α} (h : i < as.length) : as.getD i a0 ∈ as := by
  rw [List.getD_eq_getElem?_getD, List.getElem?_eq_getElem h]; exact List.getElem_mem _
theorem any_ne {α β : Type} [DecidableEq β] {g : α → β} {as : List α} {bs : List β} {a0 : α} {b0 : β} (h : as.length = bs.length) : ((List.range as.length).any fun i => decide (g (as.getD i a0) ≠ bs.getD i b0)) = !decide (as.map g = bs) := by
  rw [Bool.eq_iff_iff, List.any_eq_true, Bool.not_eq_true', decide_eq_false_iff_not]
  constructor
  · rintro ⟨i, hi, q⟩ e
    have hi := List.mem_range.mp hi
    refine of_decide_eq_true q ?_
    rw [← e, List.getD_eq_getElem?_getD, List.getD_eq_getElem?_getD, List.getElem?_map, List.getElem?_eq_getElem hi]; rfl
  · intro q
    refine Classical.byContradiction fun z => q (List.ext_getElem? fun i => ?_)
    by_cases hi : i < as.length
    · have : g (as.getD i a0) = bs.getD i b0 := Classical.byContradiction fun y => z ⟨i, List.mem_range.mpr hi, decide_eq_true y⟩
      rw [List.getD_eq_getElem?_getD, List.getD_eq_getElem?_getD, List.getElem?_eq_getElem hi, List.getElem?_eq_getElem (show i < bs.length by omega)] at this
      rw [List.getElem?_map, List.getElem?_eq_getElem hi, List.getElem?_eq_getElem (show i < bs.length by omega)]
      exact congrArg some this
    · rw [List.getElem?_eq_none (by rw [List.length_map]; omega), List.getElem?_eq_none (by omega)]
def R_turns_so (ds : List D) (d : D) : Prop := ∃ fs x goal, ds = [tf fs, x, fr goal] ∧ fs.length ≤ 100000 ∧ Sm 3 x ∧ d = .bl (tso fs x goal)
theorem d_turns_so {ds : List D} {d : D} (h : R_turns_so ds d) : DS (t_turns_so K (spF R_is_train) (spF R_put_in) (spF R_turning_in)) (ent ["turns", "thing", "goal", "wheel", "own"] ds) (retO d) := by
  obtain ⟨fs, x, goal, rfl, hl, hs, rfl⟩ := h
  cases hx : trainD x with
  | false =>
    refine q_when (t_or (b := false) (t_not (t_B (e_c1 (ev_v rfl) ⟨x, rfl, hs, rfl⟩))) fun z => ?_) (fun _ => d_ret ev_bl ?_) fun z => ?_
    · rw [hx] at z; cases z
    · unfold tso; rw [hx]; rfl
    · rw [hx] at z; cases z
  | true =>
    obtain ⟨ts, N, rfl, ht⟩ := trainD_get hx
    have hl2 : ts.length ≤ 100000 := by have := hs.1; rwa [List.length_map] at this
    have hle : ∀ t ∈ ts, t.length ≤ 100000 := fun t h => by
      have := (hs.2 (ti t) (List.mem_map_of_mem h)).len
      rwa [lenD_ti] at this
    rw [tso_tt hx]
    refine q_when (t_or (t_not (t_B (e_c1 (ev_v rfl) ⟨_, rfl, hs, rfl⟩))) fun _ => t_test (e_neI (e_lenM (ev_v rfl)) (e_lenM (ev_v rfl)))) (fun z => d_ret ev_bl ?_) fun z => ?_
    · rw [hx] at z
      have z := of_decide_eq_true (show decide ((ts.length : Int) ≠ fs.length) = true from z)
      rw [decide_eq_false (show ¬ ts.length = fs.length by omega)]; rfl
    · rw [hx] at z
      have z := of_decide_eq_false (show decide ((ts.length : Int) ≠ fs.length) = false from z)
      have hll : ts.length = fs.length := by omega
      rw [decide_eq_true hll, Bool.true_and]
      have hany : Ev (tCB (rAny K) (tCons (tLc (iZipA K (tCons (tVar 1) (tCons (tVar 0) tNil))) (gTup K 2 (gCons (gName 3) (gCons (gName 4) gNil))) tYes (tOp (rNeD K) (tCall (spF R_turning_in) [] E0 (tCons (tVar 3) tNil)) (tVar 4)) [3, 4]) tNil)) [.dat (tf fs), .dat (tt ts), .dat (fr goal), .un, .un] (.bl ((List.range ts.length).any fun i => decide (M.trn (ts.getD i []) ≠ fs.getD i (0, 0)))) :=
        fv_any (as := List.range ts.length) (fv_lc1 (c := fun i => D.tup [ti (ts.getD i []), fr (fs.getD i (0, 0))]) (by rw [← zipD_maps hll]; exact iv_zipT (av_cons (ev_v rfl) (av_cons (ev_v rfl) av_nil))) (by rw [List.length_range]; exact hl2) fun a ha => by
          have hm := getD_mem (a0 := []) (List.mem_range.mp ha)
          exact ⟨_, _, gv_t2, by simp, e_neF (e_c1 (ev_v rfl) ⟨_, rfl, ht.wh _ hm, hle _ hm, rfl⟩) (ev_v rfl)⟩)
      rw [any_ne hll] at hany
      obtain ⟨p1, p2⟩ := ht.put
      have hNl : N ≤ 100000 := by
        cases ts with
        | nil => exact absurd rfl ht.ne
        | cons t r => rw [← ht.ln t List.mem_cons_self]; exact hle t List.mem_cons_self
      refine q_when (t_B hany) (fun y => d_ret ev_bl ?_) fun y => d_ret (e_eqF (e_c1 (e_c1 (ev_v rfl) ⟨ts, N, rfl, ht.ne, hl2, ht.n0, hNl, ht.ln, rfl⟩) ⟨_, rfl, p1, by rw [p2]; exact hNl, rfl⟩) (ev_v rfl)) ?_
      · have y : decide (ts.map M.trn = fs) = false := by simpa using y
        rw [y]; rfl
      · have y : decide (ts.map M.trn = fs) = true := by simpa using y
        rw [y]; rfl
def R_is_reached (ds : List D) (d : D) : Prop := ∃ fs x, ds = [tf fs, x] ∧ Few fs ∧ Sm 3 x ∧ d = .bl (tso fs x (mst fs))
theorem d_is_reached {ds : List D} {d : D} (h : R_is_reached ds d) : DS (t_is_reached K (spF R_most_in) (spF R_sure_few) (spF R_turns_so)) (ent ["turns", "thing", "own"] ds) (retO d) := by
  obtain ⟨fs, x, rfl, hf, hs, rfl⟩ := h
  exact q_asg (e_c1 (ev_v rfl) ⟨fs, rfl, hf, rfl⟩) (d_ret (ev_call (av_cons (ev_v rfl) (av_cons (ev_v rfl) (av_cons (e_c1 (ev_v rfl) ⟨fs, rfl, hf, rfl⟩) av_nil))) ⟨fs, x, _, rfl, hf.up, hs, rfl⟩) rfl)
def lst (fs : List (Int × Int)) : Int × Int := ngf (mst (fs.map ngf))
def R_is_lowest (ds : List D) (d : D) : Prop := ∃ fs x, ds = [tf fs, x] ∧ Few fs ∧ Sm 3 x ∧ d = .bl (tso fs x (lst fs))
theorem d_is_lowest {ds : List D} {d : D} (h : R_is_lowest ds d) : DS (t_is_lowest K (spF R_most_in) (spF R_negative) (spF R_sure_few) (spF R_turns_so)) (ent ["turns", "thing", "own", "fraction"] ds) (retO d) := by
  obtain ⟨fs, x, rfl, hf, hs, rfl⟩ := h
  refine q_asg (e_c1 (ev_v rfl) ⟨fs, rfl, hf, rfl⟩) ?_
  have hc : Fv (tLc (iTup K (tVar 2)) (gName 3) tYes (tCall (spF R_negative) [] E0 (tCons (tVar 3) tNil)) [3]) [.dat (tf fs), .dat x, .dat (tf fs), .un] (fs.map fun f => fr (ngf f)) :=
    fv_lc1 (c := fr) (iv_tup (ev_v rfl)) hf.up fun a ha => ⟨_, _, gv_name, by simp, e_c1 (ev_v rfl) ⟨a, rfl, hf.v a ha, rfl⟩⟩
  have hc2 := hc.is (ys := (fs.map ngf).map fr) (by rw [List.map_map]; rfl)
  exact d_ret (ev_call (av_cons (ev_v rfl) (av_cons (ev_v rfl) (av_cons (e_c1 (e_c1 (e_tupleL hc2.ev) ⟨_, rfl, hf.ng, rfl⟩) ⟨_, rfl, vf_mst hf.ng, rfl⟩) av_nil))) ⟨fs, x, _, rfl, hf.up, hs, rfl⟩) rfl
end DL
set_option Elab.async false
set_option linter.all false
set_option maxRecDepth 100000
set_option maxHeartbeats 2000000
namespace DL
open PySem L2 PyProof.Rows RZ
variable {K : PySem.W.Frag}

/-! ### the law's own -/
theorem d_law_led {ds : List D} {d : D} (h : R_led_in ds d) : DS (t_law_led K) (ent ["_law_disk_here", "_law_z"] ds) (retO d) := by
  obtain ⟨ws, z, rfl, h0, hl, rfl⟩ := h
  have a1 := Int.emod_nonneg z (show (ws.length : Int) ≠ 0 by omega)
  have a2 := Int.emod_lt_of_pos z (show (0 : Int) < ws.length by omega)
  exact d_ret (e_add (e_ixI (ev_v rfl) (e_mod (e_int (ev_v rfl)) (e_lenM (ev_v rfl)) (by omega)) a1 a2) (e_mul (e_div (ev_v rfl) (e_lenM (ev_v rfl)) (by omega)) (e_lenM (ev_v rfl)) (.inr (small_of hl)))) rfl
def R_shift (ds : List D) (d : D) : Prop := ∃ (n : Nat) (m : Int), ds = [.int (n : Int), .int m] ∧ n ≤ 100000 ∧ d = ti ((List.range n).map fun (k : Nat) => (k : Int) + m)
theorem d_law_shift {ds : List D} {d : D} (h : R_shift ds d) : DS (t_law_shift K) (ent ["_law_ring_so", "_law_m", "_law_k"] ds) (retO d) := by
  obtain ⟨n, m, rfl, hn, rfl⟩ := h
  have hc : Fv (tLc (iRng1 (tCons (tVar 0) tNil)) (gName 2) tYes (tOp xAdd (tVar 2) (tVar 1)) [2]) [.dat (.int n), .dat (.int m), .un] ((List.range n).map fun (k : Nat) => D.int ((k : Int) + m)) :=
    fv_lc1 (as := List.range n) (c := fun (k : Nat) => D.int (k : Int)) (iv_rng1 (n := (n : Int)) (av_cons (ev_v rfl) av_nil) (by omega)) (by rw [List.length_range]; exact hn) fun a _ => ⟨_, _, gv_name, by simp, e_add (ev_v rfl) (ev_v rfl)⟩
  refine d_ret (e_tupleL hc.ev) ?_
  show D.tup _ = D.tup _
  rw [List.map_map]; rfl
/-- one after another, the last first -/
def runs (ts : List (List Int)) (z : Int) : Int := ts.foldr (fun t a => M.led t a) z
theorem putM_runs : ∀ {ts : List (List Int)} {N : Nat}, ts ≠ [] → (∀ t ∈ ts, t.length = N) → putM ts = (List.range N).map fun (z : Nat) => runs ts z
  | [], _, h, _ => absurd rfl h
  | [w], N, _, h => by
    have hw := h w List.mem_cons_self
    subst hw
    show w = _
    apply List.ext_getElem?
    intro i
    by_cases hi : i < w.length
    · rw [List.getElem?_map, List.getElem?_range hi, M.getD_at hi]
      show _ = some (M.led w i)
      rw [M.led_place hi]
    · rw [List.getElem?_eq_none (by omega), List.getElem?_eq_none (by rw [List.length_map, List.length_range]; omega)]
  | w :: v :: r, N, _, h => by
    show (putM (v :: r)).map (M.led w) = _
    rw [putM_runs (ts := v :: r) (N := N) (by simp) (fun t ht => h t (List.mem_cons_of_mem _ ht)), List.map_map]
    rfl
def R_put (ds : List D) (d : D) : Prop := ∃ ts N, ds = [.lst (ts.map ti)] ∧ ts ≠ [] ∧ ts.length ≤ 100000 ∧ 0 < N ∧ N ≤ 100000 ∧ (∀ t ∈ ts, t.length = N) ∧ d = ti (putM ts)
theorem d_law_put {ds : List D} {d : D} (h : R_put ds d) : DS (t_law_put K (spF R_led_in)) (ent ["_law_disks_here", "_law_found", "_law_z", "_law_own"] ds) (retO d) := by
  obtain ⟨ts, N, rfl, hne, hl, h0, hN, hall, rfl⟩ := h
  rw [putM_runs hne hall]
  obtain ⟨t0, tr, rfl⟩ : ∃ t0 tr, ts = t0 :: tr := by
    cases ts with
    | nil => exact absurd rfl hne
    | cons a b => exact ⟨a, b, rfl⟩
  have ht0 := hall t0 List.mem_cons_self
  generalize hts : t0 :: tr = ts at *
  have h00 : L2.atI (ts.map ti) 0 = some (ti t0) := atI_pos (by decide) (by rw [← hts]; rfl)
  refine q_asgL (fv_lst av_nil) ?_
  refine q_for (iv_rng1 (n := (N : Int)) (av_cons ((e_lenM (e_ixL (ev_v rfl) ev_int h00)).is (by rw [ht0])) av_nil) (by omega)) (fun m Γ => ∃ s2 s3, Γ = [.dat (.lst (ts.map ti)), .own ((List.range m).map fun (z : Nat) => D.int (runs ts z)), s2, s3]) ⟨.un, .un, rfl⟩ ?_ ?_
  · rintro m d Γ1 hd ⟨s2, s3, rfl⟩
    have hm : m < N := by
      have := (List.getElem?_eq_some_iff.mp hd).1
      simpa using this
    rw [Int.toNat_natCast, List.getElem?_map, List.getElem?_range hm] at hd
    obtain rfl : D.int (m : Int) = d := Option.some.inj hd
    refine ⟨_, _, gv_name, ?_⟩
    refine q_for (ds := (ts.map ti).reverse) (iv_list (Fv.ev (f_revL (ev_v rfl)))) (fun j Γ => ∃ s3, Γ = [.dat (.lst (ts.map ti)), .own ((List.range m).map fun (z : Nat) => D.int (runs ts z)), .dat (.int ((ts.reverse.take j).foldl (fun a t => M.led t a) (m : Int))), s3]) ⟨s3, rfl⟩ ?_ ?_
    · rintro j d Γ2 hd2 ⟨s3, rfl⟩
      rw [← List.map_reverse, List.getElem?_map] at hd2
      cases q : ts.reverse[j]? with
      | none => rw [q] at hd2; cases hd2
      | some t =>
        rw [q] at hd2
        obtain rfl : ti t = d := Option.some.inj hd2
        have htm := hall t (List.mem_reverse.mp (List.mem_of_getElem? q))
        refine ⟨_, _, gv_name, d_asg (e_c2 (ev_v rfl) (ev_v rfl) ⟨t, _, rfl, by omega, by omega, rfl⟩) ⟨.dat (ti t), ?_⟩⟩
        rw [foldl_take _ _ q]
        rfl
    · rintro Γ2 ⟨s3, rfl⟩
      refine d_app rfl (ev_v rfl) (by rw [List.length_map, List.length_range]; omega) ⟨.dat (.int (runs ts m)), s3, ?_⟩
      rw [List.length_reverse, List.length_map, List.take_of_length_le (by rw [List.length_reverse]; exact Nat.le_refl _), List.foldl_reverse, List.range_succ, List.map_append]
      rfl
  · rintro Γ1 ⟨s2, s3, rfl⟩
    refine d_ret (e_tupleO rfl) ?_
    rw [List.length_map, List.length_range, Int.toNat_natCast]
    show D.tup _ = D.tup _
    rw [List.map_map]; rfl
theorem gcd_step {a b : Int} (ha : 0 ≤ a) (hb : 0 < b) : Nat.gcd b.natAbs (a % b).natAbs = Nat.gcd a.natAbs b.natAbs := by
  have e : (a % b).natAbs = a.natAbs % b.natAbs := by
    obtain ⟨m, rfl⟩ := Int.eq_ofNat_of_zero_le ha
    obtain ⟨n, rfl⟩ := Int.eq_ofNat_of_zero_le (Int.le_of_lt hb)
    rfl
  rw [e, Nat.gcd_comm, ← Nat.gcd_rec, Nat.gcd_comm]
theorem d_law_made {ds : List D} {d : D} (h : R_made ds d) : DS (t_law_made K) (ent ["_law_above_so", "_law_below_so", "_law_near_here", "_law_far"] ds) (retO d) := by
  obtain ⟨a, b, rfl, hb, hl, rfl⟩ := h
  have g1 : 0 < M.gc a b := M.gc_pos hb
  have g2 : M.gc a b ≤ b := gc_le hb
  refine q_par (av_cons (e_abs (ev_v rfl)) (av_cons (ev_v rfl) av_nil)) ?_
  refine q_while (fun m Γ => ∃ x y : Int, 0 ≤ x ∧ 0 ≤ y ∧ m = y.toNat ∧ Nat.gcd x.natAbs y.natAbs = Nat.gcd a.natAbs b.natAbs ∧ Γ = [.dat (.int a), .dat (.int b), .dat (.int x), .dat (.int y)]) _ ⟨a.natAbs, b, by omega, by omega, rfl, by rw [Int.natAbs_natCast], rfl⟩ ?_
  rintro m Γ1 ⟨x, y, hx, hy, rfl, hg, rfl⟩
  refine ⟨_, t_test (e_gt (ev_v rfl) ev_int), fun z => ?_, fun z => ?_⟩
  · have z := of_decide_eq_true z
    have z1 := Int.emod_nonneg x (show y ≠ 0 by omega)
    have z2 := Int.emod_lt_of_pos x z
    exact d_par (av_cons (ev_v rfl) (av_cons (e_mod (ev_v rfl) (ev_v rfl) z) av_nil)) ⟨(x % y).toNat, by omega, y, x % y, hy, z1, rfl, by rw [gcd_step hx z]; exact hg, rfl⟩
  · have z := of_decide_eq_false z
    have y0 : y = 0 := by omega
    subst y0
    have ex : x = M.gc a b := by
      unfold M.gc
      rw [← hg]
      show x = ((Nat.gcd x.natAbs 0 : Nat) : Int)
      rw [Nat.gcd_zero_right]; omega
    subst ex
    exact d_ret (ev_tup (av_cons (e_div (ev_v rfl) (ev_v rfl) (by omega)) (av_cons (e_div (ev_v rfl) (ev_v rfl) (by omega)) av_nil))) rfl
def R_shared (ds : List D) (d : D) : Prop := ∃ a b : Int, ds = [.int a, .int b] ∧ 0 ≤ a ∧ 0 < b ∧ d = .int (M.gc a b)
theorem d_law_shared {ds : List D} {d : D} (h : R_shared ds d) : DS (t_law_shared K) (ent ["_law_one_so", "_law_two_so"] ds) (retO d) := by
  obtain ⟨a, b, rfl, ha, hb, rfl⟩ := h
  refine q_while (fun m Γ => ∃ x y : Int, 0 ≤ x ∧ 0 ≤ y ∧ m = y.toNat ∧ Nat.gcd x.natAbs y.natAbs = Nat.gcd a.natAbs b.natAbs ∧ Γ = [.dat (.int x), .dat (.int y)]) _ ⟨a, b, ha, by omega, rfl, rfl, rfl⟩ ?_
  rintro m Γ1 ⟨x, y, hx, hy, rfl, hg, rfl⟩
  refine ⟨_, t_test (e_gt (ev_v rfl) ev_int), fun z => ?_, fun z => ?_⟩
  · have z := of_decide_eq_true z
    have z1 := Int.emod_nonneg x (show y ≠ 0 by omega)
    have z2 := Int.emod_lt_of_pos x z
    exact d_par (av_cons (ev_v rfl) (av_cons (e_mod (ev_v rfl) (ev_v rfl) z) av_nil)) ⟨(x % y).toNat, by omega, y, x % y, hy, z1, rfl, by rw [gcd_step hx z]; exact hg, rfl⟩
  · have z := of_decide_eq_false z
    have y0 : y = 0 := by omega
    subst y0
    refine d_ret (ev_v rfl) ?_
    unfold M.gc
    rw [← hg]
    show D.int x = D.int ((Nat.gcd x.natAbs 0 : Nat) : Int)
    rw [Nat.gcd_zero_right]
    congr 1; omega
theorem small_b {f : Int × Int} (h : Vf f) : (-(2 ^ 64) : Int) < f.2 ∧ f.2 < 2 ^ 64 := by
  have := h.p; have := h.b; constructor <;> omega
def R_is_more (ds : List D) (d : D) : Prop := ∃ f g, ds = [fr f, fr g] ∧ Vf f ∧ Vf g ∧ d = .bl (more f g)
theorem d_law_is_more {ds : List D} {d : D} (h : R_is_more ds d) : DS (t_law_is_more K) (ent ["_law_one_so", "_law_two_so"] ds) (retO d) := by
  obtain ⟨f, g, rfl, hf, hg, rfl⟩ := h
  exact d_ret (e_gt (e_mul (e_fr0 (ev_v rfl)) (e_fr1 (ev_v rfl)) (.inr (small_b hg))) (e_mul (e_fr0 (ev_v rfl)) (e_fr1 (ev_v rfl)) (.inr (small_b hf)))) rfl
def stp (a o : Int × Int) : Int × Int := if more o a then o else a
theorem stp_t {a o : Int × Int} (h : more o a = true) : stp a o = o := by unfold stp; rw [h]; rfl
theorem stp_f {a o : Int × Int} (h : more o a = false) : stp a o = a := by unfold stp; rw [h]; rfl
def R_greater (ds : List D) (d : D) : Prop := ∃ f fs, ds = [.lst ((f :: fs).map fr)] ∧ (∀ g ∈ f :: fs, Vf g) ∧ d = fr (fs.foldl stp f)
theorem stp_vf : ∀ {fs : List (Int × Int)} {f : Int × Int}, Vf f → (∀ g ∈ fs, Vf g) → Vf (fs.foldl stp f)
  | [], _, h, _ => h
  | g :: fs, f, h, k => by
    refine stp_vf (fs := fs) (f := stp f g) ?_ fun x hx => k x (List.mem_cons_of_mem _ hx)
    unfold stp
    split
    · exact k g List.mem_cons_self
    · exact h
theorem d_law_greater {ds : List D} {d : D} (h : R_greater ds d) : DS (t_law_greater K (spF R_is_more)) (ent ["_law_rows_so", "_law_found", "_law_own"] ds) (retO d) := by
  obtain ⟨f, fs, rfl, hv, rfl⟩ := h
  refine q_asg (e_ixL (ev_v rfl) ev_int (atI_pos (a := fr f) (by decide) rfl)) ?_
  have hcut : cutD ((f :: fs).map fr) (some 1) none = fs.map fr := by rw [cut_from1 (by simp)]; rfl
  refine q_for (ds := fs.map fr) (iv_list ((f_sliceL (ev_v rfl) (ov_some ev_int) ov_none).is hcut).ev) (fun m Γ => ∃ s, Γ = [.dat (.lst ((f :: fs).map fr)), .dat (fr ((fs.take m).foldl stp f)), s]) ⟨.un, rfl⟩ ?_ ?_
  · rintro m d Γ1 hd ⟨s, rfl⟩
    rw [List.getElem?_map] at hd
    cases q : fs[m]? with
    | none => rw [q] at hd; cases hd
    | some g =>
      rw [q] at hd
      obtain rfl : fr g = d := Option.some.inj hd
      have hg := hv g (List.mem_cons_of_mem _ (List.mem_of_getElem? q))
      have ha : Vf ((fs.take m).foldl stp f) := stp_vf (hv f List.mem_cons_self) fun x hx => hv x (List.mem_cons_of_mem _ (List.mem_of_mem_take hx))
      refine ⟨_, _, gv_name, d_asg (d := fr (stp ((fs.take m).foldl stp f) g)) (e_if (t_B (e_c2 (ev_v rfl) (ev_v rfl) ⟨_, _, rfl, hg, ha, rfl⟩)) (fun z => (ev_v rfl).is (by rw [stp_t z])) fun z => (ev_v rfl).is (by rw [stp_f z])) ⟨.dat (fr g), ?_⟩⟩
      rw [foldl_take _ _ q]
      rfl
  · rintro Γ1 ⟨s, rfl⟩
    refine d_ret (ev_v rfl) ?_
    rw [List.length_map, List.take_length]
    rfl
def R_told_on (ds : List D) (d : D) : Prop := ∃ ps ring i, ds = [ti ps, .int ring, .int i] ∧ 0 < ps.length ∧ ps.length ≤ 100000 ∧ 0 < ring ∧ ring ≤ 100000 ∧ d = .int (M.tld ps ring i)
theorem d_law_told_on {ds : List D} {d : D} (h : R_told_on ds d) : DS (t_law_told_on K) (ent ["_law_spots_so", "_law_ring_so", "_law_i"] ds) (retO d) := by
  obtain ⟨ps, ring, i, rfl, h0, hl, h1, h2, rfl⟩ := h
  have a1 := Int.emod_nonneg i (show (ps.length : Int) ≠ 0 by omega)
  have a2 := Int.emod_lt_of_pos i (show (0 : Int) < ps.length by omega)
  exact d_ret (e_add (e_ixI (ev_v rfl) (e_mod (e_int (ev_v rfl)) (e_lenM (ev_v rfl)) (by omega)) a1 a2) (e_mul (e_div (ev_v rfl) (e_lenM (ev_v rfl)) (by omega)) (ev_v rfl) (.inr (by constructor <;> omega)))) rfl
def R_told_from (ds : List D) (d : D) : Prop := ∃ ps ring i, ds = [li ps, .int ring, .int i] ∧ 0 < ps.length ∧ ps.length ≤ 100000 ∧ 0 < ring ∧ ring ≤ 100000 ∧ d = .int (M.tld ps ring i)
theorem d_law_told_from {ds : List D} {d : D} (h : R_told_from ds d) : DS (t_law_told_from K) (ent ["_law_spots_so", "_law_ring_so", "_law_i"] ds) (retO d) := by
  obtain ⟨ps, ring, i, rfl, h0, hl, h1, h2, rfl⟩ := h
  have a1 := Int.emod_nonneg i (show (ps.length : Int) ≠ 0 by omega)
  have a2 := Int.emod_lt_of_pos i (show (0 : Int) < ps.length by omega)
  exact d_ret (e_add (e_ixLI (ev_v rfl) (e_mod (e_int (ev_v rfl)) (e_lenN (ev_v rfl)) (by omega)) a1 a2) (e_mul (e_div (ev_v rfl) (e_lenN (ev_v rfl)) (by omega)) (ev_v rfl) (.inr (by constructor <;> omega)))) rfl
def R_name_ahead (ds : List D) (d : D) : Prop := ∃ ps ring z b, ds = [ti ps, .int ring, .int z, .bl b] ∧ ps.length ≤ 100000 ∧ 0 < ring ∧ ring ≤ 100000 ∧ d = .int (M.ahd ps ring z b)
theorem d_law_name_ahead {ds : List D} {d : D} (h : R_name_ahead ds d) : DS (t_law_name_ahead K) (ent ["_law_spots_so", "_law_ring_so", "_law_z", "_law_strict_so", "_law_many_so", "_law_rest_so", "_law_under_so", "_law_own"] ds) (retO d) := by
  obtain ⟨ps, ring, z, b, rfl, hl, h1, h2, rfl⟩ := h
  refine q_asg (e_lenM (ev_v rfl)) (q_asg (e_mod (e_int (ev_v rfl)) (ev_v rfl) h1) ?_)
  have hc : Fv (tLc (iTup K (tVar 0)) (gName 7) (tOr (tTest (tOp xLt (tVar 7) (tVar 5))) (tAnd (tTest (tOp (rEqD K) (tVar 7) (tVar 5))) (tNot (tB (tVar 3))))) (tVar 7) [7]) [.dat (ti ps), .dat (.int ring), .dat (.int z), .dat (.bl b), .dat (.int ps.length), .dat (.int (z % ring)), .un, .un]
      ((ps.filter fun o => decide (o < z % ring) || (o == z % ring && !b)).map D.int) :=
    fv_lc (c := D.int) (iv_tup (ev_v rfl)) hl fun a _ => ⟨_, _, gv_name, by simp, t_or (t_test (e_lt (ev_v rfl) (ev_v rfl))) fun _ => t_and ((t_test (e_eqI (ev_v rfl) (ev_v rfl))).is (by rw [Bool.eq_iff_iff]; simp)) fun _ => t_not (t_B (ev_v rfl)), fun _ => ev_v rfl⟩
  exact q_asg hc.ev (d_ret (e_sub (e_add (e_mul (e_div (ev_v rfl) (ev_v rfl) (by omega)) (ev_v rfl) (.inr (small_of hl))) (e_lenN (ev_v rfl))) ev_int) rfl)
def R_greatest (ds : List D) (d : D) : Prop := ∃ (ps : List Int) (m : Int) (ring : Nat), ds = [ti ps, .int m, .int (ring : Int)] ∧ 0 < ps.length ∧ ps.length ≤ 100000 ∧ 0 < ring ∧ ring ≤ 100000 ∧ d = ti (M.grt ps m ring)
theorem d_law_greatest {ds : List D} {d : D} (h : R_greatest ds d) : DS (t_law_greatest K (spF R_name_ahead) (spF R_told_on)) (ent ["_law_spots_so", "_law_m", "_law_ring_so", "_law_found", "_law_z"] ds) (retO d) := by
  obtain ⟨ps, m, ring, rfl, h0, hl, h1, h2, rfl⟩ := h
  refine q_asgL (fv_lst av_nil) ?_
  refine q_for (iv_rng1 (n := (ring : Int)) (av_cons (ev_v rfl) av_nil) (by omega)) (fun k Γ => ∃ s, Γ = [.dat (ti ps), .dat (.int m), .dat (.int (ring : Int)), .own ((List.range k).map fun (z : Nat) => D.int (M.tld ps ring (M.ahd ps ring z true + 1 + m))), s]) ⟨.un, rfl⟩ ?_ ?_
  · rintro k d Γ1 hd ⟨s, rfl⟩
    have hk : k < ring := by
      have := (List.getElem?_eq_some_iff.mp hd).1
      simpa using this
    rw [Int.toNat_natCast, List.getElem?_map, List.getElem?_range hk] at hd
    obtain rfl : D.int (k : Int) = d := Option.some.inj hd
    refine ⟨_, _, gv_name, d_app rfl (ev_call (av_cons (ev_v rfl) (av_cons (ev_v rfl) (av_cons (e_add (e_add (ev_call (av_cons (ev_v rfl) (av_cons (ev_v rfl) (av_cons (ev_v rfl) (av_cons ev_bl av_nil)))) ⟨ps, (ring : Int), (k : Int), true, rfl, hl, by omega, by omega, rfl⟩) ev_int) (ev_v rfl)) av_nil))) ⟨ps, (ring : Int), _, rfl, h0, hl, by omega, by omega, rfl⟩) (by rw [List.length_map, List.length_range]; omega) ⟨.dat (.int k), ?_⟩⟩
    rw [List.range_succ, List.map_append]
    rfl
  · rintro Γ1 ⟨s, rfl⟩
    refine d_ret (e_tupleO rfl) ?_
    rw [List.length_map, List.length_range, Int.toNat_natCast]
    show D.tup _ = D.tup _
    unfold M.grt
    rw [List.map_map, Int.toNat_natCast]; rfl
theorem d_law_floor {ds : List D} {d : D} (h : R_floor ds d) : DS (t_law_floor K) (ent ["_law_frac_so", "_law_n"] ds) (retO d) := by
  obtain ⟨f, n, rfl, hf, h1, h2, rfl⟩ := h
  have f1 := hf.p; have f2 := hf.b
  exact d_ret (e_div (e_mul (e_fr0 (ev_v rfl)) (ev_v rfl) (.inr (by constructor <;> omega))) (e_fr1 (ev_v rfl)) (by omega)) rfl
theorem cmb_take_pos {fs : List (Int × Int)} (h : Vfs fs) (m : Nat) : 0 < cmb ((bts fs).take m) := cmb_pos (by decide) fun b hb => by
  obtain ⟨f, hf, rfl⟩ := List.mem_map.mp (List.mem_of_mem_take hb)
  exact (h.v f hf).p
theorem d_law_together {ds : List D} {d : D} (h : R_common_bottom ds d) : DS (t_law_together K (spF R_shared)) (ent ["_law_marks_so", "_law_found", "_law_own"] ds) (retO d) := by
  obtain ⟨fs, rfl, hv, rfl⟩ := h
  refine q_asg ev_int ?_
  refine q_for (ds := fs.map fr) (iv_tup (ev_v rfl)) (fun m Γ => ∃ s, Γ = [.dat (tf fs), .dat (.int (cmb ((bts fs).take m))), s]) ⟨.un, rfl⟩ ?_ ?_
  · rintro m d Γ1 hd ⟨s, rfl⟩
    rw [List.getElem?_map] at hd
    cases q : fs[m]? with
    | none => rw [q] at hd; cases hd
    | some g =>
      rw [q] at hd
      obtain rfl : fr g = d := Option.some.inj hd
      have hg := hv.v g (List.mem_of_getElem? q)
      have g0 : 0 < M.gc (cmb ((bts fs).take m)) g.2 := M.gc_pos hg.p
      have g1 : M.gc (cmb ((bts fs).take m)) g.2 ≤ g.2 := gc_le hg.p
      have c0 := cmb_take_pos hv m
      have gb := hg.b
      have q2 : (bts fs)[m]? = some g.2 := by unfold bts; rw [List.getElem?_map, q]; rfl
      refine ⟨_, _, gv_name, d_asg (e_div (e_mul (ev_v rfl) (e_fr1 (ev_v rfl)) (.inr (small_b hg))) (e_c2 (ev_v rfl) (e_fr1 (ev_v rfl)) ⟨_, _, rfl, by omega, hg.p, rfl⟩) (by omega)) ⟨.dat (fr g), ?_⟩⟩
      unfold cmb
      rw [foldl_take _ _ q2]
      rfl
  · rintro Γ1 ⟨s, rfl⟩
    refine d_ret (ev_v rfl) ?_
    rw [List.length_map, show fs.length = (bts fs).length by unfold bts; rw [List.length_map], List.take_length]
    rfl
def rws (fs : List (Int × Int)) (n : Nat) : List (Int × Int) := (List.range n).map fun (k : Nat) => val fs ((k : Int) + 1)
def idx (fs : List (Int × Int)) : List Int := ((List.range (top fs + 1)).filter fun (k : Nat) => decide (val fs ((k : Int) + 1) = mst fs)).map fun (k : Nat) => (k : Int) + 1
theorem bst_fold (fs : List (Int × Int)) : ∀ k : Nat, bst fs k = ((List.range k).map fun (i : Nat) => val fs ((i : Int) + 2)).foldl stp (val fs 1)
  | 0 => rfl
  | k + 1 => by
    rw [List.range_succ, List.map_append, List.foldl_append, ← bst_fold fs k, bst_succ]
    rfl
theorem rws_cons (fs : List (Int × Int)) (k : Nat) : rws fs (k + 1) = val fs 1 :: (List.range k).map fun (i : Nat) => val fs ((i : Int) + 2) := by
  unfold rws
  rw [List.range_succ_eq_map, List.map_cons, List.map_map]
  refine congr (congrArg List.cons (by show val fs (0 + 1) = _; rfl)) (List.map_congr_left fun i _ => ?_)
  show val fs (((i + 1 : Nat) : Int) + 1) = val fs ((i : Int) + 2)
  congr 1
def R_most (ds : List D) (d : D) : Prop := ∃ fs, ds = [tf fs] ∧ Few fs ∧ d = .tup [fr (mst fs), li (idx fs)]
theorem enumD_map {α : Type} {c : α → D} {as : List α} {a0 : α} : enumD (as.map c) = (List.range as.length).map fun (i : Nat) => D.tup [.int (i : Int), c (as.getD i a0)] := by
  unfold enumD
  rw [List.length_map]
  exact List.map_congr_left fun p hp => by
    have hp := List.mem_range.mp hp
    rw [getD_of (show (as.map c)[p]? = some (c (as.getD p a0)) by rw [List.getElem?_map, List.getD_eq_getElem?_getD, List.getElem?_eq_getElem hp]; rfl)]
theorem rws_at {fs : List (Int × Int)} {n k : Nat} (h : k < n) : (rws fs n).getD k (0, 1) = val fs ((k : Int) + 1) := by
  unfold rws
  rw [List.getD_eq_getElem?_getD, List.getElem?_map, List.getElem?_range h]; rfl
theorem top_lt {fs : List (Int × Int)} (h : Few fs) : top fs < 2000 := by have := h.c; have := cmn_pos h.toVfs; unfold top; omega
theorem d_law_most {ds : List D} {d : D} (h : R_most ds d) : DS (t_law_most K (spF R_floor) (spF R_greater) (spF R_made) (spF R_common_bottom)) (ent ["_law_marks_so", "_law_rows_so", "_law_n", "_law_found", "_law_k", "_law_own"] ds) (retO d) := by
  obtain ⟨fs, rfl, hf, rfl⟩ := h
  have c1 := cmn_pos hf.toVfs
  have c2 := hf.c
  have ht := top_lt hf
  refine q_asgL (fv_lst av_nil) ?_
  have hi : Iv (iRng2 (tCons (tC (.int 1)) (tCons (tOp xAdd (tCall (spF R_common_bottom) [] E0 (tCons (tVar 0) tNil)) (tC (.int 1))) tNil))) [.dat (tf fs), .own [], .un, .un, .un, .un] ((List.range (cmn fs + 1 - 1).toNat).map fun (i : Nat) => D.int (1 + (i : Int))) :=
    iv_rng2 (av_cons ev_int (av_cons (e_add (e_c1 (ev_v rfl) ⟨_, rfl, hf.toVfs, rfl⟩) ev_int) av_nil)) (by omega)
  have hlen : (cmn fs + 1 - 1).toNat = top fs + 1 := by unfold top; omega
  rw [hlen] at hi
  refine q_for hi (fun m Γ => ∃ s, Γ = [.dat (tf fs), .own ((rws fs m).map fr), s, .un, .un, .un]) ⟨.un, rfl⟩ ?_ ?_
  · rintro m d Γ1 hd ⟨s, rfl⟩
    have hm : m < top fs + 1 := by
      have := (List.getElem?_eq_some_iff.mp hd).1
      simpa using this
    rw [List.getElem?_map, List.getElem?_range hm] at hd
    obtain rfl : D.int (1 + (m : Int)) = d := Option.some.inj hd
    refine ⟨_, _, gv_name, ?_⟩
    have hc : Fv (tLc (iTup K (tVar 0)) (gName 5) tYes (tCall (spF R_floor) [] E0 (tCons (tVar 5) (tCons (tVar 2) tNil))) [5]) [.dat (tf fs), .own ((rws fs m).map fr), .dat (.int (1 + (m : Int))), .un, .un, .un] (fs.map fun f => D.int (flr f (1 + (m : Int)))) :=
      fv_lc1 (c := fr) (iv_tup (ev_v rfl)) hf.up fun a ha => ⟨_, _, gv_name, by simp, e_c2 (ev_v rfl) (ev_v rfl) ⟨a, _, rfl, hf.v a ha, by omega, by omega, rfl⟩⟩
    have hc2 := hc.is (ys := (fs.map fun f => flr f (1 + (m : Int))).map D.int) (by rw [List.map_map]; rfl)
    refine d_app rfl (d := fr (val fs (1 + (m : Int)))) (e_c2 (e_sub (e_add (e_sum hc2.ev) (e_lenM (ev_v rfl))) ev_int) (ev_v rfl) ⟨_, _, rfl, by omega, by omega, rfl⟩) (by rw [List.length_map]; unfold rws; rw [List.length_map, List.length_range]; omega) ⟨.dat (.int (1 + (m : Int))), ?_⟩
    have e : rws fs (m + 1) = rws fs m ++ [val fs (1 + (m : Int))] := by
      unfold rws
      rw [List.range_succ, List.map_append]
      refine congrArg _ ?_
      show [val fs ((m : Int) + 1)] = _
      rw [Int.add_comm]
    rw [e, List.map_append]
    rfl
  · rintro Γ1 ⟨s, rfl⟩
    rw [List.length_map, List.length_range]
    refine DS.settle (n := 1) rfl ?_
    have hr : rws fs (top fs + 1) = val fs 1 :: (List.range (top fs)).map fun (i : Nat) => val fs ((i : Int) + 2) := rws_cons fs (top fs)
    have hvf : ∀ g ∈ rws fs (top fs + 1), Vf g := fun g hg => by
      unfold rws at hg
      obtain ⟨k, hk, rfl⟩ := List.mem_map.mp hg
      have := List.mem_range.mp hk
      exact vf_val (by omega) (by omega)
    refine q_asg (d := fr (mst fs)) (e_c1 (ev_v rfl) ⟨val fs 1, (List.range (top fs)).map fun (i : Nat) => val fs ((i : Int) + 2), by rw [← hr], by rw [← hr]; exact hvf, by unfold mst; rw [bst_fold]⟩) ?_
    have rl : (rws fs (top fs + 1)).length = top fs + 1 := by unfold rws; rw [List.length_map, List.length_range]
    have hc : Fv (tLc (iEnum K (tCons (tVar 1) tNil)) (gTup K 2 (gCons (gName 4) (gCons (gName 5) gNil))) (tTest (tOp (rEqD K) (tVar 5) (tVar 3))) (tOp xAdd (tVar 4) (tC (.int 1))) [4, 5]) [.dat (tf fs), .dat (.lst ((rws fs (top fs + 1)).map fr)), s, .dat (fr (mst fs)), .un, .un]
        (((List.range (top fs + 1)).filter fun (k : Nat) => decide (val fs ((k : Int) + 1) = mst fs)).map fun (k : Nat) => D.int ((k : Int) + 1)) :=
      fv_lc (as := List.range (top fs + 1)) (c := fun (i : Nat) => D.tup [.int (i : Int), fr ((rws fs (top fs + 1)).getD i (0, 1))]) (by
        have := enumD_map (c := fr) (as := rws fs (top fs + 1)) (a0 := (0, 1))
        rw [rl] at this
        rw [← this]
        exact iv_enum (av_cons (ev_v rfl) av_nil)) (by rw [List.length_range]; omega) fun a ha => ⟨_, _, gv_t2, by simp, (t_test (e_eqF (ev_v rfl) (ev_v rfl))).is (by rw [rws_at (List.mem_range.mp ha)]), fun _ => e_add (ev_v rfl) ev_int⟩
    refine d_ret (ev_tup (av_cons (ev_v rfl) (av_cons hc.ev av_nil))) ?_
    show D.tup [_, D.lst _] = D.tup [_, D.lst _]
    unfold idx
    rw [List.map_map]
    rfl
end DL
set_option Elab.async false
set_option linter.all false
set_option maxRecDepth 100000
set_option maxHeartbeats 2000000
namespace DL
open PySem L2 PyProof.Rows RZ
variable {K : PySem.W.Frag}

theorem eqv_nil (xs : List D) : PyData.eqvAll (pys xs) (pys []) = xs.isEmpty := by cases xs <;> rfl
theorem adj_srt (ws : List Int) : decide (ws = M.srt ws) = M.adj ws := by
  cases h : M.adj ws with
  | true =>
    refine decide_eq_true ?_
    refine sorted_unique (M.srt_perm ws).symm ?_ (M.srt_sorted ws)
    rw [List.pairwise_iff_getElem]
    intro i j hi hj hij
    exact M.adj_get h (Nat.le_of_lt hij) (List.getElem?_eq_getElem hi) (List.getElem?_eq_getElem hj)
  | false =>
    refine decide_eq_false fun e => ?_
    have hs := M.srt_sorted ws
    rw [← e] at hs
    have : M.adj ws = true := M.adj_of fun i hi => by
      rw [List.pairwise_iff_getElem] at hs
      have := hs i (i + 1) (by omega) hi (by omega)
      rw [List.getD_eq_getElem?_getD, List.getD_eq_getElem?_getD, List.getElem?_eq_getElem (by omega), List.getElem?_eq_getElem hi]
      exact this
    rw [h] at this; exact nomatch this
theorem e_neNil {Γ : Gam} {ta : TE} {xs : List D} (h : Ev ta Γ (.lst xs)) (hs : Sm 3 (.lst xs)) : Ev (tOp (rNeD K) ta (tLst tNil)) Γ (.bl (!xs.isEmpty)) :=
  (e_ne h (Fv.ev (fv_lst av_nil)) hs.shaped (sm_lst (n := 0) (by decide) (fun d h => by cases h)).shaped).is (congrArg D.bl (by
    show (!PyData.eqvAll (pys xs) (pys [])) = _
    rw [eqv_nil]))
theorem isEmpty_map {α β : Type} (f : α → β) (l : List α) : (l.map f).isEmpty = l.isEmpty := by cases l <;> rfl
theorem filter_empty {α : Type} {p : α → Bool} (l : List α) : (l.filter p).isEmpty = l.all fun a => !p a := by
  induction l with
  | nil => rfl
  | cons a r ih =>
    rw [List.filter_cons, List.all_cons]
    cases p a with
    | true => rfl
    | false => rw [if_neg (by decide), ih]; rfl
theorem sm_ones {α : Type} {n : Nat} (l : List α) (h : l.length ≤ 100000) : Sm (n + 1) (.lst (l.map fun _ => D.int 1)) := sm_lst (by rw [List.length_map]; exact h) fun d hd => by
  obtain ⟨a, _, rfl⟩ := List.mem_map.mp hd
  exact sm_int
def R_is_disk (ds : List D) (d : D) : Prop := ∃ x, ds = [x] ∧ Sm 3 x ∧ d = .bl (wheelD x)
theorem d_law_is_disk {ds : List D} {d : D} (h : R_is_disk ds d) : DS (t_law_is_disk K) (ent ["_law_matter", "_law_own"] ds) (retO d) := by
  obtain ⟨x, rfl, hs, rfl⟩ := h
  have no : x.isTup = false → wheelD x = false → DS (t_law_is_disk K) (ent ["_law_matter", "_law_own"] [x]) (retO (.bl (wheelD x))) := fun h1 h2 => by
    rw [h2]
    refine q_when (t_or (b := false) (t_not (t_B (e_isi (ev_v rfl) (k_tup _)))) fun z => ?_) (fun _ => d_ret ev_bl rfl) fun z => ?_
    · rw [h1] at z; cases z
    · rw [h1] at z; cases z
  cases x with
  | non => exact no rfl rfl
  | bl b => exact no rfl rfl
  | int b => exact no rfl rfl
  | lst b => exact no rfl rfl
  | tup es =>
    have hl : es.length ≤ 100000 := hs.1
    refine q_when (t_or (t_not (t_B (e_isi (ev_v rfl) (k_tup _)))) fun _ => t_test (e_eq (ev_v rfl) (ev_tup av_nil) hs.shaped (sm_tup (n := 0) (by decide) (fun d h => by cases h)).shaped)) (fun z => d_ret ev_bl ?_) fun z => ?_
    · have z : (false || PyData.eqvAll (pys es) (pys [])) = true := z
      rw [eqv_nil] at z
      cases es with
      | nil => rfl
      | cons => exact nomatch z
    · have z : (false || PyData.eqvAll (pys es) (pys [])) = false := z
      rw [eqv_nil] at z
      have hp : 1 ≤ es.length := by
        cases es with
        | nil => exact nomatch z
        | cons => simp
      have hc : Fv (tLc (iTup K (tVar 0)) (gName 1) (tOr (tNot (tB (tCB (rIsi K) (tCons (tVar 1) (tCons (tC (.ty "int")) tNil))))) (tB (tCB (rIsi K) (tCons (tVar 1) (tCons (tC (.ty "bool")) tNil))))) (tC (.int 1)) [1]) [.dat (.tup es), .un] ((es.filter fun o => !o.isI || o.isBl).map fun _ => D.int 1) :=
        fv_lc (c := id) (by rw [List.map_id]; exact iv_tup (ev_v rfl)) hl fun a _ => ⟨_, _, gv_name, by simp, t_or (t_not (t_B (e_isi (ev_v rfl) (k_int a)))) fun _ => t_B (e_isi (ev_v rfl) (k_bool a)), fun _ => ev_int⟩
      have hall : (es.filter fun o => !o.isI || o.isBl).isEmpty = es.all numD := by
        rw [filter_empty]
        congr 1
        funext o
        cases o <;> rfl
      refine q_when (t_test (e_neNil hc.ev (sm_ones _ (Nat.le_trans (List.length_filter_le _ _) hl)))) (fun y => d_ret ev_bl ?_) fun y => ?_
      · rw [isEmpty_map, hall] at y
        have y : es.all numD = false := by simpa using y
        show D.bl false = D.bl (es.all numD && M.isWh (intsOf es))
        rw [y]; rfl
      · rw [isEmpty_map, hall] at y
        have hn : es.all numD = true := by simpa using y
        obtain ⟨ws, rfl⟩ : ∃ ws : List Int, es = ws.map D.int := ⟨_, of_ints hn⟩
        rw [List.length_map] at hl hp
        have hw : wheelD (.tup (ws.map D.int)) = M.isWh ws := wheelD_ti ws
        refine d_ret (e_and (e_eqLI (f_listT (ev_v rfl)).ev (f_sortedT (ev_v rfl) (M.srt_perm ws) (M.srt_sorted ws)).ev hl (by rw [(M.srt_perm ws).length_eq]; exact hl)) fun _ => e_le (e_ixT (ev_v rfl) (e_neg ev_int) (atI_map (atI_last (M.getD_at (by omega))))) (e_add (e_ixT (ev_v rfl) ev_int (ints_at (by decide) (by omega))) (e_lenM (ev_v rfl)))) ?_
        show D.bl (decide (ws = M.srt ws) && decide (ws.getD (ws.length - 1) 0 ≤ ws.getD (0 : Int).toNat 0 + (ws.length : Int))) = D.bl _
        rw [hw, adj_srt]
        unfold M.isWh
        have e1 : ws.headD 0 = ws.getD 0 0 := by cases ws <;> rfl
        have e2 : ws.getLastD 0 = ws.getD (ws.length - 1) 0 := by
          cases ws with
          | nil => rfl
          | cons a r => rw [List.getLastD_eq_getLast?, List.getLast?_eq_getElem?, List.getD_eq_getElem?_getD]
        have e3 : ws.isEmpty = false := by cases ws with
          | nil => simp at hp
          | cons => rfl
        rw [e1, e2, e3]
        rfl

/-! the raised wheel -/
def rwk (ws : List Int) (q k : Nat) : List Int := (List.range (q + 1)).map fun n => M.itr (M.led ws) n k
theorem rows_rwk (ws : List Int) (p : Int) (q : Nat) : M.rows ws p q = rwk ws q (M.k0 ws p q) := rfl
theorem ix_neg1 {n : Nat} {α : Type} {f : Nat → α} : L2.atI ((List.range (n + 1)).map f) (-1) = some (f n) := atI_last (by
  rw [List.length_map, List.length_range, Nat.add_sub_cancel, List.getElem?_map, List.getElem?_range (by omega)]; rfl)
def nrI (rs : List Int) (p : Int) (q : Nat) (N : Int) (i : Nat) : List Int := (List.range q).map fun (n : Nat) => rs.getD n 0 + ((i : Int) - n * p) / q * N
theorem mul_small1 {a b : Nat} (hb : 0 < b) (h : a * b ≤ 90000) : a ≤ 90000 := Nat.le_trans (Nat.le_mul_of_pos_right a hb) h
theorem k0_of {ws : List Int} {p : Int} {q k : Nat} (hk : k < ws.length) (h : M.itr (M.led ws) q k ≤ (k : Int) + p * ws.length) (hno : ∀ j, j < k → ¬ M.itr (M.led ws) q j ≤ (j : Int) + p * ws.length) : M.k0 ws p q = k := by
  unfold M.k0
  have : (List.range ws.length).find? (fun (k : Nat) => decide (M.itr (M.led ws) q k ≤ (k : Int) + p * ws.length)) = some k := by
    rw [List.find?_range_eq_some]
    exact ⟨decide_eq_true h, List.mem_range.mpr hk, fun j hj => by rw [decide_eq_false (hno j hj)]; rfl⟩
  rw [this]; rfl
theorem k0_none {ws : List Int} {p : Int} {q : Nat} (hno : ∀ j, j < ws.length → ¬ M.itr (M.led ws) q j ≤ (j : Int) + p * ws.length) : M.k0 ws p q = ws.length - 1 := by
  unfold M.k0
  have : (List.range ws.length).find? (fun (k : Nat) => decide (M.itr (M.led ws) q k ≤ (k : Int) + p * ws.length)) = none := by
    rw [List.find?_range_eq_none]
    exact fun j hj => by rw [decide_eq_false (hno j hj)]; rfl
  rw [this]; rfl
def spt (ns : List Int) (q : Nat) (N : Int) (i : Nat) : Int := ns.getD i 0 * q + (M.cnt i fun j => ns.getD j 0 == ns.getD i 0 : Nat) + (M.cnt q fun j => ns.getD j 0 - N == ns.getD i 0 : Nat)
theorem cnt_len (n : Nat) (t : Nat → Bool) : ((List.range n).filter t).length = M.cnt n t := by unfold M.cnt; rw [List.countP_eq_length_filter]
def R_raised (ds : List D) (d : D) : Prop := ∃ (ws : List Int) (p : Int) (q : Nat), ds = [ti ws, fr (p, (q : Int))] ∧ 0 < ws.length ∧ 0 < q ∧ ws.length * q ≤ 90000 ∧ d = ti (M.rsd ws p q)
theorem d_law_raised {ds : List D} {d : D} (h : R_raised ds d) : DS (t_law_raised K (spF R_greatest) (spF R_led_in) (spF R_name_ahead) (spF R_told_from)) (ent ["_law_disk_here", "_law_frac_so", "_law_ring_so", "_law_above_so", "_law_below_so", "_law_k", "_law_rows_so", "_law_lap", "_law_near_so", "_law_i", "_law_line_so", "_law_spots_so", "_law_own", "_law_ahead_so", "_law_last_so", "_law_fine_so", "_law_round_so", "_law_shift_so", "_law_far_so", "_law_n", "_law_j"] ds) (retO d) := by
  obtain ⟨ws, p, q, rfl, hn, hq, hb, rfl⟩ := h
  have hwl0 : ws.length ≤ 90000 := mul_small1 hq hb
  have hql0 : q ≤ 90000 := mul_small1 hn (by rw [Nat.mul_comm]; exact hb)
  have hwl : ws.length ≤ 100000 := by omega
  have hql : q ≤ 100000 := by omega
  refine q_asgG (ev_tup (av_cons (e_lenM (ev_v rfl)) (av_cons (e_fr0 (ev_v rfl)) (av_cons (e_fr1 (ev_v rfl)) av_nil)))) gv_t3 ?_
  show DS _ [.dat (ti ws), .dat (fr (p, (q : Int))), .dat (.int (ws.length : Int)), .dat (.int p), .dat (.int (q : Int)), .un, .un, .un, .un, .un, .un, .un, .un, .un, .un, .un, .un, .un, .un, .un, .un] _
  refine d_seq ?_
  refine d_mono (O := { nx := fun Γ' => ∃ s5 s7, Γ' = [.dat (ti ws), .dat (fr (p, (q : Int))), .dat (.int (ws.length : Int)), .dat (.int p), .dat (.int (q : Int)), s5, .own ((M.rows ws p q).map D.int), s7, .un, .un, .un, .un, .un, .un, .un, .un, .un, .un, .un, .un, .un], rt := fun _ _ => False, bk := fun _ => False, ct := fun _ => False }) ?_ ?_ (fun _ _ h => h.elim) (fun _ h => h.elim) (fun _ h => h.elim)
  · -- the search
    refine d_for (iv_rng1 (n := (ws.length : Int)) (av_cons (ev_v rfl) av_nil) (by omega)) (fun m Γ => ∃ s5 s6 s7, Γ = [.dat (ti ws), .dat (fr (p, (q : Int))), .dat (.int (ws.length : Int)), .dat (.int p), .dat (.int (q : Int)), s5, s6, s7, .un, .un, .un, .un, .un, .un, .un, .un, .un, .un, .un, .un, .un] ∧ (∀ j, j < m → ¬ M.itr (M.led ws) q j ≤ (j : Int) + p * ws.length) ∧ (0 < m → s6 = .own ((rwk ws q (m - 1)).map D.int))) ⟨.un, .un, .un, rfl, fun j h => by omega, fun h => by omega⟩ ?_ ?_
    · rintro m d Γ1 hd ⟨s5, s6, s7, rfl, hno, _⟩
      have hm : m < ws.length := by
        have := (List.getElem?_eq_some_iff.mp hd).1
        simpa using this
      rw [Int.toNat_natCast, List.getElem?_map, List.getElem?_range hm] at hd
      obtain rfl : D.int (m : Int) = d := Option.some.inj hd
      refine ⟨_, _, gv_name, ?_⟩
      refine q_asgL (fv_lst (av_cons (ev_v rfl) av_nil)) ?_
      refine q_for (iv_rng1 (n := (q : Int)) (av_cons (ev_v rfl) av_nil) (by omega)) (fun j Γ => ∃ s7, Γ = [.dat (ti ws), .dat (fr (p, (q : Int))), .dat (.int (ws.length : Int)), .dat (.int p), .dat (.int (q : Int)), .dat (.int (m : Int)), .own ((List.range (j + 1)).map fun n => D.int (M.itr (M.led ws) n m)), s7, .un, .un, .un, .un, .un, .un, .un, .un, .un, .un, .un, .un, .un]) ⟨s7, rfl⟩ ?_ ?_
      · rintro j d Γ2 hd2 ⟨s7, rfl⟩
        have hj : j < q := by
          have := (List.getElem?_eq_some_iff.mp hd2).1
          simpa using this
        rw [Int.toNat_natCast, List.getElem?_map, List.getElem?_range hj] at hd2
        obtain rfl : D.int (j : Int) = d := Option.some.inj hd2
        refine ⟨_, _, gv_name, d_app rfl (e_c2 (ev_v rfl) (e_ixO rfl (e_neg ev_int) ix_neg1) ⟨ws, _, rfl, hn, hwl, rfl⟩) (by rw [List.length_map, List.length_range]; omega) ⟨.dat (.int (j : Int)), ?_⟩⟩
        rw [List.range_succ (n := j + 1), List.map_append]
        show _ = [_, _, _, _, _, _, Sl.own (_ ++ [D.int (M.itr (M.led ws) (j + 1) m)]), _, _, _, _, _, _, _, _, _, _, _, _, _, _]
        rw [M.itr_succ]
        rfl
      · rintro Γ2 ⟨s7, rfl⟩
        rw [List.length_map, List.length_range, Int.toNat_natCast]
        have er : ((List.range (q + 1)).map fun n => D.int (M.itr (M.led ws) n m)) = (rwk ws q m).map D.int := by
          unfold rwk
          rw [List.map_map]; rfl
        refine d_if (t_test (e_le (e_ixO rfl (e_neg ev_int) ix_neg1) (e_add (ev_v rfl) (e_mul (ev_v rfl) (ev_v rfl) (.inr (small_of hwl)))))) (fun z => d_break ⟨.dat (.int (m : Int)), s7, ?_⟩) fun z => d_next ⟨.dat (.int (m : Int)), .own ((rwk ws q m).map D.int), s7, ?_, fun j hj => ?_, fun _ => rfl⟩
        · rw [rows_rwk, k0_of hm (of_decide_eq_true z) hno, er]
        · rw [er]
        · rcases Nat.lt_or_ge j m with l | l
          · exact hno j l
          · have : j = m := by omega
            subst this
            exact of_decide_eq_false z
    · rintro Γ1 ⟨s5, s6, s7, rfl, hno, hs⟩
      rw [List.length_map, List.length_range, Int.toNat_natCast] at hno hs
      rw [hs hn]
      refine ⟨s5, s7, ?_⟩
      rw [rows_rwk, k0_none hno]
  · rintro Γ' ⟨s5, s7, rfl⟩
    refine DS.settle (n := 6) rfl ?_
    show DS _ [.dat (ti ws), .dat (fr (p, (q : Int))), .dat (.int (ws.length : Int)), .dat (.int p), .dat (.int (q : Int)), s5, .dat (li (M.rows ws p q)), s7, .un, .un, .un, .un, .un, .un, .un, .un, .un, .un, .un, .un, .un] _
    have hrl : (M.rows ws p q).length = q + 1 := by unfold M.rows; rw [List.length_map, List.length_range]
    refine q_asgL (fv_lst av_nil) ?_
    refine q_for (iv_rng1 (n := (q : Int)) (av_cons (ev_v rfl) av_nil) (by omega)) (fun m Γ => ∃ s9 s10, Γ = [.dat (ti ws), .dat (fr (p, (q : Int))), .dat (.int (ws.length : Int)), .dat (.int p), .dat (.int (q : Int)), s5, .dat (li (M.rows ws p q)), s7, .own ((List.range m).map fun i => D.int (M.mxL (nrI (M.rows ws p q) p q ws.length i))), s9, s10, .un, .un, .un, .un, .un, .un, .un, .un, .un, .un]) ⟨.un, .un, rfl⟩ ?_ ?_
    · rintro m d Γ1 hd ⟨s9, s10, rfl⟩
      have hm : m < q := by
        have := (List.getElem?_eq_some_iff.mp hd).1
        simpa using this
      rw [Int.toNat_natCast, List.getElem?_map, List.getElem?_range hm] at hd
      obtain rfl : D.int (m : Int) = d := Option.some.inj hd
      refine ⟨_, _, gv_name, ?_⟩
      have hc : Fv (tLc (iRng1 (tCons (tVar 4) tNil)) (gName 19) tYes (tOp xAdd (tOp (rIxL K) (tVar 6) (tVar 19)) (tOp xMul (tOp xDiv (tOp xSub (tVar 9) (tOp xMul (tVar 19) (tVar 3))) (tVar 4)) (tVar 2))) [19]) [.dat (ti ws), .dat (fr (p, (q : Int))), .dat (.int (ws.length : Int)), .dat (.int p), .dat (.int (q : Int)), s5, .dat (li (M.rows ws p q)), s7, .own ((List.range m).map fun i => D.int (M.mxL (nrI (M.rows ws p q) p q ws.length i))), .dat (.int (m : Int)), s10, .un, .un, .un, .un, .un, .un, .un, .un, .un, .un] ((List.range q).map fun (n : Nat) => D.int ((M.rows ws p q).getD n 0 + ((m : Int) - n * p) / q * ws.length)) :=
        fv_lc1 (as := List.range q) (c := fun (k : Nat) => D.int (k : Int)) (iv_rng1 (n := (q : Int)) (av_cons (ev_v rfl) av_nil) (by omega)) (by rw [List.length_range]; exact hql) fun a ha => by
          have ha := List.mem_range.mp ha
          exact ⟨_, _, gv_name, by simp, e_add (e_ixLI (i := (a : Int)) (ev_v rfl) (ev_v rfl) (by omega) (by omega)) (e_mul (e_div (e_sub (ev_v rfl) (e_mul (ev_v rfl) (ev_v rfl) (.inl (by constructor <;> omega)))) (ev_v rfl) (by omega)) (ev_v rfl) (.inr (small_of hwl)))⟩
      have hc2 := hc.is (ys := (nrI (M.rows ws p q) p q ws.length m).map D.int) (by unfold nrI; rw [List.map_map]; rfl)
      have hne : nrI (M.rows ws p q) p q ws.length m ≠ [] := fun z => by
        have := congrArg List.length z
        unfold nrI at this
        rw [List.length_map, List.length_range] at this
        simp at this; omega
      refine q_asg hc2.ev (d_app rfl (e_max (ev_v rfl) (M.mxL_mem hne) fun y hy => M.mxL_ge hy) (by rw [List.length_map, List.length_range]; omega) ⟨.dat (.int (m : Int)), .dat (.lst ((nrI (M.rows ws p q) p q ws.length m).map D.int)), ?_⟩)
      rw [List.range_succ, List.map_append]
      rfl
    rintro Γ1 ⟨s9, s10, rfl⟩
    rw [List.length_map, List.length_range, Int.toNat_natCast]
    refine DS.settle (n := 8) rfl ?_
    have en : ((List.range q).map fun i => D.int (M.mxL (nrI (M.rows ws p q) p q ws.length i))) = (M.near ws p q).map D.int := by
      unfold M.near nrI
      rw [List.map_map]; rfl
    rw [en]
    have hnl : (M.near ws p q).length = q := by unfold M.near; rw [List.length_map, List.length_range]
    show DS _ [.dat (ti ws), .dat (fr (p, (q : Int))), .dat (.int (ws.length : Int)), .dat (.int p), .dat (.int (q : Int)), s5, .dat (li (M.rows ws p q)), s7, .dat (li (M.near ws p q)), s9, s10, .un, .un, .un, .un, .un, .un, .un, .un, .un, .un] _
    refine q_asgL (fv_lst av_nil) ?_
    refine q_for (by have := iv_enum (K := K) (Γ := [.dat (ti ws), .dat (fr (p, (q : Int))), .dat (.int (ws.length : Int)), .dat (.int p), .dat (.int (q : Int)), s5, .dat (li (M.rows ws p q)), s7, .dat (li (M.near ws p q)), s9, s10, .own [], .un, .un, .un, .un, .un, .un, .un, .un, .un]) (tar := tCons (tVar 8) tNil) (av_cons (ev_v rfl) av_nil)
                     rw [enumD_ints, hnl] at this
                     exact this) (fun m Γ => ∃ s9 s12 s13 s14, Γ = [.dat (ti ws), .dat (fr (p, (q : Int))), .dat (.int (ws.length : Int)), .dat (.int p), .dat (.int (q : Int)), s5, .dat (li (M.rows ws p q)), s7, .dat (li (M.near ws p q)), s9, s10, .own ((List.range m).map fun i => D.int (spt (M.near ws p q) q ws.length i)), s12, s13, s14, .un, .un, .un, .un, .un, .un]) ⟨s9, .un, .un, .un, rfl⟩ ?_ ?_
    · rintro m d Γ1 hd ⟨s9, s12, s13, s14, rfl⟩
      have hm : m < q := by
        have := (List.getElem?_eq_some_iff.mp hd).1
        simpa using this
      rw [List.getElem?_map, List.getElem?_range hm] at hd
      obtain rfl : D.tup [.int (m : Int), .int ((M.near ws p q).getD m 0)] = d := Option.some.inj hd
      refine ⟨_, _, gv_t2, ?_⟩
      have hc1 : Fv (tLc (iRng1 (tCons (tVar 9) tNil)) (gName 20) (tTest (tOp (rEqD K) (tOp (rIxL K) (tVar 8) (tVar 20)) (tVar 12))) (tVar 20) [20]) [.dat (ti ws), .dat (fr (p, (q : Int))), .dat (.int (ws.length : Int)), .dat (.int p), .dat (.int (q : Int)), s5, .dat (li (M.rows ws p q)), s7, .dat (li (M.near ws p q)), .dat (.int (m : Int)), s10, .own ((List.range m).map fun i => D.int (spt (M.near ws p q) q ws.length i)), .dat (.int ((M.near ws p q).getD m 0)), s13, s14, .un, .un, .un, .un, .un, .un]
          (((List.range m).filter fun (j : Nat) => decide ((M.near ws p q).getD j 0 = (M.near ws p q).getD m 0)).map fun (k : Nat) => D.int (k : Int)) :=
        fv_lc (as := List.range m) (c := fun (k : Nat) => D.int (k : Int)) (iv_rng1 (n := (m : Int)) (av_cons (ev_v rfl) av_nil) (by omega)) (by rw [List.length_range]; omega) fun a ha => by
          have ha := List.mem_range.mp ha
          exact ⟨_, _, gv_name, by simp, t_test (e_eqI (e_ixLI (i := (a : Int)) (ev_v rfl) (ev_v rfl) (by omega) (by omega)) (ev_v rfl)), fun _ => ev_v rfl⟩
      refine q_asg hc1.ev ?_
      generalize hy1 : (D.lst (((List.range m).filter fun (j : Nat) => decide ((M.near ws p q).getD j 0 = (M.near ws p q).getD m 0)).map fun (k : Nat) => D.int (k : Int))) = y1
      have hc2 : Fv (tLc (iRng1 (tCons (tVar 4) tNil)) (gName 20) (tTest (tOp (rEqD K) (tOp xSub (tOp (rIxL K) (tVar 8) (tVar 20)) (tVar 2)) (tVar 12))) (tVar 20) [20]) [.dat (ti ws), .dat (fr (p, (q : Int))), .dat (.int (ws.length : Int)), .dat (.int p), .dat (.int (q : Int)), s5, .dat (li (M.rows ws p q)), s7, .dat (li (M.near ws p q)), .dat (.int (m : Int)), s10, .own ((List.range m).map fun i => D.int (spt (M.near ws p q) q ws.length i)), .dat (.int ((M.near ws p q).getD m 0)), .dat y1, s14, .un, .un, .un, .un, .un, .un]
          (((List.range q).filter fun (j : Nat) => decide ((M.near ws p q).getD j 0 - ws.length = (M.near ws p q).getD m 0)).map fun (k : Nat) => D.int (k : Int)) :=
        fv_lc (as := List.range q) (c := fun (k : Nat) => D.int (k : Int)) (iv_rng1 (n := (q : Int)) (av_cons (ev_v rfl) av_nil) (by omega)) (by rw [List.length_range]; omega) fun a ha => by
          have ha := List.mem_range.mp ha
          exact ⟨_, _, gv_name, by simp, t_test (e_eqI (e_sub (e_ixLI (i := (a : Int)) (ev_v rfl) (ev_v rfl) (by omega) (by omega)) (ev_v rfl)) (ev_v rfl)), fun _ => ev_v rfl⟩
      refine q_asg hc2.ev ?_
      generalize hy2 : (D.lst (((List.range q).filter fun (j : Nat) => decide ((M.near ws p q).getD j 0 - ws.length = (M.near ws p q).getD m 0)).map fun (k : Nat) => D.int (k : Int))) = y2
      have l1 : Ev (tCB (rLenS K) (tCons (tVar 13) tNil)) [.dat (ti ws), .dat (fr (p, (q : Int))), .dat (.int (ws.length : Int)), .dat (.int p), .dat (.int (q : Int)), s5, .dat (li (M.rows ws p q)), s7, .dat (li (M.near ws p q)), .dat (.int (m : Int)), s10, .own ((List.range m).map fun i => D.int (spt (M.near ws p q) q ws.length i)), .dat (.int ((M.near ws p q).getD m 0)), .dat y1, .dat y2, .un, .un, .un, .un, .un, .un] (.int (M.cnt m fun j => (M.near ws p q).getD j 0 == (M.near ws p q).getD m 0 : Nat)) := by
        rw [← cnt_len]
        exact e_lenN (ev_v (by rw [← hy1]; rfl))
      have l2 : Ev (tCB (rLenS K) (tCons (tVar 14) tNil)) [.dat (ti ws), .dat (fr (p, (q : Int))), .dat (.int (ws.length : Int)), .dat (.int p), .dat (.int (q : Int)), s5, .dat (li (M.rows ws p q)), s7, .dat (li (M.near ws p q)), .dat (.int (m : Int)), s10, .own ((List.range m).map fun i => D.int (spt (M.near ws p q) q ws.length i)), .dat (.int ((M.near ws p q).getD m 0)), .dat y1, .dat y2, .un, .un, .un, .un, .un, .un] (.int (M.cnt q fun j => (M.near ws p q).getD j 0 - ws.length == (M.near ws p q).getD m 0 : Nat)) := by
        rw [← cnt_len]
        exact e_lenN (ev_v (by rw [← hy2]; rfl))
      refine d_app rfl (e_add (e_add (e_mul (ev_v rfl) (ev_v rfl) (.inr (small_of hql))) l1) l2) (by rw [List.length_map, List.length_range]; omega) ⟨.dat (.int (m : Int)), .dat (.int ((M.near ws p q).getD m 0)), .dat y1, .dat y2, ?_⟩
      rw [List.range_succ, List.map_append]
      rfl
    rintro Γ1 ⟨s9, s12, s13, s14, rfl⟩
    rw [List.length_map, List.length_range]
    refine DS.settle (n := 11) rfl ?_
    have es : ((List.range q).map fun i => D.int (spt (M.near ws p q) q ws.length i)) = (M.spots (M.near ws p q) q ws.length).map D.int := by
      unfold M.spots spt
      rw [List.map_map]; rfl
    rw [es]
    have hsl : (M.spots (M.near ws p q) q ws.length).length = q := by unfold M.spots; rw [List.length_map, List.length_range]
    show DS _ [.dat (ti ws), .dat (fr (p, (q : Int))), .dat (.int (ws.length : Int)), .dat (.int p), .dat (.int (q : Int)), s5, .dat (li (M.rows ws p q)), s7, .dat (li (M.near ws p q)), s9, s10, .dat (li (M.spots (M.near ws p q) q ws.length)), s12, s13, s14, .un, .un, .un, .un, .un, .un] _
    have hfit : M.rsd ws p q = M.grt (M.srt ((M.spots (M.near ws p q) q ws.length).map fun o => o % ((ws.length : Int) * q))) (M.ahd (M.srt ((M.spots (M.near ws p q) q ws.length).map fun o => o % ((ws.length : Int) * q))) ((ws.length : Int) * q) (M.tld (M.spots (M.near ws p q) q ws.length) ((ws.length : Int) * q) p) false - M.ahd (M.srt ((M.spots (M.near ws p q) q ws.length).map fun o => o % ((ws.length : Int) * q))) ((ws.length : Int) * q) ((M.spots (M.near ws p q) q ws.length).getD 0 0) false) ((ws.length : Int) * q) := rfl
    rw [hfit]
    generalize M.rows ws p q = rs
    generalize M.spots (M.near ws p q) q ws.length = sp at hsl
    generalize M.near ws p q = ns at hnl
    have hfi : ((ws.length : Int) * q) = ((ws.length * q : Nat) : Int) := by rw [Int.natCast_mul]
    have hf0 : 0 < ws.length * q := Nat.mul_pos hn hq
    have hF0 : (0 : Int) < (ws.length : Int) * q := by rw [hfi]; omega
    have hF1 : (ws.length : Int) * q ≤ 100000 := by rw [hfi]; omega
    refine q_asg (e_mul (ev_v rfl) (ev_v rfl) (.inr (small_of hql))) ?_
    have hc3 : Fv (tLc (iList K (tVar 11)) (gName 12) tYes (tOp xMod (tCB rInt1 (tCons (tVar 12) tNil)) (tVar 15)) [12]) [.dat (ti ws), .dat (fr (p, (q : Int))), .dat (.int (ws.length : Int)), .dat (.int p), .dat (.int (q : Int)), s5, .dat (li rs), s7, .dat (li ns), s9, s10, .dat (li sp), s12, s13, s14, .dat (.int ((ws.length : Int) * q)), .un, .un, .un, .un, .un] (sp.map fun o => D.int (o % ((ws.length : Int) * q))) :=
      fv_lc1 (c := D.int) (iv_list (ev_v rfl)) (by omega) fun a _ => ⟨_, _, gv_name, by simp, e_mod (e_int (ev_v rfl)) (ev_v rfl) hF0⟩
    have hc4 := hc3.is (ys := (sp.map fun o => o % ((ws.length : Int) * q)).map D.int) (by rw [List.map_map]; rfl)
    refine q_asg (f_sortedL hc4.ev (M.srt_perm _) (M.srt_sorted _)).ev ?_
    have hrd : (M.srt (sp.map fun o => o % ((ws.length : Int) * q))).length = q := by rw [(M.srt_perm _).length_eq, List.length_map, hsl]
    generalize M.srt (sp.map fun o => o % ((ws.length : Int) * q)) = rd at hrd
    generalize hFF : (ws.length : Int) * q = F at *
    refine q_asg (ev_call (av_cons (e_tupleL (ev_v rfl)) (av_cons (ev_v rfl) (av_cons (e_ixLI (ev_v rfl) ev_int (by decide) (by omega)) (av_cons ev_bl av_nil)))) ⟨rd, F, _, false, rfl, by omega, hF0, hF1, rfl⟩) ?_
    refine q_asg (ev_call (av_cons (ev_v rfl) (av_cons (ev_v rfl) (av_cons (ev_v rfl) av_nil))) ⟨sp, F, p, rfl, by omega, by omega, hF0, hF1, rfl⟩) ?_
    refine d_ret (ev_call (av_cons (e_tupleL (ev_v rfl)) (av_cons (e_sub (ev_call (av_cons (e_tupleL (ev_v rfl)) (av_cons (ev_v rfl) (av_cons (ev_v rfl) (av_cons ev_bl av_nil)))) ⟨rd, F, _, false, rfl, by omega, hF0, hF1, rfl⟩) (ev_v rfl)) (av_cons (ev_v rfl) av_nil))) ⟨rd, _, ws.length * q, by rw [← hfi], by omega, by omega, hf0, by omega, by rw [← hfi]; rfl⟩) rfl
end DL
set_option Elab.async false
set_option linter.all false
set_option maxRecDepth 100000
set_option maxHeartbeats 2000000
namespace DL
open PySem L2 PyProof.Rows RZ
variable {K : PySem.W.Frag}

/-! finer, turning, mirror -/
def fin (ws : List Int) (m : Nat) : List Int := ws.flatMap fun o => List.replicate m (o * m)
theorem fin_len (ws : List Int) (m : Nat) : (fin ws m).length = ws.length * m := by
  unfold fin
  induction ws with
  | nil => simp
  | cons a r ih => rw [List.flatMap_cons, List.length_append, List.length_replicate, ih, List.length_cons, Nat.succ_mul, Nat.add_comm]
theorem fin_take {ws : List Int} {k : Nat} {a : Int} {m : Nat} (h : ws[k]? = some a) : fin (ws.take (k + 1)) m = fin (ws.take k) m ++ List.replicate m (a * m) := by
  unfold fin
  rw [List.take_add_one, h, List.flatMap_append]
  simp
def R_finer (ds : List D) (d : D) : Prop := ∃ (ws : List Int) (m : Nat), ds = [ti ws, .int (m : Int)] ∧ ws.length * m ≤ 90000 ∧ m ≤ 90000 ∧ d = ti (fin ws m)
theorem d_law_finer {ds : List D} {d : D} (h : R_finer ds d) : DS (t_law_finer K) (ent ["_law_disk_here", "_law_many_so", "_law_found", "_law_own"] ds) (retO d) := by
  obtain ⟨ws, m, rfl, hb, hm, rfl⟩ := h
  refine q_asg (Fv.ev (fv_lst av_nil)) ?_
  refine q_for (ds := ws.map D.int) (iv_tup (ev_v rfl)) (fun k Γ => ∃ s, Γ = [.dat (ti ws), .dat (.int (m : Int)), .dat (li (fin (ws.take k) m)), s]) ⟨.un, rfl⟩ ?_ ?_
  · rintro k d Γ1 hd ⟨s, rfl⟩
    rw [List.getElem?_map] at hd
    cases q : ws[k]? with
    | none => rw [q] at hd; cases hd
    | some a =>
      rw [q] at hd
      obtain rfl : D.int a = d := Option.some.inj hd
      have hk := (List.getElem?_eq_some_iff.mp q).1
      have hl : (fin (ws.take k) m).length + m ≤ 90000 := by
        rw [fin_len, List.length_take, Nat.min_eq_left (by omega)]
        have : k * m + m ≤ ws.length * m := by rw [← Nat.succ_mul]; exact Nat.mul_le_mul_right m hk
        omega
      have hrep : Fv (tOp rRep (tLst (tCons (tOp xMul (tVar 3) (tVar 1)) tNil)) (tVar 1)) [.dat (ti ws), .dat (.int (m : Int)), .dat (li (fin (ws.take k) m)), .dat (.int a)] (List.replicate m (.int (a * m))) :=
        (f_rep (Fv.ev (fv_lst (av_cons (e_mul (ev_v rfl) (ev_v rfl) (.inr (by constructor <;> omega))) av_nil))) (ev_v rfl) (by omega)).is (by rw [Int.toNat_natCast])
      refine ⟨_, _, gv_name, d_asg (f_catL (ev_v rfl) hrep.ev (by rw [List.length_map, List.length_replicate]; omega)).ev ⟨.dat (.int a), ?_⟩⟩
      rw [fin_take q]
      show _ = [_, _, Sl.dat (.lst _), _]
      rw [List.map_append, List.map_replicate]
      rfl
  · rintro Γ1 ⟨s, rfl⟩
    rw [List.length_map, List.take_length]
    exact d_ret (e_tupleL (ev_v rfl)) rfl
theorem d_law_soon_turning {ds : List D} {d : D} (h : R_turning_in ds d) : DS (t_law_soon_turning K (spF R_led_in) (spF R_made)) (ent ["_law_disk_here", "_law_z", "_law_ring_so", "_law_lap", "_law_first_so"] ds) (retO d) := by
  obtain ⟨ws, rfl, hw, hl, rfl⟩ := h
  have hn := M.isWh_pos hw
  obtain ⟨_, _, _, _, _, _, _, hsoon⟩ := M.trn_ex hw
  refine q_par (av_cons ev_int (av_cons (e_lenM (ev_v rfl)) av_nil)) ?_
  refine q_for (iv_rng1 (n := (ws.length : Int)) (av_cons (ev_v rfl) av_nil) (by omega)) (fun m Γ => ∃ s, Γ = [.dat (ti ws), .dat (.int (M.itr (M.led ws) m 0)), .dat (.int (ws.length : Int)), s, .un]) ⟨.un, rfl⟩ ?_ ?_
  · rintro m d Γ1 hd ⟨s, rfl⟩
    have hm : m < ws.length := by
      have := (List.getElem?_eq_some_iff.mp hd).1
      simpa using this
    rw [Int.toNat_natCast, List.getElem?_map, List.getElem?_range hm] at hd
    obtain rfl : D.int (m : Int) = d := Option.some.inj hd
    refine ⟨_, _, gv_name, d_asg (e_c2 (ev_v rfl) (ev_v rfl) ⟨ws, _, rfl, hn, hl, rfl⟩) ⟨.dat (.int (m : Int)), ?_⟩⟩
    rw [M.itr_succ]
    rfl
  rintro Γ1 ⟨s, rfl⟩
  rw [List.length_map, List.length_range, Int.toNat_natCast]
  refine q_asg (ev_v rfl) ?_
  generalize hz0 : M.itr (M.led ws) ws.length 0 = z0 at hsoon
  refine q_for (iv_rng1 (n := (ws.length : Int)) (av_cons (ev_v rfl) av_nil) (by omega)) (fun m Γ => ∃ z s, Γ = [.dat (ti ws), .dat (.int z), .dat (.int (ws.length : Int)), s, .dat (.int z0)] ∧ M.soon (M.led ws) ws.length z0 (ws.length - m) m z = some (M.trn ws)) ⟨z0, s, rfl, hsoon⟩ ?_ ?_
  · rintro m d Γ1 hd ⟨z, s, rfl, hs⟩
    have hm : m < ws.length := by
      have := (List.getElem?_eq_some_iff.mp hd).1
      simpa using this
    rw [Int.toNat_natCast, List.getElem?_map, List.getElem?_range hm] at hd
    obtain rfl : D.int (m : Int) = d := Option.some.inj hd
    rw [show ws.length - m = (ws.length - (m + 1)) + 1 by omega] at hs
    have hs' : (if (M.led ws z - z0) % (ws.length : Int) = 0 then some (M.mk ((M.led ws z - z0) / ws.length) ((m : Int) + 1)) else M.soon (M.led ws) ws.length z0 (ws.length - (m + 1)) (m + 1) (M.led ws z)) = some (M.trn ws) := hs
    refine ⟨_, _, gv_name, q_asg (e_c2 (ev_v rfl) (ev_v rfl) ⟨ws, _, rfl, hn, hl, rfl⟩) ?_⟩
    refine d_if (t_test (e_eqI (e_mod (e_int (e_sub (ev_v rfl) (ev_v rfl))) (ev_v rfl) (by omega)) ev_int)) (fun y => ?_) fun y => ?_
    · rw [if_pos (of_decide_eq_true y)] at hs'
      exact d_ret (e_c2 (e_div (e_sub (ev_v rfl) (ev_v rfl)) (ev_v rfl) (by omega)) (e_add (ev_v rfl) ev_int) ⟨_, _, rfl, by omega, by omega, rfl⟩) (congrArg fr (Option.some.inj hs'))
    · rw [if_neg (of_decide_eq_false y)] at hs'
      exact d_next ⟨M.led ws z, .dat (.int (m : Int)), rfl, hs'⟩
  · rintro Γ1 ⟨z, s, rfl, hs⟩
    rw [List.length_map, List.length_range, Int.toNat_natCast, Nat.sub_self] at hs
    exact nomatch hs
def mir (ws : List Int) : List Int := (List.range ws.length).map fun (z : Nat) => 0 - M.led ws (0 - (z : Int))
def R_mirror (ds : List D) (d : D) : Prop := ∃ ws, ds = [ti ws] ∧ 0 < ws.length ∧ ws.length ≤ 100000 ∧ d = ti (mir ws)
theorem d_law_mirror {ds : List D} {d : D} (h : R_mirror ds d) : DS (t_law_mirror K (spF R_led_in)) (ent ["_law_disk_here", "_law_z"] ds) (retO d) := by
  obtain ⟨ws, rfl, hn, hl, rfl⟩ := h
  have hc : Fv (tLc (iRng1 (tCons (tCB (rLenS K) (tCons (tVar 0) tNil)) tNil)) (gName 1) tYes (tOp xSub (tC (.int 0)) (tCall (spF R_led_in) [] E0 (tCons (tVar 0) (tCons (tOp xSub (tC (.int 0)) (tVar 1)) tNil)))) [1]) [.dat (ti ws), .un] ((List.range ws.length).map fun (z : Nat) => D.int (0 - M.led ws (0 - (z : Int)))) :=
    fv_lc1 (as := List.range ws.length) (c := fun (k : Nat) => D.int (k : Int)) (iv_rng1 (n := (ws.length : Int)) (av_cons (e_lenM (ev_v rfl)) av_nil) (by omega)) (by rw [List.length_range]; exact hl) fun a _ => ⟨_, _, gv_name, by simp, e_sub ev_int (e_c2 (ev_v rfl) (e_sub ev_int (ev_v rfl)) ⟨ws, _, rfl, hn, hl, rfl⟩)⟩
  refine d_ret (e_tupleL hc.ev) ?_
  show D.tup _ = D.tup _
  unfold mir
  rw [List.map_map]; rfl
def R_less (ds : List D) (d : D) : Prop := ∃ f, ds = [fr f] ∧ d = fr (ngf f)
theorem d_law_less {ds : List D} {d : D} (h : R_less ds d) : DS (t_law_less K) (ent ["_law_frac_so"] ds) (retO d) := by
  obtain ⟨f, rfl, rfl⟩ := h
  refine d_ret (ev_tup (av_cons (e_sub ev_int (e_fr0 (ev_v rfl))) (av_cons (e_fr1 (ev_v rfl)) av_nil))) ?_
  show D.tup [.int (0 - f.1), _] = D.tup [.int (-f.1), _]
  rw [Int.zero_sub]; rfl
/-! moved -/
theorem least_ex : ∀ {ns : List Int}, ns ≠ [] → ∃ m ∈ ns, ∀ y ∈ ns, m ≤ y
  | [], h => absurd rfl h
  | [a], _ => ⟨a, List.mem_cons_self, fun y hy => by rw [List.mem_singleton.mp hy]; exact Int.le_refl _⟩
  | a :: b :: r, _ => by
    obtain ⟨m, h1, h2⟩ := least_ex (ns := b :: r) (by simp)
    by_cases h : a ≤ m
    · refine ⟨a, List.mem_cons_self, fun y hy => ?_⟩
      rcases List.mem_cons.mp hy with rfl | hy
      · exact Int.le_refl _
      · exact Int.le_trans h (h2 y hy)
    · refine ⟨m, List.mem_cons_of_mem _ h1, fun y hy => ?_⟩
      rcases List.mem_cons.mp hy with rfl | hy
      · omega
      · exact h2 y hy
theorem e_minGe {Γ : Gam} {te : TE} {ns : List Int} (h : Ev te Γ (li ns)) (hn : ns ≠ []) : Ev (tOp xGe (tCB (rMin K) (tCons te tNil)) (tC (.int 0))) Γ (.bl (ns.all fun y => decide (0 ≤ y))) := by
  obtain ⟨m, h1, h2⟩ := least_ex hn
  refine (e_ge (e_min h h1 h2) ev_int).is (congrArg D.bl ?_)
  rw [Bool.eq_iff_iff, decide_eq_true_eq, List.all_eq_true]
  exact ⟨fun q y hy => decide_eq_true (Int.le_trans q (h2 y hy)), fun q => of_decide_eq_true (q m h1)⟩
def R_is_moved (ds : List D) (d : D) : Prop := ∃ ws f x way, ds = [ti ws, fr f, x, .int way] ∧ M.isWh ws = true ∧ ws.length ≤ 100000 ∧ Sm 3 x ∧ (way = 1 ∨ way = -1) ∧ d = .bl (fits ws f x way)
theorem d_law_is_moved {ds : List D} {d : D} (h : R_is_moved ds d) : DS (t_law_is_moved K (spF R_is_disk) (spF R_led_in) (spF R_turning_in)) (ent ["_law_disk_here", "_law_frac_so", "_law_matter", "_law_way_so", "_law_many_so", "_law_rows_so", "_law_z", "_law_own"] ds) (retO d) := by
  obtain ⟨ws, f, x, way, rfl, hw, hl, hs, hy, rfl⟩ := h
  have hn := M.isWh_pos hw
  have no : x.isTup = false → fits ws f x way = false → DS (t_law_is_moved K (spF R_is_disk) (spF R_led_in) (spF R_turning_in)) (ent ["_law_disk_here", "_law_frac_so", "_law_matter", "_law_way_so", "_law_many_so", "_law_rows_so", "_law_z", "_law_own"] [ti ws, fr f, x, .int way]) (retO (.bl (fits ws f x way))) := fun h1 h2 => by
    rw [h2]
    refine q_when (t_or (b := false) (t_not (t_B (e_isi (ev_v rfl) (k_tup _)))) fun z => ?_) (fun _ => d_ret ev_bl rfl) fun z => ?_
    · rw [h1] at z; cases z
    · rw [h1] at z; cases z
  cases x with
  | non => exact no rfl rfl
  | bl b => exact no rfl rfl
  | int b => exact no rfl rfl
  | lst b => exact no rfl rfl
  | tup es =>
    cases hx : longD (.tup es) 2 with
    | false =>
      have hne : decide ((es.length : Int) ≠ 2) = true := by
        have : decide ((es.length : Int) = 2) = false := hx
        exact decide_eq_true (of_decide_eq_false this)
      rw [fits_no hx]
      refine q_when (t_or (b := true) (t_not (t_B (e_isi (ev_v rfl) (k_tup _)))) fun _ => (t_or (b := true) (t_test (e_neI (e_lenT (ev_v rfl)) ev_int)) fun z => ?_).is (Bool.or_true _)) (fun _ => d_ret ev_bl rfl) fun z => ?_
      · rw [hne] at z; exact nomatch z
      · rw [Bool.or_true] at z; exact nomatch z
    | true =>
      obtain ⟨w, m, e⟩ := long_get hx
      rw [e] at hs hx ⊢
      clear e
      have hsw : Sm 3 w := (hs.2 w List.mem_cons_self).up
      have hwl := hsw.len
      refine q_when (t_or (t_not (t_B (e_isi (ev_v rfl) (k_tup _)))) fun _ => t_or (t_test (e_neI (e_lenT (ev_v rfl)) ev_int)) fun _ => t_not (t_B (e_c1 (e_ixT (ev_v rfl) ev_int (atI_pos (a := w) (by decide) rfl)) ⟨w, rfl, hsw, rfl⟩))) (fun z => d_ret ev_bl ?_) fun z => ?_
      · have z : (!wheelD w) = true := z
        have z' : wheelD w = false := by simpa using z
        show D.bl false = D.bl (fits ws f (.tup [w, m]) way)
        cases m with
        | int m =>
          show D.bl false = D.bl (decide (1 ≤ m) && wheelD w && _ && _ && _)
          rw [z', Bool.and_false]; rfl
        | _ => rfl
      · have z : (!wheelD w) = false := z
        have hww : wheelD w = true := by simpa using z
        obtain ⟨gs, rfl, hg⟩ := wheelD_get hww
        rw [lenD_ti] at hwl
        refine q_asg (e_ixT (ev_v rfl) ev_int (atI_pos (a := m) (by decide) rfl)) ?_
        have noM : numD m = false → fits ws f (.tup [ti gs, m]) way = false := fun h => by cases m <;> first | rfl | exact nomatch h
        have bad : ∀ tz : TS, (!m.isI || m.isBl) = true → DS (tSeq (tIfS (tOr (tNot (tB (tCB (rIsi K) (tCons (tVar 4) (tCons (tC (.ty "int")) tNil))))) (tOr (tB (tCB (rIsi K) (tCons (tVar 4) (tCons (tC (.ty "bool")) tNil)))) (tTest (tOp xLt (tVar 4) (tC (.int 1)))))) (tRet (tC (.bl false))) tNext) tz) [.dat (ti ws), .dat (fr f), .dat (.tup [ti gs, m]), .dat (.int way), .dat m, .un, .un, .un] (retO (.bl (fits ws f (.tup [ti gs, m]) way))) := fun tz h => by
          rw [noM (by cases m <;> first | rfl | exact nomatch h)]
          refine q_when (t_or (b := true) (t_not (t_B (e_isi (ev_v rfl) (k_int m)))) fun z => (t_or (b := true) (t_B (e_isi (ev_v rfl) (k_bool m))) fun z2 => ?_).is (Bool.or_true _)) (fun _ => d_ret ev_bl rfl) fun z => ?_
          · rw [z, z2] at h; exact nomatch h
          · rw [Bool.or_true] at z; exact nomatch z
        cases m with
        | non => exact bad _ rfl
        | bl b => exact bad _ rfl
        | lst b => exact bad _ rfl
        | tup b => exact bad _ rfl
        | int m =>
          have hfit : fits ws f (.tup [ti gs, .int m]) way = (decide (1 ≤ m) && (decide ((gs.length : Int) = m * ws.length) && decide (M.trn gs = f) && (List.range ws.length).all fun z => decide (way * m * ws.getD z 0 ≤ way * M.led gs (m * (z : Int))))) := by
            show (decide (1 ≤ m) && wheelD (ti gs) && decide ((lenD (ti gs) : Int) = m * ws.length) && decide (M.trn (wsOf (ti gs)) = f) && (List.range ws.length).all fun z => decide (way * m * ws.getD z 0 ≤ way * M.led (wsOf (ti gs)) (m * (z : Int)))) = _
            rw [hww, lenD_ti, wsOf_ti, Bool.and_true, Bool.and_assoc, Bool.and_assoc, Bool.and_assoc]
          rw [hfit]
          refine q_when (t_or (t_not (t_B (e_isi (ev_v rfl) (k_int _)))) fun _ => t_or (t_B (e_isi (ev_v rfl) (k_bool _))) fun _ => t_test (e_lt (ev_v rfl) ev_int)) (fun y => d_ret ev_bl ?_) fun y => ?_
          · have y : m < 1 := of_decide_eq_true y
            rw [decide_eq_false (show ¬ 1 ≤ m by omega)]; rfl
          · have y : ¬ m < 1 := of_decide_eq_false y
            have hm : 1 ≤ m := by omega
            rw [decide_eq_true hm, Bool.true_and]
            refine q_when (t_or (t_test (e_neI (e_lenM (e_ixT (ev_v rfl) ev_int (atI_pos (a := ti gs) (by decide) rfl))) (e_mul (ev_v rfl) (e_lenM (ev_v rfl)) (.inr (small_of hl))))) fun _ => t_test (e_neF (e_c1 (e_ixT (ev_v rfl) ev_int (atI_pos (a := ti gs) (by decide) rfl)) ⟨gs, rfl, hg, hwl, rfl⟩) (ev_v rfl))) (fun y => d_ret ev_bl ?_) fun y => ?_
            · rw [Bool.or_eq_true, decide_eq_true_eq, decide_eq_true_eq] at y
              rcases y with y | y
              · rw [decide_eq_false y]; rfl
              · rw [decide_eq_false y, Bool.and_false, Bool.false_and]; rfl
            · rw [Bool.or_eq_false_iff, decide_eq_false_iff_not, decide_eq_false_iff_not] at y
              have y1 : (gs.length : Int) = m * ws.length := Decidable.not_not.mp y.1
              have y2 : M.trn gs = f := Decidable.not_not.mp y.2
              have hmb : m ≤ 100000 := by
                have := Int.mul_le_mul_of_nonneg_left (show (1 : Int) ≤ ws.length by omega) (show 0 ≤ m by omega)
                omega
              have hwm : (-(2 ^ 64) : Int) < m ∧ m < 2 ^ 64 := by constructor <;> omega
              have hg0 := M.isWh_pos hg
              rw [decide_eq_true y1, decide_eq_true y2]
              have hc : Fv (tLc (iEnumT K (tCons (tVar 0) tNil)) (gTup K 2 (gCons (gName 6) (gCons (gName 7) gNil))) tYes (tOp xMul (tVar 3) (tOp xSub (tCall (spF R_led_in) [] E0 (tCons (tOp (rIxT K) (tVar 2) (tC (.int 0))) (tCons (tOp xMul (tVar 4) (tVar 6)) tNil))) (tOp xMul (tVar 4) (tVar 7)))) [6, 7]) [.dat (ti ws), .dat (fr f), .dat (.tup [ti gs, .int m]), .dat (.int way), .dat (.int m), .un, .un, .un] ((List.range ws.length).map fun (z : Nat) => D.int (way * (M.led gs (m * (z : Int)) - m * ws.getD z 0))) :=
                fv_lc1 (as := List.range ws.length) (c := fun (i : Nat) => D.tup [.int (i : Int), .int (ws.getD i 0)]) (by rw [← enumD_ints]; exact iv_enumT (av_cons (ev_v rfl) av_nil)) (by rw [List.length_range]; exact hl) fun a ha => ⟨_, _, gv_t2, by simp,
                  e_mul (ev_v rfl) (e_sub (e_c2 (e_ixT (ev_v rfl) ev_int (atI_pos (a := ti gs) (by decide) rfl)) (e_mul (ev_v rfl) (ev_v rfl) (.inl hwm)) ⟨gs, _, rfl, hg0, hwl, rfl⟩) (e_mul (ev_v rfl) (ev_v rfl) (.inl hwm))) (.inl (small_way hy))⟩
              have hc2 := hc.is (ys := ((List.range ws.length).map fun (z : Nat) => way * (M.led gs (m * (z : Int)) - m * ws.getD z 0)).map D.int) (by rw [List.map_map]; rfl)
              refine q_asg hc2.ev (d_ret (e_minGe (ev_v rfl) fun z => ?_) ?_)
              · have := congrArg List.length z
                rw [List.length_map, List.length_range] at this
                exact absurd this (by show ¬ ws.length = 0; omega)
              · show D.bl _ = D.bl _
                rw [List.all_map]
                congr 1
                refine all_range_congr fun i _ => ?_
                show decide (0 ≤ way * (M.led gs (m * (i : Int)) - m * ws.getD i 0)) = decide (way * m * ws.getD i 0 ≤ way * M.led gs (m * (i : Int)))
                rw [Bool.eq_iff_iff, decide_eq_true_eq, decide_eq_true_eq, Int.mul_sub, ← Int.mul_assoc]
                exact Int.sub_nonneg
end DL
set_option Elab.async false
set_option linter.all false
set_option maxRecDepth 100000
set_option maxHeartbeats 2000000
namespace DL
open PySem L2 PyProof.Rows RZ
variable {K : PySem.W.Frag}

def goalF (fs : List (Int × Int)) (way : Int) : Int × Int := if 0 < way then mst fs else lst fs
def R_goal (ds : List D) (d : D) : Prop := ∃ fs way, ds = [tf fs, .int way] ∧ Few fs ∧ d = fr (goalF fs way)
theorem d_law_goal {ds : List D} {d : D} (h : R_goal ds d) : DS (t_law_goal K (spF R_less) (spF R_most)) (ent ["_law_marks_so", "_law_way_so", "_law_own"] ds) (retO d) := by
  obtain ⟨fs, way, rfl, hf, rfl⟩ := h
  refine q_when (t_test (e_gt (ev_v rfl) ev_int)) (fun z => d_ret (e_ixT (e_c1 (ev_v rfl) ⟨fs, rfl, hf, rfl⟩) ev_int (atI_pos (a := fr (mst fs)) (by decide) rfl)) ?_) fun z => ?_
  · unfold goalF; rw [if_pos (of_decide_eq_true z)]; rfl
  · have hc : Fv (tLc (iTup K (tVar 0)) (gName 2) tYes (tCall (spF R_less) [] E0 (tCons (tVar 2) tNil)) [2]) [.dat (tf fs), .dat (.int way), .un] (fs.map fun f => fr (ngf f)) :=
      fv_lc1 (c := fr) (iv_tup (ev_v rfl)) hf.up fun a ha => ⟨_, _, gv_name, by simp, e_c1 (ev_v rfl) ⟨a, rfl, rfl⟩⟩
    have hc2 := hc.is (ys := (fs.map ngf).map fr) (by rw [List.map_map]; rfl)
    refine d_ret (e_c1 (e_ixT (e_c1 (e_tupleL hc2.ev) ⟨_, rfl, hf.ng, rfl⟩) ev_int (atI_pos (a := fr (mst (fs.map ngf))) (by decide) rfl)) ⟨_, rfl, rfl⟩) ?_
    unfold goalF lst; rw [if_neg (of_decide_eq_false z)]; rfl
/-- all tuples, or no wheel among them -/
def Nice (x : D) : Prop := ∀ es, x = .tup es → (∀ o ∈ es, o.isTup = true) ∨ ∀ o ∈ es, wheelD o = false
theorem e_lenD {Γ : Gam} {te : TE} {x : D} (h : Ev te Γ x) (ht : x.isTup = true) : Ev (tCB (rLenS K) (tCons te tNil)) Γ (.int (lenD x : Int)) := by
  cases x with
  | tup es => exact e_lenT h
  | _ => exact nomatch ht
theorem tso_no {fs : List (Int × Int)} {x : D} {g : Int × Int} (h : trainD x = false) : tso fs x g = false := by unfold tso; rw [h]; rfl
def R_reaches (ds : List D) (d : D) : Prop := ∃ fs x way, ds = [tf fs, x, .int way] ∧ Few fs ∧ Sm 3 x ∧ Nice x ∧ d = .bl (tso fs x (goalF fs way))
theorem d_law_reaches {ds : List D} {d : D} (h : R_reaches ds d) : DS (t_law_reaches K (spF R_goal) (spF R_is_disk) (spF R_put) (spF R_turning_in)) (ent ["_law_marks_so", "_law_matter", "_law_way_so", "_law_own"] ds) (retO d) := by
  obtain ⟨fs, x, way, rfl, hf, hs, hnice, rfl⟩ := h
  have hfp := List.length_pos_iff.mpr hf.ne
  have no : x.isTup = false → tso fs x (goalF fs way) = false → DS (t_law_reaches K (spF R_goal) (spF R_is_disk) (spF R_put) (spF R_turning_in)) (ent ["_law_marks_so", "_law_matter", "_law_way_so", "_law_own"] [tf fs, x, .int way]) (retO (.bl (tso fs x (goalF fs way)))) := fun h1 h2 => by
    rw [h2]
    refine q_when (t_or (b := false) (t_not (t_B (e_isi (ev_v rfl) (k_tup _)))) fun z => ?_) (fun _ => d_ret ev_bl rfl) fun z => ?_
    · rw [h1] at z; cases z
    · rw [h1] at z; cases z
  cases x with
  | non => exact no rfl rfl
  | bl b => exact no rfl rfl
  | int b => exact no rfl rfl
  | lst b => exact no rfl rfl
  | tup es =>
    have hl : es.length ≤ 100000 := hs.1
    refine q_when (t_or (t_not (t_B (e_isi (ev_v rfl) (k_tup _)))) fun _ => t_test (e_neI (e_lenT (ev_v rfl)) (e_lenM (ev_v rfl)))) (fun z => d_ret ev_bl ?_) fun z => ?_
    · have z : (es.length : Int) ≠ fs.length := of_decide_eq_true (show decide ((es.length : Int) ≠ fs.length) = true from z)
      have : lenD (.tup es) ≠ fs.length := fun e => z (by rw [← e]; rfl)
      show D.bl false = D.bl (tso fs (.tup es) (goalF fs way))
      unfold tso
      rw [decide_eq_false this, Bool.and_false]; rfl
    · have z : ¬ (es.length : Int) ≠ fs.length := of_decide_eq_false (show decide ((es.length : Int) ≠ fs.length) = false from z)
      have hll : es.length = fs.length := by
        have := Decidable.not_not.mp z; omega
      obtain ⟨e, r, rfl⟩ : ∃ e r, es = e :: r := by
        cases es with
        | nil => have : (0 : Nat) = fs.length := hll; omega
        | cons a b => exact ⟨a, b, rfl⟩
      have hc : Fv (tLc (iTup K (tVar 1)) (gName 3) (tOr (tNot (tB (tCall (spF R_is_disk) [] E0 (tCons (tVar 3) tNil)))) (tTest (tOp (rNeD K) (tCB (rLenS K) (tCons (tVar 3) tNil)) (tCB (rLenS K) (tCons (tOp (rIxT K) (tVar 1) (tC (.int 0))) tNil))))) (tC (.int 1)) [3]) [.dat (tf fs), .dat (.tup (e :: r)), .dat (.int way), .un]
          (((e :: r).filter fun o => !wheelD o || decide ((lenD o : Int) ≠ lenD e)).map fun _ => D.int 1) :=
        fv_lc (c := id) (by rw [List.map_id]; exact iv_tup (ev_v rfl)) hl fun a ha => ⟨_, _, gv_name, by simp, t_or (t_not (t_B (e_c1 (ev_v rfl) ⟨a, rfl, (hs.2 a ha).up, rfl⟩))) fun hw => by
          have hw' : wheelD a = true := by simpa using hw
          have ht : e.isTup = true := by
            rcases hnice _ rfl with q | q
            · exact q e List.mem_cons_self
            · rw [q a ha] at hw'; exact nomatch hw'
          exact t_test (e_neI (e_lenW (ev_v rfl) hw') (e_lenD (e_ixT (ev_v rfl) ev_int (atI_pos (a := e) (by decide) rfl)) ht)), fun _ => ev_int⟩
      have hall : ((e :: r).filter fun o => !wheelD o || decide ((lenD o : Int) ≠ lenD e)).isEmpty = trainD (.tup (e :: r)) := by
        rw [filter_empty]
        show _ = (true && (e :: r).all wheelD && (e :: r).all fun o => decide (lenD o = lenD e))
        rw [Bool.true_and, Bool.eq_iff_iff, Bool.and_eq_true, List.all_eq_true, List.all_eq_true, List.all_eq_true]
        constructor
        · intro q
          refine ⟨fun o ho => ?_, fun o ho => ?_⟩
          · have := q o ho; simp at this; exact this.1
          · have := q o ho; simp at this; exact decide_eq_true (by omega)
        · rintro ⟨q1, q2⟩ o ho
          have := of_decide_eq_true (q2 o ho)
          simp [q1 o ho, this]
      refine q_when (t_test (e_neNil hc.ev (sm_ones _ (Nat.le_trans (List.length_filter_le _ _) hl)))) (fun y => d_ret ev_bl ?_) fun y => ?_
      · rw [isEmpty_map, hall] at y
        rw [tso_no (by simpa using y)]; rfl
      · rw [isEmpty_map, hall] at y
        have hx : trainD (.tup (e :: r)) = true := by simpa using y
        obtain ⟨ts, N, et, ht⟩ := trainD_get hx
        rw [et] at hx hs ⊢
        have hl2 : ts.length ≤ 100000 := by rwa [show ((e :: r).length = (ts.map ti).length) from congrArg lenD et, List.length_map] at hl
        have hll2 : ts.length = fs.length := by rw [← hll, show ((e :: r).length = (ts.map ti).length) from congrArg lenD et, List.length_map]
        have hle : ∀ t ∈ ts, t.length ≤ 100000 := fun t h => by
          have := (hs.2 (ti t) (List.mem_map_of_mem h)).len
          rwa [lenD_ti] at this
        rw [tso_tt hx, decide_eq_true hll2, Bool.true_and]
        have hc3 : Fv (tLc (iTup K (tVar 1)) (gName 3) tYes (tCall (spF R_turning_in) [] E0 (tCons (tVar 3) tNil)) [3]) [.dat (tf fs), .dat (tt ts), .dat (.int way), .un] (ts.map fun t => fr (M.trn t)) :=
          fv_lc1 (c := ti) (iv_tup (ev_v rfl)) hl2 fun a ha => ⟨_, _, gv_name, by simp, e_c1 (ev_v rfl) ⟨a, rfl, ht.wh a ha, hle a ha, rfl⟩⟩
        have hc4 := hc3.is (ys := (ts.map M.trn).map fr) (by rw [List.map_map]; rfl)
        obtain ⟨p1, p2⟩ := ht.put
        have hNl : N ≤ 100000 := by
          cases ts with
          | nil => exact absurd rfl ht.ne
          | cons t r => rw [← ht.ln t List.mem_cons_self]; exact hle t List.mem_cons_self
        refine q_when (t_test (e_neLF hc4.ev (f_listT (ev_v rfl)).ev (by rw [List.length_map]; exact hl2) hf.up)) (fun y => d_ret ev_bl ?_) fun y => d_ret (e_eqF (e_c1 (e_c1 (f_listT (ev_v rfl)).ev ⟨ts, N, rfl, ht.ne, hl2, ht.n0, hNl, ht.ln, rfl⟩) ⟨_, rfl, p1, by rw [p2]; exact hNl, rfl⟩) (e_c2 (ev_v rfl) (ev_v rfl) ⟨fs, way, rfl, hf, rfl⟩)) ?_
        · rw [decide_eq_false (of_decide_eq_true y)]; rfl
        · rw [decide_eq_true (Decidable.not_not.mp (of_decide_eq_false y))]; rfl

/-! the law's own train -/
def bts_ (fs : List (Int × Int)) : Int := (idx fs).getLastD 0
def spk (many k n : Nat) : List Int := (List.range n).map fun (i : Nat) => (k : Int) + (i : Int) * many
def own1 (fs : List (Int × Int)) (k : Nat) : List Int := fin (M.rsd (M.grt (spk fs.length k (bts_ fs).toNat) (flr (fs.getD k (0, 1)) (bts_ fs)) ((fs.length : Int) * bts_ fs)) (fs.getD k (0, 1)).1 (fs.getD k (0, 1)).2.toNat) (cmn fs / (fs.getD k (0, 1)).2).toNat
def otr (fs : List (Int × Int)) : List (List Int) := (List.range fs.length).map (own1 fs)
theorem idx_last {fs : List (Int × Int)} (h : Few fs) : ∃ b : Int, L2.atI ((idx fs).map D.int) (-1) = some (.int b) ∧ bts_ fs = b ∧ 1 ≤ b ∧ b ≤ cmn fs := by
  have c1 := cmn_pos h.toVfs
  obtain ⟨n, h1, h2, h3⟩ := bst_val fs (top fs)
  have hne : idx fs ≠ [] := by
    have : ((n - 1).toNat : Int) + 1 ∈ idx fs := by
      unfold idx
      refine List.mem_map.mpr ⟨(n - 1).toNat, List.mem_filter.mpr ⟨List.mem_range.mpr (by omega), decide_eq_true ?_⟩, rfl⟩
      unfold mst
      rw [h3, show (((n - 1).toNat : Nat) : Int) + 1 = n by omega]
    exact List.ne_nil_of_mem this
  have hp := List.length_pos_iff.mpr hne
  have hg : (idx fs)[(idx fs).length - 1]? = some (bts_ fs) := by
    unfold bts_
    rw [List.getLastD_eq_getLast?, List.getLast?_eq_getElem?, List.getElem?_eq_getElem (by omega)]; rfl
  refine ⟨bts_ fs, atI_map (atI_last hg), rfl, ?_⟩
  have hm := List.mem_of_getElem? hg
  unfold idx at hm
  obtain ⟨k, hk, e⟩ := List.mem_map.mp hm
  have := List.mem_range.mp (List.mem_filter.mp hk).1
  have ht : (top fs : Int) = cmn fs - 1 := by unfold top; omega
  omega
theorem cmb_dvd : ∀ {bs : List Int} {a b : Int}, 0 < a → (∀ x ∈ bs, 0 < x) → (b ∣ a ∨ b ∈ bs) → b ∣ bs.foldl (fun a b => a * b / M.gc a b) a
  | [], a, b, _, _, h => by
    rcases h with h | h
    · exact h
    · cases h
  | x :: bs, a, b, ha, hb, h => by
    have x0 := hb x List.mem_cons_self
    have e1 : a * x / M.gc a x = a * (x / M.gc a x) := Int.mul_ediv_assoc _ (M.gc_dvd_r a x)
    have e2 : a * x / M.gc a x = x * (a / M.gc a x) := by rw [Int.mul_comm]; exact Int.mul_ediv_assoc _ (M.gc_dvd_l a x)
    have p0 : 0 < a * x / M.gc a x := Int.ediv_pos_of_pos_of_dvd (Int.mul_pos ha x0) (by have := M.gc_pos (a := a) x0; omega) (Int.dvd_trans (M.gc_dvd_r a x) (Int.dvd_mul_left _ _))
    refine cmb_dvd (bs := bs) p0 (fun y hy => hb y (List.mem_cons_of_mem _ hy)) ?_
    rcases h with h | h
    · exact .inl (by show b ∣ a * x / M.gc a x; rw [e1]; exact Int.dvd_trans h (Int.dvd_mul_right _ _))
    · rcases List.mem_cons.mp h with rfl | h
      · exact .inl (by show b ∣ a * b / M.gc a b; rw [e2]; exact Int.dvd_mul_right _ _)
      · exact .inr h
theorem cmn_dvd {fs : List (Int × Int)} (h : Vfs fs) {f : Int × Int} (hf : f ∈ fs) : f.2 ∣ cmn fs := cmb_dvd (by decide) (fun b hb => by
  obtain ⟨g, hg, rfl⟩ := List.mem_map.mp hb
  exact (h.v g hg).p) (.inr (List.mem_map_of_mem hf))
theorem rgc_up {k many n : Nat} (hk : k < many) (hm : many ≤ 100000) (hn : n ≤ 100000) : RgC (k : Int) ((many : Int) * n) many n := by
  have hs : Builtin.Range.rangeSize (k : Int) ((many : Int) * n) many = n := by
    unfold Builtin.Range.rangeSize
    rw [if_pos (by omega)]
    cases n with
    | zero => rw [if_neg (by rw [show ((0 : Nat) : Int) = 0 from rfl, Int.mul_zero]; omega)]; rfl
    | succ n =>
      have e1 : (many : Int) * ((n + 1 : Nat) : Int) = many * n + many := by rw [Int.natCast_add, Int.mul_add]; simp
      have e0 : (0 : Int) ≤ (many : Int) * n := Int.mul_nonneg (by omega) (by omega)
      rw [if_pos (by omega), e1]
      have : ((many : Int) * n + many - k - 1) / many = n := by
        rw [show (many : Int) * n + many - k - 1 = (many - k - 1) + many * n by omega, Int.add_mul_ediv_left _ _ (by omega), Int.ediv_eq_zero_of_lt (by omega) (by omega)]
        omega
      rw [this]; omega
  have hb : (many : Int) * n ≤ 100000 * 100000 := Int.mul_le_mul (by omega) (by omega) (by omega) (by omega)
  have h0 : (0 : Int) ≤ (many : Int) * n := Int.mul_nonneg (by omega) (by omega)
  refine ⟨by omega, by omega, ?_, hs⟩
  unfold Builtin.Range.small
  rw [hs, if_pos (show (many : Int) > 0 by omega)]
  generalize (many : Int) * n = P at hb h0
  simp only [Builtin.Range.rangeFitsLong, Bool.and_eq_true, Bool.or_eq_true, decide_eq_true_eq, beq_iff_eq]
  omega
def R_own_train (ds : List D) (d : D) : Prop := ∃ fs, ds = [tf fs] ∧ Few fs ∧ (fs.length : Int) * cmn fs * cmn fs ≤ 20000 ∧ d = tt (otr fs)
theorem own_nums {fs : List (Int × Int)} (h : Few fs) (hb : (fs.length : Int) * cmn fs * cmn fs ≤ 20000) {k : Nat} (hk : k < fs.length) : ∃ f : Int × Int, fs[k]? = some f ∧ fs.getD k (0, 1) = f ∧ Vf f ∧ ∃ B M q c : Nat, bts_ fs = B ∧ 0 < B ∧ M = fs.length * B ∧ f.2 = q ∧ 0 < q ∧ cmn fs / f.2 = c ∧ 0 < c ∧ c ≤ 20000 ∧ M * q ≤ 20000 ∧ M * q * c ≤ 20000 ∧ B ≤ 20000 := by
  have hkg := List.getElem?_eq_getElem hk
  have hv := h.v _ (List.mem_of_getElem? hkg)
  have hd := cmn_dvd h.toVfs (List.mem_of_getElem? hkg)
  generalize fs[k] = f at hkg hv hd
  obtain ⟨b, _, e, b1, b2⟩ := idx_last h
  have c0 := cmn_pos h.toVfs
  obtain ⟨c, hc⟩ := hd
  have q0 := hv.p
  have hc0 : 0 < c := by
    rcases Int.lt_or_le 0 c with h | h
    · exact h
    · have := Int.mul_le_mul_of_nonneg_left h (Int.le_of_lt q0)
      rw [Int.mul_zero] at this; omega
  refine ⟨f, hkg, by rw [List.getD_eq_getElem?_getD, hkg]; rfl, hv, b.toNat, fs.length * b.toNat, f.2.toNat, c.toNat, by rw [e]; omega, by omega, rfl, by omega, by omega, ?_, by omega, ?_⟩
  · rw [hc, Int.mul_ediv_cancel_left _ (by omega)]; omega
  · -- the sizes
    obtain ⟨C, hC⟩ := Int.eq_ofNat_of_zero_le (Int.le_of_lt c0)
    obtain ⟨q, hq⟩ := Int.eq_ofNat_of_zero_le (Int.le_of_lt q0)
    obtain ⟨c', hc'⟩ := Int.eq_ofNat_of_zero_le (Int.le_of_lt hc0)
    obtain ⟨B, hB⟩ := Int.eq_ofNat_of_zero_le (show 0 ≤ b by omega)
    rw [hC, hq, hc'] at hc
    have hcN : C = q * c' := by exact_mod_cast hc
    rw [hC] at hb
    have hbN : fs.length * C * C ≤ 20000 := by exact_mod_cast hb
    have hq1 : 0 < q := by omega
    have hc1 : 0 < c' := by omega
    have hB1 : 0 < B := by omega
    have hBC : B ≤ C := by omega
    have hn1 : 0 < fs.length := by omega
    rw [hq, hc', hB]
    simp only [Int.toNat_natCast, Int.ofNat_eq_natCast]
    have k1 : fs.length * B * (q * c') ≤ 20000 := by
      rw [← hcN]
      exact Nat.le_trans (Nat.mul_le_mul_right C (Nat.mul_le_mul_left _ hBC)) hbN
    have k2 : fs.length * B * q * c' ≤ 20000 := by rw [Nat.mul_assoc (fs.length * B)]; exact k1
    have k3 : fs.length * B * q ≤ 20000 := Nat.le_trans (Nat.le_mul_of_pos_right _ hc1) k2
    have k4 : c' ≤ 20000 := Nat.le_trans (Nat.le_mul_of_pos_left _ (Nat.mul_pos (Nat.mul_pos hn1 hB1) hq1)) k2
    have k5 : B ≤ 20000 := Nat.le_trans (Nat.le_trans (Nat.le_mul_of_pos_left B hn1) (Nat.le_mul_of_pos_right _ hq1)) k3
    exact ⟨k4, k3, k2, k5⟩
theorem own1_len {fs : List (Int × Int)} (h : Few fs) (hb : (fs.length : Int) * cmn fs * cmn fs ≤ 20000) {k : Nat} (hk : k < fs.length) : 0 < (own1 fs k).length ∧ (own1 fs k).length ≤ 20000 := by
  obtain ⟨f, _, e, hv, B, Mm, q, c, e1, b0, hM, e2, q0, e3, c0, _, _, k2, _⟩ := own_nums h hb hk
  unfold own1
  rw [fin_len, M.rsd_len, M.grt_len, e, e1, e3, e2, Int.toNat_natCast, Int.toNat_natCast, ← Int.natCast_mul, Int.toNat_natCast, ← hM]
  exact ⟨Nat.mul_pos (Nat.mul_pos (by rw [hM]; exact Nat.mul_pos (by omega) b0) q0) c0, k2⟩
theorem d_law_own_train {ds : List D} {d : D} (h : R_own_train ds d) : DS (t_law_own_train K (spF R_finer) (spF R_floor) (spF R_greatest) (spF R_most) (spF R_raised) (spF R_common_bottom)) (ent ["_law_marks_so", "_law_beats_so", "_law_many_so", "_law_common_so", "_law_found", "_law_k", "_law_own", "_law_spots_so", "_law_disk_here"] ds) (retO d) := by
  obtain ⟨fs, rfl, hf, hb, rfl⟩ := h
  obtain ⟨b, hat, eb, b1, b2⟩ := idx_last hf
  refine q_par3 (av_cons (e_ixL (e_ixT (e_c1 (ev_v rfl) ⟨fs, rfl, hf, rfl⟩) ev_int (atI_pos (a := li (idx fs)) (by decide) rfl)) (e_neg ev_int) hat) (av_cons (e_lenM (ev_v rfl)) (av_cons (e_c1 (ev_v rfl) ⟨fs, rfl, hf.toVfs, rfl⟩) av_nil))) ?_
  rw [← eb]
  refine q_asgL (fv_lst av_nil) ?_
  have hfl : fs.length ≤ 100 := hf.l
  refine q_for (by have := iv_enumT (K := K) (Γ := [.dat (tf fs), .dat (.int (bts_ fs)), .dat (.int fs.length), .dat (.int (cmn fs)), .own [], .un, .un, .un, .un]) (tar := tCons (tVar 0) tNil) (av_cons (ev_v rfl) av_nil)
                   rw [enumD_map (a0 := ((0 : Int), (1 : Int)))] at this
                   exact this) (fun m Γ => ∃ s5 s6 s7 s8, Γ = [.dat (tf fs), .dat (.int (bts_ fs)), .dat (.int fs.length), .dat (.int (cmn fs)), .own ((List.range m).map fun k => ti (own1 fs k)), s5, s6, s7, s8]) ⟨.un, .un, .un, .un, rfl⟩ ?_ ?_
  · rintro m d Γ1 hd ⟨s5, s6, s7, s8, rfl⟩
    have hm : m < fs.length := by
      have := (List.getElem?_eq_some_iff.mp hd).1
      simpa using this
    rw [List.getElem?_map, List.getElem?_range hm] at hd
    obtain ⟨f, hg, e, hv, B, Mm, q, c, e1, b0, hM, e2, q0, e3, c0, c1, k1, k2, k3⟩ := own_nums hf hb hm
    obtain rfl : D.tup [.int (m : Int), fr (fs.getD m (0, 1))] = d := Option.some.inj hd
    refine ⟨_, _, gv_t2, ?_⟩
    have hown : own1 fs m = fin (M.rsd (M.grt (spk fs.length m B) (flr f B) ((Mm : Nat) : Int)) f.1 q) c := by
      unfold own1
      rw [e, e1, e3, e2, Int.toNat_natCast, Int.toNat_natCast, Int.toNat_natCast, hM, Int.natCast_mul]
    rw [e, e1]
    have hMp : 0 < Mm := by rw [hM]; exact Nat.mul_pos (by omega) b0
    have hMl : Mm ≤ 20000 := Nat.le_trans (Nat.le_mul_of_pos_right _ q0) k1
    have hmi : (fs.length : Int) * (B : Int) = (Mm : Int) := by rw [hM, Int.natCast_mul]
    refine q_asg (e_tupRg3 (n := B) (av_cons (ev_v rfl) (av_cons (e_mul (ev_v rfl) (ev_v rfl) (.inl (small_of (Nat.le_trans hfl (by decide))))) (av_cons (ev_v rfl) av_nil))) (rgc_up hm (by omega) (by omega)) (by omega)) ?_
    have esp : (D.tup ((List.range B).map fun (i : Nat) => D.int ((m : Int) + (i : Int) * (fs.length : Int)))) = ti (spk fs.length m B) := by
      unfold spk
      show D.tup _ = D.tup _
      rw [List.map_map]; rfl
    rw [esp]
    have hspl : (spk fs.length m B).length = B := by unfold spk; rw [List.length_map, List.length_range]
    have hgl : (M.grt (spk fs.length m B) (flr f B) ((Mm : Nat) : Int)).length = Mm := by rw [M.grt_len, Int.toNat_natCast]
    refine q_asg (e_c2 (ev_call (av_cons (ev_v rfl) (av_cons (e_c2 (ev_v rfl) (ev_v rfl) ⟨f, (B : Int), rfl, hv, by omega, by omega, rfl⟩) (av_cons (e_mul (ev_v rfl) (ev_v rfl) (.inl (small_of (Nat.le_trans hfl (by decide))))) av_nil))) ⟨spk fs.length m B, flr f B, Mm, by rw [hmi], by omega, by omega, hMp, by omega, rfl⟩) (ev_v rfl) ⟨_, f.1, q, by rw [show fr f = fr (f.1, (q : Int)) by rw [← e2]], by omega, q0, by rw [hgl]; omega, rfl⟩) ?_
    refine d_app rfl (e_c2 (ev_v rfl) (e_div (ev_v rfl) (e_fr1 (ev_v rfl)) (by have := hv.b; have := hv.p; omega)) ⟨_, c, by rw [e3], by rw [M.rsd_len, hgl]; omega, by omega, rfl⟩) (by rw [List.length_map, List.length_range]; omega) ⟨.dat (.int (m : Int)), .dat (fr f), .dat (ti (spk fs.length m B)), .dat (ti (M.rsd (M.grt (spk fs.length m B) (flr f B) ((Mm : Nat) : Int)) f.1 q)), ?_⟩
    rw [List.range_succ, List.map_append]
    show _ = [_, _, _, _, Sl.own (_ ++ [ti (own1 fs m)]), _, _, _, _]
    rw [hown]
    rfl
  · rintro Γ1 ⟨s5, s6, s7, s8, rfl⟩
    refine d_ret (e_tupleO rfl) ?_
    rw [List.length_map, List.length_range]
    unfold otr
    show D.tup _ = D.tup _
    rw [List.map_map]; rfl
end DL
set_option Elab.async false
set_option linter.all false
set_option maxRecDepth 100000
set_option maxHeartbeats 2000000
/-! expressions that draw: the draws' list stands in slot 0 -/
namespace DL
open PySem L2 PyProof.Rows RZ

theorem TinOk.up {n m : Nat} {a b c : Int} (h : TinOk n a b c) (l : n ≤ m) : TinOk m a b c := ⟨h.a0, h.b0, h.b1, h.c0, by have := h.c1; omega⟩
structure ExtT (l : Addr) (Hs H Hs' H' : Hp) : Prop where
  s : Same Hs Hs'
  e : Same Hs' H'
  h : ∀ a o, a ≠ l → H a = some o → H' a = some o
  f : ∀ a, H a ≠ none → Hs a = none → Hs' a = none
section
variable {B : Base} {Hs H Hs' H' : Hp} {σ : L2.St} {Γ : Gam} {n m : Nat} {l : Addr}
theorem Ok.at0 (k : Ok B Hs H σ (.tin n :: Γ)) : ∃ l a b c, σ[0]? = some (some (.ref l)) ∧ Hs l = none ∧ H l = some (.lst [.int a, .int b, .int c]) ∧ TinOk n a b c ∧ B.L l := by
  obtain ⟨l, a, b, c, h1, h2, h3, h4⟩ := k.en.tin 0 n rfl
  exact ⟨l, a, b, c, h1, h2, h3, h4, k.ti 0 n l rfl h1⟩
theorem Ok.tick {a b c : Int} (k : Ok B Hs H σ (.tin n :: Γ)) (hl : σ[0]? = some (some (.ref l))) (x : ExtT l Hs H Hs' H') (hc : H' l = some (.lst [.int a, .int b, .int c])) (ht : TinOk m a b c) : Ok B Hs' H' σ (.tin m :: Γ) := by
  obtain ⟨l0, a0, b0, c0, q1, q2, q3, q4⟩ := k.en.tin 0 n rfl
  rw [hl] at q1
  cases q1
  have hL := k.ti 0 n l rfl hl
  have kept : ∀ p, H p ≠ none → H' p ≠ none := fun p hp => by
    by_cases e : p = l
    · rw [e, hc]; intro z; cases z
    · cases q : H p with
      | none => exact absurd q hp
      | some o => rw [x.h p o e q]; intro z; cases z
  refine ⟨⟨x.e, k.en.len, fun i d q => ?_, fun i ds q => ?_, fun i t q => ?_, fun i j s t p a1 a2 m1 m2 e1 e2 => ?_⟩, k.s0.trans x.s, fun p h1 h2 => x.f p (k.p0 p h1) (k.f0 p h1 h2), fun p o h1 h2 => x.h p o (fun z => h2 (by rw [z]; exact hL)) (k.k0 p o h1 h2), fun p h => kept p (k.p0 p h), fun i ds p h1 h2 => ?_, fun i t p h1 h2 => ?_⟩
  · cases i with
    | zero => cases q
    | succ i =>
      obtain ⟨v, h1, h2⟩ := k.en.dat (i + 1) d q
      exact ⟨v, h1, h2.mono x.s⟩
  · cases i with
    | zero => cases q
    | succ i =>
      obtain ⟨p, vs, h1, h2, h3, h4⟩ := k.en.own (i + 1) ds q
      have ne : p ≠ l := fun z => by
        subst z
        have := k.en.sep (i + 1) 0 _ _ p q rfl rfl rfl h1 hl
        cases this
      exact ⟨p, vs, h1, x.f p (ne_none h3) h2, x.h _ _ ne h3, h4.mono x.s⟩
  · cases i with
    | zero =>
      cases q
      exact ⟨l, a, b, c, hl, x.f l (ne_none q3) q2, hc, ht⟩
    | succ i =>
      obtain ⟨p, a1, b1, c1, h1, h2, h3, h4⟩ := k.en.tin (i + 1) t q
      have ne : p ≠ l := fun z => by
        subst z
        have := k.en.sep (i + 1) 0 _ _ p q rfl rfl rfl h1 hl
        cases this
      exact ⟨p, a1, b1, c1, h1, x.f p (ne_none h3) h2, x.h _ _ ne h3, h4⟩
  · have r : ∀ (i : Nat) (s : Sl), (Sl.tin m :: Γ)[i]? = some s → s.mu = true → ∃ s', (Sl.tin n :: Γ)[i]? = some s' ∧ s'.mu = true := fun i s q ms => by
      cases i with
      | zero => exact ⟨.tin n, rfl, rfl⟩
      | succ i => exact ⟨s, q, ms⟩
    obtain ⟨s', b1, b2⟩ := r i s a1 m1
    obtain ⟨t', c1, c2⟩ := r j t a2 m2
    exact k.en.sep i j s' t' p b1 c1 b2 c2 e1 e2
  · cases i with
    | zero => cases h1
    | succ i => exact k.ow (i + 1) ds p h1 h2
  · cases i with
    | zero => rw [hl] at h2; cases h2; exact hL
    | succ i => exact k.ti (i + 1) t p h1 h2
end

def Dv (te : TE) (n m : Nat) (Γ : Gam) (P : D → Prop) : Prop := ∀ B Hs H σ, Ok B Hs H σ (.tin n :: Γ) → ∀ Q : VK, (∀ v d Hs' H', P d → Ok B Hs' H' σ (.tin m :: Γ) → Same Hs Hs' → Dn Hs' v d → Q v H') → te σ H Q
def Da (ta : TA) (n m : Nat) (Γ : Gam) (P : List D → Prop) : Prop := ∀ B Hs H σ, Ok B Hs H σ (.tin n :: Γ) → ∀ Q : List V → Hp → Prop, (∀ vs ds Hs' H', P ds → Ok B Hs' H' σ (.tin m :: Γ) → Same Hs Hs' → Ds Hs' vs ds → Q vs H') → ta σ H Q
def spT (k : Nat) (Pre : List D → Prop) (Post : List D → D → Prop) : Sp := fun vs H Q _ => ∃ Hs l ws ds n a b c, vs = .ref l :: ws ∧ Same Hs H ∧ Hs l = none ∧ H l = some (.lst [.int a, .int b, .int c]) ∧ TinOk n a b c ∧ n + k ≤ 1000000 ∧ Ds Hs ws ds ∧ Pre ds ∧
  ∀ v d Hs' H' a' b' c', ExtT l Hs H Hs' H' → H' l = some (.lst [.int a', .int b', .int c']) → TinOk (n + k) a' b' c' → Post ds d → Dn Hs' v d → Q v H'
section
variable {K : PySem.W.Frag} {Γ Γ' : Gam} {n m k : Nat} {te ta tb : TE} {tar : TA} {tt : TT} {P R : D → Prop} {Pl : List D → Prop} {d x : D} {O : Out} {tz tu tw : TS}
theorem dv_ev (h : Ev te (.tin n :: Γ) d) (hp : P d) : Dv te n n Γ P := fun B Hs H σ ok Q q => h Hs H σ ok.en Q fun v Hs' H' e dv => q v d Hs' H' hp (ok.ext e) e.s dv
theorem Dv.imp (h : Dv te n m Γ P) (hp : ∀ d, P d → R d) : Dv te n m Γ R := fun B Hs H σ ok Q q => h B Hs H σ ok Q fun v d Hs' H' p => q v d Hs' H' (hp d p)
theorem da_nil {Pl : List D → Prop} (h : Pl []) : Da tNil n n Γ Pl := fun B Hs H σ ok Q q => q [] [] Hs H h ok (.refl _) .nil
theorem da_cons {tr : TA} {Pr : List D → Prop} (h : Dv te n m Γ P) (hr : Da tr m k Γ Pr) (hl : ∀ x xs, P x → Pr xs → Pl (x :: xs)) : Da (tCons te tr) n k Γ Pl := fun B Hs H σ ok Q q =>
  h B Hs H σ ok _ fun v d Hs1 H1 p ok1 s1 d1 => hr B Hs1 H1 σ ok1 _ fun vs ds Hs2 H2 p2 ok2 s2 d2 => q _ _ Hs2 H2 (hl d ds p p2) ok2 (s1.trans s2) (.cons (d1.mono s2) d2)
theorem da_av {ds : List D} (h : Av tar (.tin n :: Γ) ds) (hp : Pl ds) : Da tar n n Γ Pl := fun B Hs H σ ok Q q => h Hs H σ ok.en Q fun v Hs' H' e dv => q v ds Hs' H' hp (ok.ext e) e.s dv
theorem dv_op {r : R2} {S : D → D → Prop} (ha : Dv ta n m Γ P) (hb : ∀ x, P x → Dv tb m k Γ (S x)) (hr : ∀ x y, P x → S x y → ∃ z, Op2 r x y z ∧ R z) : Dv (tOp r ta tb) n k Γ R := fun B Hs H σ ok Q q =>
  ha B Hs H σ ok _ fun v d Hs1 H1 p ok1 s1 d1 => hb d p B Hs1 H1 σ ok1 _ fun w y Hs2 H2 p2 ok2 s2 d2 => by
    obtain ⟨z, h1, h2⟩ := hr d y p p2
    exact h1 Hs2 H2 _ _ ok2.en.ex (d1.mono s2) d2 _ fun u Hs3 H3 e3 d3 => q u z Hs3 H3 h2 (ok2.ext e3) ((s1.trans s2).trans e3.s) d3
theorem dv_tup (h : Da tar n m Γ Pl) (hl : ∀ ds, Pl ds → ds.length ≤ 100000 ∧ R (.tup ds)) : Dv (tTup tar) n m Γ R := fun B Hs H σ ok Q q =>
  h B Hs H σ ok _ fun vs ds Hs1 H1 p ok1 s1 d1 => ⟨by rw [d1.len]; exact Nat.le_trans (hl ds p).1 (by decide), fun a ha => q (.ref a) (.tup ds) _ _ (hl ds p).2 (ok1.ext (Ext.new ok1.en.ex ha)) (s1.trans (Ext.new ok1.en.ex ha).s) (.tup upd_same (d1.mono (same_upd (ok1.en.ex.free ha))))⟩
theorem dv_cb {r : List V → Hp → VK → Prop} (h : Da tar n m Γ Pl) (hr : ∀ ds, Pl ds → ∃ z, OpN r ds z ∧ R z) : Dv (tCB r tar) n m Γ R := fun B Hs H σ ok Q q =>
  h B Hs H σ ok _ fun vs ds Hs1 H1 p ok1 s1 d1 => by
    obtain ⟨z, h1, h2⟩ := hr ds p
    exact h1 Hs1 H1 _ ok1.en.ex d1 _ fun u Hs3 H3 e3 d3 => q u z Hs3 H3 h2 (ok1.ext e3) (s1.trans e3.s) d3
theorem dv_callP {Rf : List D → D → Prop} {E : XK} (h : Da tar n m Γ Pl) (hr : ∀ ds, Pl ds → ∃ z, Rf ds z ∧ R z) : Dv (tCall (spF Rf) [] E tar) n m Γ R := fun B Hs H σ ok Q q =>
  h B Hs H σ ok _ fun vs ds Hs1 H1 p ok1 s1 d1 => by
    obtain ⟨z, h1, h2⟩ := hr ds p
    exact ⟨Hs1, ds, z, ok1.en.ex, by rw [List.append_nil]; exact d1, h1, fun v Hs2 H2 e2 d2 => q v z Hs2 H2 h2 (ok1.ext e2) (s1.trans e2.s) d2⟩
theorem dv_call {j : Nat} {Pre : List D → Prop} {Post : List D → D → Prop} {E : XK} (h : Da tar n m Γ Pl) (hp : ∀ ds, Pl ds → Pre ds) (hk : m + j ≤ 1000000) (hr : ∀ ds d, Pl ds → Post ds d → R d) : Dv (tCall (spT j Pre Post) [] E (tCons (tVar 0) tar)) n (m + j) Γ R := fun B Hs H σ ok Q q => by
  obtain ⟨l, a, b, c, h1, h2, h3, h4, h5⟩ := ok.at0
  refine ⟨.ref l, h1, h B Hs H σ ok _ fun vs ds Hs1 H1 p ok1 s1 d1 => ?_⟩
  obtain ⟨l', a', b', c', g1, g2, g3, g4, g5⟩ := ok1.at0
  rw [h1] at g1
  cases g1
  exact ⟨Hs1, l, vs, ds, m, a', b', c', by rw [List.append_nil], ok1.en.ex, g2, g3, g4, hk, d1, hp ds p, fun v d Hs2 H2 a2 b2 c2 x e t ps dv => q v d Hs2 H2 (hr ds d p ps) (ok1.tick h1 x e t) (s1.trans x.s) dv⟩
theorem dv_if {b : Bool} (h : Et tt (.tin n :: Γ) b) (h1 : b = true → Dv ta n m Γ P) (h2 : b = false → Dv tb n m Γ P) : Dv (tIf tt ta tb) n m Γ P := fun B Hs H σ ok Q q =>
  h Hs H σ ok.en _ fun Hs1 H1 e1 => by
    cases b with
    | true =>
      show ta σ H1 Q
      exact h1 rfl B Hs1 H1 σ (ok.ext e1) Q fun v d Hs2 H2 p k s dv => q v d Hs2 H2 p k (e1.s.trans s) dv
    | false =>
      show tb σ H1 Q
      exact h2 rfl B Hs1 H1 σ (ok.ext e1) Q fun v d Hs2 H2 p k s dv => q v d Hs2 H2 p k (e1.s.trans s) dv
/-- fewer draws are known than are allowed -/
theorem Ok.more {B : Base} {Hs H : Hp} {σ : L2.St} (ok : Ok B Hs H σ (.tin n :: Γ)) (h : n ≤ m) : Ok B Hs H σ (.tin m :: Γ) := by
  obtain ⟨l, a, b, c, h1, h2, h3, h4, h5⟩ := ok.at0
  exact ok.tick h1 ⟨.refl _, ok.en.ex, fun _ _ _ q => q, fun _ _ q => q⟩ h3 (h4.up h)
theorem Dv.more {m' : Nat} (h : Dv te n m Γ P) (l : m ≤ m') : Dv te n m' Γ P := fun B Hs H σ ok Q q => h B Hs H σ ok Q fun v d Hs' H' p k => q v d Hs' H' p (k.more l)

/-! statements -/
theorem d_asgD {g : TG} (h : Dv te n m Γ P) (hg : ∀ d, P d → ∃ ps Γ', Gv g ps (.tin m :: Γ) d Γ' ∧ O.nx Γ') : DS (tAsg te g) (.tin n :: Γ) O := fun B Hs H σ k E a _ _ _ =>
  h B Hs H σ k _ fun v d Hs1 H1 p k1 s1 d1 => by
    obtain ⟨ps, Γ', hg, hn⟩ := hg d p
    exact hg Hs1 H1 σ v k1.en d1 _ fun σ2 n2 _ k2 => a σ2 Hs1 H1 Γ' hn (k1.to n2 k2) s1
theorem q_asgD {i : Nat} (h : Dv te n m Γ P) (hz : ∀ d, P d → DS tz ((.tin m :: Γ).set i (.dat d)) O) : DS (tSeq (tAsg te (gName i)) tz) (.tin n :: Γ) O := d_seq (d_asgD h fun d p => ⟨_, _, gv_name, hz d p⟩)
theorem q_asgGD {g : TG} (h : Dv te n m Γ P) (hz : ∀ d, P d → ∃ ps Γ', Gv g ps (.tin m :: Γ) d Γ' ∧ DS tz Γ' O) : DS (tSeq (tAsg te g) tz) (.tin n :: Γ) O := d_seq (d_asgD h hz)
theorem q_parD {i j : Nat} (h : Da tar n m Γ Pl) (h2 : ∀ ds, Pl ds → ∃ x y, ds = [x, y]) (hz : ∀ x y, Pl [x, y] → DS tz (((.tin m :: Γ).set i (.dat x)).set j (.dat y)) O) : DS (tSeq (tPar i j tar) tz) (.tin n :: Γ) O := d_seq fun B Hs H σ k E a _ _ _ =>
  h B Hs H σ k _ fun vs ds Hs1 H1 p k1 s1 d1 => by
    obtain ⟨x, y, rfl⟩ := h2 ds p
    cases d1 with
    | cons d1 d2 =>
      cases d2 with
      | cons d2 d3 =>
        cases d3
        exact ⟨_, _, rfl, a _ Hs1 H1 _ (hz x y p) ((k1.set d1).set d2) s1⟩
theorem d_retD (h : Dv te n m Γ P) (hr : ∀ d, P d → O.rt d (.tin m :: Γ)) : DS (tRet te) (.tin n :: Γ) O := fun B Hs H σ k E _ b _ _ => h B Hs H σ k _ fun v d Hs1 H1 p k1 s1 d1 => b v d σ Hs1 H1 _ (hr d p) k1 s1 d1
theorem q_whenND {b : Bool} (h : Dv te n m Γ (· = .bl b)) (h1 : b = false → DS tu (.tin m :: Γ) { O with nx := fun Γ' => DS tz Γ' O }) (h2 : b = true → DS tz (.tin m :: Γ) O) : DS (tSeq (tIfS (tNot (tB te)) tu tNext) tz) (.tin n :: Γ) O := d_seq fun B Hs H σ k E a r c e =>
  h B Hs H σ k _ fun v d Hs1 H1 p k1 s1 d1 => by
    subst p
    cases d1
    refine ⟨b, rfl, ?_⟩
    cases b with
    | true => exact d_next (O := { O with nx := fun Γ' => DS tz Γ' O }) (h2 rfl) B Hs1 H1 σ k1 E (fun σ2 Hs2 H2 Γ2 p k2 s2 => a σ2 Hs2 H2 Γ2 p k2 (s1.trans s2)) (fun v d σ2 Hs2 H2 Γ2 p k2 s2 => r v d σ2 Hs2 H2 Γ2 p k2 (s1.trans s2)) (fun σ2 Hs2 H2 Γ2 p k2 s2 => c σ2 Hs2 H2 Γ2 p k2 (s1.trans s2)) (fun σ2 Hs2 H2 Γ2 p k2 s2 => e σ2 Hs2 H2 Γ2 p k2 (s1.trans s2))
    | false => exact h1 rfl B Hs1 H1 σ k1 E (fun σ2 Hs2 H2 Γ2 p k2 s2 => a σ2 Hs2 H2 Γ2 p k2 (s1.trans s2)) (fun v d σ2 Hs2 H2 Γ2 p k2 s2 => r v d σ2 Hs2 H2 Γ2 p k2 (s1.trans s2)) (fun σ2 Hs2 H2 Γ2 p k2 s2 => c σ2 Hs2 H2 Γ2 p k2 (s1.trans s2)) (fun σ2 Hs2 H2 Γ2 p k2 s2 => e σ2 Hs2 H2 Γ2 p k2 (s1.trans s2))

/-! a new list that draws -/
theorem wipe_keep {σ : L2.St} {Γ : Gam} (hl : σ.length = Γ.length) : ∀ {vs : List Nat} {j : Nat} {s : Sl}, (wipeE Γ vs)[j]? = some s → s.mu = true → Γ[j]? = some s ∧ (wipe σ vs)[j]? = σ[j]?
  | [], _, _, h, _ => ⟨h, rfl⟩
  | v :: vs, j, s, h, m => by
    rcases get_set (show ((wipeE Γ vs).set v .un)[j]? = some s from h) with ⟨_, h1, _⟩ | ⟨ne, h1⟩
    · rw [h1] at m; cases m
    · obtain ⟨a, b⟩ := wipe_keep hl h1 m
      exact ⟨a, by show ((wipe σ vs).set v none)[j]? = _; rw [List.getElem?_set_ne (Ne.symm ne)]; exact b⟩
/-- no other list of ours -/
def Lone (Γ : Gam) : Prop := ∀ (i : Nat) (s : Sl), Γ[i]? = some s → s.mu = false
theorem Lone.of {Γ : Gam} (h : Γ.all (fun s => !s.mu) = true) : Lone Γ := fun i s q => by
  have := List.all_eq_true.mp h s (List.mem_of_getElem? q)
  simpa using this
theorem Ok.mutD {B : Base} {Hs H : Hp} {σ : L2.St} {p : Addr} {o : HO} (k : Ok B Hs H σ Γ) (hs : Hs p = none) (hb : B.H p = none) (hn : ∀ (j : Nat) (s : Sl), Γ[j]? = some s → s.mu = true → σ[j]? ≠ some (some (.ref p))) : Ok B Hs (upd H p o) σ Γ := by
  have ne : ∀ (j : Nat) (s : Sl) (l : Addr), Γ[j]? = some s → s.mu = true → σ[j]? = some (some (.ref l)) → l ≠ p := fun j s l h1 h2 h3 e => hn j s h1 h2 (by rw [h3, e])
  refine ⟨⟨fun b u e => ?_, k.en.len, k.en.dat, fun i ds q => ?_, fun i t q => ?_, k.en.sep⟩, k.s0, k.f0, fun a u h1 h2 => ?_, fun a h1 => ?_, k.ow, k.ti⟩
  · rw [upd_ne (fun z => by rw [z, hs] at e; cases e)]; exact k.en.ex _ _ e
  · obtain ⟨l, vs, h1, h2, h3, h4⟩ := k.en.own i ds q
    exact ⟨l, vs, h1, h2, by rw [upd_ne (ne i _ l q rfl h1)]; exact h3, h4⟩
  · obtain ⟨l, a, b, c, h1, h2, h3, h4⟩ := k.en.tin i t q
    exact ⟨l, a, b, c, h1, h2, by rw [upd_ne (ne i _ l q rfl h1)]; exact h3, h4⟩
  · rw [upd_ne (fun z => by rw [z, hb] at h1; cases h1)]; exact k.k0 a u h1 h2
  · rw [upd_ne (fun z => by rw [z, hb] at h1; exact h1 rfl)]; exact k.p0 a h1
theorem Ok.setD {B : Base} {Hs H : Hp} {σ : L2.St} {p : Addr} {o : HO} (k : Ok B Hs H σ Γ) (hs : Hs p = none) (ho : H p = some o) (hb : B.H p = none) (hn : ∀ (j : Nat) (s : Sl), Γ[j]? = some s → s.mu = true → σ[j]? ≠ some (some (.ref p))) : Ok B (upd Hs p o) H σ Γ := by
  have ne : ∀ (j : Nat) (s : Sl) (l : Addr), Γ[j]? = some s → s.mu = true → σ[j]? = some (some (.ref l)) → l ≠ p := fun j s l h1 h2 h3 e => hn j s h1 h2 (by rw [h3, e])
  have x : Same Hs (upd Hs p o) := same_upd hs
  refine ⟨⟨fun b u e => ?_, k.en.len, fun i d q => ?_, fun i ds q => ?_, fun i t q => ?_, k.en.sep⟩, k.s0.trans x, fun a h1 h2 => ?_, k.k0, k.p0, k.ow, k.ti⟩
  · by_cases z : b = p
    · subst z; rw [upd_same] at e; rw [ho]; exact e
    · rw [upd_ne z] at e; exact k.en.ex _ _ e
  · obtain ⟨v, h1, h2⟩ := k.en.dat i d q
    exact ⟨v, h1, h2.mono x⟩
  · obtain ⟨l, vs, h1, h2, h3, h4⟩ := k.en.own i ds q
    exact ⟨l, vs, h1, by rw [upd_ne (ne i _ l q rfl h1)]; exact h2, h3, h4.mono x⟩
  · obtain ⟨l, a, b, c, h1, h2, h3, h4⟩ := k.en.tin i t q
    exact ⟨l, a, b, c, h1, by rw [upd_ne (ne i _ l q rfl h1)]; exact h2, h3, h4⟩
  · rw [upd_ne (fun z => by rw [z, hb] at h1; exact h1 rfl)]; exact k.f0 a h1 h2
theorem dv_lc {α : Type} {wi : TI} {g : TG} {vs : List Nat} {as : List α} {c : α → D} (hl : Lone Γ) (hi : Iv wi (.tin n :: Γ) (as.map c)) (hz : as.length ≤ 100000)
    (hb : ∀ (i : Nat) (a : α), as[i]? = some a → ∃ ps Γ', Gv g ps (wipeE (.tin (n + i * k) :: Γ) vs) (c a) (.tin (n + i * k) :: Γ') ∧ (∀ q ∈ ps, q ∈ vs) ∧ Lone Γ' ∧ Dv te (n + i * k) (n + i * k + k) Γ' P) :
    Dv (tLc wi g tYes te vs) n (n + as.length * k) Γ (fun d => ∃ ds, d = .lst ds ∧ ds.length = as.length ∧ ∀ x ∈ ds, P x) := fun B Hs H σ ok Q q => by
  obtain ⟨l, a0, b0, c0, t1, t2, t3, t4, t5⟩ := ok.at0
  refine hi Hs H σ ok.en _ fun J Hs1 H1 e1 ⟨G, Y, w, hG, hY⟩ D hD => ?_
  rw [List.length_map] at w
  have ok1 := ok.ext e1
  have hnD := ok1.en.mu_ne hD
  have hBD : B.H D = none := by
    cases z : B.H D with
    | none => rfl
    | some o => exact absurd hD (ok1.p0 D (ne_none z))
  have hlD : D ≠ l := fun z => by rw [z, e1.h _ _ t3] at hD; cases hD
  have hsD : Hs1 D = none := ok1.en.ex.free hD
  have mu1 : ∀ (i : Nat) (m' : Nat) (s : Sl), (Sl.tin m' :: Γ)[i]? = some s → s.mu = true → σ[i]? ≠ some (some (.ref D)) := fun i m' s h1 h2 => by
    cases i with
    | zero => exact hnD 0 (.tin n) rfl rfl
    | succ i => exact hnD (i + 1) s h1 h2
  refine lc_it w (Qd := fun H' => Q (.ref D) H') (fun i H' => ∃ Hs' acc ds, Ok B Hs' H' σ (.tin (n + i * k) :: Γ) ∧ Same Hs1 Hs' ∧ Hs' D = none ∧ H' D = some (.lst acc) ∧ Ds Hs' acc ds ∧ ds.length = i ∧ ∀ x ∈ ds, P x)
    ⟨Hs1, [], [], by rw [Nat.zero_mul, Nat.add_zero]; exact ok1.mutD hsD hBD (fun j s => mu1 j n s), .refl _, hsD, upd_same, .nil, rfl, fun x h => nomatch h⟩ (fun i H' _ ⟨Hs', _, _, o, s, _⟩ => hG H' (s.trans o.en.ex)) ?_ ?_
  · rintro i x H' H2 hi ⟨Hs', acc, ds, o, s, hD1, hD2, hds, hlen, hP⟩ y
    obtain ⟨d, Hs2, g1, e2, dx⟩ := hY i Hs' H' x H2 s o.en.ex (by rw [List.length_map]; exact hi) y
    obtain ⟨a, ha⟩ : ∃ a, as[i]? = some a := ⟨as[i], List.getElem?_eq_getElem hi⟩
    rw [List.getElem?_map, ha] at g1
    cases g1
    obtain ⟨ps, Γ', hg, hps, hlone, he⟩ := hb i a ha
    have o2 := o.ext e2
    have nD : Hs2 D = none := e2.f D (ne_none hD2) hD1
    have kD : H2 D = some (.lst acc) := e2.h _ _ hD2
    refine hg Hs2 H2 _ x (o2.en.wipe vs) dx _ fun σ2 n2 w2 k2 => ⟨(w2 vs hps).trans (wipe_wipe vs), ?_⟩
    obtain ⟨k21, k22⟩ := k2 0 _ rfl rfl
    obtain ⟨_, k23⟩ := wipe_keep o2.en.len k21 rfl
    have l2 : σ2[0]? = some (some (.ref l)) := by rw [k22, k23]; exact t1
    -- the base of this turn
    have okB : Ok ⟨Hs2, H2, fun a => a = l⟩ Hs2 H2 σ2 (.tin (n + i * k) :: Γ') := by
      refine ⟨n2, .refl _, fun _ _ z => z, fun _ _ z _ => z, fun _ z => z, fun j es p h1 h2 => ?_, fun j t p h1 h2 => ?_⟩
      · cases j with
        | zero => cases h1
        | succ j => exact absurd (hlone j _ h1) (by simp [Sl.mu])
      · cases j with
        | zero => rw [l2] at h2; cases h2; rfl
        | succ j => exact absurd (hlone j _ h1) (by simp [Sl.mu])
    show te σ2 H2 _
    refine he _ Hs2 H2 σ2 okB _ fun v d Hs3 H3 pd ok3 s3 dv => ?_
    obtain ⟨l', a', b', c', u1, u2, u3, u4, _⟩ := ok3.at0
    rw [l2] at u1
    cases u1
    have xt : ExtT l Hs2 H2 Hs3 H3 := ⟨s3, ok3.en.ex, fun p o ne h => ok3.k0 p o h ne, ok3.f0⟩
    have o3 := o2.tick t1 xt u3 u4
    have nD3 : Hs3 D = none := xt.f D (ne_none kD) nD
    have kD3 : H3 D = some (.lst acc) := xt.h D _ hlD kD
    refine ⟨acc, kD3, ?_, Hs3, acc ++ [v], ds ++ [d], ?_, (s.trans e2.s).trans s3, nD3, upd_same, ((hds.mono e2.s).mono s3).app (.one dv), by rw [List.length_append, hlen]; rfl, fun x hx => ?_⟩
    · rw [hds.len, hlen]; exact Nat.lt_of_lt_of_le hi (Nat.le_trans hz (by decide))
    · rw [Nat.succ_mul, ← Nat.add_assoc]
      exact o3.mutD nD3 hBD fun j s => mu1 j _ s
    · rcases List.mem_append.mp hx with h | h
      · exact hP x h
      · rw [List.mem_singleton.mp h]; exact pd
  · rintro H' ⟨Hs', acc, ds, o, s, hD1, hD2, hds, hlen, hP⟩
    exact q (.ref D) (.lst ds) _ H' ⟨ds, rfl, hlen, hP⟩ (o.setD hD1 hD2 hBD fun j s => mu1 j _ s) ((e1.s.trans s).trans (same_upd hD1)) (.lst upd_same (hds.mono (same_upd hD1)))
end

/-! the promise of a def that draws -/
def entT (N : List Str) (n : Nat) (ds : List D) : Gam := .tin n :: (ds.map .dat ++ List.replicate (N.length - 1 - ds.length) .un)
def retT (m : Nat) (P : D → Prop) : Out := { nx := fun _ => False, rt := fun d Γ => P d ∧ ∃ j, j ≤ m ∧ Γ[0]? = some (.tin j), bk := fun _ => False, ct := fun _ => False }
theorem ok_entT {N : List Str} {Hs H : Hp} {vs : List V} {ds : List D} {n : Nat} {l : Addr} {a b c : Int} (s : Same Hs H) (h0 : Hs l = none) (h1 : H l = some (.lst [.int a, .int b, .int c])) (ht : TinOk n a b c) (h : Ds Hs vs ds) (hN : ds.length + 1 ≤ N.length) : Ok ⟨Hs, H, fun a => a = l⟩ Hs H (L2.start N (.ref l :: vs)) (entT N n ds) := by
  have hst : L2.start N (.ref l :: vs) = some (.ref l) :: (vs.map some ++ List.replicate (N.length - 1 - ds.length) none) := by
    unfold L2.start
    show (some (V.ref l) :: vs.map some) ++ List.replicate (N.length - (vs.length + 1)) none = _
    rw [h.len, Nat.add_comm ds.length 1, Nat.sub_add_eq]
    rfl
  have hno : ∀ (i : Nat) (t : Sl), (ds.map Sl.dat ++ List.replicate (N.length - 1 - ds.length) Sl.un)[i]? = some t → t.mu = true → False := fun i t q m => by
    have hm := List.mem_of_getElem? q
    rcases List.mem_append.mp hm with z | z
    · obtain ⟨d, _, e⟩ := List.mem_map.mp z
      rw [← e] at m; cases m
    · rw [List.eq_of_mem_replicate z] at m; cases m
  rw [hst]
  unfold entT
  refine ⟨⟨s, ?_, fun i d q => ?_, fun i es q => ?_, fun i m q => ?_, fun i j x y p q1 q2 m1 m2 _ _ => ?_⟩, .refl _, fun a _ z => z, fun a o z _ => z, fun a z => z, fun i es p q _ => ?_, fun i m p q e => ?_⟩
  · show (vs.map some ++ _).length + 1 = (ds.map Sl.dat ++ _).length + 1
    rw [List.length_append, List.length_append, List.length_map, List.length_map, List.length_replicate, List.length_replicate, h.len]
  · cases i with
    | zero => cases q
    | succ i =>
      have q : (ds.map Sl.dat ++ List.replicate (N.length - 1 - ds.length) Sl.un)[i]? = some (.dat d) := q
      show ∃ v, (vs.map some ++ _)[i]? = _ ∧ _
      by_cases hi : i < ds.length
      · rw [List.getElem?_append_left (by rw [List.length_map]; exact hi), List.getElem?_map] at q
        cases e : ds[i]? with
        | none => rw [e] at q; cases q
        | some d' =>
          rw [e] at q
          cases q
          obtain ⟨v, g1, g2⟩ := h.get e
          refine ⟨v, ?_, g2⟩
          rw [List.getElem?_append_left (by rw [List.length_map, h.len]; exact hi), List.getElem?_map, g1]
          rfl
      · rw [List.getElem?_append_right (by rw [List.length_map]; omega), List.getElem?_replicate] at q
        split at q <;> cases q
  · cases i with
    | zero => cases q
    | succ i => exact (hno i _ q rfl).elim
  · cases i with
    | zero => cases q; exact ⟨l, a, b, c, rfl, h0, h1, ht⟩
    | succ i => exact (hno i _ q rfl).elim
  · cases i with
    | zero =>
      cases j with
      | zero => rfl
      | succ j => exact (hno j _ q2 m2).elim
    | succ i => exact (hno i _ q1 m1).elim
  · cases i with
    | zero => cases q
    | succ i => exact (hno i _ q rfl).elim
  · cases i with
    | zero => cases e; rfl
    | succ i => exact (hno i _ q rfl).elim
theorem fn_tin {P : Program} {w : World} {K : PySem.W.Frag} {mg : Str → Option Value} {base : Heap} {x qual : Str} {st : Stmt} {f : Addr} {fd : FuncData} {N ps : List Str} {k j : Nat} {Pre : List D → Prop} {Post : List D → D → Prop} (F : Fun K x qual st f fd) (S : FnScope N ps (defScope st))
    (hl : ∀ ds, Pre ds → ds.length + 1 = ps.length ∧ ds.length + 1 ≤ N.length)
    (hb : ∀ (cdv : Value) (A : Around) (outer : List Env) (s : Shared) (H : Hp) (E : XK), Room k (A.deeper (PyProof.Rows.envOfC qual (defScope st) s.heap.objs.size f cdv)) →
      ∃ t, PSs (cxOf CX0 P w K mg base N qual (defScope st) f cdv A outer s H E).nox (defBody st) t ∧ ∀ ds n, Pre ds → n + j ≤ 1000000 → DS t (entT N n ds) (retT (n + j) (Post ds))) : FnOk P w K mg base CX0 (k + 1) f fd ps (spT j Pre Post) := by
  refine F.ok S (fun vs H Q E h => ?_) (fun cdv A outer s H vs Q E hr h => ?_)
  · obtain ⟨Hs, l, ws, ds, n, a, b, c, e, _, _, _, _, _, h1, h2, _⟩ := h
    rw [e, ← (hl ds h2).1, ← h1.len]; rfl
  · obtain ⟨Hs, l, ws, ds, n, a, b, c, e, h0, h1, h2, h3, hn, h4, h5, q⟩ := h
    obtain ⟨t, ht, hd⟩ := hb cdv A outer s H E hr
    refine ⟨t, ht, ?_⟩
    rw [e]
    refine hd ds n h5 hn ⟨Hs, H, fun a => a = l⟩ Hs H (L2.start N (.ref l :: ws)) (ok_entT h0 h1 h2 h3 h4 (hl ds h5).2) _ (fun _ _ _ _ z => z.elim) (fun v d σ' Hs' H' Γ' hd' k' s' dv => ?_) (fun _ _ _ _ z => z.elim) (fun _ _ _ _ z => z.elim)
    obtain ⟨hp, i, hi, h0'⟩ := hd'
    obtain ⟨l', a', b', c', g1, g2, g3, g4⟩ := k'.en.tin 0 i h0'
    have e2 : l' = l := k'.ti 0 i l' h0' g1
    subst e2
    exact q v d Hs' H' a' b' c' ⟨s', k'.en.ex, fun p o ne z => k'.k0 p o z ne, k'.f0⟩ g3 (g4.up hi) hp dv
end DL
set_option Elab.async false
set_option linter.all false
set_option maxRecDepth 100000
set_option maxHeartbeats 2000000
namespace DL
open PySem L2 PyProof.Rows RZ
variable {K : PySem.W.Frag}

/-! ### the draw itself -/
def DT (l : Addr) (ts : TS) (Γ : Gam) (R : D → Gam → Prop) : Prop := ∀ Hs0 H0 Hs H σ, En Hs H σ Γ → σ[0]? = some (some (.ref l)) → ExtT l Hs0 H0 Hs H → ∀ E : Ends,
  (∀ v d σ' Hs' H' Γ', R d Γ' → En Hs' H' σ' Γ' → σ'[0]? = some (some (.ref l)) → ExtT l Hs0 H0 Hs' H' → Dn Hs' v d → E.rt v H') → ts E σ H
theorem ExtT.ext {l : Addr} {Hs0 H0 Hs H Hs' H' : Hp} (x : ExtT l Hs0 H0 Hs H) (hl : ∀ a, H0 a ≠ none → H a ≠ none) (e : Ext Hs H Hs' H') : ExtT l Hs0 H0 Hs' H' :=
  ⟨x.s.trans e.s, e.e, fun a o n h => e.h _ _ (x.h a o n h), fun a h1 h2 => e.f a (hl a h1) (x.f a h1 h2)⟩
theorem ExtT.live {l : Addr} {Hs0 H0 Hs H : Hp} (x : ExtT l Hs0 H0 Hs H) (hl : H l ≠ none) : ∀ a, H0 a ≠ none → H a ≠ none := fun a h => by
  by_cases e : a = l
  · rw [e]; exact hl
  · cases q : H0 a with
    | none => exact absurd q h
    | some o => rw [x.h a o e q]; intro z; cases z
section
variable {l : Addr} {Γ : Gam} {R : D → Gam → Prop} {te tb : TE} {tz tu : TS} {tt : TT} {d : D} {ds : List D} {i : Int} {j : Nat} {b : Bool}
theorem En.at0 {Hs H : Hp} {σ : L2.St} (n : En Hs H σ Γ) (hi : Γ[0]? = some (.own ds)) (hl : σ[0]? = some (some (.ref l))) : ∃ vs, Hs l = none ∧ H l = some (.lst vs) ∧ Ds Hs vs ds := by
  obtain ⟨p, vs, h1, h2, h3, h4⟩ := n.own 0 ds hi
  rw [hl] at h1
  cases h1
  exact ⟨vs, h2, h3, h4⟩
theorem dt_ret (hi : Γ[0]? = some (.own ds)) (h : Ev te Γ d) (hr : R d Γ) : DT l (tRet te) Γ R := fun Hs0 H0 Hs H σ n hl x E q => h Hs H σ n _ fun v Hs1 H1 e1 d1 => by
  obtain ⟨vs, h1, h2, h3⟩ := n.at0 hi hl
  exact q v d σ Hs1 H1 Γ hr (n.ext e1) hl (x.ext (x.live (ne_none h2)) e1) d1
theorem dt_asg {k : Nat} (hi : Γ[0]? = some (.own ds)) (hk : k ≠ 0) (h : Ev te Γ d) (hz : DT l tz (Γ.set k (.dat d)) R) : DT l (tSeq (tAsg te (gName k)) tz) Γ R := fun Hs0 H0 Hs H σ n hl x E q => h Hs H σ n _ fun v Hs1 H1 e1 d1 => by
  obtain ⟨vs, h1, h2, h3⟩ := n.at0 hi hl
  exact hz Hs0 H0 Hs1 H1 _ ((n.ext e1).set d1) (by rw [List.getElem?_set_ne hk]; exact hl) (x.ext (x.live (ne_none h2)) e1) E q
theorem dt_set (hi : Γ[0]? = some (.own ds)) (h : Ev te Γ d) (ho : Ev tb Γ (.int i)) (hj : ixN ds.length i = some j) (hz : DT l tz (Γ.set 0 (.own (ds.set j d))) R) : DT l (tSeq (tAsg te (gSub (tVar 0) tb rSetL)) tz) Γ R := fun Hs0 H0 Hs H σ n hl x E q => by
  obtain ⟨vs, h1, h2, h3⟩ := n.at0 hi hl
  refine h Hs H σ n _ fun v Hs1 H1 e1 d1 => ⟨_, hl, ho Hs1 H1 σ (n.ext e1) _ fun w Hs2 H2 e2 d2 => ?_⟩
  cases d2
  have e := e1.trans e2
  have x2 := x.ext (x.live (ne_none h2)) e
  refine ⟨l, vs, i, j, rfl, rfl, e.h _ _ h2, by rw [h3.len]; exact hj, ?_⟩
  refine hz Hs0 H0 Hs2 _ σ (((n.ext e).put hi hl (Ds.set (d1.mono e2.s) j (h3.mono e.s)))) hl ⟨x2.s, ?_, fun a o ne h => ?_, x2.f⟩ E q
  · intro p u hp
    have ne : p ≠ l := fun z => by
      have := e.f l (ne_none h2) h1
      rw [z, this] at hp; cases hp
    rw [upd_ne ne]; exact x2.e _ _ hp
  · rw [upd_ne ne]; exact x2.h a o ne h
theorem dt_when (hi : Γ[0]? = some (.own ds)) (h : Et tt Γ b) (h1 : b = true → DT l tu Γ R) (h2 : b = false → DT l tz Γ R) : DT l (tSeq (tIfS tt tu tNext) tz) Γ R := fun Hs0 H0 Hs H σ n hl x E q => h Hs H σ n _ fun Hs1 H1 e1 => by
  obtain ⟨vs, k1, k2, k3⟩ := n.at0 hi hl
  have x2 := x.ext (x.live (ne_none k2)) e1
  cases b with
  | true => exact h1 rfl Hs0 H0 Hs1 H1 σ (n.ext e1) hl x2 { E with nx := tz E } q
  | false => exact h2 rfl Hs0 H0 Hs1 H1 σ (n.ext e1) hl x2 E q
end
def PreTake (ds : List D) : Prop := ∃ w : Int, ds = [.int w] ∧ 0 < w ∧ w < 1073741824
def PostTake (ds : List D) (d : D) : Prop := ∃ w i : Int, ds = [.int w] ∧ d = .int i ∧ 0 ≤ i ∧ i < w
abbrev spTake : Sp := spT 1 PreTake PostTake
theorem at3_0 {a b c : Int} : L2.atI [D.int a, .int b, .int c] 0 = some (.int a) := atI_pos (by decide) rfl
theorem at3_1 {a b c : Int} : L2.atI [D.int a, .int b, .int c] 1 = some (.int b) := atI_pos (by decide) rfl
theorem at3_2 {a b c : Int} : L2.atI [D.int a, .int b, .int c] 2 = some (.int c) := atI_pos (by decide) rfl
theorem dt_take {l : Addr} {a b c w : Int} {n : Nat} (ht : TinOk n a b c) (hn : n + 1 ≤ 1000000) (h0 : 0 < w) (h1 : w < 1073741824) :
    DT l (t_law_take K) [.own [.int a, .int b, .int c], .dat (.int w), .un, .un, .un, .un] (fun d Γ => (∃ i, d = .int i ∧ 0 ≤ i ∧ i < w) ∧ ∃ a' b' c', Γ[0]? = some (.own [.int a', .int b', .int c']) ∧ TinOk (n + 1) a' b' c') := by
  obtain ⟨a0, b0, b1, c0, c1⟩ := ht
  refine dt_when rfl (t_test (e_gt (e_ixO rfl ev_int at3_0) ev_int)) (fun z => ?_) fun z => ?_
  · have z := of_decide_eq_true z
    refine dt_asg rfl (by decide) (e_mod (e_int (e_ixO rfl ev_int at3_0)) (ev_v rfl) h0) ?_
    refine dt_set rfl (e_div (e_ixO rfl ev_int at3_0) (ev_v rfl) ⟨h0, h1⟩) ev_int (j := 0) rfl ?_
    refine dt_ret rfl (ev_v rfl) ⟨⟨_, rfl, Int.emod_nonneg _ (by omega), Int.emod_lt_of_pos _ h0⟩, a / w, b, c, rfl, Int.ediv_nonneg a0 (by omega), b0, b1, c0, by omega⟩
  · refine dt_set rfl (e_add (e_ixO rfl ev_int at3_2) ev_int) ev_int (j := 2) rfl ?_
    show DT l _ [.own [.int a, .int b, .int (c + 1)], .dat (.int w), .un, .un, .un, .un] _
    refine dt_asg rfl (by decide) (e_mod (e_int (e_mul (e_add (e_ixO rfl ev_int at3_1) (e_mul ev_int (e_ixO rfl ev_int at3_2) (.inl (by decide)))) (e_add ev_int (e_ixO rfl ev_int at3_2)) (.inr (by constructor <;> omega)))) ev_int (by decide)) ?_
    generalize (b + 48271 * (c + 1)) * (39373 + (c + 1)) % 2147483647 = o
    refine dt_asg rfl (by decide) (e_add (e_mod (e_int (ev_v rfl)) ev_int (by decide)) ev_int) ?_
    have w1 := Int.emod_nonneg o (show (40009 : Int) ≠ 0 by decide)
    have w2 := Int.emod_lt_of_pos o (show (0 : Int) < 40009 by decide)
    generalize o % 40009 = wd at w1 w2
    refine dt_asg rfl (by decide) (e_mod (e_int (e_mul (e_add (e_add (ev_v rfl) (e_ixO rfl ev_int at3_2)) (e_div (e_ixO rfl ev_int at3_1) ev_int (by decide))) (ev_v rfl) (.inr (by constructor <;> omega)))) ev_int (by decide)) ?_
    refine dt_ret rfl (e_mod (e_int (e_div (e_mod (e_int (e_add (e_mul (ev_v rfl) ev_int (.inr (by decide))) (ev_v rfl))) ev_int (by decide)) ev_int (by decide))) (ev_v rfl) h0) ⟨⟨_, rfl, Int.emod_nonneg _ (by omega), Int.emod_lt_of_pos _ h0⟩, a, b, c + 1, rfl, a0, b0, b1, by omega, by omega⟩
theorem fn_take {P : Program} {w : World} {mg : Str → Option Value} {base : Heap} {x qual : Str} {f : Addr} {fd : FuncData} {k : Nat} (F : Fun K x qual s_law_take f fd)
    (hb : ∀ (cdv : Value) (A : Around) (outer : List Env) (s : Shared) (H : Hp) (E : XK), Room k (A.deeper (PyProof.Rows.envOfC qual (defScope s_law_take) s.heap.objs.size f cdv)) →
      PSs (cxOf CX0 P w K mg base ["_law_tin", "_law_below_so", "_law_drawn", "_law_once_so", "_law_wide_so", "_law_twice_so"] qual (defScope s_law_take) f cdv A outer s H E).nox (defBody s_law_take) (t_law_take K)) : FnOk P w K mg base CX0 (k + 1) f fd ["_law_tin", "_law_below_so"] spTake := by
  refine F.ok sc_law_take (fun vs H Q E h => ?_) (fun cdv A outer s H vs Q E hr h => ?_)
  · obtain ⟨Hs, l, ws, ds, n, a, b, c, e, _, _, _, _, _, h1, ⟨wd, e2, _⟩, _⟩ := h
    rw [e, show (V.ref l :: ws).length = ws.length + 1 from rfl, h1.len, e2]; rfl
  · obtain ⟨Hs, l, ws, ds, n, a, b, c, rfl, h0, h1, h2, h3, hn, h4, ⟨wd, rfl, w0, w1⟩, q⟩ := h
    cases h4 with
    | cons h4 h5 =>
      cases h5
      cases h4
      refine ⟨_, hb cdv A outer s H E hr, ?_⟩
      have en : En Hs H (L2.start ["_law_tin", "_law_below_so", "_law_drawn", "_law_once_so", "_law_wide_so", "_law_twice_so"] [.ref l, .int wd]) [.own [.int a, .int b, .int c], .dat (.int wd), .un, .un, .un, .un] := by
        refine ⟨h0, rfl, fun i d q => ?_, fun i es q => ?_, fun i m q => ?_, fun i j x y p q1 q2 m1 m2 _ _ => ?_⟩
        · match i, q with
          | 0, q => cases q
          | 1, q => cases q; exact ⟨_, rfl, .int _⟩
          | 2, q => cases q
          | 3, q => cases q
          | 4, q => cases q
          | 5, q => cases q
          | i + 6, q => simp at q
        · match i, q with
          | 0, q => cases q; exact ⟨l, _, rfl, h1, h2, .cons (.int _) (.cons (.int _) (.cons (.int _) .nil))⟩
          | 1, q => cases q
          | 2, q => cases q
          | 3, q => cases q
          | 4, q => cases q
          | 5, q => cases q
          | i + 6, q => simp at q
        · match i, q with
          | 0, q => cases q
          | 1, q => cases q
          | 2, q => cases q
          | 3, q => cases q
          | 4, q => cases q
          | 5, q => cases q
          | i + 6, q => simp at q
        · have z : ∀ (i : Nat) (s : Sl), ([.own [.int a, .int b, .int c], .dat (.int wd), .un, .un, .un, .un] : Gam)[i]? = some s → s.mu = true → i = 0 := fun i s q m => by
            match i, q with
            | 0, q => rfl
            | 1, q => cases q; cases m
            | 2, q => cases q; cases m
            | 3, q => cases q; cases m
            | 4, q => cases q; cases m
            | 5, q => cases q; cases m
            | i + 6, q => simp at q
          rw [z i x q1 m1, z j y q2 m2]
      refine dt_take h3 hn w0 w1 Hs H Hs H _ en rfl ⟨.refl _, h0, fun _ _ _ z => z, fun _ _ z => z⟩ _ fun v d σ' Hs' H' Γ' ⟨⟨i, e, i0, i1⟩, a', b', c', g0, ht⟩ n' hl' x' dv => ?_
      obtain ⟨vs, k1, k2, k3⟩ := n'.at0 g0 hl'
      have ev : vs = [.int a', .int b', .int c'] := by
        have := Ds.ofInts (ns := [a', b', c']) k3
        exact this
      rw [ev] at k2
      exact q v d Hs' H' a' b' c' x' k2 ht ⟨wd, i, rfl, e, i0, i1⟩ dv
section
variable {Γ : Gam} {n : Nat} {te : TE} {P : D → Prop}
theorem dv_take {w : Int} (h : Ev te (.tin n :: Γ) (.int w)) (h0 : 0 < w) (h1 : w < 1073741824) (hn : n + 1 ≤ 1000000) : Dv (tCall spTake [] E0 (tCons (tVar 0) (tCons te tNil))) n (n + 1) Γ (fun d => ∃ i, d = .int i ∧ 0 ≤ i ∧ i < w) :=
  dv_call (da_av (Pl := fun ds => ds = [.int w]) (av_cons h av_nil) rfl) (fun ds e => ⟨w, e, h0, h1⟩) hn fun ds d e ⟨w', i, e1, e2, i0, i1⟩ => by
    rw [e] at e1
    cases e1
    exact ⟨i, e2, i0, i1⟩
def PreOf (ds : List D) : Prop := ∃ xs, ds = [.lst xs] ∧ 0 < xs.length ∧ xs.length ≤ 100000
def PostOf (ds : List D) (d : D) : Prop := ∃ xs, ds = [.lst xs] ∧ d ∈ xs
abbrev spOf : Sp := spT 1 PreOf PostOf
theorem dv_of {xs : List D} (h : Ev te (.tin n :: Γ) (.lst xs)) (h0 : 0 < xs.length) (h1 : xs.length ≤ 100000) (hn : n + 1 ≤ 1000000) : Dv (tCall spOf [] E0 (tCons (tVar 0) (tCons te tNil))) n (n + 1) Γ (fun d => d ∈ xs) :=
  dv_call (da_av (Pl := fun ds => ds = [.lst xs]) (av_cons h av_nil) rfl) (fun ds e => ⟨xs, e, h0, h1⟩) hn fun ds d e ⟨ys, e1, e2⟩ => by
    rw [e] at e1
    cases e1
    exact e2
end
theorem d_law_of {ds : List D} {n : Nat} (h : PreOf ds) (hn : n + 1 ≤ 1000000) : DS (t_law_of K spTake) (entT ["_law_tin", "_law_goods_so"] n ds) (retT (n + 1) (PostOf ds)) := by
  obtain ⟨xs, rfl, h0, h1⟩ := h
  refine d_retD (P := fun d => d ∈ xs) (dv_op (P := fun d => d = .lst xs) (S := fun _ y => ∃ i, y = .int i ∧ 0 ≤ i ∧ i < (xs.length : Int)) (dv_ev (ev_v rfl) rfl) (fun x hx => dv_take (e_lenL (ev_v rfl)) (by omega) (by omega) hn) fun x y hx ⟨i, hy, i0, i1⟩ => ?_) fun d hd => ⟨⟨xs, rfl, hd⟩, _, Nat.le_refl _, rfl⟩
  subst hx hy
  have hg := List.getElem?_eq_getElem (show i.toNat < xs.length by omega)
  exact ⟨_, o_ixL (atI_pos i0 hg), List.mem_of_getElem? hg⟩
theorem o_add {i j : Int} : Op2 xAdd (.int i) (.int j) (.int (i + j)) := o_I0 fun _ => .int _
theorem o_sub {i j : Int} : Op2 xSub (.int i) (.int j) (.int (i - j)) := o_I0 fun _ => .int _
/-! fractions -/
def PreFrac (ds : List D) : Prop := ∃ m : Int, ds = [.int m] ∧ 0 < m ∧ m ≤ 1000
def PostFrac (ds : List D) (d : D) : Prop := ∃ (m : Int) (f : Int × Int), ds = [.int m] ∧ d = fr f ∧ Vf f ∧ f.2 ≤ m
abbrev spFrac : Sp := spT 2 PreFrac PostFrac
theorem vf_mk {a b : Int} (h0 : 0 < b) (h1 : b ≤ 2000) : Vf (M.mk a b) := ⟨M.mk_pos h0, Int.le_trans (M.mk_le h0) h1, M.mk_gcd h0⟩
theorem d_law_frac {ds : List D} {n : Nat} (h : PreFrac ds) (hn : n + 2 ≤ 1000000) : DS (t_law_frac K (spF R_made) spTake) (entT ["_law_tin", "_law_most_so", "_law_below_so"] n ds) (retT (n + 2) (PostFrac ds)) := by
  obtain ⟨m, rfl, h0, h1⟩ := h
  refine q_asgD (P := fun d => ∃ b, d = .int b ∧ 0 < b ∧ b ≤ m) (dv_op (P := fun x => x = .int 1) (S := fun _ y => ∃ i, y = .int i ∧ 0 ≤ i ∧ i < m) (dv_ev ev_int rfl) (fun x hx => dv_take (ev_v rfl) h0 (by omega) (by omega)) fun x y hx ⟨i, hy, i0, i1⟩ => by
    subst hx hy
    exact ⟨_, o_add, 1 + i, rfl, by omega, by omega⟩) ?_
  rintro d ⟨b, rfl, b0, b1⟩
  refine d_retD (P := fun d => ∃ f, d = fr f ∧ Vf f ∧ f.2 ≤ m) (dv_callP (Pl := fun ds => ∃ a, ds = [.int a, .int b]) (da_cons (P := fun d => ∃ a, d = .int a) (dv_op (P := fun x => ∃ i, x = .int i ∧ 0 ≤ i ∧ i < 3 * b + 1) (S := fun _ y => y = .int b) (dv_take (e_add (e_mul ev_int (ev_v rfl) (.inl (by decide))) ev_int) (by omega) (by omega) (by omega)) (fun x hx => dv_ev (ev_v rfl) rfl) fun x y ⟨i, hx, _, _⟩ hy => by
    subst hx hy
    exact ⟨_, o_sub, _, rfl⟩) (da_av (Pl := fun ds => ds = [.int b]) (av_cons (ev_v rfl) av_nil) rfl) fun x xs ⟨a, hx⟩ hxs => ⟨a, by rw [hx, hxs]⟩) fun ds ⟨a, e⟩ => ⟨_, ⟨a, b, e, b0, by omega, rfl⟩, _, rfl, vf_mk b0 (by omega), Int.le_trans (M.mk_le b0) b1⟩) fun d ⟨f, e, v, l⟩ => ⟨⟨m, f, rfl, e, v, l⟩, _, Nat.le_refl _, rfl⟩
theorem ex_map {α : Type} {c : α → D} {S : α → Prop} : ∀ {ds : List D}, (∀ x ∈ ds, ∃ a, x = c a ∧ S a) → ∃ as : List α, ds = as.map c ∧ ∀ a ∈ as, S a
  | [], _ => ⟨[], rfl, fun _ h => nomatch h⟩
  | d :: ds, h => by
    obtain ⟨a, e, s⟩ := h d List.mem_cons_self
    obtain ⟨as, e2, s2⟩ := ex_map (ds := ds) fun x hx => h x (List.mem_cons_of_mem _ hx)
    refine ⟨a :: as, by rw [e, e2]; rfl, fun b hb => ?_⟩
    rcases List.mem_cons.mp hb with rfl | hb
    · exact s
    · exact s2 b hb
theorem on_tupL {xs : List D} : OpN (rTupOf K) [.lst xs] (.tup xs) := fun Hs H vs s dv Q q => by
  cases dv with
  | cons d1 d2 =>
    cases d2
    cases d1 with
    | lst h1 h2 => exact ⟨_, _, rfl, .inl ⟨SqL.of (s _ _ h1), fun l hl => q _ _ _ (Ext.new s hl) (.tup upd_same (h2.mono (same_upd (s.free hl))))⟩⟩
theorem lone_of {Γ : Gam} (h : Γ.all (fun s => !s.mu) = true := by rfl) : Lone Γ := Lone.of h
def PreMarks (ds : List D) : Prop := ∃ (k : Nat) (m : Int), ds = [.int (k : Int), .int m] ∧ k ≤ 10 ∧ 0 < m ∧ m ≤ 1000
def PostMarks (ds : List D) (d : D) : Prop := ∃ (k : Nat) (m : Int) (fs : List (Int × Int)), ds = [.int (k : Int), .int m] ∧ d = tf fs ∧ fs.length = k ∧ ∀ f ∈ fs, Vf f ∧ f.2 ≤ m
abbrev spMarks : Sp := spT 20 PreMarks PostMarks
theorem d_law_marks {ds : List D} {n : Nat} (h : PreMarks ds) (hn : n + 20 ≤ 1000000) : DS (t_law_marks K spFrac) (entT ["_law_tin", "_law_many_so", "_law_most_so", "_law_lap"] n ds) (retT (n + 20) (PostMarks ds)) := by
  obtain ⟨k, m, rfl, hk, h0, h1⟩ := h
  refine d_retD (P := fun d => ∃ fs : List (Int × Int), d = tf fs ∧ fs.length = k ∧ ∀ f ∈ fs, Vf f ∧ f.2 ≤ m) (dv_cb (Pl := fun ds => ∃ es, ds = [.lst es] ∧ es.length = k ∧ ∀ x ∈ es, ∃ f, x = fr f ∧ Vf f ∧ f.2 ≤ m) (da_cons (P := fun d => ∃ es, d = .lst es ∧ es.length = k ∧ ∀ x ∈ es, ∃ f, x = fr f ∧ Vf f ∧ f.2 ≤ m)
    ((dv_lc (k := 2) (as := List.range k) (c := fun (i : Nat) => D.int (i : Int)) (P := fun x => ∃ f, x = fr f ∧ Vf f ∧ f.2 ≤ m) lone_of (iv_rng1 (n := (k : Int)) (av_cons (ev_v rfl) av_nil) (by omega)) (by rw [List.length_range]; omega) fun i a ha => by
      have hi : i < k := by
        have := (List.getElem?_eq_some_iff.mp ha).1
        rwa [List.length_range] at this
      exact ⟨_, _, gv_name, by simp, lone_of, dv_call (da_av (Pl := fun ds => ds = [.int m]) (av_cons (ev_v rfl) av_nil) rfl) (fun ds e => ⟨m, e, h0, h1⟩) (by omega) fun ds d e ⟨m', f, e1, e2, v, l⟩ => by
        rw [e] at e1
        cases e1
        exact ⟨f, e2, v, l⟩⟩).imp fun d ⟨es, e, l, p⟩ => ⟨es, e, by rw [l, List.length_range], p⟩)
    (da_nil (Pl := fun ds => ds = []) rfl) fun x xs ⟨es, e, l, p⟩ hxs => ⟨es, by rw [e, hxs], l, p⟩) fun ds ⟨es, e, l, p⟩ => by
      obtain ⟨fs, e2, q⟩ := ex_map p
      subst e2
      exact ⟨_, by rw [e]; exact on_tupL, fs, rfl, by rw [← l, List.length_map], q⟩) fun d ⟨fs, e, l, p⟩ => ⟨⟨k, m, fs, rfl, e, l, p⟩, _, by rw [List.length_range]; omega, rfl⟩
def PreNear (ds : List D) : Prop := ∃ f, ds = [fr f] ∧ Vf f ∧ f.2 ≤ 6
def PostNear (_ : List D) (d : D) : Prop := ∃ f, d = fr f ∧ Vf f ∧ f.2 ≤ 6
abbrev spNear : Sp := spT 3 PreNear PostNear
theorem d_law_near {ds : List D} {n : Nat} (h : PreNear ds) (hn : n + 3 ≤ 1000000) : DS (t_law_near K (spF R_floor) (spF R_made) spTake) (entT ["_law_tin", "_law_frac_so", "_law_kind_so", "_law_below_so", "_law_floor_so"] n ds) (retT (n + 3) (PostNear ds)) := by
  obtain ⟨f, rfl, hv, h6⟩ := h
  refine q_parD (m := n + 2) (Pl := fun ds => ∃ i b, ds = [.int i, .int b] ∧ 0 < b ∧ b ≤ 6) (da_cons (P := fun d => ∃ i, d = .int i) ((dv_take ev_int (by decide) (by decide) (by omega)).imp fun d ⟨i, e, _⟩ => ⟨i, e⟩) (da_cons (P := fun d => ∃ b, d = .int b ∧ 0 < b ∧ b ≤ 6) (Pl := fun ds => ∃ b, ds = [.int b] ∧ 0 < b ∧ b ≤ 6) (dv_op (P := fun x => x = .int 1) (S := fun _ y => ∃ i, y = .int i ∧ 0 ≤ i ∧ i < 6) (dv_ev ev_int rfl) (fun x hx => dv_take ev_int (by decide) (by decide) (by omega)) fun x y hx ⟨i, hy, i0, i1⟩ => by
    subst hx hy
    exact ⟨_, o_add, 1 + i, rfl, by omega, by omega⟩) (da_nil (Pl := fun ds => ds = []) rfl) fun x xs ⟨b, e, b0, b1⟩ hxs => ⟨b, by rw [e, hxs], b0, b1⟩) fun x xs ⟨i, e⟩ ⟨b, e2, b0, b1⟩ => ⟨i, b, by rw [e, e2], b0, b1⟩) (fun ds ⟨i, b, e, _⟩ => ⟨_, _, e⟩) ?_
  rintro x y ⟨i, b, e, b0, b1⟩
  cases e
  refine q_when (t_test (e_eqI (ev_v rfl) ev_int)) (fun _ => d_ret (ev_v rfl) ⟨⟨f, rfl, hv, h6⟩, n + 2, by omega, rfl⟩) fun _ => ?_
  refine q_asg (e_c2 (ev_v rfl) (ev_v rfl) ⟨f, b, rfl, hv, by omega, by omega, rfl⟩) ?_
  refine d_retD (m := n + 3) (P := fun d => ∃ f, d = fr f ∧ Vf f ∧ f.2 ≤ 6) (dv_callP (Pl := fun ds => ∃ a, ds = [.int a, .int b]) (da_cons (P := fun d => ∃ a, d = .int a) (dv_op (P := fun x => ∃ i, x = .int i) (S := fun _ y => y = .int 1) (dv_op (P := fun x => x = .int (flr f b)) (S := fun _ y => ∃ i, y = .int i ∧ 0 ≤ i ∧ i < 5) (dv_ev (ev_v rfl) rfl) (fun x hx => dv_take ev_int (by decide) (by decide) (by omega)) fun x y hx ⟨i, hy, _, _⟩ => by
    subst hx hy
    exact ⟨_, o_add, _, rfl⟩) (fun x hx => dv_ev ev_int rfl) fun x y ⟨i, hx⟩ hy => by
    subst hx hy
    exact ⟨_, o_sub, _, rfl⟩) (da_av (Pl := fun ds => ds = [.int b]) (av_cons (ev_v rfl) av_nil) rfl) fun x xs ⟨a, hx⟩ hxs => ⟨a, by rw [hx, hxs]⟩) fun ds ⟨a, e⟩ => ⟨_, ⟨a, b, e, b0, by omega, rfl⟩, _, rfl, vf_mk b0 (by omega), Int.le_trans (M.mk_le b0) b1⟩) fun d ⟨g, e, v, l⟩ => ⟨⟨g, e, v, l⟩, _, Nat.le_refl _, rfl⟩
end DL
set_option Elab.async false
set_option linter.all false
set_option maxRecDepth 100000
set_option maxHeartbeats 2000000
namespace DL
open PySem L2 PyProof.Rows RZ
variable {K : PySem.W.Frag}

/-! ### drawn wheels -/
def bump (k : Nat) (s : Int) (p : Nat) : Int := if p = k then s + k + 1 else s + p
theorem map_getD {N : Nat} {f : Nat → Int} {i : Nat} (h : i < N) : ((List.range N).map f).getD i 0 = f i := by
  rw [List.getD_eq_getElem?_getD, List.getElem?_map, List.getElem?_range h]; rfl
theorem wh_fun {N : Nat} {f : Nat → Int} (hN : 0 < N) (h1 : ∀ i, i + 1 < N → f i ≤ f (i + 1)) (h2 : f (N - 1) ≤ f 0 + N) : M.isWh ((List.range N).map f) = true := by
  have hl : ((List.range N).map f).length = N := by rw [List.length_map, List.length_range]
  refine M.isWh_of (by rw [hl]; exact hN) (fun i hi => ?_) ?_
  · rw [hl] at hi
    rw [map_getD (by omega), map_getD hi]
    exact h1 i hi
  · rw [hl, map_getD (by omega), map_getD hN]; exact h2
theorem wh_bump {N k : Nat} {s : Int} (hk : k < N) : M.isWh ((List.range N).map (bump k s)) = true := wh_fun (by omega) (fun i hi => by
  unfold bump
  split <;> split <;> omega) (by
  unfold bump
  split <;> split <;> omega)
theorem wh_shift {N : Nat} {s : Int} (hN : 0 < N) : M.isWh ((List.range N).map fun (k : Nat) => (k : Int) + s) = true := wh_fun hN (fun i hi => by omega) (by omega)
theorem wh_sorted {ws : List Int} {s w : Int} (hn : 0 < ws.length) (hs : ws.Pairwise (· ≤ ·)) (hw : w ≤ ws.length + 1) (hb : ∀ x ∈ ws, s ≤ x ∧ x < s + w) : M.isWh ws = true := by
  have hg : ∀ i, i < ws.length → ws.getD i 0 ∈ ws := fun i hi => getD_mem hi
  refine M.isWh_of hn (fun i hi => ?_) ?_
  · rw [List.pairwise_iff_getElem] at hs
    have := hs i (i + 1) (by omega) hi (by omega)
    rw [List.getD_eq_getElem?_getD, List.getD_eq_getElem?_getD, List.getElem?_eq_getElem (by omega), List.getElem?_eq_getElem hi]
    exact this
  · have a := hb _ (hg (ws.length - 1) (by omega))
    have b := hb _ (hg 0 hn)
    omega
def PreDisk (ds : List D) : Prop := ∃ r : Nat, ds = [.int (r : Int)] ∧ 1 ≤ r ∧ r ≤ 10
def PostDisk (ds : List D) (d : D) : Prop := ∃ (r : Nat) (ws : List Int), ds = [.int (r : Int)] ∧ d = ti ws ∧ ws.length = r ∧ M.isWh ws = true
abbrev spDisk : Sp := spT 15 PreDisk PostDisk
theorem on_sortL {ns ms : List Int} (hp : ms.Perm ns) (hs : ms.Pairwise (· ≤ ·)) : OpN (rSortedI K) [.lst (ns.map D.int)] (.lst (ms.map D.int)) := OpF.n fun Hs H vs s dv Q q => by
  cases dv with
  | cons d1 d2 =>
    cases d2
    cases d1 with
    | lst h1 h2 =>
      refine ⟨_, ns, rfl, SqL.of (by rw [← h2.ofInts]; exact s _ _ h1), fun ns' p hp' hs' hn => ?_⟩
      have e : ns' = ms := sorted_unique (hp'.trans hp.symm) hs' hs
      subst e
      exact q p _ Hs _ (Ext.newOwn s hn) hn (s.free hn) upd_same (Ds.ints _)
theorem d_law_disk {ds : List D} {n : Nat} (h : PreDisk ds) (hn : n + 15 ≤ 1000000) : DS (t_law_disk K (spF R_shift) spTake) (entT ["_law_tin", "_law_ring_so", "_law_start_so", "_law_kind_so", "_law_disk_here", "_law_k", "_law_j", "_law_wide_so", "_law_own", "_law_lap"] n ds) (retT (n + 15) (PostDisk ds)) := by
  obtain ⟨r, rfl, r1, r2⟩ := h
  refine q_asgGD (m := n + 2) (P := fun d => ∃ s k : Int, d = .tup [.int s, .int k]) (dv_tup (Pl := fun ds => ∃ s k : Int, ds = [.int s, .int k]) (da_cons (P := fun d => ∃ s, d = .int s) (Pr := fun ds => ∃ k, ds = [.int k]) (dv_op (P := fun x => ∃ i, x = .int i) (S := fun _ y => y = .int r) ((dv_take (e_mul ev_int (ev_v rfl) (.inl (by decide))) (by omega) (by omega) (by omega)).imp fun d ⟨i, e, _⟩ => ⟨i, e⟩) (fun x hx => dv_ev (ev_v rfl) rfl) fun x y ⟨i, hx⟩ hy => by
    subst hx hy
    exact ⟨_, o_sub, _, rfl⟩) (da_cons (P := fun d => ∃ k, d = .int k) (Pr := fun ds => ds = []) ((dv_take ev_int (by decide) (by decide) (by omega)).imp fun d ⟨i, e, _⟩ => ⟨i, e⟩) (da_nil rfl) fun x xs ⟨k, hx⟩ hxs => ⟨k, by rw [hx, hxs]⟩) fun x xs ⟨s, hx⟩ ⟨k, hk⟩ => ⟨s, k, by rw [hx, hk]⟩) fun ds ⟨s, k, e⟩ => ⟨by rw [e]; show 2 ≤ 100000; decide, s, k, by rw [e]⟩) ?_
  rintro d ⟨s, kd, rfl⟩
  refine ⟨_, _, gv_t2, ?_⟩
  refine q_when (t_test (e_eqI (ev_v rfl) ev_int)) (fun _ => d_ret (e_c2 (ev_v rfl) (ev_v rfl) ⟨r, s, rfl, by omega, rfl⟩) ⟨⟨r, _, rfl, rfl, by rw [List.length_map, List.length_range], wh_shift (by omega)⟩, n + 2, by omega, rfl⟩) fun _ => ?_
  refine q_when (t_test (e_eqI (ev_v rfl) ev_int)) (fun _ => ?_) fun _ => ?_
  · have e0 : ((List.range r).map fun (k : Nat) => (k : Int) + s).map D.int = ol r fun p => s + p := by
      unfold ol
      rw [List.map_map]
      exact List.map_congr_left fun p _ => congrArg D.int (Int.add_comm _ _)
    refine q_asgL ((f_listT (e_c2 (ev_v rfl) (ev_v rfl) ⟨r, s, rfl, by omega, rfl⟩)).is e0) ?_
    refine q_asgD (m := n + 3) (dv_take (ev_v rfl) (by omega) (by omega) (by omega)) ?_
    rintro d ⟨i, rfl, i0, i1⟩
    obtain ⟨k, rfl⟩ := Int.eq_ofNat_of_zero_le i0
    have hk : k < r := by omega
    refine q_setL rfl (e_add (e_ixO rfl (ev_v rfl) (ol_at hk)) ev_int) (ev_v rfl) (ol_ix hk) ?_
    rw [ol_set]
    have eb : (ol r fun p => if p = k then s + k + 1 else s + p) = ol r (bump k s) := ol_congr fun p _ => rfl
    rw [eb]
    refine q_for (iv_rng2 (lo := (k : Int) + 1) (n := (r : Int)) (av_cons (e_add (ev_v rfl) ev_int) (av_cons (ev_v rfl) av_nil)) (by omega)) (fun m Γ => ∃ s6, Γ = [.tin (n + 3), .dat (.int r), .dat (.int s), .dat (.int kd), .own (ol r (bump k s)), .dat (.int k), s6, .un, .un, .un]) ⟨.un, rfl⟩ ?_ ?_
    · rintro m d Γ1 hd ⟨s6, rfl⟩
      have hm : m < r - (k + 1) := by
        have := (List.getElem?_eq_some_iff.mp hd).1
        rw [List.length_map, List.length_range] at this
        omega
      rw [List.getElem?_map, List.getElem?_range (by omega)] at hd
      obtain rfl : D.int ((k : Int) + 1 + (m : Int)) = d := Option.some.inj hd
      have ej : (k : Int) + 1 + (m : Int) = ((k + 1 + m : Nat) : Int) := by omega
      rw [ej]
      have ej1 : ((k + 1 + m : Nat) : Int) - 1 = ((k + m : Nat) : Int) := by omega
      refine ⟨_, _, gv_name, d_setL rfl (e_max2 (e_ixO rfl (ev_v rfl) (ol_at (show k + 1 + m < r by omega))) (e_ixO rfl ((e_sub (ev_v rfl) ev_int).is (congrArg D.int ej1)) (ol_at (show k + m < r by omega)))) (ev_v rfl) (ol_ix (show k + 1 + m < r by omega)) ⟨.dat (.int ((k + 1 + m : Nat) : Int)), ?_⟩⟩
      rw [ol_set]
      have e1 : (ol r fun p => if p = k + 1 + m then max (bump k s (k + 1 + m)) (bump k s (k + m)) else bump k s p) = ol r (bump k s) := ol_congr fun p _ => by
        split
        · rename_i h
          subst h
          unfold bump
          split <;> split <;> omega
        · rfl
      rw [e1]
      rfl
    · rintro Γ1 ⟨s6, rfl⟩
      refine DS.settle (n := 4) rfl ?_
      have hb0 : L2.atI (ol r (bump k s)) 0 = some (.int (bump k s 0)) := ol_at (show 0 < r by omega)
      have hc : Fv (tLc (iList K (tVar 4)) (gName 8) tYes (tCB rMin2 (tCons (tVar 8) (tCons (tOp xAdd (tOp (rIxL K) (tVar 4) (tC (.int 0))) (tVar 1)) tNil))) [8]) [.tin (n + 3), .dat (.int r), .dat (.int s), .dat (.int kd), .dat (.lst (ol r (bump k s))), .dat (.int k), s6, .un, .un, .un] ((List.range r).map fun p => D.int (min (bump k s p) (bump k s 0 + r))) :=
        fv_lc1 (as := List.range r) (c := fun p => D.int (bump k s p)) (iv_list (ev_v rfl)) (by rw [List.length_range]; omega) fun a ha => ⟨_, _, gv_name, by simp, e_min2 (ev_v rfl) (e_add (e_ixL (ev_v rfl) ev_int hb0) (ev_v rfl))⟩
      refine d_ret (e_tupleL hc.ev) ⟨⟨r, (List.range r).map (bump k s), rfl, ?_, by rw [List.length_map, List.length_range], wh_bump hk⟩, n + 3, by omega, rfl⟩
      show D.tup _ = D.tup _
      rw [List.map_map]
      refine congrArg D.tup (List.map_congr_left fun p hp => congrArg D.int ?_)
      have hp := List.mem_range.mp hp
      unfold bump
      split <;> split <;> omega
  · -- as drawn
    refine q_asgD (m := n + 3) (P := fun d => ∃ w : Int, d = .int w ∧ 0 < w ∧ w ≤ r + 1) (dv_if (t_test (e_gt (ev_v rfl) ev_int)) (fun _ => (dv_ev (e_add (ev_v rfl) ev_int) ⟨_, rfl, by omega, by omega⟩).more (by omega)) fun _ => dv_op (P := fun x => x = .int 1) (S := fun _ y => ∃ i, y = .int i ∧ 0 ≤ i ∧ i < (r : Int)) (dv_ev ev_int rfl) (fun x hx => dv_take (ev_v rfl) (by omega) (by omega) (by omega)) fun x y hx ⟨i, hy, i0, i1⟩ => by
      subst hx hy
      exact ⟨_, o_add, 1 + i, rfl, by omega, by omega⟩) ?_
    rintro d ⟨w, rfl, w0, w1⟩
    have hlr : (List.range r).length = r := List.length_range
    refine d_retD (m := n + 3 + (List.range r).length * 1) (P := fun d => ∃ ws : List Int, d = ti ws ∧ ws.length = r ∧ M.isWh ws = true) (dv_cb (Pl := fun ds => ∃ ws : List Int, ds = [li ws] ∧ ws.length = r ∧ M.isWh ws = true) (da_cons (P := fun d => ∃ ws : List Int, d = li ws ∧ ws.length = r ∧ M.isWh ws = true) (dv_cb (Pl := fun ds => ∃ ws : List Int, ds = [li ws] ∧ ws.length = r ∧ ∀ x ∈ ws, s ≤ x ∧ x < s + w) (da_cons (P := fun d => ∃ ws : List Int, d = li ws ∧ ws.length = r ∧ ∀ x ∈ ws, s ≤ x ∧ x < s + w)
      ((dv_lc (k := 1) (as := List.range r) (c := fun (i : Nat) => D.int (i : Int)) (P := fun x => ∃ i : Int, x = .int i ∧ s ≤ i ∧ i < s + w) lone_of (iv_rng1 (n := (r : Int)) (av_cons (ev_v rfl) av_nil) (by omega)) (by rw [hlr]; omega) fun i a ha => by
        have hi : i < r := by
          have := (List.getElem?_eq_some_iff.mp ha).1
          rwa [hlr] at this
        exact ⟨_, _, gv_name, by simp, lone_of, dv_op (P := fun x => x = .int s) (S := fun _ y => ∃ i, y = .int i ∧ 0 ≤ i ∧ i < w) (dv_ev (ev_v rfl) rfl) (fun x hx => dv_take (ev_v rfl) w0 (by omega) (by omega)) fun x y hx ⟨i, hy, i0, i1⟩ => by
          subst hx hy
          exact ⟨_, o_add, s + i, rfl, by omega, by omega⟩⟩).imp fun d ⟨es, e, l, p⟩ => by
        obtain ⟨ws, e2, q⟩ := ex_map p
        subst e2
        exact ⟨ws, e, by rw [List.length_map, hlr] at l; exact l, q⟩)
      (da_nil (Pl := fun ds => ds = []) rfl) fun x xs ⟨ws, e, l, p⟩ hxs => ⟨ws, by rw [e, hxs], l, p⟩) fun ds ⟨ws, e, l, p⟩ => ⟨_, by rw [e]; exact on_sortL (M.srt_perm ws) (M.srt_sorted ws), M.srt ws, rfl, by rw [(M.srt_perm ws).length_eq, l], wh_sorted (s := s) (w := w) (by rw [(M.srt_perm ws).length_eq]; omega) (M.srt_sorted ws) (by rw [(M.srt_perm ws).length_eq]; omega) fun x hx => p x ((M.srt_perm ws).mem_iff.mp hx)⟩)
      (da_nil (Pl := fun ds => ds = []) rfl) fun x xs ⟨ws, e, l, p⟩ hxs => ⟨ws, by rw [e, hxs], l, p⟩) fun ds ⟨ws, e, l, p⟩ => ⟨_, by rw [e]; exact on_tupL, ws, rfl, l, p⟩) fun d ⟨ws, e, l, p⟩ => ⟨⟨r, ws, rfl, e, l, p⟩, _, by rw [hlr]; omega, rfl⟩
def PreDisks (ds : List D) : Prop := ∃ r k : Nat, ds = [.int (r : Int), .int (k : Int)] ∧ 1 ≤ r ∧ r ≤ 10 ∧ k ≤ 10
def PostDisks (ds : List D) (d : D) : Prop := ∃ (r k : Nat) (ts : List (List Int)), ds = [.int (r : Int), .int (k : Int)] ∧ d = tt ts ∧ ts.length = k ∧ ∀ t ∈ ts, t.length = r ∧ M.isWh t = true
abbrev spDisks : Sp := spT 150 PreDisks PostDisks
theorem d_law_disks {ds : List D} {n : Nat} (h : PreDisks ds) (hn : n + 150 ≤ 1000000) : DS (t_law_disks K spDisk) (entT ["_law_tin", "_law_ring_so", "_law_many_so", "_law_lap"] n ds) (retT (n + 150) (PostDisks ds)) := by
  obtain ⟨r, k, rfl, r1, r2, hk⟩ := h
  refine d_retD (P := fun d => ∃ ts : List (List Int), d = tt ts ∧ ts.length = k ∧ ∀ t ∈ ts, t.length = r ∧ M.isWh t = true) (dv_cb (Pl := fun ds => ∃ es, ds = [.lst es] ∧ es.length = k ∧ ∀ x ∈ es, ∃ t, x = ti t ∧ t.length = r ∧ M.isWh t = true) (da_cons (P := fun d => ∃ es, d = .lst es ∧ es.length = k ∧ ∀ x ∈ es, ∃ t, x = ti t ∧ t.length = r ∧ M.isWh t = true)
    ((dv_lc (k := 15) (as := List.range k) (c := fun (i : Nat) => D.int (i : Int)) (P := fun x => ∃ t, x = ti t ∧ t.length = r ∧ M.isWh t = true) lone_of (iv_rng1 (n := (k : Int)) (av_cons (ev_v rfl) av_nil) (by omega)) (by rw [List.length_range]; omega) fun i a ha => by
      have hi : i < k := by
        have := (List.getElem?_eq_some_iff.mp ha).1
        rwa [List.length_range] at this
      exact ⟨_, _, gv_name, by simp, lone_of, dv_call (da_av (Pl := fun ds => ds = [.int (r : Int)]) (av_cons (ev_v rfl) av_nil) rfl) (fun ds e => ⟨r, e, r1, r2⟩) (by omega) fun ds d e ⟨r', t, e1, e2, v, l⟩ => by
        rw [e] at e1
        have : r' = r := by
          have := D.int.inj (List.cons.inj e1).1
          omega
        subst this
        exact ⟨t, e2, v, l⟩⟩).imp fun d ⟨es, e, l, p⟩ => ⟨es, e, by rw [l, List.length_range], p⟩)
    (da_nil (Pl := fun ds => ds = []) rfl) fun x xs ⟨es, e, l, p⟩ hxs => ⟨es, by rw [e, hxs], l, p⟩) fun ds ⟨es, e, l, p⟩ => by
      obtain ⟨fs, e2, q⟩ := ex_map p
      subst e2
      exact ⟨_, by rw [e]; exact on_tupL, fs, rfl, by rw [← l, List.length_map], q⟩) fun d ⟨fs, e, l, p⟩ => ⟨⟨r, k, fs, rfl, e, l, p⟩, _, by rw [List.length_range]; omega, rfl⟩
end DL
set_option Elab.async false
set_option linter.all false
set_option maxRecDepth 100000
set_option maxHeartbeats 2000000
namespace DL
open PySem L2 PyProof.Rows RZ
variable {K : PySem.W.Frag}

/-! ### things spoilt -/
theorem o_catT {xs ys : List D} (hl : xs.length + ys.length ≤ 100000) : Op2 (rCatA K) (.tup xs) (.tup ys) (.tup (xs ++ ys)) := fun Hs H vx vy s dx dy Q q => by
  cases dx with
  | @tup a vs _ h1 k1 =>
    cases dy with
    | @tup b ws _ h2 k2 =>
      refine ⟨a, b, vs, ws, rfl, rfl, SqT.of (s _ _ h1), SqT.of (s _ _ h2), by rw [k1.len, k2.len]; exact Nat.le_trans hl (by decide), fun e => ?_, fun _ e => ?_, fun _ _ p hp => ?_⟩
      · subst e; cases k1; exact q _ Hs H (.refl s) (.tup h2 k2)
      · subst e; cases k2; rw [List.append_nil] at q; exact q _ Hs H (.refl s) (.tup h1 k1)
      · exact q _ _ _ (Ext.new s hp) (.tup upd_same ((k1.app k2).mono (same_upd (s.free hp))))
theorem mem_cut {ds : List D} {lo hi : Option Int} {d : D} (h : d ∈ cutD ds lo hi) : d ∈ ds := List.mem_of_mem_drop (List.mem_of_mem_take h)
theorem len_cut (ds : List D) (lo hi : Option Int) : (cutD ds lo hi).length ≤ ds.length := by
  unfold cutD
  rw [List.length_take, List.length_drop]; omega
theorem sm_catT {n : Nat} {xs ys : List D} (h : xs.length + ys.length ≤ 100000) (h1 : ∀ d ∈ xs, Sm n d) (h2 : ∀ d ∈ ys, Sm n d) : Sm (n + 1) (.tup (xs ++ ys)) :=
  sm_tup (by rw [List.length_append]; exact h) fun d hd => by
    rcases List.mem_append.mp hd with h | h
    · exact h1 d h
    · exact h2 d h
theorem sm_tt {n : Nat} {ts : List (List Int)} (h : ts.length ≤ 100000) (k : ∀ t ∈ ts, t.length ≤ 100000) : Sm (n + 2) (tt ts) := sm_tup (by rw [List.length_map]; exact h) fun d hd => by
  obtain ⟨t, ht, rfl⟩ := List.mem_map.mp hd
  exact sm_ti (k t ht)
theorem sm_pair {n : Nat} {x y : D} (h : Sm n x) (k : Sm n y) : Sm (n + 1) (.tup [x, y]) := sm_tup (by show 2 ≤ 100000; decide) fun d hd => by
  rcases List.mem_cons.mp hd with rfl | hd
  · exact h
  · rw [List.mem_singleton.mp hd]; exact k
def PrePair (ds : List D) : Prop := ∃ (gs : List Int) (m : Int), ds = [.tup [ti gs, .int m]] ∧ 0 < gs.length ∧ gs.length ≤ 20000
def PostSm (_ : List D) (d : D) : Prop := Sm 3 d
abbrev spPair : Sp := spT 4 PrePair PostSm
/-- [1, -1] -/
theorem ev_pm {Γ : Gam} : Ev (tLst (tCons (tC (.int 1)) (tCons (tUn xNeg (tC (.int 1))) tNil))) Γ (.lst [.int 1, .int (-1)]) := Fv.ev (fv_lst (av_cons ev_int (av_cons (e_neg ev_int) av_nil)))
theorem of_pm {d : D} (h : d ∈ [D.int 1, D.int (-1)]) : ∃ i : Int, d = .int i ∧ (i = 1 ∨ i = -1) := by
  rcases List.mem_cons.mp h with rfl | h
  · exact ⟨1, rfl, .inl rfl⟩
  · exact ⟨-1, List.mem_singleton.mp h, .inr rfl⟩
theorem ints_sm {n : Nat} {ws : List Int} {lo hi : Option Int} : ∀ d ∈ cutD (ws.map D.int) lo hi, Sm n d := fun d hd => by
  obtain ⟨i, _, rfl⟩ := List.mem_map.mp (mem_cut hd)
  exact sm_int
theorem len_cutI (ws : List Int) (lo hi : Option Int) : (cutD (ws.map D.int) lo hi).length ≤ ws.length := by
  have := len_cut (ws.map D.int) lo hi
  rwa [List.length_map] at this
theorem d_law_spoilt_pair {ds : List D} {n : Nat} (h : PrePair ds) (hn : n + 4 ≤ 1000000) : DS (t_law_spoilt_pair K (spF R_finer) spOf spTake) (entT ["_law_tin", "_law_pair_so", "_law_disk_here", "_law_many_so", "_law_way_so", "_law_k", "_law_more_so"] n ds) (retT (n + 4) (PostSm ds)) := by
  obtain ⟨gs, m, rfl, hg, hl⟩ := h
  have sg : ∀ {k : Nat}, Sm (k + 1) (ti gs) := fun {k} => sm_ti (by omega)
  refine q_asgG (ev_v rfl) gv_t2 ?_
  refine q_parD (m := n + 2) (Pl := fun ds => ∃ i k, ds = [.int i, .int k] ∧ 0 ≤ k ∧ k < (gs.length : Int)) (da_cons (P := fun d => ∃ i, d = .int i) ((dv_take ev_int (by decide) (by decide) (by omega)).imp fun d ⟨i, e, _⟩ => ⟨i, e⟩) (da_cons (Pl := fun ds => ∃ k, ds = [.int k] ∧ 0 ≤ k ∧ k < (gs.length : Int)) (dv_take (e_lenM (ev_v rfl)) (by omega) (by omega) (by omega)) (da_nil (Pl := fun ds => ds = []) rfl) fun x xs ⟨k, e, b0, b1⟩ hxs => ⟨k, by rw [e, hxs], b0, b1⟩) fun x xs ⟨i, e⟩ ⟨b, e2, b0, b1⟩ => ⟨i, b, by rw [e, e2], b0, b1⟩) (fun ds ⟨i, b, e, _⟩ => ⟨_, _, e⟩) ?_
  rintro x y ⟨way, k, e, k0, k1⟩
  cases e
  refine q_when (t_test (e_lt (ev_v rfl) ev_int)) (fun _ => ?_) fun _ => q_when (t_test (e_eqI (ev_v rfl) ev_int)) (fun _ => ?_) fun _ => q_when (t_test (e_eqI (ev_v rfl) ev_int)) (fun _ => ?_) fun _ => ?_
  · refine q_asgD (m := n + 3) (P := fun d => ∃ i : Int, d = .int i) ((dv_of (Fv.ev (fv_lst (av_cons ev_int (av_cons (e_neg ev_int) (av_cons (e_lenM (ev_v rfl)) av_nil))))) (by simp) (by simp) (by omega)).imp fun d hd => ?_) ?_
    · rcases List.mem_cons.mp hd with rfl | hd
      · exact ⟨_, rfl⟩
      · rcases List.mem_cons.mp hd with rfl | hd
        · exact ⟨_, rfl⟩
        · exact ⟨_, List.mem_singleton.mp hd⟩
    · rintro d ⟨i, rfl⟩
      have l1 := len_cutI gs none (some k)
      have l2 := len_cutI gs (some (k + 1)) none
      refine d_ret (ev_tup (av_cons (e_catT (e_catT (e_sliceT (ev_v rfl) ov_none (ov_some (ev_v rfl))) (ev_tup (av_cons (e_add (e_ixI (ev_v rfl) (ev_v rfl) k0 k1) (ev_v rfl)) av_nil)) (by show _ + 1 ≤ _; omega)) (e_sliceT (ev_v rfl) (ov_some (e_add (ev_v rfl) ev_int)) ov_none) (by rw [List.length_append]; show _ + 1 + _ ≤ _; omega)) (av_cons (ev_v rfl) av_nil))) ⟨sm_pair (n := 2) (sm_catT (n := 1) (by rw [List.length_append]; show _ + 1 + _ ≤ _; omega) (fun d hd => ?_) ints_sm) sm_int, n + 3, by omega, rfl⟩
      rcases List.mem_append.mp hd with h | h
      · exact ints_sm d h
      · rw [List.mem_singleton.mp h]; exact sm_int
  · refine d_retD (m := n + 3) (P := Sm 3) (dv_tup (Pl := fun ds => ∃ i, ds = [ti gs, .int i]) (da_cons (P := fun d => d = ti gs) (Pr := fun ds => ∃ i, ds = [.int i]) (dv_ev (ev_v rfl) rfl) (da_cons (P := fun d => ∃ i, d = .int i) (Pr := fun ds => ds = []) (dv_op (P := fun x => x = .int m) (S := fun _ y => ∃ i, y = .int i) (dv_ev (ev_v rfl) rfl) (fun x hx => (dv_of ev_pm (by simp) (by simp) (by omega)).imp fun d hd => let ⟨i, e, _⟩ := of_pm hd; ⟨i, e⟩) fun x y hx ⟨i, hy⟩ => by
      subst hx hy
      exact ⟨_, o_add, _, rfl⟩) (da_nil rfl) fun x xs ⟨i, hx⟩ hxs => ⟨i, by rw [hx, hxs]⟩) fun x xs hx ⟨i, hxs⟩ => ⟨i, by rw [hx, hxs]⟩) fun ds ⟨i, e⟩ => ⟨by rw [e]; show 2 ≤ 100000; decide, by rw [e]; exact sm_pair sg sm_int⟩) fun d hd => ⟨hd, n + 3, by omega, rfl⟩
  · refine d_retD (m := n + 3) (P := Sm 3) ((dv_of (xs := [.lst [ti gs, .int m], .tup [li gs, .int m], .tup [ti gs, .bl true], .tup [ti gs], .non, ti gs]) (Fv.ev (fv_lst (av_cons (f_listT (ev_v rfl)).ev (av_cons (ev_tup (av_cons (f_listT (ev_v rfl)).ev (av_cons (ev_v rfl) av_nil))) (av_cons (ev_tup (av_cons (ev_v rfl) (av_cons ev_bl av_nil))) (av_cons (ev_tup (av_cons (ev_v rfl) av_nil)) (av_cons ev_non (av_cons (ev_v rfl) av_nil)))))))) (by simp) (by simp) (by omega)).imp fun d hd => ?_) fun d hd => ⟨hd, n + 3, by omega, rfl⟩
    rcases List.mem_cons.mp hd with rfl | hd
    · exact sm_lst (by show 2 ≤ 100000; decide) fun d hd => by
        rcases List.mem_cons.mp hd with rfl | hd
        · exact sg
        · rw [List.mem_singleton.mp hd]; exact sm_int
    rcases List.mem_cons.mp hd with rfl | hd
    · exact sm_pair (sm_li (by omega)) sm_int
    rcases List.mem_cons.mp hd with rfl | hd
    · exact sm_pair sg sm_bl
    rcases List.mem_cons.mp hd with rfl | hd
    · exact sm_tup (by show 1 ≤ 100000; decide) fun d hd => by rw [List.mem_singleton.mp hd]; exact sg
    rcases List.mem_cons.mp hd with rfl | hd
    · exact sm_non
    rw [List.mem_singleton.mp hd]; exact sg
  · exact d_ret (ev_tup (av_cons (e_c2 (ev_v rfl) ev_int ⟨gs, 2, rfl, by omega, by omega, rfl⟩) (av_cons (e_mul ev_int (ev_v rfl) (.inl (by decide))) av_nil))) ⟨sm_pair (sm_ti (by rw [fin_len]; omega)) sm_int, n + 2, by omega, rfl⟩

theorem nice_tups {es : List D} (h : ∀ o ∈ es, o.isTup = true) : Nice (.tup es) := fun fs e => by cases e; exact .inl h
theorem nice_tis {ts : List D} (h : ∀ o ∈ ts, ∃ t : List Int, o = ti t) : Nice (.tup ts) := nice_tups fun o ho => by obtain ⟨t, rfl⟩ := h o ho; rfl
theorem nice_no {x : D} (h : x.isTup = false) : Nice x := fun es e => by rw [e] at h; exact nomatch h
def PreTrain (ds : List D) : Prop := ∃ ts : List (List Int), ds = [tt ts] ∧ 0 < ts.length ∧ ts.length ≤ 100 ∧ ∀ t ∈ ts, 0 < t.length ∧ t.length ≤ 20000
def PostNice (_ : List D) (d : D) : Prop := Sm 3 d ∧ Nice d
abbrev spTrain : Sp := spT 4 PreTrain PostNice
theorem cut_tis {ts : List (List Int)} {lo hi : Option Int} : ∀ d ∈ cutD (ts.map ti) lo hi, ∃ t, d = ti t ∧ t ∈ ts := fun d hd => by
  obtain ⟨t, ht, rfl⟩ := List.mem_map.mp (mem_cut hd)
  exact ⟨t, rfl, ht⟩
theorem len_cutT (ts : List (List Int)) (lo hi : Option Int) : (cutD (ts.map ti) lo hi).length ≤ ts.length := by
  have := len_cut (ts.map ti) lo hi
  rwa [List.length_map] at this
theorem d_law_spoilt_train {ds : List D} {n : Nat} (h : PreTrain ds) (hn : n + 4 ≤ 1000000) : DS (t_law_spoilt_train K (spF R_finer) spOf spTake) (entT ["_law_tin", "_law_train_so", "_law_way_so", "_law_k", "_law_disk_here", "_law_j", "_law_own"] n ds) (retT (n + 4) (PostNice ds)) := by
  obtain ⟨ts, rfl, hp, hl, hi⟩ := h
  have sT : ∀ {k : Nat} {lo hi : Option Int}, ∀ d ∈ cutD (ts.map ti) lo hi, Sm (k + 1) d := fun {k lo hi'} d hd => by
    obtain ⟨t, rfl, ht⟩ := cut_tis d hd
    exact sm_ti (by have := hi t ht; omega)
  have iT : ∀ {lo hi : Option Int}, ∀ d ∈ cutD (ts.map ti) lo hi, d.isTup = true := fun {lo hi'} d hd => by
    obtain ⟨t, rfl, ht⟩ := cut_tis d hd
    rfl
  refine q_parD (m := n + 2) (Pl := fun ds => ∃ i k, ds = [.int i, .int k] ∧ 0 ≤ k ∧ k < (ts.length : Int)) (da_cons (P := fun d => ∃ i, d = .int i) ((dv_take ev_int (by decide) (by decide) (by omega)).imp fun d ⟨i, e, _⟩ => ⟨i, e⟩) (da_cons (Pl := fun ds => ∃ k, ds = [.int k] ∧ 0 ≤ k ∧ k < (ts.length : Int)) (dv_take (e_lenM (ev_v rfl)) (by omega) (by omega) (by omega)) (da_nil (Pl := fun ds => ds = []) rfl) fun x xs ⟨k, e, b0, b1⟩ hxs => ⟨k, by rw [e, hxs], b0, b1⟩) fun x xs ⟨i, e⟩ ⟨b, e2, b0, b1⟩ => ⟨i, b, by rw [e, e2], b0, b1⟩) (fun ds ⟨i, b, e, _⟩ => ⟨_, _, e⟩) ?_
  rintro x y ⟨way, k, e, k0, k1⟩
  cases e
  obtain ⟨t, ht⟩ : ∃ t, ts[k.toNat]? = some t := ⟨_, List.getElem?_eq_getElem (show k.toNat < ts.length by omega)⟩
  obtain ⟨t0, t1⟩ := hi t (List.mem_of_getElem? ht)
  have a1 := len_cutT ts none (some k)
  have a2 := len_cutT ts (some (k + 1)) none
  have a3 := len_cutT ts none (some (k + 1))
  refine q_when (t_test (e_lt (ev_v rfl) ev_int)) (fun _ => ?_) fun _ => q_when (t_test (e_eqI (ev_v rfl) ev_int)) (fun _ => ?_) fun _ => q_when (t_test (e_eqI (ev_v rfl) ev_int)) (fun _ => ?_) fun _ => q_when (t_test (e_eqI (ev_v rfl) ev_int)) (fun _ => ?_) fun _ => ?_
  · refine q_asg (e_ixM (ev_v rfl) (ev_v rfl) (atI_pos k0 ht)) ?_
    refine q_asgD (m := n + 3) (dv_take (e_lenM (ev_v rfl)) (by omega) (by omega) (by omega)) ?_
    rintro d ⟨j, rfl, j0, j1⟩
    have l1 := len_cutI t none (some j)
    have l2 := len_cutI t (some (j + 1)) none
    refine d_retD (m := n + 4) (P := fun d => ∃ i : Int, d = .tup (cutD (ts.map ti) none (some k) ++ [.tup (cutD (t.map D.int) none (some j) ++ [.int i] ++ cutD (t.map D.int) (some (j + 1)) none)] ++ cutD (ts.map ti) (some (k + 1)) none)) ?_ fun d hd => ?_
    · refine dv_op (P := fun x => ∃ i : Int, x = .tup (cutD (ts.map ti) none (some k) ++ [.tup (cutD (t.map D.int) none (some j) ++ [.int i] ++ cutD (t.map D.int) (some (j + 1)) none)])) (S := fun _ y => y = .tup (cutD (ts.map ti) (some (k + 1)) none)) ?_ (fun x hx => dv_ev (e_sliceT (ev_v rfl) (ov_some (e_add (ev_v rfl) ev_int)) ov_none) rfl) fun x y ⟨i, hx⟩ hy => by
        subst hx hy
        exact ⟨_, o_catT (by rw [List.length_append]; show _ + 1 + _ ≤ _; omega), i, rfl⟩
      refine dv_op (P := fun x => x = .tup (cutD (ts.map ti) none (some k))) (S := fun _ y => ∃ i : Int, y = .tup [.tup (cutD (t.map D.int) none (some j) ++ [.int i] ++ cutD (t.map D.int) (some (j + 1)) none)]) (dv_ev (e_sliceT (ev_v rfl) ov_none (ov_some (ev_v rfl))) rfl) (fun x hx => ?_) fun x y hx ⟨i, hy⟩ => by
        subst hx hy
        exact ⟨_, o_catT (by show _ + 1 ≤ _; omega), i, rfl⟩
      refine dv_tup (Pl := fun ds => ∃ i : Int, ds = [.tup (cutD (t.map D.int) none (some j) ++ [.int i] ++ cutD (t.map D.int) (some (j + 1)) none)]) (da_cons (P := fun d => ∃ i : Int, d = .tup (cutD (t.map D.int) none (some j) ++ [.int i] ++ cutD (t.map D.int) (some (j + 1)) none)) (Pr := fun ds => ds = []) ?_ (da_nil rfl) fun x xs ⟨i, hx⟩ hxs => ⟨i, by rw [hx, hxs]⟩) fun ds ⟨i, e⟩ => ⟨by rw [e]; show 1 ≤ 100000; decide, i, by rw [e]⟩
      refine dv_op (P := fun x => ∃ i : Int, x = .tup (cutD (t.map D.int) none (some j) ++ [.int i])) (S := fun _ y => y = .tup (cutD (t.map D.int) (some (j + 1)) none)) ?_ (fun x hx => dv_ev (e_sliceT (ev_v rfl) (ov_some (e_add (ev_v rfl) ev_int)) ov_none) rfl) fun x y ⟨i, hx⟩ hy => by
        subst hx hy
        exact ⟨_, o_catT (by rw [List.length_append]; show _ + 1 + _ ≤ _; omega), i, rfl⟩
      refine dv_op (P := fun x => x = .tup (cutD (t.map D.int) none (some j))) (S := fun _ y => ∃ i : Int, y = .tup [.int i]) (dv_ev (e_sliceT (ev_v rfl) ov_none (ov_some (ev_v rfl))) rfl) (fun x hx => ?_) fun x y hx ⟨i, hy⟩ => by
        subst hx hy
        exact ⟨_, o_catT (by show _ + 1 ≤ _; omega), i, rfl⟩
      refine dv_tup (Pl := fun ds => ∃ i : Int, ds = [.int i]) (da_cons (P := fun d => ∃ i : Int, d = .int i) (Pr := fun ds => ds = []) ?_ (da_nil rfl) fun x xs ⟨i, hx⟩ hxs => ⟨i, by rw [hx, hxs]⟩) fun ds ⟨i, e⟩ => ⟨by rw [e]; show 1 ≤ 100000; decide, i, by rw [e]⟩
      exact dv_op (P := fun x => x = .int (t.getD j.toNat 0)) (S := fun _ y => ∃ i : Int, y = .int i) (dv_ev (e_ixI (ev_v rfl) (ev_v rfl) j0 j1) rfl) (fun x hx => (dv_of ev_pm (by simp) (by simp) (by omega)).imp fun d hd => let ⟨i, e, _⟩ := of_pm hd; ⟨i, e⟩) fun x y hx ⟨i, hy⟩ => by
        subst hx hy
        exact ⟨_, o_add, _, rfl⟩
    · obtain ⟨i, rfl⟩ := hd
      refine ⟨⟨sm_catT (n := 2) (by rw [List.length_append]; show _ + 1 + _ ≤ _; omega) (fun d hd => ?_) sT, nice_tups fun o ho => ?_⟩, n + 4, Nat.le_refl _, rfl⟩
      · rcases List.mem_append.mp hd with h | h
        · exact sT d h
        · rw [List.mem_singleton.mp h]
          exact sm_catT (n := 1) (by rw [List.length_append]; show _ + 1 + _ ≤ _; omega) (fun d hd => by
            rcases List.mem_append.mp hd with h | h
            · exact ints_sm d h
            · rw [List.mem_singleton.mp h]; exact sm_int) ints_sm
      · rcases List.mem_append.mp ho with h | h
        · rcases List.mem_append.mp h with h | h
          · exact iT o h
          · rw [List.mem_singleton.mp h]; rfl
        · exact iT o h
  · refine d_ret (e_catT (e_sliceT (ev_v rfl) (ov_some (e_add (ev_v rfl) ev_int)) ov_none) (e_sliceT (ev_v rfl) ov_none (ov_some (e_add (ev_v rfl) ev_int))) (by omega)) ⟨⟨sm_catT (n := 2) (by omega) sT sT, nice_tups fun o ho => ?_⟩, n + 2, by omega, rfl⟩
    rcases List.mem_append.mp ho with h | h <;> exact iT o h
  · refine d_ret (e_catT (e_sliceT (ev_v rfl) ov_none (ov_some (ev_v rfl))) (e_sliceT (ev_v rfl) (ov_some (e_add (ev_v rfl) ev_int)) ov_none) (by omega)) ⟨⟨sm_catT (n := 2) (by omega) sT sT, nice_tups fun o ho => ?_⟩, n + 2, by omega, rfl⟩
    rcases List.mem_append.mp ho with h | h <;> exact iT o h
  · have hc : Fv (tLc (iTup K (tVar 1)) (gName 6) tYes (tCall (spF R_finer) [] E0 (tCons (tVar 6) (tCons (tC (.int 2)) tNil))) [6]) [.tin (n + 2), .dat (tt ts), .dat (.int way), .dat (.int k), .un, .un, .un] (ts.map fun t => ti (fin t 2)) :=
      fv_lc1 (c := ti) (iv_tup (ev_v rfl)) (by omega) fun a ha => ⟨_, _, gv_name, by simp, e_c2 (ev_v rfl) ev_int ⟨a, 2, rfl, by have := hi a ha; omega, by omega, rfl⟩⟩
    have e : (ts.map fun t => ti (fin t 2)) = (ts.map fun t => fin t 2).map ti := by rw [List.map_map]; rfl
    refine d_ret (e_tupleL (hc.is e).ev) ⟨⟨sm_tt (by rw [List.length_map]; omega) fun u hu => ?_, nice_tis fun o ho => ?_⟩, n + 2, by omega, rfl⟩
    · obtain ⟨a, ha, rfl⟩ := List.mem_map.mp hu
      rw [fin_len]
      have := hi a ha; omega
    · obtain ⟨u, _, rfl⟩ := List.mem_map.mp ho
      exact ⟨u, rfl⟩
  · obtain ⟨t', r, rfl⟩ : ∃ t' r, ts = t' :: r := by
      cases ts with
      | nil => exact absurd hp (by decide)
      | cons a b => exact ⟨a, b, rfl⟩
    have a4 := len_cutT (t' :: r) none (some 1)
    refine d_retD (m := n + 3) (P := fun d => Sm 3 d ∧ Nice d) ((dv_of (xs := [.lst ((t' :: r).map ti), .tup ((t' :: r).map ti ++ cutD ((t' :: r).map ti) none (some 1)), ti t', .tup [], .non]) (Fv.ev (fv_lst (av_cons (f_listT (ev_v rfl)).ev (av_cons (e_catT (ev_v rfl) (e_sliceT (ev_v rfl) ov_none (ov_some ev_int)) (by rw [List.length_map]; omega)) (av_cons (e_ixT (ev_v rfl) ev_int (atI_pos (a := ti t') (by decide) rfl)) (av_cons (ev_tup av_nil) (av_cons ev_non av_nil))))))) (by simp) (by simp) (by omega)).imp fun d hd => ?_) fun d hd => ⟨hd, n + 3, by omega, rfl⟩
    have sm1 : ∀ d ∈ (t' :: r).map ti, Sm 2 d := fun d hd => by
      obtain ⟨u, hu, rfl⟩ := List.mem_map.mp hd
      exact sm_ti (by have := hi u hu; omega)
    rcases List.mem_cons.mp hd with rfl | hd
    · exact ⟨sm_lst (by rw [List.length_map]; omega) sm1, nice_no rfl⟩
    rcases List.mem_cons.mp hd with rfl | hd
    · refine ⟨sm_catT (by rw [List.length_map]; omega) sm1 sT, nice_tups fun o ho => ?_⟩
      rcases List.mem_append.mp ho with h | h
      · obtain ⟨u, _, rfl⟩ := List.mem_map.mp h
        rfl
      · exact iT o h
    rcases List.mem_cons.mp hd with rfl | hd
    · refine ⟨sm_ti (by have := hi t' List.mem_cons_self; omega), fun es e => .inr fun o ho => ?_⟩
      cases e
      obtain ⟨i, _, rfl⟩ := List.mem_map.mp ho
      rfl
    rcases List.mem_cons.mp hd with rfl | hd
    · exact ⟨sm_tup (by decide) (fun d h => by cases h), fun es e => .inl (fun o ho => by cases e; cases ho)⟩
    rw [List.mem_singleton.mp hd]
    exact ⟨sm_non, nice_no rfl⟩
end DL
set_option Elab.async false
set_option linter.all false
set_option maxRecDepth 100000
set_option maxHeartbeats 2000000
namespace DL
open PySem L2 PyProof.Rows RZ
variable {K : PySem.W.Frag}

/-! ### the same -/
/-- bools, lists of such .., n levels -/
def Bt : Nat → D → Prop
  | _, .bl _ => True
  | n + 1, .lst ds => ds.length ≤ 100000 ∧ ∀ d ∈ ds, Bt n d
  | _, _ => False
def R_same (n : Nat) (ds : List D) (d : D) : Prop := ∃ x, ds = [x, x] ∧ Bt n x ∧ d = .bl true
theorem zipD_self (es : List D) : zipD es es = (List.range es.length).map fun (i : Nat) => D.tup [es.getD i .non, es.getD i .non] := by
  unfold zipD
  rw [Nat.min_self]
theorem d_law_same {n : Nat} {ds : List D} {d : D} {R : List D → D → Prop} (hR : ∀ m x, m + 1 = n → Bt m x → R [x, x] (.bl true)) (h : R_same n ds d) : DS (t_law_same K (spF R)) (ent ["_law_got", "_law_due", "_law_mine", "_law_its"] ds) (retO d) := by
  obtain ⟨x, rfl, hx, rfl⟩ := h
  cases x with
  | bl b =>
    refine q_when (t_B (e_isi2 (ev_v rfl) (k_lst _) (k_tup _))) (fun z => nomatch z) fun _ => ?_
    refine q_when (t_or (t_test (e_isN (ev_v rfl))) fun _ => t_B (e_isi2 (ev_v rfl) (k_bool _) (k_str _))) (fun _ => ?_) fun z => nomatch z
    refine d_ret (e_and (e_eqB (ev_v rfl) (ev_v rfl)) fun _ => e_and (e_eqB (e_isi (ev_v rfl) (k_bool _)) (e_isi (ev_v rfl) (k_bool _))) fun _ => e_eqB (e_isN (ev_v rfl)) (e_isN (ev_v rfl))) ?_
    rw [beq_self_eq_true]; rfl
  | lst es =>
    cases n with
    | zero => exact hx.elim
    | succ m =>
      obtain ⟨hl, hi⟩ := hx
      refine q_when (t_B (e_isi2 (ev_v rfl) (k_lst _) (k_tup _))) (fun _ => ?_) fun z => nomatch z
      refine q_when (t_or (t_test (e_neB (e_isi (ev_v rfl) (k_lst _)) (e_isi (ev_v rfl) (k_lst _)))) fun _ => t_test (e_neB (e_isi (ev_v rfl) (k_tup _)) (e_isi (ev_v rfl) (k_tup _)))) (fun z => nomatch z) fun _ => ?_
      refine d_ret (e_and (e_eqI (e_lenL (ev_v rfl)) (e_lenL (ev_v rfl))) fun _ => fv_all (as := List.range es.length) (f := fun _ => true) (fv_lc1 (c := fun (i : Nat) => D.tup [es.getD i .non, es.getD i .non]) (by rw [← zipD_self]; exact iv_zipL (av_cons (ev_v rfl) (av_cons (ev_v rfl) av_nil))) (by rw [List.length_range]; exact hl) fun a ha => ⟨_, _, gv_t2, by simp, e_c2 (ev_v rfl) (ev_v rfl) (hR m _ rfl (hi _ (getD_mem (List.mem_range.mp ha))))⟩)) ?_
      rw [all_true, decide_eq_true rfl]; rfl
  | non => cases n <;> exact hx.elim
  | int b => cases n <;> exact hx.elim
  | tup b => cases n <;> exact hx.elim
theorem bt_bls {α : Type} {n : Nat} {as : List α} {f : α → Bool} (h : as.length ≤ 100000) : Bt (n + 1) (.lst (as.map fun a => D.bl (f a))) := ⟨by rw [List.length_map]; exact h, fun d hd => by
  obtain ⟨a, _, rfl⟩ := List.mem_map.mp hd
  cases n <;> trivial⟩
theorem bt_bl {n : Nat} {b : Bool} : Bt n (.bl b) := by cases n <;> trivial

/-! ### pairs -/
theorem o_catL {xs ys : List D} (hl : xs.length + ys.length ≤ 100000) : Op2 rCat (.lst xs) (.lst ys) (.lst (xs ++ ys)) := fun Hs H vx vy s dx dy Q q => by
  cases dx with
  | @lst a vs _ h1 k1 =>
    cases dy with
    | @lst b ws _ h2 k2 =>
      exact ⟨a, b, vs, ws, rfl, rfl, s _ _ h1, s _ _ h2, by rw [k1.len, k2.len]; exact Nat.le_trans hl (by decide), fun p hp => q _ _ _ (Ext.new s hp) (.lst upd_same ((k1.app k2).mono (same_upd (s.free hp))))⟩
theorem mir_len (ws : List Int) : (mir ws).length = ws.length := by unfold mir; rw [List.length_map, List.length_range]
theorem vf_trn {ws : List Int} (h : M.isWh ws = true) (hl : ws.length ≤ 2000) : Vf (M.trn ws) := by
  obtain ⟨a, b, c⟩ := M.trn_ok h
  exact ⟨a, by omega, c⟩
theorem fits_own {ws gs : List Int} {f : Int × Int} {m : Int} {way : Int} : fits ws f (.tup [ti gs, .int m]) way = (decide (1 ≤ m) && M.isWh gs && decide ((gs.length : Int) = m * ws.length) && decide (M.trn gs = f) && (List.range ws.length).all fun z => decide (way * m * ws.getD z 0 ≤ way * M.led gs (m * (z : Int)))) := by
  show (decide (1 ≤ m) && wheelD (ti gs) && decide ((lenD (ti gs) : Int) = m * ws.length) && decide (M.trn (wsOf (ti gs)) = f) && (List.range ws.length).all fun z => decide (way * m * ws.getD z 0 ≤ way * M.led (wsOf (ti gs)) (m * (z : Int)))) = _
  rw [wheelD_ti, lenD_ti, wsOf_ti]
theorem raised_fits {ws : List Int} (h : M.isWh ws = true) {p : Int} {q : Nat} (hq : 0 < q) (hc : Nat.gcd p.natAbs q = 1) (hle : (M.trn ws).1 * q ≤ p * (M.trn ws).2) : fits ws (p, (q : Int)) (.tup [ti (M.rsd ws p q), .int q]) 1 = true := by
  obtain ⟨a, b, c⟩ := M.rsd_ok h hq hc hle
  rw [fits_own, a, decide_eq_true (show (1 : Int) ≤ q by omega), decide_eq_true b, decide_eq_true (show ((M.rsd ws p q).length : Int) = (q : Int) * ws.length by rw [M.rsd_len, Int.natCast_mul, Int.mul_comm]), Bool.true_and, Bool.true_and, Bool.true_and, Bool.true_and, List.all_eq_true]
  intro z hz
  have := c z (List.mem_range.mp hz)
  exact decide_eq_true (by rw [Int.one_mul, Int.one_mul]; exact this)
theorem no_fits {ws gs : List Int} (h : M.isWh ws = true) {f : Int × Int} {m : Int} (hlt : f.1 * (M.trn ws).2 < (M.trn ws).1 * f.2) : fits ws f (.tup [ti gs, .int m]) 1 = false := by
  refine Bool.eq_false_iff.mpr fun e => ?_
  rw [fits_own, Bool.and_eq_true, Bool.and_eq_true, Bool.and_eq_true, Bool.and_eq_true, decide_eq_true_eq, decide_eq_true_eq, decide_eq_true_eq, List.all_eq_true] at e
  obtain ⟨⟨⟨⟨m1, hg⟩, hl⟩, ht⟩, hall⟩ := e
  obtain ⟨k, rfl⟩ := Int.eq_ofNat_of_zero_le (show 0 ≤ m by omega)
  have := M.no_less h hg (m := k) (by rw [← Int.natCast_mul] at hl; exact Int.ofNat_inj.mp hl) fun z hz => by
    have := of_decide_eq_true (hall z (List.mem_range.mpr hz))
    rw [Int.one_mul, Int.one_mul] at this
    exact this
  rw [ht] at this
  omega
def PreNil (ds : List D) : Prop := ds = []
def PostTrue (_ : List D) (d : D) : Prop := d = .bl true
abbrev spPairsR : Sp := spT 40 PreNil PostTrue
theorem d_law_pairs_right {ds : List D} {n : Nat} (h : PreNil ds) (hn : n + 40 ≤ 1000000) : DS (t_law_pairs_right K spDisk (spF R_is_more) (spF R_is_moved) (spF R_less) (spF R_mirror) spNear (spF R_raised) (spF (R_same 4)) (spF R_turning_in) spPair spTake (spF (R_moved (-1))) (spF (R_moved 1)))
    (entT ["_law_tin", "_law_disk_here", "_law_turns_so", "_law_frac_so", "_law_way_so", "_law_own", "_law_things_so", "_law_got", "_law_due", "_law_lap", "_law_its"] n ds) (retT (n + 40) (PostTrue ds)) := by
  have h : ds = [] := h
  subst h
  refine q_asgD (m := n + 1 + 15) (P := fun d => ∃ ws : List Int, d = ti ws ∧ M.isWh ws = true ∧ ws.length ≤ 6) (dv_call (Pl := fun ds => ∃ r : Nat, ds = [.int (r : Int)] ∧ 1 ≤ r ∧ r ≤ 6) (da_cons (P := fun d => ∃ r : Nat, d = .int (r : Int) ∧ 1 ≤ r ∧ r ≤ 6) (Pr := fun ds => ds = []) (dv_op (P := fun x => x = .int 1) (S := fun _ y => ∃ i, y = .int i ∧ 0 ≤ i ∧ i < 6) (dv_ev ev_int rfl) (fun x hx => dv_take ev_int (by decide) (by decide) (by omega)) fun x y hx ⟨i, hy, i0, i1⟩ => by
    subst hx hy
    exact ⟨_, o_add, (1 + i).toNat, by rw [Int.toNat_of_nonneg (by omega)], by omega, by omega⟩) (da_nil rfl) fun x xs ⟨r, hx, r1, r2⟩ hxs => ⟨r, by rw [hx, hxs], r1, r2⟩) (fun ds ⟨r, e, r1, r2⟩ => ⟨r, e, r1, by omega⟩) (by omega) fun ds d ⟨r, e, r1, r2⟩ ⟨r', ws, e1, e2, l, w⟩ => ⟨ws, e2, w, by
      rw [e] at e1
      have := D.int.inj (List.cons.inj e1).1
      omega⟩) ?_
  rintro d ⟨ws, rfl, hw, hl6⟩
  have hN := M.isWh_pos hw
  have hv := vf_trn hw (by omega)
  have h26 : (M.trn ws).2 ≤ 6 := by have := (M.trn_ok hw).2.1; omega
  refine q_asg (e_c1 (ev_v rfl) ⟨ws, rfl, hw, by omega, rfl⟩) ?_
  refine q_asgGD (m := n + 1 + 15 + 3) (P := fun d => ∃ f, d = .tup [fr f, .int 1] ∧ Vf f ∧ f.2 ≤ 6) (dv_tup (Pl := fun ds => ∃ f, ds = [fr f, .int 1] ∧ Vf f ∧ f.2 ≤ 6) (da_cons (P := fun d => ∃ f, d = fr f ∧ Vf f ∧ f.2 ≤ 6) (Pr := fun ds => ds = [.int 1]) (dv_call (da_av (Pl := fun ds => ds = [fr (M.trn ws)]) (av_cons (ev_v rfl) av_nil) rfl) (fun ds e => ⟨_, e, hv, h26⟩) (by omega) fun ds d _ h => h) (da_av (av_cons ev_int av_nil) rfl) fun x xs ⟨f, hx, v, l⟩ hxs => ⟨f, by rw [hx, hxs], v, l⟩) fun ds ⟨f, e, v, l⟩ => ⟨by rw [e]; show 2 ≤ 100000; decide, f, by rw [e], v, l⟩) ?_
  rintro d ⟨f, rfl, hf, hf6⟩
  refine ⟨_, _, gv_t2, ?_⟩
  obtain ⟨p, q', hq⟩ : ∃ p q, f = (p, q) := ⟨f.1, f.2, rfl⟩
  subst hq
  have hq0 : 0 < q' := hf.p
  have hq6 : q' ≤ 6 := hf6
  obtain ⟨q, rfl⟩ := Int.eq_ofNat_of_zero_le (Int.le_of_lt hq0)
  have hqn : 0 < q := by omega
  have hcop : Nat.gcd p.natAbs q = 1 := hf.c
  have hNq : ws.length * q ≤ 36 := Nat.le_trans (Nat.mul_le_mul hl6 (show q ≤ 6 by omega)) (by decide)
  have hNq0 : 0 < ws.length * q := Nat.mul_pos hN hqn
  show DS (tSeq _ _) [.tin (n + 1 + 15 + 3), .dat (ti ws), .dat (fr (M.trn ws)), .dat (fr (p, (q : Int))), .dat (.int 1), .un, .un, .un, .un, .un, .un] _
  refine d_seq (d_mono (O := { nx := fun Γ' => ∃ (gs : List Int) (wv : Int), Γ' = [.tin (n + 1 + 15 + 3), .dat (ti ws), .dat (fr (M.trn ws)), .dat (fr (p, (q : Int))), .dat (.int wv), .dat (.tup [ti gs, .int q]), .un, .un, .un, .un, .un] ∧ gs.length = ws.length * q ∧ fits ws (p, (q : Int)) (.tup [ti gs, .int q]) 1 = (decide (0 < wv) || decide ((p, (q : Int)) = M.trn ws)), rt := fun _ _ => False, bk := fun _ => False, ct := fun _ => False }) (d_if (t_B (e_c2 (ev_v rfl) (ev_v rfl) ⟨_, _, rfl, hv, hf, rfl⟩)) (fun z => ?_) fun z => ?_) ?_ (fun _ _ h => h.elim) (fun _ h => h.elim) (fun _ h => h.elim))
  · -- less is asked
    have z := of_decide_eq_true z
    refine d_asgG (ev_tup (av_cons (ev_tup (av_cons (e_c1 (e_c2 (e_c1 (ev_v rfl) ⟨ws, rfl, hN, by omega, rfl⟩) (e_c1 (ev_v rfl) ⟨_, rfl, rfl⟩) ⟨mir ws, -p, q, rfl, by rw [mir_len]; exact hN, hqn, by rw [mir_len]; omega, rfl⟩) ⟨_, rfl, by rw [M.rsd_len, mir_len]; exact hNq0, by rw [M.rsd_len, mir_len]; omega, rfl⟩) (av_cons (e_fr1 (ev_v rfl)) av_nil))) (av_cons (e_neg ev_int) av_nil))) (gv_tup rfl (gvs_cons gv_name (gvs_cons gv_name gvs_nil))) ⟨mir (M.rsd (mir ws) (-p) q), -1, rfl, by rw [mir_len, M.rsd_len, mir_len], ?_⟩
    rw [no_fits hw z]
    have ne : ¬ (p, (q : Int)) = M.trn ws := fun e => by
      rw [← e] at z
      omega
    rw [decide_eq_false ne]; rfl
  · have z := of_decide_eq_false z
    refine d_asg (ev_tup (av_cons (e_c2 (ev_v rfl) (ev_v rfl) ⟨ws, p, q, rfl, hN, hqn, by omega, rfl⟩) (av_cons (e_fr1 (ev_v rfl)) av_nil))) ⟨M.rsd ws p q, 1, rfl, M.rsd_len ws p q, ?_⟩
    rw [raised_fits hw hqn hcop (by
      have : ¬ p * (M.trn ws).2 < (M.trn ws).1 * (q : Int) := z
      omega)]
    rfl
  · rintro Γ' ⟨gs, wv, rfl, hgl, htruth⟩
    have hlr : (List.range 4).length = 4 := rfl
    refine q_asgD (m := n + 1 + 15 + 3 + (List.range 4).length * 4) (P := fun d => ∃ es : List D, d = .lst ([.tup [ti gs, .int q], .tup [ti ws, .int 1]] ++ es) ∧ es.length = 4 ∧ ∀ x ∈ es, Sm 3 x) (dv_op (P := fun x => x = .lst [.tup [ti gs, .int q], .tup [ti ws, .int 1]]) (S := fun _ y => ∃ es, y = .lst es ∧ es.length = (List.range 4).length ∧ ∀ x ∈ es, Sm 3 x) (dv_ev (Fv.ev (fv_lst (av_cons (ev_v rfl) (av_cons (ev_tup (av_cons (ev_v rfl) (av_cons ev_int av_nil))) av_nil)))) rfl)
      (fun x hx => dv_lc (k := 4) (as := List.range 4) (c := fun (i : Nat) => D.int (i : Int)) (P := Sm 3) lone_of (iv_rng1 (n := (4 : Int)) (av_cons ev_int av_nil) (by decide)) (by decide) fun i a ha => by
        have hi : i < 4 := by
          have := (List.getElem?_eq_some_iff.mp ha).1
          rwa [hlr] at this
        exact ⟨_, _, gv_name, by simp, lone_of, dv_call (da_av (Pl := fun ds => ds = [.tup [ti gs, .int q]]) (av_cons (ev_v rfl) av_nil) rfl) (fun ds e => ⟨gs, q, e, by omega, by omega⟩) (by omega) fun ds d _ h => h⟩) fun x y hx ⟨es, hy, l, p⟩ => by
      subst hx hy
      exact ⟨_, o_catL (by rw [l]; show 2 + 4 ≤ 100000; decide), es, rfl, l, p⟩) ?_
    rintro d ⟨es, rfl, hes, hsm⟩
    have hx6 : ([.tup [ti gs, .int q], .tup [ti ws, .int 1]] ++ es : List D).length ≤ 100000 := by rw [List.length_append, hes]; show 2 + 4 ≤ 100000; decide
    have hxs : ∀ x ∈ ([.tup [ti gs, .int q], .tup [ti ws, .int 1]] ++ es : List D), Sm 3 x := fun x hx => by
      rcases List.mem_append.mp hx with h | h
      · rcases List.mem_cons.mp h with rfl | h
        · exact sm_pair (sm_ti (by omega)) sm_int
        · rw [List.mem_singleton.mp h]
          exact sm_pair (sm_ti (by omega)) sm_int
      · exact hsm x h
    have hhead : ([.tup [ti gs, .int q], .tup [ti ws, .int 1]] ++ es : List D) = .tup [ti gs, .int q] :: (.tup [ti ws, .int 1] :: es) := rfl
    have h0 : L2.atI (([.tup [ti gs, .int q], .tup [ti ws, .int 1]] ++ es : List D).map fun x => D.bl (fits ws (p, (q : Int)) x 1)) 0 = some (.bl (fits ws (p, (q : Int)) (.tup [ti gs, .int q]) 1)) := atI_pos (by decide) rfl
    generalize ([.tup [ti gs, .int q], .tup [ti ws, .int 1]] ++ es : List D) = xs at hx6 hxs h0
    have c1 : ∀ {sp : Sp} {tw : TE} {Γ : Gam}, Γ[6]? = some (.dat (.lst xs)) → (∀ x ∈ xs, ∃ Γ', Gv (gName 10) [10] (wipeE Γ [10]) x Γ' ∧ Ev tw Γ' (.bl (fits ws (p, (q : Int)) x 1))) → Fv (tLc (iList K (tVar 6)) (gName 10) tYes tw [10]) Γ (xs.map fun x => D.bl (fits ws (p, (q : Int)) x 1)) := fun {sp tw Γ} h6 hb =>
      fv_lc1 (c := id) (by rw [List.map_id]; exact iv_list (ev_v h6)) hx6 fun a ha => by
        obtain ⟨Γ', g1, g2⟩ := hb a ha
        exact ⟨_, _, g1, by simp, g2⟩
    have c2 : ∀ {tw : TE} {Γ : Gam}, Γ[6]? = some (.dat (.lst xs)) → (∀ x ∈ xs, ∃ Γ', Gv (gName 10) [10] (wipeE Γ [10]) x Γ' ∧ Ev tw Γ' (.bl (fits ws (p, (q : Int)) x (-1)))) → Fv (tLc (iList K (tVar 6)) (gName 10) tYes tw [10]) Γ (xs.map fun x => D.bl (fits ws (p, (q : Int)) x (-1))) := fun {tw Γ} h6 hb =>
      fv_lc1 (c := id) (by rw [List.map_id]; exact iv_list (ev_v h6)) hx6 fun a ha => by
        obtain ⟨Γ', g1, g2⟩ := hb a ha
        exact ⟨_, _, g1, by simp, g2⟩
    refine q_asg (Fv.ev (fv_lst (av_cons (c1 (sp := spTake) rfl fun x hx => ⟨_, gv_name, ev_call (av_cons (ev_v rfl) (av_cons (ev_v rfl) (av_cons (ev_v rfl) av_nil))) ⟨ws, _, x, rfl, hw, by omega, hf, hxs x hx, rfl⟩⟩).ev (av_cons (c2 rfl fun x hx => ⟨_, gv_name, ev_call (av_cons (ev_v rfl) (av_cons (ev_v rfl) (av_cons (ev_v rfl) av_nil))) ⟨ws, _, x, rfl, hw, by omega, hf, hxs x hx, rfl⟩⟩).ev av_nil)))) ?_
    refine q_asg (Fv.ev (fv_lst (av_cons (c1 (sp := spTake) rfl fun x hx => ⟨_, gv_name, ev_call (av_cons (ev_v rfl) (av_cons (ev_v rfl) (av_cons (ev_v rfl) (av_cons ev_int av_nil)))) ⟨ws, _, x, 1, rfl, hw, by omega, hxs x hx, .inl rfl, rfl⟩⟩).ev (av_cons (c2 rfl fun x hx => ⟨_, gv_name, ev_call (av_cons (ev_v rfl) (av_cons (ev_v rfl) (av_cons (ev_v rfl) (av_cons (e_neg ev_int) av_nil)))) ⟨ws, _, x, -1, rfl, hw, by omega, hxs x hx, .inr rfl, rfl⟩⟩).ev av_nil)))) ?_
    have hbt : Bt 4 (.lst [.lst (xs.map fun x => D.bl (fits ws (p, (q : Int)) x 1)), .lst (xs.map fun x => D.bl (fits ws (p, (q : Int)) x (-1)))]) := ⟨by show 2 ≤ 100000; decide, fun d hd => by
      rcases List.mem_cons.mp hd with rfl | hd
      · exact bt_bls hx6
      · rw [List.mem_singleton.mp hd]; exact bt_bls hx6⟩
    refine d_ret (e_and (e_eqB (e_ixL (e_ixL (ev_v rfl) ev_int (atI_pos (a := D.lst (xs.map fun x => D.bl (fits ws (p, (q : Int)) x 1))) (i := 0) (by decide) rfl)) ev_int h0) (e_or (e_gt (ev_v rfl) ev_int) fun _ => e_eqF (ev_v rfl) (ev_v rfl))) fun _ => e_c2 (ev_v rfl) (ev_v rfl) ⟨_, rfl, hbt, rfl⟩) ⟨?_, n + 1 + 15 + 3 + (List.range 4).length * 4, by rw [hlr]; omega, rfl⟩
    show D.bl _ = D.bl true
    rw [htruth, beq_self_eq_true]; rfl
end DL
set_option Elab.async false
set_option linter.all false
set_option maxRecDepth 100000
set_option maxHeartbeats 2000000
namespace DL
open PySem L2 PyProof.Rows RZ
variable {K : PySem.W.Frag}

/-! ### trains -/
theorem cmb_le {B : Int} : ∀ {bs : List Int} {a : Int}, 0 < a → (∀ b ∈ bs, 0 < b ∧ b ≤ B) → bs.foldl (fun a b => a * b / M.gc a b) a ≤ a * B ^ bs.length
  | [], a, _, _ => by simp
  | b :: bs, a, ha, hb => by
    obtain ⟨b0, b1⟩ := hb b List.mem_cons_self
    have g0 : 0 < M.gc a b := M.gc_pos b0
    have p0 : 0 < a * b / M.gc a b := Int.ediv_pos_of_pos_of_dvd (Int.mul_pos ha b0) (by omega) (Int.dvd_trans (M.gc_dvd_r a b) (Int.dvd_mul_left _ _))
    have ab0 : 0 ≤ a * b := Int.le_of_lt (Int.mul_pos ha b0)
    have h1 : a * b / M.gc a b ≤ a * B := Int.le_trans (Int.ediv_le_self _ ab0) (Int.mul_le_mul_of_nonneg_left b1 (Int.le_of_lt ha))
    have hB : 0 ≤ B := by omega
    have ih := cmb_le (B := B) (bs := bs) p0 fun x hx => hb x (List.mem_cons_of_mem _ hx)
    refine Int.le_trans ih ?_
    rw [List.length_cons, Int.pow_succ, Int.mul_comm (B ^ bs.length), ← Int.mul_assoc]
    exact Int.mul_le_mul_of_nonneg_right h1 (Int.pow_nonneg hB)
theorem pow_le3 {B : Int} {n : Nat} (hB : 1 ≤ B) (hn : n ≤ 3) : B ^ n ≤ B ^ 3 := by
  have h0 : 0 ≤ B := by omega
  have p1 : B ^ 1 = B := by show B ^ (0 + 1) = B; rw [Int.pow_succ, Int.pow_zero, Int.one_mul]
  match n, hn with
  | 0, _ => show B ^ 0 ≤ B ^ 3; rw [Int.pow_zero]; exact Int.pow_pos (by omega)
  | 1, _ =>
    have := Int.mul_le_mul_of_nonneg_left (show 1 ≤ B * B from Int.le_trans hB (by have := Int.mul_le_mul_of_nonneg_left hB h0; omega)) h0
    show B ^ 1 ≤ B ^ 3
    rw [p1, show B ^ 3 = B * (B * B) by rw [Int.pow_succ, Int.pow_succ, p1, Int.mul_assoc]]
    omega
  | 2, _ =>
    have h1 := Int.mul_le_mul_of_nonneg_left hB (Int.mul_nonneg h0 h0)
    show B ^ 2 ≤ B ^ 3
    rw [show B ^ 2 = B * B by rw [Int.pow_succ, p1], show B ^ 3 = B * B * B by rw [Int.pow_succ, Int.pow_succ, p1]]
    omega
  | 3, _ => exact Int.le_refl _
theorem cmn_le {fs : List (Int × Int)} {B : Int} (hB : 1 ≤ B) (hl : fs.length ≤ 3) (h : ∀ f ∈ fs, 0 < f.2 ∧ f.2 ≤ B) : cmn fs ≤ B ^ 3 := by
  have := cmb_le (B := B) (bs := bts fs) (a := 1) (by decide) fun b hb => by
    obtain ⟨f, hf, rfl⟩ := List.mem_map.mp hb
    exact h f hf
  rw [Int.one_mul] at this
  refine Int.le_trans this ?_
  refine pow_le3 hB ?_
  unfold bts
  rw [List.length_map]; exact hl
abbrev spRight : Sp := spT 300 PreNil PostTrue
theorem fits_list {xs : List D} {f : D → Bool} {Γ : Gam} {tw : TE} (h4 : Γ[4]? = some (.dat (.lst xs))) (hl : xs.length ≤ 100000) (hb : ∀ x ∈ xs, ∃ Γ', Gv (gName 10) [10] (wipeE Γ [10]) x Γ' ∧ Ev tw Γ' (.bl (f x))) : Fv (tLc (iList K (tVar 4)) (gName 10) tYes tw [10]) Γ (xs.map fun x => D.bl (f x)) :=
  fv_lc1 (c := id) (by rw [List.map_id]; exact iv_list (ev_v h4)) hl fun a ha => by
    obtain ⟨Γ', g1, g2⟩ := hb a ha
    exact ⟨_, _, g1, by simp, g2⟩
theorem d_law_right {ds : List D} {n : Nat} (h : PreNil ds) (hn : n + 300 ≤ 1000000) : DS (t_law_right K spDisks (spF R_less) spMarks (spF R_mirror) spOf (spF R_own_train) spPairsR (spF R_reaches) (spF (R_same 4)) (spF R_turning_in) spTrain spTake (spF R_is_lowest) (spF R_is_reached))
    (entT ["_law_tin", "_law_marks_so", "_law_way_so", "_law_own", "_law_things_so", "_law_any_so", "_law_rows_so", "_law_got", "_law_due", "_law_lap", "_law_its"] n ds) (retT (n + 300) (PostTrue ds)) := by
  have h : ds = [] := h
  subst h
  refine q_whenND (m := n + 40) (b := true) (dv_call (da_nil (Pl := fun ds => ds = []) rfl) (fun ds e => e) (by omega) fun ds d _ h => h) (fun z => nomatch z) fun _ => ?_
  refine q_asgGD (m := n + 40 + 1 + 20 + 1) (P := fun d => ∃ (fs : List (Int × Int)) (wv : Int), d = .tup [tf fs, .int wv] ∧ 0 < fs.length ∧ fs.length ≤ 3 ∧ ∀ f ∈ fs, Vf f ∧ f.2 ≤ 3) (dv_tup (Pl := fun ds => ∃ (fs : List (Int × Int)) (wv : Int), ds = [tf fs, .int wv] ∧ 0 < fs.length ∧ fs.length ≤ 3 ∧ ∀ f ∈ fs, Vf f ∧ f.2 ≤ 3) (da_cons (P := fun d => ∃ fs : List (Int × Int), d = tf fs ∧ 0 < fs.length ∧ fs.length ≤ 3 ∧ ∀ f ∈ fs, Vf f ∧ f.2 ≤ 3) (Pr := fun ds => ∃ wv : Int, ds = [.int wv])
    (dv_call (Pl := fun ds => ∃ r : Nat, ds = [.int (r : Int), .int 3] ∧ 1 ≤ r ∧ r ≤ 3) (da_cons (P := fun d => ∃ r : Nat, d = .int (r : Int) ∧ 1 ≤ r ∧ r ≤ 3) (Pr := fun ds => ds = [.int 3]) (dv_op (P := fun x => x = .int 1) (S := fun _ y => ∃ i, y = .int i ∧ 0 ≤ i ∧ i < 3) (dv_ev ev_int rfl) (fun x hx => dv_take ev_int (by decide) (by decide) (by omega)) fun x y hx ⟨i, hy, i0, i1⟩ => by
      subst hx hy
      exact ⟨_, o_add, (1 + i).toNat, by rw [Int.toNat_of_nonneg (by omega)], by omega, by omega⟩) (da_av (av_cons ev_int av_nil) rfl) fun x xs ⟨r, hx, r1, r2⟩ hxs => ⟨r, by rw [hx, hxs], r1, r2⟩) (fun ds ⟨r, e, r1, r2⟩ => ⟨r, 3, e, by omega, by decide, by decide⟩) (by omega) fun ds d ⟨r, e, r1, r2⟩ ⟨r', m', fs, e1, e2, l, v⟩ => by
        rw [e] at e1
        have a1 := D.int.inj (List.cons.inj e1).1
        have a2 := D.int.inj (List.cons.inj (List.cons.inj e1).2).1
        subst a2
        exact ⟨fs, e2, by omega, by omega, v⟩)
    (da_cons (P := fun d => ∃ wv : Int, d = .int wv) (Pr := fun ds => ds = []) ((dv_of ev_pm (by simp) (by simp) (by omega)).imp fun d hd => let ⟨i, e, _⟩ := of_pm hd; ⟨i, e⟩) (da_nil rfl) fun x xs ⟨i, hx⟩ hxs => ⟨i, by rw [hx, hxs]⟩) fun x xs ⟨fs, hx, a, b, c⟩ ⟨wv, hw⟩ => ⟨fs, wv, by rw [hx, hw], a, b, c⟩) fun ds ⟨fs, wv, e, a, b, c⟩ => ⟨by rw [e]; show 2 ≤ 100000; decide, fs, wv, by rw [e], a, b, c⟩) ?_
  rintro d ⟨fs, wv, rfl, f0, f3, hfs⟩
  refine ⟨_, _, gv_t2, ?_⟩
  have hc27 : cmn fs ≤ 27 := cmn_le (B := 3) (by decide) f3 fun f hf => ⟨(hfs f hf).1.p, (hfs f hf).2⟩
  have few : Few fs := ⟨⟨by omega, fun f hf => (hfs f hf).1⟩, fun z => by rw [z] at f0; exact absurd f0 (by decide), by omega⟩
  have c0 := cmn_pos few.toVfs
  have hbig : ∀ {gs : List (Int × Int)}, gs.length = fs.length → cmn gs = cmn fs → (gs.length : Int) * cmn gs * cmn gs ≤ 20000 := fun {gs} h1 h2 => by
    rw [h1, h2]
    have a1 : (fs.length : Int) * cmn fs ≤ 3 * 27 := Int.mul_le_mul (by omega) hc27 (by omega) (by omega)
    have a2 : (fs.length : Int) * cmn fs * cmn fs ≤ 3 * 27 * 27 := Int.mul_le_mul a1 hc27 (by omega) (by omega)
    omega
  have hot : ∀ {gs : List (Int × Int)}, Few gs → (gs.length : Int) * cmn gs * cmn gs ≤ 20000 → ∀ t ∈ otr gs, 0 < t.length ∧ t.length ≤ 20000 := fun {gs} hg hb t ht => by
    unfold otr at ht
    obtain ⟨k, hk, rfl⟩ := List.mem_map.mp ht
    exact own1_len hg hb (List.mem_range.mp hk)
  have lot : ∀ gs : List (Int × Int), (otr gs).length = gs.length := fun gs => by unfold otr; rw [List.length_map, List.length_range]
  refine q_asg (e_c1 (ev_v rfl) ⟨fs, rfl, few, hbig rfl rfl, rfl⟩) ?_
  show DS (tSeq _ _) [.tin (n + 40 + 1 + 20 + 1), .dat (tf fs), .dat (.int wv), .dat (tt (otr fs)), .un, .un, .un, .un, .un, .un, .un] _
  refine d_seq (d_mono (O := { nx := fun Γ' => ∃ ts : List (List Int), Γ' = [.tin (n + 40 + 1 + 20 + 1), .dat (tf fs), .dat (.int wv), .dat (tt ts), .un, .un, .un, .un, .un, .un, .un] ∧ ts.length = fs.length ∧ ∀ t ∈ ts, 0 < t.length ∧ t.length ≤ 20000, rt := fun _ _ => False, bk := fun _ => False, ct := fun _ => False }) (d_if (t_test (e_lt (ev_v rfl) ev_int)) (fun _ => ?_) fun _ => d_next ⟨otr fs, rfl, lot fs, hot few (hbig rfl rfl)⟩) ?_ (fun _ _ h => h.elim) (fun _ h => h.elim) (fun _ h => h.elim))
  · have hc : Fv (tLc (iTup K (tVar 1)) (gName 10) tYes (tCall (spF R_less) [] E0 (tCons (tVar 10) tNil)) [10]) [.tin (n + 40 + 1 + 20 + 1), .dat (tf fs), .dat (.int wv), .dat (tt (otr fs)), .un, .un, .un, .un, .un, .un, .un] (fs.map fun f => fr (ngf f)) :=
      fv_lc1 (c := fr) (iv_tup (ev_v rfl)) (by omega) fun a ha => ⟨_, _, gv_name, by simp, e_c1 (ev_v rfl) ⟨a, rfl, rfl⟩⟩
    have hc2 := hc.is (ys := (fs.map ngf).map fr) (by rw [List.map_map]; rfl)
    have hb2 := hbig (gs := fs.map ngf) (by rw [List.length_map]) (cmn_ng fs)
    have hm : Fv (tLc (iTup K (tCall (spF R_own_train) [] E0 (tCons (tCB (rTupOf K) (tCons (tLc (iTup K (tVar 1)) (gName 10) tYes (tCall (spF R_less) [] E0 (tCons (tVar 10) tNil)) [10]) tNil)) tNil))) (gName 10) tYes (tCall (spF R_mirror) [] E0 (tCons (tVar 10) tNil)) [10]) [.tin (n + 40 + 1 + 20 + 1), .dat (tf fs), .dat (.int wv), .dat (tt (otr fs)), .un, .un, .un, .un, .un, .un, .un] ((otr (fs.map ngf)).map fun t => ti (mir t)) :=
      fv_lc1 (c := ti) (iv_tup (e_c1 (e_tupleL hc2.ev) ⟨fs.map ngf, rfl, few.ng, hb2, rfl⟩)) (by rw [lot, List.length_map]; omega) fun a ha => by
        have := hot few.ng hb2 a ha
        exact ⟨_, _, gv_name, by simp, e_c1 (ev_v rfl) ⟨a, rfl, this.1, by omega, rfl⟩⟩
    have hm2 := hm.is (ys := ((otr (fs.map ngf)).map mir).map ti) (by rw [List.map_map]; rfl)
    refine d_asg (e_tupleL hm2.ev) ⟨(otr (fs.map ngf)).map mir, rfl, by rw [List.length_map, lot, List.length_map], fun t ht => ?_⟩
    obtain ⟨u, hu, rfl⟩ := List.mem_map.mp ht
    rw [mir_len]
    exact hot few.ng hb2 u hu
  rintro Γ' ⟨ts, rfl, tl, hts⟩
  have hlr : (List.range 3).length = 3 := rfl
  have nice_tt : ∀ ts : List (List Int), Nice (tt ts) := fun ts => nice_tis fun o ho => by
    obtain ⟨t, _, rfl⟩ := List.mem_map.mp ho
    exact ⟨t, rfl⟩
  refine q_asgD (m := n + 40 + 1 + 20 + 1 + (List.range 3).length * 4) (P := fun d => ∃ es : List D, d = .lst ([tt ts] ++ es) ∧ es.length = 3 ∧ ∀ x ∈ es, Sm 3 x ∧ Nice x) (dv_op (P := fun x => x = .lst [tt ts]) (S := fun _ y => ∃ es, y = .lst es ∧ es.length = (List.range 3).length ∧ ∀ x ∈ es, Sm 3 x ∧ Nice x) (dv_ev (Fv.ev (fv_lst (av_cons (ev_v rfl) av_nil))) rfl)
    (fun x hx => dv_lc (k := 4) (as := List.range 3) (c := fun (i : Nat) => D.int (i : Int)) (P := fun d => Sm 3 d ∧ Nice d) lone_of (iv_rng1 (n := (3 : Int)) (av_cons ev_int av_nil) (by decide)) (by decide) fun i a ha => by
      have hi : i < 3 := by
        have := (List.getElem?_eq_some_iff.mp ha).1
        rwa [hlr] at this
      exact ⟨_, _, gv_name, by simp, lone_of, dv_call (da_av (Pl := fun ds => ds = [tt ts]) (av_cons (ev_v rfl) av_nil) rfl) (fun ds e => ⟨ts, e, by omega, by omega, hts⟩) (by omega) fun ds d _ h => h⟩) fun x y hx ⟨es, hy, l, p⟩ => by
    subst hx hy
    exact ⟨_, o_catL (by rw [l]; show 1 + 3 ≤ 100000; decide), es, rfl, l, p⟩) ?_
  rintro d ⟨es, rfl, hes, hsm⟩
  have hx6 : ([tt ts] ++ es : List D).length ≤ 100000 := by rw [List.length_append, hes]; show 1 + 3 ≤ 100000; decide
  have hxs : ∀ x ∈ ([tt ts] ++ es : List D), Sm 3 x ∧ Nice x := fun x hx => by
    rcases List.mem_append.mp hx with h | h
    · rw [List.mem_singleton.mp h]
      exact ⟨sm_tt (by omega) fun t ht => by have := hts t ht; omega, nice_tt ts⟩
    · exact hsm x h
  generalize ([tt ts] ++ es : List D) = xs at hx6 hxs
  refine q_asgD (m := n + 40 + 1 + 20 + 1 + (List.range 3).length * 4 + 1 + 150) (P := fun d => ∃ us : List (List Int), d = tt us ∧ us.length = fs.length ∧ ∃ r : Nat, r ≤ 6 ∧ ∀ t ∈ us, t.length = r ∧ M.isWh t = true) (dv_call (Pl := fun ds => ∃ r : Nat, ds = [.int (r : Int), .int (fs.length : Int)] ∧ 1 ≤ r ∧ r ≤ 6) (da_cons (P := fun d => ∃ r : Nat, d = .int (r : Int) ∧ 1 ≤ r ∧ r ≤ 6) (Pr := fun ds => ds = [.int (fs.length : Int)]) (dv_op (P := fun x => x = .int 1) (S := fun _ y => ∃ i, y = .int i ∧ 0 ≤ i ∧ i < 6) (dv_ev ev_int rfl) (fun x hx => dv_take ev_int (by decide) (by decide) (by rw [hlr]; omega)) fun x y hx ⟨i, hy, i0, i1⟩ => by
      subst hx hy
      exact ⟨_, o_add, (1 + i).toNat, by rw [Int.toNat_of_nonneg (by omega)], by omega, by omega⟩) (da_av (av_cons (e_lenM (ev_v rfl)) av_nil) rfl) fun x xs ⟨r, hx, r1, r2⟩ hxs => ⟨r, by rw [hx, hxs], r1, r2⟩) (fun ds ⟨r, e, r1, r2⟩ => ⟨r, fs.length, e, r1, by omega, by omega⟩) (by rw [hlr]; omega) fun ds d ⟨r, e, r1, r2⟩ ⟨r', k', us, e1, e2, l, v⟩ => by
        rw [e] at e1
        have a1 := D.int.inj (List.cons.inj e1).1
        have a2 := D.int.inj (List.cons.inj (List.cons.inj e1).2).1
        exact ⟨us, e2, by omega, r', by omega, v⟩) ?_
  rintro d ⟨us, rfl, hul, r, r6, hus⟩
  have husl : ∀ t ∈ us, t.length ≤ 6 := fun t ht => by rw [(hus t ht).1]; exact r6
  have hcr : Fv (tLc (iTup K (tVar 5)) (gName 10) tYes (tCall (spF R_turning_in) [] E0 (tCons (tVar 10) tNil)) [10]) [.tin (n + 40 + 1 + 20 + 1 + (List.range 3).length * 4 + 1 + 150), .dat (tf fs), .dat (.int wv), .dat (tt ts), .dat (.lst xs), .dat (tt us), .un, .un, .un, .un, .un] (us.map fun t => fr (M.trn t)) :=
    fv_lc1 (c := ti) (iv_tup (ev_v rfl)) (by omega) fun a ha => ⟨_, _, gv_name, by simp, e_c1 (ev_v rfl) ⟨a, rfl, (hus a ha).2, by have := husl a ha; omega, rfl⟩⟩
  have hcr2 := hcr.is (ys := (us.map M.trn).map fr) (by rw [List.map_map]; rfl)
  refine q_asg (e_tupleL hcr2.ev) ?_
  have hrl : (us.map M.trn).length = fs.length := by rw [List.length_map, hul]
  have hrv : ∀ f ∈ us.map M.trn, Vf f ∧ f.2 ≤ 6 := fun f hf => by
    obtain ⟨t, ht, rfl⟩ := List.mem_map.mp hf
    have h1 := husl t ht
    have h2 := M.trn_ok (hus t ht).2
    exact ⟨vf_trn (hus t ht).2 (by omega), by omega⟩
  have hc216 : cmn (us.map M.trn) ≤ 216 := cmn_le (B := 6) (by decide) (by omega) fun f hf => ⟨(hrv f hf).1.p, (hrv f hf).2⟩
  have few2 : Few (us.map M.trn) := ⟨⟨by omega, fun f hf => (hrv f hf).1⟩, fun z => by rw [z] at hrl; simp at hrl; omega, by omega⟩
  have smU : Sm 3 (tt us) := sm_tt (by omega) fun t ht => by have := husl t ht; omega
  generalize us.map M.trn = rs at few2
  refine q_asg (Fv.ev (fv_lst (av_cons (fits_list (f := fun x => tso fs x (mst fs)) rfl hx6 fun x hx => ⟨_, gv_name, e_c2 (ev_v rfl) (ev_v rfl) ⟨fs, x, rfl, few, (hxs x hx).1, rfl⟩⟩).ev (av_cons (fits_list (f := fun x => tso fs x (lst fs)) rfl hx6 fun x hx => ⟨_, gv_name, e_c2 (ev_v rfl) (ev_v rfl) ⟨fs, x, rfl, few, (hxs x hx).1, rfl⟩⟩).ev av_nil)))) ?_
  refine q_asg (Fv.ev (fv_lst (av_cons (fits_list (f := fun x => tso fs x (mst fs)) rfl hx6 fun x hx => ⟨_, gv_name, ev_call (av_cons (ev_v rfl) (av_cons (ev_v rfl) (av_cons ev_int av_nil))) ⟨fs, x, 1, rfl, few, (hxs x hx).1, (hxs x hx).2, rfl⟩⟩).ev (av_cons (fits_list (f := fun x => tso fs x (lst fs)) rfl hx6 fun x hx => ⟨_, gv_name, ev_call (av_cons (ev_v rfl) (av_cons (ev_v rfl) (av_cons (e_neg ev_int) av_nil))) ⟨fs, x, -1, rfl, few, (hxs x hx).1, (hxs x hx).2, rfl⟩⟩).ev av_nil)))) ?_
  refine q_asg (f_catL (ev_v rfl) (Fv.ev (fv_lst (av_cons (e_c2 (ev_v rfl) (ev_v rfl) ⟨rs, tt us, rfl, few2, smU, rfl⟩) (av_cons (e_c2 (ev_v rfl) (ev_v rfl) ⟨rs, tt us, rfl, few2, smU, rfl⟩) av_nil)))) (by show 2 + 2 ≤ 100000; decide)).ev ?_
  refine q_asg (f_catL (ev_v rfl) (Fv.ev (fv_lst (av_cons (ev_call (av_cons (ev_v rfl) (av_cons (ev_v rfl) (av_cons ev_int av_nil))) ⟨rs, tt us, 1, rfl, few2, smU, nice_tt us, rfl⟩) (av_cons (ev_call (av_cons (ev_v rfl) (av_cons (ev_v rfl) (av_cons (e_neg ev_int) av_nil))) ⟨rs, tt us, -1, rfl, few2, smU, nice_tt us, rfl⟩) av_nil)))) (by show 2 + 2 ≤ 100000; decide)).ev ?_
  refine d_ret (e_c2 (ev_v rfl) (ev_v rfl) ⟨_, rfl, ?_, rfl⟩) ⟨rfl, n + 40 + 1 + 20 + 1 + (List.range 3).length * 4 + 1 + 150, by rw [hlr]; omega, rfl⟩
  refine ⟨by show 4 ≤ 100000; decide, fun d hd => ?_⟩
  rcases List.mem_cons.mp hd with rfl | hd
  · exact bt_bls hx6
  rcases List.mem_cons.mp hd with rfl | hd
  · exact bt_bls hx6
  rcases List.mem_cons.mp hd with rfl | hd
  · exact bt_bl
  rw [List.mem_singleton.mp hd]; exact bt_bl
end DL
set_option Elab.async false
set_option linter.all false
set_option maxRecDepth 100000
set_option maxHeartbeats 2000000
namespace DL
open PySem L2 PyProof.Rows RZ
variable {K : PySem.W.Frag}

/-! ### by hand -/
abbrev slow : List Int := [0, 2, 2]
abbrev quick : List Int := [1, 6, 7, 7, 7, 7]
abbrev things1 : List D := [.tup [ti quick, .int 2], .tup [ti quick, .int 1], .tup [ti quick, .int 3], .lst [ti quick, .int 2], .tup [li quick, .int 2], .tup [ti quick, .int 2, .int 0], .tup [ti quick, .bl true], .tup [.tup (cutD (quick.map D.int) none (some 5)), .int 2], .non, .tup [ti quick], .int 7]
abbrev fF : List Int := [3, 6, 6, 6, 9, 9]
abbrev gG : List Int := [3, 3, 5, 5, 7, 7]
abbrev farT : D := tt [[3, 4, 5, 6, 7, 8], [2, 3, 4, 5, 6, 7]]
abbrev things2 : List D := [.tup [ti fF, ti gG], .tup [ti gG, ti fF], .lst [ti fF, ti gG], .tup [ti fF], .tup [ti fF, ti gG, ti gG], farT, .tup [ti fF, .tup (cutD (gG.map D.int) none (some 5))], .tup [ti fF, ti [3, 3, 5, 5, 7, 5]], .non, .tup []]
abbrev half : Int × Int := (1, 2)
abbrev third : Int × Int := (1, 3)
theorem smq : ∀ {n : Nat} {ws : List Int}, ws.length ≤ 10 → Sm (n + 1) (ti ws) := fun h => sm_ti (by omega)
theorem sm_l {n : Nat} {ds : List D} (h : ds.length ≤ 10) (k : ∀ d ∈ ds, Sm n d) : Sm (n + 1) (.lst ds) := sm_lst (by omega) k
theorem sm_t {n : Nat} {ds : List D} (h : ds.length ≤ 10) (k : ∀ d ∈ ds, Sm n d) : Sm (n + 1) (.tup ds) := sm_tup (by omega) k
theorem all1 {n : Nat} {x : D} (h : Sm n x) : ∀ d ∈ [x], Sm n d := fun d hd => by rw [List.mem_singleton.mp hd]; exact h
theorem all2 {n : Nat} {x : D} {ds : List D} (h : Sm n x) (k : ∀ d ∈ ds, Sm n d) : ∀ d ∈ x :: ds, Sm n d := fun d hd => by
  rcases List.mem_cons.mp hd with rfl | hd
  · exact h
  · exact k d hd
theorem all0 {n : Nat} : ∀ d ∈ ([] : List D), Sm n d := fun d hd => by cases hd
theorem sm_cutI {n : Nat} {ws : List Int} {lo hi : Option Int} (h : ws.length ≤ 10) : Sm (n + 1) (.tup (cutD (ws.map D.int) lo hi)) := sm_tup (by have := len_cutI ws lo hi; omega) ints_sm
theorem sm_things1 : ∀ x ∈ things1, Sm 3 x :=
  all2 (sm_t (by decide) (all2 (smq (by decide)) (all1 sm_int))) <| all2 (sm_t (by decide) (all2 (smq (by decide)) (all1 sm_int))) <| all2 (sm_t (by decide) (all2 (smq (by decide)) (all1 sm_int))) <| all2 (sm_l (by decide) (all2 (smq (by decide)) (all1 sm_int))) <|
  all2 (sm_t (by decide) (all2 (sm_li (by decide)) (all1 sm_int))) <| all2 (sm_t (by decide) (all2 (smq (by decide)) (all2 sm_int (all1 sm_int)))) <| all2 (sm_t (by decide) (all2 (smq (by decide)) (all1 sm_bl))) <| all2 (sm_t (by show 2 ≤ 10; decide) (all2 (sm_cutI (by decide)) (all1 sm_int))) <| all2 sm_non <| all2 (sm_t (by decide) (all1 (smq (by decide)))) <| all1 sm_int
theorem sm_far : Sm 3 farT := sm_tt (by decide) (fun t ht => by
  rcases List.mem_cons.mp ht with rfl | ht
  · decide
  · rw [List.mem_singleton.mp ht]; decide)
theorem sm_things2 : ∀ x ∈ things2, Sm 3 x :=
  all2 (sm_t (by decide) (all2 (smq (by decide)) (all1 (smq (by decide))))) <| all2 (sm_t (by decide) (all2 (smq (by decide)) (all1 (smq (by decide))))) <| all2 (sm_l (by decide) (all2 (smq (by decide)) (all1 (smq (by decide))))) <| all2 (sm_t (by decide) (all1 (smq (by decide)))) <|
  all2 (sm_t (by decide) (all2 (smq (by decide)) (all2 (smq (by decide)) (all1 (smq (by decide)))))) <| all2 sm_far <| all2 (sm_t (by show 2 ≤ 10; decide) (all2 (smq (by decide)) (all1 (sm_cutI (by decide))))) <| all2 (sm_t (by decide) (all2 (smq (by decide)) (all1 (smq (by decide))))) <| all2 sm_non <| all1 (sm_t (by decide) all0)
theorem vf_half : Vf half := ⟨by decide, by decide, by decide +kernel⟩
theorem vf_third : Vf third := ⟨by decide, by decide, by decide +kernel⟩
theorem few_ht : Few [half, third] := ⟨⟨by decide, fun f hf => by
  rcases List.mem_cons.mp hf with rfl | hf
  · exact vf_half
  · rw [List.mem_singleton.mp hf]; exact vf_third⟩, by simp, by decide +kernel⟩
theorem few_h : Few [half] := ⟨⟨by decide, fun f hf => by rw [List.mem_singleton.mp hf]; exact vf_half⟩, by simp, by decide +kernel⟩
theorem got1 : (things1.map fun x => fits slow half x 1) = true :: List.replicate 10 false := by decide +kernel
theorem got2 : fits slow third (.tup [ti quick, .int 2]) 1 = false := by decide +kernel
theorem got3 : fits [0, 3, 3] half (.tup [ti quick, .int 2]) 1 = true := by decide +kernel
theorem got4 : fits [1, 4, 4] half (.tup [ti quick, .int 2]) 1 = false := by decide +kernel
theorem got5 : (things2.map fun x => tso [half, third] x (mst [half, third])) = true :: List.replicate 9 false := by decide +kernel
theorem got6 : tso [half, third] farT (lst [half, third]) = false := by decide +kernel
theorem got7 : tso [half] (tt [[1, 2]]) (lst [half]) = true := by decide +kernel
theorem got8 : tso [half] (tt [[1, 2]]) (mst [half]) = true := by decide +kernel
def tf1 (n : Nat) : List D := [D.bl true] ++ List.replicate n (.bl false)
theorem tf1_of {xs : List D} {f : D → Bool} {n : Nat} (h : xs.map f = true :: List.replicate n false) : xs.map (fun x => D.bl (f x)) = tf1 n := by
  have := congrArg (List.map D.bl) h
  rw [List.map_map, List.map_cons, List.map_replicate] at this
  exact this
theorem bt_tf1 {n k : Nat} (h : n ≤ 100) : Bt (k + 1) (.lst (tf1 n)) := ⟨by unfold tf1; rw [List.length_append, List.length_replicate]; show 1 + n ≤ _; omega, fun d hd => by
  unfold tf1 at hd
  rcases List.mem_append.mp hd with h | h
  · rw [List.mem_singleton.mp h]; exact bt_bl
  · rw [List.eq_of_mem_replicate h]; exact bt_bl⟩
def R_hand (ds : List D) (d : D) : Prop := ds = [] ∧ d = .bl true
theorem f_tf1 {Γ : Gam} {n : Nat} (h : n ≤ 100) : Fv (tOp rCat (tLst (tCons (tC (.bl true)) tNil)) (tOp rRep (tLst (tCons (tC (.bl false)) tNil)) (tC (.int (n : Int))))) Γ (tf1 n) :=
  (f_catL (Fv.ev (fv_lst (av_cons ev_bl av_nil))) (Fv.ev (f_rep (Fv.ev (fv_lst (av_cons ev_bl av_nil))) ev_int (by omega))) (by rw [List.length_replicate]; show 1 + _ ≤ _; omega)).is (by rw [Int.toNat_natCast]; rfl)
theorem d_law_by_hand_right {ds : List D} {d : D} (h : R_hand ds d) : DS (t_law_by_hand_right K (spF (R_same 4)) (spF R_is_lowest) (spF (R_moved 1)) (spF R_is_reached)) (ent ["_law_slow_so", "_law_quick_so", "_law_half_so", "_law_third_so", "_law_things_so", "_law_got", "_law_due", "_law_f_so", "_law_g_so", "_law_far_so", "_law_own"] ds) (retO d) := by
  obtain ⟨rfl, rfl⟩ := h
  refine q_asgG (d := .tup [ti slow, ti quick, fr half, fr third]) (ev_tup (av_cons (ev_tup (av_cons ev_int (av_cons ev_int (av_cons ev_int av_nil)))) (av_cons (ev_tup (av_cons ev_int (av_cons ev_int (av_cons ev_int (av_cons ev_int (av_cons ev_int (av_cons ev_int av_nil))))))) (av_cons (ev_tup (av_cons ev_int (av_cons ev_int av_nil))) (av_cons (ev_tup (av_cons ev_int (av_cons ev_int av_nil))) av_nil))))) (gv_tup rfl (gvs_cons gv_name (gvs_cons gv_name (gvs_cons gv_name (gvs_cons gv_name gvs_nil))))) ?_
  show DS (tSeq _ _) [.dat (ti slow), .dat (ti quick), .dat (fr half), .dat (fr third), .un, .un, .un, .un, .un, .un, .un] _
  refine q_asg (d := .lst things1) (Fv.ev (fv_lst (av_cons (ev_tup (av_cons (ev_v rfl) (av_cons ev_int av_nil))) (av_cons (ev_tup (av_cons (ev_v rfl) (av_cons ev_int av_nil))) (av_cons (ev_tup (av_cons (ev_v rfl) (av_cons ev_int av_nil))) (av_cons (Fv.ev (fv_lst (av_cons (ev_v rfl) (av_cons ev_int av_nil)))) (av_cons (ev_tup (av_cons (f_listT (ev_v rfl)).ev (av_cons ev_int av_nil)))
    (av_cons (ev_tup (av_cons (ev_v rfl) (av_cons ev_int (av_cons ev_int av_nil)))) (av_cons (ev_tup (av_cons (ev_v rfl) (av_cons ev_bl av_nil))) (av_cons (ev_tup (av_cons (e_sliceT (ev_v rfl) ov_none (ov_some ev_int)) (av_cons ev_int av_nil))) (av_cons ev_non (av_cons (ev_tup (av_cons (ev_v rfl) av_nil)) (av_cons ev_int av_nil))))))))))))) ?_
  show DS (tSeq _ _) [.dat (ti slow), .dat (ti quick), .dat (fr half), .dat (fr third), .dat (.lst things1), .un, .un, .un, .un, .un, .un] _
  have sq : Sm 3 (.tup [ti quick, .int 2]) := sm_t (by decide) (all2 (smq (by decide)) (all1 sm_int))
  have hc1 : Fv (tLc (iList K (tVar 4)) (gName 10) tYes (tCall (spF (R_moved 1)) [] E0 (tCons (tVar 0) (tCons (tVar 2) (tCons (tVar 10) tNil)))) [10]) [.dat (ti slow), .dat (ti quick), .dat (fr half), .dat (fr third), .dat (.lst things1), .un, .un, .un, .un, .un, .un] (tf1 10) :=
    (fits_list (f := fun x => fits slow half x 1) rfl (by decide) fun x hx => ⟨_, gv_name, ev_call (av_cons (ev_v rfl) (av_cons (ev_v rfl) (av_cons (ev_v rfl) av_nil))) ⟨slow, half, x, rfl, by decide +kernel, by decide, vf_half, sm_things1 x hx, rfl⟩⟩).is (tf1_of got1)
  refine q_asg (d := .lst [.lst (tf1 10), .bl false, .bl true, .bl false]) (Fv.ev (fv_lst (av_cons hc1.ev (av_cons (ev_call (av_cons (ev_v rfl) (av_cons (ev_v rfl) (av_cons (ev_tup (av_cons (ev_v rfl) (av_cons ev_int av_nil))) av_nil))) ⟨slow, third, _, rfl, by decide +kernel, by decide, vf_third, sq, by rw [got2]⟩)
    (av_cons (ev_call (av_cons (ev_tup (av_cons ev_int (av_cons ev_int (av_cons ev_int av_nil)))) (av_cons (ev_v rfl) (av_cons (ev_tup (av_cons (ev_v rfl) (av_cons ev_int av_nil))) av_nil))) ⟨[0, 3, 3], half, _, rfl, by decide +kernel, by decide, vf_half, sq, by rw [got3]⟩)
    (av_cons (ev_call (av_cons (ev_tup (av_cons ev_int (av_cons ev_int (av_cons ev_int av_nil)))) (av_cons (ev_v rfl) (av_cons (ev_tup (av_cons (ev_v rfl) (av_cons ev_int av_nil))) av_nil))) ⟨[1, 4, 4], half, _, rfl, by decide +kernel, by decide, vf_half, sq, by rw [got4]⟩) av_nil)))))) ?_
  refine q_asg (d := .lst [.lst (tf1 10), .bl false, .bl true, .bl false]) (Fv.ev (fv_lst (av_cons (f_tf1 (n := 10) (by decide)).ev (av_cons ev_bl (av_cons ev_bl (av_cons ev_bl av_nil)))))) ?_
  refine q_asgG (d := .tup [ti fF, ti gG, farT]) (ev_tup (av_cons (ev_tup (av_cons ev_int (av_cons ev_int (av_cons ev_int (av_cons ev_int (av_cons ev_int (av_cons ev_int av_nil))))))) (av_cons (ev_tup (av_cons ev_int (av_cons ev_int (av_cons ev_int (av_cons ev_int (av_cons ev_int (av_cons ev_int av_nil))))))) (av_cons (ev_tup (av_cons (ev_tup (av_cons ev_int (av_cons ev_int (av_cons ev_int (av_cons ev_int (av_cons ev_int (av_cons ev_int av_nil))))))) (av_cons (ev_tup (av_cons ev_int (av_cons ev_int (av_cons ev_int (av_cons ev_int (av_cons ev_int (av_cons ev_int av_nil))))))) av_nil))) av_nil)))) (gv_tup rfl (gvs_cons gv_name (gvs_cons gv_name (gvs_cons gv_name gvs_nil)))) ?_
  show DS (tSeq _ _) [.dat (ti slow), .dat (ti quick), .dat (fr half), .dat (fr third), .dat (.lst things1), .dat (.lst [.lst (tf1 10), .bl false, .bl true, .bl false]), .dat (.lst [.lst (tf1 10), .bl false, .bl true, .bl false]), .dat (ti fF), .dat (ti gG), .dat farT, .un] _
  refine q_asg (d := .lst things2) (Fv.ev (fv_lst (av_cons (ev_tup (av_cons (ev_v rfl) (av_cons (ev_v rfl) av_nil))) (av_cons (ev_tup (av_cons (ev_v rfl) (av_cons (ev_v rfl) av_nil))) (av_cons (Fv.ev (fv_lst (av_cons (ev_v rfl) (av_cons (ev_v rfl) av_nil)))) (av_cons (ev_tup (av_cons (ev_v rfl) av_nil)) (av_cons (ev_tup (av_cons (ev_v rfl) (av_cons (ev_v rfl) (av_cons (ev_v rfl) av_nil))))
    (av_cons (ev_v rfl) (av_cons (ev_tup (av_cons (ev_v rfl) (av_cons (e_sliceT (ev_v rfl) ov_none (ov_some ev_int)) av_nil))) (av_cons (ev_tup (av_cons (ev_v rfl) (av_cons (ev_tup (av_cons ev_int (av_cons ev_int (av_cons ev_int (av_cons ev_int (av_cons ev_int (av_cons ev_int av_nil))))))) av_nil))) (av_cons ev_non (av_cons (ev_tup av_nil) av_nil)))))))))))) ?_
  show DS (tSeq _ _) [.dat (ti slow), .dat (ti quick), .dat (fr half), .dat (fr third), .dat (.lst things2), .dat (.lst [.lst (tf1 10), .bl false, .bl true, .bl false]), .dat (.lst [.lst (tf1 10), .bl false, .bl true, .bl false]), .dat (ti fF), .dat (ti gG), .dat farT, .un] _
  have hc2 : Fv (tLc (iList K (tVar 4)) (gName 10) tYes (tCall (spF R_is_reached) [] E0 (tCons (tTup (tCons (tVar 2) (tCons (tVar 3) tNil))) (tCons (tVar 10) tNil))) [10]) [.dat (ti slow), .dat (ti quick), .dat (fr half), .dat (fr third), .dat (.lst things2), .dat (.lst [.lst (tf1 10), .bl false, .bl true, .bl false]), .dat (.lst [.lst (tf1 10), .bl false, .bl true, .bl false]), .dat (ti fF), .dat (ti gG), .dat farT, .un] (tf1 9) :=
    (fits_list (f := fun x => tso [half, third] x (mst [half, third])) rfl (by decide) fun x hx => ⟨_, gv_name, ev_call (av_cons (ev_tup (av_cons (ev_v rfl) (av_cons (ev_v rfl) av_nil))) (av_cons (ev_v rfl) av_nil)) ⟨[half, third], x, rfl, few_ht, sm_things2 x hx, rfl⟩⟩).is (tf1_of got5)
  have s12 : Sm 3 (tt [[1, 2]]) := sm_tt (by decide) fun t ht => by rw [List.mem_singleton.mp ht]; decide
  refine q_asg (f_catL (ev_v rfl) (Fv.ev (ds := [.lst (tf1 9), .bl false, .bl true, .bl true]) (fv_lst (av_cons hc2.ev (av_cons (ev_call (av_cons (ev_tup (av_cons (ev_v rfl) (av_cons (ev_v rfl) av_nil))) (av_cons (ev_v rfl) av_nil)) ⟨[half, third], farT, rfl, few_ht, sm_far, by rw [got6]⟩)
    (av_cons (ev_call (av_cons (ev_tup (av_cons (ev_v rfl) av_nil)) (av_cons (ev_tup (av_cons (ev_tup (av_cons ev_int (av_cons ev_int av_nil))) av_nil)) av_nil)) ⟨[half], tt [[1, 2]], rfl, few_h, s12, by rw [got7]⟩)
    (av_cons (ev_call (av_cons (ev_tup (av_cons (ev_v rfl) av_nil)) (av_cons (ev_tup (av_cons (ev_tup (av_cons ev_int (av_cons ev_int av_nil))) av_nil)) av_nil)) ⟨[half], tt [[1, 2]], rfl, few_h, s12, by rw [got8]⟩) av_nil)))))) (by show 4 + 4 ≤ 100000; decide)).ev ?_
  have e9 := (f_tf1 (Γ := [.dat (ti slow), .dat (ti quick), .dat (fr half), .dat (fr third), .dat (.lst things2), .dat (.lst ([.lst (tf1 10), .bl false, .bl true, .bl false] ++ [.lst (tf1 9), .bl false, .bl true, .bl true])), .dat (.lst [.lst (tf1 10), .bl false, .bl true, .bl false]), .dat (ti fF), .dat (ti gG), .dat farT, .un]) (n := 9) (by decide)).ev
  refine d_ret (e_c2 (x := .lst ([.lst (tf1 10), .bl false, .bl true, .bl false] ++ [.lst (tf1 9), .bl false, .bl true, .bl true])) (ev_v rfl) (f_catL (ev_v rfl) (Fv.ev (ds := [.lst (tf1 9), .bl false, .bl true, .bl true]) (fv_lst (av_cons e9 (av_cons ev_bl (av_cons ev_bl (av_cons ev_bl av_nil)))))) (by show 4 + 4 ≤ 100000; decide)).ev ⟨_, rfl, ?_, rfl⟩) rfl
  refine ⟨by show 8 ≤ 100000; decide, fun d hd => ?_⟩
  rcases List.mem_cons.mp hd with rfl | hd
  · exact bt_tf1 (by decide)
  rcases List.mem_cons.mp hd with rfl | hd
  · exact bt_bl
  rcases List.mem_cons.mp hd with rfl | hd
  · exact bt_bl
  rcases List.mem_cons.mp hd with rfl | hd
  · exact bt_bl
  rcases List.mem_cons.mp hd with rfl | hd
  · exact bt_tf1 (by decide)
  rcases List.mem_cons.mp hd with rfl | hd
  · exact bt_bl
  rcases List.mem_cons.mp hd with rfl | hd
  · exact bt_bl
  rw [List.mem_singleton.mp hd]; exact bt_bl
end DL
set_option Elab.async false
set_option linter.all false
set_option maxRecDepth 100000
set_option maxHeartbeats 2000000
namespace DL
open PySem L2 PyProof.Rows RZ
variable {K : PySem.W.Frag}

/-! ### the script's cells, the box, the law -/
def spCells (K : PySem.W.Frag) : Sp := fun vs H Q _ => ∃ (a : Addr) (ns : List Int), vs = [.ref a, .int 1] ∧ SqL K H a (ns.map V.int) ∧ ns.length ≤ 63 ∧ ∀ (p : Addr) (H' : Hp) (c : Int), H' p = some (.lst [.int c]) → Q (.ref p) H'
theorem cut_ints (ns : List Int) (lo hi : Option Int) : cutV (ns.map V.int) lo hi = ((ns.drop (HT.sIx ns.length 0 lo)).take (HT.sIx ns.length ns.length hi - HT.sIx ns.length 0 lo)).map V.int := by
  unfold cutV
  rw [List.length_map, List.map_take, List.map_drop]
theorem run_rest {a L : Addr} {ns : List Int} {H H1 : Hp} {c : Int} {E : Ends} (hS : SqL K H a (ns.map V.int)) (h63 : ns.length ≤ 63) (s : Same H H1) (hL : H1 L = some (.lst [.int c])) (q : ∀ (p : Addr) (H' : Hp) (c : Int), H' p = some (.lst [.int c]) → E.rt (.ref p) H') :
    (tSeq (tFor (iEnum K (tCons (tSl (rSlL K) (tVar 0) (tPart (tVar 1)) (tPart (tC (.int 63)))) tNil)) (gTup K 2 (gCons (gName 3) (gCons (gName 4) gNil))) (tSeq (tAsg (tOp xMod (tCB rInt1 (tCons (tVar 3) tNil)) (tVar 1)) (gName 5))
    (tAsg (tOp xAdd (tOp (rIxL K) (tVar 2) (tVar 5)) (tOp xMul (tVar 4) (tOp xAdd (tVar 3) (tC (.int 2))))) (gSub (tVar 2) (tVar 5) rSetL)))) (tRet (tVar 2))) E [some (.ref a), some (.int 1), some (.ref L), none, none, none] H1 := by
  refine ⟨_, rfl, ⟨_, rfl, 1, rfl, 63, rfl, a, _, rfl, s.seq hS, fun p4 hp4 => ?_⟩⟩
  rw [cut_ints]
  have hms : ((ns.drop (HT.sIx ns.length 0 (some 1))).take (HT.sIx ns.length ns.length (some 63) - HT.sIx ns.length 0 (some 1))).length ≤ 63 := by
    rw [List.length_take, List.length_drop]; omega
  generalize ((ns.drop (HT.sIx ns.length 0 (some 1))).take (HT.sIx ns.length ns.length (some 63) - HT.sIx ns.length 0 (some 1))) = ms at hms
  have hpL : L ≠ p4 := fun z => by rw [z, hp4] at hL; cases hL
  refine ⟨p4, _, rfl, SqL.of upd_same, ?_⟩
  refine for_it (walk_enum (xs := ms.map V.int)) (fun m σ H' => ∃ c s3 s4 s5, σ = [some (.ref a), some (.int 1), some (.ref L), s3, s4, s5] ∧ H' L = some (.lst [.int c]) ∧ H' p4 = some (.lst (ms.map V.int))) ⟨c, none, none, none, rfl, by rw [upd_ne hpL]; exact hL, upd_same⟩ (fun m σ H' _ ⟨_, _, _, _, _, _, h⟩ => SqL.of h) ?_ ?_
  · rintro i x σ H' H2 hi ⟨c, s3, s4, s5, rfl, hc, hp⟩ ⟨T, u, v, rfl, hT, rfl, hu, hv⟩
    cases hu
    have hv : (ms.map V.int)[i]? = some v := hv
    rw [List.getElem?_map] at hv
    cases e : ms[i]? with
    | none => rw [e] at hv; cases hv
    | some z =>
      rw [e] at hv
      cases hv
      have hLT : L ≠ T := fun w => by rw [w, hT] at hc; cases hc
      have hpT : p4 ≠ T := fun w => by rw [w, hT] at hp; cases hp
      refine ⟨T, _, rfl, SqT.of upd_same, rfl, _, _, rfl, _, _, rfl, rfl, ?_⟩
      refine ⟨_, rfl, .inl ⟨(i : Int), rfl, _, rfl, (i : Int), 1, rfl, rfl, show (0 : Int) < 1 by decide, ?_⟩⟩
      have hz : (i : Int) % 1 = 0 := Int.emod_one _
      refine ⟨_, rfl, _, rfl, L, _, (i : Int) % 1, .int c, rfl, rfl, SqL.of (by rw [upd_ne hLT]; exact hc), by rw [hz]; rfl, ?_⟩
      refine ⟨_, rfl, _, rfl, (i : Int), 2, rfl, rfl, z, (i : Int) + 2, rfl, rfl, .inr ?_, c, _, rfl, rfl, ?_⟩
      · have h1 : i < ms.length := (List.getElem?_eq_some_iff.mp e).1
        constructor <;> omega
      · refine ⟨_, rfl, _, rfl, L, _, (i : Int) % 1, 0, rfl, rfl, by rw [upd_ne hLT]; exact hc, by rw [hz]; rfl, ?_⟩
        exact ⟨_, _, _, _, rfl, upd_same, by rw [upd_ne (Ne.symm hpL), upd_ne hpT]; exact hp⟩
  · rintro σ H' ⟨c, s3, s4, s5, rfl, hc, hp⟩
    exact ⟨_, rfl, q L H' c hc⟩
theorem run_cells {a : Addr} {ns : List Int} {H : Hp} {E : Ends} (hS : SqL K H a (ns.map V.int)) (h63 : ns.length ≤ 63) (q : ∀ (p : Addr) (H' : Hp) (c : Int), H' p = some (.lst [.int c]) → E.rt (.ref p) H') :
    t_law_cells K E [some (.ref a), some (.int 1), none, none, none, none] H := by
  refine ⟨_, rfl, ⟨_, rfl, 1, rfl, a, _, rfl, hS, fun p1 hp1 => ?_⟩⟩
  refine ⟨p1, _, rfl, .inl (SqL.of upd_same), fun p2 hp2 => ?_⟩
  have s1 : Same H (upd H p1 (.lst (cutV (ns.map V.int) none (some 1)))) := same_upd hp1
  have s2 := s1.trans (same_upd (o := .lst (cutV (ns.map V.int) none (some 1))) hp2)
  cases ns with
  | nil =>
    refine ⟨false, .inl ⟨_, SqL.of upd_same, rfl⟩, ?_⟩
    rw [if_neg Bool.false_ne_true]
    refine ⟨by show 1 ≤ sizeLine; decide, fun p3 hp3 => ?_⟩
    exact run_rest (c := 0) hS h63 (s2.trans (same_upd hp3)) upd_same q
  | cons z r =>
    have ec : cutV ((z :: r).map V.int) none (some 1) = [.int z] := by
      unfold cutV HT.sIx
      simp
    rw [ec] at s2 ⊢
    refine ⟨true, .inl ⟨[.int z], SqL.of upd_same, rfl⟩, ?_⟩
    exact run_rest (c := z) hS h63 s2 upd_same q
def spBox : Sp := fun vs H Q _ => ∃ (p : Addr) (c : Int), vs = [.ref p, .int 0] ∧ H p = some (.lst [.int c]) ∧ ∀ (l : Addr) (H' : Hp) (a b : Int), H' l = some (.lst [.int a, .int b, .int 0]) → TinOk 0 a b 0 → Q (.ref l) H'
theorem run_box {p : Addr} {c : Int} {H : Hp} {E : Ends} (hp : H p = some (.lst [.int c])) (q : ∀ (l : Addr) (H' : Hp) (a b : Int), H' l = some (.lst [.int a, .int b, .int 0]) → TinOk 0 a b 0 → E.rt (.ref l) H') :
    t_law_box K E [some (.ref p), some (.int 0), none] H := by
  have en : En (fun b => if b = p then some (.lst [.int c]) else none) H [some (.ref p), some (.int 0), none] [.dat (.lst [.int c]), .dat (.int 0), .un] := by
    refine ⟨fun b u e => ?_, rfl, fun i d q => ?_, fun i es q => ?_, fun i m q => ?_, fun i j x y p q1 q2 m1 m2 _ _ => ?_⟩
    · by_cases z : b = p
      · subst z; rw [if_pos rfl] at e; rw [hp]; exact e
      · rw [if_neg z] at e; cases e
    · match i, q with
      | 0, q => cases q; exact ⟨_, rfl, .lst (if_pos rfl) (.cons (.int _) .nil)⟩
      | 1, q => cases q; exact ⟨_, rfl, .int _⟩
      | 2, q => cases q
      | i + 3, q => simp at q
    · match i, q with
      | 0, q => cases q
      | 1, q => cases q
      | 2, q => cases q
      | i + 3, q => simp at q
    · match i, q with
      | 0, q => cases q
      | 1, q => cases q
      | 2, q => cases q
      | i + 3, q => simp at q
    · match i, q1 with
      | 0, q1 => cases q1; cases m1
      | 1, q1 => cases q1; cases m1
      | 2, q1 => cases q1; cases m1
      | i + 3, q1 => simp at q1
  have h1 : Ev (tIf (tTest (tOp xLt (tVar 1) (tCB (rLenS K) (tCons (tVar 0) tNil)))) (tOp (rIxL K) (tVar 0) (tVar 1)) (tC (.int 0))) [.dat (.lst [.int c]), .dat (.int 0), .un] (.int c) :=
    e_if (t_test (e_lt (ev_v rfl) (e_lenL (ev_v rfl)))) (fun _ => e_ixL (ev_v rfl) (ev_v rfl) (atI_pos (by decide) rfl)) fun z => nomatch z
  refine h1 _ H _ en _ fun v Hs1 H1 e1 d1 => ?_
  have en2 := (en.ext e1).set (i := 2) d1
  have ea : ∀ {Γ : Gam}, Γ[2]? = some (.dat (.int c)) → Ev (tOp xMul (tCB rAbs (tCons (tVar 2) tNil)) (tCB rInt1 (tCons (tOp xGe (tCB rAbs (tCons (tVar 2) tNil)) (tOp xPow (tC (.int 10)) (tC (.int 18)))) tNil))) Γ (.int ((c.natAbs : Int) * if decide ((10 : Int) ^ (18 : Int).toNat ≤ (c.natAbs : Int)) then 1 else 0)) := fun h =>
    e_mul (e_abs (ev_v h)) (e_intB (e_ge (e_abs (ev_v h)) (e_pow ev_int ev_int (by decide)))) (.inr (by split <;> decide))
  have eb : ∀ {Γ : Gam}, Γ[2]? = some (.dat (.int c)) → Γ[1]? = some (.dat (.int 0)) → Ev (tOp xAdd (tOp xAdd (tOp xMod (tCB rInt1 (tCons (tVar 2) tNil)) (tC (.int 2305843009213693951))) (tOp xMul (tC (.int 39373)) (tVar 1))) (tC (.int 3190037))) Γ (.int (c % 2305843009213693951 + 39373 * 0 + 3190037)) := fun h h2 =>
    e_add (e_add (e_mod (e_int (ev_v h)) ev_int (by decide)) (e_mul ev_int (ev_v h2) (.inl (by decide)))) ev_int
  have hf : Fv (tLst (tCons (tOp xMul (tCB rAbs (tCons (tVar 2) tNil)) (tCB rInt1 (tCons (tOp xGe (tCB rAbs (tCons (tVar 2) tNil)) (tOp xPow (tC (.int 10)) (tC (.int 18)))) tNil))) (tCons (tOp xAdd (tOp xAdd (tOp xMod (tCB rInt1 (tCons (tVar 2) tNil)) (tC (.int 2305843009213693951))) (tOp xMul (tC (.int 39373)) (tVar 1))) (tC (.int 3190037))) (tCons (tC (.int 0)) tNil)))) [.dat (.lst [.int c]), .dat (.int 0), .dat (.int c)]
      [.int ((c.natAbs : Int) * if decide ((10 : Int) ^ (18 : Int).toNat ≤ (c.natAbs : Int)) then 1 else 0), .int (c % 2305843009213693951 + 39373 * 0 + 3190037), .int 0] := fv_lst (av_cons (ea rfl) (av_cons (eb rfl rfl) (av_cons ev_int av_nil)))
  refine hf Hs1 H1 _ en2 _ fun l vs Hs2 H2 e2 _ _ hl dv => ?_
  have ev : vs = [.int _, .int _, .int _] := Ds.ofInts (ns := [_, _, _]) dv
  rw [ev] at hl
  have w1 := Int.emod_nonneg c (show (2305843009213693951 : Int) ≠ 0 by decide)
  have w2 := Int.emod_lt_of_pos c (show (0 : Int) < 2305843009213693951 by decide)
  refine q l H2 _ _ hl ⟨Int.mul_nonneg (by omega) (by split <;> decide), by omega, by omega, by decide, by decide⟩
def spLaw (K : PySem.W.Frag) : Sp := fun vs H Q _ => ∃ (a : Addr) (ns : List Int), vs = [.ref a] ∧ SqL K H a (ns.map V.int) ∧ ns.length ≤ 63 ∧ ∀ H', Q (.bl true) H'
theorem run_law {a : Addr} {ns : List Int} {H : Hp} {E : Ends} (hS : SqL K H a (ns.map V.int)) (h63 : ns.length ≤ 63) (q : ∀ H', E.rt (.bl true) H') : t_law K spBox (spF R_hand) (spCells K) spRight E [some (.ref a)] H := by
  refine ⟨fun _ => none, [], .bl true, (fun _ _ e => nomatch e), Ds.nil, ⟨rfl, rfl⟩, fun v Hs1 H1 e1 d1 => ?_⟩
  cases d1
  refine ⟨true, rfl, ?_⟩
  show (tCall spRight [] E0 (tCons (tCall spBox [] E0 (tCons (tCall (spCells K) [] E0 (tCons (tVar 0) (tCons (tC (.int 1)) tNil))) (tCons (tC (.int 0)) tNil))) tNil)) _ _ _
  refine ⟨_, rfl, a, ns, rfl, e1.h.seq hS, h63, fun p H2 c hc => ?_⟩
  refine ⟨p, c, rfl, hc, fun l H3 x y hl ht => ?_⟩
  refine ⟨fun _ => none, l, [], [], 0, x, y, 0, rfl, (fun _ _ e => nomatch e), rfl, hl, ht, by decide, Ds.nil, rfl, fun v d Hs' H' a' b' c' _ _ _ hd dv => ?_⟩
  have hd : d = .bl true := hd
  subst hd
  cases dv
  exact q H'
end DL
set_option Elab.async false
set_option linter.all false
set_option maxRecDepth 100000
set_option maxHeartbeats 2000000
/-! each def, as it stands at the top, keeps its promise (printed by asm.py) -/
namespace DL
open PySem L2 PyProof.Rows RZ
structure In1 (K : PySem.W.Frag) (nm : Str) (st : Stmt) : Prop where
  ex : ∃ (f : Addr) (od an : Option Addr) (sl : Array (Option Value)) (oc kV dc pm cd ct : Value), PySem.W.nsIn K mainGlobals nm = some (some (.ref f)) ∧ K.lookup f = some ⟨oc, od, .func (PySem.W.fnOf nm nm (defArgs st) (defBody st) (defScope st) .none kV dc pm an cd ct), sl⟩ ∧ PySem.W.codeIn K cd nm = true ∧ PySem.W.keepIn K (.ref f) = true
theorem in1_mk {K : PySem.W.Frag} {nm : Str} {st : Stmt} {f : Addr} {od an : Option Addr} {sl : Array (Option Value)} {oc kV dc pm cd ct : Value} (a : PySem.W.nsIn K mainGlobals nm = some (some (.ref f))) (l : K.lookup f = some ⟨oc, od, .func (PySem.W.fnOf nm nm (defArgs st) (defBody st) (defScope st) .none kV dc pm an cd ct), sl⟩) (c : PySem.W.codeIn K cd nm = true) (k : PySem.W.keepIn K (.ref f) = true) : In1 K nm st :=
  ⟨⟨f, od, an, sl, oc, kV, dc, pm, cd, ct, a, l, c, k⟩⟩
theorem many_mk {K : PySem.W.Frag} {t : Tok} (a : PySem.W.nsIn K mainGlobals "MANY" = some (some (.int 2000 t))) : ∃ t, PySem.W.nsIn K mainGlobals "MANY" = some (some (.int 2000 t)) := ⟨t, a⟩
structure In2 (K : PySem.W.Frag) (mg : Str → Option Value) (nm : Str) (st : Stmt) : Prop where
  ex : ∃ (f : Addr) (fd : FuncData), mg nm = some (.ref f) ∧ PySem.W.keepIn K (.ref f) = true ∧ Fun K nm nm st f fd
theorem In1.to {K : PySem.W.Frag} {h : Heap} {mg : Str → Option Value} {nm : Str} {st : Stmt} (I : In1 K nm st) (X : K.In h) (G : h.Ns mainGlobals mg) : In2 K mg nm st := by
  obtain ⟨f, od, an, sl, oc, kV, dc, pm, cd, ct, a, l, c, k⟩ := I.ex
  exact ⟨f, _, PySem.W.mg_of X G a, k, fun_mk (st := st) l c k⟩
section
variable {P : Program} {w : World} {K : PySem.W.Frag} {mg : Str → Option Value} {base : Heap}
theorem no_level {f : Addr} {fd : FuncData} {ps : List Str} {k : Nat} : FnOk P w K mg base CX0 k f fd ps (spF fun _ _ => False) :=
  ⟨fun vs H Q E h => by obtain ⟨_, _, _, _, _, h, _⟩ := h; exact h.elim, fun A outer s H args us vs Q E _ _ _ _ h => by obtain ⟨_, _, _, _, _, h, _⟩ := h; exact h.elim⟩

theorem has_is_number (I : In2 K mg "is_number" s_is_number) (G : Glob mg) : Has P w K mg base 1 "is_number" ["thing"] (spF R_is_number) := by
  obtain ⟨f, fd, m, k, F⟩ := I.ex
  exact ⟨f, fd, fn_pure F sc_is_number (fun ds d h => by obtain ⟨_, rfl, _⟩ := h; rfl) (fun cdv A outer s H E hr => ⟨_, p_is_number G hr, fun ds d h => d_is_number h⟩), m, k, F.binds (ps := ["thing"]) fun _ _ _ _ _ _ us hl => match us, hl with | [_], _ => rfl⟩

theorem has_is_from (I : In2 K mg "is_from" s_is_from) (G : Glob mg) (h_is_number : Has P w K mg base 1 "is_number" ["thing"] (spF R_is_number)) : Has P w K mg base 2 "is_from" ["thing", "least"] (spF R_is_from) := by
  obtain ⟨f, fd, m, k, F⟩ := I.ex
  exact ⟨f, fd, fn_pure F sc_is_from (fun ds d h => by obtain ⟨_, _, rfl, _⟩ := h; rfl) (fun cdv A outer s H E hr => ⟨_, p_is_from G h_is_number hr, fun ds d h => d_is_from h⟩), m, k, F.binds (ps := ["thing", "least"]) fun _ _ _ _ _ _ us hl => match us, hl with | [_, _], _ => rfl⟩

theorem has_is_long (I : In2 K mg "is_long" s_is_long) (G : Glob mg) : Has P w K mg base 1 "is_long" ["thing", "length"] (spF R_is_long) := by
  obtain ⟨f, fd, m, k, F⟩ := I.ex
  exact ⟨f, fd, fn_pure F sc_is_long (fun ds d h => by obtain ⟨_, _, rfl, _⟩ := h; rfl) (fun cdv A outer s H E hr => ⟨_, p_is_long G hr, fun ds d h => d_is_long h⟩), m, k, F.binds (ps := ["thing", "length"]) fun _ _ _ _ _ _ us hl => match us, hl with | [_, _], _ => rfl⟩

theorem has_tupled_step {kk n : Nat} {R : List D → D → Prop} (I : In2 K mg "tupled" s_tupled) (G : Glob mg) (h : Has P w K mg base kk "tupled" ["value"] (spF R)) (hR : ∀ m x, m + 1 = n → Tt m x → R [x] x) : Has P w K mg base (kk + 1) "tupled" ["value"] (spF (R_tupled n)) := by
  obtain ⟨f, fd, m, k, F⟩ := I.ex
  exact ⟨f, fd, fn_pure F sc_tupled (fun ds d h => by obtain ⟨_, rfl, _⟩ := h; rfl) (fun cdv A outer s H E hr => ⟨_, p_tupled G h hr, fun ds d h => d_tupled hR h⟩), m, k, F.binds (ps := ["value"]) fun _ _ _ _ _ _ us hl => match us, hl with | [_], _ => rfl⟩

theorem has_tupled_0 (I : In2 K mg "tupled" s_tupled) : Has P w K mg base 0 "tupled" ["value"] (spF fun _ _ => False) := by
  obtain ⟨f, fd, m, k, F⟩ := I.ex
  exact ⟨f, fd, no_level, m, k, F.binds (ps := ["value"]) fun _ _ _ _ _ _ us hl => match us, hl with | [_], _ => rfl⟩

theorem has_tupled (I : In2 K mg "tupled" s_tupled) (G : Glob mg) : Has P w K mg base 3 "tupled" ["value"] (spF (R_tupled 2)) := by
  have h0 := has_tupled_0 (P := P) (w := w) (base := base) I
  have h1 := has_tupled_step (n := 0) I G h0 (fun m x e => nomatch e)
  have h2 := has_tupled_step (n := 1) I G h1 (fun m x e hx => by cases e; exact ⟨x, rfl, hx, rfl⟩)
  have h3 := has_tupled_step (n := 2) I G h2 (fun m x e hx => by cases e; exact ⟨x, rfl, hx, rfl⟩)
  exact h3

theorem has_is_wheel (I : In2 K mg "is_wheel" s_is_wheel) (G : Glob mg) (h_is_number : Has P w K mg base 1 "is_number" ["thing"] (spF R_is_number)) : Has P w K mg base 2 "is_wheel" ["thing"] (spF R_is_wheel) := by
  obtain ⟨f, fd, m, k, F⟩ := I.ex
  exact ⟨f, fd, fn_pure F sc_is_wheel (fun ds d h => by obtain ⟨_, rfl, _⟩ := h; rfl) (fun cdv A outer s H E hr => ⟨_, p_is_wheel G h_is_number hr, fun ds d h => d_is_wheel h⟩), m, k, F.binds (ps := ["thing"]) fun _ _ _ _ _ _ us hl => match us, hl with | [_], _ => rfl⟩

theorem has_sure_wheel (I : In2 K mg "sure_wheel" s_sure_wheel) (G : Glob mg) (h_is_wheel : Has P w K mg base 2 "is_wheel" ["thing"] (spF R_is_wheel)) (h_tupled : Has P w K mg base 3 "tupled" ["value"] (spF (R_tupled 2))) : Has P w K mg base 4 "sure_wheel" ["wheel"] (spF R_sure_wheel) := by
  obtain ⟨f, fd, m, k, F⟩ := I.ex
  exact ⟨f, fd, fn_pure F sc_sure_wheel (fun ds d h => by obtain ⟨_, rfl, _⟩ := h; rfl) (fun cdv A outer s H E hr => ⟨_, p_sure_wheel G h_is_wheel h_tupled hr, fun ds d h => d_sure_wheel h⟩), m, k, F.binds (ps := ["wheel"]) fun _ _ _ _ _ _ us hl => match us, hl with | [_], _ => rfl⟩

theorem has_is_train (I : In2 K mg "is_train" s_is_train) (G : Glob mg) (h_is_wheel : Has P w K mg base 2 "is_wheel" ["thing"] (spF R_is_wheel)) : Has P w K mg base 3 "is_train" ["thing"] (spF R_is_train) := by
  obtain ⟨f, fd, m, k, F⟩ := I.ex
  exact ⟨f, fd, fn_pure F sc_is_train (fun ds d h => by obtain ⟨_, rfl, _⟩ := h; rfl) (fun cdv A outer s H E hr => ⟨_, p_is_train G h_is_wheel hr, fun ds d h => d_is_train h⟩), m, k, F.binds (ps := ["thing"]) fun _ _ _ _ _ _ us hl => match us, hl with | [_], _ => rfl⟩

theorem has_led_in (I : In2 K mg "led_in" s_led_in) (G : Glob mg) : Has P w K mg base 1 "led_in" ["wheel", "number"] (spF R_led_in) := by
  obtain ⟨f, fd, m, k, F⟩ := I.ex
  exact ⟨f, fd, fn_pure F sc_led_in (fun ds d h => by obtain ⟨_, _, rfl, _⟩ := h; rfl) (fun cdv A outer s H E hr => ⟨_, p_led_in G hr, fun ds d h => d_led_in h⟩), m, k, F.binds (ps := ["wheel", "number"]) fun _ _ _ _ _ _ us hl => match us, hl with | [_, _], _ => rfl⟩

theorem has_behind (I : In2 K mg "behind" s_behind) (G : Glob mg) (h_led_in : Has P w K mg base 1 "led_in" ["wheel", "number"] (spF R_led_in)) : Has P w K mg base 2 "behind" ["wheel", "other"] (spF R_behind) := by
  obtain ⟨f, fd, m, k, F⟩ := I.ex
  exact ⟨f, fd, fn_pure F sc_behind (fun ds d h => by obtain ⟨_, _, rfl, _⟩ := h; rfl) (fun cdv A outer s H E hr => ⟨_, p_behind G h_led_in hr, fun ds d h => d_behind h⟩), m, k, F.binds (ps := ["wheel", "other"]) fun _ _ _ _ _ _ us hl => match us, hl with | [_, _], _ => rfl⟩

theorem has_put_in (I : In2 K mg "put_in" s_put_in) (G : Glob mg) (h_behind : Has P w K mg base 2 "behind" ["wheel", "other"] (spF R_behind)) : Has P w K mg base 3 "put_in" ["train"] (spF R_put_in) := by
  obtain ⟨f, fd, m, k, F⟩ := I.ex
  exact ⟨f, fd, fn_pure F sc_put_in (fun ds d h => by obtain ⟨_, _, rfl, _⟩ := h; rfl) (fun cdv A outer s H E hr => ⟨_, p_put_in G h_behind hr, fun ds d h => d_put_in h⟩), m, k, F.binds (ps := ["train"]) fun _ _ _ _ _ _ us hl => match us, hl with | [_], _ => rfl⟩

theorem has_is_fraction (I : In2 K mg "is_fraction" s_is_fraction) (G : Glob mg) (h_is_from : Has P w K mg base 2 "is_from" ["thing", "least"] (spF R_is_from)) (h_is_long : Has P w K mg base 1 "is_long" ["thing", "length"] (spF R_is_long)) (h_is_number : Has P w K mg base 1 "is_number" ["thing"] (spF R_is_number)) : Has P w K mg base 3 "is_fraction" ["thing"] (spF R_is_fraction) := by
  obtain ⟨f, fd, m, k, F⟩ := I.ex
  exact ⟨f, fd, fn_pure F sc_is_fraction (fun ds d h => by obtain ⟨_, rfl, _⟩ := h; rfl) (fun cdv A outer s H E hr => ⟨_, p_is_fraction G h_is_from h_is_long h_is_number hr, fun ds d h => d_is_fraction h⟩), m, k, F.binds (ps := ["thing"]) fun _ _ _ _ _ _ us hl => match us, hl with | [_], _ => rfl⟩

theorem has_sure_fraction (I : In2 K mg "sure_fraction" s_sure_fraction) (G : Glob mg) (h_is_fraction : Has P w K mg base 3 "is_fraction" ["thing"] (spF R_is_fraction)) (h_tupled : Has P w K mg base 3 "tupled" ["value"] (spF (R_tupled 2))) : Has P w K mg base 4 "sure_fraction" ["one"] (spF R_sure_fraction) := by
  obtain ⟨f, fd, m, k, F⟩ := I.ex
  exact ⟨f, fd, fn_pure F sc_sure_fraction (fun ds d h => by obtain ⟨_, rfl, _⟩ := h; rfl) (fun cdv A outer s H E hr => ⟨_, p_sure_fraction G h_is_fraction h_tupled hr, fun ds d h => d_sure_fraction h⟩), m, k, F.binds (ps := ["one"]) fun _ _ _ _ _ _ us hl => match us, hl with | [_], _ => rfl⟩

theorem has_made (I : In2 K mg "made" s_made) (G : Glob mg) : Has P w K mg base 1 "made" ["above", "below"] (spF R_made) := by
  obtain ⟨f, fd, m, k, F⟩ := I.ex
  exact ⟨f, fd, fn_pure F sc_made (fun ds d h => by obtain ⟨_, _, rfl, _⟩ := h; rfl) (fun cdv A outer s H E hr => ⟨_, p_made G hr, fun ds d h => d_made h⟩), m, k, F.binds (ps := ["above", "below"]) fun _ _ _ _ _ _ us hl => match us, hl with | [_, _], _ => rfl⟩

theorem has_two (I : In2 K mg "two" s_two) (G : Glob mg) (h_sure_fraction : Has P w K mg base 4 "sure_fraction" ["one"] (spF R_sure_fraction)) : Has P w K mg base 5 "two" ["one", "other"] (spF R_two) := by
  obtain ⟨f, fd, m, k, F⟩ := I.ex
  exact ⟨f, fd, fn_pure F sc_two (fun ds d h => by obtain ⟨_, _, rfl, _⟩ := h; rfl) (fun cdv A outer s H E hr => ⟨_, p_two G h_sure_fraction hr, fun ds d h => d_two h⟩), m, k, F.binds (ps := ["one", "other"]) fun _ _ _ _ _ _ us hl => match us, hl with | [_, _], _ => rfl⟩

theorem has_negative (I : In2 K mg "negative" s_negative) (G : Glob mg) (h_sure_fraction : Has P w K mg base 4 "sure_fraction" ["one"] (spF R_sure_fraction)) : Has P w K mg base 5 "negative" ["one"] (spF R_negative) := by
  obtain ⟨f, fd, m, k, F⟩ := I.ex
  exact ⟨f, fd, fn_pure F sc_negative (fun ds d h => by obtain ⟨_, rfl, _⟩ := h; rfl) (fun cdv A outer s H E hr => ⟨_, p_negative G h_sure_fraction hr, fun ds d h => d_negative h⟩), m, k, F.binds (ps := ["one"]) fun _ _ _ _ _ _ us hl => match us, hl with | [_], _ => rfl⟩

theorem has_compared (I : In2 K mg "compared" s_compared) (G : Glob mg) (h_two : Has P w K mg base 5 "two" ["one", "other"] (spF R_two)) : Has P w K mg base 6 "compared" ["one", "other"] (spF R_compared) := by
  obtain ⟨f, fd, m, k, F⟩ := I.ex
  exact ⟨f, fd, fn_pure F sc_compared (fun ds d h => by obtain ⟨_, _, rfl, _⟩ := h; rfl) (fun cdv A outer s H E hr => ⟨_, p_compared G h_two hr, fun ds d h => d_compared h⟩), m, k, F.binds (ps := ["one", "other"]) fun _ _ _ _ _ _ us hl => match us, hl with | [_, _], _ => rfl⟩

theorem has_floor_in (I : In2 K mg "floor_in" s_floor_in) (G : Glob mg) : Has P w K mg base 1 "floor_in" ["fraction", "number"] (spF R_floor) := by
  obtain ⟨f, fd, m, k, F⟩ := I.ex
  exact ⟨f, fd, fn_pure F sc_floor_in (fun ds d h => by obtain ⟨_, _, rfl, _⟩ := h; rfl) (fun cdv A outer s H E hr => ⟨_, p_floor_in G hr, fun ds d h => d_floor_in h⟩), m, k, F.binds (ps := ["fraction", "number"]) fun _ _ _ _ _ _ us hl => match us, hl with | [_, _], _ => rfl⟩

theorem has_common_of (I : In2 K mg "common_of" s_common_of) (G : Glob mg) : Has P w K mg base 1 "common_of" ["numbers"] (spF R_common_of) := by
  obtain ⟨f, fd, m, k, F⟩ := I.ex
  exact ⟨f, fd, fn_pure F sc_common_of (fun ds d h => by obtain ⟨_, rfl, _⟩ := h; rfl) (fun cdv A outer s H E hr => ⟨_, p_common_of G hr, fun ds d h => d_common_of h⟩), m, k, F.binds (ps := ["numbers"]) fun _ _ _ _ _ _ us hl => match us, hl with | [_], _ => rfl⟩

theorem has_common_bottom (I : In2 K mg "common_bottom" s_common_bottom) (G : Glob mg) (h_common_of : Has P w K mg base 1 "common_of" ["numbers"] (spF R_common_of)) (h_is_fraction : Has P w K mg base 3 "is_fraction" ["thing"] (spF R_is_fraction)) (h_tupled : Has P w K mg base 3 "tupled" ["value"] (spF (R_tupled 2))) : Has P w K mg base 4 "common_bottom" ["fractions"] (spF R_common_bottom) := by
  obtain ⟨f, fd, m, k, F⟩ := I.ex
  exact ⟨f, fd, fn_pure F sc_common_bottom (fun ds d h => by obtain ⟨_, rfl, _⟩ := h; rfl) (fun cdv A outer s H E hr => ⟨_, p_common_bottom G h_common_of h_is_fraction h_tupled hr, fun ds d h => d_common_bottom h⟩), m, k, F.binds (ps := ["fractions"]) fun _ _ _ _ _ _ us hl => match us, hl with | [_], _ => rfl⟩

theorem has_is_turns (I : In2 K mg "is_turns" s_is_turns) (G : Glob mg) (h_is_fraction : Has P w K mg base 3 "is_fraction" ["thing"] (spF R_is_fraction)) : Has P w K mg base 4 "is_turns" ["thing"] (spF R_is_turns) := by
  obtain ⟨f, fd, m, k, F⟩ := I.ex
  exact ⟨f, fd, fn_pure F sc_is_turns (fun ds d h => by obtain ⟨_, rfl, _⟩ := h; rfl) (fun cdv A outer s H E hr => ⟨_, p_is_turns G h_is_fraction hr, fun ds d h => d_is_turns h⟩), m, k, F.binds (ps := ["thing"]) fun _ _ _ _ _ _ us hl => match us, hl with | [_], _ => rfl⟩

theorem has_sure_turns (I : In2 K mg "sure_turns" s_sure_turns) (G : Glob mg) (h_is_turns : Has P w K mg base 4 "is_turns" ["thing"] (spF R_is_turns)) (h_tupled : Has P w K mg base 3 "tupled" ["value"] (spF (R_tupled 2))) : Has P w K mg base 5 "sure_turns" ["turns"] (spF R_sure_turns) := by
  obtain ⟨f, fd, m, k, F⟩ := I.ex
  exact ⟨f, fd, fn_pure F sc_sure_turns (fun ds d h => by obtain ⟨_, rfl, _⟩ := h; rfl) (fun cdv A outer s H E hr => ⟨_, p_sure_turns G h_is_turns h_tupled hr, fun ds d h => d_sure_turns h⟩), m, k, F.binds (ps := ["turns"]) fun _ _ _ _ _ _ us hl => match us, hl with | [_], _ => rfl⟩

theorem has_sure_few (I : In2 K mg "sure_few" s_sure_few) (G : Glob mg) (h_common_bottom : Has P w K mg base 4 "common_bottom" ["fractions"] (spF R_common_bottom)) (h_sure_turns : Has P w K mg base 5 "sure_turns" ["turns"] (spF R_sure_turns)) : Has P w K mg base 6 "sure_few" ["turns"] (spF R_sure_few) := by
  obtain ⟨f, fd, m, k, F⟩ := I.ex
  exact ⟨f, fd, fn_pure F sc_sure_few (fun ds d h => by obtain ⟨_, rfl, _⟩ := h; rfl) (fun cdv A outer s H E hr => ⟨_, p_sure_few G h_common_bottom h_sure_turns hr, fun ds d h => d_sure_few h⟩), m, k, F.binds (ps := ["turns"]) fun _ _ _ _ _ _ us hl => match us, hl with | [_], _ => rfl⟩

theorem has_value_in (I : In2 K mg "value_in" s_value_in) (G : Glob mg) (h_floor_in : Has P w K mg base 1 "floor_in" ["fraction", "number"] (spF R_floor)) (h_made : Has P w K mg base 1 "made" ["above", "below"] (spF R_made)) : Has P w K mg base 2 "value_in" ["turns", "number"] (spF R_value_in) := by
  obtain ⟨f, fd, m, k, F⟩ := I.ex
  exact ⟨f, fd, fn_pure F sc_value_in (fun ds d h => by obtain ⟨_, _, rfl, _⟩ := h; rfl) (fun cdv A outer s H E hr => ⟨_, p_value_in G h_floor_in h_made hr, fun ds d h => d_value_in h⟩), m, k, F.binds (ps := ["turns", "number"]) fun _ _ _ _ _ _ us hl => match us, hl with | [_, _], _ => rfl⟩

theorem has_bottoms_in (I : In2 K mg "bottoms_in" s_bottoms_in) (G : Glob mg) (h_common_bottom : Has P w K mg base 4 "common_bottom" ["fractions"] (spF R_common_bottom)) (h_compared : Has P w K mg base 6 "compared" ["one", "other"] (spF R_compared)) (h_value_in : Has P w K mg base 2 "value_in" ["turns", "number"] (spF R_value_in)) : Has P w K mg base 7 "bottoms_in" ["turns"] (spF R_bottoms_in) := by
  obtain ⟨f, fd, m, k, F⟩ := I.ex
  exact ⟨f, fd, fn_pure F sc_bottoms_in (fun ds d h => by obtain ⟨_, rfl, _⟩ := h; rfl) (fun cdv A outer s H E hr => ⟨_, p_bottoms_in G h_common_bottom h_compared h_value_in hr, fun ds d h => d_bottoms_in h⟩), m, k, F.binds (ps := ["turns"]) fun _ _ _ _ _ _ us hl => match us, hl with | [_], _ => rfl⟩

theorem has_most_in (I : In2 K mg "most_in" s_most_in) (G : Glob mg) (h_bottoms_in : Has P w K mg base 7 "bottoms_in" ["turns"] (spF R_bottoms_in)) (h_value_in : Has P w K mg base 2 "value_in" ["turns", "number"] (spF R_value_in)) : Has P w K mg base 8 "most_in" ["turns"] (spF R_most_in) := by
  obtain ⟨f, fd, m, k, F⟩ := I.ex
  exact ⟨f, fd, fn_pure F sc_most_in (fun ds d h => by obtain ⟨_, rfl, _⟩ := h; rfl) (fun cdv A outer s H E hr => ⟨_, p_most_in G h_bottoms_in h_value_in hr, fun ds d h => d_most_in h⟩), m, k, F.binds (ps := ["turns"]) fun _ _ _ _ _ _ us hl => match us, hl with | [_], _ => rfl⟩

theorem has_own_in (I : In2 K mg "own_in" s_own_in) (G : Glob mg) : Has P w K mg base 1 "own_in" ["wheel"] (spF R_own_in) := by
  obtain ⟨f, fd, m, k, F⟩ := I.ex
  exact ⟨f, fd, fn_pure F sc_own_in (fun ds d h => by obtain ⟨_, rfl, _⟩ := h; rfl) (fun cdv A outer s H E hr => ⟨_, p_own_in G hr, fun ds d h => d_own_in h⟩), m, k, F.binds (ps := ["wheel"]) fun _ _ _ _ _ _ us hl => match us, hl with | [_], _ => rfl⟩

theorem has_come_back_in (I : In2 K mg "come_back_in" s_come_back_in) (G : Glob mg) (h_led_in : Has P w K mg base 1 "led_in" ["wheel", "number"] (spF R_led_in)) (h_own_in : Has P w K mg base 1 "own_in" ["wheel"] (spF R_own_in)) : Has P w K mg base 2 "come_back_in" ["wheel"] (spF R_come_back) := by
  obtain ⟨f, fd, m, k, F⟩ := I.ex
  exact ⟨f, fd, fn_pure F sc_come_back_in (fun ds d h => by obtain ⟨_, _, _, _, rfl, _⟩ := h; rfl) (fun cdv A outer s H E hr => ⟨_, p_come_back_in G h_led_in h_own_in hr, fun ds d h => d_come_back_in h⟩), m, k, F.binds (ps := ["wheel"]) fun _ _ _ _ _ _ us hl => match us, hl with | [_], _ => rfl⟩

theorem has_turning_in (I : In2 K mg "turning_in" s_turning_in) (G : Glob mg) (h_come_back_in : Has P w K mg base 2 "come_back_in" ["wheel"] (spF R_come_back)) : Has P w K mg base 3 "turning_in" ["wheel"] (spF R_turning_in) := by
  obtain ⟨f, fd, m, k, F⟩ := I.ex
  exact ⟨f, fd, fn_pure F sc_turning_in (fun ds d h => by obtain ⟨_, rfl, _⟩ := h; rfl) (fun cdv A outer s H E hr => ⟨_, p_turning_in G h_come_back_in hr, fun ds d h => d_turning_in h⟩), m, k, F.binds (ps := ["wheel"]) fun _ _ _ _ _ _ us hl => match us, hl with | [_], _ => rfl⟩

theorem has_fits_in (I : In2 K mg "fits_in" s_fits_in) (G : Glob mg) (h_is_from : Has P w K mg base 2 "is_from" ["thing", "least"] (spF R_is_from)) (h_is_long : Has P w K mg base 1 "is_long" ["thing", "length"] (spF R_is_long)) (h_is_wheel : Has P w K mg base 2 "is_wheel" ["thing"] (spF R_is_wheel)) (h_led_in : Has P w K mg base 1 "led_in" ["wheel", "number"] (spF R_led_in)) (h_turning_in : Has P w K mg base 3 "turning_in" ["wheel"] (spF R_turning_in)) : Has P w K mg base 4 "fits_in" ["wheel", "fraction", "thing", "way"] (spF R_fits_in) := by
  obtain ⟨f, fd, m, k, F⟩ := I.ex
  exact ⟨f, fd, fn_pure F sc_fits_in (fun ds d h => by obtain ⟨_, _, _, _, rfl, _⟩ := h; rfl) (fun cdv A outer s H E hr => ⟨_, p_fits_in G h_is_from h_is_long h_is_wheel h_led_in h_turning_in hr, fun ds d h => d_fits_in h⟩), m, k, F.binds (ps := ["wheel", "fraction", "thing", "way"]) fun _ _ _ _ _ _ us hl => match us, hl with | [_, _, _, _], _ => rfl⟩

theorem has_is_raised (I : In2 K mg "is_raised" s_is_raised) (G : Glob mg) (h_fits_in : Has P w K mg base 4 "fits_in" ["wheel", "fraction", "thing", "way"] (spF R_fits_in)) (h_sure_fraction : Has P w K mg base 4 "sure_fraction" ["one"] (spF R_sure_fraction)) (h_sure_wheel : Has P w K mg base 4 "sure_wheel" ["wheel"] (spF R_sure_wheel)) : Has P w K mg base 5 "is_raised" ["wheel", "fraction", "thing"] (spF (R_moved 1)) := by
  obtain ⟨f, fd, m, k, F⟩ := I.ex
  exact ⟨f, fd, fn_pure F sc_is_raised (fun ds d h => by obtain ⟨_, _, _, rfl, _⟩ := h; rfl) (fun cdv A outer s H E hr => ⟨_, p_is_raised G h_fits_in h_sure_fraction h_sure_wheel hr, fun ds d h => d_is_raised h⟩), m, k, F.binds (ps := ["wheel", "fraction", "thing"]) fun _ _ _ _ _ _ us hl => match us, hl with | [_, _, _], _ => rfl⟩

theorem has_is_lowered (I : In2 K mg "is_lowered" s_is_lowered) (G : Glob mg) (h_fits_in : Has P w K mg base 4 "fits_in" ["wheel", "fraction", "thing", "way"] (spF R_fits_in)) (h_sure_fraction : Has P w K mg base 4 "sure_fraction" ["one"] (spF R_sure_fraction)) (h_sure_wheel : Has P w K mg base 4 "sure_wheel" ["wheel"] (spF R_sure_wheel)) : Has P w K mg base 5 "is_lowered" ["wheel", "fraction", "thing"] (spF (R_moved (-1))) := by
  obtain ⟨f, fd, m, k, F⟩ := I.ex
  exact ⟨f, fd, fn_pure F sc_is_lowered (fun ds d h => by obtain ⟨_, _, _, rfl, _⟩ := h; rfl) (fun cdv A outer s H E hr => ⟨_, p_is_lowered G h_fits_in h_sure_fraction h_sure_wheel hr, fun ds d h => d_is_lowered h⟩), m, k, F.binds (ps := ["wheel", "fraction", "thing"]) fun _ _ _ _ _ _ us hl => match us, hl with | [_, _, _], _ => rfl⟩

theorem has_turns_so (I : In2 K mg "turns_so" s_turns_so) (G : Glob mg) (h_is_train : Has P w K mg base 3 "is_train" ["thing"] (spF R_is_train)) (h_put_in : Has P w K mg base 3 "put_in" ["train"] (spF R_put_in)) (h_turning_in : Has P w K mg base 3 "turning_in" ["wheel"] (spF R_turning_in)) : Has P w K mg base 4 "turns_so" ["turns", "thing", "goal"] (spF R_turns_so) := by
  obtain ⟨f, fd, m, k, F⟩ := I.ex
  exact ⟨f, fd, fn_pure F sc_turns_so (fun ds d h => by obtain ⟨_, _, _, rfl, _⟩ := h; rfl) (fun cdv A outer s H E hr => ⟨_, p_turns_so G h_is_train h_put_in h_turning_in hr, fun ds d h => d_turns_so h⟩), m, k, F.binds (ps := ["turns", "thing", "goal"]) fun _ _ _ _ _ _ us hl => match us, hl with | [_, _, _], _ => rfl⟩

theorem has_is_reached (I : In2 K mg "is_reached" s_is_reached) (G : Glob mg) (h_most_in : Has P w K mg base 8 "most_in" ["turns"] (spF R_most_in)) (h_sure_few : Has P w K mg base 6 "sure_few" ["turns"] (spF R_sure_few)) (h_turns_so : Has P w K mg base 4 "turns_so" ["turns", "thing", "goal"] (spF R_turns_so)) : Has P w K mg base 9 "is_reached" ["turns", "thing"] (spF R_is_reached) := by
  obtain ⟨f, fd, m, k, F⟩ := I.ex
  exact ⟨f, fd, fn_pure F sc_is_reached (fun ds d h => by obtain ⟨_, _, rfl, _⟩ := h; rfl) (fun cdv A outer s H E hr => ⟨_, p_is_reached G h_most_in h_sure_few h_turns_so hr, fun ds d h => d_is_reached h⟩), m, k, F.binds (ps := ["turns", "thing"]) fun _ _ _ _ _ _ us hl => match us, hl with | [_, _], _ => rfl⟩

theorem has_is_lowest (I : In2 K mg "is_lowest" s_is_lowest) (G : Glob mg) (h_most_in : Has P w K mg base 8 "most_in" ["turns"] (spF R_most_in)) (h_negative : Has P w K mg base 5 "negative" ["one"] (spF R_negative)) (h_sure_few : Has P w K mg base 6 "sure_few" ["turns"] (spF R_sure_few)) (h_turns_so : Has P w K mg base 4 "turns_so" ["turns", "thing", "goal"] (spF R_turns_so)) : Has P w K mg base 9 "is_lowest" ["turns", "thing"] (spF R_is_lowest) := by
  obtain ⟨f, fd, m, k, F⟩ := I.ex
  exact ⟨f, fd, fn_pure F sc_is_lowest (fun ds d h => by obtain ⟨_, _, rfl, _⟩ := h; rfl) (fun cdv A outer s H E hr => ⟨_, p_is_lowest G h_most_in h_negative h_sure_few h_turns_so hr, fun ds d h => d_is_lowest h⟩), m, k, F.binds (ps := ["turns", "thing"]) fun _ _ _ _ _ _ us hl => match us, hl with | [_, _], _ => rfl⟩

theorem has_law_box (I : In2 K mg "_law_box" s_law_box) (G : Glob mg) : Has P w K mg base 1 "_law_box" ["_law_script", "_law_k"] spBox := by
  obtain ⟨f, fd, m, k, F⟩ := I.ex
  refine ⟨f, fd, F.ok sc_law_box (fun vs H Q E h => by obtain ⟨_, _, rfl, _⟩ := h; rfl) (fun cdv A outer s H vs Q E hr h => ⟨_, p_law_box G hr, ?_⟩), m, k, F.binds (ps := ["_law_script", "_law_k"]) fun _ _ _ _ _ _ us hl => match us, hl with | [_, _], _ => rfl⟩
  obtain ⟨p, c, rfl, h1, h2⟩ := h
  exact run_box h1 h2

theorem has_law_take (I : In2 K mg "_law_take" s_law_take) (G : Glob mg) : Has P w K mg base 1 "_law_take" ["_law_tin", "_law_below_so"] spTake := by
  obtain ⟨f, fd, m, k, F⟩ := I.ex
  exact ⟨f, fd, fn_take F (fun cdv A outer s H E hr => p_law_take G hr), m, k, F.binds (ps := ["_law_tin", "_law_below_so"]) fun _ _ _ _ _ _ us hl => match us, hl with | [_, _], _ => rfl⟩

theorem has_law_cells (I : In2 K mg "_law_cells" s_law_cells) (G : Glob mg) : Has P w K mg base 1 "_law_cells" ["_law_script", "_law_most_so"] (spCells K) := by
  obtain ⟨f, fd, m, k, F⟩ := I.ex
  refine ⟨f, fd, F.ok sc_law_cells (fun vs H Q E h => by obtain ⟨_, _, rfl, _⟩ := h; rfl) (fun cdv A outer s H vs Q E hr h => ⟨_, p_law_cells G hr, ?_⟩), m, k, F.binds (ps := ["_law_script", "_law_most_so"]) fun _ _ _ _ _ _ us hl => match us, hl with | [_, _], _ => rfl⟩
  obtain ⟨a, ns, rfl, h1, h2, h3⟩ := h
  exact run_cells h1 h2 h3

theorem has_law_of (I : In2 K mg "_law_of" s_law_of) (G : Glob mg) (h_law_take : Has P w K mg base 1 "_law_take" ["_law_tin", "_law_below_so"] (spTake)) : Has P w K mg base 2 "_law_of" ["_law_tin", "_law_goods_so"] spOf := by
  obtain ⟨f, fd, m, k, F⟩ := I.ex
  exact ⟨f, fd, fn_tin F sc_law_of (fun ds h => by obtain ⟨_, rfl, _⟩ := h; exact ⟨rfl, Nat.le_of_ble_eq_true rfl⟩) (fun cdv A outer s H E hr => ⟨_, p_law_of G h_law_take hr, fun ds n h hn => d_law_of h hn⟩), m, k, F.binds (ps := ["_law_tin", "_law_goods_so"]) fun _ _ _ _ _ _ us hl => match us, hl with | [_, _], _ => rfl⟩

theorem has_law_same_step {kk n : Nat} {R : List D → D → Prop} (I : In2 K mg "_law_same" s_law_same) (G : Glob mg) (h : Has P w K mg base kk "_law_same" ["_law_got", "_law_due"] (spF R)) (hR : ∀ m x, m + 1 = n → Bt m x → R [x, x] (.bl true)) : Has P w K mg base (kk + 1) "_law_same" ["_law_got", "_law_due"] (spF (R_same n)) := by
  obtain ⟨f, fd, m, k, F⟩ := I.ex
  exact ⟨f, fd, fn_pure F sc_law_same (fun ds d h => by obtain ⟨_, rfl, _⟩ := h; rfl) (fun cdv A outer s H E hr => ⟨_, p_law_same G h (by simpa using hr), fun ds d h => d_law_same hR h⟩), m, k, F.binds (ps := ["_law_got", "_law_due"]) fun _ _ _ _ _ _ us hl => match us, hl with | [_, _], _ => rfl⟩

theorem has_law_same_0 (I : In2 K mg "_law_same" s_law_same) : Has P w K mg base 0 "_law_same" ["_law_got", "_law_due"] (spF fun _ _ => False) := by
  obtain ⟨f, fd, m, k, F⟩ := I.ex
  exact ⟨f, fd, no_level, m, k, F.binds (ps := ["_law_got", "_law_due"]) fun _ _ _ _ _ _ us hl => match us, hl with | [_, _], _ => rfl⟩

theorem has_law_same (I : In2 K mg "_law_same" s_law_same) (G : Glob mg) : Has P w K mg base 5 "_law_same" ["_law_got", "_law_due"] (spF (R_same 4)) := by
  have h0 := has_law_same_0 (P := P) (w := w) (base := base) I
  have h1 := has_law_same_step (n := 0) I G h0 (fun m x e => nomatch e)
  have h2 := has_law_same_step (n := 1) I G h1 (fun m x e hx => by cases e; exact ⟨x, rfl, hx, rfl⟩)
  have h3 := has_law_same_step (n := 2) I G h2 (fun m x e hx => by cases e; exact ⟨x, rfl, hx, rfl⟩)
  have h4 := has_law_same_step (n := 3) I G h3 (fun m x e hx => by cases e; exact ⟨x, rfl, hx, rfl⟩)
  have h5 := has_law_same_step (n := 4) I G h4 (fun m x e hx => by cases e; exact ⟨x, rfl, hx, rfl⟩)
  exact h5

theorem has_law_led (I : In2 K mg "_law_led" s_law_led) (G : Glob mg) : Has P w K mg base 1 "_law_led" ["_law_disk_here", "_law_z"] (spF R_led_in) := by
  obtain ⟨f, fd, m, k, F⟩ := I.ex
  exact ⟨f, fd, fn_pure F sc_law_led (fun ds d h => by obtain ⟨_, _, rfl, _⟩ := h; rfl) (fun cdv A outer s H E hr => ⟨_, p_law_led G hr, fun ds d h => d_law_led h⟩), m, k, F.binds (ps := ["_law_disk_here", "_law_z"]) fun _ _ _ _ _ _ us hl => match us, hl with | [_, _], _ => rfl⟩

theorem has_law_shift (I : In2 K mg "_law_shift" s_law_shift) (G : Glob mg) : Has P w K mg base 1 "_law_shift" ["_law_ring_so", "_law_m"] (spF R_shift) := by
  obtain ⟨f, fd, m, k, F⟩ := I.ex
  exact ⟨f, fd, fn_pure F sc_law_shift (fun ds d h => by obtain ⟨_, _, rfl, _⟩ := h; rfl) (fun cdv A outer s H E hr => ⟨_, p_law_shift G hr, fun ds d h => d_law_shift h⟩), m, k, F.binds (ps := ["_law_ring_so", "_law_m"]) fun _ _ _ _ _ _ us hl => match us, hl with | [_, _], _ => rfl⟩

theorem has_law_put (I : In2 K mg "_law_put" s_law_put) (G : Glob mg) (h_law_led : Has P w K mg base 1 "_law_led" ["_law_disk_here", "_law_z"] (spF R_led_in)) : Has P w K mg base 2 "_law_put" ["_law_disks_here"] (spF R_put) := by
  obtain ⟨f, fd, m, k, F⟩ := I.ex
  exact ⟨f, fd, fn_pure F sc_law_put (fun ds d h => by obtain ⟨_, _, rfl, _⟩ := h; rfl) (fun cdv A outer s H E hr => ⟨_, p_law_put G h_law_led hr, fun ds d h => d_law_put h⟩), m, k, F.binds (ps := ["_law_disks_here"]) fun _ _ _ _ _ _ us hl => match us, hl with | [_], _ => rfl⟩

theorem has_law_made (I : In2 K mg "_law_made" s_law_made) (G : Glob mg) : Has P w K mg base 1 "_law_made" ["_law_above_so", "_law_below_so"] (spF R_made) := by
  obtain ⟨f, fd, m, k, F⟩ := I.ex
  exact ⟨f, fd, fn_pure F sc_law_made (fun ds d h => by obtain ⟨_, _, rfl, _⟩ := h; rfl) (fun cdv A outer s H E hr => ⟨_, p_law_made G hr, fun ds d h => d_law_made h⟩), m, k, F.binds (ps := ["_law_above_so", "_law_below_so"]) fun _ _ _ _ _ _ us hl => match us, hl with | [_, _], _ => rfl⟩

theorem has_law_is_more (I : In2 K mg "_law_is_more" s_law_is_more) (G : Glob mg) : Has P w K mg base 1 "_law_is_more" ["_law_one_so", "_law_two_so"] (spF R_is_more) := by
  obtain ⟨f, fd, m, k, F⟩ := I.ex
  exact ⟨f, fd, fn_pure F sc_law_is_more (fun ds d h => by obtain ⟨_, _, rfl, _⟩ := h; rfl) (fun cdv A outer s H E hr => ⟨_, p_law_is_more G hr, fun ds d h => d_law_is_more h⟩), m, k, F.binds (ps := ["_law_one_so", "_law_two_so"]) fun _ _ _ _ _ _ us hl => match us, hl with | [_, _], _ => rfl⟩

theorem has_law_greater (I : In2 K mg "_law_greater" s_law_greater) (G : Glob mg) (h_law_is_more : Has P w K mg base 1 "_law_is_more" ["_law_one_so", "_law_two_so"] (spF R_is_more)) : Has P w K mg base 2 "_law_greater" ["_law_rows_so"] (spF R_greater) := by
  obtain ⟨f, fd, m, k, F⟩ := I.ex
  exact ⟨f, fd, fn_pure F sc_law_greater (fun ds d h => by obtain ⟨_, _, rfl, _⟩ := h; rfl) (fun cdv A outer s H E hr => ⟨_, p_law_greater G h_law_is_more hr, fun ds d h => d_law_greater h⟩), m, k, F.binds (ps := ["_law_rows_so"]) fun _ _ _ _ _ _ us hl => match us, hl with | [_], _ => rfl⟩

theorem has_law_told_on (I : In2 K mg "_law_told_on" s_law_told_on) (G : Glob mg) : Has P w K mg base 1 "_law_told_on" ["_law_spots_so", "_law_ring_so", "_law_i"] (spF R_told_on) := by
  obtain ⟨f, fd, m, k, F⟩ := I.ex
  exact ⟨f, fd, fn_pure F sc_law_told_on (fun ds d h => by obtain ⟨_, _, _, rfl, _⟩ := h; rfl) (fun cdv A outer s H E hr => ⟨_, p_law_told_on G hr, fun ds d h => d_law_told_on h⟩), m, k, F.binds (ps := ["_law_spots_so", "_law_ring_so", "_law_i"]) fun _ _ _ _ _ _ us hl => match us, hl with | [_, _, _], _ => rfl⟩

theorem has_law_name_ahead (I : In2 K mg "_law_name_ahead" s_law_name_ahead) (G : Glob mg) : Has P w K mg base 1 "_law_name_ahead" ["_law_spots_so", "_law_ring_so", "_law_z", "_law_strict_so"] (spF R_name_ahead) := by
  obtain ⟨f, fd, m, k, F⟩ := I.ex
  exact ⟨f, fd, fn_pure F sc_law_name_ahead (fun ds d h => by obtain ⟨_, _, _, _, rfl, _⟩ := h; rfl) (fun cdv A outer s H E hr => ⟨_, p_law_name_ahead G hr, fun ds d h => d_law_name_ahead h⟩), m, k, F.binds (ps := ["_law_spots_so", "_law_ring_so", "_law_z", "_law_strict_so"]) fun _ _ _ _ _ _ us hl => match us, hl with | [_, _, _, _], _ => rfl⟩

theorem has_law_greatest (I : In2 K mg "_law_greatest" s_law_greatest) (G : Glob mg) (h_law_name_ahead : Has P w K mg base 1 "_law_name_ahead" ["_law_spots_so", "_law_ring_so", "_law_z", "_law_strict_so"] (spF R_name_ahead)) (h_law_told_on : Has P w K mg base 1 "_law_told_on" ["_law_spots_so", "_law_ring_so", "_law_i"] (spF R_told_on)) : Has P w K mg base 2 "_law_greatest" ["_law_spots_so", "_law_m", "_law_ring_so"] (spF R_greatest) := by
  obtain ⟨f, fd, m, k, F⟩ := I.ex
  exact ⟨f, fd, fn_pure F sc_law_greatest (fun ds d h => by obtain ⟨_, _, _, rfl, _⟩ := h; rfl) (fun cdv A outer s H E hr => ⟨_, p_law_greatest G h_law_name_ahead h_law_told_on hr, fun ds d h => d_law_greatest h⟩), m, k, F.binds (ps := ["_law_spots_so", "_law_m", "_law_ring_so"]) fun _ _ _ _ _ _ us hl => match us, hl with | [_, _, _], _ => rfl⟩

theorem has_law_floor (I : In2 K mg "_law_floor" s_law_floor) (G : Glob mg) : Has P w K mg base 1 "_law_floor" ["_law_frac_so", "_law_n"] (spF R_floor) := by
  obtain ⟨f, fd, m, k, F⟩ := I.ex
  exact ⟨f, fd, fn_pure F sc_law_floor (fun ds d h => by obtain ⟨_, _, rfl, _⟩ := h; rfl) (fun cdv A outer s H E hr => ⟨_, p_law_floor G hr, fun ds d h => d_law_floor h⟩), m, k, F.binds (ps := ["_law_frac_so", "_law_n"]) fun _ _ _ _ _ _ us hl => match us, hl with | [_, _], _ => rfl⟩

theorem has_law_together (I : In2 K mg "_law_together" s_law_together) (G : Glob mg) (h_law_shared : Has P w K mg base 1 "_law_shared" ["_law_one_so", "_law_two_so"] (spF R_shared)) : Has P w K mg base 2 "_law_together" ["_law_marks_so"] (spF R_common_bottom) := by
  obtain ⟨f, fd, m, k, F⟩ := I.ex
  exact ⟨f, fd, fn_pure F sc_law_together (fun ds d h => by obtain ⟨_, rfl, _⟩ := h; rfl) (fun cdv A outer s H E hr => ⟨_, p_law_together G h_law_shared hr, fun ds d h => d_law_together h⟩), m, k, F.binds (ps := ["_law_marks_so"]) fun _ _ _ _ _ _ us hl => match us, hl with | [_], _ => rfl⟩

theorem has_law_shared (I : In2 K mg "_law_shared" s_law_shared) (G : Glob mg) : Has P w K mg base 1 "_law_shared" ["_law_one_so", "_law_two_so"] (spF R_shared) := by
  obtain ⟨f, fd, m, k, F⟩ := I.ex
  exact ⟨f, fd, fn_pure F sc_law_shared (fun ds d h => by obtain ⟨_, _, rfl, _⟩ := h; rfl) (fun cdv A outer s H E hr => ⟨_, p_law_shared G hr, fun ds d h => d_law_shared h⟩), m, k, F.binds (ps := ["_law_one_so", "_law_two_so"]) fun _ _ _ _ _ _ us hl => match us, hl with | [_, _], _ => rfl⟩

theorem has_law_most (I : In2 K mg "_law_most" s_law_most) (G : Glob mg) (h_law_floor : Has P w K mg base 1 "_law_floor" ["_law_frac_so", "_law_n"] (spF R_floor)) (h_law_greater : Has P w K mg base 2 "_law_greater" ["_law_rows_so"] (spF R_greater)) (h_law_made : Has P w K mg base 1 "_law_made" ["_law_above_so", "_law_below_so"] (spF R_made)) (h_law_together : Has P w K mg base 2 "_law_together" ["_law_marks_so"] (spF R_common_bottom)) : Has P w K mg base 3 "_law_most" ["_law_marks_so"] (spF R_most) := by
  obtain ⟨f, fd, m, k, F⟩ := I.ex
  exact ⟨f, fd, fn_pure F sc_law_most (fun ds d h => by obtain ⟨_, rfl, _⟩ := h; rfl) (fun cdv A outer s H E hr => ⟨_, p_law_most G h_law_floor h_law_greater h_law_made h_law_together hr, fun ds d h => d_law_most h⟩), m, k, F.binds (ps := ["_law_marks_so"]) fun _ _ _ _ _ _ us hl => match us, hl with | [_], _ => rfl⟩

theorem has_law_disk (I : In2 K mg "_law_disk" s_law_disk) (G : Glob mg) (h_law_shift : Has P w K mg base 1 "_law_shift" ["_law_ring_so", "_law_m"] (spF R_shift)) (h_law_take : Has P w K mg base 1 "_law_take" ["_law_tin", "_law_below_so"] (spTake)) : Has P w K mg base 2 "_law_disk" ["_law_tin", "_law_ring_so"] spDisk := by
  obtain ⟨f, fd, m, k, F⟩ := I.ex
  exact ⟨f, fd, fn_tin F sc_law_disk (fun ds h => by obtain ⟨_, rfl, _⟩ := h; exact ⟨rfl, Nat.le_of_ble_eq_true rfl⟩) (fun cdv A outer s H E hr => ⟨_, p_law_disk G h_law_shift h_law_take hr, fun ds n h hn => d_law_disk h hn⟩), m, k, F.binds (ps := ["_law_tin", "_law_ring_so"]) fun _ _ _ _ _ _ us hl => match us, hl with | [_, _], _ => rfl⟩

theorem has_law_disks (I : In2 K mg "_law_disks" s_law_disks) (G : Glob mg) (h_law_disk : Has P w K mg base 2 "_law_disk" ["_law_tin", "_law_ring_so"] (spDisk)) : Has P w K mg base 3 "_law_disks" ["_law_tin", "_law_ring_so", "_law_many_so"] spDisks := by
  obtain ⟨f, fd, m, k, F⟩ := I.ex
  exact ⟨f, fd, fn_tin F sc_law_disks (fun ds h => by obtain ⟨_, _, rfl, _⟩ := h; exact ⟨rfl, Nat.le_of_ble_eq_true rfl⟩) (fun cdv A outer s H E hr => ⟨_, p_law_disks G h_law_disk hr, fun ds n h hn => d_law_disks h hn⟩), m, k, F.binds (ps := ["_law_tin", "_law_ring_so", "_law_many_so"]) fun _ _ _ _ _ _ us hl => match us, hl with | [_, _, _], _ => rfl⟩

theorem has_law_frac (I : In2 K mg "_law_frac" s_law_frac) (G : Glob mg) (h_law_made : Has P w K mg base 1 "_law_made" ["_law_above_so", "_law_below_so"] (spF R_made)) (h_law_take : Has P w K mg base 1 "_law_take" ["_law_tin", "_law_below_so"] (spTake)) : Has P w K mg base 2 "_law_frac" ["_law_tin", "_law_most_so"] spFrac := by
  obtain ⟨f, fd, m, k, F⟩ := I.ex
  exact ⟨f, fd, fn_tin F sc_law_frac (fun ds h => by obtain ⟨_, rfl, _⟩ := h; exact ⟨rfl, Nat.le_of_ble_eq_true rfl⟩) (fun cdv A outer s H E hr => ⟨_, p_law_frac G h_law_made h_law_take hr, fun ds n h hn => d_law_frac h hn⟩), m, k, F.binds (ps := ["_law_tin", "_law_most_so"]) fun _ _ _ _ _ _ us hl => match us, hl with | [_, _], _ => rfl⟩

theorem has_law_marks (I : In2 K mg "_law_marks" s_law_marks) (G : Glob mg) (h_law_frac : Has P w K mg base 2 "_law_frac" ["_law_tin", "_law_most_so"] (spFrac)) : Has P w K mg base 3 "_law_marks" ["_law_tin", "_law_many_so", "_law_most_so"] spMarks := by
  obtain ⟨f, fd, m, k, F⟩ := I.ex
  exact ⟨f, fd, fn_tin F sc_law_marks (fun ds h => by obtain ⟨_, _, rfl, _⟩ := h; exact ⟨rfl, Nat.le_of_ble_eq_true rfl⟩) (fun cdv A outer s H E hr => ⟨_, p_law_marks G h_law_frac hr, fun ds n h hn => d_law_marks h hn⟩), m, k, F.binds (ps := ["_law_tin", "_law_many_so", "_law_most_so"]) fun _ _ _ _ _ _ us hl => match us, hl with | [_, _, _], _ => rfl⟩

theorem has_law_is_disk (I : In2 K mg "_law_is_disk" s_law_is_disk) (G : Glob mg) : Has P w K mg base 1 "_law_is_disk" ["_law_matter"] (spF R_is_disk) := by
  obtain ⟨f, fd, m, k, F⟩ := I.ex
  exact ⟨f, fd, fn_pure F sc_law_is_disk (fun ds d h => by obtain ⟨_, rfl, _⟩ := h; rfl) (fun cdv A outer s H E hr => ⟨_, p_law_is_disk G hr, fun ds d h => d_law_is_disk h⟩), m, k, F.binds (ps := ["_law_matter"]) fun _ _ _ _ _ _ us hl => match us, hl with | [_], _ => rfl⟩

theorem has_law_raised (I : In2 K mg "_law_raised" s_law_raised) (G : Glob mg) (h_law_greatest : Has P w K mg base 2 "_law_greatest" ["_law_spots_so", "_law_m", "_law_ring_so"] (spF R_greatest)) (h_law_led : Has P w K mg base 1 "_law_led" ["_law_disk_here", "_law_z"] (spF R_led_in)) (h_law_name_ahead : Has P w K mg base 1 "_law_name_ahead" ["_law_spots_so", "_law_ring_so", "_law_z", "_law_strict_so"] (spF R_name_ahead)) (h_law_told_from : Has P w K mg base 1 "_law_told_from" ["_law_spots_so", "_law_ring_so", "_law_i"] (spF R_told_from)) : Has P w K mg base 3 "_law_raised" ["_law_disk_here", "_law_frac_so"] (spF R_raised) := by
  obtain ⟨f, fd, m, k, F⟩ := I.ex
  exact ⟨f, fd, fn_pure F sc_law_raised (fun ds d h => by obtain ⟨_, _, _, rfl, _⟩ := h; rfl) (fun cdv A outer s H E hr => ⟨_, p_law_raised G h_law_greatest h_law_led h_law_name_ahead h_law_told_from hr, fun ds d h => d_law_raised h⟩), m, k, F.binds (ps := ["_law_disk_here", "_law_frac_so"]) fun _ _ _ _ _ _ us hl => match us, hl with | [_, _], _ => rfl⟩

theorem has_law_told_from (I : In2 K mg "_law_told_from" s_law_told_from) (G : Glob mg) : Has P w K mg base 1 "_law_told_from" ["_law_spots_so", "_law_ring_so", "_law_i"] (spF R_told_from) := by
  obtain ⟨f, fd, m, k, F⟩ := I.ex
  exact ⟨f, fd, fn_pure F sc_law_told_from (fun ds d h => by obtain ⟨_, _, _, rfl, _⟩ := h; rfl) (fun cdv A outer s H E hr => ⟨_, p_law_told_from G hr, fun ds d h => d_law_told_from h⟩), m, k, F.binds (ps := ["_law_spots_so", "_law_ring_so", "_law_i"]) fun _ _ _ _ _ _ us hl => match us, hl with | [_, _, _], _ => rfl⟩

theorem has_law_finer (I : In2 K mg "_law_finer" s_law_finer) (G : Glob mg) : Has P w K mg base 1 "_law_finer" ["_law_disk_here", "_law_many_so"] (spF R_finer) := by
  obtain ⟨f, fd, m, k, F⟩ := I.ex
  exact ⟨f, fd, fn_pure F sc_law_finer (fun ds d h => by obtain ⟨_, _, rfl, _⟩ := h; rfl) (fun cdv A outer s H E hr => ⟨_, p_law_finer G hr, fun ds d h => d_law_finer h⟩), m, k, F.binds (ps := ["_law_disk_here", "_law_many_so"]) fun _ _ _ _ _ _ us hl => match us, hl with | [_, _], _ => rfl⟩

theorem has_law_soon_turning (I : In2 K mg "_law_soon_turning" s_law_soon_turning) (G : Glob mg) (h_law_led : Has P w K mg base 1 "_law_led" ["_law_disk_here", "_law_z"] (spF R_led_in)) (h_law_made : Has P w K mg base 1 "_law_made" ["_law_above_so", "_law_below_so"] (spF R_made)) : Has P w K mg base 2 "_law_soon_turning" ["_law_disk_here"] (spF R_turning_in) := by
  obtain ⟨f, fd, m, k, F⟩ := I.ex
  exact ⟨f, fd, fn_pure F sc_law_soon_turning (fun ds d h => by obtain ⟨_, rfl, _⟩ := h; rfl) (fun cdv A outer s H E hr => ⟨_, p_law_soon_turning G h_law_led h_law_made hr, fun ds d h => d_law_soon_turning h⟩), m, k, F.binds (ps := ["_law_disk_here"]) fun _ _ _ _ _ _ us hl => match us, hl with | [_], _ => rfl⟩

theorem has_law_mirror (I : In2 K mg "_law_mirror" s_law_mirror) (G : Glob mg) (h_law_led : Has P w K mg base 1 "_law_led" ["_law_disk_here", "_law_z"] (spF R_led_in)) : Has P w K mg base 2 "_law_mirror" ["_law_disk_here"] (spF R_mirror) := by
  obtain ⟨f, fd, m, k, F⟩ := I.ex
  exact ⟨f, fd, fn_pure F sc_law_mirror (fun ds d h => by obtain ⟨_, rfl, _⟩ := h; rfl) (fun cdv A outer s H E hr => ⟨_, p_law_mirror G h_law_led hr, fun ds d h => d_law_mirror h⟩), m, k, F.binds (ps := ["_law_disk_here"]) fun _ _ _ _ _ _ us hl => match us, hl with | [_], _ => rfl⟩

theorem has_law_less (I : In2 K mg "_law_less" s_law_less) (G : Glob mg) : Has P w K mg base 1 "_law_less" ["_law_frac_so"] (spF R_less) := by
  obtain ⟨f, fd, m, k, F⟩ := I.ex
  exact ⟨f, fd, fn_pure F sc_law_less (fun ds d h => by obtain ⟨_, rfl, _⟩ := h; rfl) (fun cdv A outer s H E hr => ⟨_, p_law_less G hr, fun ds d h => d_law_less h⟩), m, k, F.binds (ps := ["_law_frac_so"]) fun _ _ _ _ _ _ us hl => match us, hl with | [_], _ => rfl⟩

theorem has_law_is_moved (I : In2 K mg "_law_is_moved" s_law_is_moved) (G : Glob mg) (h_law_is_disk : Has P w K mg base 1 "_law_is_disk" ["_law_matter"] (spF R_is_disk)) (h_law_led : Has P w K mg base 1 "_law_led" ["_law_disk_here", "_law_z"] (spF R_led_in)) (h_law_soon_turning : Has P w K mg base 2 "_law_soon_turning" ["_law_disk_here"] (spF R_turning_in)) : Has P w K mg base 3 "_law_is_moved" ["_law_disk_here", "_law_frac_so", "_law_matter", "_law_way_so"] (spF R_is_moved) := by
  obtain ⟨f, fd, m, k, F⟩ := I.ex
  exact ⟨f, fd, fn_pure F sc_law_is_moved (fun ds d h => by obtain ⟨_, _, _, _, rfl, _⟩ := h; rfl) (fun cdv A outer s H E hr => ⟨_, p_law_is_moved G h_law_is_disk h_law_led h_law_soon_turning hr, fun ds d h => d_law_is_moved h⟩), m, k, F.binds (ps := ["_law_disk_here", "_law_frac_so", "_law_matter", "_law_way_so"]) fun _ _ _ _ _ _ us hl => match us, hl with | [_, _, _, _], _ => rfl⟩

theorem has_law_goal (I : In2 K mg "_law_goal" s_law_goal) (G : Glob mg) (h_law_less : Has P w K mg base 1 "_law_less" ["_law_frac_so"] (spF R_less)) (h_law_most : Has P w K mg base 3 "_law_most" ["_law_marks_so"] (spF R_most)) : Has P w K mg base 4 "_law_goal" ["_law_marks_so", "_law_way_so"] (spF R_goal) := by
  obtain ⟨f, fd, m, k, F⟩ := I.ex
  exact ⟨f, fd, fn_pure F sc_law_goal (fun ds d h => by obtain ⟨_, _, rfl, _⟩ := h; rfl) (fun cdv A outer s H E hr => ⟨_, p_law_goal G h_law_less h_law_most hr, fun ds d h => d_law_goal h⟩), m, k, F.binds (ps := ["_law_marks_so", "_law_way_so"]) fun _ _ _ _ _ _ us hl => match us, hl with | [_, _], _ => rfl⟩

theorem has_law_reaches (I : In2 K mg "_law_reaches" s_law_reaches) (G : Glob mg) (h_law_goal : Has P w K mg base 4 "_law_goal" ["_law_marks_so", "_law_way_so"] (spF R_goal)) (h_law_is_disk : Has P w K mg base 1 "_law_is_disk" ["_law_matter"] (spF R_is_disk)) (h_law_put : Has P w K mg base 2 "_law_put" ["_law_disks_here"] (spF R_put)) (h_law_soon_turning : Has P w K mg base 2 "_law_soon_turning" ["_law_disk_here"] (spF R_turning_in)) : Has P w K mg base 5 "_law_reaches" ["_law_marks_so", "_law_matter", "_law_way_so"] (spF R_reaches) := by
  obtain ⟨f, fd, m, k, F⟩ := I.ex
  exact ⟨f, fd, fn_pure F sc_law_reaches (fun ds d h => by obtain ⟨_, _, _, rfl, _⟩ := h; rfl) (fun cdv A outer s H E hr => ⟨_, p_law_reaches G h_law_goal h_law_is_disk h_law_put h_law_soon_turning hr, fun ds d h => d_law_reaches h⟩), m, k, F.binds (ps := ["_law_marks_so", "_law_matter", "_law_way_so"]) fun _ _ _ _ _ _ us hl => match us, hl with | [_, _, _], _ => rfl⟩

theorem has_law_own_train (I : In2 K mg "_law_own_train" s_law_own_train) (G : Glob mg) (h_law_finer : Has P w K mg base 1 "_law_finer" ["_law_disk_here", "_law_many_so"] (spF R_finer)) (h_law_floor : Has P w K mg base 1 "_law_floor" ["_law_frac_so", "_law_n"] (spF R_floor)) (h_law_greatest : Has P w K mg base 2 "_law_greatest" ["_law_spots_so", "_law_m", "_law_ring_so"] (spF R_greatest)) (h_law_most : Has P w K mg base 3 "_law_most" ["_law_marks_so"] (spF R_most)) (h_law_raised : Has P w K mg base 3 "_law_raised" ["_law_disk_here", "_law_frac_so"] (spF R_raised)) (h_law_together : Has P w K mg base 2 "_law_together" ["_law_marks_so"] (spF R_common_bottom)) : Has P w K mg base 4 "_law_own_train" ["_law_marks_so"] (spF R_own_train) := by
  obtain ⟨f, fd, m, k, F⟩ := I.ex
  exact ⟨f, fd, fn_pure F sc_law_own_train (fun ds d h => by obtain ⟨_, rfl, _⟩ := h; rfl) (fun cdv A outer s H E hr => ⟨_, p_law_own_train G h_law_finer h_law_floor h_law_greatest h_law_most h_law_raised h_law_together hr, fun ds d h => d_law_own_train h⟩), m, k, F.binds (ps := ["_law_marks_so"]) fun _ _ _ _ _ _ us hl => match us, hl with | [_], _ => rfl⟩

theorem has_law_near (I : In2 K mg "_law_near" s_law_near) (G : Glob mg) (h_law_floor : Has P w K mg base 1 "_law_floor" ["_law_frac_so", "_law_n"] (spF R_floor)) (h_law_made : Has P w K mg base 1 "_law_made" ["_law_above_so", "_law_below_so"] (spF R_made)) (h_law_take : Has P w K mg base 1 "_law_take" ["_law_tin", "_law_below_so"] (spTake)) : Has P w K mg base 2 "_law_near" ["_law_tin", "_law_frac_so"] spNear := by
  obtain ⟨f, fd, m, k, F⟩ := I.ex
  exact ⟨f, fd, fn_tin F sc_law_near (fun ds h => by obtain ⟨_, rfl, _⟩ := h; exact ⟨rfl, Nat.le_of_ble_eq_true rfl⟩) (fun cdv A outer s H E hr => ⟨_, p_law_near G h_law_floor h_law_made h_law_take hr, fun ds n h hn => d_law_near h hn⟩), m, k, F.binds (ps := ["_law_tin", "_law_frac_so"]) fun _ _ _ _ _ _ us hl => match us, hl with | [_, _], _ => rfl⟩

theorem has_law_spoilt_pair (I : In2 K mg "_law_spoilt_pair" s_law_spoilt_pair) (G : Glob mg) (h_law_finer : Has P w K mg base 1 "_law_finer" ["_law_disk_here", "_law_many_so"] (spF R_finer)) (h_law_of : Has P w K mg base 2 "_law_of" ["_law_tin", "_law_goods_so"] (spOf)) (h_law_take : Has P w K mg base 1 "_law_take" ["_law_tin", "_law_below_so"] (spTake)) : Has P w K mg base 3 "_law_spoilt_pair" ["_law_tin", "_law_pair_so"] spPair := by
  obtain ⟨f, fd, m, k, F⟩ := I.ex
  exact ⟨f, fd, fn_tin F sc_law_spoilt_pair (fun ds h => by obtain ⟨_, _, rfl, _⟩ := h; exact ⟨rfl, Nat.le_of_ble_eq_true rfl⟩) (fun cdv A outer s H E hr => ⟨_, p_law_spoilt_pair G h_law_finer h_law_of h_law_take hr, fun ds n h hn => d_law_spoilt_pair h hn⟩), m, k, F.binds (ps := ["_law_tin", "_law_pair_so"]) fun _ _ _ _ _ _ us hl => match us, hl with | [_, _], _ => rfl⟩

theorem has_law_spoilt_train (I : In2 K mg "_law_spoilt_train" s_law_spoilt_train) (G : Glob mg) (h_law_finer : Has P w K mg base 1 "_law_finer" ["_law_disk_here", "_law_many_so"] (spF R_finer)) (h_law_of : Has P w K mg base 2 "_law_of" ["_law_tin", "_law_goods_so"] (spOf)) (h_law_take : Has P w K mg base 1 "_law_take" ["_law_tin", "_law_below_so"] (spTake)) : Has P w K mg base 3 "_law_spoilt_train" ["_law_tin", "_law_train_so"] spTrain := by
  obtain ⟨f, fd, m, k, F⟩ := I.ex
  exact ⟨f, fd, fn_tin F sc_law_spoilt_train (fun ds h => by obtain ⟨_, rfl, _⟩ := h; exact ⟨rfl, Nat.le_of_ble_eq_true rfl⟩) (fun cdv A outer s H E hr => ⟨_, p_law_spoilt_train G h_law_finer h_law_of h_law_take hr, fun ds n h hn => d_law_spoilt_train h hn⟩), m, k, F.binds (ps := ["_law_tin", "_law_train_so"]) fun _ _ _ _ _ _ us hl => match us, hl with | [_, _], _ => rfl⟩

theorem has_law_by_hand_right (I : In2 K mg "_law_by_hand_right" s_law_by_hand_right) (G : Glob mg) (h_law_same : Has P w K mg base 5 "_law_same" ["_law_got", "_law_due"] (spF (R_same 4))) (h_is_lowest : Has P w K mg base 9 "is_lowest" ["turns", "thing"] (spF R_is_lowest)) (h_is_raised : Has P w K mg base 5 "is_raised" ["wheel", "fraction", "thing"] (spF (R_moved 1))) (h_is_reached : Has P w K mg base 9 "is_reached" ["turns", "thing"] (spF R_is_reached)) : Has P w K mg base 10 "_law_by_hand_right" [] (spF R_hand) := by
  obtain ⟨f, fd, m, k, F⟩ := I.ex
  exact ⟨f, fd, fn_pure F sc_law_by_hand_right (fun ds d h => by obtain ⟨rfl, _⟩ := h; rfl) (fun cdv A outer s H E hr => ⟨_, p_law_by_hand_right G h_law_same h_is_lowest h_is_raised h_is_reached hr, fun ds d h => d_law_by_hand_right h⟩), m, k, F.binds (ps := []) fun _ _ _ _ _ _ us hl => match us, hl with | [], _ => rfl⟩

theorem has_law_pairs_right (I : In2 K mg "_law_pairs_right" s_law_pairs_right) (G : Glob mg) (h_law_disk : Has P w K mg base 2 "_law_disk" ["_law_tin", "_law_ring_so"] (spDisk)) (h_law_is_more : Has P w K mg base 1 "_law_is_more" ["_law_one_so", "_law_two_so"] (spF R_is_more)) (h_law_is_moved : Has P w K mg base 3 "_law_is_moved" ["_law_disk_here", "_law_frac_so", "_law_matter", "_law_way_so"] (spF R_is_moved)) (h_law_less : Has P w K mg base 1 "_law_less" ["_law_frac_so"] (spF R_less)) (h_law_mirror : Has P w K mg base 2 "_law_mirror" ["_law_disk_here"] (spF R_mirror)) (h_law_near : Has P w K mg base 2 "_law_near" ["_law_tin", "_law_frac_so"] (spNear)) (h_law_raised : Has P w K mg base 3 "_law_raised" ["_law_disk_here", "_law_frac_so"] (spF R_raised)) (h_law_same : Has P w K mg base 5 "_law_same" ["_law_got", "_law_due"] (spF (R_same 4))) (h_law_soon_turning : Has P w K mg base 2 "_law_soon_turning" ["_law_disk_here"] (spF R_turning_in)) (h_law_spoilt_pair : Has P w K mg base 3 "_law_spoilt_pair" ["_law_tin", "_law_pair_so"] (spPair)) (h_law_take : Has P w K mg base 1 "_law_take" ["_law_tin", "_law_below_so"] (spTake)) (h_is_lowered : Has P w K mg base 5 "is_lowered" ["wheel", "fraction", "thing"] (spF (R_moved (-1)))) (h_is_raised : Has P w K mg base 5 "is_raised" ["wheel", "fraction", "thing"] (spF (R_moved 1))) : Has P w K mg base 6 "_law_pairs_right" ["_law_tin"] spPairsR := by
  obtain ⟨f, fd, m, k, F⟩ := I.ex
  exact ⟨f, fd, fn_tin F sc_law_pairs_right (fun ds h => by have h : ds = [] := h; subst h; exact ⟨rfl, Nat.le_of_ble_eq_true rfl⟩) (fun cdv A outer s H E hr => ⟨_, p_law_pairs_right G h_law_disk h_law_is_more h_law_is_moved h_law_less h_law_mirror h_law_near h_law_raised h_law_same h_law_soon_turning h_law_spoilt_pair h_law_take h_is_lowered h_is_raised hr, fun ds n h hn => d_law_pairs_right h hn⟩), m, k, F.binds (ps := ["_law_tin"]) fun _ _ _ _ _ _ us hl => match us, hl with | [_], _ => rfl⟩

theorem has_law_right (I : In2 K mg "_law_right" s_law_right) (G : Glob mg) (h_law_disks : Has P w K mg base 3 "_law_disks" ["_law_tin", "_law_ring_so", "_law_many_so"] (spDisks)) (h_law_less : Has P w K mg base 1 "_law_less" ["_law_frac_so"] (spF R_less)) (h_law_marks : Has P w K mg base 3 "_law_marks" ["_law_tin", "_law_many_so", "_law_most_so"] (spMarks)) (h_law_mirror : Has P w K mg base 2 "_law_mirror" ["_law_disk_here"] (spF R_mirror)) (h_law_of : Has P w K mg base 2 "_law_of" ["_law_tin", "_law_goods_so"] (spOf)) (h_law_own_train : Has P w K mg base 4 "_law_own_train" ["_law_marks_so"] (spF R_own_train)) (h_law_pairs_right : Has P w K mg base 6 "_law_pairs_right" ["_law_tin"] (spPairsR)) (h_law_reaches : Has P w K mg base 5 "_law_reaches" ["_law_marks_so", "_law_matter", "_law_way_so"] (spF R_reaches)) (h_law_same : Has P w K mg base 5 "_law_same" ["_law_got", "_law_due"] (spF (R_same 4))) (h_law_soon_turning : Has P w K mg base 2 "_law_soon_turning" ["_law_disk_here"] (spF R_turning_in)) (h_law_spoilt_train : Has P w K mg base 3 "_law_spoilt_train" ["_law_tin", "_law_train_so"] (spTrain)) (h_law_take : Has P w K mg base 1 "_law_take" ["_law_tin", "_law_below_so"] (spTake)) (h_is_lowest : Has P w K mg base 9 "is_lowest" ["turns", "thing"] (spF R_is_lowest)) (h_is_reached : Has P w K mg base 9 "is_reached" ["turns", "thing"] (spF R_is_reached)) : Has P w K mg base 10 "_law_right" ["_law_tin"] spRight := by
  obtain ⟨f, fd, m, k, F⟩ := I.ex
  exact ⟨f, fd, fn_tin F sc_law_right (fun ds h => by have h : ds = [] := h; subst h; exact ⟨rfl, Nat.le_of_ble_eq_true rfl⟩) (fun cdv A outer s H E hr => ⟨_, p_law_right G h_law_disks h_law_less h_law_marks h_law_mirror h_law_of h_law_own_train h_law_pairs_right h_law_reaches h_law_same h_law_soon_turning h_law_spoilt_train h_law_take h_is_lowest h_is_reached hr, fun ds n h hn => d_law_right h hn⟩), m, k, F.binds (ps := ["_law_tin"]) fun _ _ _ _ _ _ us hl => match us, hl with | [_], _ => rfl⟩

theorem ok_law {f : Addr} {fd : FuncData} (F : Fun K "law" "law" s_law f fd) (G : Glob mg) (h_law_box : Has P w K mg base 1 "_law_box" ["_law_script", "_law_k"] (spBox)) (h_law_by_hand_right : Has P w K mg base 10 "_law_by_hand_right" [] (spF R_hand)) (h_law_cells : Has P w K mg base 1 "_law_cells" ["_law_script", "_law_most_so"] (spCells K)) (h_law_right : Has P w K mg base 10 "_law_right" ["_law_tin"] (spRight)) : FnOk P w K mg base CX0 11 f fd ["_law_script"] (spLaw K) := by
  refine F.ok sc_law (fun vs H Q E h => by obtain ⟨_, _, rfl, _⟩ := h; rfl) (fun cdv A outer s H vs Q E hr h => ⟨_, p_law G h_law_box h_law_by_hand_right h_law_cells h_law_right hr, ?_⟩)
  obtain ⟨a, ns, rfl, h1, h2, h3⟩ := h
  exact run_law h1 h2 h3

end
structure Top (K : PySem.W.Frag) : Prop where
  i_is_number : In1 K "is_number" s_is_number
  i_is_from : In1 K "is_from" s_is_from
  i_is_long : In1 K "is_long" s_is_long
  i_tupled : In1 K "tupled" s_tupled
  i_is_wheel : In1 K "is_wheel" s_is_wheel
  i_sure_wheel : In1 K "sure_wheel" s_sure_wheel
  i_is_train : In1 K "is_train" s_is_train
  i_led_in : In1 K "led_in" s_led_in
  i_behind : In1 K "behind" s_behind
  i_put_in : In1 K "put_in" s_put_in
  i_is_fraction : In1 K "is_fraction" s_is_fraction
  i_sure_fraction : In1 K "sure_fraction" s_sure_fraction
  i_made : In1 K "made" s_made
  i_two : In1 K "two" s_two
  i_negative : In1 K "negative" s_negative
  i_compared : In1 K "compared" s_compared
  i_floor_in : In1 K "floor_in" s_floor_in
  i_common_of : In1 K "common_of" s_common_of
  i_common_bottom : In1 K "common_bottom" s_common_bottom
  i_is_turns : In1 K "is_turns" s_is_turns
  i_sure_turns : In1 K "sure_turns" s_sure_turns
  i_sure_few : In1 K "sure_few" s_sure_few
  i_value_in : In1 K "value_in" s_value_in
  i_bottoms_in : In1 K "bottoms_in" s_bottoms_in
  i_most_in : In1 K "most_in" s_most_in
  i_own_in : In1 K "own_in" s_own_in
  i_come_back_in : In1 K "come_back_in" s_come_back_in
  i_turning_in : In1 K "turning_in" s_turning_in
  i_fits_in : In1 K "fits_in" s_fits_in
  i_is_raised : In1 K "is_raised" s_is_raised
  i_is_lowered : In1 K "is_lowered" s_is_lowered
  i_turns_so : In1 K "turns_so" s_turns_so
  i_is_reached : In1 K "is_reached" s_is_reached
  i_is_lowest : In1 K "is_lowest" s_is_lowest
  i_law_box : In1 K "_law_box" s_law_box
  i_law_take : In1 K "_law_take" s_law_take
  i_law_cells : In1 K "_law_cells" s_law_cells
  i_law_of : In1 K "_law_of" s_law_of
  i_law_same : In1 K "_law_same" s_law_same
  i_law_led : In1 K "_law_led" s_law_led
  i_law_shift : In1 K "_law_shift" s_law_shift
  i_law_put : In1 K "_law_put" s_law_put
  i_law_made : In1 K "_law_made" s_law_made
  i_law_is_more : In1 K "_law_is_more" s_law_is_more
  i_law_greater : In1 K "_law_greater" s_law_greater
  i_law_told_on : In1 K "_law_told_on" s_law_told_on
  i_law_name_ahead : In1 K "_law_name_ahead" s_law_name_ahead
  i_law_greatest : In1 K "_law_greatest" s_law_greatest
  i_law_floor : In1 K "_law_floor" s_law_floor
  i_law_together : In1 K "_law_together" s_law_together
  i_law_shared : In1 K "_law_shared" s_law_shared
  i_law_most : In1 K "_law_most" s_law_most
  i_law_disk : In1 K "_law_disk" s_law_disk
  i_law_disks : In1 K "_law_disks" s_law_disks
  i_law_frac : In1 K "_law_frac" s_law_frac
  i_law_marks : In1 K "_law_marks" s_law_marks
  i_law_is_disk : In1 K "_law_is_disk" s_law_is_disk
  i_law_raised : In1 K "_law_raised" s_law_raised
  i_law_told_from : In1 K "_law_told_from" s_law_told_from
  i_law_finer : In1 K "_law_finer" s_law_finer
  i_law_soon_turning : In1 K "_law_soon_turning" s_law_soon_turning
  i_law_mirror : In1 K "_law_mirror" s_law_mirror
  i_law_less : In1 K "_law_less" s_law_less
  i_law_is_moved : In1 K "_law_is_moved" s_law_is_moved
  i_law_goal : In1 K "_law_goal" s_law_goal
  i_law_reaches : In1 K "_law_reaches" s_law_reaches
  i_law_own_train : In1 K "_law_own_train" s_law_own_train
  i_law_near : In1 K "_law_near" s_law_near
  i_law_spoilt_pair : In1 K "_law_spoilt_pair" s_law_spoilt_pair
  i_law_spoilt_train : In1 K "_law_spoilt_train" s_law_spoilt_train
  i_law_by_hand_right : In1 K "_law_by_hand_right" s_law_by_hand_right
  i_law_pairs_right : In1 K "_law_pairs_right" s_law_pairs_right
  i_law_right : In1 K "_law_right" s_law_right
  i_law : In1 K "law" s_law
structure TopB (K : PySem.W.Frag) : Prop where
  z_len : PySem.W.nsIn K mainGlobals "len" = some none
  z_range : PySem.W.nsIn K mainGlobals "range" = some none
  z_isinstance : PySem.W.nsIn K mainGlobals "isinstance" = some none
  z_tuple : PySem.W.nsIn K mainGlobals "tuple" = some none
  z_list : PySem.W.nsIn K mainGlobals "list" = some none
  z_int : PySem.W.nsIn K mainGlobals "int" = some none
  z_bool : PySem.W.nsIn K mainGlobals "bool" = some none
  z_str : PySem.W.nsIn K mainGlobals "str" = some none
  z_all : PySem.W.nsIn K mainGlobals "all" = some none
  z_any : PySem.W.nsIn K mainGlobals "any" = some none
  z_zip : PySem.W.nsIn K mainGlobals "zip" = some none
  z_enumerate : PySem.W.nsIn K mainGlobals "enumerate" = some none
  z_sum : PySem.W.nsIn K mainGlobals "sum" = some none
  z_max : PySem.W.nsIn K mainGlobals "max" = some none
  z_min : PySem.W.nsIn K mainGlobals "min" = some none
  z_sorted : PySem.W.nsIn K mainGlobals "sorted" = some none
  z_abs : PySem.W.nsIn K mainGlobals "abs" = some none
  z_divmod : PySem.W.nsIn K mainGlobals "divmod" = some none
  gcd : PySem.W.nsIn K mainGlobals "gcd" = some (some (.builtin "math.gcd"))
  many : ∃ t, PySem.W.nsIn K mainGlobals "MANY" = some (some (.int 2000 t))
theorem glob_of {K : PySem.W.Frag} {h : Heap} {mg : Str → Option Value} (X : K.In h) (G : h.Ns mainGlobals mg) (T : TopB K) : Glob mg :=
  ⟨PySem.W.mg_none_of X G T.z_len, PySem.W.mg_none_of X G T.z_range, PySem.W.mg_none_of X G T.z_isinstance, PySem.W.mg_none_of X G T.z_tuple, PySem.W.mg_none_of X G T.z_list, PySem.W.mg_none_of X G T.z_int, PySem.W.mg_none_of X G T.z_bool, PySem.W.mg_none_of X G T.z_str, PySem.W.mg_none_of X G T.z_all, PySem.W.mg_none_of X G T.z_any, PySem.W.mg_none_of X G T.z_zip, PySem.W.mg_none_of X G T.z_enumerate, PySem.W.mg_none_of X G T.z_sum, PySem.W.mg_none_of X G T.z_max, PySem.W.mg_none_of X G T.z_min, PySem.W.mg_none_of X G T.z_sorted, PySem.W.mg_none_of X G T.z_abs, PySem.W.mg_none_of X G T.z_divmod, PySem.W.mg_of X G T.gcd, T.many.imp fun _ h => PySem.W.mg_of X G h⟩
theorem all_mk {l : PySem.W.OpenLaw} {w : World} {K : PySem.W.Frag} {h : Heap} {mg : Str → Option Value} {fa : Addr} (X : K.In h) (G0 : h.Ns mainGlobals mg) (hfa : mg "law" = some (.ref fa)) (T : Top K) (B : TopB K) :
    ∃ fd : FuncData, (∀ (s : Shared) (v : Value), BindsTo s fd ⟨[v], []⟩ [("_law_script", v)]) ∧ ∀ base : Heap, K.In base → base.Ns mainGlobals mg → FnOk l.prog w K mg base CX0 11 fa fd ["_law_script"] (spLaw K) := by
  have G := glob_of X G0 B
  obtain ⟨f, od, an, sl, oc, kV, dc, pm, cd, ct, a, lk, c, k⟩ := T.i_law.ex
  have e := hfa.symm.trans (PySem.W.mg_of X G0 a)
  cases e
  have F := fun_mk (st := s_law) lk c k
  refine ⟨PySem.W.fnOf "law" "law" (defArgs s_law) (defBody s_law) (defScope s_law) .none kV dc pm an cd ct, fun s v => .of_eq rfl, fun base _ _ => ?_⟩
  have h_is_number := has_is_number (P := l.prog) (w := w) (base := base) (T.i_is_number.to X G0) G
  have h_is_long := has_is_long (P := l.prog) (w := w) (base := base) (T.i_is_long.to X G0) G
  have h_led_in := has_led_in (P := l.prog) (w := w) (base := base) (T.i_led_in.to X G0) G
  have h_made := has_made (P := l.prog) (w := w) (base := base) (T.i_made.to X G0) G
  have h_floor_in := has_floor_in (P := l.prog) (w := w) (base := base) (T.i_floor_in.to X G0) G
  have h_common_of := has_common_of (P := l.prog) (w := w) (base := base) (T.i_common_of.to X G0) G
  have h_own_in := has_own_in (P := l.prog) (w := w) (base := base) (T.i_own_in.to X G0) G
  have h_law_box := has_law_box (P := l.prog) (w := w) (base := base) (T.i_law_box.to X G0) G
  have h_law_take := has_law_take (P := l.prog) (w := w) (base := base) (T.i_law_take.to X G0) G
  have h_law_cells := has_law_cells (P := l.prog) (w := w) (base := base) (T.i_law_cells.to X G0) G
  have h_law_led := has_law_led (P := l.prog) (w := w) (base := base) (T.i_law_led.to X G0) G
  have h_law_shift := has_law_shift (P := l.prog) (w := w) (base := base) (T.i_law_shift.to X G0) G
  have h_law_made := has_law_made (P := l.prog) (w := w) (base := base) (T.i_law_made.to X G0) G
  have h_law_is_more := has_law_is_more (P := l.prog) (w := w) (base := base) (T.i_law_is_more.to X G0) G
  have h_law_told_on := has_law_told_on (P := l.prog) (w := w) (base := base) (T.i_law_told_on.to X G0) G
  have h_law_name_ahead := has_law_name_ahead (P := l.prog) (w := w) (base := base) (T.i_law_name_ahead.to X G0) G
  have h_law_floor := has_law_floor (P := l.prog) (w := w) (base := base) (T.i_law_floor.to X G0) G
  have h_law_shared := has_law_shared (P := l.prog) (w := w) (base := base) (T.i_law_shared.to X G0) G
  have h_law_is_disk := has_law_is_disk (P := l.prog) (w := w) (base := base) (T.i_law_is_disk.to X G0) G
  have h_law_told_from := has_law_told_from (P := l.prog) (w := w) (base := base) (T.i_law_told_from.to X G0) G
  have h_law_finer := has_law_finer (P := l.prog) (w := w) (base := base) (T.i_law_finer.to X G0) G
  have h_law_less := has_law_less (P := l.prog) (w := w) (base := base) (T.i_law_less.to X G0) G
  have h_is_from := has_is_from (P := l.prog) (w := w) (base := base) (T.i_is_from.to X G0) G h_is_number
  have h_is_wheel := has_is_wheel (P := l.prog) (w := w) (base := base) (T.i_is_wheel.to X G0) G h_is_number
  have h_behind := has_behind (P := l.prog) (w := w) (base := base) (T.i_behind.to X G0) G h_led_in
  have h_value_in := has_value_in (P := l.prog) (w := w) (base := base) (T.i_value_in.to X G0) G h_floor_in h_made
  have h_come_back_in := has_come_back_in (P := l.prog) (w := w) (base := base) (T.i_come_back_in.to X G0) G h_led_in h_own_in
  have h_law_of := has_law_of (P := l.prog) (w := w) (base := base) (T.i_law_of.to X G0) G h_law_take
  have h_law_put := has_law_put (P := l.prog) (w := w) (base := base) (T.i_law_put.to X G0) G h_law_led
  have h_law_greater := has_law_greater (P := l.prog) (w := w) (base := base) (T.i_law_greater.to X G0) G h_law_is_more
  have h_law_greatest := has_law_greatest (P := l.prog) (w := w) (base := base) (T.i_law_greatest.to X G0) G h_law_name_ahead h_law_told_on
  have h_law_together := has_law_together (P := l.prog) (w := w) (base := base) (T.i_law_together.to X G0) G h_law_shared
  have h_law_disk := has_law_disk (P := l.prog) (w := w) (base := base) (T.i_law_disk.to X G0) G h_law_shift h_law_take
  have h_law_frac := has_law_frac (P := l.prog) (w := w) (base := base) (T.i_law_frac.to X G0) G h_law_made h_law_take
  have h_law_soon_turning := has_law_soon_turning (P := l.prog) (w := w) (base := base) (T.i_law_soon_turning.to X G0) G h_law_led h_law_made
  have h_law_mirror := has_law_mirror (P := l.prog) (w := w) (base := base) (T.i_law_mirror.to X G0) G h_law_led
  have h_law_near := has_law_near (P := l.prog) (w := w) (base := base) (T.i_law_near.to X G0) G h_law_floor h_law_made h_law_take
  have h_tupled := has_tupled (P := l.prog) (w := w) (base := base) (T.i_tupled.to X G0) G
  have h_is_train := has_is_train (P := l.prog) (w := w) (base := base) (T.i_is_train.to X G0) G h_is_wheel
  have h_put_in := has_put_in (P := l.prog) (w := w) (base := base) (T.i_put_in.to X G0) G h_behind
  have h_is_fraction := has_is_fraction (P := l.prog) (w := w) (base := base) (T.i_is_fraction.to X G0) G h_is_from h_is_long h_is_number
  have h_turning_in := has_turning_in (P := l.prog) (w := w) (base := base) (T.i_turning_in.to X G0) G h_come_back_in
  have h_law_most := has_law_most (P := l.prog) (w := w) (base := base) (T.i_law_most.to X G0) G h_law_floor h_law_greater h_law_made h_law_together
  have h_law_disks := has_law_disks (P := l.prog) (w := w) (base := base) (T.i_law_disks.to X G0) G h_law_disk
  have h_law_marks := has_law_marks (P := l.prog) (w := w) (base := base) (T.i_law_marks.to X G0) G h_law_frac
  have h_law_raised := has_law_raised (P := l.prog) (w := w) (base := base) (T.i_law_raised.to X G0) G h_law_greatest h_law_led h_law_name_ahead h_law_told_from
  have h_law_is_moved := has_law_is_moved (P := l.prog) (w := w) (base := base) (T.i_law_is_moved.to X G0) G h_law_is_disk h_law_led h_law_soon_turning
  have h_law_spoilt_pair := has_law_spoilt_pair (P := l.prog) (w := w) (base := base) (T.i_law_spoilt_pair.to X G0) G h_law_finer h_law_of h_law_take
  have h_law_spoilt_train := has_law_spoilt_train (P := l.prog) (w := w) (base := base) (T.i_law_spoilt_train.to X G0) G h_law_finer h_law_of h_law_take
  have h_sure_wheel := has_sure_wheel (P := l.prog) (w := w) (base := base) (T.i_sure_wheel.to X G0) G h_is_wheel h_tupled
  have h_sure_fraction := has_sure_fraction (P := l.prog) (w := w) (base := base) (T.i_sure_fraction.to X G0) G h_is_fraction h_tupled
  have h_common_bottom := has_common_bottom (P := l.prog) (w := w) (base := base) (T.i_common_bottom.to X G0) G h_common_of h_is_fraction h_tupled
  have h_is_turns := has_is_turns (P := l.prog) (w := w) (base := base) (T.i_is_turns.to X G0) G h_is_fraction
  have h_fits_in := has_fits_in (P := l.prog) (w := w) (base := base) (T.i_fits_in.to X G0) G h_is_from h_is_long h_is_wheel h_led_in h_turning_in
  have h_turns_so := has_turns_so (P := l.prog) (w := w) (base := base) (T.i_turns_so.to X G0) G h_is_train h_put_in h_turning_in
  have h_law_goal := has_law_goal (P := l.prog) (w := w) (base := base) (T.i_law_goal.to X G0) G h_law_less h_law_most
  have h_law_own_train := has_law_own_train (P := l.prog) (w := w) (base := base) (T.i_law_own_train.to X G0) G h_law_finer h_law_floor h_law_greatest h_law_most h_law_raised h_law_together
  have h_two := has_two (P := l.prog) (w := w) (base := base) (T.i_two.to X G0) G h_sure_fraction
  have h_negative := has_negative (P := l.prog) (w := w) (base := base) (T.i_negative.to X G0) G h_sure_fraction
  have h_sure_turns := has_sure_turns (P := l.prog) (w := w) (base := base) (T.i_sure_turns.to X G0) G h_is_turns h_tupled
  have h_is_raised := has_is_raised (P := l.prog) (w := w) (base := base) (T.i_is_raised.to X G0) G h_fits_in h_sure_fraction h_sure_wheel
  have h_is_lowered := has_is_lowered (P := l.prog) (w := w) (base := base) (T.i_is_lowered.to X G0) G h_fits_in h_sure_fraction h_sure_wheel
  have h_law_same := has_law_same (P := l.prog) (w := w) (base := base) (T.i_law_same.to X G0) G
  have h_law_reaches := has_law_reaches (P := l.prog) (w := w) (base := base) (T.i_law_reaches.to X G0) G h_law_goal h_law_is_disk h_law_put h_law_soon_turning
  have h_compared := has_compared (P := l.prog) (w := w) (base := base) (T.i_compared.to X G0) G h_two
  have h_sure_few := has_sure_few (P := l.prog) (w := w) (base := base) (T.i_sure_few.to X G0) G h_common_bottom h_sure_turns
  have h_law_pairs_right := has_law_pairs_right (P := l.prog) (w := w) (base := base) (T.i_law_pairs_right.to X G0) G h_law_disk h_law_is_more h_law_is_moved h_law_less h_law_mirror h_law_near h_law_raised h_law_same h_law_soon_turning h_law_spoilt_pair h_law_take h_is_lowered h_is_raised
  have h_bottoms_in := has_bottoms_in (P := l.prog) (w := w) (base := base) (T.i_bottoms_in.to X G0) G h_common_bottom h_compared h_value_in
  have h_most_in := has_most_in (P := l.prog) (w := w) (base := base) (T.i_most_in.to X G0) G h_bottoms_in h_value_in
  have h_is_reached := has_is_reached (P := l.prog) (w := w) (base := base) (T.i_is_reached.to X G0) G h_most_in h_sure_few h_turns_so
  have h_is_lowest := has_is_lowest (P := l.prog) (w := w) (base := base) (T.i_is_lowest.to X G0) G h_most_in h_negative h_sure_few h_turns_so
  have h_law_by_hand_right := has_law_by_hand_right (P := l.prog) (w := w) (base := base) (T.i_law_by_hand_right.to X G0) G h_law_same h_is_lowest h_is_raised h_is_reached
  have h_law_right := has_law_right (P := l.prog) (w := w) (base := base) (T.i_law_right.to X G0) G h_law_disks h_law_less h_law_marks h_law_mirror h_law_of h_law_own_train h_law_pairs_right h_law_reaches h_law_same h_law_soon_turning h_law_spoilt_train h_law_take h_is_lowest h_is_reached
  exact ok_law F G h_law_box h_law_by_hand_right h_law_cells h_law_right
theorem walk {l : PySem.W.OpenLaw} {q : Program} {loose : List Str} {XP : (Str → Option Value) → Heap → Prop} {YP : World → Heap → Prop} {d : DefRec} {K : Params → PySem.W.Frag} (hn : l.most = some 63) (hdf : d.params.defaults = [])
    (hY : ∀ (w : World) (h : Heap), YP w h → (K w.params).In h)
    (F : ∀ (w : World) (mg : Str → Option Value) (fa : Addr) (h : Heap), (K w.params).In h → h.Ns mainGlobals mg → mg d.name = some (.ref fa) →
      ∃ fd : FuncData, (∀ (s : Shared) (u : Value), BindsTo s fd ⟨[u], []⟩ [("_law_script", u)]) ∧ ∀ base : Heap, (K w.params).In base → base.Ns mainGlobals mg → FnOk l.prog w (K w.params) mg base CX0 11 fa fd ["_law_script"] (spLaw (K w.params))) :
    PySem.W.WalkO q loose XP YP l.row.toRowW d [] (fun f vs => PySem.call f vs) :=
  L2.walk_of (n := 63) (k := 11) (x := "_law_script") (CX := fun _ => CX0) (sp := fun w => spLaw (K w.params)) hn (by decide) hdf ⟨rfl, by decide, by decide⟩ hY F (fun _ _ a ns hl _ hS => ⟨a, ns, rfl, hS, hl, fun _ => rfl⟩) fun _ _ _ _ _ z => z
end DL
open PySem PySem.W PyProof.Rows
set_option maxRecDepth 100000 in
set_option maxHeartbeats 0 in
theorem PySem.Challenge.cw_bothwheels_k37_whole_pairs_and_trains_be_holds : PySem.Challenge.rw_bothwheels_k37_whole_pairs_and_trains_be.Holds := by
  w_on; o_law; k_head; (case hw => w_witness2)
  k_fill
  refine DL.walk (l := PySem.Challenge.rw_bothwheels_k37_whole_pairs_and_trains_be) rfl rfl (fun w h Y => PySem.W.kIn_of Y) ?F
  case F =>
    intro w mg fa h KX G hmg
    refine DL.all_mk KX G hmg ?T ?B
    case T =>
      constructor
      · refine' DL.in1_mk ?a0 ?l0 ?c0 ?k0; (case a0 => k_is); (case l0 => k_is); (case c0 => k_is); (case k0 => k_is)
      · refine' DL.in1_mk ?a1 ?l1 ?c1 ?k1; (case a1 => k_is); (case l1 => k_is); (case c1 => k_is); (case k1 => k_is)
      · refine' DL.in1_mk ?a2 ?l2 ?c2 ?k2; (case a2 => k_is); (case l2 => k_is); (case c2 => k_is); (case k2 => k_is)
      · refine' DL.in1_mk ?a3 ?l3 ?c3 ?k3; (case a3 => k_is); (case l3 => k_is); (case c3 => k_is); (case k3 => k_is)
      · refine' DL.in1_mk ?a4 ?l4 ?c4 ?k4; (case a4 => k_is); (case l4 => k_is); (case c4 => k_is); (case k4 => k_is)
      · refine' DL.in1_mk ?a5 ?l5 ?c5 ?k5; (case a5 => k_is); (case l5 => k_is); (case c5 => k_is); (case k5 => k_is)
      · refine' DL.in1_mk ?a6 ?l6 ?c6 ?k6; (case a6 => k_is); (case l6 => k_is); (case c6 => k_is); (case k6 => k_is)
      · refine' DL.in1_mk ?a7 ?l7 ?c7 ?k7; (case a7 => k_is); (case l7 => k_is); (case c7 => k_is); (case k7 => k_is)
      · refine' DL.in1_mk ?a8 ?l8 ?c8 ?k8; (case a8 => k_is); (case l8 => k_is); (case c8 => k_is); (case k8 => k_is)
      · refine' DL.in1_mk ?a9 ?l9 ?c9 ?k9; (case a9 => k_is); (case l9 => k_is); (case c9 => k_is); (case k9 => k_is)
      · refine' DL.in1_mk ?a10 ?l10 ?c10 ?k10; (case a10 => k_is); (case l10 => k_is); (case c10 => k_is); (case k10 => k_is)
      · refine' DL.in1_mk ?a11 ?l11 ?c11 ?k11; (case a11 => k_is); (case l11 => k_is); (case c11 => k_is); (case k11 => k_is)
      · refine' DL.in1_mk ?a12 ?l12 ?c12 ?k12; (case a12 => k_is); (case l12 => k_is); (case c12 => k_is); (case k12 => k_is)
      · refine' DL.in1_mk ?a13 ?l13 ?c13 ?k13; (case a13 => k_is); (case l13 => k_is); (case c13 => k_is); (case k13 => k_is)
      · refine' DL.in1_mk ?a14 ?l14 ?c14 ?k14; (case a14 => k_is); (case l14 => k_is); (case c14 => k_is); (case k14 => k_is)
      · refine' DL.in1_mk ?a15 ?l15 ?c15 ?k15; (case a15 => k_is); (case l15 => k_is); (case c15 => k_is); (case k15 => k_is)
      · refine' DL.in1_mk ?a16 ?l16 ?c16 ?k16; (case a16 => k_is); (case l16 => k_is); (case c16 => k_is); (case k16 => k_is)
      · refine' DL.in1_mk ?a17 ?l17 ?c17 ?k17; (case a17 => k_is); (case l17 => k_is); (case c17 => k_is); (case k17 => k_is)
      · refine' DL.in1_mk ?a18 ?l18 ?c18 ?k18; (case a18 => k_is); (case l18 => k_is); (case c18 => k_is); (case k18 => k_is)
      · refine' DL.in1_mk ?a19 ?l19 ?c19 ?k19; (case a19 => k_is); (case l19 => k_is); (case c19 => k_is); (case k19 => k_is)
      · refine' DL.in1_mk ?a20 ?l20 ?c20 ?k20; (case a20 => k_is); (case l20 => k_is); (case c20 => k_is); (case k20 => k_is)
      · refine' DL.in1_mk ?a21 ?l21 ?c21 ?k21; (case a21 => k_is); (case l21 => k_is); (case c21 => k_is); (case k21 => k_is)
      · refine' DL.in1_mk ?a22 ?l22 ?c22 ?k22; (case a22 => k_is); (case l22 => k_is); (case c22 => k_is); (case k22 => k_is)
      · refine' DL.in1_mk ?a23 ?l23 ?c23 ?k23; (case a23 => k_is); (case l23 => k_is); (case c23 => k_is); (case k23 => k_is)
      · refine' DL.in1_mk ?a24 ?l24 ?c24 ?k24; (case a24 => k_is); (case l24 => k_is); (case c24 => k_is); (case k24 => k_is)
      · refine' DL.in1_mk ?a25 ?l25 ?c25 ?k25; (case a25 => k_is); (case l25 => k_is); (case c25 => k_is); (case k25 => k_is)
      · refine' DL.in1_mk ?a26 ?l26 ?c26 ?k26; (case a26 => k_is); (case l26 => k_is); (case c26 => k_is); (case k26 => k_is)
      · refine' DL.in1_mk ?a27 ?l27 ?c27 ?k27; (case a27 => k_is); (case l27 => k_is); (case c27 => k_is); (case k27 => k_is)
      · refine' DL.in1_mk ?a28 ?l28 ?c28 ?k28; (case a28 => k_is); (case l28 => k_is); (case c28 => k_is); (case k28 => k_is)
      · refine' DL.in1_mk ?a29 ?l29 ?c29 ?k29; (case a29 => k_is); (case l29 => k_is); (case c29 => k_is); (case k29 => k_is)
      · refine' DL.in1_mk ?a30 ?l30 ?c30 ?k30; (case a30 => k_is); (case l30 => k_is); (case c30 => k_is); (case k30 => k_is)
      · refine' DL.in1_mk ?a31 ?l31 ?c31 ?k31; (case a31 => k_is); (case l31 => k_is); (case c31 => k_is); (case k31 => k_is)
      · refine' DL.in1_mk ?a32 ?l32 ?c32 ?k32; (case a32 => k_is); (case l32 => k_is); (case c32 => k_is); (case k32 => k_is)
      · refine' DL.in1_mk ?a33 ?l33 ?c33 ?k33; (case a33 => k_is); (case l33 => k_is); (case c33 => k_is); (case k33 => k_is)
      · refine' DL.in1_mk ?a34 ?l34 ?c34 ?k34; (case a34 => k_is); (case l34 => k_is); (case c34 => k_is); (case k34 => k_is)
      · refine' DL.in1_mk ?a35 ?l35 ?c35 ?k35; (case a35 => k_is); (case l35 => k_is); (case c35 => k_is); (case k35 => k_is)
      · refine' DL.in1_mk ?a36 ?l36 ?c36 ?k36; (case a36 => k_is); (case l36 => k_is); (case c36 => k_is); (case k36 => k_is)
      · refine' DL.in1_mk ?a37 ?l37 ?c37 ?k37; (case a37 => k_is); (case l37 => k_is); (case c37 => k_is); (case k37 => k_is)
      · refine' DL.in1_mk ?a38 ?l38 ?c38 ?k38; (case a38 => k_is); (case l38 => k_is); (case c38 => k_is); (case k38 => k_is)
      · refine' DL.in1_mk ?a39 ?l39 ?c39 ?k39; (case a39 => k_is); (case l39 => k_is); (case c39 => k_is); (case k39 => k_is)
      · refine' DL.in1_mk ?a40 ?l40 ?c40 ?k40; (case a40 => k_is); (case l40 => k_is); (case c40 => k_is); (case k40 => k_is)
      · refine' DL.in1_mk ?a41 ?l41 ?c41 ?k41; (case a41 => k_is); (case l41 => k_is); (case c41 => k_is); (case k41 => k_is)
      · refine' DL.in1_mk ?a42 ?l42 ?c42 ?k42; (case a42 => k_is); (case l42 => k_is); (case c42 => k_is); (case k42 => k_is)
      · refine' DL.in1_mk ?a43 ?l43 ?c43 ?k43; (case a43 => k_is); (case l43 => k_is); (case c43 => k_is); (case k43 => k_is)
      · refine' DL.in1_mk ?a44 ?l44 ?c44 ?k44; (case a44 => k_is); (case l44 => k_is); (case c44 => k_is); (case k44 => k_is)
      · refine' DL.in1_mk ?a45 ?l45 ?c45 ?k45; (case a45 => k_is); (case l45 => k_is); (case c45 => k_is); (case k45 => k_is)
      · refine' DL.in1_mk ?a46 ?l46 ?c46 ?k46; (case a46 => k_is); (case l46 => k_is); (case c46 => k_is); (case k46 => k_is)
      · refine' DL.in1_mk ?a47 ?l47 ?c47 ?k47; (case a47 => k_is); (case l47 => k_is); (case c47 => k_is); (case k47 => k_is)
      · refine' DL.in1_mk ?a48 ?l48 ?c48 ?k48; (case a48 => k_is); (case l48 => k_is); (case c48 => k_is); (case k48 => k_is)
      · refine' DL.in1_mk ?a49 ?l49 ?c49 ?k49; (case a49 => k_is); (case l49 => k_is); (case c49 => k_is); (case k49 => k_is)
      · refine' DL.in1_mk ?a50 ?l50 ?c50 ?k50; (case a50 => k_is); (case l50 => k_is); (case c50 => k_is); (case k50 => k_is)
      · refine' DL.in1_mk ?a51 ?l51 ?c51 ?k51; (case a51 => k_is); (case l51 => k_is); (case c51 => k_is); (case k51 => k_is)
      · refine' DL.in1_mk ?a52 ?l52 ?c52 ?k52; (case a52 => k_is); (case l52 => k_is); (case c52 => k_is); (case k52 => k_is)
      · refine' DL.in1_mk ?a53 ?l53 ?c53 ?k53; (case a53 => k_is); (case l53 => k_is); (case c53 => k_is); (case k53 => k_is)
      · refine' DL.in1_mk ?a54 ?l54 ?c54 ?k54; (case a54 => k_is); (case l54 => k_is); (case c54 => k_is); (case k54 => k_is)
      · refine' DL.in1_mk ?a55 ?l55 ?c55 ?k55; (case a55 => k_is); (case l55 => k_is); (case c55 => k_is); (case k55 => k_is)
      · refine' DL.in1_mk ?a56 ?l56 ?c56 ?k56; (case a56 => k_is); (case l56 => k_is); (case c56 => k_is); (case k56 => k_is)
      · refine' DL.in1_mk ?a57 ?l57 ?c57 ?k57; (case a57 => k_is); (case l57 => k_is); (case c57 => k_is); (case k57 => k_is)
      · refine' DL.in1_mk ?a58 ?l58 ?c58 ?k58; (case a58 => k_is); (case l58 => k_is); (case c58 => k_is); (case k58 => k_is)
      · refine' DL.in1_mk ?a59 ?l59 ?c59 ?k59; (case a59 => k_is); (case l59 => k_is); (case c59 => k_is); (case k59 => k_is)
      · refine' DL.in1_mk ?a60 ?l60 ?c60 ?k60; (case a60 => k_is); (case l60 => k_is); (case c60 => k_is); (case k60 => k_is)
      · refine' DL.in1_mk ?a61 ?l61 ?c61 ?k61; (case a61 => k_is); (case l61 => k_is); (case c61 => k_is); (case k61 => k_is)
      · refine' DL.in1_mk ?a62 ?l62 ?c62 ?k62; (case a62 => k_is); (case l62 => k_is); (case c62 => k_is); (case k62 => k_is)
      · refine' DL.in1_mk ?a63 ?l63 ?c63 ?k63; (case a63 => k_is); (case l63 => k_is); (case c63 => k_is); (case k63 => k_is)
      · refine' DL.in1_mk ?a64 ?l64 ?c64 ?k64; (case a64 => k_is); (case l64 => k_is); (case c64 => k_is); (case k64 => k_is)
      · refine' DL.in1_mk ?a65 ?l65 ?c65 ?k65; (case a65 => k_is); (case l65 => k_is); (case c65 => k_is); (case k65 => k_is)
      · refine' DL.in1_mk ?a66 ?l66 ?c66 ?k66; (case a66 => k_is); (case l66 => k_is); (case c66 => k_is); (case k66 => k_is)
      · refine' DL.in1_mk ?a67 ?l67 ?c67 ?k67; (case a67 => k_is); (case l67 => k_is); (case c67 => k_is); (case k67 => k_is)
      · refine' DL.in1_mk ?a68 ?l68 ?c68 ?k68; (case a68 => k_is); (case l68 => k_is); (case c68 => k_is); (case k68 => k_is)
      · refine' DL.in1_mk ?a69 ?l69 ?c69 ?k69; (case a69 => k_is); (case l69 => k_is); (case c69 => k_is); (case k69 => k_is)
      · refine' DL.in1_mk ?a70 ?l70 ?c70 ?k70; (case a70 => k_is); (case l70 => k_is); (case c70 => k_is); (case k70 => k_is)
      · refine' DL.in1_mk ?a71 ?l71 ?c71 ?k71; (case a71 => k_is); (case l71 => k_is); (case c71 => k_is); (case k71 => k_is)
      · refine' DL.in1_mk ?a72 ?l72 ?c72 ?k72; (case a72 => k_is); (case l72 => k_is); (case c72 => k_is); (case k72 => k_is)
      · refine' DL.in1_mk ?a73 ?l73 ?c73 ?k73; (case a73 => k_is); (case l73 => k_is); (case c73 => k_is); (case k73 => k_is)
    case B =>
      constructor
      · k_is
      · k_is
      · k_is
      · k_is
      · k_is
      · k_is
      · k_is
      · k_is
      · k_is
      · k_is
      · k_is
      · k_is
      · k_is
      · k_is
      · k_is
      · k_is
      · k_is
      · k_is
      · k_is
      · refine' DL.many_mk ?m; (case m => k_is)
