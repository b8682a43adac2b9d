import PyProof.Rows.All
import Wide.All
import OpenK.AllK
import Wide.FinOn
import PyProof.EqAt
import PyProof.EqKinds
import PyProof.TupleCall
import KE.KNest
import HandS.ForMost
import HandS.AnyAll
import HandS.IsInst
import HandS.Conv
import HandS.Gcd
import HandS.Wide
import HandS.TupAny
import HandS.SortRule
import HandS.Style
import HandS.EndTab
import HandS.EndOwn
import KE.GoesMore
import KE.GoesEnum
import KE.GoesZip
import HandS.Zip
import PySem.Challenge.RW_actuarium_k45_whole_pools
set_option Elab.async false
set_option linter.all false
set_option maxRecDepth 100000
set_option maxHeartbeats 8000000
/-! K45, the plain law: ratios as pairs, greedy parts, the least over edges. No program here. -/
namespace K45

/-! ### ratios -/
def rat (x n : Int) : Int × Int := (x / (Int.gcd x n : Int), n / (Int.gcd x n : Int))

theorem gcd_pos {x n : Int} (h : 0 < n) : 0 < (Int.gcd x n : Int) := by
  have : 0 < Int.gcd x n := Int.gcd_pos_of_ne_zero_right x (by omega)
  omega
theorem rat_top {x n : Int} (h : 0 < n) : (rat x n).1 * (Int.gcd x n : Int) = x := Int.ediv_mul_cancel (Int.gcd_dvd_left ..)
theorem rat_bot {x n : Int} (h : 0 < n) : (rat x n).2 * (Int.gcd x n : Int) = n := Int.ediv_mul_cancel (Int.gcd_dvd_right ..)
theorem rat_pos {x n : Int} (h : 0 < n) : 0 < (rat x n).2 := by
  have g := gcd_pos (x := x) h
  have e := rat_bot (x := x) h
  rcases Int.lt_or_le 0 (rat x n).2 with q | q
  · exact q
  · have : (rat x n).2 * (Int.gcd x n : Int) ≤ 0 := Int.mul_nonpos_of_nonpos_of_nonneg q (by omega)
    omega
theorem rat_cross {x n : Int} (h : 0 < n) : (rat x n).1 * n = x * (rat x n).2 := by
  have e := rat_bot (x := x) h
  have t := rat_top (x := x) h
  have : (rat x n).1 * ((rat x n).2 * (Int.gcd x n : Int)) = ((rat x n).1 * (Int.gcd x n : Int)) * (rat x n).2 := by
    rw [Int.mul_assoc, Int.mul_comm (rat x n).2]
  rw [e, t] at this
  exact this
theorem rat_gcd {x n : Int} (h : 0 < n) : Int.gcd (rat x n).1 (rat x n).2 = 1 := by
  have g : 0 < Int.gcd x n := Int.gcd_pos_of_ne_zero_right x (by omega)
  exact Int.gcd_ediv_gcd_ediv_gcd g
theorem rat_bot_le {x n : Int} (h : 0 < n) : (rat x n).2 ≤ n := by
  have g := gcd_pos (x := x) h
  have e := rat_bot (x := x) h
  have p := rat_pos (x := x) h
  have : (rat x n).2 * 1 ≤ (rat x n).2 * (Int.gcd x n : Int) := Int.mul_le_mul_of_nonneg_left (by omega) (by omega)
  omega
theorem rat_top_le {x n : Int} (h : 0 < n) : (rat x n).1.natAbs ≤ x.natAbs := by
  have g : 0 < Int.gcd x n := Int.gcd_pos_of_ne_zero_right x (by omega)
  have t := rat_top (x := x) h
  have e : (rat x n).1.natAbs * Int.gcd x n = x.natAbs := by
    have := congrArg Int.natAbs t
    rw [Int.natAbs_mul] at this
    simpa using this
  calc (rat x n).1.natAbs = (rat x n).1.natAbs * 1 := by omega
    _ ≤ (rat x n).1.natAbs * Int.gcd x n := Nat.mul_le_mul_left _ g
    _ = x.natAbs := e
theorem dvd_cop {a b c : Int} (h : a ∣ b * c) (g : Int.gcd a b = 1) : a ∣ c := by
  have h1 : a.natAbs ∣ b.natAbs * c.natAbs := by
    have := Int.natAbs_dvd_natAbs.mpr h
    rwa [Int.natAbs_mul] at this
  exact Int.natAbs_dvd_natAbs.mp (Nat.Coprime.dvd_of_dvd_mul_left (show Nat.Coprime a.natAbs b.natAbs from g) h1)
/-- two pairs in lowest terms of one value are one pair -/
theorem low_eq {a b c d : Int} (hb : 0 < b) (hd : 0 < d) (g1 : Int.gcd a b = 1) (g2 : Int.gcd c d = 1) (h : a * d = c * b) : a = c ∧ b = d := by
  have h1 : b ∣ a * d := ⟨c, by rw [h, Int.mul_comm]⟩
  have h2 : d ∣ c * b := ⟨a, by rw [← h, Int.mul_comm]⟩
  have d1 : b ∣ d := dvd_cop h1 (by rw [Int.gcd_comm]; exact g1)
  have d2 : d ∣ b := dvd_cop h2 (by rw [Int.gcd_comm]; exact g2)
  have e : b = d := Int.le_antisymm (Int.le_of_dvd hd d1) (Int.le_of_dvd hb d2)
  subst e
  exact ⟨Int.eq_of_mul_eq_mul_right (by omega) h, rfl⟩
theorem rat_eq {x n y m : Int} (hn : 0 < n) (hm : 0 < m) (h : x * m = y * n) : rat x n = rat y m := by
  have a := rat_cross (x := x) hn
  have b := rat_cross (x := y) hm
  have k : (rat x n).1 * (rat y m).2 = (rat y m).1 * (rat x n).2 := by
    have hmn : n * m ≠ 0 := Int.mul_ne_zero (by omega) (by omega)
    refine Int.eq_of_mul_eq_mul_right hmn ?_
    generalize (rat x n).1 = p at *
    generalize (rat x n).2 = q at *
    generalize (rat y m).1 = r at *
    generalize (rat y m).2 = s at *
    have e1 : p * s * (n * m) = (p * n) * (s * m) := by grind
    have e2 : r * q * (n * m) = (r * m) * (q * n) := by grind
    rw [e1, e2, a, b]
    have : x * q * (s * m) = (x * m) * (q * s) := by grind
    rw [this, h]
    grind
  obtain ⟨e1, e2⟩ := low_eq (rat_pos hn) (rat_pos hm) (rat_gcd hn) (rat_gcd hm) k
  exact Prod.ext e1 e2
/-- a pair in lowest terms is its own ratio -/
theorem rat_self {a b : Int} (g : Int.gcd a b = 1) : rat a b = (a, b) := by
  unfold rat
  rw [g]
  simp
theorem rat_zero {n : Int} (h : 0 < n) : rat 0 n = (0, 1) := by
  rw [rat_eq h (by decide : (0 : Int) < 1) (y := 0) (by simp)]
  exact rat_self (by decide)
theorem rat_one {x : Int} : rat x 1 = (x, 1) := rat_self (by simp)
theorem rat_same {n : Int} (h : 0 < n) : rat n n = (1, 1) := by
  rw [rat_eq h (by decide : (0 : Int) < 1) (y := 1) (by simp)]
  exact rat_self (by decide)
theorem rat_scale {x n : Int} (hn : 0 < n) : rat (x * n) n = (x, 1) := by
  rw [rat_eq hn (by decide : (0 : Int) < 1) (y := x) (by simp), rat_one]
theorem rat_plus {x y n : Int} (h : 0 < n) : rat ((rat x n).1 * (rat y n).2 + (rat y n).1 * (rat x n).2) ((rat x n).2 * (rat y n).2) = rat (x + y) n := by
  refine rat_eq (Int.mul_pos (rat_pos h) (rat_pos h)) h ?_
  have a := rat_cross (x := x) h
  have b := rat_cross (x := y) h
  grind
theorem rat_minus {x y n : Int} (h : 0 < n) : rat ((rat x n).1 * (rat y n).2 - (rat y n).1 * (rat x n).2) ((rat x n).2 * (rat y n).2) = rat (x - y) n := by
  refine rat_eq (Int.mul_pos (rat_pos h) (rat_pos h)) h ?_
  have a := rat_cross (x := x) h
  have b := rat_cross (x := y) h
  grind
theorem rat_by {x y n m : Int} (h : 0 < n) (h' : 0 < m) : rat ((rat x n).1 * (rat y m).1) ((rat x n).2 * (rat y m).2) = rat (x * y) (n * m) := by
  refine rat_eq (Int.mul_pos (rat_pos h) (rat_pos h')) (Int.mul_pos h h') ?_
  have a := rat_cross (x := x) h
  have b := rat_cross (x := y) h'
  grind
theorem rat_num_pos {y m : Int} (h : 0 < m) (hy : 0 < y) : 0 < (rat y m).1 := by
  have b := rat_cross (x := y) h
  have p := rat_pos (x := y) h
  have q : 0 < y * (rat y m).2 := Int.mul_pos hy p
  rcases Int.lt_or_le 0 (rat y m).1 with z | z
  · exact z
  · have : (rat y m).1 * m ≤ 0 := Int.mul_nonpos_of_nonpos_of_nonneg z (by omega)
    omega
theorem rat_over {x y n m : Int} (h : 0 < n) (h' : 0 < m) (hy : 0 < y) : rat ((rat x n).1 * (rat y m).2) ((rat x n).2 * (rat y m).1) = rat (x * m) (n * y) := by
  have p := rat_num_pos h' hy
  refine rat_eq (Int.mul_pos (rat_pos h) p) (Int.mul_pos h hy) ?_
  have a := rat_cross (x := x) h
  have b := rat_cross (x := y) h'
  grind
theorem rat_less {x y n : Int} (h : 0 < n) : ((rat x n).1 * (rat y n).2 < (rat y n).1 * (rat x n).2) ↔ x < y := by
  have a := rat_cross (x := x) h
  have b := rat_cross (x := y) h
  have p := rat_pos (x := x) h
  have q := rat_pos (x := y) h
  generalize (rat x n).1 = p1 at *
  generalize (rat x n).2 = q1 at *
  generalize (rat y n).1 = r at *
  generalize (rat y n).2 = s at *
  have e1 : (p1 * s) * n = x * (q1 * s) := by grind
  have e2 : (r * q1) * n = y * (q1 * s) := by grind
  have pq : 0 < q1 * s := Int.mul_pos p q
  constructor
  · intro k
    have k2 : (p1 * s) * n < (r * q1) * n := Int.mul_lt_mul_of_pos_right k h
    rw [e1, e2] at k2
    exact Int.lt_of_mul_lt_mul_right k2 (by omega)
  · intro k
    have k2 : x * (q1 * s) < y * (q1 * s) := Int.mul_lt_mul_of_pos_right k pq
    rw [← e1, ← e2] at k2
    exact Int.lt_of_mul_lt_mul_right k2 (by omega)
theorem rat_less_gen {x y n m : Int} (h : 0 < n) (h' : 0 < m) : ((rat x n).1 * (rat y m).2 < (rat y m).1 * (rat x n).2) ↔ x * m < y * n := by
  have e1 : rat x n = rat (x * m) (n * m) := rat_eq h (Int.mul_pos h h') (by grind)
  have e2 : rat y m = rat (y * n) (n * m) := rat_eq h' (Int.mul_pos h h') (by grind)
  rw [e1, e2]
  exact rat_less (Int.mul_pos h h')

/-! ### sums over places -/
def sm : Nat → (Nat → Int) → Int
  | 0, _ => 0
  | n + 1, f => sm n f + f n
theorem sm_congr : ∀ {n : Nat} {f g : Nat → Int}, (∀ i, i < n → f i = g i) → sm n f = sm n g
  | 0, _, _, _ => rfl
  | n + 1, f, g, h => by
    show sm n f + f n = sm n g + g n
    rw [sm_congr (n := n) fun i hi => h i (by omega), h n (by omega)]
theorem sm_add : ∀ {n : Nat} {f g : Nat → Int}, sm n (fun i => f i + g i) = sm n f + sm n g
  | 0, _, _ => rfl
  | n + 1, f, g => by
    show sm n (fun i => f i + g i) + (f n + g n) = (sm n f + f n) + (sm n g + g n)
    rw [sm_add (n := n)]
    omega
theorem sm_mul : ∀ {n : Nat} {c : Int} {f : Nat → Int}, sm n (fun i => c * f i) = c * sm n f
  | 0, c, _ => by simp [sm]
  | n + 1, c, f => by
    show sm n (fun i => c * f i) + c * f n = c * (sm n f + f n)
    rw [sm_mul (n := n), Int.mul_add]
theorem sm_le : ∀ {n : Nat} {f g : Nat → Int}, (∀ i, i < n → f i ≤ g i) → sm n f ≤ sm n g
  | 0, _, _, _ => Int.le_refl _
  | n + 1, f, g, h => by
    show sm n f + f n ≤ sm n g + g n
    have := sm_le (n := n) fun i hi => h i (by omega)
    have := h n (by omega)
    omega
theorem sm_zero {n : Nat} {f : Nat → Int} (h : ∀ i, i < n → f i = 0) : sm n f = 0 := by
  rw [sm_congr h]
  have : ∀ n, sm n (fun _ => 0) = 0 := fun n => by
    induction n with
    | zero => rfl
    | succ n ih => show sm n (fun _ => 0) + 0 = 0; omega
  exact this n
theorem sm_nonneg {n : Nat} {f : Nat → Int} (h : ∀ i, i < n → 0 ≤ f i) : 0 ≤ sm n f := by
  have := sm_le (n := n) (f := fun _ => 0) (g := f) h
  rw [sm_zero (fun _ _ => rfl)] at this
  exact this
theorem sm_const : ∀ {n : Nat} {c : Int}, sm n (fun _ => c) = n * c
  | 0, c => by simp [sm]
  | n + 1, c => by
    show sm n (fun _ => c) + c = _
    rw [sm_const (n := n)]
    grind
theorem sm_swap : ∀ {n m : Nat} {f : Nat → Nat → Int}, sm n (fun i => sm m (f i)) = sm m (fun j => sm n fun i => f i j)
  | 0, m, f => by
    show 0 = _
    rw [sm_zero]
    intros
    rfl
  | n + 1, m, f => by
    show sm n (fun i => sm m (f i)) + sm m (f n) = sm m (fun j => sm n (fun i => f i j) + f n j)
    rw [sm_add, sm_swap (n := n)]
/-- a place changed -/
def put (q : Nat → Int) (j : Nat) (x : Int) : Nat → Int := fun i => if i = j then x else q i
theorem sm_put : ∀ {n : Nat} {q : Nat → Int} {j : Nat} {x : Int}, j < n → sm n (put q j x) = sm n q - q j + x
  | 0, _, _, _, h => by omega
  | n + 1, q, j, x, h => by
    show sm n (put q j x) + put q j x n = sm n q + q n - q j + x
    by_cases e : j = n
    · subst e
      have : sm j (put q j x) = sm j q := sm_congr fun i hi => by
        unfold put
        rw [if_neg (by omega)]
      rw [this]
      unfold put
      rw [if_pos rfl]
      omega
    · rw [sm_put (n := n) (by omega)]
      unfold put
      rw [if_neg (by omega)]
      omega

/-! ### the greedy parts -/
section
variable (n : Nat) (s cap : Nat → Int) (N : Int)
/-- one turn of the program's loop: what is left and the parts so far -/
def step (rq : Int × (Nat → Int)) (j : Nat) : Int × (Nat → Int) :=
  let x := if rq.1 < cap j then rq.1 else cap j
  (rq.1 - x, put rq.2 j x)
def greedy (ord : List Nat) : Int × (Nat → Int) := ord.foldl (step cap) (N, fun _ => 0)
/-- the parts are an edge's: full above, nothing below -/
def Edge (q : Nat → Int) (e : Int) : Prop := ∀ i, i < n → (e < s i → q i = cap i) ∧ (s i < e → q i = 0)
structure Fits (q : Nat → Int) : Prop where
  lo : ∀ i, i < n → 0 ≤ q i
  hi : ∀ i, i < n → q i ≤ cap i
  tot : sm n q = N
end
section
variable {n : Nat} {s cap : Nat → Int} {N : Int}
/-- while the loop runs: pre was taken -/
structure Run (n : Nat) (s cap : Nat → Int) (N : Int) (pre : List Nat) (r : Int) (q : Nat → Int) : Prop where
  lo : ∀ i, i < n → 0 ≤ q i
  hi : ∀ i, i < n → q i ≤ cap i
  tot : sm n q = N - r
  r0 : 0 ≤ r
  out : ∀ i, i ∉ pre → q i = 0
  st : (0 < r ∧ ∀ i ∈ pre, q i = cap i) ∨ (r = 0 ∧ ∃ j ∈ pre, (∀ i ∈ pre, s j < s i → q i = cap i) ∧ (∀ i ∈ pre, s i < s j → q i = 0))
theorem run_start (hc : ∀ i, i < n → 0 < cap i) (hN : 0 < N) : Run n s cap N [] N (fun _ => 0) :=
  ⟨fun _ _ => Int.le_refl _, fun i hi => by have := hc i hi; omega, by rw [sm_zero fun _ _ => rfl]; omega, by omega, fun _ _ => rfl, .inl ⟨hN, fun _ h => by cases h⟩⟩
theorem run_step {pre : List Nat} {j : Nat} {r : Int} {q : Nat → Int} (hc : ∀ i, i < n → 0 < cap i) (hp : ∀ i ∈ pre, i < n) (hj : j < n) (nj : j ∉ pre) (hs : ∀ i ∈ pre, s j ≤ s i) (R : Run n s cap N pre r q) :
    Run n s cap N (pre ++ [j]) (step cap (r, q) j).1 (step cap (r, q) j).2 := by
  have q0 : q j = 0 := R.out j nj
  have c0 := hc j hj
  have r0 := R.r0
  have pn : ∀ i ∈ pre, put q j (if r < cap j then r else cap j) i = q i := fun i hi => by
    unfold put
    rw [if_neg (by intro e; subst e; exact nj hi)]
  have pj : put q j (if r < cap j then r else cap j) j = (if r < cap j then r else cap j) := by
    unfold put
    rw [if_pos rfl]
  show Run n s cap N (pre ++ [j]) (r - (if r < cap j then r else cap j)) (put q j (if r < cap j then r else cap j))
  refine ⟨fun i hi => ?_, fun i hi => ?_, ?_, ?_, fun i hi => ?_, ?_⟩
  · unfold put
    by_cases e : i = j
    · rw [if_pos e]
      split <;> omega
    · rw [if_neg e]
      exact R.lo i hi
  · unfold put
    by_cases e : i = j
    · rw [if_pos e, e]
      split <;> omega
    · rw [if_neg e]
      exact R.hi i hi
  · rw [sm_put hj, R.tot, q0]
    omega
  · split <;> omega
  · have h1 : i ∉ pre := fun z => hi (List.mem_append_left _ z)
    have h2 : i ≠ j := fun z => hi (by rw [z]; simp)
    unfold put
    rw [if_neg h2]
    exact R.out i h1
  · rcases R.st with ⟨hr, full⟩ | ⟨hr, k, hk, f1, f2⟩
    · by_cases h : r < cap j
      · refine .inr ⟨by rw [if_pos h]; omega, j, by simp, fun i hi hlt => ?_, fun i hi hlt => ?_⟩
        · rcases List.mem_append.mp hi with hi | hi
          · rw [pn i hi]
            exact full i hi
          · have : i = j := by simpa using hi
            subst this
            omega
        · rcases List.mem_append.mp hi with hi | hi
          · have := hs i hi
            omega
          · have : i = j := by simpa using hi
            subst this
            omega
      · by_cases h2 : r = cap j
        · refine .inr ⟨by rw [if_neg h]; omega, j, by simp, fun i hi hlt => ?_, fun i hi hlt => ?_⟩
          · rcases List.mem_append.mp hi with hi | hi
            · rw [pn i hi]
              exact full i hi
            · have : i = j := by simpa using hi
              subst this
              omega
          · rcases List.mem_append.mp hi with hi | hi
            · have := hs i hi
              omega
            · have : i = j := by simpa using hi
              subst this
              omega
        · refine .inl ⟨by rw [if_neg h]; omega, fun i hi => ?_⟩
          rcases List.mem_append.mp hi with hi | hi
          · rw [pn i hi]
            exact full i hi
          · have : i = j := by simpa using hi
            subst this
            rw [pj, if_neg h]
    · subst hr
      have hlt : (0 : Int) < cap j := c0
      refine .inr ⟨by rw [if_pos hlt]; omega, k, List.mem_append_left _ hk, fun i hi hl => ?_, fun i hi hl => ?_⟩
      · rcases List.mem_append.mp hi with hi | hi
        · rw [pn i hi]
          exact f1 i hi hl
        · have : i = j := by simpa using hi
          subst this
          have := hs k hk
          omega
      · rcases List.mem_append.mp hi with hi | hi
        · rw [pn i hi]
          exact f2 i hi hl
        · have : i = j := by simpa using hi
          subst this
          rw [pj, if_pos hlt]
theorem run_all (hc : ∀ i, i < n → 0 < cap i) : ∀ (post pre : List Nat) (r : Int) (q : Nat → Int), (∀ i ∈ pre, i < n) → (∀ i ∈ post, i < n) → (pre ++ post).Nodup → (pre ++ post).Pairwise (fun i j => s j ≤ s i) → Run n s cap N pre r q →
    Run n s cap N (pre ++ post) (post.foldl (step cap) (r, q)).1 (post.foldl (step cap) (r, q)).2
  | [], pre, r, q, _, _, _, _, R => by
    rw [List.append_nil]
    exact R
  | j :: post, pre, r, q, hp, hq, nd, pw, R => by
    have e : pre ++ j :: post = (pre ++ [j]) ++ post := by simp
    have hj : j < n := hq j (by simp)
    have nj : j ∉ pre := fun z => by
      have := (List.nodup_append.mp nd).2.2 j z j (by simp)
      exact this rfl
    have hs : ∀ i ∈ pre, s j ≤ s i := fun i hi => (List.pairwise_append.mp pw).2.2 i hi j (by simp)
    have R2 := run_step hc hp hj nj hs R
    rw [e] at nd pw ⊢
    rw [List.foldl_cons]
    refine run_all hc post (pre ++ [j]) _ _ (fun i hi => ?_) (fun i hi => hq i (by simp [hi])) nd pw R2
    rcases List.mem_append.mp hi with hi | hi
    · exact hp i hi
    · have : i = j := by simpa using hi
      omega
theorem full_sum {q : Nat → Int} (h : ∀ i, i < n → q i = cap i) : sm n q = sm n cap := sm_congr h
/-- THE GREEDY PARTS fit, and they are those of an edge among the sums -/
theorem greedy_ok {ord : List Nat} (hn : 0 < n) (hc : ∀ i, i < n → 0 < cap i) (hN : 0 < N) (hle : N ≤ sm n cap) (nd : ord.Nodup) (all : ∀ i, i ∈ ord ↔ i < n) (pw : ord.Pairwise (fun i j => s j ≤ s i)) :
    Fits n cap N (greedy cap N ord).2 ∧ ∃ j, j < n ∧ Edge n s cap (greedy cap N ord).2 (s j) := by
  have R := run_all (s := s) (N := N) hc ord [] N (fun _ => 0) (fun _ h => by cases h) (fun i hi => (all i).mp hi) nd pw (run_start hc hN)
  rw [List.nil_append] at R
  show Fits n cap N (ord.foldl (step cap) (N, fun _ => 0)).2 ∧ _
  have z : (ord.foldl (step cap) (N, fun _ => 0)).1 = 0 ∧ ∃ j ∈ ord, (∀ i ∈ ord, s j < s i → (ord.foldl (step cap) (N, fun _ => 0)).2 i = cap i) ∧ (∀ i ∈ ord, s i < s j → (ord.foldl (step cap) (N, fun _ => 0)).2 i = 0) := by
    rcases R.st with ⟨hr, full⟩ | h
    · have := full_sum (n := n) (cap := cap) fun i hi => full i ((all i).mpr hi)
      have t := R.tot
      omega
    · exact h
  obtain ⟨hr, j, hj, f1, f2⟩ := z
  refine ⟨⟨R.lo, R.hi, by rw [R.tot, hr]; omega⟩, j, (all j).mp hj, fun i hi => ⟨fun h => f1 i ((all i).mpr hi) h, fun h => f2 i ((all i).mpr hi) h⟩⟩

/-! ### the least over the edges -/
def pos_ (x : Int) : Int := if x > 0 then x else 0
/-- what the law reckons at an edge, times N -/
def at_ (n : Nat) (s cap : Nat → Int) (N e : Int) : Int := e * N + sm n fun i => cap i * pos_ (s i - e)
theorem weak {q : Nat → Int} (F : Fits n cap N q) (hc : ∀ i, i < n → 0 < cap i) (e : Int) : sm n (fun i => s i * q i) ≤ at_ n s cap N e := by
  have h : sm n (fun i => s i * q i) = e * sm n q + sm n (fun i => (s i - e) * q i) := by
    rw [← sm_mul, ← sm_add]
    exact sm_congr fun i _ => by grind
  rw [h, F.tot]
  unfold at_
  have : sm n (fun i => (s i - e) * q i) ≤ sm n (fun i => cap i * pos_ (s i - e)) := sm_le fun i hi => by
    have lo := F.lo i hi
    have h2 := F.hi i hi
    unfold pos_
    split
    · rw [Int.mul_comm]
      exact Int.mul_le_mul_of_nonneg_right h2 (by omega)
    · have : (s i - e) * q i ≤ 0 := Int.mul_nonpos_of_nonpos_of_nonneg (by omega) lo
      simpa using this
  omega
theorem strong {q : Nat → Int} (F : Fits n cap N q) {e : Int} (E : Edge n s cap q e) : sm n (fun i => s i * q i) = at_ n s cap N e := by
  have h : sm n (fun i => s i * q i) = e * sm n q + sm n (fun i => (s i - e) * q i) := by
    rw [← sm_mul, ← sm_add]
    exact sm_congr fun i _ => by grind
  rw [h, F.tot]
  unfold at_
  congr 1
  refine sm_congr fun i hi => ?_
  obtain ⟨h1, h2⟩ := E i hi
  unfold pos_
  split
  · rw [h1 (by omega), Int.mul_comm]
  · by_cases z : s i = e
    · rw [z]
      simp
    · rw [h2 (by omega)]
      simp
/-- the law's best, edge by edge -/
def least (f : Nat → Int) : Nat → Int
  | 0 => f 0
  | k + 1 => if f (k + 1) < least f k then f (k + 1) else least f k
theorem least_is {f : Nat → Int} {x : Int} : ∀ k, (∀ i, i ≤ k → x ≤ f i) → (∃ i, i ≤ k ∧ f i = x) → least f k = x
  | 0, _, ⟨i, hi, e⟩ => by
    have : i = 0 := by omega
    subst this
    exact e
  | k + 1, h, ⟨i, hi, e⟩ => by
    unfold least
    have hk := h (k + 1) (Nat.le_refl _)
    have lo : ∀ m, (∀ i, i ≤ m → x ≤ f i) → x ≤ least f m := fun m => by
      induction m with
      | zero => exact fun h => h 0 (Nat.le_refl _)
      | succ m ih =>
        intro h
        unfold least
        have a := ih fun i hi => h i (by omega)
        have b := h (m + 1) (Nat.le_refl _)
        split <;> omega
    by_cases q : i = k + 1
    · subst q
      have := lo k fun i hi => h i (by omega)
      split <;> omega
    · have := least_is k (fun i hi => h i (by omega)) ⟨i, by omega, e⟩
      rw [this]
      split <;> omega
theorem due_is {ord : List Nat} {m : Nat} (hm : n = m + 1) (hc : ∀ i, i < n → 0 < cap i) (hN : 0 < N) (hle : N ≤ sm n cap) (nd : ord.Nodup) (all : ∀ i, i ∈ ord ↔ i < n) (pw : ord.Pairwise (fun i j => s j ≤ s i)) :
    least (fun i => at_ n s cap N (s i)) m = sm n fun i => s i * (greedy cap N ord).2 i := by
  obtain ⟨F, j, hj, E⟩ := greedy_ok (s := s) (by omega) hc hN hle nd all pw
  refine least_is m (fun i _ => weak F hc _) ⟨j, by omega, (strong F E).symm⟩
/-- no group would rather leave -/
theorem part_le {ord : List Nat} {m : Nat} {q : Nat → Int} (hm : n = m + 1) (hc : ∀ i, i < n → 0 < cap i) (hN : 0 < N) (hle : N ≤ sm n cap) (nd : ord.Nodup) (all : ∀ i, i ∈ ord ↔ i < n) (pw : ord.Pairwise (fun i j => s j ≤ s i)) (F : Fits n cap N q) :
    sm n (fun i => s i * q i) ≤ sm n fun i => s i * (greedy cap N ord).2 i := by
  obtain ⟨F2, j, hj, E⟩ := greedy_ok (s := s) (by omega) hc hN hle nd all pw
  rw [strong F2 E]
  exact weak F hc _
end
end K45
/-! K45: expressions that change nothing (GE), and sum, all, any over a generator expression. -/
namespace K45
open PySem PySem.Spec PyProof.Rows L2

/-! ### an expression that changes nothing and gives r -/
def GE (P : Program) (w : World) (env : Env) (D U : Nat) (F : Shared → Prop) (e : Expr) (r : V) : Prop :=
  ∀ (A : Around) (E : Value → Shared → Prop) (s : Shared), A.handled = none → A.depth ≤ D → A.units ≤ U → F s → wpAny (model P w) A (eval e env) (fun y s' => RelV r y ∧ Keeps s s') E s
def Stb (F : Shared → Prop) : Prop := ∀ s s', F s → Keeps s s' → F s'
theorem kp_tok (s : Shared) (k : Nat) : Keeps s { s with toks := k } := ⟨s.heap, k, rfl, fun _ _ e => e⟩
theorem kp_refl (s : Shared) : Keeps s s := kp_tok s s.toks
theorem kp_trans {a b c : Shared} (x : Keeps a b) (y : Keeps b c) : Keeps a c := by
  obtain ⟨h1, k1, rfl, p⟩ := x
  obtain ⟨h2, k2, rfl, q⟩ := y
  exact ⟨h2, k2, rfl, fun b o e => q b o (p b o e)⟩
section
variable {P : Program} {w : World} {env : Env} {D U : Nat} {F : Shared → Prop} {a b c : Expr} {pos : Pos} {x : Str}
theorem GE.run {e : Expr} {r : V} (h : GE P w env D U F e r) (S : Stb F) {A : Around} {E : Value → Shared → Prop} {s0 s : Shared} {Q : Value → Shared → Prop} (hh : A.handled = none) (hd : A.depth ≤ D) (hu : A.units ≤ U) (f : F s0) (k : Keeps s0 s)
    (q : ∀ y s', RelV r y → Keeps s0 s' → Keeps s s' → Q y s') : wpAny (model P w) A (eval e env) Q E s :=
  thn (h A E s hh hd hu (S _ _ f k)) fun y s' ⟨r, k'⟩ => q y s' r (kp_trans k k') k'
theorem ge_int {i : Int} {j : Nat} : GE P w env D U F (.Constant (.int i) j pos) (.int i) := fun A E s _ _ _ _ => wpAny_Constant_int ⟨⟨_, rfl⟩, kp_tok _ _⟩
theorem ge_loc {r : V} (hk : env.scope.kind = .function) (hl : env.kindOf x = some .local) (hf : ∀ s, F s → ∃ m u, s.heap.Ns env.locals m ∧ m x = some u ∧ RelV r u) (hd : (x == ("__debug__" : Str)) = false := by decide) :
    GE P w env D U F (.Name x pos) r := fun A E s _ _ _ f => by
  obtain ⟨m, u, hn, hm, q⟩ := hf s f
  exact wpAny_Name (wpAny_loadName_local hk hl hn hm ⟨q, kp_refl _⟩) hd
theorem ge_free {r : V} {cl : Addr} (hk : env.scope.kind = .function) (hl : env.kindOf x = some .free) (hc : env.cells.lookup x = some cl) (hf : ∀ s, F s → ∃ u, s.heap.IsCell cl (some u) ∧ RelV r u) (hd : (x == ("__debug__" : Str)) = false := by decide)
    (hcd : (x == ("__classdict__" : Str)) = false := by decide) : GE P w env D U F (.Name x pos) r := fun A E s _ _ _ f => by
  obtain ⟨u, hu, q⟩ := hf s f
  exact wpAny_Name (wpAny_loadName_free hk hl hc hu ⟨q, kp_refl _⟩ hcd) hd
/-- where the module's facts hold -/
structure Md (K : PySem.W.Frag) (mg : Str → Option Value) (env : Env) (F : Shared → Prop) : Prop where
  stb : Stb F
  kind : env.scope.kind = .function
  g : env.globals = mainGlobals
  b : env.builtins = builtinsNs
  m : ∀ s, F s → L2.Mod K mg s.heap
variable {K : PySem.W.Frag} {mg : Str → Option Value}
theorem ge_glob {r : V} {u : Value} (M : Md K mg env F) (hl : env.kindOf x = some .globalImplicit) (hm : mg x = some u) (q : RelV r u) (hd : (x == ("__debug__" : Str)) = false := by decide) : GE P w env D U F (.Name x pos) r := fun A E s _ _ _ f => by
  exact Calls.Name_function_global M.kind hl (Calls.loadGlobal_global (by rw [M.g]; exact (M.m s f).glob) hm ⟨q, kp_refl _⟩) hd
theorem ld_b {A : Around} {E : Value → Shared → Prop} {s : Shared} {Q : Value → Shared → Prop} {u : Value} (M : Md K mg env F) (f : F s) (hl : env.kindOf x = some .globalImplicit) (hm : mg x = none) (hv : bootBuiltins x = some u) (q : Q u s) (hn : x ≠ "__name__" := by decide)
    (hd : (x == ("__debug__" : Str)) = false := by decide) : wpAny (model P w) A (eval (.Name x pos) env) Q E s := by
  obtain ⟨mb, h1, h2⟩ := (M.m s f).blt
  exact Calls.Name_function_global M.kind hl (Calls.loadGlobal_builtin (by rw [M.g]; exact (M.m s f).glob) hm (by rw [M.b]; exact h1) ((h2 x hn).trans hv) q) hd
theorem ge_sub {i j : Int} (S : Stb F) (ha : GE P w env D U F a (.int i)) (hb : GE P w env D U F b (.int j)) : GE P w env D U F (.BinOp a .Sub b pos) (.int (i - j)) := fun A E s h1 h2 h3 f => by
  refine wpAny_BinOp (ha.run S h1 h2 h3 f (kp_refl _) fun y s1 ry k1 _ => hb.run S h1 h2 h3 f k1 fun z s2 rz k2 _ => ?_)
  obtain ⟨t, rfl⟩ := ry
  obtain ⟨u, rfl⟩ := rz
  exact sub_int ⟨⟨_, rfl⟩, kp_trans k2 (kp_tok _ _)⟩
theorem ge_add {i j : Int} (S : Stb F) (ha : GE P w env D U F a (.int i)) (hb : GE P w env D U F b (.int j)) : GE P w env D U F (.BinOp a .Add b pos) (.int (i + j)) := fun A E s h1 h2 h3 f => by
  refine wpAny_BinOp (ha.run S h1 h2 h3 f (kp_refl _) fun y s1 ry k1 _ => hb.run S h1 h2 h3 f k1 fun z s2 rz k2 _ => ?_)
  obtain ⟨t, rfl⟩ := ry
  obtain ⟨u, rfl⟩ := rz
  exact add_int ⟨⟨_, rfl⟩, kp_trans k2 (kp_tok _ _)⟩
theorem ge_ge {i j : Int} (S : Stb F) (ha : GE P w env D U F a (.int i)) (hb : GE P w env D U F b (.int j)) : GE P w env D U F (.Compare a [.GtE] [b] pos) (.bl (decide (j ≤ i))) := fun A E s h1 h2 h3 f => by
  refine wpAny_Compare1 (ha.run S h1 h2 h3 f (kp_refl _) fun y s1 ry k1 _ => hb.run S h1 h2 h3 f k1 fun z s2 rz k2 _ => ?_) (nobehind b (by decide) (by decide))
  obtain ⟨t, rfl⟩ := ry
  obtain ⟨u, rfl⟩ := rz
  exact PyProof.Rows.ge_int ⟨rfl, k2⟩
/-- a <= b <= c -/
theorem ge_chain {i j k : Int} (S : Stb F) (ha : GE P w env D U F a (.int i)) (hb : GE P w env D U F b (.int j)) (hc : GE P w env D U F c (.int k)) (hm : lastMarks [.LtE, .LtE] [b, c] = false := by with_unfolding_all rfl) (hij : i ≤ j) (hjk : j ≤ k) :
    GE P w env D U F (.Compare a [.LtE, .LtE] [b, c] pos) (.bl true) := fun A E s h1 h2 h3 f => by
  refine Compare_chain (ha.run S h1 h2 h3 f (kp_refl _) fun y s1 ry k1 _ => chain_link (hb.run S h1 h2 h3 f k1 fun z s2 rz k2 _ => ?_)) hm
  obtain ⟨t, rfl⟩ := ry
  obtain ⟨u, rfl⟩ := rz
  refine le_int (wpAny_truthy_bool ?_)
  rw [decide_eq_true hij]
  refine ite_tt (chain_last (hc.run S h1 h2 h3 f k2 fun v s3 rv k3 _ => ?_))
  obtain ⟨t3, rfl⟩ := rv
  refine le_int ⟨?_, k3⟩
  rw [decide_eq_true hjk]
  rfl
theorem ge_one {op : BoolOp} {r : V} (ha : GE P w env D U F a r) : GE P w env D U F (.BoolOp op [a] pos) r := fun A E s h1 h2 h3 f => BoolOp_one (ha A E s h1 h2 h3 f)
theorem ge_and {rest : List Expr} {r : V} (S : Stb F) (ha : GE P w env D U F a (.bl true)) (hb : GE P w env D U F (.BoolOp .And (b :: rest) pos) r) : GE P w env D U F (.BoolOp .And (a :: b :: rest) pos) r := fun A E s h1 h2 h3 f => by
  refine BoolOp_and (ha.run S h1 h2 h3 f (kp_refl _) fun y s1 ry k1 _ => ?_)
  cases (show y = Value.bool true from ry)
  exact wpAny_truthy_bool (ite_tt (hb.run S h1 h2 h3 f k1 fun z s2 rz k2 _ => ⟨rz, k2⟩))
theorem ge_not {v : Bool} (S : Stb F) (ha : GE P w env D U F a (.bl v)) : GE P w env D U F (.UnaryOp .Not a pos) (.bl (!v)) := fun A E s h1 h2 h3 f => by
  refine UnaryOp_ (ha.run S h1 h2 h3 f (kp_refl _) fun y s1 ry k1 _ => ?_)
  cases (show y = Value.bool v from ry)
  exact PyProof.Rows.not_of (wpAny_truthy_bool ⟨rfl, k1⟩)
/-- t[i], t a tuple -/
theorem ge_item {p : Addr} {i : Int} {r : V} (S : Stb F) (ha : GE P w env D U F a (.ref p)) (hb : GE P w env D U F b (.int i)) (hs : PlainIx b)
    (hf : ∀ s, F s → ∃ (xs : List V) (its : List Value), Vals xs its ∧ IsTup s.heap p its.toArray ∧ xs.length ≤ sizeLine ∧ atI xs i = some r) : GE P w env D U F (.Subscript a b pos) r := fun A E s h1 h2 h3 f => by
  refine Subscript_ (ha.run S h1 h2 h3 f (kp_refl _) fun y s1 ry k1 _ => hb.run S h1 h2 h3 f k1 fun z s2 rz k2 _ => ?_)
  cases (show y = Value.ref p from ry)
  obtain ⟨u, rfl⟩ := rz
  obtain ⟨xs, its, rv, pl, hz, he⟩ := hf s2 (S _ _ f k2)
  obtain ⟨j, q1, q2, q3, q4, q5⟩ := atI_get he
  obtain ⟨wv, ew, rw'⟩ := rv.get q2
  have hl := rv.length
  have hn := line63
  exact subscriptTail_builtinR (x := wv) pl.typeIs slot_tuple_getitem.lookup
    (getItem_tuple (j := j) (k := i) (Q := fun z s' => z = wv ∧ (RelV r z ∧ Keeps s s')) pl (by omega) (by omega) (by rw [List.size_toArray, ← hl]; exact q1) (by simpa using ew) ⟨rfl, rw', k2⟩) (hs _ _)
/-- isinstance(a, T) of an int -/
theorem ge_isi {i : Int} {T : String} {nm : Str} {p1 p2 : Pos} {v : Bool} (M : Md K mg env F) (ha : GE P w env D U F a (.int i)) (hl : env.kindOf "isinstance" = some .globalImplicit) (hm : mg "isinstance" = none) (hl2 : env.kindOf nm = some .globalImplicit) (hm2 : mg nm = none)
    (hv : bootBuiltins nm = some (.type T)) (hb : kitB "int" T = some v) (hn : nm ≠ "__name__" := by decide) (hd : (nm == ("__debug__" : Str)) = false := by decide)
    (he : starEach [a, .Name nm p2] env = (false, eval a env) :: starEach [.Name nm p2] env := by rfl) (he2 : starEach [.Name nm p2] env = (false, eval (.Name nm p2) env) :: starEach [] env := by rfl) (hpl : (backTo pos (starEach [.Name nm p2] env)).any (·.1) = false := by rfl) :
    GE P w env D U F (.Call (.Name "isinstance" p1) [a, .Name nm p2] [] pos) (.bl v) := fun A E s h1 h2 h3 f => by
  refine wpAny_Call_Name_kw (ld_b M f hl hm (show bootBuiltins "isinstance" = some (.builtin "isinstance") by decide +kernel) ?_)
  refine PyProof.Rows.callWith_builtin1 ?_ he hpl
  rw [he]
  show wpAny _ _ (spliced ((false, eval a env) :: backTo pos (starEach [.Name nm p2] env))) _ _ s
  refine Calls.spliced_cons (ha.run M.stb h1 h2 h3 f (kp_refl _) fun y s1 ry k1 _ => ?_)
  rw [he2]
  show wpAny _ _ (spliced ((false, eval (.Name nm p2) env) :: backTo pos (starEach [] env))) _ _ s1
  refine Calls.spliced_cons (ld_b M (M.stb _ _ f k1) hl2 hm2 hv ?_ hn hd)
  refine Calls.spliced_nil ?_
  obtain ⟨t, rfl⟩ := ry
  exact PySem.W.kia_one (K := K) PySem.W.kitx_int (M.m _ (M.stb _ _ f k1)).kin True.intro (kit_ty hb) (fun z => nomatch z) fun tk => ⟨rfl, kp_trans k1 (kp_tok _ _)⟩
/-- len(t), t a tuple -/
theorem ge_len {p : Addr} {n : Nat} {p1 : Pos} (M : Md K mg env F) (ha : GE P w env D U F a (.ref p)) (hl : env.kindOf "len" = some .globalImplicit) (hm : mg "len" = none)
    (hf : ∀ s, F s → ∃ its : List Value, IsTup s.heap p its.toArray ∧ its.length = n ∧ n ≤ sizeLine) (he : starEach [a] env = (false, eval a env) :: starEach [] env := by rfl) (hpl : (backTo pos (starEach [] env)).any (·.1) = false := by rfl) :
    GE P w env D U F (.Call (.Name "len" p1) [a] [] pos) (.int n) := fun A E s h1 h2 h3 f => by
  refine wpAny_Call_Name_kw (ld_b M f hl hm PySem.boot_len ?_)
  refine PyProof.Rows.callWith_builtin1 ?_ he hpl
  rw [he]
  show wpAny _ _ (spliced ((false, eval a env) :: backTo pos (starEach [] env))) _ _ s
  refine Calls.spliced_cons (ha.run M.stb h1 h2 h3 f (kp_refl _) fun y s1 ry k1 _ => ?_)
  refine Calls.spliced_nil ?_
  cases (show y = Value.ref p from ry)
  obtain ⟨its, ht, e, hz⟩ := hf s1 (M.stb _ _ f k1)
  have hn := line63
  refine PyProof.Rows.len_tuple ht (by rw [List.size_toArray]; omega) ⟨⟨_, by rw [List.size_toArray, e]⟩, kp_trans k1 (kp_tok _ _)⟩
end
end K45
/-! K45: a generator expression over a tuple, a range; sum, all, any of it. -/
namespace K45
open PySem PySem.Spec PyProof.Rows L2

/-- what stands where an element is evaluated: all of s1 but the table at T, the loop's name -/
def GF (s1 : Shared) (T C : Addr) (x : Str) (u : Value) (s : Shared) : Prop := (∀ b o, b ≠ T → s1.heap.get? b = some o → s.heap.get? b = some o) ∧ ∃ m, s.heap.Ns C m ∧ m x = some u
theorem gf_stb {s1 : Shared} {T C : Addr} {x : Str} {u : Value} : Stb (GF s1 T C x u) := fun s s' ⟨k, m, hn, hm⟩ h => by
  obtain ⟨h', tk, rfl, kp⟩ := h
  exact ⟨fun b o n e => kp b o (k b o n e), m, hn.keeps kp, hm⟩
/-- the walked thing xv, in s1: its iterator's object o is laid next -/
structure Src (P : Program) (w : World) (xv : Value) (s1 : Shared) (o : Obj) (fp0 : List Addr) (n : Nat) (Pf : Nat → Value → Prop) (St : Nat → Heap → Prop) : Prop where
  begins : ∀ (A : Around) (E : Value → Shared → Prop) (Q : Value → Shared → Prop), Q (.ref s1.heap.objs.size) { s1 with heap := s1.heap.push o } → wpAny (model P w) A (pyIter xv) Q E s1
  walks : ∀ A' : Around, A'.handled = none → Walks P w A' s1.heap.objs.size (s1.heap.objs.size :: fp0) [s1.heap.objs.size] n Pf St
  st : ∀ h : Heap, (∀ b ∈ s1.heap.objs.size :: fp0, ∀ u, (s1.heap.push o).get? b = some u → h.get? b = some u) → St 0 h
  lt : ∀ b ∈ fp0, b < s1.heap.objs.size
section
variable {X : Cx} {pins : List (Addr × Obj)} {σ : L2.St} {H : Hp} {s : Shared}
/-- the generator g of n items f 0, f 1, .., ready to be walked; H1: what was held before -/
def ReadyG (X : Cx) (pins : List (Addr × Obj)) (σ : L2.St) (H1 : Hp) (T : Addr) (n : Nat) (f : Nat → V) (g : Addr) (s5 : Shared) : Prop :=
  ∃ (fp wr : List Addr) (G : Array GenState → Array GenState → Prop) (F : Nat → Value → Prop) (St : Nat → Shared → Prop),
    WalksS X.prog X.w X.A.in1 g fp wr G n F St ∧ St 0 s5 ∧ (∀ b ∈ fp, b < s5.heap.objs.size) ∧ (∀ j y, F j y → RelV (f j) y) ∧
    ∀ s', Moved wr G s5 s' → ∃ H2, GxR.Tabbed T H1 H2 ∧ Inv X pins σ H2 s'
abbrev genv (X : Cx) (scope : Scope) (C : Addr) (code : Value) : Env := genEnv scope (cloFrom X.env.cells scope.names []) C code builtinsNs X.env
theorem gen_core {c T : Addr} {elt iter : Expr} {x : Str} {px gpos : Pos} {scope : Scope} {k : Nat} {Q' : Value → Shared → Prop}
    (hr : Room k X.A) (TB : GxR.TabB X.base X.mg c T) (hcode : X.env.code = .ref c) (S : GxR.GenS X.env scope x) (hs : ∀ v, genFold iter X.env v = pure v)
    (h : wpAny (model X.prog X.w) X.A (eval iter X.env) (fun xv s1 => ∃ (H1 : Hp) (o : Obj) (fp0 : List Addr) (n : Nat) (Pf : Nat → Value → Prop) (St : Nat → Heap → Prop) (f : Nat → V), Inv X pins σ H1 s1 ∧ GxR.TabG H1 T ∧ Src X.prog X.w xv s1 o fp0 n Pf St ∧ T ∉ fp0 ∧
      (∀ (C : Addr) (code : Value) (i : Nat) (u : Value), Pf i u → GE X.prog X.w (genv X scope C code) (X.A.depth + 1) (X.A.units + 8) (GF s1 T C x u) elt (f i)) ∧
      ∀ g s5, ReadyG X pins σ H1 T n f g s5 → Q' (.ref g) s5) X.xe s) :
    wpAny (model X.prog X.w) X.A (eval (.GeneratorExp elt [⟨.Name x px, iter, [], 0⟩] scope gpos) X.env) Q' X.xe s := by
  refine wpAny_GeneratorExp_walksQD hr.hd S.co (closure_ok S.free) S.cell S.dot S.loc S.kind (by have := hr.dp; omega) ?_ hs
  refine thn h fun xv s1 ⟨H1, o, fp0, n, Pf, Zt, f, I1, ⟨ps, hP, ht⟩, src, hT0, hel, hQ⟩ => ?_
  refine src.begins _ _ _ ?_
  have hPs : s1.heap.get? T = some { cls := .none, data := .fields ps } := I1.hok T _ hP
  have hPlt : T < s1.heap.objs.size := Heap.lt_size hPs
  have hP2 : (s1.heap.push o).get? T = some { cls := .none, data := .fields ps } := Heap.get?_push_of_some _ hPs
  have cd : PySem.W.CodeHd (s1.heap.push o) c T := TB.code.keeps fun b u e => Heap.get?_push_of_some _ (I1.bk b u e)
  have lim2 : (s1.heap.push o).NoLimit := I1.nolimit.push o
  have cont : ∀ (code : Value) (h3 : Heap) (tk : Nat) (ps' : Array Value), Heap.ExtBut T (s1.heap.push o) h3 → (s1.heap.push o).objs.size ≤ h3.objs.size → h3.get? T = some { cls := .none, data := .fields ps' } → (∃ more, ps' = ps ++ more) → TriplesOk ps'.toList →
      wpAny (model X.prog X.w) X.A (builtinsFor X.env.globals X.env.builtins) (fun bi s₄ =>
        ∃ Ia fp wr n₀ Pf St₀ pz F, Value.ref s1.heap.objs.size = .ref Ia ∧ (∀ A' : Around, A'.handled = none → Walks X.prog X.w A' Ia fp wr n₀ Pf St₀) ∧ St₀ 0 s₄.heap ∧ (∀ b ∈ fp, b < s₄.heap.objs.size) ∧ s₄.heap.NoLimit ∧ cStatics ∉ wr ∧
          (∀ href : Heap, (∀ b o, s₄.heap.get? b = some o → href.get? b = some o) →
            QuietGenD X.prog X.w (genEnv scope (cloFrom X.env.cells scope.names []) s₄.heap.objs.size code bi X.env) x [] elt (List.range s₄.heap.objs.size) wr Pf pz F href (X.A.depth + 1) (X.A.units + 8)) ∧
          (∀ a h₅ tk gs, gs.bare = true → s₄.heap.objs.size < a → h₅.objs.size = a + 1 → (∀ b o, s₄.heap.get? b = some o → h₅.get? b = some o) →
            WalksS X.prog X.w X.A.in4 a (a :: s₄.heap.objs.size :: List.range s₄.heap.objs.size) (s₄.heap.objs.size :: wr) (GenOnlyQ s₄.gens.size) (passing pz n₀ 0).length
              (fun j y => ∃ i, (passing pz n₀ 0)[j]? = some i ∧ F i y) (GenAt X.prog X.w X.A.in4 a s₄.gens.size s₄.heap.objs.size (List.range s₄.heap.objs.size) wr pz n₀ F) →
            GenAt X.prog X.w X.A.in4 a s₄.gens.size s₄.heap.objs.size (List.range s₄.heap.objs.size) wr pz n₀ F 0 { s₄ with gens := s₄.gens.push gs, toks := tk, heap := h₅ } →
            Q' (.ref a) { s₄ with gens := s₄.gens.push gs, toks := tk, heap := h₅ })) X.xe { s1 with heap := h3, toks := tk } := by
    intro code h3 tk ps' hx hsz hP3 hmore ht3
    obtain ⟨bm, ob, e1, e2, e3, e4, e5, e6, e7, e8⟩ := TB.bm
    have hcP : cStatics ≠ T := fun e => by
      obtain ⟨_, hns, _⟩ := I1.nolimit
      obtain ⟨o', es, ep, ho, hd, _⟩ := hns
      rw [e, hPs] at ho
      cases ho
      cases hd
    have hcl : cStatics < s1.heap.objs.size := let ⟨_, hns, _⟩ := I1.nolimit; hns.lt
    have sz2 : (s1.heap.push o).objs.size = s1.heap.objs.size + 1 := Heap.size_push ..
    have keep3 : ∀ b u, b ≠ T → s1.heap.get? b = some u → h3.get? b = some u := fun b u hb e => hx b u hb (Heap.get?_push_of_some _ e)
    refine wpAny_builtinsFor (m := X.mg) (by rw [I1.ok.glob]; exact ((I1.mod.glob.keeps I1.bk).push o).extBut hx TB.gP) e1 e2 (keep3 _ _ e4 (I1.bk _ _ e5)) e6 e7 e8 ?_
    have fpT : ∀ b ∈ s1.heap.objs.size :: fp0, b ≠ T := fun b hb z => by
      rcases List.mem_cons.mp hb with z2 | z2
      · exact Nat.ne_of_lt hPlt (z.symm.trans z2)
      · exact hT0 (by rw [← z]; exact z2)
    refine ⟨s1.heap.objs.size, s1.heap.objs.size :: fp0, [s1.heap.objs.size], n, Pf, Zt, (fun _ => true), (fun i y => RelV (f i) y), rfl, src.walks, ?_, ?_, lim2.extBut hx hcP, ?_, ?_, ?_⟩
    · exact src.st h3 fun b hb u e => hx b u (fpT b hb) e
    · intro b hb
      rcases List.mem_cons.mp hb with z | z
      · rw [z]
        show s1.heap.objs.size < h3.objs.size
        omega
      · exact Nat.lt_of_lt_of_le (src.lt b z) (by omega : s1.heap.objs.size ≤ h3.objs.size)
    · intro z
      rcases List.mem_cons.mp z with z | z
      · exact Nat.ne_of_lt hcl z
      · cases z
    · intro href hhref
      refine ⟨fun A' E' i v s₂ m₂ hA _ _ hPv hn hm hk => ?_, fun A' E' i v s₂ m₂ hA hD hU hPv hp hn hm hk => ?_⟩
      · simp only [List.forIn_nil]
        exact wpAny_pure ⟨rfl, kp_refl _⟩
      · refine hel _ code i v hPv A' E' s₂ hA hD hU ⟨fun b u hb e => ?_, m₂, hn, hm⟩
        have hlt : b < s1.heap.objs.size := Heap.lt_size e
        refine hk b ?_ (fun z => ?_) u (hhref b u (keep3 b u hb e))
        · refine List.mem_range.mpr ?_
          exact Nat.lt_of_lt_of_le hlt (by omega : s1.heap.objs.size ≤ h3.objs.size)
        · rcases List.mem_cons.mp z with z | z
          · rw [z] at hlt
            exact Nat.lt_irrefl _ hlt
          · cases z
    · intro g h5 tk5 gs hgb hag hsz5 hk5 W5 hgat
      simp only [GxR.passing_true, List.length_range] at W5
      refine hQ g _ ⟨_, _, _, _, _, W5.in4_1, hgat, ?_, ?_, fun s' hm => ?_⟩
      · intro b hb
        show b < h5.objs.size
        have e5 : h5.objs.size = g + 1 := hsz5
        have h8 : h3.objs.size < g := hag
        rw [e5]
        rcases List.mem_cons.mp hb with z | z
        · rw [z]
          exact Nat.lt_succ_self g
        · rcases List.mem_cons.mp z with z | z
          · rw [z]
            exact Nat.lt_succ_of_lt h8
          · have h7 : b < h3.objs.size := List.mem_range.mp z
            exact Nat.lt_succ_of_lt (Nat.lt_trans h7 h8)
      · intro j y hy
        obtain ⟨i, hij, e⟩ := hy
        obtain ⟨hj, ej⟩ := List.getElem?_eq_some_iff.mp hij
        rw [List.getElem_range] at ej
        subst ej
        exact e
      · obtain ⟨more, em⟩ := hmore
        have nwr : ∀ b u, s1.heap.get? b = some u → b ∉ h3.objs.size :: [s1.heap.objs.size] := fun b u e hb => by
          have hl := Heap.lt_size e
          rcases List.mem_cons.mp hb with z | z
          · rw [z] at hl
            have h9 : (h3.objs.size : Nat) < s1.heap.objs.size := hl
            omega
          · rcases List.mem_cons.mp z with z | z
            · rw [z] at hl
              exact Nat.lt_irrefl _ hl
            · cases z
        have J := GxR.inv_tab (more := more) (h' := s'.heap) (g' := s'.gens) (d' := s'.drawn) (t' := s'.toks) I1 hP (fun b u hb e => hm.heap b u (nwr b u e) (hk5 b u (keep3 b u hb e)))
          (by rw [← em]; exact hm.heap T _ (nwr T _ hPs) (hk5 T _ hP3)) (AllBare.movedS (I1.bare.push hgb) hm)
        rw [GxR.sh_eta s1 s' hm.os] at J
        refine ⟨upd H1 T (.tbl (ps ++ more)), ⟨⟨ps ++ more, upd_same, by rw [← em]; exact ht3⟩, fun b hb => upd_ne hb⟩, J⟩
  refine ⟨lim2, ?_⟩
  cases hf : codeAmong gpos ps.toList with
  | none =>
    refine wpAny_genexprCodeX hcode (cd.code hP2 ht) (cd.tab hP2) hf fun c' h' tk hx hge hlt hco' _ htab' _ => ?_
    obtain ⟨o1, vs, f1, tf, fl, tg, inF, tx, tt, op, _, _, _, _, _, _, _, _, _, htr, _⟩ := hco'
    exact cont _ h' tk _ hx (Nat.le_trans hge (Nat.le_of_lt hlt)) htab'.2 ⟨_, rfl⟩ htr
  | some cv =>
    refine wpAny_genexprCode_hit hcode (cd.code hP2 ht) hf ?_
    exact cont cv (s1.heap.push o) s1.toks ps (Heap.ExtBut.refl _ _) (Nat.le_refl _) hP2 ⟨#[], by simp⟩ ht

/-! ### where it is walked -/
theorem src_tup {yl : Addr} {its : List Value} {P : Program} {w : World} (ht : IsTup s.heap yl its.toArray) :
    Src P w (.ref yl) s { cls := .type "tuple_iterator", data := .fields #[.ref yl, .int 0 0] } [yl] its.length (fun i v => its[i]? = some v) (fun i h => h.IsTupleIter s.heap.objs.size yl i ∧ h.IsTuple yl its.toArray) := by
  have hlt : yl < s.heap.objs.size := let ⟨_, e, _⟩ := ht; Heap.lt_size e
  have hT : s.heap.IsTuple yl its.toArray := by
    obtain ⟨o, e, c, n, d⟩ := ht
    exact ⟨o, e, c, n, d⟩
  refine ⟨fun A E Q hQ => wpAny_pyIter_tuple hT hQ, fun A' hA => ?_, fun h hk => ⟨?_, ?_⟩, fun b hb => ?_⟩
  · have W := Walks.tuple (prog := P) (w := w) hA s.heap.objs.size yl (Nat.ne_of_lt hlt) its.toArray
    rw [List.size_toArray] at W
    simpa using W
  · exact ⟨_, hk _ (by simp) _ (Heap.get?_push_size _ rfl), rfl, rfl⟩
  · obtain ⟨o, e, r⟩ := hT
    exact ⟨o, hk yl (by simp) o (Heap.get?_push_of_some _ e), r⟩
  · have : b = yl := by simpa using hb
    rw [this]
    exact hlt
theorem walks_lt {P : Program} {w : World} {A : Around} {I : Addr} {fp wr : List Addr} {n : Nat} {Pf : Nat → Value → Prop} {St : Nat → Heap → Prop} (W : Walks P w A I fp wr n Pf St) : Walks P w A I fp wr n (fun i v => Pf i v ∧ i < n) St :=
  ⟨W.sub, W.frame, fun i s Q E hi st hQ => W.item i s Q E hi st fun v h' tk p => hQ v h' tk ⟨p, hi⟩, W.done, W.self⟩
theorem src_rng {r : Addr} {n : Nat} {t u v : Tok} {P : Program} {w : World} (hr : IsRange s.heap r 0 n 1 t u v) (hn : n ≤ 1000) :
    Src P w (.ref r) s { cls := .type "range_iterator", data := .fields #[rawInt 0, rawInt (Builtin.Range.rangeSize 0 n 1), rawInt 1] } [] n (fun i y => (∃ t, y = .int (0 + i * 1) t) ∧ i < n) (fun i h => IsRangeIter h s.heap.objs.size (0 + (i : Nat) * 1) ((n : Int) - (i : Nat)) 1) := by
  refine ⟨fun A E Q hQ => wpAny_pyIter_range hr (small_one (by omega) (by omega) (by omega) (by omega)) hQ, fun A' hA => walks_lt (Walks.range hA _ 0 1 n), fun h hk => ?_, fun b hb => by cases hb⟩
  have e := hk _ (by simp) _ (Heap.get?_push_size s.heap rfl)
  have e2 : (Builtin.Range.rangeSize 0 n 1 : Int) = (n : Int) := by
    rw [rangeSize_nat]
    omega
  rw [e2] at e
  show IsRangeIter h s.heap.objs.size (0 + ((0 : Nat) : Int) * 1) ((n : Int) - ((0 : Nat) : Int)) 1
  have e3 : (n : Int) - ((0 : Nat) : Int) = n := by omega
  rw [e3]
  exact e
end
end K45
/-! K45: sum, all, any of a generator expression, as rules. -/
namespace K45
open PySem PySem.Spec PyProof.Rows L2
/-- a generator expression's names, seen from the scope around -/
structure GenT (sc scope : Scope) (x : Str) : Prop where
  kind : scope.kind = .function
  co : scope.isCoroutine = false
  cell : ∀ y ∈ scope.names, y.2 ≠ .cell
  dot : scope.names.lookup (".0" : Str) = some NameKind.local
  loc : scope.names.lookup x = some .local
  free : ∀ y ∈ scope.names, y.2 = .free → sc.names.lookup y.1 = some .cell ∨ sc.names.lookup y.1 = some .free
def genTB (sc scope : Scope) (x : Str) : Bool :=
  decide (scope.kind = .function) && !scope.isCoroutine && decide (scope.names.lookup (".0" : Str) = some NameKind.local) && decide (scope.names.lookup x = some NameKind.local) &&
  scope.names.all fun y => !decide (y.2 = .cell) && (!decide (y.2 = .free) || decide (sc.names.lookup y.1 = some .cell) || decide (sc.names.lookup y.1 = some .free))
theorem genT_by {sc scope : Scope} {x : Str} (h : genTB sc scope x = true) : GenT sc scope x := by
  unfold genTB at h
  simp only [Bool.and_eq_true, Bool.or_eq_true, Bool.not_eq_true', decide_eq_true_eq, decide_eq_false_iff_not, List.all_eq_true] at h
  obtain ⟨⟨⟨⟨h1, h2⟩, h3⟩, h4⟩, h5⟩ := h
  refine ⟨h1, h2, fun y hy => (h5 y hy).1, h3, h4, fun y hy e => ?_⟩
  rcases (h5 y hy).2 with (z | z) | z
  · exact absurd e z
  · exact .inl z
  · exact .inr z
theorem GenT.of {X : Cx} {scope : Scope} {x : Str} (S : GenT X.env.scope scope x) (ok : X.Ok) : GxR.GenS X.env scope x :=
  ⟨S.kind, S.co, S.cell, S.dot, S.loc, fun y hy e => (S.free y hy e).elim (fun k => ok.has _ (.inl k)) fun k => ok.has _ (.inr k)⟩
/-- the element's reading: what an item gives -/
abbrev EL := L2.St → Hp → V → V → Prop
def ElOk (X : Cx) (scope : Scope) (x : Str) (elt : Expr) (T : Addr) (el : EL) : Prop :=
  ∀ (pins : List (Addr × Obj)) (σ : L2.St) (H1 : Hp) (s1 : Shared), Inv X pins σ H1 s1 → GxR.TabG H1 T → ∀ (C : Addr) (code : Value) (u : Value) (it r : V), RelV it u → el σ H1 it r →
    GE X.prog X.w (genv X scope C code) (X.A.depth + 1) (X.A.units + 8) (GF s1 T C x u) elt r
section
variable {X : Cx} {pins : List (Addr × Obj)} {σ : L2.St} {H : Hp} {s : Shared} {c T : Addr} {elt iter : Expr} {x : Str} {px gpos p pos : Pos} {scope : Scope} {k : Nat} {te : TE} {el : EL}
theorem nT_tup {H1 : Hp} {s1 : Shared} {a : Addr} {its : Array Value} (I : Inv X pins σ H1 s1) (t : GxR.TabG H1 T) (h : IsTup s1.heap a its) : a ≠ T := fun z => by
  obtain ⟨ps, hP, _⟩ := t
  have e : s1.heap.get? T = some { cls := .none, data := .fields ps } := I.hok T _ hP
  obtain ⟨o, e2, _, n, d⟩ := h
  rw [z, e] at e2
  cases e2
  cases d
/-- over a tuple -/
theorem gen_tup {Q' : Value → Shared → Prop} (f : Nat → V) {R : Nat → Hp → Prop}
    (hr : Room k X.A) (TB : GxR.TabB X.base X.mg c T) (hcode : X.env.code = .ref c) (S : GxR.GenS X.env scope x) (hi : PE X iter te) (hel : ElOk X scope x elt T el)
    (hs : ∀ v, genFold iter X.env v = pure v) (I : Inv X pins σ H s)
    (h : te σ H fun v H1 => ∃ (yl : Addr) (vs : List V), v = .ref yl ∧ SqT X.K H1 yl vs ∧ GxR.TabG H1 T ∧ (∀ (i : Nat) (y : V), vs[i]? = some y → el σ H1 y (f i)) ∧ R vs.length H1)
    (hQ : ∀ n H1 g s5, R n H1 → ReadyG X pins σ H1 T n f g s5 → Q' (.ref g) s5) :
    wpAny (model X.prog X.w) X.A (eval (.GeneratorExp elt [⟨.Name x px, iter, [], 0⟩] scope gpos) X.env) Q' X.xe s := by
  refine gen_core (pins := pins) (σ := σ) hr TB hcode S hs (thn (hi.run pins s σ H _ I h) fun xv s1 ⟨v, H1, I1, r1, yl, vs, ev, hy, tb, he, q⟩ => ?_)
  subst ev
  cases (show xv = Value.ref yl from r1)
  obtain ⟨its, rv, ht, hz⟩ := I1.tuple hy
  have hlen := rv.length
  refine ⟨H1, _, _, _, _, _, f, I1, tb, src_tup ht, ?_, fun C code i u hu => ?_, fun g s5 rdy => hQ vs.length H1 g s5 q (by rw [hlen]; exact rdy)⟩
  · intro z
    have e : T = yl := by simpa using z
    exact nT_tup I1 tb ht e.symm
  · have hi2 : i < vs.length := by
      rw [hlen]
      exact (List.getElem?_eq_some_iff.mp hu).1
    have hx : vs[i]? = some vs[i] := List.getElem?_eq_getElem hi2
    obtain ⟨u2, e2, r2⟩ := rv.get hx
    rw [hu] at e2
    cases e2
    exact hel pins σ H1 s1 I1 tb C code u _ _ r2 (he i _ hx)
/-- over range(n) -/
theorem gen_rng {Q' : Value → Shared → Prop} (f : Nat → V) {R : Nat → Hp → Prop} {tr : L2.St → Hp → (Int → Int → Hp → Prop) → Prop}
    (hr : Room k X.A) (TB : GxR.TabB X.base X.mg c T) (hcode : X.env.code = .ref c) (S : GxR.GenS X.env scope x) (hi : PRg X iter tr) (hel : ElOk X scope x elt T el)
    (hs : ∀ v, genFold iter X.env v = pure v) (I : Inv X pins σ H s)
    (h : tr σ H fun a b H1 => ∃ n : Nat, a = 0 ∧ b = n ∧ n ≤ 1000 ∧ GxR.TabG H1 T ∧ (∀ i : Nat, i < n → el σ H1 (.int i) (f i)) ∧ R n H1)
    (hQ : ∀ n H1 g s5, R n H1 → ReadyG X pins σ H1 T n f g s5 → Q' (.ref g) s5) :
    wpAny (model X.prog X.w) X.A (eval (.GeneratorExp elt [⟨.Name x px, iter, [], 0⟩] scope gpos) X.env) Q' X.xe s := by
  refine gen_core (pins := pins) (σ := σ) hr TB hcode S hs (thn (hi pins s σ H _ I h) fun xv s1 ⟨r, a, b, t, u, v, H1, ex, hrg, I1, n, ea, eb, hn, tb, he, q⟩ => ?_)
  subst ex ea eb
  refine ⟨H1, _, _, _, _, _, f, I1, tb, src_rng hrg hn, by simp, fun C code i y hy => ?_, fun g s5 rdy => hQ n H1 g s5 q rdy⟩
  obtain ⟨⟨t', e⟩, hin⟩ := hy
  have e' : (0 : Int) + (i : Int) * 1 = (i : Int) := by omega
  rw [e'] at e
  exact hel pins σ H1 s1 I1 tb C code y (.int i) (f i) ⟨t', e⟩ (he i hin)

/-- sum(elt for x in t) -/
def tSumT (K : PySem.W.Frag) (T : Addr) (el : EL) (te : TE) : TE := fun σ H Q => ∃ f : Nat → Int, te σ H fun v H1 => ∃ (yl : Addr) (vs : List V), v = .ref yl ∧ SqT K H1 yl vs ∧ GxR.TabG H1 T ∧ (∀ (i : Nat) (y : V), vs[i]? = some y → el σ H1 y (.int (f i))) ∧
  (∀ j, j < vs.length → InLong (f j) ∧ InLong (preSum f (j + 1))) ∧ ∀ H2, GxR.Tabbed T H1 H2 → Q (.int (preSum f vs.length)) H2
theorem pe_sumT {K : PySem.W.Frag} (hK : X.K = K) (hr : Room k X.A) (hg : Gl X "sum") (hm : X.mg "sum" = none) (TB : GxR.TabB X.base X.mg c T) (hcode : X.env.code = .ref c) (S : GenT X.env.scope scope x) (hi : PE X iter te) (hel : ElOk X scope x elt T el) (hs : ∀ v, genFold iter X.env v = pure v := by intro _; rfl)
    (he : starEach [.GeneratorExp elt [⟨.Name x px, iter, [], 0⟩] scope gpos] X.env = (false, eval (.GeneratorExp elt [⟨.Name x px, iter, [], 0⟩] scope gpos) X.env) :: starEach [] X.env := by rfl) :
    PE X (.Call (.Name "sum" p) [.GeneratorExp elt [⟨.Name x px, iter, [], 0⟩] scope gpos] [] pos) (tSumT K T el te) := by
  subst hK
  refine ⟨fun pins s σ H Q I ⟨f, h⟩ => ?_⟩
  refine wpAny_Call_Name_kw (ld_blt I hg hm boot_sum ?_)
  refine PyProof.Rows.callWith_builtin1 ?_ he (by rfl)
  rw [he]
  show wpAny _ _ (spliced ((false, eval (.GeneratorExp elt [⟨.Name x px, iter, [], 0⟩] scope gpos) X.env) :: backTo pos (starEach [] X.env))) _ _ s
  refine Calls.spliced_cons (gen_tup (fun i => .int (f i)) (R := fun n H1 => (∀ j, j < n → InLong (f j) ∧ InLong (preSum f (j + 1))) ∧ ∀ H2, GxR.Tabbed T H1 H2 → Q (.int (preSum f n)) H2) hr TB hcode (S.of I.ok) hi hel hs I h fun n H1 g s5 hR hG => ?_)
  obtain ⟨fp, wr, G, F, Zt, W, hst, hfp, hval, hI⟩ := hG
  refine Calls.spliced_nil ?_
  refine call_sum_walkS (W.self 0 _ _ _ hst ⟨g, fp, wr, G, _, F, Zt, f, rfl, W, hst, hfp, fun i v hv => hval i v hv, hR.1, fun s' t' hmv => ?_⟩)
  obtain ⟨H2, hT, J⟩ := hI s' hmv
  exact ⟨.int _, H2, J, ⟨t', rfl⟩, hR.2 H2 hT⟩
/-- all(elt for x in t), each of them true -/
def tAllT (K : PySem.W.Frag) (T : Addr) (el : EL) (te : TE) : TE := fun σ H Q => te σ H fun v H1 => ∃ (yl : Addr) (vs : List V), v = .ref yl ∧ SqT K H1 yl vs ∧ GxR.TabG H1 T ∧ (∀ (i : Nat) (y : V), vs[i]? = some y → el σ H1 y (.bl true)) ∧
  ∀ H2, GxR.Tabbed T H1 H2 → Q (.bl true) H2
theorem pe_allT (hr : Room k X.A) (hg : Gl X "all") (hm : X.mg "all" = none) (TB : GxR.TabB X.base X.mg c T) (hcode : X.env.code = .ref c) (S : GenT X.env.scope scope x) (hi : PE X iter te) (hel : ElOk X scope x elt T el) (hs : ∀ v, genFold iter X.env v = pure v := by intro _; rfl)
    (he : starEach [.GeneratorExp elt [⟨.Name x px, iter, [], 0⟩] scope gpos] X.env = (false, eval (.GeneratorExp elt [⟨.Name x px, iter, [], 0⟩] scope gpos) X.env) :: starEach [] X.env := by rfl) :
    PE X (.Call (.Name "all" p) [.GeneratorExp elt [⟨.Name x px, iter, [], 0⟩] scope gpos] [] pos) (tAllT X.K T el te) := by
  refine ⟨fun pins s σ H Q I h => ?_⟩
  refine wpAny_Call_Name_kw (ld_blt I hg hm (show bootBuiltins "all" = some (.builtin "all") by decide +kernel) ?_)
  refine PyProof.Rows.callWith_builtin1 ?_ he (by rfl)
  rw [he]
  show wpAny _ _ (spliced ((false, eval (.GeneratorExp elt [⟨.Name x px, iter, [], 0⟩] scope gpos) X.env) :: backTo pos (starEach [] X.env))) _ _ s
  refine Calls.spliced_cons (gen_tup (fun i => .bl true) (R := fun n H1 => ∀ H2, GxR.Tabbed T H1 H2 → Q (.bl true) H2) hr TB hcode (S.of I.ok) hi hel hs I h fun n H1 g s5 hR hG => ?_)
  obtain ⟨fp, wr, G, F, Zt, W, hst, hfp, hval, hI⟩ := hG
  refine Calls.spliced_nil ?_
  refine call_all_walkS (W.self 0 _ _ _ hst ⟨g, fp, wr, G, _, F, Zt, (fun _ => true), rfl, W, hst, fun i v s6 Q6 E6 hv hq => ?_, fun s' hmv => ?_⟩)
  · cases (show v = Value.bool true from hval i v hv)
    exact wpAny_truthy_bool hq
  · obtain ⟨H2, hT, J⟩ := hI s' hmv
    have e : (List.range n).all (fun _ => true) = true := by simp
    rw [e]
    exact ⟨.bl true, H2, J, rfl, hR H2 hT⟩
/-- any(elt for x in range(n)), none of them true -/
def tAnyR (T : Addr) (el : EL) (tr : L2.St → Hp → (Int → Int → Hp → Prop) → Prop) : TE := fun σ H Q => tr σ H fun a b H1 => ∃ n : Nat, a = 0 ∧ b = n ∧ n ≤ 1000 ∧ GxR.TabG H1 T ∧ (∀ i : Nat, i < n → el σ H1 (.int i) (.bl false)) ∧
  ∀ H2, GxR.Tabbed T H1 H2 → Q (.bl false) H2
theorem pe_anyR {tr : L2.St → Hp → (Int → Int → Hp → Prop) → Prop} (hr : Room k X.A) (hg : Gl X "any") (hm : X.mg "any" = none) (TB : GxR.TabB X.base X.mg c T) (hcode : X.env.code = .ref c) (S : GenT X.env.scope scope x) (hi : PRg X iter tr) (hel : ElOk X scope x elt T el)
    (hs : ∀ v, genFold iter X.env v = pure v := by intro _; rfl)
    (he : starEach [.GeneratorExp elt [⟨.Name x px, iter, [], 0⟩] scope gpos] X.env = (false, eval (.GeneratorExp elt [⟨.Name x px, iter, [], 0⟩] scope gpos) X.env) :: starEach [] X.env := by rfl) :
    PE X (.Call (.Name "any" p) [.GeneratorExp elt [⟨.Name x px, iter, [], 0⟩] scope gpos] [] pos) (tAnyR T el tr) := by
  refine ⟨fun pins s σ H Q I h => ?_⟩
  refine wpAny_Call_Name_kw (ld_blt I hg hm boot_any ?_)
  refine PyProof.Rows.callWith_builtin1 ?_ he (by rfl)
  rw [he]
  show wpAny _ _ (spliced ((false, eval (.GeneratorExp elt [⟨.Name x px, iter, [], 0⟩] scope gpos) X.env) :: backTo pos (starEach [] X.env))) _ _ s
  refine Calls.spliced_cons (gen_rng (fun i => .bl false) (R := fun n H1 => ∀ H2, GxR.Tabbed T H1 H2 → Q (.bl false) H2) hr TB hcode (S.of I.ok) hi hel hs I h fun n H1 g s5 hR hG => ?_)
  obtain ⟨fp, wr, G, F, Zt, W, hst, hfp, hval, hI⟩ := hG
  refine Calls.spliced_nil ?_
  refine call_any_walkS (W.self 0 _ _ _ hst ⟨g, fp, wr, G, _, F, Zt, (fun _ => false), rfl, W, hst, fun i v s6 Q6 E6 hv hq => ?_, fun s' hmv => ?_⟩)
  · cases (show v = Value.bool false from hval i v hv)
    exact wpAny_truthy_bool hq
  · obtain ⟨H2, hT, J⟩ := hI s' hmv
    have e : (List.range n).any (fun _ => false) = false := by simp
    rw [e]
    exact ⟨.bl false, H2, J, rfl, hR H2 hT⟩

/-! ### facts for the elements -/
theorem gf_md {H1 : Hp} {s1 : Shared} {C : Addr} {code u : Value} (I : Inv X pins σ H1 s1) (t : GxR.TabG H1 T) (S : GenT X.env.scope scope x) : Md X.K X.mg (genv X scope C code) (GF s1 T C x u) := by
  have kb : ∀ s, GF s1 T C x u s → ∀ b o, X.base.get? b = some o → s.heap.get? b = some o := fun s f b o e => by
    refine f.1 b o (fun z => ?_) (I.bk b o e)
    obtain ⟨ps, hP, _⟩ := t
    have q := (I.bs b o e).2
    rw [z, hP] at q
    cases q
  refine ⟨gf_stb, S.kind, I.ok.glob, rfl, fun s f => ?_⟩
  obtain ⟨a1, a2, ⟨mb, a3, a4⟩, a5⟩ := I.ok.mod
  exact ⟨a1.keeps (kb s f), a2.keeps (kb s f), ⟨mb, a3.keeps (kb s f), a4⟩, a5.keeps (kb s f)⟩
/-- the loop's own name -/
theorem gf_x {s1 : Shared} {C : Addr} {code u : Value} {it : V} (S : GenT X.env.scope scope x) (r : RelV it u) (hd : (x == ("__debug__" : Str)) = false := by decide) : GE X.prog X.w (genv X scope C code) (X.A.depth + 1) (X.A.units + 8) (GF s1 T C x u) (.Name x pos) it :=
  ge_loc S.kind S.loc (fun s ⟨_, m, hn, hm⟩ => ⟨m, u, hn, hm, r⟩) hd
/-- a captured name, in slot i of the def around -/
theorem gf_cap {H1 : Hp} {s1 : Shared} {C : Addr} {code u : Value} {y : Str} {i : Nat} {v : V} (I : Inv X pins σ H1 s1) (t : GxR.TabG H1 T) (S : GenT X.env.scope scope x) (hN : X.N[i]? = some y) (hσ : σ[i]? = some (some v)) (hv : X.env.scope.names.lookup y = some .cell ∨ X.env.scope.names.lookup y = some .free)
    (hl : scope.names.lookup y = some .free) (hcl : (cloFrom X.env.cells scope.names []).lookup y = some ((X.env.cells.lookup y).getD 0)) (hd : (y == ("__debug__" : Str)) = false := by decide) (hcd : (y == ("__classdict__" : Str)) = false := by decide) :
    GE X.prog X.w (genv X scope C code) (X.A.depth + 1) (X.A.units + 8) (GF s1 T C x u) (.Name y pos) v := by
  obtain ⟨m, hn, hloc⟩ := I.loc
  obtain ⟨w1, rw1, q⟩ := hloc i y v hN hσ (hv.elim (fun z => .inr (.inl z)) fun z => .inr (.inr z))
  have key : ∃ cl, X.env.cells.lookup y = some cl ∧ s1.heap.IsCell cl (some w1) := by
    rcases q with ⟨kk, _⟩ | ⟨_, cl, e, z⟩
    · have kk : X.env.scope.names.lookup y = some .local := kk
      rcases hv with hv | hv <;> rw [kk] at hv <;> cases hv
    · exact ⟨cl, e, z⟩
  obtain ⟨cl, e, z⟩ := key
  have nT : cl ≠ T := fun q => by
    have q1 := I.freeC y cl e
    obtain ⟨ps, hP, _⟩ := t
    rw [q, hP] at q1
    cases q1
  refine ge_free S.kind hl (cl := cl) (by rw [show (genv X scope C code).cells = cloFrom X.env.cells scope.names [] from rfl, hcl, e]; rfl) (fun s f => ⟨w1, ?_, rw1⟩) hd hcd
  obtain ⟨o, ho, hdta⟩ := z
  exact ⟨o, f.1 cl o nT ho, hdta⟩
/-- a tuple that is known ahead is known at the element -/
theorem gf_tup {H1 : Hp} {s1 : Shared} {C : Addr} {u : Value} {a : Addr} {xs : List V} (I : Inv X pins σ H1 s1) (t : GxR.TabG H1 T) (h : SqT X.K H1 a xs) : ∀ s, GF s1 T C x u s → ∃ its : List Value, Vals xs its ∧ IsTup s.heap a its.toArray ∧ xs.length ≤ sizeLine := fun s f => by
  obtain ⟨its, rv, ht, hz⟩ := I.tuple h
  have nT := nT_tup I t ht
  obtain ⟨o, e, r⟩ := ht
  exact ⟨its, rv, ⟨o, f.1 a o nT e, r⟩, hz⟩
end
end K45
/-! K45: the text by places, what stays in the heap, a def as its callers see it. -/
namespace K45
open PySem PySem.Spec PyProof.Rows L2
def top (i : Nat) : Stmt := PySem.Challenge.pw_actuarium_k45_whole_pools.main.body.getD i (.Pass ⟨0, 0, 0, 0⟩)
abbrev sRatio : Stmt := top 7
abbrev sPlus : Stmt := top 8
abbrev sMinus : Stmt := top 9
abbrev sBy : Stmt := top 10
abbrev sOver : Stmt := top 11
abbrev sLess : Stmt := top 12
abbrev sTotal : Stmt := top 13
abbrev sIsRatio : Stmt := top 14
abbrev sIsIn : Stmt := top 16
abbrev sIsOutcome : Stmt := top 21
abbrev sNeedOutcomes : Stmt := top 22
abbrev sNeedPart : Stmt := top 23
abbrev sNeedMembers : Stmt := top 24
abbrev sSumsOf : Stmt := top 25
abbrev sViewOf : Stmt := top 26
abbrev sShortOf : Stmt := top 27
abbrev sPool : Stmt := top 28
abbrev sEverybody : Stmt := top 29
abbrev sShares : Stmt := top 30
abbrev sTaken : Stmt := top 32
abbrev sPick : Stmt := top 33
abbrev sAlike : Stmt := top 34
abbrev sLRatio : Stmt := top 35
abbrev sLPlus : Stmt := top 36
abbrev sLBy : Stmt := top 37
abbrev sLSum : Stmt := top 38
abbrev sLOut : Stmt := top 39
abbrev sLGroups : Stmt := top 40
abbrev sLShort : Stmt := top 41
abbrev sLaw : Stmt := top 42

/-! ### what stays -/
/-- all stays, but tables may grow -/
structure Grow (H H' : Hp) : Prop where
  get : ∀ b o, H b = some o → (∀ ps, o ≠ .tbl ps) → H' b = some o
  tab : ∀ T, GxR.TabG H T → GxR.TabG H' T
  free : ∀ b, H' b = none → H b = none
theorem Grow.refl (H : Hp) : Grow H H := ⟨fun _ _ h _ => h, fun _ h => h, fun _ h => h⟩
theorem Grow.trans {a b c : Hp} (x : Grow a b) (y : Grow b c) : Grow a c := ⟨fun p o h n => y.get p o (x.get p o h n) n, fun T h => y.tab T (x.tab T h), fun p h => x.free p (y.free p h)⟩
theorem Grow.new {H : Hp} {p : Addr} {o : HO} (h : H p = none) : Grow H (upd H p o) :=
  ⟨fun b u e _ => by rw [upd_ne (ne_of_none e h)]; exact e, fun T ⟨ps, e, t⟩ => ⟨ps, by rw [upd_ne (ne_of_none e h)]; exact e, t⟩, fun b e => by
    by_cases q : b = p
    · rw [q]; exact h
    · rw [upd_ne q] at e; exact e⟩
theorem Grow.tabbed {H H' : Hp} {T : Addr} (t : GxR.TabG H T) (h : GxR.Tabbed T H H') : Grow H H' := by
  obtain ⟨ps, e, _⟩ := t
  obtain ⟨⟨qs, e2, t2⟩, k⟩ := h
  refine ⟨fun b o h n => ?_, fun S ⟨rs, e3, t3⟩ => ?_, fun b q => ?_⟩
  · rw [k b fun z => n ps (by rw [z, e] at h; exact (Option.some.inj h).symm)]
    exact h
  · by_cases z : S = T
    · rw [z]; exact ⟨qs, e2, t2⟩
    · exact ⟨rs, by rw [k S z]; exact e3, t3⟩
  · rw [← k b fun z => by rw [z, e2] at q; cases q]
    exact q
/-- a list of ours is written -/
theorem Grow.wr {H H' : Hp} {D : Addr} {xs : List V} (g : Grow H H') (h : H D = none) (e : H' D ≠ none) : Grow H (upd H' D (.lst xs)) :=
  ⟨fun b o h2 n => by rw [upd_ne (ne_of_none h2 h)]; exact g.get b o h2 n, fun T t => by
    obtain ⟨ps, e2, t2⟩ := t
    obtain ⟨qs, e3, t3⟩ := g.tab T ⟨ps, e2, t2⟩
    exact ⟨qs, by rw [upd_ne (ne_of_none e2 h)]; exact e3, t3⟩, fun b q => by
    by_cases z : b = D
    · rw [z]; exact h
    · rw [upd_ne z] at q; exact g.free b q⟩
theorem Grow.seqT {K : PySem.W.Frag} {H H' : Hp} {a : Addr} {xs : List V} (g : Grow H H') (h : SqT K H a xs) : SqT K H' a xs := by
  rcases h with (h | ⟨o, h⟩) | h
  · exact .inl (.inl (g.get _ _ h fun _ z => nomatch z))
  · exact .inl (.inr ⟨o, g.get _ _ h fun _ z => nomatch z⟩)
  · exact .inr h
theorem Grow.seqL {K : PySem.W.Frag} {H H' : Hp} {a : Addr} {xs : List V} (g : Grow H H') (h : SqL K H a xs) : SqL K H' a xs := by
  rcases h with (h | ⟨o, h⟩) | h
  · exact .inl (.inl (g.get _ _ h fun _ z => nomatch z))
  · exact .inl (.inr ⟨o, g.get _ _ h fun _ z => nomatch z⟩)
  · exact .inr h
theorem Grow.lst {H H' : Hp} {a : Addr} {xs : List V} (g : Grow H H') (h : H a = some (.lst xs)) : H' a = some (.lst xs) := g.get _ _ h fun _ z => nomatch z
theorem Grow.tup {H H' : Hp} {a : Addr} {xs : List V} (g : Grow H H') (h : H a = some (.tup xs)) : H' a = some (.tup xs) := g.get _ _ h fun _ z => nomatch z
theorem tup_new {K : PySem.W.Frag} {H : Hp} {p : Addr} {xs : List V} : SqT K (upd H p (.tup xs)) p xs := .inl (.inl upd_same)
theorem lst_new {K : PySem.W.Frag} {H : Hp} {p : Addr} {xs : List V} : SqL K (upd H p (.lst xs)) p xs := .inl (.inl upd_same)

/-! ### a def as its callers see it -/
def Cal (P : Program) (w : World) (K : PySem.W.Frag) (mg : Str → Option Value) (base : Heap) (nm : Str) (k : Nat) (ps : List Str) (sp : Sp) : Prop :=
  ∃ (f : Addr) (fd : FuncData), FnOk P w K mg base CX0 k f fd ps sp ∧ mg nm = some (.ref f) ∧ PySem.W.keepIn K (.ref f) = true ∧ Binds K fd ps []
theorem Cal.up {P : Program} {w : World} {K : PySem.W.Frag} {mg : Str → Option Value} {base : Heap} {nm : Str} {j k : Nat} {ps : List Str} {sp : Sp} (c : Cal P w K mg base nm j ps sp) (h : j ≤ k) : Cal P w K mg base nm k ps sp := by
  obtain ⟨f, fd, G, r⟩ := c
  exact ⟨f, fd, G.mono h, r⟩
/-- a def of the top, as it stands -/
structure Def (K : PySem.W.Frag) (mg : Str → Option Value) (nm : Str) (st : Stmt) (ps : List Str) (f : Addr) (fd : FuncData) : Prop where
  fn : Fun K nm nm st f fd
  mg : mg nm = some (.ref f)
  bd : Binds K fd ps []
theorem Def.cal {P : Program} {w : World} {K : PySem.W.Frag} {mg : Str → Option Value} {base : Heap} {nm : Str} {st : Stmt} {ps : List Str} {f : Addr} {fd : FuncData} {k : Nat} {sp : Sp} (d : Def K mg nm st ps f fd) (G : FnOk P w K mg base CX0 k f fd ps sp) : Cal P w K mg base nm k ps sp :=
  ⟨f, fd, G, d.mg, d.fn.kp, d.bd⟩
/-- built-in names are themselves; the constants -/
structure Blt (mg : Str → Option Value) : Prop where
  len : mg "len" = none
  isi : mg "isinstance" = none
  int : mg "int" = none
  bool : mg "bool" = none
  tuple : mg "tuple" = none
  list : mg "list" = none
  str : mg "str" = none
  all : mg "all" = none
  any : mg "any" = none
  sum : mg "sum" = none
  range : mg "range" = none
  enum : mg "enumerate" = none
  sorted : mg "sorted" = none
  zip : mg "zip" = none
  max : mg "max" = none
  abs : mg "abs" = none
  gcd : mg "gcd" = some (.builtin "math.gcd")
  cO : ∃ t, mg "MOST_OUTCOMES" = some (.int 8 t)
  cM : ∃ t, mg "MOST_MEMBERS" = some (.int 4 t)
  cS : ∃ t, mg "MOST_SIZE" = some (.int 1000 t)
/-- the values of a ratio -/
def rt (q : Int × Int) : List V := [.int q.1, .int q.2]
end K45
/-! K45: the module of ratios, def by def. -/
namespace K45
open PySem PySem.Spec PyProof.Rows L2
section
variable {P : Program} {w : World} {K : PySem.W.Frag} {mg : Str → Option Value} {base : Heap}
def big : Nat := 2 ^ 900
theorem gcd_le {x n : Int} (h : 0 < n) : Int.gcd x n ≤ n.natAbs := Nat.le_of_dvd (by omega) (Nat.gcd_dvd_right _ _)
theorem div_ok {i x n : Int} (h : 0 < n) (hb : n.natAbs < big) : CDivW i (Int.gcd x n : Int) :=
  wide_div (b := 900) (gcd_pos h) (by rw [Int.natAbs_natCast]; exact Nat.lt_of_le_of_lt (gcd_le h) hb) (by decide) (by decide)

theorem scRatio : FnScope ["top", "bottom", "common"] ["top", "bottom"] (defScope sRatio) := ⟨rfl, rfl, rfl, by decide +kernel, rfl, by decide +kernel, by decide +kernel⟩
def spRatio : Sp := fun vs H Q _ => ∃ x n : Int, vs = [.int x, .int n] ∧ 0 < n ∧ n.natAbs < big ∧ ∀ p, H p = none → Q (.ref p) (upd H p (.tup (rt (rat x n))))
theorem ok_ratio {f : Addr} {fd : FuncData} (D : Def K mg "ratio" sRatio ["top", "bottom"] f fd) (B : Blt mg) : Cal P w K mg base "ratio" 1 ["top", "bottom"] spRatio := by
  refine D.cal (D.fn.ok scRatio (fun vs H Q E h => ?_) (fun cdv A outer s H vs Q E hr h => ?_))
  · obtain ⟨x, n, rfl, _⟩ := h
    rfl
  · obtain ⟨x, n, rfl, h0, hb, k⟩ := h
    refine ⟨_, pss_cons (ps_set (i := 2) scRatio.nd rfl (.inl rfl) (pe_ifExp (pt_cmpR op_gt (pv 1) pe_int (nomark _)) (pe_callBfun cr_gcd (by rfl) B.gcd (pa_cons (pv 0) (pa_cons (pv 1) pa_nil))) (pe_op op_sub pe_int (pe_callBfun cr_gcd (by rfl) B.gcd (pa_cons (pv 0) (pa_cons (pv 1) pa_nil))))))
      (pss_one (ps_ret (pe_tup (pa_cons (pe_op op_fdivW (pv 0) (pv 2)) (pa_cons (pe_op op_fdivW (pv 1) (pv 2)) pa_nil))))), ?_⟩
    refine ⟨_, rfl, _, _, rfl, rfl, _, rfl, ?_⟩
    rw [decide_eq_true (show (0 : Int) < n from h0)]
    refine iteT ⟨_, rfl, _, rfl, x, n, rfl, ?_⟩
    refine ⟨_, rfl, _, rfl, x, (Int.gcd x n : Int), rfl, rfl, div_ok h0 hb, _, rfl, _, rfl, n, (Int.gcd x n : Int), rfl, rfl, div_ok h0 hb, (by show 2 ≤ sizeLine; decide), fun p hp => k p hp⟩
/-- a call of ratio -/
theorem scPlus : FnScope ["one", "other"] ["one", "other"] (defScope sPlus) := ⟨rfl, rfl, rfl, by decide +kernel, rfl, by decide +kernel, by decide +kernel⟩
theorem scMinus : FnScope ["one", "other"] ["one", "other"] (defScope sMinus) := ⟨rfl, rfl, rfl, by decide +kernel, rfl, by decide +kernel, by decide +kernel⟩
theorem scBy : FnScope ["one", "other"] ["one", "other"] (defScope sBy) := ⟨rfl, rfl, rfl, by decide +kernel, rfl, by decide +kernel, by decide +kernel⟩
theorem scOver : FnScope ["one", "other"] ["one", "other"] (defScope sOver) := ⟨rfl, rfl, rfl, by decide +kernel, rfl, by decide +kernel, by decide +kernel⟩
theorem scLess : FnScope ["one", "other"] ["one", "other"] (defScope sLess) := ⟨rfl, rfl, rfl, by decide +kernel, rfl, by decide +kernel, by decide +kernel⟩
/-- small enough for every product here -/
def Sm (x : Int) : Prop := x.natAbs < 2 ^ 40
theorem Sm.top {x n : Int} (h : 0 < n) (s : Sm x) : Sm (rat x n).1 := Nat.lt_of_le_of_lt (rat_top_le h) s
theorem Sm.bot {x n : Int} (h : 0 < n) (s : Sm n) : Sm (rat x n).2 := by
  have a := rat_bot_le (x := x) h
  have b := rat_pos (x := x) h
  unfold Sm at *
  omega
theorem Sm.mulok {x : Int} (s : Sm x) : -(2 ^ 64) < x ∧ x < 2 ^ 64 := by
  unfold Sm at s
  omega
theorem sm_prod {x y : Int} (a : Sm x) (b : Sm y) : (x * y).natAbs < big := by
  unfold Sm at a b
  rw [Int.natAbs_mul]
  have h1 : x.natAbs * y.natAbs ≤ 2 ^ 40 * 2 ^ 40 := Nat.mul_le_mul (Nat.le_of_lt a) (Nat.le_of_lt b)
  exact Nat.lt_of_le_of_lt h1 (by decide +kernel)
/-- two ratios as arguments -/
def spTwo (ok : Int → Int → Int → Int → Prop) (f : Int → Int → Int → Int → Int × Int) (K : PySem.W.Frag) : Sp := fun vs H Q _ => ∃ (t u : Addr) (x n y m : Int), vs = [.ref t, .ref u] ∧ SqT K H t (rt (rat x n)) ∧ SqT K H u (rt (rat y m)) ∧ 0 < n ∧ 0 < m ∧ Sm x ∧ Sm n ∧ Sm y ∧ Sm m ∧ ok x n y m ∧
  ∀ p, H p = none → Q (.ref p) (upd H p (.tup (rt (f x n y m))))
abbrev spPlus (K : PySem.W.Frag) : Sp := spTwo (fun _ n _ m => n = m) (fun x n y _ => rat (x + y) n) K
abbrev spMinus (K : PySem.W.Frag) : Sp := spTwo (fun _ n _ m => n = m) (fun x n y _ => rat (x - y) n) K
abbrev spBy (K : PySem.W.Frag) : Sp := spTwo (fun _ _ _ _ => True) (fun x n y m => rat (x * y) (n * m)) K
abbrev spOver (K : PySem.W.Frag) : Sp := spTwo (fun _ _ y _ => 0 < y) (fun x n y m => rat (x * m) (n * y)) K
theorem two_len {ok : Int → Int → Int → Int → Prop} {f : Int → Int → Int → Int → Int × Int} {vs : List V} {H : Hp} {Q : VK} {E : XK} (h : spTwo ok f K vs H Q E) : vs.length = (["one", "other"] : List Str).length := by
  obtain ⟨t, u, x, n, y, m, rfl, _⟩ := h
  rfl
theorem ok_plus {f : Addr} {fd : FuncData} (D : Def K mg "plus" sPlus ["one", "other"] f fd) (C : Cal P w K mg base "ratio" 1 ["top", "bottom"] spRatio) : Cal P w K mg base "plus" 2 ["one", "other"] (spPlus K) := by
  obtain ⟨fr, fdr, G, gr, kr, br⟩ := C
  refine D.cal (D.fn.ok scPlus (fun vs H Q E h => two_len h) (fun cdv A outer s H vs Q E hr h => ?_))
  obtain ⟨t, u, x, n, y, m, rfl, ht, hu, h0, h1, s1, s2, s3, s4, rfl, k⟩ := h
  have a1 : Sm (rat x n).1 := s1.top h0
  have a2 : Sm (rat x n).2 := s2.bot h0
  have b1 : Sm (rat y n).1 := s3.top h1
  have b2 : Sm (rat y n).2 := s4.bot h1
  refine ⟨_, pss_one (ps_ret (pe_call G hr (by rfl) gr kr br .nil pass0 (pa_cons (pe_op op_add (pe_op op_mul (pe_ix ix_tup (pv 0) pe_int (fun _ _ => rfl)) (pe_ix ix_tup (pv 1) pe_int (fun _ _ => rfl))) (pe_op op_mul (pe_ix ix_tup (pv 1) pe_int (fun _ _ => rfl)) (pe_ix ix_tup (pv 0) pe_int (fun _ _ => rfl))))
    (pa_cons (pe_op op_mul (pe_ix ix_tup (pv 0) pe_int (fun _ _ => rfl)) (pe_ix ix_tup (pv 1) pe_int (fun _ _ => rfl))) pa_nil)))), ?_⟩
  refine ⟨.ref t, rfl, t, _, _, _, rfl, rfl, ht, atI_nat (j := 0) rfl, .ref u, rfl, u, _, _, _, rfl, rfl, hu, atI_nat (j := 1) rfl, _, _, rfl, rfl, .inl a1.mulok, ?_⟩
  refine ⟨.ref u, rfl, u, _, _, _, rfl, rfl, hu, atI_nat (j := 0) rfl, .ref t, rfl, t, _, _, _, rfl, rfl, ht, atI_nat (j := 1) rfl, _, _, rfl, rfl, .inl b1.mulok, _, _, rfl, rfl, ?_⟩
  refine ⟨.ref t, rfl, t, _, _, _, rfl, rfl, ht, atI_nat (j := 1) rfl, .ref u, rfl, u, _, _, _, rfl, rfl, hu, atI_nat (j := 1) rfl, _, _, rfl, rfl, .inl a2.mulok, ?_⟩
  refine ⟨_, _, rfl, Int.mul_pos (rat_pos h0) (rat_pos h1), sm_prod a2 b2, fun p hp => ?_⟩
  rw [rat_plus h0]
  exact k p hp
theorem ok_minus {f : Addr} {fd : FuncData} (D : Def K mg "minus" sMinus ["one", "other"] f fd) (C : Cal P w K mg base "ratio" 1 ["top", "bottom"] spRatio) : Cal P w K mg base "minus" 2 ["one", "other"] (spMinus K) := by
  obtain ⟨fr, fdr, G, gr, kr, br⟩ := C
  refine D.cal (D.fn.ok scMinus (fun vs H Q E h => two_len h) (fun cdv A outer s H vs Q E hr h => ?_))
  obtain ⟨t, u, x, n, y, m, rfl, ht, hu, h0, h1, s1, s2, s3, s4, rfl, k⟩ := h
  have a1 : Sm (rat x n).1 := s1.top h0
  have a2 : Sm (rat x n).2 := s2.bot h0
  have b1 : Sm (rat y n).1 := s3.top h1
  have b2 : Sm (rat y n).2 := s4.bot h1
  refine ⟨_, pss_one (ps_ret (pe_call G hr (by rfl) gr kr br .nil pass0 (pa_cons (pe_op op_sub (pe_op op_mul (pe_ix ix_tup (pv 0) pe_int (fun _ _ => rfl)) (pe_ix ix_tup (pv 1) pe_int (fun _ _ => rfl))) (pe_op op_mul (pe_ix ix_tup (pv 1) pe_int (fun _ _ => rfl)) (pe_ix ix_tup (pv 0) pe_int (fun _ _ => rfl))))
    (pa_cons (pe_op op_mul (pe_ix ix_tup (pv 0) pe_int (fun _ _ => rfl)) (pe_ix ix_tup (pv 1) pe_int (fun _ _ => rfl))) pa_nil)))), ?_⟩
  refine ⟨.ref t, rfl, t, _, _, _, rfl, rfl, ht, atI_nat (j := 0) rfl, .ref u, rfl, u, _, _, _, rfl, rfl, hu, atI_nat (j := 1) rfl, _, _, rfl, rfl, .inl a1.mulok, ?_⟩
  refine ⟨.ref u, rfl, u, _, _, _, rfl, rfl, hu, atI_nat (j := 0) rfl, .ref t, rfl, t, _, _, _, rfl, rfl, ht, atI_nat (j := 1) rfl, _, _, rfl, rfl, .inl b1.mulok, _, _, rfl, rfl, ?_⟩
  refine ⟨.ref t, rfl, t, _, _, _, rfl, rfl, ht, atI_nat (j := 1) rfl, .ref u, rfl, u, _, _, _, rfl, rfl, hu, atI_nat (j := 1) rfl, _, _, rfl, rfl, .inl a2.mulok, ?_⟩
  refine ⟨_, _, rfl, Int.mul_pos (rat_pos h0) (rat_pos h1), sm_prod a2 b2, fun p hp => ?_⟩
  rw [rat_minus h0]
  exact k p hp
theorem ok_by {f : Addr} {fd : FuncData} (D : Def K mg "by" sBy ["one", "other"] f fd) (C : Cal P w K mg base "ratio" 1 ["top", "bottom"] spRatio) : Cal P w K mg base "by" 2 ["one", "other"] (spBy K) := by
  obtain ⟨fr, fdr, G, gr, kr, br⟩ := C
  refine D.cal (D.fn.ok scBy (fun vs H Q E h => two_len h) (fun cdv A outer s H vs Q E hr h => ?_))
  obtain ⟨t, u, x, n, y, m, rfl, ht, hu, h0, h1, s1, s2, s3, s4, _, k⟩ := h
  have a1 : Sm (rat x n).1 := s1.top h0
  have a2 : Sm (rat x n).2 := s2.bot h0
  have b2 : Sm (rat y m).2 := s4.bot h1
  refine ⟨_, pss_one (ps_ret (pe_call G hr (by rfl) gr kr br .nil pass0 (pa_cons (pe_op op_mul (pe_ix ix_tup (pv 0) pe_int (fun _ _ => rfl)) (pe_ix ix_tup (pv 1) pe_int (fun _ _ => rfl))) (pa_cons (pe_op op_mul (pe_ix ix_tup (pv 0) pe_int (fun _ _ => rfl)) (pe_ix ix_tup (pv 1) pe_int (fun _ _ => rfl))) pa_nil)))), ?_⟩
  refine ⟨.ref t, rfl, t, _, _, _, rfl, rfl, ht, atI_nat (j := 0) rfl, .ref u, rfl, u, _, _, _, rfl, rfl, hu, atI_nat (j := 0) rfl, _, _, rfl, rfl, .inl a1.mulok, ?_⟩
  refine ⟨.ref t, rfl, t, _, _, _, rfl, rfl, ht, atI_nat (j := 1) rfl, .ref u, rfl, u, _, _, _, rfl, rfl, hu, atI_nat (j := 1) rfl, _, _, rfl, rfl, .inl a2.mulok, ?_⟩
  refine ⟨_, _, rfl, Int.mul_pos (rat_pos h0) (rat_pos h1), sm_prod a2 b2, fun p hp => ?_⟩
  rw [rat_by h0 h1]
  exact k p hp
theorem ok_over {f : Addr} {fd : FuncData} (D : Def K mg "over" sOver ["one", "other"] f fd) (C : Cal P w K mg base "ratio" 1 ["top", "bottom"] spRatio) : Cal P w K mg base "over" 2 ["one", "other"] (spOver K) := by
  obtain ⟨fr, fdr, G, gr, kr, br⟩ := C
  refine D.cal (D.fn.ok scOver (fun vs H Q E h => two_len h) (fun cdv A outer s H vs Q E hr h => ?_))
  obtain ⟨t, u, x, n, y, m, rfl, ht, hu, h0, h1, s1, s2, s3, s4, hy, k⟩ := h
  have a1 : Sm (rat x n).1 := s1.top h0
  have a2 : Sm (rat x n).2 := s2.bot h0
  have b1 : Sm (rat y m).1 := s3.top h1
  refine ⟨_, pss_one (ps_ret (pe_call G hr (by rfl) gr kr br .nil pass0 (pa_cons (pe_op op_mul (pe_ix ix_tup (pv 0) pe_int (fun _ _ => rfl)) (pe_ix ix_tup (pv 1) pe_int (fun _ _ => rfl))) (pa_cons (pe_op op_mul (pe_ix ix_tup (pv 0) pe_int (fun _ _ => rfl)) (pe_ix ix_tup (pv 1) pe_int (fun _ _ => rfl))) pa_nil)))), ?_⟩
  refine ⟨.ref t, rfl, t, _, _, _, rfl, rfl, ht, atI_nat (j := 0) rfl, .ref u, rfl, u, _, _, _, rfl, rfl, hu, atI_nat (j := 1) rfl, _, _, rfl, rfl, .inl a1.mulok, ?_⟩
  refine ⟨.ref t, rfl, t, _, _, _, rfl, rfl, ht, atI_nat (j := 1) rfl, .ref u, rfl, u, _, _, _, rfl, rfl, hu, atI_nat (j := 0) rfl, _, _, rfl, rfl, .inl a2.mulok, ?_⟩
  refine ⟨_, _, rfl, Int.mul_pos (rat_pos h0) (rat_num_pos h1 hy), sm_prod a2 b1, fun p hp => ?_⟩
  rw [rat_over h0 h1 hy]
  exact k p hp
def spLess (K : PySem.W.Frag) : Sp := fun vs H Q _ => ∃ (t u : Addr) (x n y : Int), vs = [.ref t, .ref u] ∧ SqT K H t (rt (rat x n)) ∧ SqT K H u (rt (rat y n)) ∧ 0 < n ∧ Sm x ∧ Sm n ∧ Sm y ∧ Q (.bl (decide (x < y))) H
theorem ok_less {f : Addr} {fd : FuncData} (D : Def K mg "less" sLess ["one", "other"] f fd) : Cal P w K mg base "less" 1 ["one", "other"] (spLess K) := by
  refine D.cal (D.fn.ok scLess (fun vs H Q E h => ?_) (fun cdv A outer s H vs Q E hr h => ?_))
  · obtain ⟨t, u, x, n, y, rfl, _⟩ := h
    rfl
  obtain ⟨t, u, x, n, y, rfl, ht, hu, h0, s1, s2, s3, k⟩ := h
  have a1 : Sm (rat x n).1 := s1.top h0
  have b1 : Sm (rat y n).1 := s3.top h0
  refine ⟨_, pss_one (ps_ret (pe_cmpR op_lt (pe_op op_mul (pe_ix ix_tup (pv 0) pe_int (fun _ _ => rfl)) (pe_ix ix_tup (pv 1) pe_int (fun _ _ => rfl))) (pe_op op_mul (pe_ix ix_tup (pv 1) pe_int (fun _ _ => rfl)) (pe_ix ix_tup (pv 0) pe_int (fun _ _ => rfl))) (nomark _))), ?_⟩
  refine ⟨.ref t, rfl, t, _, _, _, rfl, rfl, ht, atI_nat (j := 0) rfl, .ref u, rfl, u, _, _, _, rfl, rfl, hu, atI_nat (j := 1) rfl, _, _, rfl, rfl, .inl a1.mulok, ?_⟩
  refine ⟨.ref u, rfl, u, _, _, _, rfl, rfl, hu, atI_nat (j := 0) rfl, .ref t, rfl, t, _, _, _, rfl, rfl, ht, atI_nat (j := 1) rfl, _, _, rfl, rfl, .inl b1.mulok, _, _, rfl, rfl, ?_⟩
  have e : decide ((rat x n).1 * (rat y n).2 < (rat y n).1 * (rat x n).2) = decide (x < y) := decide_eq_decide.mpr (rat_less h0)
  show Q (V.bl (decide ((rat x n).1 * (rat y n).2 < (rat y n).1 * (rat x n).2))) H
  rw [e]
  exact k
/-- the item of a mapped list -/
theorem at_map {α : Type} {f : α → V} {l : List α} {i : Nat} {y : V} (h : (l.map f)[i]? = some y) : ∃ u, l[i]? = some u ∧ y = f u := by
  rw [List.getElem?_map] at h
  cases e : l[i]? with
  | none => rw [e] at h; cases h
  | some u => rw [e] at h; exact ⟨u, rfl, (Option.some.inj h).symm⟩
theorem scTotal : FnScope ["some", "found", "one"] ["some"] (defScope sTotal) := ⟨rfl, rfl, rfl, by decide +kernel, rfl, by decide +kernel, by decide +kernel⟩
/-- the list at l holds the ratios xs 0 / n, xs 1 / n, .. -/
structure Rats (K : PySem.W.Frag) (H : Hp) (l : Addr) (m : Nat) (xs : Nat → Int) (n : Int) : Prop where
  ex : ∃ ts : List Addr, ts.length = m ∧ SqL K H l (ts.map V.ref) ∧ ∀ (i : Nat) (t : Addr), ts[i]? = some t → SqT K H t (rt (rat (xs i) n))
theorem Rats.grow {H H' : Hp} {l : Addr} {m : Nat} {xs : Nat → Int} {n : Int} (r : Rats K H l m xs n) (g : Grow H H') : Rats K H' l m xs n := by
  obtain ⟨ts, e, h, k⟩ := r.ex
  exact ⟨ts, e, g.seqL h, fun i t q => g.seqT (k i t q)⟩
def spTotal (K : PySem.W.Frag) : Sp := fun vs H Q _ => ∃ (l : Addr) (m : Nat) (xs : Nat → Int) (n : Int), vs = [.ref l] ∧ Rats K H l m xs n ∧ 0 < n ∧ Sm n ∧ (∀ i, i < m → Sm (xs i)) ∧ (∀ j, j ≤ m → Sm (sm j xs)) ∧
  ∀ p H', Grow H H' → H p = none → H' p = some (.tup (rt (rat (sm m xs) n))) → Q (.ref p) H'
theorem ok_total {f : Addr} {fd : FuncData} (D : Def K mg "total" sTotal ["some"] f fd) (C : Cal P w K mg base "plus" 2 ["one", "other"] (spPlus K)) : Cal P w K mg base "total" 3 ["some"] (spTotal K) := by
  obtain ⟨fr, fdr, G, gr, kr, br⟩ := C
  refine D.cal (D.fn.ok scTotal (fun vs H Q E h => ?_) (fun cdv A outer s H vs Q E hr h => ?_))
  · obtain ⟨l, m, xs, n, rfl, _⟩ := h
    rfl
  obtain ⟨l, m, xs, n, rfl, hR, h0, s0, s1, s2, k⟩ := h
  obtain ⟨ts, em, hl, ht⟩ := hR.ex
  refine ⟨_, pss_cons (ps_set (i := 1) scTotal.nd rfl (.inl rfl) (pe_tup (pa_cons pe_int (pa_cons pe_int pa_nil))))
    (pss_cons (ps_for PassesOwn.never rfl (pi_list (pv 0)) (pg_name (i := 2) scTotal.nd rfl (.inl rfl)) (pss_one (ps_set (i := 1) scTotal.nd rfl (.inl rfl) (pe_call G hr (by rfl) gr kr br .nil pass0 (pa_cons (pv 1) (pa_cons (pv 2) pa_nil))))))
    (pss_one (ps_ret (pv 1)))), ?_⟩
  refine ⟨(by show 2 ≤ sizeLine; decide), fun p0 hp0 => ?_⟩
  have g0 : Grow H (upd H p0 (.tup [.int 0, .int 1])) := Grow.new hp0
  refine ⟨_, rfl, l, rfl, ⟨_, g0.seqL hl⟩, for_list (K := K) (a := l) (xs := ts.map V.ref) (fun i σ H' => ∃ p v, σ = [some (.ref l), some (.ref p), v] ∧ Grow H H' ∧ H p = none ∧ H' p = some (.tup (rt (rat (sm i xs) n))))
    ⟨p0, none, rfl, g0, hp0, ?_⟩ (fun i σ H' _ ⟨_, _, _, g, _⟩ => g.seqL hl) ?_ ?_⟩
  · show upd H p0 (.tup [.int 0, .int 1]) p0 = some (.tup (rt (rat 0 n)))
    rw [upd_same, rat_zero h0]
    rfl
  · rintro i y σ H' hi ⟨p, v, rfl, g, np, hp⟩
    obtain ⟨t, hti, rfl⟩ := at_map hi
    have hlt : i < m := by
      rw [← em]
      exact (List.getElem?_eq_some_iff.mp hti).1
    refine ⟨.ref p, rfl, .ref t, rfl, p, t, sm i xs, n, xs i, n, rfl, .inl (.inl hp), g.seqT (ht i t hti), h0, h0, s2 i (by omega), s0, s1 i hlt, s0, rfl, fun q hq => ?_⟩
    exact ⟨q, _, rfl, g.trans (Grow.new hq), g.free q hq, upd_same⟩
  · rintro σ H' ⟨p, v, rfl, g, np, hp⟩
    refine ⟨.ref p, rfl, k p H' g np ?_⟩
    rw [List.length_map, em] at hp
    exact hp
end
end K45
/-! K45: is_in, and is_in within a generator expression; is_ratio, is_outcome. -/
namespace K45
open PySem PySem.Spec PyProof.Rows L2
section
variable {P : Program} {w : World} {K : PySem.W.Frag} {mg : Str → Option Value} {base : Heap}
theorem tyT {H : Hp} {a : Addr} {xs : List V} (h : SqT K H a xs) : TyX K H (.ref a) (.type "tuple") := by
  rcases h with (h | ⟨o, h⟩) | ⟨o, its, n, hk, hc, _⟩
  · exact .base (.tup h)
  · exact .fTuple h
  · exact .kTuple hk hc
/-- a def whose code object stands at c -/
structure DefC (K : PySem.W.Frag) (mg : Str → Option Value) (nm : Str) (st : Stmt) (ps : List Str) (f : Addr) (fd : FuncData) (c : Addr) : Prop where
  ex : ∃ (oc : Value) (od : Option Addr) (kV doc pm : Value) (an : Option Addr) (ct : Value) (osl : Array (Option Value)),
    fd = PySem.W.fnOf nm nm (defArgs st) (defBody st) (defScope st) .none kV doc pm an (.ref c) ct ∧ K.lookup f = some ⟨oc, od, .func fd, osl⟩ ∧ PySem.W.codeIn K (.ref c) nm = true
  kp : PySem.W.keepIn K (.ref f) = true
  mg : mg nm = some (.ref f)
  bd : Binds K fd ps []
theorem DefC.ok {nm : Str} {st : Stmt} {f : Addr} {fd : FuncData} {N ps : List Str} {k : Nat} {sp : Sp} {c : Addr} (D : DefC K mg nm st ps f fd c) (S : FnScope N ps (defScope st)) (len : ∀ vs H Q E, sp vs H Q E → vs.length = ps.length)
    (hbody : ∀ (A : Around) (outer : List Env) (s : Shared) (H : Hp) (vs : List V) (Q : VK) (E : XK), Room k (A.deeper (envOfC nm (defScope st) s.heap.objs.size f (.ref c))) → sp vs H Q E →
      ∃ t, PSs (cxOf CX0 P w K mg base N nm (defScope st) f (.ref c) A outer s H E).nox (defBody st) t ∧ t { nx := fun _ H' => Q .non H', rt := Q } (start N vs) H) : Cal P w K mg base nm (k + 1) ps sp := by
  obtain ⟨oc, od, kV, doc, pm, an, ct, osl, rfl, lk, hcd⟩ := D.ex
  refine ⟨f, _, fn_of lk hcd S len fun A outer s H vs Q E hr hsp => ?_, D.mg, D.kp, D.bd⟩
  obtain ⟨t, h, q⟩ := hbody A outer s H vs Q E hr hsp
  exact ⟨t, h.nox, q⟩

/-! ### is_in -/
theorem scIsIn : FnScope ["value", "least", "most"] ["value", "least", "most"] (defScope sIsIn) := ⟨rfl, rfl, rfl, by decide +kernel, rfl, by decide +kernel, by decide +kernel⟩
def spIsIn : Sp := fun vs H Q _ => ∃ v a b : Int, vs = [.int v, .int a, .int b] ∧ a ≤ v ∧ v ≤ b ∧ Q (.bl true) H
theorem ok_isin {f : Addr} {fd : FuncData} (D : Def K mg "is_in" sIsIn ["value", "least", "most"] f fd) (B : Blt mg) : Cal P w K mg base "is_in" 1 ["value", "least", "most"] spIsIn := by
  refine D.cal (D.fn.ok scIsIn (fun vs H Q E h => ?_) (fun cdv A outer s H vs Q E hr h => ?_))
  · obtain ⟨v, a, b, rfl, _⟩ := h
    rfl
  obtain ⟨v, a, b, rfl, h1, h2, k⟩ := h
  refine ⟨_, pss_one (ps_ret (pe_and (pe_callB call_isi (by rfl) B.isi (by decide +kernel) (pa_cons (pv 0) (pa_cons (pe_bltn (v := .ty "int") (u := .type "int") (by rfl) B.int (by decide +kernel) rfl) pa_nil)))
    (pe_and (pe_not (pe_callB call_isi (by rfl) B.isi (by decide +kernel) (pa_cons (pv 0) (pa_cons (pe_bltn (v := .ty "bool") (u := .type "bool") (by rfl) B.bool (by decide +kernel) rfl) pa_nil)))) (pe_one (pe_chain op_le op_le (pv 1) (pv 0) (pv 2)))))), ?_⟩
  refine ⟨.int v, rfl, .int v, .ty "int", _, _, true, rfl, .ty _, .base (.int v), kit_ty (by decide +kernel), true, rfl, iteT ?_⟩
  refine ⟨.int v, rfl, .int v, .ty "bool", _, _, false, rfl, .ty _, .base (.int v), kit_ty (by decide +kernel), false, rfl, true, rfl, iteT ?_⟩
  refine ⟨.int a, rfl, .int v, rfl, a, v, rfl, rfl, true, ?_, iteT ⟨.int b, rfl, v, b, rfl, rfl, ?_⟩⟩
  · show V.bl (decide (a ≤ v)) = V.bl true
    rw [decide_eq_true h1]
  · show Q (V.bl (decide (v ≤ b))) H
    rw [decide_eq_true h2]
    exact k
end
section
variable {P : Program} {w : World} {K : PySem.W.Frag} {mg : Str → Option Value} {env : Env} {D U : Nat} {F : Shared → Prop} {e1 e2 e3 : Expr} {p1 pos : Pos}
/-- is_in(e1, e2, e3) where nothing may change -/
theorem ge_isin {v a b : Int} {f : Addr} {fd : FuncData} (Df : Def K mg "is_in" sIsIn ["value", "least", "most"] f fd) (B : Blt mg) (M : Md K mg env F) (hl : env.kindOf "is_in" = some .globalImplicit) (g1 : GE P w env D U F e1 (.int v)) (g2 : GE P w env D U F e2 (.int a)) (g3 : GE P w env D U F e3 (.int b))
    (hD : D < recursionLimit) (h1 : a ≤ v) (h2 : v ≤ b) (he1 : starEach [e1, e2, e3] env = (false, eval e1 env) :: starEach [e2, e3] env := by rfl) (he2 : starEach [e2, e3] env = (false, eval e2 env) :: starEach [e3] env := by rfl) (he3 : starEach [e3] env = (false, eval e3 env) :: starEach [] env := by rfl)
    (hpl : (backTo pos (starEach [e2, e3] env)).any (·.1) = false := by rfl) :
    GE P w env D U F (.Call (.Name "is_in" p1) [e1, e2, e3] [] pos) (.bl true) := fun A E s q1 q2 q3 hf => by
  obtain ⟨oc, od, kV, doc, pm, an, cdv, ct, osl, efd, lk, hcd⟩ := Df.fn.ex
  refine wpAny_Call_Name_kw (Calls.Name_function_global M.kind hl (Calls.loadGlobal_global (by rw [M.g]; exact (M.m s hf).glob) Df.mg ?_) (by decide))
  refine PySem.W.callWith_K (h₀ := s.heap) (M.m s hf).kin Df.fn.kp ?_ he1 hpl
  rw [he1]
  show wpAny _ _ (spliced ((false, eval e1 env) :: backTo pos (starEach [e2, e3] env))) _ _ s
  refine Calls.spliced_cons (g1.run M.stb q1 q2 q3 hf (kp_refl _) fun y1 s1 r1 k1 _ => ?_)
  rw [he2]
  show wpAny _ _ (spliced ((false, eval e2 env) :: backTo pos (starEach [e3] env))) _ _ s1
  refine Calls.spliced_cons (g2.run M.stb q1 q2 q3 hf k1 fun y2 s2 r2 k2 _ => ?_)
  rw [he3]
  show wpAny _ _ (spliced ((false, eval e3 env) :: backTo pos (starEach [] env))) _ _ s2
  refine Calls.spliced_cons (g3.run M.stb q1 q2 q3 hf k2 fun y3 s3 r3 k3 _ => ?_)
  refine Calls.spliced_nil ?_
  have f3 := M.stb _ _ hf k3
  have KI := (M.m _ f3).kin
  have bd := Df.bd s3 [y1, y2, y3] KI rfl
  subst efd
  refine ⟨KI, wpAny_call (Att.call_fn KI (M.m _ f3).nolimit lk hcd (Nat.lt_of_le_of_lt q2 hD) bd (by rfl) (fun s4 hic => ?_) rfl rfl rfl)⟩
  obtain ⟨h4, tk4, e4, kp4⟩ := hic.done
  have ns4 := hic.toInCall.ns
  have k4 : Keeps s s4 := kp_trans k3 ⟨h4, tk4, e4, kp4⟩
  generalize hcenv : envOfC "is_in" (defScope sIsIn) s3.heap.objs.size f cdv = cenv at ns4 ⊢
  have ck : cenv.scope = defScope sIsIn := by rw [← hcenv]; rfl
  have cg : cenv.globals = mainGlobals := by rw [← hcenv]; rfl
  have cb : cenv.builtins = builtinsNs := by rw [← hcenv]; rfl
  have cL : cenv.locals = s3.heap.objs.size := by rw [← hcenv]; rfl
  have kof : ∀ x, cenv.kindOf x = (defScope sIsIn).names.lookup x := fun x => by
    show cenv.scope.names.lookup x = _
    rw [ck]
  generalize hm : (bindL cenv.kindOf ((["value", "least", "most"] : List Str).zip ([y1, y2, y3] ++ [])) fun _ => none) = m at ns4
  have m1 : m "value" = some y1 := by rw [← hm]; exact bindL_get (i := 0) (show ((["value", "least", "most"] : List Str)).Nodup by decide +kernel) rfl rfl ((kof _).trans rfl)
  have m2 : m "least" = some y2 := by rw [← hm]; exact bindL_get (i := 1) (show ((["value", "least", "most"] : List Str)).Nodup by decide +kernel) rfl rfl ((kof _).trans rfl)
  have m3 : m "most" = some y3 := by rw [← hm]; exact bindL_get (i := 2) (show ((["value", "least", "most"] : List Str)).Nodup by decide +kernel) rfl rfl ((kof _).trans rfl)
  let G : Shared → Prop := fun z => (∀ p o, s4.heap.get? p = some o → z.heap.get? p = some o) ∧ z.heap.Ns cenv.locals m
  have stbG : Stb G := fun x y hx hk => by
    obtain ⟨h', tk, rfl, kp⟩ := hk
    exact ⟨fun p o e => kp p o (hx.1 p o e), hx.2.keeps kp⟩
  have G4 : G s4 := ⟨fun _ _ e => e, by rw [cL]; exact ns4⟩
  have M4 : L2.Mod K mg s4.heap := M.m _ (M.stb _ _ hf k4)
  have MG : Md K mg cenv G := ⟨stbG, by rw [ck]; rfl, cg, cb, fun z hz => by
    obtain ⟨a1, a2, ⟨mb, a3, a4⟩, a5⟩ := M4
    exact ⟨a1.keeps hz.1, a2.keeps hz.1, ⟨mb, a3.keeps hz.1, a4⟩, a5.keeps hz.1⟩⟩
  have nv : ∀ {x : Str} {pp : Pos} {y : Value} {z : V}, (x == ("__debug__" : Str)) = false → (defScope sIsIn).names.lookup x = some .local → m x = some y → RelV z y → GE P w cenv (A.deeper cenv).depth (A.deeper cenv).units G (.Name x pp) z := fun {x pp y z} hd hk hx r =>
    ge_loc (by rw [ck]; rfl) ((kof x).trans hk) (fun t ht => ⟨m, y, ht.2, hx, r⟩) hd
  have gl : ∀ {x : Str}, (defScope sIsIn).names.lookup x = some .globalImplicit → cenv.kindOf x = some .globalImplicit := fun {x} h => (kof x).trans h
  have body : GE P w cenv (A.deeper cenv).depth (A.deeper cenv).units G (match defBody sIsIn with | [.Return (some e) _] => e | _ => .Constant .none 0 ⟨0, 0, 0, 0⟩) (.bl true) :=
    ge_and stbG (ge_isi (T := "int") MG (nv (by decide) rfl m1 r1) (gl rfl) B.isi (gl rfl) B.int (by decide +kernel) (by decide +kernel))
      (ge_and stbG (ge_not stbG (ge_isi (T := "bool") (v := false) MG (nv (by decide) rfl m1 r1) (gl rfl) B.isi (gl rfl) B.bool (by decide +kernel) (by decide +kernel)))
        (ge_one (ge_chain stbG (nv (by decide) rfl m2 r2) (nv (by decide) rfl m1 r1) (nv (by decide) rfl m3 r3) (by with_unfolding_all rfl) h1 h2)))
  refine wpAny_execs_cons (wpAny_Return_some (body.run stbG q1 (Nat.le_refl _) (Nat.le_refl _) G4 (kp_refl _) fun y s5 ry k5 _ => ?_))
  exact ⟨ry, kp_trans k4 k5⟩
end
end K45
/-! K45: is_ratio, is_outcome, need_part, need_outcomes, need_members. -/
namespace K45
open PySem PySem.Spec PyProof.Rows L2
section
variable {X : Cx} {a : Expr} {ta : TE}
/-- x[k], x a tuple in slot i, k written -/
theorem px (i : Nat) {x : Str} {j : Int} {kk : Nat} {q1 q2 q3 : Pos} (hN : X.N[i]? = some x := by rfl) (hv : Vis X.env.scope x := by first | exact Or.inl rfl | exact Or.inr (Or.inl rfl) | exact Or.inr (Or.inr rfl)) (hd : (x == ("__debug__" : Str)) = false := by decide)
    (hcd : (x == ("__classdict__" : Str)) = false := by decide) : PE X (.Subscript (.Name x q1) (.Constant (.int j) kk q2) q3) (tOp (rIxT X.K) (tVar i) (tC (.int j))) := pe_ix ix_tup (pe_var hN hv hd hcd) pe_int (fun _ _ => rfl)
/-- isinstance(a, tuple): it is one -/
def tIsT (K : PySem.W.Frag) (ta : TE) : TE := fun σ H Q => ta σ H fun x H1 => TyX K H1 x (.type "tuple") ∧ Q (.bl true) H1
theorem pe_isT {p1 p2 pos : Pos} (B : Blt X.mg) (ha : PE X a ta) (g1 : Gl X "isinstance" := by rfl) (g2 : Gl X "tuple" := by rfl) (he : starEach [a, .Name "tuple" p2] X.env = (false, eval a X.env) :: starEach [.Name "tuple" p2] X.env := by rfl)
    (he2 : starEach [.Name "tuple" p2] X.env = (false, eval (.Name "tuple" p2) X.env) :: starEach [] X.env := by rfl) (hpl : (backTo pos (starEach [.Name "tuple" p2] X.env)).any (·.1) = false := by rfl) : PE X (.Call (.Name "isinstance" p1) [a, .Name "tuple" p2] [] pos) (tIsT X.K ta) := by
  refine ⟨fun pins s σ H Q I h => ?_⟩
  refine wpAny_Call_Name_kw (ld_blt I g1 B.isi (show bootBuiltins "isinstance" = some (.builtin "isinstance") by decide +kernel) ?_)
  refine PyProof.Rows.callWith_builtin1 ?_ he hpl
  rw [he]
  show wpAny _ _ (spliced ((false, eval a X.env) :: backTo pos (starEach [.Name "tuple" p2] X.env))) _ _ s
  refine Calls.spliced_cons (thn (ha.run pins s σ H _ I h) fun v s1 ⟨x, H1, I1, r1, ty, q⟩ => ?_)
  rw [he2]
  show wpAny _ _ (spliced ((false, eval (.Name "tuple" p2) X.env) :: backTo pos (starEach [] X.env))) _ _ s1
  refine Calls.spliced_cons (ld_blt I1 g2 B.tuple PyProof.Rows.boot_tuple ?_)
  refine Calls.spliced_nil ?_
  exact call_isi pins s1 σ H1 [x, .ty "tuple"] [v, .type "tuple"] Q I1 (.cons r1 (.cons rfl .nil)) ⟨x, _, _, _, true, rfl, .ty _, ty, kit_ty (by decide +kernel), q⟩
/-- len(a) of a list or tuple -/
def tLenS (K : PySem.W.Frag) (ta : TE) : TE := fun σ H Q => ta σ H fun x H1 => ∃ p ys, x = .ref p ∧ (SqL K H1 p ys ∨ SqT K H1 p ys) ∧ Q (.int ys.length) H1
theorem pe_lenS {p1 pos : Pos} (B : Blt X.mg) (ha : PE X a ta) (g1 : Gl X "len" := by rfl) (he : starEach [a] X.env = (false, eval a X.env) :: starEach [] X.env := by rfl) (hpl : (backTo pos (starEach [] X.env)).any (·.1) = false := by rfl) : PE X (.Call (.Name "len" p1) [a] [] pos) (tLenS X.K ta) := by
  refine ⟨fun pins s σ H Q I h => ?_⟩
  refine wpAny_Call_Name_kw (ld_blt I g1 B.len PySem.boot_len ?_)
  refine PyProof.Rows.callWith_builtin1 ?_ he hpl
  rw [he]
  show wpAny _ _ (spliced ((false, eval a X.env) :: backTo pos (starEach [] X.env))) _ _ s
  refine Calls.spliced_cons (thn (ha.run pins s σ H _ I h) fun v s1 ⟨x, H1, I1, r1, p, ys, e, hq, q⟩ => ?_)
  refine Calls.spliced_nil ?_
  subst e
  exact call_len_seq pins s1 σ H1 [.ref p] [v] Q I1 (.cons r1 .nil) ⟨p, ys, rfl, hq, q⟩
end
section
variable {X : Cx} {scope : Scope} {T : Addr}
/-- isinstance(one, int) and (not isinstance(one, bool)) -/
theorem el_int {x : Str} {p1 p2 p3 p4 p5 p6 p7 p8 p9 p10 : Pos} (S : GenT X.env.scope scope x) (B : Blt X.mg) (k1 : scope.names.lookup ("isinstance" : Str) = some .globalImplicit) (k2 : scope.names.lookup ("int" : Str) = some .globalImplicit) (k3 : scope.names.lookup ("bool" : Str) = some .globalImplicit) (hd : (x == ("__debug__" : Str)) = false := by decide) :
    ElOk X scope x (.BoolOp .And [.Call (.Name "isinstance" p1) [.Name x p2, .Name "int" p3] [] p4, .UnaryOp .Not (.Call (.Name "isinstance" p5) [.Name x p6, .Name "bool" p7] [] p8) p9] p10) T (fun _ _ it r => ∃ i : Int, it = .int i ∧ r = .bl true) := by
  intro pins σ H1 s1 I t C code u it r ru ⟨i, e1, e2⟩
  subst e1 e2
  have M := gf_md (C := C) (code := code) (u := u) I t S
  exact ge_and M.stb (ge_isi (T := "int") M (gf_x S ru hd) k1 B.isi k2 B.int PyProof.Rows.boot_int (by decide +kernel))
    (ge_one (ge_not M.stb (ge_isi (T := "bool") (v := false) M (gf_x S ru hd) k1 B.isi k3 B.bool PyProof.Rows.boot_bool (by decide +kernel))))
/-- is_in(one, 0, MOST_SIZE) -/
theorem el_isin {x : Str} {p1 p2 p3 p4 p5 : Pos} {j : Nat} {f : Addr} {fd : FuncData} {k : Nat} (hr : Room (k + 1) X.A) (Df : Def X.K X.mg "is_in" sIsIn ["value", "least", "most"] f fd) (S : GenT X.env.scope scope x) (B : Blt X.mg) (k1 : scope.names.lookup ("is_in" : Str) = some .globalImplicit) (k2 : scope.names.lookup ("MOST_SIZE" : Str) = some .globalImplicit)
    (hd : (x == ("__debug__" : Str)) = false := by decide) : ElOk X scope x (.Call (.Name "is_in" p1) [.Name x p2, .Constant (.int 0) j p3, .Name "MOST_SIZE" p4] [] p5) T (fun _ _ it r => ∃ i : Int, it = .int i ∧ 0 ≤ i ∧ i ≤ 1000 ∧ r = .bl true) := by
  intro pins σ H1 s1 I t C code u it r ru ⟨i, e1, lo, hi, e2⟩
  subst e1 e2
  have M := gf_md (C := C) (code := code) (u := u) I t S
  obtain ⟨tS, hS⟩ := B.cS
  exact ge_isin Df B M k1 (gf_x S ru hd) ge_int (ge_glob (r := .int 1000) M k2 hS ⟨_, rfl⟩) (by have := hr.dp; omega) lo hi
end
section
variable {P : Program} {w : World} {K : PySem.W.Frag} {mg : Str → Option Value} {base : Heap}
theorem scIsRatio : FnScope ["value", "one"] ["value"] (defScope sIsRatio) := ⟨rfl, rfl, rfl, by decide +kernel, rfl, by decide +kernel, by decide +kernel⟩
def spIsRatio (K : PySem.W.Frag) (T : Addr) : Sp := fun vs H Q _ => ∃ (t : Addr) (a b : Int), vs = [.ref t] ∧ SqT K H t (rt (a, b)) ∧ 0 < b ∧ Int.gcd a b = 1 ∧ GxR.TabG H T ∧ ∀ H', Grow H H' → Q (.bl true) H'
theorem ok_isratio {f c T : Addr} {fd : FuncData} (D : DefC K mg "is_ratio" sIsRatio ["value"] f fd c) (TB : GxR.TabB base mg c T) (B : Blt mg) : Cal P w K mg base "is_ratio" 1 ["value"] (spIsRatio K T) := by
  refine D.ok scIsRatio (fun vs H Q E h => ?_) (fun A outer s H vs Q E hr h => ?_)
  · obtain ⟨t, a, b, rfl, _⟩ := h
    rfl
  obtain ⟨t, a, b, rfl, ht, hb, hg, tb, k⟩ := h
  refine ⟨_, pss_cons (ps_if (PW.pt (pw_or (pt_not (pt_val (pe_isT B (pv 0))))
      (pw_or1 (pt_cmpR op_ne (pe_lenS B (pv 0)) pe_int (nomark _))))) (pss_one (ps_ret pe_bl)) pss_nil)
    (pss_cons (ps_if (pt_not (pt_val (pe_allT hr (by rfl) B.all TB rfl (show GenT (defScope sIsRatio) _ _ from genT_by (by decide +kernel)) (pv 0) (el_int (show GenT (defScope sIsRatio) _ _ from genT_by (by decide +kernel)) B (by rfl) (by rfl) (by rfl))))) (pss_one (ps_ret pe_bl)) pss_nil)
    (pss_one (ps_ret (pe_and (pe_cmpR op_gt (px 0) pe_int (nomark _)) (pe_one (pe_cmpR op_eq (pe_callBfun cr_gcd (by rfl) B.gcd (pa_cons (px 0) (pa_cons (px 0) pa_nil))) pe_int (nomark _))))))), ?_⟩
  refine ⟨.ref t, rfl, tyT ht, true, rfl, iteF ?_⟩
  refine ⟨.ref t, rfl, t, _, rfl, .inr ht, rfl, _, rfl, iteF ?_⟩
  refine ⟨.ref t, rfl, t, _, rfl, ht, tb, fun i y hy => ?_, fun H2 h2 => ?_⟩
  · match i, hy with
    | 0, hy => cases hy; exact ⟨_, rfl, rfl⟩
    | 1, hy => cases hy; exact ⟨_, rfl, rfl⟩
  refine ⟨true, rfl, iteF ?_⟩
  have g : Grow H H2 := .tabbed tb h2
  have ht2 := g.seqT ht
  refine ⟨.ref t, rfl, t, _, _, _, rfl, rfl, ht2, atI_nat (j := 1) rfl, _, _, rfl, rfl, true, ?_, iteT ?_⟩
  · show V.bl (decide ((0 : Int) < b)) = V.bl true
    rw [decide_eq_true hb]
  refine ⟨.ref t, rfl, t, _, _, _, rfl, rfl, ht2, atI_nat (j := 0) rfl, .ref t, rfl, t, _, _, _, rfl, rfl, ht2, atI_nat (j := 1) rfl, a, b, rfl, rfl, ?_⟩
  have e : decide (V.int ((Nat.gcd a.natAbs b.natAbs : Nat) : Int) = V.int 1) = true := by
    have : Nat.gcd a.natAbs b.natAbs = 1 := hg
    rw [this]
    rfl
  show Q (V.bl (decide (V.int ((Nat.gcd a.natAbs b.natAbs : Nat) : Int) = V.int 1))) H2
  rw [e]
  exact k H2 g
end
end K45
/-! K45: is_outcome, need_part. -/
namespace K45
open PySem PySem.Spec PyProof.Rows L2
section
variable {P : Program} {w : World} {K : PySem.W.Frag} {mg : Str → Option Value} {base : Heap}
/-- an outcome stands at t: a weight, a tuple of losses -/
def OutAt (K : PySem.W.Frag) (H : Hp) (t : Addr) (o : Int × List Int) : Prop := ∃ tl : Addr, SqT K H t [.int o.1, .ref tl] ∧ SqT K H tl (o.2.map V.int)
theorem OutAt.grow {H H' : Hp} {t : Addr} {o : Int × List Int} (h : OutAt K H t o) (g : Grow H H') : OutAt K H' t o := by
  obtain ⟨tl, a, b⟩ := h
  exact ⟨tl, g.seqT a, g.seqT b⟩
/-- what an outcome may be, m members -/
structure OutOk (m : Nat) (o : Int × List Int) : Prop where
  w1 : 1 ≤ o.1
  w2 : o.1 ≤ 1000
  len : o.2.length = m
  lo : ∀ l ∈ o.2, 0 ≤ l
  hi : ∀ l ∈ o.2, l ≤ 1000
theorem scIsOutcome : FnScope ["value", "members", "one"] ["value", "members"] (defScope sIsOutcome) := ⟨rfl, rfl, rfl, by decide +kernel, rfl, by decide +kernel, by decide +kernel⟩
def spIsOutcome (K : PySem.W.Frag) (T : Addr) : Sp := fun vs H Q _ => ∃ (t : Addr) (mv : V) (m : Nat) (o : Int × List Int), vs = [.ref t, mv] ∧ (mv = .non ∨ mv = .int m) ∧ 1 ≤ m ∧ m ≤ 4 ∧ OutAt K H t o ∧ OutOk m o ∧ GxR.TabG H T ∧ ∀ H', Grow H H' → Q (.bl true) H'
theorem ok_isoutcome {f c T fi : Addr} {fd fdi : FuncData} (D : DefC K mg "is_outcome" sIsOutcome ["value", "members"] f fd c) (Di : Def K mg "is_in" sIsIn ["value", "least", "most"] fi fdi) (TB : GxR.TabB base mg c T) (B : Blt mg) : Cal P w K mg base "is_outcome" 2 ["value", "members"] (spIsOutcome K T) := by
  obtain ⟨f1, fd1, G, g1, k1, b1⟩ := ok_isin (P := P) (w := w) (base := base) Di B
  obtain ⟨tM, hM⟩ := B.cM
  obtain ⟨tS, hS⟩ := B.cS
  refine D.ok scIsOutcome (fun vs H Q E h => ?_) (fun A outer s H vs Q E hr h => ?_)
  · obtain ⟨t, mv, m, o, rfl, _⟩ := h
    rfl
  obtain ⟨t, mv, m, o, rfl, hmv, m1, m2, ⟨tl, ht, htl⟩, ok, tb, k⟩ := h
  refine ⟨_, pss_cons (ps_if (PW.pt (pw_or (pt_not (pt_val (pe_isT B (pv 0)))) (pw_or (pt_cmpR op_ne (pe_lenS B (pv 0)) pe_int (nomark _)) (pw_or1 (pt_not (pt_val
      (pe_call G hr (by rfl) g1 k1 b1 .nil pass0 (pa_cons (px 0) (pa_cons pe_int (pa_cons (pe_glob (v := .int 1000) (by rfl) hS ⟨_, rfl⟩) pa_nil)))))))))) (pss_one (ps_ret pe_bl)) pss_nil)
    (pss_cons (ps_if (PW.pt (pw_or (pt_not (pt_val (pe_isT B (px 0)))) (pw_or1 (pt_not (pt_chain op_le op_le pe_int (pe_lenS B (px 0)) (pe_glob (v := .int 4) (by rfl) hM ⟨_, rfl⟩)))))) (pss_one (ps_ret pe_bl)) pss_nil)
    (pss_cons (ps_if (PW.pt (pw_and (pt_cmpR op_notN (pv 1) pe_non (nomark _)) (pw_and1 (pt_cmpR op_ne (pe_lenS B (px 0)) (pv 1) (nomark _))))) (pss_one (ps_ret pe_bl)) pss_nil)
    (pss_one (ps_ret (pe_allT hr (by rfl) B.all TB rfl (show GenT (defScope sIsOutcome) _ _ from genT_by (by decide +kernel)) (px 0) (el_isin hr Di (show GenT (defScope sIsOutcome) _ _ from genT_by (by decide +kernel)) B (by rfl) (by rfl))))))), ?_⟩
  -- not isinstance(value, tuple) or len(value) != 2 or (not is_in(value[0], 1, MOST_SIZE))
  refine ⟨.ref t, rfl, tyT ht, true, rfl, iteF ?_⟩
  refine ⟨.ref t, rfl, t, _, rfl, .inr ht, rfl, _, rfl, iteF ?_⟩
  refine ⟨.ref t, rfl, t, _, _, _, rfl, rfl, ht, atI_nat (j := 0) rfl, o.1, 1, 1000, rfl, ok.w1, ok.w2, true, rfl, iteF ?_⟩
  -- not isinstance(value[1], tuple) or not 1 <= len(value[1]) <= MOST_MEMBERS
  refine ⟨.ref t, rfl, t, _, _, _, rfl, rfl, ht, atI_nat (j := 1) rfl, tyT htl, true, rfl, iteF ?_⟩
  have e1 : ((o.2.map V.int).length : Int) = (m : Int) := by rw [List.length_map, ok.len]
  refine ⟨.ref t, rfl, t, _, _, _, rfl, rfl, ht, atI_nat (j := 1) rfl, tl, _, rfl, .inr htl, 1, _, rfl, rfl, true, ?_, iteT ⟨_, _, rfl, rfl, true, ?_, iteF ?_⟩⟩
  · show V.bl (decide ((1 : Int) ≤ ((o.2.map V.int).length : Int))) = V.bl true
    rw [e1, decide_eq_true (by omega)]
  · show V.bl (decide (((o.2.map V.int).length : Int) ≤ 4)) = V.bl true
    rw [e1, decide_eq_true (by omega)]
  -- members is not None and len(value[1]) != members
  have fin : ∀ {Q' : Prop}, Q' → Q' := id
  have last : ∀ (R : Hp → Prop), (∀ H2, GxR.Tabbed T H H2 → R H2) → ∀ H2, GxR.Tabbed T H H2 → R H2 := fun _ h => h
  have items : ∀ (i : Nat) (y : V), (o.2.map V.int)[i]? = some y → ∃ z : Int, y = .int z ∧ 0 ≤ z ∧ z ≤ 1000 ∧ V.bl true = .bl true := fun i y hy => by
    obtain ⟨z, hz, e⟩ := at_map hy
    have hm := List.mem_of_getElem? hz
    exact ⟨z, e, ok.lo z hm, ok.hi z hm, rfl⟩
  rcases hmv with rfl | rfl
  · refine ⟨.non, rfl, rfl, false, rfl, iteF (iteF ?_)⟩
    exact ⟨.ref t, rfl, t, _, _, _, rfl, rfl, ht, atI_nat (j := 1) rfl, tl, _, rfl, htl, tb, items, fun H2 h2 => k H2 (.tabbed tb h2)⟩
  · refine ⟨.int m, rfl, rfl, true, rfl, iteT ?_⟩
    refine ⟨.ref t, rfl, t, _, _, _, rfl, rfl, ht, atI_nat (j := 1) rfl, tl, _, rfl, .inr htl, .int m, rfl, rfl, _, rfl, iteNS (by rw [e1]) ?_⟩
    exact ⟨.ref t, rfl, t, _, _, _, rfl, rfl, ht, atI_nat (j := 1) rfl, tl, _, rfl, htl, tb, items, fun H2 h2 => k H2 (.tabbed tb h2)⟩
end
end K45
/-! K45: enumerate over a tuple; zip of a tuple and a list. -/
namespace K45
open PySem PySem.Spec PyProof.Rows L2
/-! ### loops over anything that is walked -/
theorem for_any {J : It} {n : Nat} {g : TG} {tb : TS} {D : Ends} {σ : L2.St} {H : Hp} (Pv : Nat → L2.St → Hp → Prop) (h0 : Pv 0 σ H) (hgo : ∀ i σ H, i < n → Pv i σ H → J.go i H) (hst : ∀ σ H, Pv n σ H → J.stop n H)
    (hs : ∀ i v σ H H', i < n → Pv i σ H → J.yld i H v H' → g v σ H' fun σ2 H2 => tb { D with nx := Pv (i + 1), ct := Pv (i + 1), bk := D.nx } σ2 H2) (hd : ∀ σ H, Pv n σ H → D.nx σ H) :
    ∃ W : Nat → Nat → L2.St → Hp → Prop, (∃ m, W 0 m σ H) ∧ ∀ i m σ H, W i m σ H →
      (J.stop i H ∧ D.nx σ H) ∨ (J.go i H ∧ ∃ N : L2.St → Hp → Prop, (∀ σ' H', N σ' H' → ∃ m', m' < m ∧ W (i + 1) m' σ' H') ∧ ∀ v H', J.yld i H v H' → g v σ H' fun σ2 H2 => tb { D with nx := N, ct := N, bk := D.nx } σ2 H2) := by
  refine ⟨fun i m σ H => m = n - i ∧ i ≤ n ∧ Pv i σ H, ⟨n, by simp, Nat.zero_le _, h0⟩, ?_⟩
  rintro i m σ H ⟨rfl, hi, p⟩
  by_cases hlt : i < n
  · exact .inr ⟨hgo i σ H hlt p, Pv (i + 1), fun σ' H' p' => ⟨n - (i + 1), by omega, rfl, hlt, p'⟩, fun v H' y => hs i v σ H H' hlt p y⟩
  · have e : i = n := by omega
    subst e
    exact .inl ⟨hst σ H p, hd σ H p⟩
theorem lc_any {J : It} {n : Nat} {g : TG} {tt : TT} {te : TE} {vs : List Nat} {σ : L2.St} {H1 : Hp} {D : Addr} {Qd : Hp → Prop} (Pv : Nat → Hp → Prop) (h0 : Pv 0 (upd H1 D (.lst []))) (hgo : ∀ i H, i < n → Pv i H → J.go i H) (hst : ∀ H, Pv n H → J.stop n H)
    (hs : ∀ i v H H', i < n → Pv i H → J.yld i H v H' → g v (wipe σ vs) H' fun σ2 H2 => wipe σ2 vs = wipe σ vs ∧ tt σ2 H2 fun b H3 =>
      if b = true then te σ2 H3 fun y H4 => ∃ acc, H4 D = some (.lst acc) ∧ acc.length < sizeLine ∧ Pv (i + 1) (upd H4 D (.lst (acc ++ [y]))) else Pv (i + 1) H3) (hd : ∀ H, Pv n H → Qd H) :
    ∃ W : Nat → Nat → Hp → Prop, (∃ m, W 0 m (upd H1 D (.lst []))) ∧ ∀ i m H, W i m H →
      (J.stop i H ∧ Qd H) ∨ (J.go i H ∧ ∃ Nx : Hp → Prop, (∀ H', Nx H' → ∃ m', m' < m ∧ W (i + 1) m' H') ∧ ∀ x H', J.yld i H x H' → g x (wipe σ vs) H' fun σ2 H2 => wipe σ2 vs = wipe σ vs ∧ tt σ2 H2 fun b H3 =>
        if b = true then te σ2 H3 fun y H4 => ∃ acc, H4 D = some (.lst acc) ∧ acc.length < sizeLine ∧ Nx (upd H4 D (.lst (acc ++ [y]))) else Nx H3) := by
  refine ⟨fun i m H => m = n - i ∧ i ≤ n ∧ Pv i H, ⟨n, by simp, Nat.zero_le _, h0⟩, ?_⟩
  rintro i m H ⟨rfl, hi, p⟩
  by_cases hlt : i < n
  · exact .inr ⟨hgo i H hlt p, Pv (i + 1), fun H' p' => ⟨n - (i + 1), by omega, rfl, hlt, p'⟩, fun x H' y => hs i x H H' hlt p y⟩
  · have e : i = n := by omega
    subst e
    exact .inl ⟨hst H p, hd H p⟩

/-! ### enumerate(tuple) -/
set_option maxHeartbeats 1000000 in
theorem meets_enumB1 {v : Value} {o : Obj} {Hh : Heap → Prop} (B : Begins v o Hh) :
    Meets (Builtin.«enumerate.__new__» ⟨[.type "enumerate", v], []⟩) (fun _ R s => Hh s.heap ∧
      R (.ok (.ret (.ref (s.heap.push o).objs.size))) { s with heap := (s.heap.push o).push { cls := .type "enumerate", data := .fields #[.none, .bool false, .ref s.heap.objs.size, rawInt 0, .none, .none] } }) :=
  .of_wp fun prog w A R s h => by
    obtain ⟨hp, g, d, tk, os⟩ := s; obtain ⟨h1, h⟩ := h
    have hsub := sub_enumerate
    have q1 : ∀ {A' : Around} {E : Value → Shared → Prop} {Q : Value → Shared → Prop}, Q (.ref hp.objs.size) ⟨hp.push o, g, d, tk, os⟩ → wpAny (model prog w) A' (pyIter v) Q E ⟨hp, g, d, tk, os⟩ :=
      fun q => B.iter prog w _ _ ⟨hp, g, d, tk, os⟩ _ h1 q
    wp_walk using q1
    refine wpAny_stack_any fun st => wpAny_pure ?_
    split
    · rename_i c _ _ _ _ _
      cases (c == Value.type "enumerate")
      · wp_walk using q1
        exact ⟨_, rfl, h⟩
      · wp_walk using q1
        exact ⟨_, rfl, h⟩
    · wp_walk using q1
      exact ⟨_, rfl, h⟩
theorem enum_begins1 {prog : Program} {w : World} {A : Around} {E : Value → Shared → Prop} {s : Shared} {v : Value} {o : Obj} {Hh : Heap → Prop} {Q : Value → Shared → Prop} (B : Begins v o Hh) (h1 : Hh s.heap)
    (h : ∀ h', IsEnum h' (s.heap.objs.size + 1) s.heap.objs.size 0 .none → h'.get? s.heap.objs.size = some o → h'.objs.size = s.heap.objs.size + 2 →
      (∀ b o, s.heap.get? b = some o → h'.get? b = some o) → Q (.ref (s.heap.objs.size + 1)) { s with heap := h' }) :
    wpAny (model prog w) A (call (.type "enumerate") [v]) Q E s := by
  refine callType_new F.called_enumerate (by decide) (F.typeCall_enumerate_1 _) (F.newCall_enumerate_1 _) (fun obj => F.args_object_init_2 obj _) F.entry_enumerate_new
    (meets_enumB1 B) ⟨h1, ?_⟩
  have hz : (s.heap.push o).objs.size = s.heap.objs.size + 1 := Heap.size_push ..
  show _ ∧ _
  rw [hz]
  have he : IsEnum ((s.heap.push o).push { cls := .type "enumerate", data := .fields #[.none, .bool false, .ref s.heap.objs.size, rawInt 0, .none, .none] }) (s.heap.objs.size + 1) s.heap.objs.size 0 .none := by
    have := Heap.get?_push_size (s.heap.push o) (o := { cls := .type "enumerate", data := .fields #[.none, .bool false, .ref s.heap.objs.size, rawInt 0, .none, .none] }) rfl
    rw [hz] at this; exact this
  refine ⟨⟨_, he, rfl⟩, h _ he (Heap.get?_push_of_some _ (Heap.get?_push_size _ B.free)) (by rw [Heap.size_push, hz]) fun b o x => Heap.get?_push_of_some _ (Heap.get?_push_of_some _ x)⟩
/-- the tuple at a, each item in a new pair -/
def IteT (K : PySem.W.Frag) (a : Addr) : It :=
  ⟨fun i H => ∃ (xs : List V) (x : V), SqT K H a xs ∧ xs[i]? = some x, fun i H v H' => ∃ T x, v = .ref T ∧ H T = none ∧ H' = upd H T (.tup [.int (i : Nat), x]) ∧ ∀ xs, SqT K H a xs → xs[i]? = some x, fun i H => ∃ xs : List V, SqT K H a xs ∧ xs.length = i⟩
theorem turn_enumT {P : Program} {w : World} {K : PySem.W.Frag} {elts : List Expr} {kk : Nat} {tpos : Pos} (a e it : Addr) :
    Turn P w K (.Tuple elts kk tpos) (IteT K a) [e, it] e (fun i h => (∃ old, IsEnum h e it ((i : Nat) : Int) old) ∧ h.IsTupleIter it a i ∧ e ≠ it ∧ a ≠ e ∧ a ≠ it) where
  mem := by simp
  obj := fun i h st b hb => by
    obtain ⟨⟨old, he⟩, ⟨o, ho, hc, hd⟩, _⟩ := st
    have e' : b = e ∨ b = it := by simpa using hb
    rcases e' with z | z
    · rw [z]; exact ⟨_, he, fun v q => nomatch q⟩
    · rw [z]; exact ⟨o, ho, fun v q => by rw [hd] at q; cases q⟩
  keep := fun i h h' st k => let ⟨⟨old, he⟩, hi, hne⟩ := st; ⟨⟨old, k e (by simp) _ he⟩, hi.at fun o q => k it (by simp) o q, hne⟩
  item := by
    intro X hP hw hK hc i pins s σ H E I hf st hg
    subst hP hw hK
    obtain ⟨⟨old, he⟩, hit, hne, nae, nai⟩ := st
    obtain ⟨xs, x, hq, hx⟩ := hg
    obtain ⟨its, rv, p, hz⟩ := I.tuple hq
    obtain ⟨u, hu, ru⟩ := rv.get hx
    have hel : e < s.heap.objs.size := Heap.lt_size he
    have hil : it < s.heap.objs.size := by obtain ⟨_, q, _⟩ := hit; exact Heap.lt_size q
    have pT : s.heap.IsTuple a its.toArray := by
      obtain ⟨o, e1, e2, n, e3⟩ := p
      exact ⟨o, e1, e2, n, e3⟩
    refine wpAny_pyNext_enum_itemD (Draws.tuple (A := X.A.in1) (I.ok.hd hc) it a nai its.toArray) he ⟨hit, pT⟩ (by have := (List.getElem?_eq_some_iff.mp hu).1; simpa using this) hne (by simp [hne, Ne.symm nae]) fun y h' tk hy ho hst' hT hsz hk => ?_
    have ey : y = u := by
      have h1 : its[i]? = some y := by simpa using hy
      rw [hu] at h1
      exact (Option.some.inj h1).symm
    subst ey
    obtain ⟨hit', _⟩ := hst'
    refine ⟨_, rfl, wpAny_letOwnedTupleGo_enum (s := { s with heap := h', toks := tk + 1 }) ho fun h'' he' sb => ?_⟩
    have hT2 : h''.get? s.heap.objs.size = some { cls := .type "tuple", data := .seq #[.int i tk, y] } := (sb.2 _ (Nat.ne_of_gt hel)).trans hT
    have new : ObjOk X.prog X.w (upd H s.heap.objs.size (.tup [.int (i : Nat), x])) h'' s.heap.objs.size (.tup [.int (i : Nat), x]) :=
      ⟨by show 2 ≤ sizeLine; decide, [.int i tk, y], .cons ⟨_, rfl⟩ (.cons ru .nil), ⟨_, hT2, rfl, _, rfl⟩⟩
    have I1 : Inv X pins σ (upd H s.heap.objs.size (.tup [.int (i : Nat), x])) { s with heap := h'', toks := tk + 1 } :=
      I.turnedNew (ch := [e, it]) (fun b ob hb q => (sb.2 b (fun z => hb (by simp [z]))).trans (hk b ob (fun z => hb (by simp [z])) (fun z => hb (by simp [z])) q)) hf (Nat.le_refl _) new
    refine ⟨.ref s.heap.objs.size, _, I1, rfl, ⟨_, x, rfl, I.hok.fresh (Nat.le_refl _), rfl, fun ys hy => by rw [I.tuple_inj hy hq]; exact hx⟩, ⟨⟨y, ?_⟩, hit'.at fun o q => (sb.2 it (Ne.symm hne)).trans q, hne, nae, nai⟩, fun b hb => ?_⟩
    · have e1 : ((i + 1 : Nat) : Int) = (i : Int) + 1 := by omega
      rw [e1]; exact he'
    · have hb' : b < s.heap.objs.size := by
        have e' : b = e ∨ b = it := by simpa using hb
        rcases e' with z | z
        · rw [z]; exact hel
        · rw [z]; exact hil
      rw [upd_ne (Nat.ne_of_lt hb')]
      exact (hf b hb).1
  done := by
    intro X hP hw hK hc i pins s σ H E I hf st hg
    subst hP hw hK
    obtain ⟨⟨old, he⟩, hit, hne, nae, nai⟩ := st
    obtain ⟨xs, hq, hx⟩ := hg
    obtain ⟨its, rv, p, hz⟩ := I.tuple hq
    obtain ⟨f0, f1, f2, f3, f4, f5⟩ := hf it (by simp)
    have hl := rv.length
    have pT : s.heap.IsTuple a its.toArray := by
      obtain ⟨o, e1, e2, n, e3⟩ := p
      exact ⟨o, e1, e2, n, e3⟩
    have ei : i = its.toArray.size := by rw [List.size_toArray]; omega
    subst ei
    exact wpAny_pyNext_enum_endD (Draws.tuple (A := X.A.in1) (I.ok.hd hc) it a nai its.toArray) he ⟨hit, pT⟩ fun h' eb => ⟨rfl, I.turned (t' := s.toks) (fun b o hb q => eb b o hb q) f0 f1 f3 f4 f5⟩
  self := fun A i s Q E st h => let ⟨⟨_, he⟩, _⟩ := st; wpAny_pyIter_enum he h
def iEnumT (K : PySem.W.Frag) (ta : TA) : TI := fun σ H R => ta σ H fun vs H1 => ∃ a xs, vs = [.ref a] ∧ SqT K H1 a xs ∧ R (IteT K a) H1
theorem pi_enumT {X : Cx} {e : Expr} {ta : TA} {p pos tpos : Pos} {elts : List Expr} {kk : Nat} (hg : Gl X "enumerate") (hm : X.mg "enumerate" = none) (ha : PA X [e] ta) (hs : starEach [e] X.env = [(false, eval e X.env)] := by rfl) :
    PI X (.Tuple elts kk tpos) (.Call (.Name "enumerate" p) [e] [] pos) (iEnumT X.K ta) := by
  refine ⟨fun pins s σ H R I h => ?_⟩
  refine Call_ (ld_blt I hg hm boot_enumerate (PyProof.Rows.callWith_type1 (thn (ha.run pos pins s σ H _ I h) fun us s1 ⟨vs, H1, I1, r1, q1⟩ => ?_) hs rfl))
  obtain ⟨a, xs, ex, hq, q⟩ := q1
  subst ex
  cases r1 with
  | cons r rr =>
    cases rr
    cases r
    obtain ⟨its, rv, p', hz⟩ := I1.tuple hq
    have lt : a < s1.heap.objs.size := let ⟨_, e, _⟩ := p'; Heap.lt_size e
    have pT : s1.heap.IsTuple a its.toArray := by
      obtain ⟨o, e1, e2, n, e3⟩ := p'
      exact ⟨o, e1, e2, n, e3⟩
    refine enum_begins1 (begins_tuple a its.toArray) pT fun h' he hit hsz hk => wpAny_pyIter_enum he ?_
    have I2 : Inv X pins σ H1 { s1 with heap := h' } := I1.kept (t' := s1.toks) hk
    refine ⟨s1.heap.objs.size + 1, [s1.heap.objs.size + 1, s1.heap.objs.size], _, _, H1, rfl, I2, turn_enumT a (s1.heap.objs.size + 1) s1.heap.objs.size, ⟨⟨.none, he⟩, ⟨_, hit, rfl, rfl⟩, Nat.succ_ne_self _, Nat.ne_of_lt (Nat.lt_succ_of_lt lt), Nat.ne_of_lt lt⟩, fun b hb => ?_, q⟩
    have e' : b = s1.heap.objs.size + 1 ∨ b = s1.heap.objs.size := by simpa using hb
    have hle : s1.heap.objs.size ≤ b := by
      rcases e' with z | z
      · rw [z]; exact Nat.le_add_right _ _
      · rw [z]; exact Nat.le_refl _
    exact I1.fpOk hle (I1.hok.fresh hle)
end K45
/-! K45: zip of a tuple and a list. -/
namespace K45
open PySem PySem.Spec PyProof.Rows L2
/-- the tuple at a and the list at b, the items in new pairs -/
def ItzM (K : PySem.W.Frag) (a b : Addr) : It :=
  ⟨fun i H => ∃ (xs ys : List V) (x y : V), SqT K H a xs ∧ SqL K H b ys ∧ xs[i]? = some x ∧ ys[i]? = some y,
    fun i H v H' => ∃ T x y, v = .ref T ∧ H T = none ∧ H' = upd H T (.tup [x, y]) ∧ (∀ xs, SqT K H a xs → xs[i]? = some x) ∧ ∀ ys, SqL K H b ys → ys[i]? = some y,
    fun i H => ∃ xs ys : List V, SqT K H a xs ∧ SqL K H b ys ∧ xs.length = i ∧ ys.length = i⟩
theorem turn_zipM {P : Program} {w : World} {K : PySem.W.Frag} {elts : List Expr} {kk : Nat} {tpos : Pos} {a b z TI TO i1 i2 : Addr} (D : ZipSep2 z TI TO i1 i2 [i1, a] [i2, b]) (n1 : a ≠ i1) (n2 : b ≠ i2) :
    Turn P w K (.Tuple elts kk tpos) (ItzM K a b) [z, TI, TO, i1, i2] z (fun i h => IsZip h z TI TO .none ∧ IsTupOf2 h TI (.ref i1) (.ref i2) ∧ (∃ x y, IsTupOf2 h TO x y) ∧ h.IsTupleIter i1 a i ∧ h.IsListIter i2 b i) where
  mem := by simp
  obj := fun i h st c hc => by
    obtain ⟨hz, hTI, ⟨x, y, hTO⟩, ⟨o1, e1, _, d1⟩, ⟨o2, e2, _, d2⟩⟩ := st
    have e' : c = z ∨ c = TI ∨ c = TO ∨ c = i1 ∨ c = i2 := by simpa using hc
    rcases e' with q | q | q | q | q
    · rw [q]; exact ⟨_, hz, fun v q => nomatch q⟩
    · rw [q]; exact ⟨_, hTI, fun v q => nomatch q⟩
    · rw [q]; exact ⟨_, hTO, fun v q => nomatch q⟩
    · rw [q]; exact ⟨o1, e1, fun v q => by rw [d1] at q; cases q⟩
    · rw [q]; exact ⟨o2, e2, fun v q => by rw [d2] at q; cases q⟩
  keep := fun i h h' st k => by
    obtain ⟨hz, hTI, ⟨x, y, hTO⟩, h1, h2⟩ := st
    exact ⟨k z (by simp) _ hz, k TI (by simp) _ hTI, ⟨x, y, k TO (by simp) _ hTO⟩, h1.at fun o q => k i1 (by simp) o q, h2.at fun o q => k i2 (by simp) o q⟩
  item := by
    intro X hP hw hK hc i pins s σ H E I hf st hg
    subst hP hw hK
    obtain ⟨hz, hTI, ⟨x0, y0, hTO⟩, h1, h2⟩ := st
    obtain ⟨xs, ys, x, y, hqx, hqy, hx, hy⟩ := hg
    obtain ⟨its, rv, p, _⟩ := I.tuple hqx
    obtain ⟨its2, rv2, p2, _⟩ := I.list hqy
    obtain ⟨u, hu, ru⟩ := rv.get hx
    obtain ⟨u2, hu2, ru2⟩ := rv2.get hy
    have pT : s.heap.IsTuple a its.toArray := by
      obtain ⟨o, e1, e2, n, e3⟩ := p
      exact ⟨o, e1, e2, n, e3⟩
    have hzl : z < s.heap.objs.size := Heap.lt_size hz
    refine wpAny_pyNext_zipD2_item D (Draws.tuple (A := X.A.in1) (I.ok.hd hc) i1 a n1 its.toArray) (Draws.list (A := X.A.in1) (I.ok.hd hc) i2 b n2 its2.toArray) hz hTI hTO ⟨h1, pT⟩ ⟨h2, p2.isList⟩
      (by have := (List.getElem?_eq_some_iff.mp hu).1; simpa using this) (by have := (List.getElem?_eq_some_iff.mp hu2).1; simpa using this) fun y1 y2 h' tk q1 q2 z' TO' h1' h2' hT hsz hk => ?_
    have ey : y1 = u := by
      have h1 : its[i]? = some y1 := by simpa using q1
      rw [hu] at h1
      exact (Option.some.inj h1).symm
    have ey2 : y2 = u2 := by
      have h1 : its2[i]? = some y2 := by simpa using q2
      rw [hu2] at h1
      exact (Option.some.inj h1).symm
    subst ey ey2
    refine ⟨_, rfl, wpAny_letOwnedTupleGo_zip (s := { s with heap := h', toks := tk }) z' fun h'' z'' sb => ?_⟩
    have hT2 : h''.get? s.heap.objs.size = some { cls := .type "tuple", data := .seq #[y1, y2] } := (sb.2 _ (Nat.ne_of_gt hzl)).trans hT
    have new : ObjOk X.prog X.w (upd H s.heap.objs.size (.tup [x, y])) h'' s.heap.objs.size (.tup [x, y]) :=
      ⟨by show 2 ≤ sizeLine; decide, [y1, y2], .cons ru (.cons ru2 .nil), ⟨_, hT2, rfl, _, rfl⟩⟩
    have I1 : Inv X pins σ (upd H s.heap.objs.size (.tup [x, y])) { s with heap := h'', toks := tk } :=
      I.turnedNew (t' := tk) (ch := [z, TI, TO, i1, i2]) (fun c o hb q => (sb.2 c (fun q' => hb (by simp [q']))).trans (hk c o (fun q' => hb (by simp [q'])) (fun q' => hb (by simp [q'])) (fun q' => hb (by simp [q'])) (fun q' => hb (by simp [q'])) q)) hf (Nat.le_refl _) new
    refine ⟨.ref s.heap.objs.size, _, I1, rfl, ⟨_, x, y, rfl, I.hok.fresh (Nat.le_refl _), rfl, fun l hl => by rw [I.tuple_inj hl hqx]; exact hx, fun l hl => by rw [I.list_inj hl hqy]; exact hy⟩, ⟨z'', ?_, ⟨y1, y2, ?_⟩, ?_, ?_⟩, fun c hcm => ?_⟩
    · exact (sb.2 _ D.TIz).trans (hk _ _ D.TIz D.TITO D.TIi1 D.TIi2 hTI)
    · exact (sb.2 _ D.TOz).trans TO'
    · exact h1'.1.at fun o q => (sb.2 _ (Ne.symm D.zi1)).trans q
    · exact h2'.1.at fun o q => (sb.2 _ (Ne.symm D.zi2)).trans q
    · have hlt : c < s.heap.objs.size := by
        have e' : c = z ∨ c = TI ∨ c = TO ∨ c = i1 ∨ c = i2 := by simpa using hcm
        rcases e' with q | q | q | q | q
        · rw [q]; exact hzl
        · rw [q]; exact Heap.lt_size hTI
        · rw [q]; exact Heap.lt_size hTO
        · rw [q]; obtain ⟨_, e1, _⟩ := h1; exact Heap.lt_size e1
        · rw [q]; obtain ⟨_, e2, _⟩ := h2; exact Heap.lt_size e2
      rw [upd_ne (Nat.ne_of_lt hlt)]
      exact (hf c hcm).1
  done := by
    intro X hP hw hK hc i pins s σ H E I hf st hg
    subst hP hw hK
    obtain ⟨hz, hTI, ⟨x0, y0, hTO⟩, h1, h2⟩ := st
    obtain ⟨xs, ys, hqx, hqy, e1, e2⟩ := hg
    obtain ⟨its, rv, p, _⟩ := I.tuple hqx
    obtain ⟨its2, rv2, p2, _⟩ := I.list hqy
    have l1 := rv.length
    have l2 := rv2.length
    have pT : s.heap.IsTuple a its.toArray := by
      obtain ⟨o, e1, e2, n, e3⟩ := p
      exact ⟨o, e1, e2, n, e3⟩
    refine wpAny_pyNext_zipD2_end D (Draws.tuple (A := X.A.in1) (I.ok.hd hc) i1 a n1 its.toArray) (Draws.list (A := X.A.in1) (I.ok.hd hc) i2 b n2 its2.toArray) hz hTI hTO ⟨h1, pT⟩ ⟨h2, p2.isList⟩
      (by rw [List.size_toArray]; omega) (by rw [List.size_toArray]; omega) (.inl (by rw [List.size_toArray]; omega)) fun h' tk hk => ⟨rfl, I.turnedL (t' := tk) (ch := [z, TI, TO, i1, i2]) (fun c o hb q =>
      hk c o (fun q' => hb (by simp [q'])) (fun q' => hb (by simp [q'])) (fun q' => hb (by simp [q'])) (fun q' => hb (by simp [q'])) q) hf⟩
  self := fun A i s Q E st h => wpAny_pyIter_zip st.1 h
def iZipM (K : PySem.W.Frag) (ta : TA) : TI := fun σ H R => ta σ H fun vs H1 => ∃ a b xs ys, vs = [.ref a, .ref b] ∧ SqT K H1 a xs ∧ SqL K H1 b ys ∧ R (ItzM K a b) H1
theorem pi_zipM {X : Cx} {e e2 : Expr} {ta : TA} {p pos tpos : Pos} {elts : List Expr} {kk : Nat} (hg : Gl X "zip") (hm : X.mg "zip" = none) (ha : PA X [e, e2] ta)
    (hs : starEach [e, e2] X.env = (false, eval e X.env) :: starEach [e2] X.env := by rfl) (hpl : (backTo pos (starEach [e2] X.env)).any (·.1) = false := by rfl) :
    PI X (.Tuple elts kk tpos) (.Call (.Name "zip" p) [e, e2] [] pos) (iZipM X.K ta) := by
  refine ⟨fun pins s σ H R I h => ?_⟩
  refine Call_ (ld_blt I hg hm PyProof.Rows.boot_zip (PyProof.Rows.callWith_type1 (thn (ha.run pos pins s σ H _ I h) fun us s1 ⟨vs, H1, I1, r1, q1⟩ => ?_) hs hpl))
  obtain ⟨a, b, xs, ys, ex, hqx, hqy, q⟩ := q1
  subst ex
  cases r1 with
  | cons r rr =>
    cases rr with
    | cons r' rr =>
      cases rr
      cases r
      cases r'
      have fresh5 : ∀ c, c ∈ [s1.heap.objs.size + 4, s1.heap.objs.size + 2, s1.heap.objs.size + 3, s1.heap.objs.size, s1.heap.objs.size + 1] → FpOk X pins H1 c := fun c hcm => by
        have e' : c = s1.heap.objs.size + 4 ∨ c = s1.heap.objs.size + 2 ∨ c = s1.heap.objs.size + 3 ∨ c = s1.heap.objs.size ∨ c = s1.heap.objs.size + 1 := by simpa using hcm
        have hle : s1.heap.objs.size ≤ c := by
          rcases e' with z | z | z | z | z
          · rw [z]; exact Nat.le_add_right _ _
          · rw [z]; exact Nat.le_add_right _ _
          · rw [z]; exact Nat.le_add_right _ _
          · rw [z]; exact Nat.le_refl _
          · rw [z]; exact Nat.le_add_right _ _
        exact I1.fpOk hle (I1.hok.fresh hle)
      obtain ⟨its, rv, p1, _⟩ := I1.tuple hqx
      obtain ⟨its2, rv2, p2, _⟩ := I1.list hqy
      have pT : s1.heap.IsTuple a its.toArray := by
        obtain ⟨o, e1, e2, n, e3⟩ := p1
        exact ⟨o, e1, e2, n, e3⟩
      have la : a < s1.heap.objs.size := let ⟨_, e, _⟩ := p1; Heap.lt_size e
      have lb : b < s1.heap.objs.size := p2.lt
      refine zip_begins2 (begins_tuple a its.toArray) (begins_list b its2.toArray) pT p2.isList fun h' hz hTI hTO h1 h2 hsz hk => wpAny_pyIter_zip hz ?_
      have I2 : Inv X pins σ H1 { s1 with heap := h' } := I1.kept (t' := s1.toks) hk
      have fa : ∀ c ∈ [a], c < s1.heap.objs.size := fun c hc => by
        have e : c = a := by simpa using hc
        rw [e]
        exact la
      have fb : ∀ c ∈ [b], c < s1.heap.objs.size := fun c hc => by
        have e : c = b := by simpa using hc
        rw [e]
        exact lb
      exact ⟨s1.heap.objs.size + 4, [s1.heap.objs.size + 4, s1.heap.objs.size + 2, s1.heap.objs.size + 3, s1.heap.objs.size, s1.heap.objs.size + 1], _, _, H1, rfl, I2,
        turn_zipM (zip_sep2 (N := s1.heap.objs.size) fa fb) (Nat.ne_of_lt la) (Nat.ne_of_lt (Nat.lt_succ_of_lt lb)), ⟨hz, hTI, ⟨_, _, hTO⟩, ⟨_, h1, rfl, rfl⟩, ⟨_, h2, rfl, rfl⟩⟩, fresh5, q⟩
end K45
/-! K45: need_outcomes, need_part, need_members. -/
namespace K45
open PySem PySem.Spec PyProof.Rows L2
section
variable {P : Program} {w : World} {K : PySem.W.Frag} {mg : Str → Option Value} {base : Heap}
/-- the outcomes os stand in the tuple at a -/
def OutsAt (K : PySem.W.Frag) (H : Hp) (a : Addr) (os : List (Int × List Int)) : Prop := ∃ ts : List Addr, SqT K H a (ts.map V.ref) ∧ ts.length = os.length ∧ ∀ (i : Nat) (t : Addr) (o : Int × List Int), ts[i]? = some t → os[i]? = some o → OutAt K H t o
theorem OutsAt.grow {H H' : Hp} {a : Addr} {os : List (Int × List Int)} (h : OutsAt K H a os) (g : Grow H H') : OutsAt K H' a os := by
  obtain ⟨ts, h1, h2, h3⟩ := h
  exact ⟨ts, g.seqT h1, h2, fun i t o e1 e2 => (h3 i t o e1 e2).grow g⟩
structure OutsOk (m : Nat) (os : List (Int × List Int)) : Prop where
  m1 : 1 ≤ m
  m4 : m ≤ 4
  n1 : 1 ≤ os.length
  n8 : os.length ≤ 8
  ok : ∀ o ∈ os, OutOk m o
theorem scNeedOutcomes : FnScope ["outcomes", "members", "index", "one"] ["outcomes"] (defScope sNeedOutcomes) := ⟨rfl, rfl, rfl, by decide +kernel, rfl, by decide +kernel, by decide +kernel⟩
def spNeedOutcomes (K : PySem.W.Frag) (T : Addr) : Sp := fun vs H Q _ => ∃ (a : Addr) (m : Nat) (os : List (Int × List Int)), vs = [.ref a] ∧ OutsAt K H a os ∧ OutsOk m os ∧ GxR.TabG H T ∧ ∀ H', Grow H H' → Q .non H'
theorem ok_needoutcomes {f T : Addr} {fd : FuncData} (D : Def K mg "need_outcomes" sNeedOutcomes ["outcomes"] f fd) (B : Blt mg) (C : Cal P w K mg base "is_outcome" 2 ["value", "members"] (spIsOutcome K T)) : Cal P w K mg base "need_outcomes" 3 ["outcomes"] (spNeedOutcomes K T) := by
  obtain ⟨f1, fd1, G, g1, k1, b1⟩ := C
  obtain ⟨tO, hO⟩ := B.cO
  have nd := scNeedOutcomes.nd
  refine D.cal (D.fn.ok scNeedOutcomes (fun vs H Q E h => ?_) (fun cdv A outer s H vs Q E hr h => ?_))
  · obtain ⟨a, m, os, rfl, _⟩ := h
    rfl
  obtain ⟨a, m, os, rfl, ⟨ts, ha, hl, hts⟩, ok, tb, k⟩ := h
  refine ⟨_, pss_cons (ps_if (PW.pt (pw_or (pt_not (pt_val (pe_isT B (pv 0)))) (pw_or1 (pt_not (pt_chain op_le op_le pe_int (pe_lenS B (pv 0)) (pe_glob (v := .int 8) (by rfl) hO ⟨_, rfl⟩)))))) (pss_one ps_never) pss_nil)
    (pss_cons (ps_set (i := 1) nd rfl (.inl rfl) pe_non)
    (pss_one (ps_for PassesOwn.never rfl (pi_enumT (by rfl) B.enum (pa_cons (pv 0) pa_nil)) (pg_tup rfl (pgs_cons (pg_name (i := 2) nd rfl (.inl rfl)) (pgs_cons (pg_name (i := 3) nd rfl (.inl rfl)) pgs_nil)))
      (pss_cons (ps_if (pt_not (pt_val (pe_call G hr (by rfl) g1 k1 b1 .nil pass0 (pa_cons (pv 3) (pa_cons (pv 1) pa_nil))))) (pss_one ps_never) pss_nil)
      (pss_one (ps_set (i := 1) nd rfl (.inl rfl) (pe_lenS B (px 3)))))))), ?_⟩
  have e1 : ((ts.map V.ref).length : Int) = (os.length : Int) := by rw [List.length_map, hl]
  have n1 := ok.n1
  have n8 := ok.n8
  refine ⟨.ref a, rfl, tyT ha, true, rfl, iteF ?_⟩
  refine ⟨.ref a, rfl, a, _, rfl, .inr ha, 1, _, rfl, rfl, true, ?_, iteT ⟨_, _, rfl, rfl, true, ?_, iteF ?_⟩⟩
  · show V.bl (decide ((1 : Int) ≤ ((ts.map V.ref).length : Int))) = V.bl true
    rw [e1, decide_eq_true (by omega)]
  · show V.bl (decide (((ts.map V.ref).length : Int) ≤ 8)) = V.bl true
    rw [e1, decide_eq_true (by omega)]
  refine ⟨.ref a, rfl, a, _, rfl, ha, for_any (n := ts.length) (fun i σ H' => ∃ mv v1 v2, σ = [some (.ref a), some mv, v1, v2] ∧ (mv = .non ∨ mv = .int m) ∧ Grow H H')
    ⟨.non, none, none, rfl, .inl rfl, Grow.refl H⟩ (fun i σ H' hi ⟨_, _, _, _, _, g⟩ => ?_) (fun σ H' ⟨_, _, _, _, _, g⟩ => ⟨_, g.seqT ha, by rw [List.length_map]⟩) ?_ ?_⟩
  · exact ⟨_, .ref ts[i], g.seqT ha, by rw [List.getElem?_map, List.getElem?_eq_getElem hi]; rfl⟩
  · rintro i v σ H1 H2 hi ⟨mv, v1, v2, rfl, hmv, g⟩ ⟨T1, x, rfl, nT, rfl, hx⟩
    have hx2 := hx _ (g.seqT ha)
    obtain ⟨t, hti, rfl⟩ := at_map hx2
    have hio : i < os.length := by rw [← hl]; exact hi
    have hO2 : os[i]? = some os[i] := List.getElem?_eq_getElem hio
    have g2 : Grow H (upd H1 T1 (.tup [.int (i : Nat), .ref t])) := g.trans (Grow.new nT)
    refine ⟨T1, _, rfl, .inl (.inl upd_same), rfl, .int (i : Nat), [.ref t], rfl, .ref t, [], rfl, rfl, ?_⟩
    refine ⟨.ref t, rfl, mv, rfl, t, mv, m, os[i], rfl, hmv, ok.m1, ok.m4, (hts i t _ hti hO2).grow g2, ok.ok _ (List.getElem_mem hio), g2.tab T tb, fun H3 g3 => ⟨true, rfl, iteF ?_⟩⟩
    obtain ⟨tl, h1, h2⟩ := (hts i t _ hti hO2).grow (g2.trans g3)
    refine ⟨.ref t, rfl, t, _, _, _, rfl, rfl, h1, atI_nat (j := 1) rfl, tl, _, rfl, .inr h2, ?_⟩
    refine ⟨_, _, _, rfl, .inr ?_, g2.trans g3⟩
    rw [List.length_map, (ok.ok _ (List.getElem_mem hio)).len]
  · rintro σ H1 ⟨mv, v1, v2, rfl, hmv, g⟩
    exact k H1 g

theorem scNeedPart : FnScope ["level"] ["level"] (defScope sNeedPart) := ⟨rfl, rfl, rfl, by decide +kernel, rfl, by decide +kernel, by decide +kernel⟩
structure LvlOk (a b : Int) : Prop where
  lo : 0 ≤ a
  lt : a < b
  hi : b ≤ 1000
  low : Int.gcd a b = 1
def spNeedPart (K : PySem.W.Frag) (T : Addr) : Sp := fun vs H Q _ => ∃ (t : Addr) (a b : Int), vs = [.ref t] ∧ SqT K H t (rt (a, b)) ∧ LvlOk a b ∧ GxR.TabG H T ∧ ∀ H', Grow H H' → Q .non H'
theorem ok_needpart {f T : Addr} {fd : FuncData} (D : Def K mg "need_part" sNeedPart ["level"] f fd) (B : Blt mg) (C : Cal P w K mg base "is_ratio" 1 ["value"] (spIsRatio K T)) : Cal P w K mg base "need_part" 2 ["level"] (spNeedPart K T) := by
  obtain ⟨f1, fd1, G, g1, k1, b1⟩ := C
  obtain ⟨tS, hS⟩ := B.cS
  refine D.cal (D.fn.ok scNeedPart (fun vs H Q E h => ?_) (fun cdv A outer s H vs Q E hr h => ?_))
  · obtain ⟨t, a, b, rfl, _⟩ := h
    rfl
  obtain ⟨t, a, b, rfl, ht, ok, tb, k⟩ := h
  refine ⟨_, pss_one (ps_if (PW.pt (pw_or (pt_not (pt_val (pe_call G hr (by rfl) g1 k1 b1 .nil pass0 (pa_cons (pv 0) pa_nil)))) (pw_or (pt_cmpR op_gt (px 0) (pe_glob (v := .int 1000) (by rfl) hS ⟨_, rfl⟩) (nomark _))
    (pw_or1 (pt_not (pt_chain op_le op_lt pe_int (px 0) (px 0))))))) (pss_one ps_never) pss_nil), ?_⟩
  have h1 := ok.lo
  have h2 := ok.lt
  have h3 := ok.hi
  refine ⟨.ref t, rfl, t, a, b, rfl, ht, by omega, ok.low, tb, fun H1 g => ⟨true, rfl, iteF ?_⟩⟩
  have ht1 := g.seqT ht
  refine ⟨.ref t, rfl, t, _, _, _, rfl, rfl, ht1, atI_nat (j := 1) rfl, b, 1000, rfl, rfl, false, ?_, iteF ?_⟩
  · show V.bl (decide ((1000 : Int) < b)) = V.bl false
    rw [decide_eq_false (by omega)]
  refine ⟨.ref t, rfl, t, _, _, _, rfl, rfl, ht1, atI_nat (j := 0) rfl, 0, a, rfl, rfl, true, ?_, iteT ⟨.ref t, rfl, t, _, _, _, rfl, rfl, ht1, atI_nat (j := 1) rfl, a, b, rfl, rfl, true, ?_, iteF ?_⟩⟩
  · show V.bl (decide ((0 : Int) ≤ a)) = V.bl true
    rw [decide_eq_true h1]
  · show V.bl (decide (a < b)) = V.bl true
    rw [decide_eq_true h2]
  exact k H1 g
end
end K45
/-! K45: need_members, everybody. -/
namespace K45
open PySem PySem.Spec PyProof.Rows L2
section
variable {X : Cx} {scope : Scope} {T : Addr}
theorem gf_it {pins : List (Addr × Obj)} {σ : L2.St} {H1 : Hp} {s1 : Shared} {C : Addr} {u : Value} {a : Addr} {xs : List V} {i : Int} {r : V} (I : Inv X pins σ H1 s1) (t : GxR.TabG H1 T) (h : SqT X.K H1 a xs) (e : atI xs i = some r) {x : Str} : ∀ s, GF s1 T C x u s → ∃ (xs : List V) (its : List Value), Vals xs its ∧ IsTup s.heap a its.toArray ∧ xs.length ≤ sizeLine ∧ atI xs i = some r := fun s f => by
  obtain ⟨its, h1, h2, h3⟩ := gf_tup I t h s f
  exact ⟨xs, its, h1, h2, h3, e⟩
/-- is_in(one, 0, len(outcomes[0][1]) - 1), outcomes captured from slot 0 -/
theorem el_mem {x y : Str} {p1 p2 p3 p4 p5 p6 p7 p8 p9 p10 p11 p12 : Pos} {j0 j1 j2 j3 : Nat} {f : Addr} {fd : FuncData} {k : Nat} (hr : Room (k + 1) X.A) (Df : Def X.K X.mg "is_in" sIsIn ["value", "least", "most"] f fd) (S : GenT X.env.scope scope x) (B : Blt X.mg)
    (k1 : scope.names.lookup ("is_in" : Str) = some .globalImplicit) (k2 : scope.names.lookup ("len" : Str) = some .globalImplicit) (hN : X.N[0]? = some y) (hv : X.env.scope.names.lookup y = some .cell ∨ X.env.scope.names.lookup y = some .free) (hl : scope.names.lookup y = some .free)
    (hcl : ∀ cells : List (Str × Addr), (cloFrom cells scope.names []).lookup y = some ((cells.lookup y).getD 0)) (hd : (x == ("__debug__" : Str)) = false := by decide) (hd2 : (y == ("__debug__" : Str)) = false := by decide) (hd3 : (y == ("__classdict__" : Str)) = false := by decide) :
    ElOk X scope x (.Call (.Name "is_in" p1) [.Name x p2, .Constant (.int 0) j0 p3, .BinOp (.Call (.Name "len" p4) [.Subscript (.Subscript (.Name y p5) (.Constant (.int 0) j1 p6) p7) (.Constant (.int 1) j2 p8) p9] [] p10) .Sub (.Constant (.int 1) j3 p11) p12] [] p12') T
      (fun σ H it r => ∃ (i : Int) (a t tl : Addr) (ts ls : List V) (wv : V), it = .int i ∧ σ[0]? = some (some (.ref a)) ∧ SqT X.K H a ts ∧ ts[0]? = some (.ref t) ∧ SqT X.K H t [wv, .ref tl] ∧ SqT X.K H tl ls ∧ 0 ≤ i ∧ i ≤ (ls.length : Int) - 1 ∧ r = .bl true) := by
  intro pins σ H1 s1 I tb C code u it r ru ⟨i, a, t, tl, ts, ls, wv, e1, hσ, ha, h0, ht, htl, lo, hi, e2⟩
  subst e1 e2
  have M := gf_md (C := C) (code := code) (u := u) I tb S
  have gc : GE X.prog X.w (genv X scope C code) (X.A.depth + 1) (X.A.units + 8) (GF s1 T C x u) (.Name y p5) (.ref a) := gf_cap I tb S hN hσ hv hl (hcl _) hd2 hd3
  have g1 := ge_item (pos := p7) M.stb gc (ge_int (i := 0) (j := j1) (pos := p6)) (fun _ _ => rfl) (gf_it (C := C) (u := u) (x := x) I tb ha (atI_nat (j := 0) h0))
  have g2 := ge_item (pos := p9) M.stb g1 (ge_int (i := 1) (j := j2) (pos := p8)) (fun _ _ => rfl) (gf_it (C := C) (u := u) (x := x) I tb ht (atI_nat (j := 1) rfl))
  have g3 := ge_len (n := ls.length) (p1 := p4) (pos := p10) M g2 k2 B.len (fun s f => by
    obtain ⟨its, rv, hT, hz⟩ := gf_tup I tb htl s f
    exact ⟨its, hT, rv.length.symm, hz⟩)
  exact ge_isin Df B M k1 (gf_x S ru hd) K45.ge_int (ge_sub M.stb g3 K45.ge_int) (by have := hr.dp; omega) lo hi
/-- members[k] >= members[k + 1], members captured from slot 1 -/
theorem el_asc {x y : Str} {p1 p2 p3 p4 p5 p6 p7 p8 p9 : Pos} {j0 : Nat} (S : GenT X.env.scope scope x) (hN : X.N[1]? = some y) (hv : X.env.scope.names.lookup y = some .cell ∨ X.env.scope.names.lookup y = some .free) (hl : scope.names.lookup y = some .free)
    (hcl : ∀ cells : List (Str × Addr), (cloFrom cells scope.names []).lookup y = some ((cells.lookup y).getD 0)) (hd : (x == ("__debug__" : Str)) = false := by decide) (hd2 : (y == ("__debug__" : Str)) = false := by decide) (hd3 : (y == ("__classdict__" : Str)) = false := by decide) :
    ElOk X scope x (.Compare (.Subscript (.Name y p1) (.Name x p2) p3) [.GtE] [.Subscript (.Name y p4) (.BinOp (.Name x p5) .Add (.Constant (.int 1) j0 p6) p7) p8] p9) T
      (fun σ H it r => ∃ (k : Nat) (a : Addr) (ns : List Int) (z1 z2 : Int), it = .int k ∧ σ[1]? = some (some (.ref a)) ∧ SqT X.K H a (ns.map V.int) ∧ ns[k]? = some z1 ∧ ns[k + 1]? = some z2 ∧ z1 < z2 ∧ r = .bl false) := by
  intro pins σ H1 s1 I tb C code u it r ru ⟨k, a, ns, z1, z2, e1, hσ, ha, h1, h2, lt, e2⟩
  subst e1 e2
  have M := gf_md (C := C) (code := code) (u := u) I tb S
  have gc : ∀ p, GE X.prog X.w (genv X scope C code) (X.A.depth + 1) (X.A.units + 8) (GF s1 T C x u) (.Name y p) (.ref a) := fun p => gf_cap I tb S hN hσ hv hl (hcl _) hd2 hd3
  have gx : ∀ p, GE X.prog X.w (genv X scope C code) (X.A.depth + 1) (X.A.units + 8) (GF s1 T C x u) (.Name x p) (.int k) := fun p => gf_x S ru hd
  have q1 : (ns.map V.int)[k]? = some (.int z1) := by rw [List.getElem?_map, h1]; rfl
  have q2 : (ns.map V.int)[k + 1]? = some (.int z2) := by rw [List.getElem?_map, h2]; rfl
  have g1 := ge_item (pos := p3) M.stb (gc p1) (gx p2) (fun _ _ => rfl) (gf_it (C := C) (u := u) (x := x) I tb ha (atI_nat (j := k) q1))
  have g2 := ge_item (pos := p8) M.stb (gc p4) (ge_add (pos := p7) M.stb (gx p5) (K45.ge_int (i := 1) (j := j0) (pos := p6))) (fun _ _ => rfl) (gf_it (C := C) (u := u) (x := x) (i := (k : Int) + 1) I tb ha (by
    have := atI_nat (j := k + 1) q2
    rw [← this]
    congr 1))
  have g3 := ge_ge (pos := p9) M.stb g1 g2
  rw [decide_eq_false (by omega)] at g3
  exact g3
end
section
variable {P : Program} {w : World} {K : PySem.W.Frag} {mg : Str → Option Value} {base : Heap}
theorem scNeedMembers : FnScope ["outcomes", "members"] ["outcomes", "members"] (defScope sNeedMembers) := ⟨rfl, rfl, rfl, by decide +kernel, rfl, by decide +kernel, by decide +kernel⟩
/-- a group: ascending places below m -/
structure GrpOk (m : Nat) (gs : List Nat) : Prop where
  ne : gs ≠ []
  lt : ∀ g ∈ gs, g < m
  asc : ∀ (i : Nat) (x y : Nat), gs[i]? = some x → gs[i + 1]? = some y → x < y
abbrev natV (gs : List Nat) : List V := (gs.map fun g : Nat => ((g : Nat) : Int)).map V.int
def spNeedMembers (K : PySem.W.Frag) (T : Addr) : Sp := fun vs H Q _ => ∃ (a c : Addr) (m : Nat) (os : List (Int × List Int)) (gs : List Nat), vs = [.ref a, .ref c] ∧ OutsAt K H a os ∧ OutsOk m os ∧ SqT K H c (natV gs) ∧ GrpOk m gs ∧ gs.length ≤ 4 ∧ GxR.TabG H T ∧ ∀ H', Grow H H' → Q .non H'
theorem ok_needmembers {f c T fi : Addr} {fd fdi : FuncData} (D : DefC K mg "need_members" sNeedMembers ["outcomes", "members"] f fd c) (Di : Def K mg "is_in" sIsIn ["value", "least", "most"] fi fdi) (TB : GxR.TabB base mg c T) (B : Blt mg) : Cal P w K mg base "need_members" 2 ["outcomes", "members"] (spNeedMembers K T) := by
  refine D.ok scNeedMembers (fun vs H Q E h => ?_) (fun A outer s H vs Q E hr h => ?_)
  · obtain ⟨a, c, m, os, gs, rfl, _⟩ := h
    rfl
  obtain ⟨a, cc, m, os, gs, rfl, hO, ok, hg, gok, g4, tb, k⟩ := h
  refine ⟨_, pss_cons (ps_if (PW.pt (pw_or (pt_not (pt_val (pe_isT B (pv 1)))) (pw_or1 (pt_not (pt_truth (pv 1) (by intro _; rfl)))))) (pss_one ps_never) pss_nil)
    (pss_cons (ps_if (pt_not (pt_val (pe_allT hr (by rfl) B.all TB rfl (show GenT (defScope sNeedMembers) _ _ from genT_by (by decide +kernel)) (pv 1) (el_mem hr Di (show GenT (defScope sNeedMembers) _ _ from genT_by (by decide +kernel)) B (by rfl) (by rfl) rfl (.inl rfl) rfl (fun _ => rfl))))) (pss_one ps_never) pss_nil)
    (pss_one (ps_if (pt_val (pe_anyR hr (by rfl) B.any TB rfl (show GenT (defScope sNeedMembers) _ _ from genT_by (by decide +kernel)) (prg_1 (by rfl) B.range (pe_op op_sub (pe_lenS B (pv 1)) pe_int)) (el_asc (show GenT (defScope sNeedMembers) _ _ from genT_by (by decide +kernel)) rfl (.inl rfl) rfl (fun _ => rfl)))) (pss_one ps_never) pss_nil))), ?_⟩
  obtain ⟨ts, ha, hl, hts⟩ := hO
  have n1 := ok.n1
  have e0 : (natV gs).isEmpty = false := by
    cases gs with
    | nil => exact absurd rfl gok.ne
    | cons x r => rfl
  refine ⟨.ref cc, rfl, tyT hg, true, rfl, iteF ⟨.ref cc, rfl, true, .inr (.inl ⟨_, hg, by rw [e0]; rfl⟩), iteF ?_⟩⟩
  -- all(..)
  have t0 : ∃ t, ts[0]? = some t := ⟨ts[0]'(by omega), List.getElem?_eq_getElem _⟩
  obtain ⟨t, ht0⟩ := t0
  have o0 : os[0]? = some (os[0]'(by omega)) := List.getElem?_eq_getElem _
  obtain ⟨tl, ht, htl⟩ := hts 0 t _ ht0 o0
  have hlen : ((os[0]'(by omega)).2.map V.int).length = m := by rw [List.length_map, (ok.ok _ (List.getElem_mem _)).len]
  refine ⟨.ref cc, rfl, cc, _, rfl, hg, tb, fun i y hy => ?_, fun H2 h2 => ?_⟩
  · obtain ⟨z, hz, rfl⟩ := at_map hy
    rw [List.getElem?_map] at hz
    cases e : gs[i]? with
    | none => rw [e] at hz; cases hz
    | some g =>
      rw [e] at hz
      cases hz
      have hlt := gok.lt g (List.mem_of_getElem? e)
      exact ⟨(g : Int), a, t, tl, _, _, _, rfl, rfl, ha, by rw [List.getElem?_map, ht0]; rfl, ht, htl, by omega, by rw [hlen]; omega, rfl⟩
  refine ⟨true, rfl, iteF ?_⟩
  have gr : Grow H H2 := .tabbed tb h2
  have hg2 := gr.seqT hg
  have gl : (natV gs).length = gs.length := by rw [List.length_map, List.length_map]
  have gpos : 1 ≤ gs.length := by
    cases gs with
    | nil => exact absurd rfl gok.ne
    | cons x r => simp
  refine ⟨.ref cc, rfl, cc, _, rfl, .inr hg2, _, 1, rfl, rfl, _, rfl, gs.length - 1, rfl, ?_, by omega, gr.tab T tb, fun i hi => ?_, fun H3 h3 => ?_⟩
  · show ((natV gs).length : Int) - 1 = ((gs.length - 1 : Nat) : Int)
    rw [gl]
    omega
  · have x1 : gs[i]? = some (gs[i]'(by omega)) := List.getElem?_eq_getElem _
    have x2 : gs[i + 1]? = some (gs[i + 1]'(by omega)) := List.getElem?_eq_getElem _
    have lt := gok.asc i _ _ x1 x2
    exact ⟨i, cc, (gs.map fun g : Nat => ((g : Nat) : Int)), _, _, rfl, rfl, hg2, by rw [List.getElem?_map, x1]; rfl, by rw [List.getElem?_map, x2]; rfl, Int.ofNat_lt.mpr lt, rfl⟩
  refine ⟨false, rfl, iteF ?_⟩
  exact k H3 (gr.trans (.tabbed (gr.tab T tb) h3))
end
end K45
/-! K45: everybody, sums_of. -/
namespace K45
open PySem PySem.Spec PyProof.Rows L2
section
variable {P : Program} {w : World} {K : PySem.W.Frag} {mg : Str → Option Value} {base : Heap}
theorem scEverybody : FnScope ["outcomes"] ["outcomes"] (defScope sEverybody) := ⟨rfl, rfl, rfl, by decide +kernel, rfl, by decide +kernel, by decide +kernel⟩
def spEvery (K : PySem.W.Frag) : Sp := fun vs H Q _ => ∃ (a : Addr) (m : Nat) (os : List (Int × List Int)), vs = [.ref a] ∧ OutsAt K H a os ∧ OutsOk m os ∧ ∀ p, H p = none → Q (.ref p) (upd H p (.tup (natV (List.range m))))
theorem rg_nat (m : Nat) : rgV 0 m = natV (List.range m) := by
  unfold rgV natV
  rw [List.map_map, show ((m : Int) - 0).toNat = m by omega]
  refine List.map_congr_left fun i _ => ?_
  show V.int (0 + (i : Int)) = V.int (i : Int)
  rw [Int.zero_add]
theorem OutsAt.first {H : Hp} {a : Addr} {os : List (Int × List Int)} {m : Nat} (h : OutsAt K H a os) (ok : OutsOk m os) : ∃ (ts : List V) (t tl : Addr) (wv : V) (ls : List V), SqT K H a ts ∧ ts[0]? = some (.ref t) ∧ SqT K H t [wv, .ref tl] ∧ SqT K H tl ls ∧ ls.length = m := by
  obtain ⟨ts, ha, hl, hts⟩ := h
  have n1 := ok.n1
  have ht0 : ts[0]? = some (ts[0]'(by omega)) := List.getElem?_eq_getElem _
  have o0 : os[0]? = some (os[0]'(by omega)) := List.getElem?_eq_getElem _
  obtain ⟨tl, ht, htl⟩ := hts 0 _ _ ht0 o0
  exact ⟨_, _, tl, _, _, ha, by rw [List.getElem?_map, ht0]; rfl, ht, htl, by rw [List.length_map, (ok.ok _ (List.getElem_mem _)).len]⟩
theorem ok_everybody {f : Addr} {fd : FuncData} (D : Def K mg "everybody" sEverybody ["outcomes"] f fd) (B : Blt mg) : Cal P w K mg base "everybody" 1 ["outcomes"] (spEvery K) := by
  refine D.cal (D.fn.ok scEverybody (fun vs H Q E h => ?_) (fun cdv A outer s H vs Q E hr h => ?_))
  · obtain ⟨a, m, os, rfl, _⟩ := h
    rfl
  obtain ⟨a, m, os, rfl, hO, ok, k⟩ := h
  obtain ⟨ts, t, tl, wv, ls, ha, h0, ht, htl, hlen⟩ := hO.first ok
  refine ⟨_, pss_one (ps_ret (pe_tupRg rfl (by rfl) B.tuple (prg_1 (by rfl) B.range (pe_lenS B (pe_ix ix_tup (px 0) pe_int (fun _ _ => rfl)))))), ?_⟩
  refine ⟨.ref a, rfl, a, _, _, _, rfl, rfl, ha, atI_nat (j := 0) h0, t, _, _, _, rfl, rfl, ht, atI_nat (j := 1) rfl, tl, _, rfl, .inr htl, _, rfl, ?_, fun p hp => ?_⟩
  · have := ok.m4
    rw [hlen]
    exact RgOk.of_le (by omega) (by omega) (by omega) (by omega)
  · rw [hlen, rg_nat]
    exact k p hp

/-! ### sums_of -/
def grpSum (gs : List Nat) (ls : List Int) : Int := sm gs.length fun j => ls.getD (gs.getD j 0) 0
theorem preSum_sm (f : Nat → Int) : ∀ n, preSum f n = sm n f
  | 0 => rfl
  | n + 1 => by
    show preSum f n + f n = sm n f + f n
    rw [preSum_sm f n]
theorem sm_bd {f : Nat → Int} {c : Int} : ∀ {n : Nat}, (∀ j, j < n → 0 ≤ f j ∧ f j ≤ c) → 0 ≤ sm n f ∧ sm n f ≤ n * c
  | 0, _ => by simp [sm]
  | n + 1, h => by
    have ih := sm_bd (n := n) fun j hj => h j (by omega)
    have := h n (by omega)
    show 0 ≤ sm n f + f n ∧ sm n f + f n ≤ ((n + 1 : Nat) : Int) * c
    have e : ((n + 1 : Nat) : Int) * c = n * c + c := by rw [Int.natCast_add, Int.add_mul]; simp
    omega
theorem getD_bd {m : Nat} {o : Int × List Int} (ok : OutOk m o) (i : Nat) : 0 ≤ o.2.getD i 0 ∧ o.2.getD i 0 ≤ 1000 := by
  rw [List.getD_eq_getElem?_getD]
  cases e : o.2[i]? with
  | none => exact ⟨by simp, by simp⟩
  | some z => exact ⟨ok.lo z (List.mem_of_getElem? e), ok.hi z (List.mem_of_getElem? e)⟩
theorem grp_bd {m : Nat} {o : Int × List Int} (ok : OutOk m o) {gs : List Nat} (h : gs.length ≤ 4) : 0 ≤ grpSum gs o.2 ∧ grpSum gs o.2 ≤ 4000 := by
  have := sm_bd (n := gs.length) (f := fun j => o.2.getD (gs.getD j 0) 0) (c := 1000) fun j _ => getD_bd ok _
  unfold grpSum
  omega
end
section
variable {X : Cx} {scope : Scope} {T : Addr}
/-- one[1][member], one captured from slot i -/
theorem el_get {K : PySem.W.Frag} (hK : X.K = K) {x y : Str} {i : Nat} {p1 p2 p3 p4 p5 : Pos} {j0 : Nat} (S : GenT X.env.scope scope x) (hN : X.N[i]? = some y) (hv : X.env.scope.names.lookup y = some .cell ∨ X.env.scope.names.lookup y = some .free) (hl : scope.names.lookup y = some .free)
    (hcl : ∀ cells : List (Str × Addr), (cloFrom cells scope.names []).lookup y = some ((cells.lookup y).getD 0)) (hd : (x == ("__debug__" : Str)) = false := by decide) (hd2 : (y == ("__debug__" : Str)) = false := by decide) (hd3 : (y == ("__classdict__" : Str)) = false := by decide) :
    ElOk X scope x (.Subscript (.Subscript (.Name y p1) (.Constant (.int 1) j0 p2) p3) (.Name x p4) p5) T
      (fun σ H it r => ∃ (t tl : Addr) (wv : V) (ls : List V) (k : Int), σ[i]? = some (some (.ref t)) ∧ SqT K H t [wv, .ref tl] ∧ SqT K H tl ls ∧ it = .int k ∧ atI ls k = some r) := by
  subst hK
  intro pins σ H1 s1 I tb C code u it r ru ⟨t, tl, wv, ls, k, hσ, ht, htl, e1, e2⟩
  subst e1
  have M := gf_md (C := C) (code := code) (u := u) I tb S
  have gc : GE X.prog X.w (genv X scope C code) (X.A.depth + 1) (X.A.units + 8) (GF s1 T C x u) (.Name y p1) (.ref t) := gf_cap I tb S hN hσ hv hl (hcl _) hd2 hd3
  have g1 := ge_item (pos := p3) M.stb gc (K45.ge_int (i := 1) (j := j0) (pos := p2)) (fun _ _ => rfl) (gf_it (C := C) (u := u) (x := x) I tb ht (atI_nat (j := 1) rfl))
  exact ge_item M.stb g1 (gf_x S ru hd) (fun _ _ => rfl) (gf_it (C := C) (u := u) (x := x) I tb htl e2)
/-- one[0] -/
theorem el_fst {x : Str} {p1 p2 p3 : Pos} {j0 : Nat} (S : GenT X.env.scope scope x) (hd : (x == ("__debug__" : Str)) = false := by decide) :
    ElOk X scope x (.Subscript (.Name x p1) (.Constant (.int 0) j0 p2) p3) T (fun σ H it r => ∃ (t : Addr) (v : V), it = .ref t ∧ SqT X.K H t [r, v]) := by
  intro pins σ H1 s1 I tb C code u it r ru ⟨t, v, e1, ht⟩
  subst e1
  have M := gf_md (C := C) (code := code) (u := u) I tb S
  exact ge_item M.stb (gf_x S ru hd) (K45.ge_int (i := 0) (j := j0) (pos := p2)) (fun _ _ => rfl) (gf_it (C := C) (u := u) (x := x) I tb ht (atI_nat (j := 0) rfl))
end
section
variable {P : Program} {w : World} {K : PySem.W.Frag} {mg : Str → Option Value} {base : Heap}
theorem scSumsOf : FnScope ["outcomes", "members", "one"] ["outcomes", "members"] (defScope sSumsOf) := ⟨rfl, rfl, rfl, by decide +kernel, rfl, by decide +kernel, by decide +kernel⟩
abbrev sumsV (gs : List Nat) (os : List (Int × List Int)) : List V := (os.map fun o => grpSum gs o.2).map V.int
def spSumsOf (K : PySem.W.Frag) (T : Addr) : Sp := fun vs H Q _ => ∃ (a c : Addr) (m : Nat) (os : List (Int × List Int)) (gs : List Nat), vs = [.ref a, .ref c] ∧ OutsAt K H a os ∧ OutsOk m os ∧ SqT K H c (natV gs) ∧ (∀ g ∈ gs, g < m) ∧ gs.length ≤ 4 ∧ GxR.TabG H T ∧
  ∀ p H', Grow H H' → H p = none → H' p = some (.lst (sumsV gs os)) → Q (.ref p) H'
theorem ok_sumsof {f c T : Addr} {fd : FuncData} (D : DefC K mg "sums_of" sSumsOf ["outcomes", "members"] f fd c) (TB : GxR.TabB base mg c T) (B : Blt mg) : Cal P w K mg base "sums_of" 1 ["outcomes", "members"] (spSumsOf K T) := by
  have nd := scSumsOf.nd
  refine D.ok scSumsOf (fun vs H Q E h => ?_) (fun A outer s H vs Q E hr h => ?_)
  · obtain ⟨a, c, m, os, gs, rfl, _⟩ := h
    rfl
  obtain ⟨a, cc, m, os, gs, rfl, ⟨ts, ha, hl, hts⟩, ok, hg, glt, g4, tb, k⟩ := h
  refine ⟨_, pss_one (ps_ret (pe_lc (own := [("one", 2)]) (g := gName 2) (tt := tYes) rfl nd (pi_tup (pv 0)) (blkOk_by (own := [("one", 2)]) (N := ["outcomes", "members", "one"]) (sc := defScope sSumsOf) (by decide +kernel))
    (fun _ _ _ _ _ => pg_name (i := 2) nd rfl (Or.inr rfl)) (fun _ _ _ _ _ => pts_nil) (fun _ _ _ _ _ => pe_sumT (K := K) rfl hr (by rfl) B.sum TB rfl (genT_by (by rfl)) (pv 1) (el_get (K := K) rfl (i := 2) (genT_by (by rfl)) rfl (.inl rfl) rfl (fun _ => rfl))))), ?_⟩
  refine ⟨.ref a, rfl, a, rfl, ⟨_, ha⟩, fun L nL => lc_tup (K := K) (a := a) (xs := ts.map V.ref) (fun i H' => Grow H H' ∧ H' L = some (.lst ((sumsV gs os).take i))) ⟨Grow.new nL, upd_same⟩ (fun i H' _ h => h.1.seqT ha) ?_ ?_⟩
  · rintro i y H' hy ⟨g, hL⟩
    obtain ⟨t, hti, rfl⟩ := at_map hy
    have hio : i < os.length := by
      rw [← hl]
      exact (List.getElem?_eq_some_iff.mp hti).1
    have hO2 : os[i]? = some os[i] := List.getElem?_eq_getElem hio
    have oki := ok.ok _ (List.getElem_mem hio)
    obtain ⟨tl, ht, htl⟩ := (hts i t _ hti hO2).grow g
    refine ⟨rfl, fun j => os[i].2.getD (gs.getD j 0) 0, .ref cc, rfl, cc, _, rfl, g.seqT hg, g.tab T tb, fun j z hz => ?_, fun j hj => ?_, fun H2 h2 => ?_⟩
    · obtain ⟨z', hz', rfl⟩ := at_map hz
      rw [List.getElem?_map] at hz'
      cases e : gs[j]? with
      | none => rw [e] at hz'; cases hz'
      | some q =>
        rw [e] at hz'
        cases hz'
        have hq := glt q (List.mem_of_getElem? e)
        have hq2 : q < os[i].2.length := by rw [oki.len]; exact hq
        refine ⟨t, tl, _, _, (q : Int), rfl, ht, htl, rfl, atI_nat (j := q) ?_⟩
        rw [List.getElem?_map, List.getElem?_eq_getElem hq2]
        have e2 : gs.getD j 0 = q := by rw [List.getD_eq_getElem?_getD, e]; rfl
        show some (V.int os[i].2[q]) = some (V.int (os[i].2.getD (gs.getD j 0) 0))
        rw [e2, List.getD_eq_getElem?_getD, List.getElem?_eq_getElem hq2]
        rfl
    · have jl : j < gs.length := by
        rw [List.length_map, List.length_map] at hj
        exact hj
      have b1 := getD_bd oki (gs.getD j 0)
      rw [preSum_sm]
      have b2 := sm_bd (n := j + 1) (f := fun j => os[i].2.getD (gs.getD j 0) 0) (c := 1000) fun j _ => getD_bd oki _
      unfold InLong
      dsimp only
      have : ((j + 1 : Nat) : Int) ≤ 4 := by omega
      constructor <;> constructor <;> omega
    · have g2 : Grow H H2 := g.trans (.tabbed (g.tab T tb) h2)
      have hL2 := (Grow.tabbed (g.tab T tb) h2).lst hL
      have el : (natV gs).length = gs.length := by rw [List.length_map, List.length_map]
      refine ⟨_, hL2, ?_, g2.wr nL (by rw [hL2]; exact fun z => by cases z), ?_⟩
      · rw [List.length_take]
        have := ok.n8
        exact small1000 (by rw [List.length_map, List.length_map]; omega)
      · rw [upd_same, List.take_add_one, el, preSum_sm]
        congr 2
        rw [List.getElem?_map, List.getElem?_map, hO2]
        rfl
  · rintro H' ⟨g, hL⟩
    refine k L H' g nL ?_
    rw [List.length_map, hl] at hL
    rw [hL, List.take_of_length_le (by rw [List.length_map, List.length_map]; omega)]
end
end K45
/-! K45: view_of: what it holds, the order. -/
namespace K45
open PySem PySem.Spec PyProof.Rows L2
/-! ### the same by places -/
def wt (os : List (Int × List Int)) (j : Nat) : Int := (os.getD j (0, [])).1
def gsm (gs : List Nat) (os : List (Int × List Int)) (j : Nat) : Int := grpSum gs (os.getD j (0, [])).2
def whl (os : List (Int × List Int)) : Int := sm os.length (wt os)
def capf (lb : Int) (os : List (Int × List Int)) (j : Nat) : Int := lb * wt os j
def den (la lb : Int) (os : List (Int × List Int)) : Int := (lb - la) * whl os
theorem getD_at {α : Type} {l : List α} {j : Nat} {d x : α} (h : l[j]? = some x) : l.getD j d = x := by
  rw [List.getD_eq_getElem?_getD, h]
  rfl
section
variable {m : Nat} {os : List (Int × List Int)} {la lb : Int}
theorem wt_bd (ok : OutsOk m os) {j : Nat} (h : j < os.length) : 1 ≤ wt os j ∧ wt os j ≤ 1000 := by
  have e : wt os j = os[j].1 := by
    unfold wt
    rw [getD_at (List.getElem?_eq_getElem h)]
  rw [e]
  exact ⟨(ok.ok _ (List.getElem_mem h)).w1, (ok.ok _ (List.getElem_mem h)).w2⟩
theorem whl_bd (ok : OutsOk m os) : 1 ≤ whl os ∧ whl os ≤ 8000 := by
  have a := sm_bd (n := os.length) (f := wt os) (c := 1000) fun j h => ⟨by have := wt_bd ok h; omega, (wt_bd ok h).2⟩
  have b : (os.length : Int) ≤ sm os.length (wt os) := by
    have := sm_le (n := os.length) (f := fun _ => 1) (g := wt os) fun j h => (wt_bd ok h).1
    rw [sm_const] at this
    omega
  have n1 := ok.n1
  have n8 := ok.n8
  unfold whl
  omega
theorem den_bd (ok : OutsOk m os) (lv : LvlOk la lb) : 0 < den la lb os ∧ den la lb os ≤ 8000000 := by
  obtain ⟨h1, h2⟩ := whl_bd ok
  have a := lv.lo
  have b := lv.lt
  have c := lv.hi
  unfold den
  constructor
  · exact Int.mul_pos (by omega) (by omega)
  · have := Int.mul_le_mul (a := lb - la) (c := 1000) (b := whl os) (d := 8000) (by omega) h2 (by omega) (by omega)
    omega
theorem cap_bd (ok : OutsOk m os) (lv : LvlOk la lb) {j : Nat} (h : j < os.length) : 0 < capf lb os j ∧ capf lb os j ≤ 1000000 := by
  obtain ⟨h1, h2⟩ := wt_bd ok h
  have a := lv.lo
  have b := lv.lt
  have c := lv.hi
  unfold capf
  constructor
  · exact Int.mul_pos (by omega) (by omega)
  · have := Int.mul_le_mul (a := lb) (c := 1000) (b := wt os j) (d := 1000) (by omega) h2 (by omega) (by omega)
    omega
theorem cap_sum : sm os.length (capf lb os) = lb * whl os := sm_mul
theorem den_le (ok : OutsOk m os) (lv : LvlOk la lb) : den la lb os ≤ sm os.length (capf lb os) := by
  rw [cap_sum]
  unfold den
  have := (whl_bd ok).1
  exact Int.mul_le_mul_of_nonneg_right (by have := lv.lo; omega) (by omega)
theorem gsm_bd (ok : OutsOk m os) {gs : List Nat} (g4 : gs.length ≤ 4) {j : Nat} (h : j < os.length) : 0 ≤ gsm gs os j ∧ gsm gs os j ≤ 4000 := by
  unfold gsm
  rw [getD_at (List.getElem?_eq_getElem h)]
  exact grp_bd (ok.ok _ (List.getElem_mem h)) g4
end
theorem Sm.of {x : Int} (h1 : -1000000000000 ≤ x) (h2 : x ≤ 1000000000000) : Sm x := by
  unfold Sm
  omega

/-! ### the order of the loop -/
structure OrdOk (n : Nat) (s : Nat → Int) (ord : List Nat) : Prop where
  nd : ord.Nodup
  mem : ∀ i, i ∈ ord ↔ i < n
  pw : ord.Pairwise (fun i j => s j ≤ s i)
theorem ord_of {n : Nat} {s : Nat → Int} {zs : List (Int × Int)} (hp : zs.Perm ((List.range n).map fun j : Nat => (0 - s j, (j : Int)))) (hs : zs.Pairwise fun x y => SrtO.lexB y x = false) :
    ∃ ord, OrdOk n s ord ∧ zs = ord.map (fun j : Nat => (0 - s j, (j : Int))) ∧ ord.length = n := by
  have mem : ∀ z ∈ zs, ∃ j, j < n ∧ z = (0 - s j, (j : Int)) := fun z hz => by
    obtain ⟨j, hj, e⟩ := List.mem_map.mp (hp.mem_iff.mp hz)
    exact ⟨j, List.mem_range.mp hj, e.symm⟩
  have back : zs = (zs.map fun z => z.2.toNat).map (fun j : Nat => (0 - s j, (j : Int))) := by
    rw [List.map_map]
    refine (List.map_id zs).symm.trans (List.map_congr_left fun z hz => ?_)
    obtain ⟨j, _, rfl⟩ := mem z hz
    rfl
  have perm : (zs.map fun z => z.2.toNat).Perm (List.range n) := by
    have h := hp.map (fun z : Int × Int => z.2.toNat)
    rw [List.map_map] at h
    have e : (List.range n).map ((fun z : Int × Int => z.2.toNat) ∘ fun j : Nat => (0 - s j, (j : Int))) = List.range n := by
      refine (List.map_congr_left (g := id) fun j _ => rfl).trans (List.map_id _)
    rw [e] at h
    exact h
  refine ⟨zs.map fun z => z.2.toNat, ⟨perm.nodup_iff.mpr List.nodup_range, fun i => by rw [perm.mem_iff, List.mem_range], ?_⟩, back, by rw [perm.length_eq, List.length_range]⟩
  rw [List.pairwise_map]
  refine hs.imp_of_mem fun {x y} hx hy h => ?_
  obtain ⟨i, _, rfl⟩ := mem x hx
  obtain ⟨j, _, rfl⟩ := mem y hy
  have h2 := SrtO.lexB_no.mp h
  show s j ≤ s i
  dsimp only at h2
  omega
/-- the pair that a value names in a heap -/
def pairOf (H : Hp) (x : V) : Int × Int := match x with
  | .ref p => (match H p with
    | some (.tup [.int a, .int b]) => (a, b)
    | _ => (0, 0))
  | _ => (0, 0)
theorem pairOf_at {H : Hp} {p : Addr} {a b : Int} (h : H p = some (.tup [.int a, .int b])) : pairOf H (.ref p) = (a, b) := by
  unfold pairOf
  dsimp only
  rw [h]
/-- one turn of the loop, bounds -/
theorem step_fst {cap : Nat → Int} {r : Int} {q : Nat → Int} {j : Nat} (h0 : 0 ≤ r) (hc : 0 < cap j) : 0 ≤ (step cap (r, q) j).1 ∧ (step cap (r, q) j).1 ≤ r := by
  show 0 ≤ r - (if r < cap j then r else cap j) ∧ r - (if r < cap j then r else cap j) ≤ r
  split <;> omega
def stat (cap : Nat → Int) (N : Int) (ord : List Nat) (i : Nat) : Int × (Nat → Int) := (ord.take i).foldl (step cap) (N, fun _ => 0)
theorem stat_next {cap : Nat → Int} {N : Int} {ord : List Nat} {i j : Nat} (h : ord[i]? = some j) : stat cap N ord (i + 1) = step cap (stat cap N ord i) j := by
  unfold stat
  rw [List.take_add_one, h, List.foldl_append]
  rfl
theorem stat_all {cap : Nat → Int} {N : Int} {ord : List Nat} : stat cap N ord ord.length = greedy cap N ord := by
  unfold stat greedy
  rw [List.take_length]
end K45
/-! K45: view_of. -/
namespace K45
open PySem PySem.Spec PyProof.Rows L2
section
variable {X : Cx}
theorem pg_tupK {K : PySem.W.Frag} (hK : X.K = K) {es : List Expr} {k n : Nat} {t : TGs} {pos : Pos} (hc : X.calm = true) (h : PGs X es t) (hn : (assignEach es X.env).length = n := by rfl) (hst : (assignEach es X.env).findIdx? (·.1) = none := by rfl) : PG X (.Tuple es k pos) (gTup K n t) := by
  subst hK
  exact pg_tup hc h hn hst
theorem ixT {K : PySem.W.Frag} (hK : X.K = K) : IxR X (rIxT K) := by
  subst hK
  exact ix_tup
theorem ixL {K : PySem.W.Frag} (hK : X.K = K) : IxR X (rIxL K) := by
  subst hK
  exact ix_list
end
theorem sqT_lst {K : PySem.W.Frag} {H : Hp} {t L : Addr} {xs ys zs : List V} (h : SqT K H t xs) (hL : H L = some (.lst ys)) : SqT K (upd H L (.lst zs)) t xs := by
  rcases h with (h | ⟨o, h⟩) | h
  · exact .inl (.inl (by rw [upd_ne (ne_of h hL (by intro z; cases z))]; exact h))
  · exact .inl (.inr ⟨o, by rw [upd_ne (ne_of h hL (by intro z; cases z))]; exact h⟩)
  · exact .inr h
section
variable {P : Program} {w : World} {K : PySem.W.Frag} {mg : Str → Option Value} {base : Heap}
/-- a list of ours that holds ratios -/
def RatsM (K : PySem.W.Frag) (H : Hp) (l : Addr) (m : Nat) (xs : Nat → Int) (n : Int) : Prop := ∃ ts : List Addr, ts.length = m ∧ H l = some (.lst (ts.map V.ref)) ∧ ∀ (i : Nat) (t : Addr), ts[i]? = some t → SqT K H t (rt (rat (xs i) n))
theorem RatsM.rats {H : Hp} {l : Addr} {m : Nat} {xs : Nat → Int} {n : Int} (h : RatsM K H l m xs n) : Rats K H l m xs n := by
  obtain ⟨ts, h1, h2, h3⟩ := h
  exact ⟨ts, h1, .inl (.inl h2), h3⟩
abbrev NV : List Str := ["outcomes", "members", "level", "whole", "sums", "at", "size", "order", "rest", "top", "found", "most", "one"]
theorem scViewOf : FnScope NV ["outcomes", "members", "level"] (defScope sViewOf) := ⟨rfl, rfl, rfl, by decide +kernel, rfl, by decide +kernel, by decide +kernel⟩
def spViewOf (K : PySem.W.Frag) (T1 T2 : Addr) : Sp := fun vs H Q _ => ∃ (a c t : Addr) (m : Nat) (os : List (Int × List Int)) (gs : List Nat) (la lb : Int), vs = [.ref a, .ref c, .ref t] ∧ OutsAt K H a os ∧ OutsOk m os ∧ SqT K H c (natV gs) ∧ (∀ g ∈ gs, g < m) ∧ gs.length ≤ 4 ∧
  SqT K H t (rt (la, lb)) ∧ LvlOk la lb ∧ GxR.TabG H T1 ∧ GxR.TabG H T2 ∧
  ∀ p H' ord, Grow H H' → H p = none → OrdOk os.length (gsm gs os) ord → RatsM K H' p os.length (greedy (capf lb os) (den la lb os) ord).2 (den la lb os) → Q (.ref p) H'
theorem ok_viewof {f c T1 T2 : Addr} {fd : FuncData} (D : DefC K mg "view_of" sViewOf ["outcomes", "members", "level"] f fd c) (TB : GxR.TabB base mg c T2) (B : Blt mg)
    (Cs : Cal P w K mg base "sums_of" 1 ["outcomes", "members"] (spSumsOf K T1)) (Cr : Cal P w K mg base "ratio" 1 ["top", "bottom"] spRatio) (Cm : Cal P w K mg base "minus" 2 ["one", "other"] (spMinus K)) (Cb : Cal P w K mg base "by" 2 ["one", "other"] (spBy K))
    (Co : Cal P w K mg base "over" 2 ["one", "other"] (spOver K)) (Cl : Cal P w K mg base "less" 1 ["one", "other"] (spLess K)) : Cal P w K mg base "view_of" 3 ["outcomes", "members", "level"] (spViewOf K T1 T2) := by
  obtain ⟨fs, fds, Gs, gss, ks, bs⟩ := Cs
  obtain ⟨fr, fdr, Gr, gr, kr, br⟩ := Cr
  obtain ⟨fm, fdm, Gm, gm, km, bm⟩ := Cm
  obtain ⟨fb, fdb, Gb, gb, kb, bb⟩ := Cb
  obtain ⟨fo, fdo, Go, go, ko, bo⟩ := Co
  obtain ⟨fl, fdl, Gl, gl, kl, bl⟩ := Cl
  have nd := scViewOf.nd
  refine D.ok scViewOf (fun vs H Q E h => ?_) (fun A outer s H vs Q E hr h => ?_)
  · obtain ⟨a, c, t, m, os, gs, la, lb, rfl, _⟩ := h
    rfl
  obtain ⟨a, cc, t, m, os, gs, la, lb, rfl, hO, ok, hg, glt, g4, ht, lv, tb1, tb2, k⟩ := h
  have hr1 : Room 1 _ := hr.mono (by decide)
  refine ⟨_, pss_cons (ps_par (i := 3) (j := 4) rfl nd rfl rfl (by decide) rfl rfl (pa_cons (pe_sumT (K := K) rfl hr (by rfl) B.sum TB rfl (show GenT (defScope sViewOf) _ _ from genT_by (by decide +kernel)) (pv 0) (el_fst (show GenT (defScope sViewOf) _ _ from genT_by (by decide +kernel))))
      (pa_cons (pe_call Gs hr1 (by rfl) gss ks bs .nil pass0 (pa_cons (pv 0) (pa_cons (pv 1) pa_nil))) pa_nil)) (by rfl))
    (pss_cons (ps_set (i := 7) nd rfl (.inl rfl) (pe_callB cr_sortedPO (by rfl) B.sorted (by decide +kernel) (pa_cons
      (pe_lc (own := [("at", 5), ("size", 6)]) (tt := tYes) rfl nd (pi_enum (by rfl) B.enum (pa_cons (pv 4) pa_nil)) (blkOk_by (own := [("at", 5), ("size", 6)]) (N := NV) (sc := defScope sViewOf) (by decide +kernel))
        (fun _ _ _ _ _ => pg_tupK (K := K) (n := 2) rfl rfl (pgs_cons (pg_name (i := 5) nd rfl (Or.inl rfl)) (pgs_cons (pg_name (i := 6) nd rfl (Or.inl rfl)) pgs_nil))) (fun _ _ _ _ _ => pts_nil)
        (fun _ _ _ _ _ => pe_tup (pa_cons (pe_op op_sub pe_int (pv 6)) (pa_cons (pv 5) pa_nil)))) pa_nil)))
    (pss_cons (ps_par3 (i := 8) (j := 9) (l := 10) rfl nd rfl rfl rfl (by decide) (by decide) (by decide) rfl rfl rfl (pa_cons (pe_tup (pa_cons pe_int (pa_cons pe_int pa_nil)))
      (pa_cons (pe_call Go hr (by rfl) go ko bo .nil pass0 (pa_cons (pe_tup (pa_cons pe_int (pa_cons pe_int pa_nil))) (pa_cons (pe_call Gm hr (by rfl) gm km bm .nil pass0 (pa_cons (pe_tup (pa_cons pe_int (pa_cons pe_int pa_nil))) (pa_cons (pv 2) pa_nil))) pa_nil)))
      (pa_cons (pe_lc (own := [("one", 12)]) (g := gName 12) (tt := tYes) rfl nd (pi_tup (pv 0)) (blkOk_by (own := [("one", 12)]) (N := NV) (sc := defScope sViewOf) (by decide +kernel)) (fun _ _ _ _ _ => pg_name (i := 12) nd rfl (Or.inl rfl)) (fun _ _ _ _ _ => pts_nil)
        (fun _ _ _ _ _ => pe_tup (pa_cons pe_int (pa_cons pe_int pa_nil)))) pa_nil))) (by rfl))
    (pss_cons (ps_for PassesOwn.never rfl (pi_list (pv 7)) (pg_tup rfl (pgs_cons (pg_name (i := 6) nd rfl (.inl rfl)) (pgs_cons (pg_name (i := 5) nd rfl (.inl rfl)) pgs_nil)))
      (pss_cons (ps_set (i := 11) nd rfl (.inl rfl) (pe_call Gb hr (by rfl) gb kb bb .nil pass0 (pa_cons (pv 9) (pa_cons (pe_call Gr hr1 (by rfl) gr kr br .nil pass0 (pa_cons (pe_ix ix_tup (pe_ix ix_tup (pv 0) (pv 5) (fun _ _ => rfl)) pe_int (fun _ _ => rfl)) (pa_cons (pv 3) pa_nil))) pa_nil))))
      (pss_cons (ps_asg (pe_ifExp (pt_val (pe_call Gl hr1 (by rfl) gl kl bl .nil pass0 (pa_cons (pv 8) (pa_cons (pv 11) pa_nil)))) (pv 8) (pv 11)) (pg_sub (pv 10) (pv 5) set_list))
      (pss_one (ps_set (i := 8) nd rfl (.inl rfl) (pe_call Gm hr (by rfl) gm km bm .nil pass0 (pa_cons (pv 8) (pa_cons (pe_ix ix_list (pv 10) (pv 5) (fun _ _ => rfl)) pa_nil))))))))
    (pss_one (ps_ret (pv 10)))))), ?_⟩
  obtain ⟨ts, ha, hl, hts⟩ := id hO
  have lo0 := lv.lo
  have lo1 := lv.lt
  have lo2 := lv.hi
  obtain ⟨w1, w2⟩ := whl_bd ok
  obtain ⟨d1, d2⟩ := den_bd ok lv
  have n8 := ok.n8
  have lenT : (ts.map V.ref).length = os.length := by rw [List.length_map, hl]
  -- whole
  refine ⟨wt os, .ref a, rfl, a, _, rfl, ha, tb2, fun i y hy => ?_, fun j hj => ?_, fun H1 h1 => ?_⟩
  · obtain ⟨x, hx, rfl⟩ := at_map hy
    have hio : i < os.length := by
      rw [← hl]
      exact (List.getElem?_eq_some_iff.mp hx).1
    have hO2 : os[i]? = some os[i] := List.getElem?_eq_getElem hio
    obtain ⟨tl, q1, q2⟩ := hts i x _ hx hO2
    refine ⟨x, .ref tl, rfl, ?_⟩
    have e : wt os i = os[i].1 := by
      unfold wt
      rw [getD_at hO2]
    rw [e]
    exact q1
  · rw [lenT] at hj
    have b1 := wt_bd ok hj
    rw [preSum_sm]
    have b2 := sm_bd (n := j + 1) (f := wt os) (c := 1000) fun q hq => by
      have := wt_bd ok (show q < os.length by omega)
      omega
    unfold InLong
    have : ((j + 1 : Nat) : Int) ≤ 8 := by omega
    constructor <;> constructor <;> omega
  have g1 : Grow H H1 := .tabbed tb2 h1
  have eW : preSum (wt os) (ts.map V.ref).length = whl os := by
    rw [preSum_sm, lenT]
    rfl
  -- sums
  refine ⟨.ref a, rfl, .ref cc, rfl, a, cc, m, os, gs, rfl, hO.grow g1, ok, g1.seqT hg, glt, g4, g1.tab T1 tb1, fun S H2 g2 nS hS => ?_⟩
  have G2 : Grow H H2 := g1.trans g2
  rw [eW]
  refine ⟨_, _, rfl, ?_⟩
  have eS : ∀ (j : Nat), j < os.length → (sumsV gs os)[j]? = some (.int (gsm gs os j)) := fun j hj => by
    rw [List.getElem?_map, List.getElem?_map, List.getElem?_eq_getElem hj]
    unfold gsm
    rw [getD_at (List.getElem?_eq_getElem hj)]
    rfl
  have lenS : (sumsV gs os).length = os.length := by rw [List.length_map, List.length_map]
  -- the pairs
  refine ⟨.ref S, rfl, S, _, rfl, .inl (.inl hS), fun D nD => lc_any (n := os.length) (fun i H' => Grow H2 H' ∧ ∃ ps : List Addr, ps.length = i ∧ H' D = some (.lst (ps.map V.ref)) ∧ ∀ (j : Nat) (p : Addr), ps[j]? = some p → H' p = some (.tup [.int (0 - gsm gs os j), .int (j : Nat)]))
    ⟨Grow.new nD, [], rfl, upd_same, fun j p hp => by simp at hp⟩ (fun i H' hi h => ⟨_, _, h.1.seqL (.inl (.inl hS)), eS i hi⟩) (fun H' h => ⟨_, h.1.seqL (.inl (.inl hS)), Nat.le_of_eq lenS⟩) ?_ ?_⟩
  · rintro i v Hb Hc hi ⟨g, ps, el, hD, hps⟩ ⟨T0, x, rfl, nT, rfl, hx⟩
    have ex := hx _ (g.seqL (.inl (.inl hS)))
    rw [eS i hi] at ex
    cases ex
    have gT : Grow Hb (upd Hb T0 (.tup [.int (i : Nat), .int (gsm gs os i)])) := Grow.new nT
    refine ⟨T0, _, rfl, .inl (.inl upd_same), rfl, .int (i : Nat), [.int (gsm gs os i)], rfl, .int (gsm gs os i), [], rfl, rfl, rfl, ?_⟩
    refine ⟨_, rfl, 0, gsm gs os i, rfl, rfl, _, rfl, (by show 2 ≤ sizeLine; decide), fun p np => ?_⟩
    have gp := gT.trans (Grow.new (o := .tup [.int (0 - gsm gs os i), .int (i : Nat)]) np)
    have hD2 := gp.lst hD
    refine ⟨_, hD2, by rw [List.length_map]; exact small1000 (by omega), (g.trans gp).wr nD (by rw [hD2]; exact fun z => by cases z), ps ++ [p], by simp [el], ?_, fun j q hq => ?_⟩
    · rw [upd_same, List.map_append]
      rfl
    · rcases Nat.lt_or_ge j ps.length with hj | hj
      · rw [List.getElem?_append_left hj] at hq
        have e := gp.tup (hps j q hq)
        rw [upd_ne (ne_of e hD2 (by intro z; cases z))]
        exact e
      · rw [List.getElem?_append_right hj] at hq
        have ej : j - ps.length = 0 := by
          have := (List.getElem?_eq_some_iff.mp hq).1
          simp at this
          omega
        rw [ej] at hq
        have eq : p = q := by simpa using hq
        subst eq
        have ej2 : j = i := by omega
        subst ej2
        have e : upd (upd Hb T0 (.tup [.int (j : Nat), .int (gsm gs os j)])) p (.tup [.int (0 - gsm gs os j), .int (j : Nat)]) p = some (.tup [.int (0 - gsm gs os j), .int (j : Nat)]) := upd_same
        rw [upd_ne (ne_of e hD2 (by intro z; cases z))]
        exact e
  rintro H3 ⟨g3, ps, el, hD, hps⟩
  have G3 : Grow H H3 := G2.trans g3
  -- sorted
  have kx : ∀ x ∈ ps.map V.ref, ∃ t, x = V.ref t ∧ H3 t = some (.tup [.int (pairOf H3 x).1, .int (pairOf H3 x).2]) := fun x hx => by
    obtain ⟨p, hp, rfl⟩ := List.mem_map.mp hx
    obtain ⟨j, hj, e⟩ := List.getElem_of_mem hp
    have h := hps j p (by rw [List.getElem?_eq_getElem hj, e])
    exact ⟨p, rfl, by rw [pairOf_at h]; exact h⟩
  refine ⟨D, ps.map V.ref, pairOf H3, rfl, .inl (.inl hD), kx, fun ys O srt stb nO => ?_⟩
  have pm : (ys.map (pairOf H3)).Perm ((List.range os.length).map fun j : Nat => (0 - gsm gs os j, (j : Int))) := by
    have h := stb.perm.map (pairOf H3)
    have e : (ps.map V.ref).map (pairOf H3) = (List.range os.length).map fun j : Nat => (0 - gsm gs os j, (j : Int)) := by
      refine List.ext_getElem? fun j => ?_
      rw [List.getElem?_map, List.getElem?_map, List.getElem?_map]
      rcases Nat.lt_or_ge j os.length with hj | hj
      · have hp : ps[j]? = some (ps[j]'(by omega)) := List.getElem?_eq_getElem _
        rw [hp, List.getElem?_eq_getElem (by simpa using hj)]
        show some (pairOf H3 (V.ref ps[j])) = some _
        rw [pairOf_at (hps j _ hp), List.getElem_range]
      · rw [List.getElem?_eq_none (by omega), List.getElem?_eq_none (by simpa using hj)]
        rfl
    rw [e] at h
    exact h
  obtain ⟨ord, oo, ezs, lo⟩ := ord_of pm (by
    rw [List.pairwise_map]
    exact srt)
  have yat : ∀ (i : Nat) (y : V), ys[i]? = some y → ∃ (j : Nat) (p : Addr), ord[i]? = some j ∧ j < os.length ∧ y = .ref p ∧ H3 p = some (.tup [.int (0 - gsm gs os j), .int (j : Nat)]) := fun i y hy => by
    have h1 : (ys.map (pairOf H3))[i]? = some (pairOf H3 y) := by
      rw [List.getElem?_map, hy]
      rfl
    rw [ezs, List.getElem?_map] at h1
    cases e : ord[i]? with
    | none => rw [e] at h1; cases h1
    | some j =>
      rw [e] at h1
      have h2 : ((0 - gsm gs os j, (j : Int)) : Int × Int) = pairOf H3 y := Option.some.inj h1
      obtain ⟨p, rfl, hp⟩ := kx y (stb.perm.mem_iff.mp (List.mem_of_getElem? hy))
      rw [← h2] at hp
      exact ⟨j, p, rfl, (oo.mem j).mp (List.mem_of_getElem? e), rfl, hp⟩
  have leny : ys.length = os.length := by
    have := congrArg List.length ezs
    rw [List.length_map, List.length_map, lo] at this
    exact this
  -- rest, top, found
  have g4' : Grow H3 (upd H3 O (.lst ys)) := Grow.new nO
  generalize hH4 : upd H3 O (.lst ys) = H4 at g4'
  have hO4 : H4 O = some (.lst ys) := by rw [← hH4, upd_same]
  refine ⟨(by show 2 ≤ sizeLine; decide), fun pr npr => ⟨(by show 2 ≤ sizeLine; decide), fun p1 np1 => ⟨(by show 2 ≤ sizeLine; decide), fun p2 np2 => ?_⟩⟩⟩
  have gA := (Grow.new (o := .tup [.int 1, .int 1]) npr)
  have gB := gA.trans (Grow.new (o := .tup [.int 1, .int 1]) np1)
  have gC := gB.trans (Grow.new (o := .tup [.int 1, .int 1]) np2)
  generalize hHB : upd (upd H4 pr (.tup [.int 1, .int 1])) p1 (.tup [.int 1, .int 1]) = HB at gB gC np2
  have e1 : ∀ n : Int, 0 < n → rt (rat n n) = [.int 1, .int 1] := fun n h => by
    rw [rat_same h]
    rfl
  have hp1 : HB p1 = some (.tup [.int 1, .int 1]) := by rw [← hHB, upd_same]
  have hpr : HB pr = some (.tup [.int 1, .int 1]) := by
    rw [← hHB, upd_ne (ne_of_none upd_same np1), upd_same]
  generalize hHC : upd HB p2 (.tup [.int 1, .int 1]) = HC at gC
  have gBC : Grow HB HC := by rw [← hHC]; exact Grow.new np2
  have hp2 : HC p2 = some (.tup [.int 1, .int 1]) := by rw [← hHC, upd_same]
  have GC : Grow H HC := G3.trans (g4'.trans gC)
  refine ⟨.ref t, rfl, p2, t, lb, lb, la, lb, rfl, .inl (.inl (by rw [e1 lb (by omega)]; exact hp2)), by rw [rat_self lv.low]; exact GC.seqT ht, by omega, by omega, .of (by omega) (by omega), .of (by omega) (by omega), .of (by omega) (by omega), .of (by omega) (by omega), rfl, fun p3 np3 => ?_⟩
  have gD := Grow.new (o := .tup (rt (rat (lb - la) lb))) np3
  refine ⟨p1, p3, 1, 1, lb - la, lb, rfl, .inl (.inl (by rw [e1 1 (by omega)]; exact gD.tup (gBC.tup hp1))), tup_new, by omega, by omega, .of (by omega) (by omega), .of (by omega) (by omega), .of (by omega) (by omega), .of (by omega) (by omega), by omega, fun tp ntp => ?_⟩
  have gE := gD.trans (Grow.new (o := .tup (rt (rat (1 * lb) (1 * (lb - la))))) ntp)
  generalize hHE : upd (upd HC p3 (.tup (rt (rat (lb - la) lb)))) tp (.tup (rt (rat (1 * lb) (1 * (lb - la))))) = HE at gE
  have htp : HE tp = some (.tup (rt (rat lb (lb - la)))) := by rw [← hHE, upd_same, Int.one_mul, Int.one_mul]
  have GE' : Grow H HE := GC.trans gE
  have hprE : HE pr = some (.tup [.int 1, .int 1]) := gE.tup (gBC.tup hpr)
  have hOE : HE O = some (.lst ys) := gE.lst (gC.lst hO4)
  have ysE : ∀ (i : Nat) (y : V), ys[i]? = some y → ∃ (j : Nat) (p : Addr), ord[i]? = some j ∧ j < os.length ∧ y = .ref p ∧ HE p = some (.tup [.int (0 - gsm gs os j), .int (j : Nat)]) := fun i y hy => by
    obtain ⟨j, p, q1, q2, q3, q4⟩ := yat i y hy
    exact ⟨j, p, q1, q2, q3, gE.tup (gC.tup (g4'.tup q4))⟩
  -- found
  refine ⟨.ref a, rfl, a, rfl, ⟨_, GE'.seqT ha⟩, fun L nL => lc_tup (K := K) (a := a) (xs := ts.map V.ref) (fun i H' => Grow HE H' ∧ RatsM K H' L i (fun _ => 0) (den la lb os)) ⟨Grow.new nL, [], rfl, upd_same, fun j q hq => by simp at hq⟩ (fun i H' _ h => h.1.seqT (GE'.seqT ha)) ?_ ?_⟩
  · rintro i y H' hy ⟨g, rs, er, hL, hrs⟩
    have hi : i < os.length := by
      rw [← lenT]
      exact (List.getElem?_eq_some_iff.mp hy).1
    refine ⟨rfl, (by show 2 ≤ sizeLine; decide), fun p np => ?_⟩
    have gp := Grow.new (o := .tup [.int 0, .int 1]) np
    have hL2 := gp.lst hL
    refine ⟨_, hL2, by rw [List.length_map]; exact small1000 (by omega), (g.trans gp).wr nL (by rw [hL2]; exact fun z => by cases z), rs ++ [p], by simp [er], by rw [upd_same, List.map_append]; rfl, fun j q hq => ?_⟩
    rcases Nat.lt_or_ge j rs.length with hj | hj
    · rw [List.getElem?_append_left hj] at hq
      exact sqT_lst (gp.seqT (hrs j q hq)) hL2
    · rw [List.getElem?_append_right hj] at hq
      have ej : j - rs.length = 0 := by
        have := (List.getElem?_eq_some_iff.mp hq).1
        simp at this
        omega
      rw [ej] at hq
      have eq : p = q := by simpa using hq
      subst eq
      refine sqT_lst ?_ hL2
      rw [rat_zero d1]
      exact tup_new
  rintro H5 ⟨g5, hRM⟩
  rw [lenT] at hRM
  refine ⟨_, _, _, rfl, ?_⟩
  have stb0 : ∀ i, i ≤ os.length → 0 ≤ (stat (capf lb os) (den la lb os) ord i).1 ∧ (stat (capf lb os) (den la lb os) ord i).1 ≤ den la lb os := fun i => by
    induction i with
    | zero => exact fun _ => ⟨by show 0 ≤ den la lb os; omega, Int.le_refl _⟩
    | succ i ih =>
      intro hi
      have h := ih (by omega)
      have ho : ord[i]? = some (ord[i]'(by omega)) := List.getElem?_eq_getElem _
      rw [stat_next ho]
      have hj := (oo.mem _).mp (List.mem_of_getElem? ho)
      have := step_fst (q := (stat (capf lb os) (den la lb os) ord i).2) h.1 (cap_bd ok lv hj).1
      exact ⟨this.1, Int.le_trans this.2 h.2⟩
  refine ⟨.ref O, rfl, O, rfl, ⟨_, .inl (.inl (g5.lst hOE))⟩, for_list (K := K) (a := O) (xs := ys) (fun i σ H' => ∃ (pr : Addr) (v5 v6 v11 : Option V), σ = [some (.ref a), some (.ref cc), some (.ref t), some (.int (whl os)), some (.ref S), v5, v6, some (.ref O), some (.ref pr), some (.ref tp), some (.ref L), v11, none] ∧
      Grow HE H' ∧ SqT K H' pr (rt (rat (stat (capf lb os) (den la lb os) ord i).1 (den la lb os))) ∧ RatsM K H' L os.length (stat (capf lb os) (den la lb os) ord i).2 (den la lb os))
    ⟨pr, none, none, none, rfl, g5, ?_, hRM⟩ (fun i σ H' _ ⟨_, _, _, _, _, g, _⟩ => .inl (.inl (g.lst hOE))) ?_ ?_⟩
  · show SqT K H5 pr (rt (rat (den la lb os) (den la lb os)))
    rw [e1 _ d1]
    exact .inl (.inl (g5.tup hprE))
  · rintro i y σ H6 hy ⟨pr6, v5, v6, v11, rfl, g6, hR6, rs, er, hL6, hrs⟩
    obtain ⟨j, p, hoj, hjn, rfl, hp⟩ := ysE i y hy
    have hin : i < os.length := by
      rw [← leny]
      exact (List.getElem?_eq_some_iff.mp hy).1
    obtain ⟨R0, R1⟩ := stb0 i (by omega)
    obtain ⟨c0, c1⟩ := cap_bd ok lv hjn
    obtain ⟨wj1, wj2⟩ := wt_bd ok hjn
    have hO2 : os[j]? = some os[j] := List.getElem?_eq_getElem hjn
    have htj : ts[j]? = some (ts[j]'(by omega)) := List.getElem?_eq_getElem _
    have G6 : Grow H H6 := GE'.trans g6
    obtain ⟨tl, q1, q2⟩ := (hts j _ _ htj hO2).grow G6
    have ewj : os[j].1 = wt os j := by
      unfold wt
      rw [getD_at hO2]
    rw [ewj] at q1
    generalize hR : (stat (capf lb os) (den la lb os) ord i).1 = R at hR6 R0 R1
    generalize hq : (stat (capf lb os) (den la lb os) ord i).2 = q at hrs
    refine ⟨p, _, rfl, .inl (.inl (g6.tup hp)), rfl, .int (0 - gsm gs os j), [.int (j : Nat)], rfl, .int (j : Nat), [], rfl, rfl, ?_⟩
    -- most
    refine ⟨.ref tp, rfl, .ref a, rfl, .int (j : Nat), rfl, a, _, _, _, rfl, rfl, G6.seqT ha, atI_nat (j := j) (by rw [List.getElem?_map, htj]; rfl), _, _, _, _, rfl, rfl, q1, atI_nat (j := 0) rfl, .int (whl os), rfl, wt os j, whl os, rfl, by omega, ?_, fun p7 np7 => ?_⟩
    · unfold big
      have : (whl os).natAbs ≤ 8000 := by omega
      exact Nat.lt_of_le_of_lt this (by decide +kernel)
    refine ⟨tp, p7, lb, lb - la, wt os j, whl os, rfl, .inl (.inl ((Grow.new np7).tup (g6.tup htp))), tup_new, by omega, by omega, .of (by omega) (by omega), .of (by omega) (by omega), .of (by omega) (by omega), .of (by omega) (by omega), trivial, fun p8 np8 => ?_⟩
    have g8 := (Grow.new (o := .tup (rt (rat (wt os j) (whl os)))) np7).trans (Grow.new (o := .tup (rt (rat (lb * wt os j) ((lb - la) * whl os)))) np8)
    generalize hH8 : upd (upd H6 p7 (.tup (rt (rat (wt os j) (whl os))))) p8 (.tup (rt (rat (lb * wt os j) ((lb - la) * whl os)))) = H8 at g8
    have hp8 : H8 p8 = some (.tup (rt (rat (capf lb os j) (den la lb os)))) := by rw [← hH8, upd_same]; rfl
    have hR8 := g8.seqT hR6
    have hL8 := g8.lst hL6
    -- the rest of the turn, with what is put at found[at]
    have go2 : ∀ (px : Addr), SqT K H8 px (rt (rat (if R < capf lb os j then R else capf lb os j) (den la lb os))) → ∀ (Nx : L2.St → Hp → Prop),
        (∀ (p9 : Addr) (H9 : Hp), Grow HE H9 → SqT K H9 p9 (rt (rat (stat (capf lb os) (den la lb os) ord (i + 1)).1 (den la lb os))) → RatsM K H9 L os.length (stat (capf lb os) (den la lb os) ord (i + 1)).2 (den la lb os) →
          Nx [some (.ref a), some (.ref cc), some (.ref t), some (.int (whl os)), some (.ref S), some (.int (j : Nat)), some (.int (0 - gsm gs os j)), some (.ref O), some (.ref p9), some (.ref tp), some (.ref L), some (.ref p8), none] H9) →
        tCall (spMinus K) [] E0 (tCons (tVar 8) (tCons (tOp (rIxL K) (tVar 10) (tVar 5)) tNil)) [some (.ref a), some (.ref cc), some (.ref t), some (.int (whl os)), some (.ref S), some (.int (j : Nat)), some (.int (0 - gsm gs os j)), some (.ref O), some (.ref pr6), some (.ref tp), some (.ref L), some (.ref p8), none]
          (upd H8 L (.lst ((rs.map V.ref).set j (.ref px)))) fun v H9 => Nx [some (.ref a), some (.ref cc), some (.ref t), some (.int (whl os)), some (.ref S), some (.int (j : Nat)), some (.int (0 - gsm gs os j)), some (.ref O), some v, some (.ref tp), some (.ref L), some (.ref p8), none] H9 := by
      intro px hpx Nx hN
      have jl : j < (rs.map V.ref).length := by rw [List.length_map]; omega
      refine ⟨.ref pr6, rfl, .ref L, rfl, .int (j : Nat), rfl, L, _, _, .ref px, rfl, rfl, .inl (.inl upd_same), atI_nat (j := j) (by rw [List.getElem?_set_self jl]), ?_⟩
      have xb : 0 ≤ (if R < capf lb os j then R else capf lb os j) ∧ (if R < capf lb os j then R else capf lb os j) ≤ den la lb os := by split <;> omega
      refine ⟨pr6, px, R, den la lb os, _, den la lb os, rfl, sqT_lst hR8 hL8, sqT_lst hpx hL8, d1, d1, .of (by omega) (by omega), .of (by omega) (by omega), .of (by omega) (by omega), .of (by omega) (by omega), rfl, fun p9 np9 => ?_⟩
      have gN := Grow.new (o := .tup (rt (rat (R - (if R < capf lb os j then R else capf lb os j)) (den la lb os)))) np9
      have est : stat (capf lb os) (den la lb os) ord (i + 1) = (R - (if R < capf lb os j then R else capf lb os j), put q j (if R < capf lb os j then R else capf lb os j)) := by
        rw [stat_next hoj]
        have : stat (capf lb os) (den la lb os) ord i = (R, q) := by rw [← hR, ← hq]
        rw [this]
        rfl
      refine hN p9 _ ?_ ?_ ?_
      · exact ((g6.trans g8).wr nL (by rw [hL8]; exact fun z => by cases z)).trans gN
      · rw [est]
        exact tup_new
      · rw [est]
        refine ⟨rs.set j px, by rw [List.length_set, er], ?_, fun jj tt htt => ?_⟩
        · rw [upd_ne (ne_of_none upd_same np9), upd_same, List.map_set]
        · refine gN.seqT (sqT_lst ?_ hL8)
          by_cases e : jj = j
          · subst e
            rw [List.getElem?_set_self (by omega)] at htt
            cases htt
            show SqT K H8 px (rt (rat (put q jj _ jj) (den la lb os)))
            unfold put
            rw [if_pos rfl]
            exact hpx
          · rw [List.getElem?_set_ne (Ne.symm e)] at htt
            show SqT K H8 tt (rt (rat (put q j _ jj) (den la lb os)))
            unfold put
            rw [if_neg e]
            exact g8.seqT (hrs jj tt htt)
    refine ⟨.ref pr6, rfl, .ref p8, rfl, pr6, p8, R, den la lb os, capf lb os j, rfl, hR8, .inl (.inl hp8), d1, .of (by omega) (by omega), .of (by omega) (by omega), .of (by omega) (by omega), _, rfl, ?_⟩
    have jl2 : ixN (rs.map V.ref).length (j : Int) = some j := by
      unfold ixN
      rw [if_pos (by omega), if_pos (by rw [List.length_map]; omega)]
      simp
    by_cases hlt : R < capf lb os j
    · rw [decide_eq_true hlt]
      refine ⟨.ref pr6, rfl, .ref L, rfl, .int (j : Nat), rfl, L, _, _, j, rfl, rfl, hL8, jl2, ?_⟩
      exact go2 pr6 (by rw [if_pos hlt]; exact hR8) _ fun p9 H9 a1 a2 a3 => ⟨p9, _, _, _, rfl, a1, a2, a3⟩
    · rw [decide_eq_false hlt]
      refine ⟨.ref p8, rfl, .ref L, rfl, .int (j : Nat), rfl, L, _, _, j, rfl, rfl, hL8, jl2, ?_⟩
      exact go2 p8 (by rw [if_neg hlt]; exact .inl (.inl hp8)) _ fun p9 H9 a1 a2 a3 => ⟨p9, _, _, _, rfl, a1, a2, a3⟩
  · rintro σ H6 ⟨pr6, v5, v6, v11, rfl, g6, hR6, hM⟩
    refine ⟨.ref L, rfl, k L H6 ord (GE'.trans g6) (GE'.free L nL) oo ?_⟩
    have e : stat (capf lb os) (den la lb os) ord ys.length = greedy (capf lb os) (den la lb os) ord := by
      rw [leny, ← lo]
      exact stat_all
    rw [e] at hM
    exact hM
end
end K45
/-! K45: shortfall_of, pool_shortfall. -/
namespace K45
open PySem PySem.Spec PyProof.Rows L2
/-! ### what the greedy parts are -/
def partsOf (la lb : Int) (os : List (Int × List Int)) (ord : List Nat) : Nat → Int := (greedy (capf lb os) (den la lb os) ord).2
theorem parts_fit {m : Nat} {os : List (Int × List Int)} {la lb : Int} {gs ord : List Nat} (ok : OutsOk m os) (lv : LvlOk la lb) (oo : OrdOk os.length (gsm gs os) ord) : Fits os.length (capf lb os) (den la lb os) (partsOf la lb os ord) :=
  (greedy_ok (s := gsm gs os) (by have := ok.n1; omega) (fun i hi => (cap_bd ok lv hi).1) (den_bd ok lv).1 (den_le ok lv) oo.nd oo.mem oo.pw).1
theorem prod_bd {m : Nat} {os : List (Int × List Int)} {la lb : Int} {gs ord : List Nat} (ok : OutsOk m os) (lv : LvlOk la lb) (oo : OrdOk os.length (gsm gs os) ord) {f : Nat → Int} (hf : ∀ i, i < os.length → 0 ≤ f i ∧ f i ≤ 4000) {i : Nat} (hi : i < os.length) :
    0 ≤ f i * partsOf la lb os ord i ∧ f i * partsOf la lb os ord i ≤ 4000000000 := by
  have F := parts_fit ok lv oo
  have a := F.lo i hi
  have b := F.hi i hi
  have c := (cap_bd ok lv hi).2
  have d := hf i hi
  refine ⟨Int.mul_nonneg d.1 a, ?_⟩
  have := Int.mul_le_mul (a := f i) (c := 4000) (b := partsOf la lb os ord i) (d := 1000000) d.2 (by omega) a (by omega)
  omega
theorem prods_sm {m : Nat} {os : List (Int × List Int)} {la lb : Int} {gs ord : List Nat} (ok : OutsOk m os) (lv : LvlOk la lb) (oo : OrdOk os.length (gsm gs os) ord) {f : Nat → Int} (hf : ∀ i, i < os.length → 0 ≤ f i ∧ f i ≤ 4000) {j : Nat} (hj : j ≤ os.length) :
    0 ≤ sm j (fun i => f i * partsOf la lb os ord i) ∧ sm j (fun i => f i * partsOf la lb os ord i) ≤ 32000000000 := by
  have h := sm_bd (n := j) (f := fun i => f i * partsOf la lb os ord i) (c := 4000000000) fun i hi => prod_bd ok lv oo hf (by omega)
  have n8 := ok.n8
  omega
/-- the tables of the defs that hold generator expressions -/
structure Tbl where
  o : Addr
  n : Addr
  i : Addr
  s : Addr
  v : Addr
structure TbOk (T : Tbl) (H : Hp) : Prop where
  o : GxR.TabG H T.o
  n : GxR.TabG H T.n
  i : GxR.TabG H T.i
  s : GxR.TabG H T.s
  v : GxR.TabG H T.v
theorem TbOk.grow {T : Tbl} {H H' : Hp} (t : TbOk T H) (g : Grow H H') : TbOk T H' := ⟨g.tab _ t.o, g.tab _ t.n, g.tab _ t.i, g.tab _ t.s, g.tab _ t.v⟩
section
variable {P : Program} {w : World} {K : PySem.W.Frag} {mg : Str → Option Value} {base : Heap}
abbrev NS : List Str := ["outcomes", "members", "level", "parts", "size", "part"]
theorem scShortOf : FnScope NS ["outcomes", "members", "level"] (defScope sShortOf) := ⟨rfl, rfl, rfl, by decide +kernel, rfl, by decide +kernel, by decide +kernel⟩
def spShort (K : PySem.W.Frag) (T : Tbl) (need : Prop → Nat → List Nat → Prop) : Sp := fun vs H Q _ => ∃ (a c t : Addr) (m : Nat) (os : List (Int × List Int)) (gs : List Nat) (la lb : Int), vs = [.ref a, .ref c, .ref t] ∧ OutsAt K H a os ∧ OutsOk m os ∧ SqT K H c (natV gs) ∧ (∀ g ∈ gs, g < m) ∧ gs.length ≤ 4 ∧
  SqT K H t (rt (la, lb)) ∧ LvlOk la lb ∧ TbOk T H ∧ need True m gs ∧
  ∀ p H' ord, Grow H H' → H p = none → OrdOk os.length (gsm gs os) ord → H' p = some (.tup (rt (rat (sm os.length fun i => gsm gs os i * partsOf la lb os ord i) (den la lb os)))) → Q (.ref p) H'
theorem ok_shortof {f : Addr} {fd : FuncData} {T : Tbl} (D : Def K mg "shortfall_of" sShortOf ["outcomes", "members", "level"] f fd) (B : Blt mg)
    (Cv : Cal P w K mg base "view_of" 3 ["outcomes", "members", "level"] (spViewOf K T.s T.v)) (Cs : Cal P w K mg base "sums_of" 1 ["outcomes", "members"] (spSumsOf K T.s)) (Cb : Cal P w K mg base "by" 2 ["one", "other"] (spBy K))
    (Ct : Cal P w K mg base "total" 3 ["some"] (spTotal K)) : Cal P w K mg base "shortfall_of" 4 ["outcomes", "members", "level"] (spShort K T fun p _ _ => p) := by
  obtain ⟨fv, fdv, Gv, gv, kv, bv⟩ := Cv
  obtain ⟨fs, fds, Gs, gss, ks, bs⟩ := Cs
  obtain ⟨fb, fdb, Gb, gb, kb, bb⟩ := Cb
  obtain ⟨ft, fdt, Gt, gt, kt, bt⟩ := Ct
  have nd := scShortOf.nd
  refine D.cal (D.fn.ok scShortOf (fun vs H Q E h => ?_) (fun cdv A outer s H vs Q E hr h => ?_))
  · obtain ⟨a, c, t, m, os, gs, la, lb, rfl, _⟩ := h
    rfl
  obtain ⟨a, cc, t, m, os, gs, la, lb, rfl, hO, ok, hg, glt, g4, ht, lv, tb, _, k⟩ := h
  have hr1 : Room 1 _ := hr.mono (by decide)
  have hr2 : Room 2 _ := hr.mono (by decide)
  refine ⟨_, pss_cons (ps_set (i := 3) nd rfl (.inl rfl) (pe_call Gv hr (by rfl) gv kv bv .nil pass0 (pa_cons (pv 0) (pa_cons (pv 1) (pa_cons (pv 2) pa_nil)))))
    (pss_one (ps_ret (pe_call Gt hr (by rfl) gt kt bt .nil pass0 (pa_cons
      (pe_lc (own := [("size", 4), ("part", 5)]) (tt := tYes) rfl nd (pi_zip (by rfl) B.zip (pa_cons (pe_call Gs hr1 (by rfl) gss ks bs .nil pass0 (pa_cons (pv 0) (pa_cons (pv 1) pa_nil))) (pa_cons (pv 3) pa_nil))) (blkOk_by (own := [("size", 4), ("part", 5)]) (N := NS) (sc := defScope sShortOf) (by decide +kernel))
        (fun _ _ _ _ _ => pg_tupK (K := K) (n := 2) rfl rfl (pgs_cons (pg_name (i := 4) nd rfl (Or.inl rfl)) (pgs_cons (pg_name (i := 5) nd rfl (Or.inl rfl)) pgs_nil))) (fun _ _ _ _ _ => pts_nil)
        (fun _ _ _ _ _ => pe_call Gb hr2 (by rfl) gb kb bb .nil pass0 (pa_cons (pe_tup (pa_cons (pv 4) (pa_cons pe_int pa_nil))) (pa_cons (pv 5) pa_nil)))) pa_nil)))), ?_⟩
  refine ⟨.ref a, rfl, .ref cc, rfl, .ref t, rfl, a, cc, t, m, os, gs, la, lb, rfl, hO, ok, hg, glt, g4, ht, lv, tb.s, tb.v, fun L H1 ord g1 nL oo hM => ?_⟩
  obtain ⟨d1, d2⟩ := den_bd ok lv
  have n8 := ok.n8
  refine ⟨.ref a, rfl, .ref cc, rfl, a, cc, m, os, gs, rfl, hO.grow g1, ok, g1.seqT hg, glt, g4, g1.tab _ tb.s, fun S H2 g2 nS hS => ?_⟩
  obtain ⟨rs, er, hL, hrs⟩ := hM
  have hL2 := g2.lst hL
  have eS : ∀ (j : Nat), j < os.length → (sumsV gs os)[j]? = some (.int (gsm gs os j)) := fun j hj => by
    rw [List.getElem?_map, List.getElem?_map, List.getElem?_eq_getElem hj]
    unfold gsm
    rw [getD_at (List.getElem?_eq_getElem hj)]
    rfl
  have lenS : (sumsV gs os).length = os.length := by rw [List.length_map, List.length_map]
  have gb2 : ∀ i, i < os.length → 0 ≤ gsm gs os i ∧ gsm gs os i ≤ 4000 := fun i hi => gsm_bd ok g4 hi
  refine ⟨.ref L, rfl, S, L, _, _, rfl, .inl (.inl hS), .inl (.inl hL2), fun Dn nD => lc_any (n := os.length) (fun i H' => Grow H2 H' ∧ RatsM K H' Dn i (fun i => gsm gs os i * partsOf la lb os ord i) (den la lb os))
    ⟨Grow.new nD, [], rfl, upd_same, fun j q hq => by simp at hq⟩
    (fun i H' hi h => ⟨_, _, _, .ref (rs[i]'(by omega)), h.1.seqL (.inl (.inl hS)), h.1.seqL (.inl (.inl hL2)), eS i hi, by rw [List.getElem?_map, List.getElem?_eq_getElem (by omega)]; rfl⟩)
    (fun H' h => ⟨_, _, h.1.seqL (.inl (.inl hS)), h.1.seqL (.inl (.inl hL2)), .inl (Nat.le_of_eq lenS)⟩) ?_ ?_⟩
  · rintro i v Hb Hc hi ⟨g, ps, el, hD, hps⟩ ⟨T0, x, y, rfl, nT, rfl, hx, hy⟩
    have ex := hx _ (g.seqL (.inl (.inl hS)))
    rw [eS i hi] at ex
    cases ex
    have ey := hy _ (g.seqL (.inl (.inl hL2)))
    obtain ⟨q, hq, rfl⟩ := at_map ey
    have gT : Grow Hb (upd Hb T0 (.tup [.int (gsm gs os i), .ref q])) := Grow.new nT
    have hqt : SqT K Hb q (rt (rat (partsOf la lb os ord i) (den la lb os))) := g.seqT (g2.seqT (hrs i q hq))
    refine ⟨T0, _, rfl, .inl (.inl upd_same), rfl, .int (gsm gs os i), [.ref q], rfl, .ref q, [], rfl, rfl, rfl, ?_⟩
    refine ⟨.int (gsm gs os i), rfl, (by show 2 ≤ sizeLine; decide), fun p1 np1 => ?_⟩
    have gA := gT.trans (Grow.new (o := .tup [.int (gsm gs os i), .int 1]) np1)
    have F := parts_fit ok lv oo
    have c1 := (cap_bd ok lv hi).2
    have q0 := F.lo i hi
    have q1 := F.hi i hi
    have s0 := gb2 i hi
    refine ⟨.ref q, rfl, p1, q, gsm gs os i, 1, partsOf la lb os ord i, den la lb os, rfl, ?_, gA.seqT hqt, by omega, d1, .of (by omega) (by omega), .of (by omega) (by omega), .of (by omega) (by omega), .of (by omega) (by omega), trivial, fun p np => ?_⟩
    · rw [rat_one]
      exact tup_new
    have gp := gA.trans (Grow.new (o := .tup (rt (rat (gsm gs os i * partsOf la lb os ord i) (1 * den la lb os)))) np)
    have hD2 := gp.lst hD
    refine ⟨_, hD2, by rw [List.length_map]; exact small1000 (by omega), (g.trans gp).wr nD (by rw [hD2]; exact fun z => by cases z), ps ++ [p], by simp [el], by rw [upd_same, List.map_append]; rfl, fun j r hjr => ?_⟩
    rcases Nat.lt_or_ge j ps.length with hj | hj
    · rw [List.getElem?_append_left hj] at hjr
      exact sqT_lst (gp.seqT (hps j r hjr)) hD2
    · rw [List.getElem?_append_right hj] at hjr
      have ej : j - ps.length = 0 := by
        have := (List.getElem?_eq_some_iff.mp hjr).1
        simp at this
        omega
      rw [ej] at hjr
      have eq : p = r := by simpa using hjr
      subst eq
      have ej2 : j = i := by omega
      subst ej2
      refine sqT_lst ?_ hD2
      have eT : rt (rat (gsm gs os j * partsOf la lb os ord j) (1 * den la lb os)) = rt (rat (gsm gs os j * partsOf la lb os ord j) (den la lb os)) := by rw [Int.one_mul]
      show SqT K (upd _ p (.tup (rt (rat (gsm gs os j * partsOf la lb os ord j) (1 * den la lb os))))) p (rt (rat (gsm gs os j * partsOf la lb os ord j) (den la lb os)))
      rw [← eT]
      exact tup_new
  rintro H3 ⟨g3, hM3⟩
  refine ⟨Dn, os.length, fun i => gsm gs os i * partsOf la lb os ord i, den la lb os, rfl, hM3.rats, d1, .of (by omega) (by omega), fun i hi => ?_, fun j hj => ?_, fun p H4 g4' np hp => ?_⟩
  · have := prod_bd ok lv oo gb2 hi
    show Sm (gsm gs os i * partsOf la lb os ord i)
    exact .of (by omega) (by omega)
  · have := prods_sm ok lv oo gb2 hj
    exact .of (by omega) (by omega)
  · exact k p H4 ord (((g1.trans g2).trans g3).trans g4') (((g1.trans g2).trans g3).free p np) oo hp
theorem scPool : FnScope ["outcomes", "members", "level"] ["outcomes", "members", "level"] (defScope sPool) := ⟨rfl, rfl, rfl, by decide +kernel, rfl, by decide +kernel, by decide +kernel⟩
theorem ok_pool {f : Addr} {fd : FuncData} {T : Tbl} (D : Def K mg "pool_shortfall" sPool ["outcomes", "members", "level"] f fd)
    (Co : Cal P w K mg base "need_outcomes" 3 ["outcomes"] (spNeedOutcomes K T.o)) (Cm : Cal P w K mg base "need_members" 2 ["outcomes", "members"] (spNeedMembers K T.n)) (Cp : Cal P w K mg base "need_part" 2 ["level"] (spNeedPart K T.i))
    (Cs : Cal P w K mg base "shortfall_of" 4 ["outcomes", "members", "level"] (spShort K T fun p _ _ => p)) : Cal P w K mg base "pool_shortfall" 5 ["outcomes", "members", "level"] (spShort K T fun _ m gs => GrpOk m gs) := by
  obtain ⟨fo, fdo, Go, go, ko, bo⟩ := Co
  obtain ⟨fm, fdm, Gm, gm, km, bm⟩ := Cm
  obtain ⟨fp, fdp, Gp, gp, kp, bp⟩ := Cp
  obtain ⟨fs, fds, Gs, gs', ks, bs⟩ := Cs
  refine D.cal (D.fn.ok scPool (fun vs H Q E h => ?_) (fun cdv A outer s H vs Q E hr h => ?_))
  · obtain ⟨a, c, t, m, os, gs, la, lb, rfl, _⟩ := h
    rfl
  obtain ⟨a, cc, t, m, os, gs, la, lb, rfl, hO, ok, hg, glt, g4, ht, lv, tb, gok, k⟩ := h
  have hr2 : Room 2 _ := hr.mono (by decide)
  have hr3 : Room 3 _ := hr.mono (by decide)
  refine ⟨_, pss_cons (ps_expr (pe_call Go hr3 (by rfl) go ko bo .nil pass0 (pa_cons (pv 0) pa_nil)))
    (pss_cons (ps_expr (pe_call Gm hr2 (by rfl) gm km bm .nil pass0 (pa_cons (pv 0) (pa_cons (pv 1) pa_nil))))
    (pss_cons (ps_expr (pe_call Gp hr2 (by rfl) gp kp bp .nil pass0 (pa_cons (pv 2) pa_nil)))
    (pss_one (ps_ret (pe_call Gs hr (by rfl) gs' ks bs .nil pass0 (pa_cons (pv 0) (pa_cons (pv 1) (pa_cons (pv 2) pa_nil)))))))), ?_⟩
  refine ⟨.ref a, rfl, a, m, os, rfl, hO, ok, tb.o, fun H1 g1 => ?_⟩
  refine ⟨.ref a, rfl, .ref cc, rfl, a, cc, m, os, gs, rfl, hO.grow g1, ok, g1.seqT hg, gok, g4, g1.tab _ tb.n, fun H2 g2 => ?_⟩
  have G2 := g1.trans g2
  refine ⟨.ref t, rfl, t, la, lb, rfl, G2.seqT ht, lv, G2.tab _ tb.i, fun H3 g3 => ?_⟩
  have G3 := G2.trans g3
  refine ⟨.ref a, rfl, .ref cc, rfl, .ref t, rfl, a, cc, t, m, os, gs, la, lb, rfl, hO.grow G3, ok, G3.seqT hg, glt, g4, G3.seqT ht, lv, tb.grow G3, trivial, fun p H4 ord g4' np oo hp => k p H4 ord (G3.trans g4') (G3.free p np) oo hp⟩
end
end K45
/-! K45: shares. -/
namespace K45
open PySem PySem.Spec PyProof.Rows L2
/-- what member i loses in outcome j -/
def lsv (os : List (Int × List Int)) (i j : Nat) : Int := (os.getD j (0, [])).2.getD i 0
theorem lsv_bd {m : Nat} {os : List (Int × List Int)} (ok : OutsOk m os) (i : Nat) {j : Nat} (h : j < os.length) : 0 ≤ lsv os i j ∧ lsv os i j ≤ 4000 := by
  unfold lsv
  rw [getD_at (List.getElem?_eq_getElem h)]
  have := getD_bd (ok.ok _ (List.getElem_mem h)) i
  omega
/-- a share, times the whole -/
def shr (la lb : Int) (os : List (Int × List Int)) (ord : List Nat) (i : Nat) : Int := sm os.length fun j => lsv os i j * partsOf la lb os ord j
section
variable {P : Program} {w : World} {K : PySem.W.Frag} {mg : Str → Option Value} {base : Heap}
abbrev NH : List Str := ["outcomes", "level", "parts", "found", "member", "one", "part"]
theorem scShares : FnScope NH ["outcomes", "level"] (defScope sShares) := ⟨rfl, rfl, rfl, by decide +kernel, rfl, by decide +kernel, by decide +kernel⟩
def spShares (K : PySem.W.Frag) (T : Tbl) : Sp := fun vs H Q _ => ∃ (a t : Addr) (m : Nat) (os : List (Int × List Int)) (la lb : Int), vs = [.ref a, .ref t] ∧ OutsAt K H a os ∧ OutsOk m os ∧ SqT K H t (rt (la, lb)) ∧ LvlOk la lb ∧ TbOk T H ∧
  ∀ p H' ord (ts : List Addr), Grow H H' → H p = none → OrdOk os.length (gsm (List.range m) os) ord → ts.length = m → H' p = some (.tup (ts.map V.ref)) → (∀ (i : Nat) (t : Addr), ts[i]? = some t → SqT K H' t (rt (rat (shr la lb os ord i) (den la lb os)))) → Q (.ref p) H'
theorem ok_shares {f : Addr} {fd : FuncData} {T : Tbl} (D : Def K mg "shares" sShares ["outcomes", "level"] f fd) (B : Blt mg)
    (Co : Cal P w K mg base "need_outcomes" 3 ["outcomes"] (spNeedOutcomes K T.o)) (Cp : Cal P w K mg base "need_part" 2 ["level"] (spNeedPart K T.i))
    (Cv : Cal P w K mg base "view_of" 3 ["outcomes", "members", "level"] (spViewOf K T.s T.v)) (Ce : Cal P w K mg base "everybody" 1 ["outcomes"] (spEvery K)) (Cb : Cal P w K mg base "by" 2 ["one", "other"] (spBy K))
    (Ct : Cal P w K mg base "total" 3 ["some"] (spTotal K)) : Cal P w K mg base "shares" 4 ["outcomes", "level"] (spShares K T) := by
  obtain ⟨fo, fdo, Go, go, ko, bo⟩ := Co
  obtain ⟨fp, fdp, Gp, gp, kp, bp⟩ := Cp
  obtain ⟨fv, fdv, Gv, gv, kv, bv⟩ := Cv
  obtain ⟨fe, fde, Ge, ge, ke, be⟩ := Ce
  obtain ⟨fb, fdb, Gb, gb, kb, bb⟩ := Cb
  obtain ⟨ft, fdt, Gt, gt, kt, bt⟩ := Ct
  have nd := scShares.nd
  refine D.cal (D.fn.ok scShares (fun vs H Q E h => ?_) (fun cdv A outer s H vs Q E hr h => ?_))
  · obtain ⟨a, t, m, os, la, lb, rfl, _⟩ := h
    rfl
  obtain ⟨a, t, m, os, la, lb, rfl, hO, ok, ht, lv, tb, k⟩ := h
  have hr1 : Room 1 _ := hr.mono (by decide)
  have hr2 : Room 2 _ := hr.mono (by decide)
  refine ⟨_, pss_cons (ps_expr (pe_call Go hr (by rfl) go ko bo .nil pass0 (pa_cons (pv 0) pa_nil)))
    (pss_cons (ps_expr (pe_call Gp hr2 (by rfl) gp kp bp .nil pass0 (pa_cons (pv 1) pa_nil)))
    (pss_cons (ps_par (i := 2) (j := 3) rfl nd rfl rfl (by decide) rfl rfl (pa_cons (pe_call Gv hr (by rfl) gv kv bv .nil pass0 (pa_cons (pv 0) (pa_cons (pe_call Ge hr1 (by rfl) ge ke be .nil pass0 (pa_cons (pv 0) pa_nil)) (pa_cons (pv 1) pa_nil)))) (pa_cons (pe_lst pa_nil) pa_nil)) (by rfl))
    (pss_cons (ps_for PassesOwn.never rfl (pi_tup (pe_call Ge hr1 (by rfl) ge ke be .nil pass0 (pa_cons (pv 0) pa_nil))) (pg_name (i := 4) nd rfl (.inr rfl))
      (pss_one (ps_expr (pe_bm PySem.F.plainAttrs_list PySem.F.slot_list_append PySem.F.type_list_append mt_append (pv 3) (pa_cons (pe_call Gt hr (by rfl) gt kt bt .nil pass0 (pa_cons
        (pe_lc (own := [("one", 5), ("part", 6)]) (tt := tYes) rfl nd (pi_zipM (by rfl) B.zip (pa_cons (pv 0) (pa_cons (pv 2) pa_nil))) (blkOk_by (own := [("one", 5), ("part", 6)]) (N := NH) (sc := defScope sShares) (by decide +kernel))
          (fun _ _ _ _ _ => pg_tupK (K := K) (n := 2) rfl rfl (pgs_cons (pg_name (i := 5) nd rfl (Or.inl rfl)) (pgs_cons (pg_name (i := 6) nd rfl (Or.inl rfl)) pgs_nil))) (fun _ _ _ _ _ => pts_nil)
          (fun _ _ _ _ _ => pe_call Gb hr2 (by rfl) gb kb bb .nil pass0 (pa_cons (pe_tup (pa_cons (pe_ix (ixT (K := K) rfl) (pe_ix (ixT (K := K) rfl) (pv 5) pe_int (fun _ _ => rfl)) (pv 4) (fun _ _ => rfl)) (pa_cons pe_int pa_nil))) (pa_cons (pv 6) pa_nil)))) pa_nil)) pa_nil)))))
    (pss_one (ps_ret (pe_callTy call_tuple_of (by rfl) B.tuple PyProof.Rows.boot_tuple (pa_cons (pv 3) pa_nil))))))), ?_⟩
  obtain ⟨d1, d2⟩ := den_bd ok lv
  have n8 := ok.n8
  have m4 := ok.m4
  refine ⟨.ref a, rfl, a, m, os, rfl, hO, ok, tb.o, fun H1 g1 => ?_⟩
  refine ⟨.ref t, rfl, t, la, lb, rfl, g1.seqT ht, lv, g1.tab _ tb.i, fun H2 g2 => ?_⟩
  have G2 := g1.trans g2
  refine ⟨.ref a, rfl, .ref a, rfl, a, m, os, rfl, hO.grow G2, ok, fun pe npe => ?_⟩
  have G3 := G2.trans (Grow.new (o := .tup (natV (List.range m))) npe)
  refine ⟨.ref t, rfl, a, pe, t, m, os, List.range m, la, lb, rfl, hO.grow G3, ok, tup_new, fun g hg => List.mem_range.mp hg, by rw [List.length_range]; omega, G3.seqT ht, lv, G3.tab _ tb.s, G3.tab _ tb.v, fun L H4 ord g4 nL oo hM => ?_⟩
  have G4 := G3.trans g4
  refine ⟨Nat.zero_le _, fun F nF => ⟨_, _, rfl, ?_⟩⟩
  obtain ⟨rs, er, hL, hrs⟩ := hM
  have gF := Grow.new (o := .lst []) nF
  refine ⟨.ref a, rfl, a, m, os, rfl, hO.grow (G4.trans gF), ok, fun pe2 npe2 => ?_⟩
  have gP := gF.trans (Grow.new (o := .tup (natV (List.range m))) npe2)
  have lenN : (natV (List.range m)).length = m := by rw [List.length_map, List.length_map, List.length_range]
  have hF0 : upd (upd H4 F (.lst [])) pe2 (.tup (natV (List.range m))) F = some (.lst []) := by rw [upd_ne (ne_of_none upd_same npe2), upd_same]
  refine ⟨pe2, rfl, ⟨_, tup_new⟩, for_tup (K := K) (a := pe2) (xs := natV (List.range m)) (fun i σ H' => ∃ v4, σ = [some (.ref a), some (.ref t), some (.ref L), some (.ref F), v4, none, none] ∧ Grow H4 H' ∧ H' pe2 = some (.tup (natV (List.range m))) ∧ RatsM K H' F i (shr la lb os ord) (den la lb os))
    ⟨none, rfl, gP, upd_same, [], rfl, hF0, fun j q hq => by simp at hq⟩ (fun i σ H' _ ⟨_, _, _, h, _⟩ => .inl (.inl h)) ?_ ?_⟩
  · rintro i x σ Ha hx ⟨v4, rfl, g, hpe2, fs, ef, hF, hfs⟩
    have him : i < m := by
      rw [← lenN]
      exact (List.getElem?_eq_some_iff.mp hx).1
    have ex : x = .int (i : Nat) := by
      rw [List.getElem?_map, List.getElem?_map, List.getElem?_eq_getElem (by rw [List.length_range]; exact him), List.getElem_range] at hx
      exact (Option.some.inj hx).symm
    subst ex
    have Ga := G4.trans g
    obtain ⟨ts, ha, hl, hts⟩ := hO.grow Ga
    have hLa := g.lst hL
    have lb2 : ∀ j, j < os.length → 0 ≤ lsv os i j ∧ lsv os i j ≤ 4000 := fun j hj => lsv_bd ok i hj
    refine ⟨.ref F, rfl, .inl ⟨rfl, _, .inl (.inl hF)⟩, .ref a, rfl, .ref L, rfl, a, L, _, _, rfl, ha, .inl (.inl hLa), fun Dn nD => lc_any (n := os.length) (fun j H' => Grow Ha H' ∧ RatsM K H' Dn j (fun j => lsv os i j * partsOf la lb os ord j) (den la lb os))
      ⟨Grow.new nD, [], rfl, upd_same, fun j q hq => by simp at hq⟩
      (fun j H' hj h => ⟨_, _, .ref (ts[j]'(by omega)), .ref (rs[j]'(by omega)), h.1.seqT ha, h.1.seqL (.inl (.inl hLa)), by rw [List.getElem?_map, List.getElem?_eq_getElem (by omega)]; rfl, by rw [List.getElem?_map, List.getElem?_eq_getElem (by omega)]; rfl⟩)
      (fun H' h => ⟨_, _, h.1.seqT ha, h.1.seqL (.inl (.inl hLa)), by rw [List.length_map, hl], by rw [List.length_map, er]⟩) ?_ ?_⟩
    · rintro j v Hb Hc hj ⟨gb1, ps, el, hD, hps⟩ ⟨T0, x, y, rfl, nT, rfl, hx, hy⟩
      obtain ⟨tj, htj, rfl⟩ := at_map (hx _ (gb1.seqT ha))
      obtain ⟨q, hq, rfl⟩ := at_map (hy _ (gb1.seqL (.inl (.inl hLa))))
      have hO2 : os[j]? = some os[j] := List.getElem?_eq_getElem hj
      have okj := ok.ok _ (List.getElem_mem hj)
      have gT : Grow Hb (upd Hb T0 (.tup [.ref tj, .ref q])) := Grow.new nT
      obtain ⟨tl, q1, q2⟩ := (hts j tj _ htj hO2).grow (gb1.trans gT)
      have hqt : SqT K Hb q (rt (rat (partsOf la lb os ord j) (den la lb os))) := gb1.seqT (g.seqT (hrs j q hq))
      have hi2 : i < os[j].2.length := by rw [okj.len]; exact him
      have elv : os[j].2[i] = lsv os i j := by
        unfold lsv
        rw [getD_at hO2, getD_at (List.getElem?_eq_getElem hi2)]
      refine ⟨T0, _, rfl, .inl (.inl upd_same), rfl, .ref tj, [.ref q], rfl, .ref q, [], rfl, rfl, rfl, ?_⟩
      refine ⟨.ref tj, rfl, tj, _, _, _, rfl, rfl, q1, atI_nat (j := 1) rfl, .int (i : Nat), rfl, tl, _, _, .int (lsv os i j), rfl, rfl, q2, atI_nat (j := i) (by rw [List.getElem?_map, List.getElem?_eq_getElem hi2, ← elv]; rfl), (by show 2 ≤ sizeLine; decide), fun p1 np1 => ?_⟩
      have gA := gT.trans (Grow.new (o := .tup [.int (lsv os i j), .int 1]) np1)
      have F' := parts_fit ok lv oo
      have c1 := (cap_bd ok lv hj).2
      have q0 := F'.lo j hj
      have q3 := F'.hi j hj
      have s0 := lb2 j hj
      refine ⟨.ref q, rfl, p1, q, lsv os i j, 1, partsOf la lb os ord j, den la lb os, rfl, ?_, gA.seqT hqt, by omega, d1, .of (by omega) (by omega), .of (by omega) (by omega), .of (by omega) (by omega), .of (by omega) (by omega), trivial, fun p np => ?_⟩
      · rw [rat_one]
        exact tup_new
      have gp := gA.trans (Grow.new (o := .tup (rt (rat (lsv os i j * partsOf la lb os ord j) (1 * den la lb os)))) np)
      have hD2 := gp.lst hD
      refine ⟨_, hD2, by rw [List.length_map]; exact small1000 (by omega), (gb1.trans gp).wr nD (by rw [hD2]; exact fun z => by cases z), ps ++ [p], by simp [el], by rw [upd_same, List.map_append]; rfl, fun j' r hjr => ?_⟩
      rcases Nat.lt_or_ge j' ps.length with hj' | hj'
      · rw [List.getElem?_append_left hj'] at hjr
        exact sqT_lst (gp.seqT (hps j' r hjr)) hD2
      · rw [List.getElem?_append_right hj'] at hjr
        have ej : j' - ps.length = 0 := by
          have := (List.getElem?_eq_some_iff.mp hjr).1
          simp at this
          omega
        rw [ej] at hjr
        have eq : p = r := by simpa using hjr
        subst eq
        have ej2 : j' = j := by omega
        subst ej2
        refine sqT_lst ?_ hD2
        have eT : rt (rat (lsv os i j' * partsOf la lb os ord j') (1 * den la lb os)) = rt (rat (lsv os i j' * partsOf la lb os ord j') (den la lb os)) := by rw [Int.one_mul]
        show SqT K (upd _ p (.tup (rt (rat (lsv os i j' * partsOf la lb os ord j') (1 * den la lb os))))) p (rt (rat (lsv os i j' * partsOf la lb os ord j') (den la lb os)))
        rw [← eT]
        exact tup_new
    rintro H5 ⟨g5, hM5⟩
    refine ⟨Dn, os.length, fun j => lsv os i j * partsOf la lb os ord j, den la lb os, rfl, hM5.rats, d1, .of (by omega) (by omega), fun j hj => ?_, fun j hj => ?_, fun p H6 g6 np hp => ?_⟩
    · have := prod_bd ok lv oo lb2 hj
      show Sm (lsv os i j * partsOf la lb os ord j)
      exact .of (by omega) (by omega)
    · have := prods_sm ok lv oo lb2 hj
      exact .of (by omega) (by omega)
    have g56 := g5.trans g6
    have hF6 := g56.lst hF
    refine ⟨F, _, _, rfl, rfl, hF6, by rw [List.length_map]; exact small1000 (by omega), ?_⟩
    refine ⟨_, rfl, (g.trans g56).wr nF (by rw [hF6]; exact fun z => by cases z), ?_, fs ++ [p], by simp [ef], by rw [upd_same, List.map_append]; rfl, fun j r hjr => ?_⟩
    · have e := g56.tup hpe2
      rw [upd_ne (ne_of e hF6 (by intro z; cases z))]
      exact e
    rcases Nat.lt_or_ge j fs.length with hj | hj
    · rw [List.getElem?_append_left hj] at hjr
      exact sqT_lst (g56.seqT (hfs j r hjr)) hF6
    · rw [List.getElem?_append_right hj] at hjr
      have ej : j - fs.length = 0 := by
        have := (List.getElem?_eq_some_iff.mp hjr).1
        simp at this
        omega
      rw [ej] at hjr
      have eq : p = r := by simpa using hjr
      subst eq
      have ej2 : j = i := by omega
      subst ej2
      exact sqT_lst (.inl (.inl hp)) hF6
  · rintro σ Ha ⟨v4, rfl, g, hpe2, fs, ef, hF, hfs⟩
    rw [lenN] at ef
    refine ⟨.ref F, rfl, F, _, rfl, .inl ⟨.inl (.inl hF), fun p np => ?_⟩⟩
    have gp := Grow.new (o := .tup (fs.map V.ref)) np
    exact k p _ ord fs ((G4.trans g).trans gp) ((G4.trans g).free p np) oo ef upd_same fun i r hr => gp.seqT (hfs i r hr)
end
end K45
/-! K45: the law's own ratios. -/
namespace K45
open PySem PySem.Spec PyProof.Rows L2
section
variable {P : Program} {w : World} {K : PySem.W.Frag} {mg : Str → Option Value} {base : Heap}
theorem scLRatio : FnScope ["_law_top", "_law_bottom", "_law_one", "_law_other"] ["_law_top", "_law_bottom"] (defScope sLRatio) := ⟨rfl, rfl, rfl, by decide +kernel, rfl, by decide +kernel, by decide +kernel⟩
theorem abs_nat (x : Int) : (if x < 0 then -x else x) = ((x.natAbs : Nat) : Int) := by
  split <;> omega
theorem ok_lratio {f : Addr} {fd : FuncData} (D : Def K mg "_law_ratio" sLRatio ["_law_top", "_law_bottom"] f fd) (B : Blt mg) : Cal P w K mg base "_law_ratio" 1 ["_law_top", "_law_bottom"] spRatio := by
  have nd := scLRatio.nd
  refine D.cal (D.fn.ok scLRatio (fun vs H Q E h => ?_) (fun cdv A outer s H vs Q E hr h => ?_))
  · obtain ⟨x, n, rfl, _⟩ := h
    rfl
  obtain ⟨x, n, rfl, h0, hb, k⟩ := h
  refine ⟨_, pss_cons (ps_par (i := 2) (j := 3) rfl nd rfl rfl (by decide) rfl rfl (pa_cons (pe_callB call_abs (by rfl) B.abs (by decide +kernel) (pa_cons (pv 0) pa_nil)) (pa_cons (pe_callB call_abs (by rfl) B.abs (by decide +kernel) (pa_cons (pv 1) pa_nil)) pa_nil)) (by rfl))
    (pss_cons (ps_while PassesOwn.never (pt_cmpR op_ne (pv 3) pe_int (nomark _)) (pss_one (ps_par (i := 2) (j := 3) rfl nd rfl rfl (by decide) rfl rfl (pa_cons (pv 3) (pa_cons (pe_op op_modN (pe_callTy call_int1 (by rfl) B.int PyProof.Rows.boot_int (pa_cons (pv 2) pa_nil)) (pv 3)) pa_nil)) (by rfl))))
    (pss_one (ps_ret (pe_ifExp (pt_cmpR op_gt (pv 1) pe_int (nomark _)) (pe_tup (pa_cons (pe_op op_fdivW (pv 0) (pv 2)) (pa_cons (pe_op op_fdivW (pv 1) (pv 2)) pa_nil)))
      (pe_tup (pa_cons (pe_op op_sub pe_int (pe_op op_fdivW (pv 0) (pv 2))) (pa_cons (pe_op op_sub pe_int (pe_op op_fdivW (pv 1) (pv 2))) pa_nil))))))), ?_⟩
  refine ⟨.int x, rfl, x, rfl, .int n, rfl, n, rfl, _, _, rfl, ?_⟩
  rw [abs_nat, abs_nat]
  refine ⟨fun m σ H' => ∃ u v : Nat, σ = [some (.int x), some (.int n), some (.int (u : Int)), some (.int (v : Int))] ∧ v = m ∧ Nat.gcd u v = Int.gcd x n ∧ H' = H, ⟨n.natAbs, x.natAbs, n.natAbs, rfl, rfl, rfl, rfl⟩, ?_⟩
  rintro m σ H' ⟨u, v, rfl, rfl, hg, rfl⟩
  refine ⟨.int (v : Int), rfl, rfl, _, rfl, ?_⟩
  by_cases hv : v = 0
  · subst hv
    have hu : u = Int.gcd x n := by rw [← hg, Nat.gcd_zero_right]
    subst hu
    refine iteF ?_
    refine ⟨.int n, rfl, n, 0, rfl, rfl, _, rfl, ?_⟩
    rw [decide_eq_true (show (0 : Int) < n from h0)]
    refine iteT ⟨.int x, rfl, _, rfl, x, (Int.gcd x n : Int), rfl, rfl, div_ok h0 hb, .int n, rfl, _, rfl, n, (Int.gcd x n : Int), rfl, rfl, div_ok h0 hb, (by show 2 ≤ sizeLine; decide), fun p hp => k p hp⟩
  · have hd : decide (V.int (v : Int) = V.int 0) = false := decide_eq_false fun z => by
      have z2 : (v : Int) = 0 := V.int.inj z
      omega
    rw [hd]
    refine iteT ⟨fun σ' H1 => ∃ u' v' : Nat, σ' = [some (.int x), some (.int n), some (.int (u' : Int)), some (.int (v' : Int))] ∧ v' < v ∧ Nat.gcd u' v' = Int.gcd x n ∧ H1 = H', fun σ' H1 ⟨u', v', e1, e2, e3, e4⟩ => ⟨v', e2, u', v', e1, rfl, e3, e4⟩, ?_⟩
    refine ⟨.int (v : Int), rfl, .int (u : Int), rfl, .inl ⟨(u : Int), rfl, .int (v : Int), rfl, (u : Int), (v : Int), rfl, rfl, by omega, _, _, rfl, v, u % v, ?_, Nat.mod_lt _ (by omega), ?_, rfl⟩⟩
    · show [some (V.int x), some (V.int n), some (V.int (v : Int)), some (V.int (Int.fmod (u : Int) (v : Int)))] = _
      rw [Int.fmod_eq_emod_of_nonneg _ (by omega)]
      rfl
    · rw [Nat.gcd_comm, ← Nat.gcd_rec, Nat.gcd_comm]
      exact hg
theorem scLPlus : FnScope ["_law_one", "_law_other"] ["_law_one", "_law_other"] (defScope sLPlus) := ⟨rfl, rfl, rfl, by decide +kernel, rfl, by decide +kernel, by decide +kernel⟩
theorem scLBy : FnScope ["_law_one", "_law_other"] ["_law_one", "_law_other"] (defScope sLBy) := ⟨rfl, rfl, rfl, by decide +kernel, rfl, by decide +kernel, by decide +kernel⟩
theorem scLSum : FnScope ["_law_some", "_law_found", "_law_one"] ["_law_some"] (defScope sLSum) := ⟨rfl, rfl, rfl, by decide +kernel, rfl, by decide +kernel, by decide +kernel⟩
theorem ok_lplus {f : Addr} {fd : FuncData} (D : Def K mg "_law_plus" sLPlus ["_law_one", "_law_other"] f fd) (C : Cal P w K mg base "_law_ratio" 1 ["_law_top", "_law_bottom"] spRatio) : Cal P w K mg base "_law_plus" 2 ["_law_one", "_law_other"] (spPlus K) := by
  obtain ⟨fr, fdr, G, gr, kr, br⟩ := C
  refine D.cal (D.fn.ok scLPlus (fun vs H Q E h => two_len h) (fun cdv A outer s H vs Q E hr h => ?_))
  obtain ⟨t, u, x, n, y, m, rfl, ht, hu, h0, h1, s1, s2, s3, s4, rfl, k⟩ := h
  have a1 : Sm (rat x n).1 := s1.top h0
  have a2 : Sm (rat x n).2 := s2.bot h0
  have b1 : Sm (rat y n).1 := s3.top h1
  have b2 : Sm (rat y n).2 := s4.bot h1
  refine ⟨_, pss_one (ps_ret (pe_call G hr (by rfl) gr kr br .nil pass0 (pa_cons (pe_op op_add (pe_op op_mul (pe_ix ix_tup (pv 0) pe_int (fun _ _ => rfl)) (pe_ix ix_tup (pv 1) pe_int (fun _ _ => rfl))) (pe_op op_mul (pe_ix ix_tup (pv 1) pe_int (fun _ _ => rfl)) (pe_ix ix_tup (pv 0) pe_int (fun _ _ => rfl))))
    (pa_cons (pe_op op_mul (pe_ix ix_tup (pv 0) pe_int (fun _ _ => rfl)) (pe_ix ix_tup (pv 1) pe_int (fun _ _ => rfl))) pa_nil)))), ?_⟩
  refine ⟨.ref t, rfl, t, _, _, _, rfl, rfl, ht, atI_nat (j := 0) rfl, .ref u, rfl, u, _, _, _, rfl, rfl, hu, atI_nat (j := 1) rfl, _, _, rfl, rfl, .inl a1.mulok, ?_⟩
  refine ⟨.ref u, rfl, u, _, _, _, rfl, rfl, hu, atI_nat (j := 0) rfl, .ref t, rfl, t, _, _, _, rfl, rfl, ht, atI_nat (j := 1) rfl, _, _, rfl, rfl, .inl b1.mulok, _, _, rfl, rfl, ?_⟩
  refine ⟨.ref t, rfl, t, _, _, _, rfl, rfl, ht, atI_nat (j := 1) rfl, .ref u, rfl, u, _, _, _, rfl, rfl, hu, atI_nat (j := 1) rfl, _, _, rfl, rfl, .inl a2.mulok, ?_⟩
  refine ⟨_, _, rfl, Int.mul_pos (rat_pos h0) (rat_pos h1), sm_prod a2 b2, fun p hp => ?_⟩
  rw [rat_plus h0]
  exact k p hp
theorem ok_lby {f : Addr} {fd : FuncData} (D : Def K mg "_law_by" sLBy ["_law_one", "_law_other"] f fd) (C : Cal P w K mg base "_law_ratio" 1 ["_law_top", "_law_bottom"] spRatio) : Cal P w K mg base "_law_by" 2 ["_law_one", "_law_other"] (spBy K) := by
  obtain ⟨fr, fdr, G, gr, kr, br⟩ := C
  refine D.cal (D.fn.ok scLBy (fun vs H Q E h => two_len h) (fun cdv A outer s H vs Q E hr h => ?_))
  obtain ⟨t, u, x, n, y, m, rfl, ht, hu, h0, h1, s1, s2, s3, s4, _, k⟩ := h
  have a1 : Sm (rat x n).1 := s1.top h0
  have a2 : Sm (rat x n).2 := s2.bot h0
  have b2 : Sm (rat y m).2 := s4.bot h1
  refine ⟨_, pss_one (ps_ret (pe_call G hr (by rfl) gr kr br .nil pass0 (pa_cons (pe_op op_mul (pe_ix ix_tup (pv 0) pe_int (fun _ _ => rfl)) (pe_ix ix_tup (pv 1) pe_int (fun _ _ => rfl))) (pa_cons (pe_op op_mul (pe_ix ix_tup (pv 0) pe_int (fun _ _ => rfl)) (pe_ix ix_tup (pv 1) pe_int (fun _ _ => rfl))) pa_nil)))), ?_⟩
  refine ⟨.ref t, rfl, t, _, _, _, rfl, rfl, ht, atI_nat (j := 0) rfl, .ref u, rfl, u, _, _, _, rfl, rfl, hu, atI_nat (j := 0) rfl, _, _, rfl, rfl, .inl a1.mulok, ?_⟩
  refine ⟨.ref t, rfl, t, _, _, _, rfl, rfl, ht, atI_nat (j := 1) rfl, .ref u, rfl, u, _, _, _, rfl, rfl, hu, atI_nat (j := 1) rfl, _, _, rfl, rfl, .inl a2.mulok, ?_⟩
  refine ⟨_, _, rfl, Int.mul_pos (rat_pos h0) (rat_pos h1), sm_prod a2 b2, fun p hp => ?_⟩
  rw [rat_by h0 h1]
  exact k p hp
theorem ok_lsum {f : Addr} {fd : FuncData} (D : Def K mg "_law_sum" sLSum ["_law_some"] f fd) (C : Cal P w K mg base "_law_plus" 2 ["_law_one", "_law_other"] (spPlus K)) : Cal P w K mg base "_law_sum" 3 ["_law_some"] (spTotal K) := by
  obtain ⟨fr, fdr, G, gr, kr, br⟩ := C
  refine D.cal (D.fn.ok scLSum (fun vs H Q E h => ?_) (fun cdv A outer s H vs Q E hr h => ?_))
  · obtain ⟨l, m, xs, n, rfl, _⟩ := h
    rfl
  obtain ⟨l, m, xs, n, rfl, hR, h0, s0, s1, s2, k⟩ := h
  obtain ⟨ts, em, hl, ht⟩ := hR.ex
  refine ⟨_, pss_cons (ps_set (i := 1) scLSum.nd rfl (.inl rfl) (pe_tup (pa_cons pe_int (pa_cons pe_int pa_nil))))
    (pss_cons (ps_for PassesOwn.never rfl (pi_list (pv 0)) (pg_name (i := 2) scLSum.nd rfl (.inl rfl)) (pss_one (ps_set (i := 1) scLSum.nd rfl (.inl rfl) (pe_call G hr (by rfl) gr kr br .nil pass0 (pa_cons (pv 1) (pa_cons (pv 2) pa_nil))))))
    (pss_one (ps_ret (pv 1)))), ?_⟩
  refine ⟨(by show 2 ≤ sizeLine; decide), fun p0 hp0 => ?_⟩
  have g0 : Grow H (upd H p0 (.tup [.int 0, .int 1])) := Grow.new hp0
  refine ⟨_, rfl, l, rfl, ⟨_, g0.seqL hl⟩, for_list (K := K) (a := l) (xs := ts.map V.ref) (fun i σ H' => ∃ p v, σ = [some (.ref l), some (.ref p), v] ∧ Grow H H' ∧ H p = none ∧ H' p = some (.tup (rt (rat (sm i xs) n))))
    ⟨p0, none, rfl, g0, hp0, ?_⟩ (fun i σ H' _ ⟨_, _, _, g, _⟩ => g.seqL hl) ?_ ?_⟩
  · show upd H p0 (.tup [.int 0, .int 1]) p0 = some (.tup (rt (rat 0 n)))
    rw [upd_same, rat_zero h0]
    rfl
  · rintro i y σ H' hi ⟨p, v, rfl, g, np, hp⟩
    obtain ⟨t, hti, rfl⟩ := at_map hi
    have hlt : i < m := by
      rw [← em]
      exact (List.getElem?_eq_some_iff.mp hti).1
    refine ⟨.ref p, rfl, .ref t, rfl, p, t, sm i xs, n, xs i, n, rfl, .inl (.inl hp), g.seqT (ht i t hti), h0, h0, s2 i (by omega), s0, s1 i hlt, s0, rfl, fun q hq => ?_⟩
    exact ⟨q, _, rfl, g.trans (Grow.new hq), g.free q hq, upd_same⟩
  · rintro σ H' ⟨p, v, rfl, g, np, hp⟩
    refine ⟨.ref p, rfl, k p H' g np ?_⟩
    rw [List.length_map, em] at hp
    exact hp
end
end K45
/-! K45: the law's script, drawn from. -/
namespace K45
open PySem PySem.Spec PyProof.Rows L2
/-- all stays but what lies at r; tables may grow -/
structure GrowX (r : Addr) (H H' : Hp) : Prop where
  get : ∀ b o, b ≠ r → H b = some o → (∀ ps, o ≠ .tbl ps) → H' b = some o
  tab : ∀ T, GxR.TabG H T → GxR.TabG H' T
  free : ∀ b, H' b = none → H b = none
theorem GrowX.refl (r : Addr) (H : Hp) : GrowX r H H := ⟨fun _ _ _ h _ => h, fun _ h => h, fun _ h => h⟩
theorem GrowX.trans {r : Addr} {a b c : Hp} (x : GrowX r a b) (y : GrowX r b c) : GrowX r a c := ⟨fun p o e h n => y.get p o e (x.get p o e h n) n, fun T h => y.tab T (x.tab T h), fun p h => x.free p (y.free p h)⟩
theorem Grow.x {r : Addr} {H H' : Hp} (g : Grow H H') : GrowX r H H' := ⟨fun b o _ h n => g.get b o h n, g.tab, g.free⟩
theorem GrowX.row {r : Addr} {H : Hp} {xs ys : List V} (h : H r = some (.lst xs)) : GrowX r H (upd H r (.lst ys)) :=
  ⟨fun b o e h _ => by rw [upd_ne e]; exact h, fun T ⟨ps, e, t⟩ => ⟨ps, by rw [upd_ne (fun z => by rw [z, h] at e; cases e)]; exact e, t⟩, fun b e => by
    by_cases q : b = r
    · rw [q, upd_same] at e; cases e
    · rw [upd_ne q] at e; exact e⟩
/-- seen from before r was made -/
theorem Grow.thenX {r : Addr} {A H H' : Hp} (g : Grow A H) (n : A r = none) (x : GrowX r H H') : Grow A H' :=
  ⟨fun b o h t => x.get b o (ne_of_none h n) (g.get b o h t) t, fun T t => x.tab T (g.tab T t), fun b h => g.free b (x.free b h)⟩
theorem GrowX.seqT {r : Addr} {K : PySem.W.Frag} {H H' : Hp} {a : Addr} {xs ys : List V} (g : GrowX r H H') (hr : H r = some (.lst ys)) (h : SqT K H a xs) : SqT K H' a xs := by
  rcases h with (h | ⟨o, h⟩) | h
  · exact .inl (.inl (g.get _ _ (fun z => by rw [z, hr] at h; cases h) h fun _ z => nomatch z))
  · exact .inl (.inr ⟨o, g.get _ _ (fun z => by rw [z, hr] at h; cases h) h fun _ z => nomatch z⟩)
  · exact .inr h
/-- the row of a run: the script, the place in it, the seed, what is left of a wide cell -/
structure Row (K : PySem.W.Frag) (H : Hp) (r a : Addr) (ns : List Int) : Prop where
  ex : ∃ i s d : Int, H r = some (.lst [.ref a, .int i, .int s, .int d]) ∧ 0 ≤ i ∧ 0 ≤ s ∧ s < 2147483648
  sc : SqL K H a (ns.map .int)
theorem row_sc {K : PySem.W.Frag} {H : Hp} {r a b : Addr} {i s d : Int} {xs : List V} {ns : List Int} (h : H r = some (.lst [.ref b, .int i, .int s, .int d])) (sc : SqL K H a (ns.map .int)) : SqL K (upd H r (.lst xs)) a (ns.map .int) := by
  rcases sc with (e | ⟨o, e⟩) | e
  · refine .inl (.inl ?_)
    rw [upd_ne (fun z => ?_)]
    · exact e
    · rw [z, h] at e
      cases ns with
      | nil => cases e
      | cons x t => cases e
  · refine .inl (.inr ⟨o, ?_⟩)
    rw [upd_ne (fun z => ?_)]
    · exact e
    · rw [z, h] at e
      cases e
  · exact .inr e
theorem Row.grow {K : PySem.W.Frag} {H H' : Hp} {r a : Addr} {ns : List Int} (R : Row K H r a ns) (g : Grow H H') : Row K H' r a ns := by
  obtain ⟨⟨i, s, d, h, q⟩, sc⟩ := R
  exact ⟨⟨i, s, d, g.lst h, q⟩, g.seqL sc⟩
theorem Row.at {K : PySem.W.Frag} {H : Hp} {r a : Addr} {ns : List Int} (R : Row K H r a ns) : ∃ xs, H r = some (.lst xs) := by
  obtain ⟨⟨i, s, d, h, q⟩, sc⟩ := R
  exact ⟨_, h⟩
section
variable {P : Program} {w : World} {K : PySem.W.Frag} {mg : Str → Option Value} {base : Heap}
abbrev NTk : List Str := ["_law_row", "_law_many", "_law_found", "_law_cell"]
theorem scTaken : FnScope NTk ["_law_row", "_law_many"] (defScope sTaken) := ⟨rfl, rfl, rfl, by decide +kernel, rfl, by decide +kernel, by decide +kernel⟩
def spTaken (K : PySem.W.Frag) : Sp := fun vs H Q _ => ∃ (r a : Addr) (ns : List Int) (many : Int), vs = [.ref r, .int many] ∧ Row K H r a ns ∧ 0 < many ∧ many < 1000 ∧
  ∀ v H', 0 ≤ v → v < many → Row K H' r a ns → GrowX r H H' → Q (.int v) H'
theorem fm_bd {x m : Int} (h : 0 < m) : 0 ≤ x.fmod m ∧ x.fmod m < m := by
  rw [Int.fmod_eq_emod_of_nonneg _ (by omega)]
  exact ⟨Int.emod_nonneg _ (by omega), Int.emod_lt_of_pos _ h⟩
theorem ok_taken {f : Addr} {fd : FuncData} (D : Def K mg "_law_taken" sTaken ["_law_row", "_law_many"] f fd) (B : Blt mg) : Cal P w K mg base "_law_taken" 1 ["_law_row", "_law_many"] (spTaken K) := by
  have nd := scTaken.nd
  refine D.cal (D.fn.ok scTaken (fun vs H Q E h => ?_) (fun cdv A outer s H vs Q E hr h => ?_))
  · obtain ⟨r, a, ns, many, rfl, _⟩ := h
    rfl
  obtain ⟨r, a, ns, many, rfl, ⟨⟨i, s, d, hrow, hi, hs0, hs1⟩, sc⟩, hm0, hm1, k⟩ := h
  refine ⟨_, pss_cons (ps_if (pt_cmpR op_gt (pe_ix ix_list (pv 0) pe_int (fun _ _ => rfl)) pe_int (nomark _))
      (pss_cons (ps_set (i := 2) nd rfl (.inl rfl) (pe_op op_modN (pe_callTy call_int1 (by rfl) B.int PyProof.Rows.boot_int (pa_cons (pe_ix ix_list (pv 0) pe_int (fun _ _ => rfl)) pa_nil)) (pv 1)))
      (pss_cons (ps_asg (pe_op op_fdivN (pe_ix ix_list (pv 0) pe_int (fun _ _ => rfl)) (pv 1)) (pg_sub (pv 0) pe_int set_list))
      (pss_one (ps_ret (pv 2))))) pss_nil)
    (pss_cons (ps_asg (pe_op op_add (pe_ix ix_list (pv 0) pe_int (fun _ _ => rfl)) pe_int) (pg_sub (pv 0) pe_int set_list))
    (pss_cons (ps_if (pt_cmpR op_gt (pe_ix ix_list (pv 0) pe_int (fun _ _ => rfl)) (pe_callB call_len (by rfl) B.len boot_len (pa_cons (pe_ix ix_list (pv 0) pe_int (fun _ _ => rfl)) pa_nil)) (nomark _))
      (pss_cons (ps_asg (pe_op op_modN (pe_callTy call_int1 (by rfl) B.int PyProof.Rows.boot_int (pa_cons (pe_op op_add (pe_op op_mul (pe_ix ix_list (pv 0) pe_int (fun _ _ => rfl)) pe_int) pe_int) pa_nil)) pe_int) (pg_sub (pv 0) pe_int set_list))
      (pss_one (ps_ret (pe_op op_modN (pe_callTy call_int1 (by rfl) B.int PyProof.Rows.boot_int (pa_cons (pe_op op_fdivN (pe_ix ix_list (pv 0) pe_int (fun _ _ => rfl)) pe_int) pa_nil)) (pv 1))))) pss_nil)
    (pss_cons (ps_set (i := 3) nd rfl (.inl rfl) (pe_ix ix_list (pe_ix ix_list (pv 0) pe_int (fun _ _ => rfl)) (pe_op op_sub (pe_ix ix_list (pv 0) pe_int (fun _ _ => rfl)) pe_int) (fun _ _ => rfl)))
    (pss_cons (ps_asg (pe_op op_modN (pe_callTy call_int1 (by rfl) B.int PyProof.Rows.boot_int (pa_cons (pe_op op_add (pe_op op_add (pe_op op_mul (pe_ix ix_list (pv 0) pe_int (fun _ _ => rfl)) pe_int) (pv 3)) pe_int) pa_nil)) pe_int) (pg_sub (pv 0) pe_int set_list))
    (pss_cons (ps_if (pt_cmpR op_ge (pv 3) (pe_op op_pow pe_int pe_int) (nomark _))
      (pss_one (ps_asg (pe_op op_fdivN (pv 3) (pv 1)) (pg_sub (pv 0) pe_int set_list))) pss_nil)
    (pss_one (ps_ret (pe_op op_modN (pe_callTy call_int1 (by rfl) B.int PyProof.Rows.boot_int (pa_cons (pv 3) pa_nil)) (pv 1))))))))), ?_⟩
  have sq : ∀ {H : Hp} {xs : List V}, H r = some (.lst xs) → SqL K H r xs := fun h => .inl (.inl h)
  have cd : CDivN d many := ⟨by omega, by omega⟩
  refine ⟨.ref r, rfl, r, _, 3, .int d, rfl, rfl, sq hrow, rfl, d, 0, rfl, rfl, _, rfl, ?_⟩
  by_cases h0 : 0 < d
  · rw [decide_eq_true h0]
    refine iteT ⟨.ref r, rfl, r, _, 3, .int d, rfl, rfl, sq hrow, rfl, .inl ⟨d, rfl, .int many, rfl, d, many, rfl, rfl, by omega, ?_⟩⟩
    refine ⟨.ref r, rfl, r, _, 3, .int d, rfl, rfl, sq hrow, rfl, .int many, rfl, d, many, rfl, rfl, cd, .ref r, rfl, r, _, 3, 3, rfl, rfl, hrow, rfl, ?_⟩
    exact ⟨.int (d.fmod many), rfl, k _ _ (fm_bd hm0).1 (fm_bd hm0).2 ⟨⟨i, s, d.fdiv many, upd_same, hi, hs0, hs1⟩, row_sc hrow sc⟩ (GrowX.row hrow)⟩
  rw [decide_eq_false h0]
  refine iteF ?_
  refine ⟨.ref r, rfl, r, _, 1, .int i, rfl, rfl, sq hrow, rfl, i, 1, rfl, rfl, .ref r, rfl, r, _, 1, 1, rfl, rfl, hrow, rfl, ?_⟩
  have h1 : upd H r (.lst [.ref a, .int (i + 1), .int s, .int d]) r = some (.lst [.ref a, .int (i + 1), .int s, .int d]) := upd_same
  have sc1 : SqL K (upd H r (.lst [.ref a, .int (i + 1), .int s, .int d])) a (ns.map .int) := row_sc hrow sc
  have x1 : GrowX r H (upd H r (.lst [.ref a, .int (i + 1), .int s, .int d])) := GrowX.row hrow
  refine ⟨.ref r, rfl, r, _, 1, .int (i + 1), rfl, rfl, sq h1, rfl, .ref r, rfl, r, _, 0, .ref a, rfl, rfl, sq h1, rfl, .ref a, ns.length, rfl, .inl ⟨_, sc1, by rw [List.length_map]⟩, i + 1, (ns.length : Int), rfl, rfl, _, rfl, ?_⟩
  by_cases hb : (ns.length : Int) < i + 1
  · rw [decide_eq_true hb]
    refine iteT ⟨.ref r, rfl, r, _, 2, .int s, rfl, rfl, sq h1, rfl, s, 48271, rfl, rfl, .inr ⟨by decide, by decide⟩, s * 48271, 11, rfl, rfl, .inl ⟨_, rfl, _, 2147483647, rfl, rfl, (show (2147483647 : Int) ≠ 0 by decide), .ref r, rfl, r, _, 2, 2, rfl, rfl, h1, rfl, ?_⟩⟩
    have b2 := fm_bd (x := s * 48271 + 11) (show (0 : Int) < 2147483647 by decide)
    refine ⟨.ref r, rfl, r, _, 2, .int ((s * 48271 + 11).fmod 2147483647), rfl, rfl, sq upd_same, rfl, _, 7, rfl, rfl, ⟨by decide, by decide⟩, .inl ⟨_, rfl, .int many, rfl, _, many, rfl, rfl, by omega, ?_⟩⟩
    exact k _ _ (fm_bd hm0).1 (fm_bd hm0).2 ⟨⟨i + 1, _, d, upd_same, by omega, b2.1, by omega⟩, row_sc h1 sc1⟩ (x1.trans (GrowX.row h1))
  rw [decide_eq_false hb]
  refine iteF ?_
  obtain ⟨j, rfl⟩ := Int.eq_ofNat_of_zero_le hi
  have hj : j < ns.length := by omega
  have ej : (j : Int) + 1 - 1 = (j : Nat) := by omega
  refine ⟨.ref r, rfl, r, _, 0, .ref a, rfl, rfl, sq h1, rfl, .ref r, rfl, r, _, 1, .int ((j : Int) + 1), rfl, rfl, sq h1, rfl, (j : Int) + 1, 1, rfl, rfl, a, _, (j : Int) + 1 - 1, .int (ns[j]'hj), rfl, rfl, sc1, ?_, ?_⟩
  · rw [ej]
    exact atI_nat (by rw [List.getElem?_map, List.getElem?_eq_getElem hj]; rfl)
  generalize (ns[j]'hj) = cell
  refine ⟨.ref r, rfl, r, _, 2, .int s, rfl, rfl, sq h1, rfl, s, 48271, rfl, rfl, .inr ⟨by decide, by decide⟩, .int cell, rfl, _, cell, rfl, rfl, _, 11, rfl, rfl, .inl ⟨_, rfl, _, 2147483647, rfl, rfl, (show (2147483647 : Int) ≠ 0 by decide), .ref r, rfl, r, _, 2, 2, rfl, rfl, h1, rfl, ?_⟩⟩
  have b2 := fm_bd (x := s * 48271 + cell + 11) (show (0 : Int) < 2147483647 by decide)
  have h2 : ∀ ys, upd (upd H r (.lst [.ref a, .int ((j : Int) + 1), .int s, .int d])) r ys r = some ys := fun _ => upd_same
  have x2 := x1.trans (GrowX.row (ys := [.ref a, .int ((j : Int) + 1), .int ((s * 48271 + cell + 11).fmod 2147483647), .int d]) h1)
  have sc2 := row_sc (xs := [.ref a, .int ((j : Int) + 1), .int ((s * 48271 + cell + 11).fmod 2147483647), .int d]) h1 sc1
  refine ⟨.int cell, rfl, 10, 18, rfl, rfl, ⟨by decide, by decide, by decide⟩, cell, 10 ^ 18, rfl, rfl, _, rfl, ?_⟩
  by_cases hw : (10 : Int) ^ 18 ≤ cell
  · rw [decide_eq_true hw]
    refine iteT ⟨.int cell, rfl, .int many, rfl, cell, many, rfl, rfl, ⟨by omega, by omega⟩, .ref r, rfl, r, _, 3, 3, rfl, rfl, h2 _, rfl, ?_⟩
    exact ⟨.int cell, rfl, .inl ⟨cell, rfl, .int many, rfl, cell, many, rfl, rfl, by omega, k _ _ (fm_bd hm0).1 (fm_bd hm0).2 ⟨⟨(j : Int) + 1, _, cell.fdiv many, upd_same, by omega, b2.1, by omega⟩, row_sc (h2 _) sc2⟩ (x2.trans (GrowX.row (h2 _)))⟩⟩
  · rw [decide_eq_false hw]
    exact iteF ⟨.int cell, rfl, .inl ⟨cell, rfl, .int many, rfl, cell, many, rfl, rfl, by omega, k _ _ (fm_bd hm0).1 (fm_bd hm0).2 ⟨⟨(j : Int) + 1, _, d, upd_same, by omega, b2.1, by omega⟩, sc2⟩ x2⟩⟩
abbrev NPk : List Str := ["_law_row", "_law_things"]
theorem scPick : FnScope NPk ["_law_row", "_law_things"] (defScope sPick) := ⟨rfl, rfl, rfl, by decide +kernel, rfl, by decide +kernel, by decide +kernel⟩
def spPick (K : PySem.W.Frag) : Sp := fun vs H Q _ => ∃ (r a l : Addr) (ns : List Int) (xs : List V), vs = [.ref r, .ref l] ∧ Row K H r a ns ∧ SqL K H l xs ∧ l ≠ r ∧ 0 < xs.length ∧ xs.length < 1000 ∧
  ∀ v H', v ∈ xs → Row K H' r a ns → GrowX r H H' → Q v H'
theorem ok_pick {f : Addr} {fd : FuncData} (D : Def K mg "_law_pick" sPick ["_law_row", "_law_things"] f fd) (B : Blt mg) (C : Cal P w K mg base "_law_taken" 1 ["_law_row", "_law_many"] (spTaken K)) : Cal P w K mg base "_law_pick" 2 ["_law_row", "_law_things"] (spPick K) := by
  obtain ⟨fr, fdr, G, gr, kr, br⟩ := C
  refine D.cal (D.fn.ok scPick (fun vs H Q E h => ?_) (fun cdv A outer s H vs Q E hr h => ?_))
  · obtain ⟨r, a, l, ns, xs, rfl, _⟩ := h
    rfl
  obtain ⟨r, a, l, ns, xs, rfl, R, hl, hne, h0, h1, k⟩ := h
  refine ⟨_, pss_one (ps_ret (pe_ix ix_list (pv 1) (pe_call G hr (by rfl) gr kr br .nil pass0 (pa_cons (pv 0) (pa_cons (pe_callB call_len (by rfl) B.len boot_len (pa_cons (pv 1) pa_nil)) pa_nil))) (fun _ _ => rfl))), ?_⟩
  refine ⟨.ref l, rfl, .ref r, rfl, .ref l, rfl, .ref l, xs.length, rfl, .inl ⟨_, hl, rfl⟩, r, a, ns, (xs.length : Int), rfl, R, by omega, by omega, fun v H' v0 v1 R' g => ?_⟩
  obtain ⟨j, rfl⟩ := Int.eq_ofNat_of_zero_le v0
  have hj : j < xs.length := by omega
  have hl' : SqL K H' l xs := by
    rcases hl with (h | ⟨o, h⟩) | h
    · exact .inl (.inl (g.get _ _ hne h fun _ z => nomatch z))
    · exact .inl (.inr ⟨o, g.get _ _ hne h fun _ z => nomatch z⟩)
    · exact .inr h
  exact ⟨l, xs, (j : Int), xs[j], rfl, rfl, hl', atI_nat (List.getElem?_eq_getElem hj), k _ H' (List.getElem_mem hj) R' g⟩
end
end K45
/-! K45: the law's outcomes. -/
namespace K45
open PySem PySem.Spec PyProof.Rows L2
theorem GrowX.wr {r : Addr} {H H' : Hp} {D : Addr} {xs : List V} (g : GrowX r H H') (h : H D = none) (e : H' D ≠ none) : GrowX r H (upd H' D (.lst xs)) :=
  ⟨fun b o q h2 n => by rw [upd_ne (ne_of_none h2 h)]; exact g.get b o q h2 n, fun T t => by
    obtain ⟨ps, e2, t2⟩ := t
    obtain ⟨qs, e3, t3⟩ := g.tab T ⟨ps, e2, t2⟩
    exact ⟨qs, by rw [upd_ne (ne_of_none e2 h)]; exact e3, t3⟩, fun b q => by
    by_cases z : b = D
    · rw [z]; exact h
    · rw [upd_ne z] at q; exact g.free b q⟩
theorem Row.wr {K : PySem.W.Frag} {A H : Hp} {r a D : Addr} {ns : List Int} {o : HO} (R0 : Row K A r a ns) (n : A D = none) (R : Row K H r a ns) : Row K (upd H D o) r a ns := by
  obtain ⟨⟨i0, s0, d0, h0, _⟩, sc0⟩ := R0
  obtain ⟨⟨i, s, d, h, q⟩, sc⟩ := R
  refine ⟨⟨i, s, d, by rw [upd_ne (ne_of_none h0 n)]; exact h, q⟩, ?_⟩
  have hn : ∀ {b : Addr} {o : HO}, A b = some o → b ≠ D := fun e => ne_of_none e n
  rcases sc0 with (e0 | ⟨w0, e0⟩) | e0
  · rcases sc with (e | ⟨w, e⟩) | e
    · exact .inl (.inl (by rw [upd_ne (hn e0)]; exact e))
    · exact .inl (.inr ⟨w, by rw [upd_ne (hn e0)]; exact e⟩)
    · exact .inr e
  · rcases sc with (e | ⟨w, e⟩) | e
    · exact .inl (.inl (by rw [upd_ne (hn e0)]; exact e))
    · exact .inl (.inr ⟨w, by rw [upd_ne (hn e0)]; exact e⟩)
    · exact .inr e
  · exact .inr e0
theorem GrowX.lst {r : Addr} {H H' : Hp} {l : Addr} {xs : List V} (g : GrowX r H H') (n : l ≠ r) (h : H l = some (.lst xs)) : H' l = some (.lst xs) := g.get _ _ n h fun _ z => nomatch z
theorem Row.ne {K : PySem.W.Frag} {H : Hp} {r a D : Addr} {ns : List Int} (R : Row K H r a ns) (n : H D = none) : D ≠ r := by
  obtain ⟨xs, h⟩ := R.at
  exact fun z => by rw [z, h] at n; cases n
theorem OutAt.growX {K : PySem.W.Frag} {H H' : Hp} {t r a : Addr} {ns : List Int} {o : Int × List Int} (h : OutAt K H t o) (R : Row K H r a ns) (g : GrowX r H H') : OutAt K H' t o := by
  obtain ⟨xs, hr⟩ := R.at
  obtain ⟨tl, a, b⟩ := h
  exact ⟨tl, g.seqT hr a, g.seqT hr b⟩
theorem OutAt.wr {K : PySem.W.Frag} {H : Hp} {t L : Addr} {ys zs : List V} {o : Int × List Int} (h : OutAt K H t o) (hL : H L = some (.lst ys)) : OutAt K (upd H L (.lst zs)) t o := by
  obtain ⟨tl, a, b⟩ := h
  exact ⟨tl, sqT_lst a hL, sqT_lst b hL⟩
section
variable {P : Program} {w : World} {K : PySem.W.Frag} {mg : Str → Option Value} {base : Heap}
abbrev NOu : List Str := ["_law_row", "_law_many", "_law_found", "_law_k", "_law_j"]
theorem scLOut : FnScope NOu ["_law_row"] (defScope sLOut) := ⟨rfl, rfl, rfl, by decide +kernel, rfl, by decide +kernel, by decide +kernel⟩
def spLOut (K : PySem.W.Frag) : Sp := fun vs H Q _ => ∃ (r a : Addr) (ns : List Int), vs = [.ref r] ∧ Row K H r a ns ∧
  ∀ p H' m os, OutsAt K H' p os → OutsOk m os → Row K H' r a ns → GrowX r H H' → Q (.ref p) H'
theorem ok_louts {f : Addr} {fd : FuncData} (D : Def K mg "_law_outcomes" sLOut ["_law_row"] f fd) (B : Blt mg) (Ct : Cal P w K mg base "_law_taken" 1 ["_law_row", "_law_many"] (spTaken K)) (Cp : Cal P w K mg base "_law_pick" 2 ["_law_row", "_law_things"] (spPick K)) :
    Cal P w K mg base "_law_outcomes" 3 ["_law_row"] (spLOut K) := by
  obtain ⟨ft, fdt, Gt, gt, kt, bt⟩ := Ct
  obtain ⟨fp, fdp, Gp, gp, kp, bp⟩ := Cp
  have nd := scLOut.nd
  refine D.cal (D.fn.ok scLOut (fun vs H Q E h => ?_) (fun cdv A outer s H vs Q E hr h => ?_))
  · obtain ⟨r, a, ns, rfl, _⟩ := h
    rfl
  obtain ⟨r, a, ns, rfl, R, k⟩ := h
  have hr1 : Room 1 _ := hr.mono (by decide)
  refine ⟨_, pss_cons (ps_par (i := 1) (j := 2) rfl nd rfl rfl (by decide) rfl rfl (pa_cons (pe_op op_add pe_int (pe_call Gt hr1 (by rfl) gt kt bt .nil pass0 (pa_cons (pv 0) (pa_cons pe_int pa_nil)))) (pa_cons (pe_lst pa_nil) pa_nil)) (by rfl))
    (pss_cons (ps_for PassesOwn.never rfl (pi_range1 (by rfl) B.range (pa_cons (pe_op op_add pe_int (pe_call Gt hr1 (by rfl) gt kt bt .nil pass0 (pa_cons (pv 0) (pa_cons pe_int pa_nil)))) pa_nil)) (pg_name (i := 3) nd rfl (.inl rfl))
      (pss_one (ps_expr (pe_bm PySem.F.plainAttrs_list PySem.F.slot_list_append PySem.F.type_list_append mt_append (pv 2) (pa_cons (pe_tup (pa_cons
          (pe_call Gp hr (by rfl) gp kp bp .nil pass0 (pa_cons (pv 0) (pa_cons (pe_lst (pa_cons pe_int (pa_cons pe_int (pa_cons pe_int (pa_cons pe_int (pa_cons pe_int pa_nil)))))) pa_nil)))
          (pa_cons (pe_callTy call_tuple_of (by rfl) B.tuple PyProof.Rows.boot_tuple (pa_cons
            (pe_lc (own := [("_law_j", 4)]) (g := gName 4) (tt := tYes) rfl nd (pi_range1 (by rfl) B.range (pa_cons (pv 1) pa_nil)) (blkOk_by (own := [("_law_j", 4)]) (N := NOu) (sc := defScope sLOut) (by decide +kernel))
              (fun _ _ _ _ _ => pg_name (i := 4) nd rfl (Or.inl rfl)) (fun _ _ _ _ _ => pts_nil)
              (fun _ _ _ _ _ => pe_call Gp hr (by rfl) gp kp bp .nil pass0 (pa_cons (pv 0) (pa_cons (pe_lst (pa_cons pe_int (pa_cons pe_int (pa_cons pe_int (pa_cons pe_int (pa_cons (pe_call Gt hr1 (by rfl) gt kt bt .nil pass0 (pa_cons (pv 0) (pa_cons pe_int pa_nil))) pa_nil)))))) pa_nil)))) pa_nil)) pa_nil))) pa_nil)))))
    (pss_one (ps_ret (pe_callTy call_tuple_of (by rfl) B.tuple PyProof.Rows.boot_tuple (pa_cons (pv 2) pa_nil))))), ?_⟩
  refine ⟨.ref r, rfl, r, a, ns, 3, rfl, R, by decide, by decide, fun v H1 v0 v1 R1 g1 => ⟨1, v, rfl, rfl, Nat.zero_le _, fun F nF => ⟨_, _, rfl, ?_⟩⟩⟩
  obtain ⟨m, hm⟩ : ∃ m : Nat, (1 + v).toNat = m := ⟨_, rfl⟩
  have m1 : 1 ≤ m := by omega
  have m4 : m ≤ 3 := by omega
  have RF : Row K (upd H1 F (.lst [])) r a ns := R1.grow (Grow.new nF)
  refine ⟨.ref r, rfl, r, a, ns, 4, rfl, RF, by decide, by decide, fun u H3 u0 u1 R3 g3 => ⟨1, u, rfl, rfl, 1 + u, rfl, by omega, by omega, ?_⟩⟩
  have neF : F ≠ r := R1.ne nF
  have gF : GrowX r H1 H3 := (Grow.new (o := .lst []) nF).x.trans g3
  have hF3 : H3 F = some (.lst []) := g3.lst neF upd_same
  refine for_range (lo := 0) (n := (1 + u).toNat) (fun i σ H' => ∃ w, σ = [some (.ref r), some (.int (1 + v)), some (.ref F), w, none] ∧ Row K H' r a ns ∧ GrowX r H1 H' ∧ ∃ (ts : List Addr) (os : List (Int × List Int)), ts.length = i ∧ os.length = i ∧ H' F = some (.lst (ts.map V.ref)) ∧
      (∀ (j : Nat) (t : Addr) (o : Int × List Int), ts[j]? = some t → os[j]? = some o → OutAt K H' t o) ∧ ∀ o ∈ os, OutOk m o)
    ⟨none, rfl, R3, gF, [], [], rfl, rfl, hF3, fun j t o h => by simp at h, fun o h => by simp at h⟩ ?_ ?_
  · rintro i σ H4 hi ⟨wk, rfl, R4, g4, ts, os, e1, e2, hF, hts, hos⟩
    refine ⟨.ref F, rfl, .inl ⟨rfl, _, .inl (.inl hF)⟩, .ref r, rfl, (by show 5 ≤ sizeLine; decide), fun l nl => ?_⟩
    have gl := (Grow.new (o := .lst [.int 1, .int 1, .int 2, .int 5, .int 100]) nl)
    refine ⟨r, a, l, ns, _, rfl, R4.grow gl, .inl (.inl upd_same), R4.ne nl, by decide, by decide, fun wt H5 hw R5 g5 => ?_⟩
    obtain ⟨wi, rfl, w1, w2⟩ : ∃ x : Int, wt = .int x ∧ 1 ≤ x ∧ x ≤ 1000 := by
      simp only [List.mem_cons, List.not_mem_nil, or_false] at hw
      rcases hw with h | h | h | h | h <;> exact ⟨_, h, by decide, by decide⟩
    have G5 : GrowX r H4 H5 := gl.x.trans g5
    refine ⟨.int (1 + v), rfl, 1 + v, rfl, by omega, by omega, fun Dn nD => ?_⟩
    refine lc_range (lo := 0) (n := (1 + v).toNat) (fun j H' => Row K H' r a ns ∧ GrowX r H5 H' ∧ ∃ xs : List Int, xs.length = j ∧ H' Dn = some (.lst (xs.map V.int)) ∧ ∀ x ∈ xs, 0 ≤ x ∧ x ≤ 1000)
      ⟨R5.grow (Grow.new nD), (Grow.new nD).x, [], rfl, upd_same, fun x hx => by simp at hx⟩ ?_ ?_
    · rintro j H6 hj ⟨R6, g6, xs, ex, hD, hxs⟩
      refine ⟨rfl, .ref r, rfl, .ref r, rfl, r, a, ns, 50, rfl, R6, by decide, by decide, fun y H7 y0 y1 R7 g7 => ⟨(by show 5 ≤ sizeLine; decide), fun l2 nl2 => ?_⟩⟩
      have gl2 := (Grow.new (o := .lst [.int 0, .int 0, .int 10, .int 100, .int y]) nl2)
      refine ⟨r, a, l2, ns, _, rfl, R7.grow gl2, .inl (.inl upd_same), R7.ne nl2, by simp, by simp, fun z H8 hz R8 g8 => ?_⟩
      obtain ⟨zi, rfl, z1, z2⟩ : ∃ x : Int, z = .int x ∧ 0 ≤ x ∧ x ≤ 1000 := by
        simp only [List.mem_cons, List.not_mem_nil, or_false] at hz
        rcases hz with h | h | h | h | h
        · exact ⟨_, h, by decide, by decide⟩
        · exact ⟨_, h, by decide, by decide⟩
        · exact ⟨_, h, by decide, by decide⟩
        · exact ⟨_, h, by decide, by decide⟩
        · exact ⟨_, h, by omega, by omega⟩
      have g68 : GrowX r H6 H8 := g7.trans (gl2.x.trans g8)
      have hD8 := g68.lst (R5.ne nD) hD
      have hj3 : j < m := by rw [← hm]; exact hj
      refine ⟨_, hD8, by rw [List.length_map]; exact small1000 (by omega), R5.wr nD R8, (g6.trans g68).wr nD (by rw [hD8]; exact fun z => by cases z), xs ++ [zi], by simp [ex], by rw [upd_same, List.map_append]; rfl, fun x hx => ?_⟩
      rcases List.mem_append.mp hx with h | h
      · exact hxs x h
      · rw [List.mem_singleton.mp h]
        exact ⟨z1, z2⟩
    · rintro H6 ⟨R6, g6, xs, ex, hD, hxs⟩
      refine ⟨Dn, _, rfl, .inl ⟨.inl (.inl hD), fun tl ntl => ?_⟩⟩
      have gtl := (Grow.new (o := .tup (xs.map V.int)) ntl)
      refine ⟨(by show 2 ≤ sizeLine; decide), fun t nt => ?_⟩
      have gt' := (Grow.new (o := .tup [.int wi, .ref tl]) nt)
      have g46 : GrowX r H4 (upd (upd H6 tl (.tup (xs.map V.int))) t (.tup [.int wi, .ref tl])) := ((G5.trans g6).trans gtl.x).trans gt'.x
      have hF9 := g46.lst neF hF
      have R9 := (R6.grow gtl).grow gt'
      have i3 : i < 4 := by omega
      refine ⟨F, _, _, rfl, rfl, hF9, by rw [List.length_map]; exact small1000 (by omega), ?_⟩
      refine ⟨_, rfl, R1.wr nF R9, (g4.trans g46).wr nF (by rw [hF9]; exact fun z => by cases z), ts ++ [t], os ++ [(wi, xs)], by simp [e1], by simp [e2], by rw [upd_same, List.map_append]; rfl, ?_, ?_⟩
      · intro j t' o hj ho
        rcases Nat.lt_or_ge j i with h | h
        · rw [List.getElem?_append_left (by omega)] at hj ho
          exact ((hts j t' o hj ho).growX R4 g46).wr hF9
        · rw [List.getElem?_append_right (by omega)] at hj ho
          have ej : j - ts.length = 0 := by
            have := (List.getElem?_eq_some_iff.mp hj).1
            simp at this
            omega
          have eo : j - os.length = 0 := by omega
          rw [ej] at hj
          rw [eo] at ho
          have et : t = t' := by simpa using hj
          have eo2 : (wi, xs) = o := by simpa using ho
          subst et eo2
          refine OutAt.wr ⟨tl, tup_new, ?_⟩ hF9
          exact gt'.seqT tup_new
      · intro o ho
        rcases List.mem_append.mp ho with h | h
        · exact hos o h
        · rw [List.mem_singleton.mp h]
          exact ⟨w1, w2, by rw [ex, hm], fun l hl => (hxs l hl).1, fun l hl => (hxs l hl).2⟩
  · rintro σ H4 ⟨wk, rfl, R4, g4, ts, os, e1, e2, hF, hts, hos⟩
    refine ⟨.ref F, rfl, F, _, rfl, .inl ⟨.inl (.inl hF), fun p np => ?_⟩⟩
    have gp' := (Grow.new (o := .tup (ts.map V.ref)) np)
    exact k p _ m os ⟨ts, tup_new, by omega, fun j t o hj ho => (hts j t o hj ho).grow gp'⟩ ⟨m1, by omega, by omega, by omega, hos⟩ (R4.grow gp') ((g1.trans g4).trans gp'.x)
end
end K45
/-! K45: the law's groups; what is compared as data. -/
namespace K45
open PySem PySem.Spec PyProof.Rows L2
theorem op_catK {X : Cx} {K : PySem.W.Frag} (hK : X.K = K) : OpR X (binaryOp .Add) (rCatA K) := by
  subst hK
  exact op_catA
theorem op_neDK {X : Cx} {K : PySem.W.Frag} (hK : X.K = K) (hu : X.A.units + 64 < cLine) : OpR X (compareOp .NotEq) (rNeD K) := by
  subst hK
  exact op_neD hu
theorem lay_ints : ∀ ns : List Int, PyData.canLayAll0 (ns.map PyData.int) = true ∧ PyData.depthAll (ns.map PyData.int) = 0
  | [] => by simp [PyData.canLayAll0, PyData.depthAll]
  | x :: xs => by
    obtain ⟨a, b⟩ := lay_ints xs
    rw [List.map_cons]
    simp only [PyData.canLayAll0, PyData.depthAll, PyData.canLay0, PyData.depth, a, b]
    exact ⟨rfl, rfl⟩
theorem shp_tup (ns : List Int) : SeqAt.shaped (.tuple (ns.map PyData.int)) = true := by
  unfold SeqAt.shaped
  simp only [PyData.canLay0, PyData.depth, (lay_ints ns).1, (lay_ints ns).2]
  decide
theorem shp_lst (ns : List Int) : SeqAt.shaped (.list (ns.map PyData.int)) = true := by
  unfold SeqAt.shaped
  simp only [PyData.canLay0, PyData.depth, (lay_ints ns).1, (lay_ints ns).2]
  decide
theorem dp_ints {K : PySem.W.Frag} {H : Hp} : ∀ ns : List Int, DpAll K H (ns.map V.int) (ns.map PyData.int)
  | [] => .nil
  | _ :: xs => .cons (.int _) (dp_ints xs)
theorem dp_tup {K : PySem.W.Frag} {H : Hp} {t : Addr} {ns : List Int} (h : SqT K H t (ns.map V.int)) : Dp K H (.ref t) (.tuple (ns.map PyData.int)) := .tup h (dp_ints ns)
theorem dp_lst {K : PySem.W.Frag} {H : Hp} {t : Addr} {ns : List Int} (h : SqL K H t (ns.map V.int)) : Dp K H (.ref t) (.list (ns.map PyData.int)) := .lst h (dp_ints ns)
theorem eqv_self : ∀ ns : List Int, PyData.eqvAll (ns.map PyData.int) (ns.map PyData.int) = true
  | [] => by simp [PyData.eqvAll]
  | x :: xs => by
    rw [List.map_cons]
    simp only [PyData.eqvAll, PyData.eqv, eqv_self xs]
    simp
/-- a group among i -/
structure Gd (i : Nat) (gs : List Nat) : Prop where
  lt : ∀ g ∈ gs, g < i
  asc : ∀ (j : Nat) (x y : Nat), gs[j]? = some x → gs[j + 1]? = some y → x < y
  len : gs.length ≤ i
  full : gs.length = i → gs = List.range i
theorem Gd.up {i : Nat} {gs : List Nat} (h : Gd i gs) : Gd (i + 1) gs := ⟨fun g hg => by have := h.lt g hg; omega, h.asc, by have := h.len; omega, fun e => by have := h.len; omega⟩
theorem Gd.put {i : Nat} {gs : List Nat} (h : Gd i gs) : Gd (i + 1) (gs ++ [i]) := by
  refine ⟨fun g hg => ?_, fun j x y hx hy => ?_, by have := h.len; simp; omega, fun e => ?_⟩
  · rcases List.mem_append.mp hg with q | q
    · have := h.lt g q
      omega
    · rw [List.mem_singleton.mp q]
      omega
  · rcases Nat.lt_or_ge (j + 1) gs.length with q | q
    · rw [List.getElem?_append_left (by omega)] at hx
      rw [List.getElem?_append_left q] at hy
      exact h.asc j x y hx hy
    · rw [List.getElem?_append_right q] at hy
      have ej : j + 1 - gs.length = 0 := by
        have := (List.getElem?_eq_some_iff.mp hy).1
        simp at this
        omega
      rw [ej] at hy
      have ey : i = y := by simpa using hy
      rw [List.getElem?_append_left (by omega)] at hx
      have := h.lt x (List.mem_of_getElem? hx)
      omega
  · have e2 : gs.length = i := by simpa using e
    rw [List.range_succ, ← h.full e2]
theorem natV_app (gs : List Nat) (i : Nat) : natV gs ++ [V.int (i : Int)] = natV (gs ++ [i]) := by simp [natV]
section
variable {P : Program} {w : World} {K : PySem.W.Frag} {mg : Str → Option Value} {base : Heap}
abbrev NGr : List Str := ["_law_many", "_law_found", "_law_k", "_law_group"]
theorem scLGroups : FnScope NGr ["_law_many"] (defScope sLGroups) := ⟨rfl, rfl, rfl, by decide +kernel, rfl, by decide +kernel, by decide +kernel⟩
def spGroups (K : PySem.W.Frag) : Sp := fun vs H Q _ => ∃ (m : Nat), vs = [.int (m : Int)] ∧ 1 ≤ m ∧ m ≤ 4 ∧
  ∀ p H' (ts : List Addr), Grow H H' → H p = none → H' p = some (.lst (ts.map V.ref)) → (∀ t ∈ ts, ∃ gs, Gd m gs ∧ gs ≠ [] ∧ SqT K H' t (natV gs)) → Q (.ref p) H'
theorem pow_le {i : Nat} (h : i ≤ 4) : 2 ^ i ≤ 16 := Nat.pow_le_pow_right (by decide) h
theorem ok_lgroups {f : Addr} {fd : FuncData} (D : Def K mg "_law_groups" sLGroups ["_law_many"] f fd) (B : Blt mg) : Cal P w K mg base "_law_groups" 1 ["_law_many"] (spGroups K) := by
  have nd := scLGroups.nd
  refine D.cal (D.fn.ok scLGroups (fun vs H Q E h => ?_) (fun cdv A outer s H vs Q E hr h => ?_))
  · obtain ⟨m, rfl, _⟩ := h
    rfl
  obtain ⟨m, rfl, m1, m4, k⟩ := h
  refine ⟨_, pss_cons (ps_set (i := 1) nd rfl (.inl rfl) (pe_lst (pa_cons (pe_tup pa_nil) pa_nil)))
    (pss_cons (ps_for PassesOwn.never rfl (pi_range1 (by rfl) B.range (pa_cons (pv 0) pa_nil)) (pg_name (i := 2) nd rfl (.inr rfl))
      (pss_one (ps_set (i := 1) nd rfl (.inl rfl) (pe_op op_cat (pv 1) (pe_lc (own := [("_law_group", 3)]) (g := gName 3) (tt := tYes) rfl nd (pi_list (pv 1)) (blkOk_by (own := [("_law_group", 3)]) (N := NGr) (sc := defScope sLGroups) (by decide +kernel))
        (fun _ _ _ _ _ => pg_name (i := 3) nd rfl (Or.inl rfl)) (fun _ _ _ _ _ => pts_nil)
        (fun _ _ _ _ _ => pe_op (op_catK (K := K) rfl) (pv 3) (pe_tup (pa_cons (pv 2) pa_nil))))))))
    (pss_one (ps_ret (pe_lc (own := [("_law_group", 3)]) (g := gName 3) rfl nd (pi_list (pv 1)) (blkOk_by (own := [("_law_group", 3)]) (N := NGr) (sc := defScope sLGroups) (by decide +kernel))
        (fun _ _ _ _ _ => pg_name (i := 3) nd rfl (Or.inl rfl)) (fun _ _ _ _ _ => pts_one (pt_cmpR (op_neDK (K := K) rfl hr.units) (pv 3) (pe_tup pa_nil) (nomark _)))
        (fun _ _ _ _ _ => pv 3))))), ?_⟩
  refine ⟨Nat.zero_le _, fun e ne => ⟨(by show 1 ≤ sizeLine; decide), fun F nF => ?_⟩⟩
  have ge := (Grow.new (o := .tup []) ne)
  have gF := (Grow.new (o := .lst [.ref e]) nF)
  refine ⟨_, rfl, (m : Int), rfl, by omega, by omega, for_range (lo := 0) (n := (m : Int).toNat) (fun i σ H' => ∃ w F, σ = [some (.int (m : Int)), some (.ref F), w, none] ∧ Grow H H' ∧ ∃ ts : List Addr, H' F = some (.lst (ts.map V.ref)) ∧ ts.length ≤ 2 ^ i ∧ ∀ t ∈ ts, ∃ gs, Gd i gs ∧ SqT K H' t (natV gs))
    ⟨none, F, rfl, ge.trans gF, [e], upd_same, Nat.le_refl 1, fun t ht => ⟨[], ⟨fun g hg => by simp at hg, fun j x y hx => by simp at hx, Nat.le_refl _, fun _ => rfl⟩, ?_⟩⟩ ?_ ?_⟩
  · rw [List.mem_singleton.mp ht]
    exact gF.seqT tup_new
  · rintro i σ H1 hi ⟨wk, F1, rfl, g1, ts, hF, hl, hts⟩
    have him : i < m := hi
    refine ⟨.ref F1, rfl, .ref F1, rfl, F1, rfl, ⟨_, .inl (.inl hF)⟩, fun Dn nD => ?_⟩
    refine lc_list (K := K) (a := F1) (xs := ts.map V.ref) (fun j H' => Grow H1 H' ∧ ∃ us : List Addr, us.length = j ∧ H' Dn = some (.lst (us.map V.ref)) ∧ ∀ t ∈ us, ∃ gs, Gd (i + 1) gs ∧ SqT K H' t (natV gs))
      ⟨Grow.new nD, [], rfl, upd_same, fun t ht => by simp at ht⟩ (fun j H' _ h => h.1.seqL (.inl (.inl hF))) ?_ ?_
    · rintro j x H2 hx ⟨g2, us, eu, hD, hus⟩
      obtain ⟨t, hti, rfl⟩ := at_map hx
      have hjl : j < ts.length := (List.getElem?_eq_some_iff.mp hti).1
      have p16 := pow_le (i := i) (by omega)
      obtain ⟨gs, hg, hq⟩ := hts t (List.mem_of_getElem? hti)
      have hq2 := g2.seqT hq
      have fin : ∀ q H3, Grow H2 H3 → SqT K H3 q (natV (gs ++ [i])) → ∃ acc, H3 Dn = some (.lst acc) ∧ acc.length < sizeLine ∧ (Grow H1 (upd H3 Dn (.lst (acc ++ [.ref q]))) ∧ ∃ us : List Addr, us.length = j + 1 ∧ upd H3 Dn (.lst (acc ++ [.ref q])) Dn = some (.lst (us.map V.ref)) ∧ ∀ t ∈ us, ∃ gs, Gd (i + 1) gs ∧ SqT K (upd H3 Dn (.lst (acc ++ [.ref q]))) t (natV gs)) := by
        intro q H3 g3 h3
        have hD3 := g3.lst hD
        refine ⟨_, hD3, by rw [List.length_map]; exact small1000 (by omega), (g2.trans g3).wr nD (by rw [hD3]; exact fun z => by cases z), us ++ [q], by simp [eu], by rw [upd_same, List.map_append]; rfl, fun t ht => ?_⟩
        rcases List.mem_append.mp ht with z | z
        · obtain ⟨gs2, a, b⟩ := hus t z
          exact ⟨gs2, a, sqT_lst (g3.seqT b) hD3⟩
        · rw [List.mem_singleton.mp z]
          exact ⟨_, hg.put, sqT_lst h3 hD3⟩
      refine ⟨rfl, .ref t, rfl, .int ((0 : Int) + (i : Nat)), rfl, (by show 1 ≤ sizeLine; decide), fun q nq => ?_⟩
      have gq := (Grow.new (o := .tup [.int ((0 : Int) + (i : Nat))]) nq)
      have ez : ((0 : Int) + (i : Nat)) = (i : Nat) := by omega
      refine ⟨t, q, _, _, rfl, rfl, gq.seqT hq2, tup_new, ?_, fun e0 => ?_, (fun _ z => by cases z), fun _ _ p np => ?_⟩
      · have := hg.len
        rw [List.length_map, List.length_map]
        exact Nat.le_of_lt (small1000 (by show gs.length + 1 ≤ 1000; omega))
      · have e1 : gs = [] := by cases gs with
          | nil => rfl
          | cons x t => cases e0
        refine fin q _ gq ?_
        rw [e1, ez]
        exact tup_new
      · refine fin p _ (gq.trans (Grow.new np)) ?_
        rw [← natV_app, ez]
        exact tup_new
    · rintro H2 ⟨g2, us, eu, hD, hus⟩
      have hF2 := g2.lst hF
      have lu : us.length = ts.length := by rw [eu, List.length_map]
      have p16 := pow_le (i := i) (by omega)
      refine ⟨F1, Dn, _, _, rfl, rfl, hF2, hD, ?_, fun p np => ?_⟩
      · rw [List.length_map, List.length_map]
        exact Nat.le_of_lt (small1000 (by omega))
      · have gp := (Grow.new (o := .lst (ts.map V.ref ++ us.map V.ref)) np)
        refine ⟨_, p, rfl, (g1.trans g2).trans gp, ts ++ us, by rw [upd_same, List.map_append], by rw [List.length_append, Nat.pow_succ]; omega, fun t ht => ?_⟩
        rcases List.mem_append.mp ht with z | z
        · obtain ⟨gs, a, b⟩ := hts t z
          exact ⟨gs, a.up, gp.seqT (g2.seqT b)⟩
        · obtain ⟨gs, a, b⟩ := hus t z
          exact ⟨gs, a, gp.seqT b⟩
  · rintro σ H1 ⟨wk, F1, rfl, g1, ts, hF, hl, hts⟩
    refine ⟨.ref F1, rfl, F1, rfl, ⟨_, .inl (.inl hF)⟩, fun Dn nD => ?_⟩
    have p16 := pow_le m4
    have hl2 : ts.length ≤ 16 := Nat.le_trans hl p16
    refine lc_list (K := K) (a := F1) (xs := ts.map V.ref) (fun j H' => Grow H1 H' ∧ ∃ us : List Addr, us.length ≤ j ∧ H' Dn = some (.lst (us.map V.ref)) ∧ ∀ t ∈ us, ∃ gs, Gd m gs ∧ gs ≠ [] ∧ SqT K H' t (natV gs))
      ⟨Grow.new nD, [], Nat.le_refl _, upd_same, fun t ht => by simp at ht⟩ (fun j H' _ h => h.1.seqL (.inl (.inl hF))) ?_ ?_
    · rintro j x H2 hx ⟨g2, us, eu, hD, hus⟩
      obtain ⟨t, hti, rfl⟩ := at_map hx
      have hjl : j < ts.length := (List.getElem?_eq_some_iff.mp hti).1
      obtain ⟨gs, hg, hq⟩ := hts t (List.mem_of_getElem? hti)
      refine ⟨rfl, .ref t, rfl, Nat.zero_le _, fun e2 ne2 => ?_⟩
      have g3 := (Grow.new (o := .tup []) ne2)
      have hq3 := g3.seqT (g2.seqT hq)
      have hD3 := g3.lst hD
      refine ⟨_, _, dp_tup hq3, dp_tup (ns := []) tup_new, shp_tup _, shp_tup _, _, rfl, ?_⟩
      cases gs with
      | nil =>
        refine iteF ?_
        exact ⟨g2.trans g3, us, by omega, hD3, fun t ht => by
          obtain ⟨gs, a, b, c⟩ := hus t ht
          exact ⟨gs, a, b, g3.seqT c⟩⟩
      | cons g0 gt =>
        refine iteT ⟨.ref t, rfl, _, hD3, by rw [List.length_map]; exact small1000 (by omega), (g2.trans g3).wr nD (by rw [hD3]; exact fun z => by cases z), us ++ [t], by simp; omega, by rw [upd_same, List.map_append]; rfl, fun t' ht => ?_⟩
        rcases List.mem_append.mp ht with z | z
        · obtain ⟨gs, a, b, c⟩ := hus t' z
          exact ⟨gs, a, b, sqT_lst (g3.seqT c) hD3⟩
        · rw [List.mem_singleton.mp z]
          exact ⟨_, hg, (fun z => by cases z), sqT_lst hq3 hD3⟩
    · rintro H2 ⟨g2, us, eu, hD, hus⟩
      exact k Dn H2 us (g1.trans g2) (g1.free _ nD) hD hus
end
end K45
/-! K45: the law's own shortfall. -/
namespace K45
open PySem PySem.Spec PyProof.Rows L2
def iseq (n : Nat) (f : Nat → Int) : List Int := (List.range n).map f
theorem iseq_succ (n : Nat) (f : Nat → Int) : iseq (n + 1) f = iseq n f ++ [f n] := by
  unfold iseq
  rw [List.range_succ, List.map_append]
  rfl
theorem iseq_len (n : Nat) (f : Nat → Int) : (iseq n f).length = n := by simp [iseq]
theorem iseq_sum : ∀ (n : Nat) (f : Nat → Int), (iseq n f).sum = sm n f
  | 0, _ => rfl
  | n + 1, f => by
    rw [iseq_succ, List.sum_append, iseq_sum n f]
    show sm n f + (f n + 0) = sm n f + f n
    omega
theorem iseq_at {n i : Nat} (f : Nat → Int) (h : i < n) : ((iseq n f).map V.int)[i]? = some (.int (f i)) := by
  unfold iseq
  rw [List.getElem?_map, List.getElem?_map, List.getElem?_eq_getElem (by rw [List.length_range]; exact h), List.getElem_range]
  rfl
theorem iseq_put {Hb H' H4 : Hp} {D : Addr} {i : Nat} {f : Nat → Int} (nD : Hb D = none) (g : Grow Hb H') (h : H' D = some (.lst ((iseq i f).map V.int))) (hi : i < 1000) (g4 : Grow H' H4) :
    ∃ acc, H4 D = some (.lst acc) ∧ acc.length < sizeLine ∧ (Grow Hb (upd H4 D (.lst (acc ++ [.int (f i)]))) ∧ upd H4 D (.lst (acc ++ [.int (f i)])) D = some (.lst ((iseq (i + 1) f).map V.int))) := by
  have h4 := g4.lst h
  refine ⟨_, h4, by rw [List.length_map, iseq_len]; exact small1000 (Nat.le_of_lt hi), (g.trans g4).wr nD (by rw [h4]; exact fun z => by cases z), ?_⟩
  rw [upd_same, iseq_succ, List.map_append]
  rfl
theorem cr_sumK {X : Cx} {K : PySem.W.Frag} (hK : X.K = K) (hc : X.calm = true) : CallR X (.builtin "sum") (rSum K) := by
  subst hK
  exact cr_sum hc
theorem pi_tupK {X : Cx} {K : PySem.W.Frag} (hK : X.K = K) {tg l : Expr} {tl : TE} (hl : PE X l tl) : PI X tg l (iTup K tl) := by
  subst hK
  exact pi_tup hl
theorem tup_eq {K : PySem.W.Frag} {H : Hp} {p : Addr} {xs ys : List V} (e : xs = ys) : SqT K (upd H p (.tup xs)) p ys := by
  rw [e]
  exact tup_new
theorem gcd_rest {a b : Int} (h : Int.gcd a b = 1) : Int.gcd b (b - a) = 1 := by
  rw [Int.gcd_comm] at h
  have := Int.gcd_self_sub_right (m := b) (n := a)
  omega
section
variable {P : Program} {w : World} {K : PySem.W.Frag} {mg : Str → Option Value} {base : Heap}
abbrev NSh : List Str := ["_law_outcomes_here", "_law_members", "_law_level", "_law_whole", "_law_best", "_law_sums", "_law_edge", "_law_above", "_law_here", "_law_one", "_law_k"]
theorem scLShort : FnScope NSh ["_law_outcomes_here", "_law_members", "_law_level"] (defScope sLShort) := ⟨rfl, rfl, rfl, by decide +kernel, rfl, by decide +kernel, by decide +kernel⟩
/-- the law's due -/
def dueOf (la lb : Int) (os : List (Int × List Int)) (gs : List Nat) : Nat → Int := least fun i => at_ os.length (gsm gs os) (capf lb os) (den la lb os) (gsm gs os i)
def spLShort (K : PySem.W.Frag) : Sp := fun vs H Q _ => ∃ (a c t : Addr) (m : Nat) (os : List (Int × List Int)) (gs : List Nat) (la lb : Int), vs = [.ref a, .ref c, .ref t] ∧ OutsAt K H a os ∧ OutsOk m os ∧ SqT K H c (natV gs) ∧ (∀ g ∈ gs, g < m) ∧ gs.length ≤ 4 ∧ SqT K H t (rt (la, lb)) ∧ LvlOk la lb ∧
  ∀ p H', Grow H H' → SqT K H' p (rt (rat (dueOf la lb os gs (os.length - 1)) (den la lb os))) → Q (.ref p) H'
theorem ok_lshort {f : Addr} {fd : FuncData} (D : Def K mg "_law_short" sLShort ["_law_outcomes_here", "_law_members", "_law_level"] f fd) (B : Blt mg)
    (Cr : Cal P w K mg base "_law_ratio" 1 ["_law_top", "_law_bottom"] spRatio) (Cp : Cal P w K mg base "_law_plus" 2 ["_law_one", "_law_other"] (spPlus K)) (Cb : Cal P w K mg base "_law_by" 2 ["_law_one", "_law_other"] (spBy K)) :
    Cal P w K mg base "_law_short" 3 ["_law_outcomes_here", "_law_members", "_law_level"] (spLShort K) := by
  obtain ⟨fr, fdr, Gr, gr, kr, br⟩ := Cr
  obtain ⟨fp, fdp, Gp, gp, kp, bp⟩ := Cp
  obtain ⟨fb, fdb, Gb, gb, kb, bb⟩ := Cb
  have nd := scLShort.nd
  refine D.cal (D.fn.ok scLShort (fun vs H Q E h => ?_) (fun cdv A outer s H vs Q E hr h => ?_))
  · obtain ⟨a, c, t, m, os, gs, la, lb, rfl, _⟩ := h
    rfl
  obtain ⟨a, cc, t, m, os, gs, la, lb, rfl, hO, ok, hg, glt, g4, ht, lv, k⟩ := h
  have hr1 : Room 1 _ := hr.mono (by decide)
  refine ⟨_, pss_cons (ps_par (i := 3) (j := 4) rfl nd rfl rfl (by decide) rfl rfl (pa_cons (pe_callB (cr_sum rfl) (by rfl) B.sum PyProof.Rows.boot_sum (pa_cons
        (pe_lc (own := [("_law_one", 9)]) (g := gName 9) (tt := tYes) rfl nd (pi_tup (pv 0)) (blkOk_by (own := [("_law_one", 9)]) (N := NSh) (sc := defScope sLShort) (by decide +kernel))
          (fun _ _ _ _ _ => pg_name (i := 9) nd rfl (Or.inl rfl)) (fun _ _ _ _ _ => pts_nil) (fun _ _ _ _ _ => pe_ix (ixT (K := K) rfl) (pv 9) pe_int (fun _ _ => rfl))) pa_nil)) (pa_cons pe_non pa_nil)) (by rfl))
    (pss_cons (ps_set (i := 5) nd rfl (.inr rfl) (pe_lc (own := [("_law_one", 9)]) (g := gName 9) (tt := tYes) rfl nd (pi_tup (pv 0)) (blkOk_by (own := [("_law_one", 9)]) (N := NSh) (sc := defScope sLShort) (by decide +kernel))
          (fun _ _ _ _ _ => pg_name (i := 9) nd rfl (Or.inr rfl)) (fun _ _ _ _ _ => pts_nil) (fun _ _ _ _ _ => pe_callB (cr_sumK (K := K) rfl rfl) (by rfl) B.sum PyProof.Rows.boot_sum (pa_cons
            (pe_lc (own := [("_law_k", 10)]) (g := gName 10) (tt := tYes) rfl nd (pi_tupK (K := K) rfl (pv 1)) (blkOk_by (own := [("_law_k", 10)]) (N := NSh) (by rfl))
              (fun _ _ _ _ _ => pg_name (i := 10) nd rfl (Or.inl rfl)) (fun _ _ _ _ _ => pts_nil) (fun _ _ _ _ _ => pe_ix (ixT (K := K) rfl) (pe_ix (ixT (K := K) rfl) (pv 9) pe_int (fun _ _ => rfl)) (pv 10) (fun _ _ => rfl))) pa_nil))))
    (pss_cons (ps_for PassesOwn.never rfl (pi_list (pv 5)) (pg_name (i := 6) nd rfl (.inr rfl))
      (pss_cons (ps_set (i := 7) nd rfl (.inl rfl) (pe_call Gr hr1 (by rfl) gr kr br .nil pass0 (pa_cons (pe_callB (cr_sum rfl) (by rfl) B.sum PyProof.Rows.boot_sum (pa_cons
          (pe_lc (own := [("_law_k", 10)]) (g := gName 10) (tt := tYes) rfl nd (pi_range1 (by rfl) B.range (pa_cons (pe_callB call_len (by rfl) B.len boot_len (pa_cons (pv 5) pa_nil)) pa_nil)) (blkOk_by (own := [("_law_k", 10)]) (N := NSh) (sc := defScope sLShort) (by decide +kernel))
            (fun _ _ _ _ _ => pg_name (i := 10) nd rfl (Or.inl rfl)) (fun _ _ _ _ _ => pts_nil) (fun _ _ _ _ _ => pe_op op_mul (pe_ix (ixT (K := K) rfl) (pe_ix (ixT (K := K) rfl) (pv 0) (pv 10) (fun _ _ => rfl)) pe_int (fun _ _ => rfl))
              (pe_callB (call_max2 rfl) (by rfl) B.max PyProof.Rows.boot_max (pa_cons pe_int (pa_cons (pe_op op_sub (pe_ix (ixL (K := K) rfl) (pv 5) (pv 10) (fun _ _ => rfl)) (pv 6)) pa_nil))))) pa_nil)) (pa_cons (pv 3) pa_nil))))
      (pss_cons (ps_set (i := 8) nd rfl (.inl rfl) (pe_call Gp hr (by rfl) gp kp bp .nil pass0 (pa_cons (pe_tup (pa_cons (pv 6) (pa_cons pe_int pa_nil))) (pa_cons (pe_call Gb hr (by rfl) gb kb bb .nil pass0 (pa_cons (pv 7) (pa_cons
          (pe_tup (pa_cons (pe_ix ix_tup (pv 2) pe_int (fun _ _ => rfl)) (pa_cons (pe_op op_sub (pe_ix ix_tup (pv 2) pe_int (fun _ _ => rfl)) (pe_ix ix_tup (pv 2) pe_int (fun _ _ => rfl))) pa_nil))) pa_nil))) pa_nil))))
      (pss_one (ps_set (i := 4) nd rfl (.inl rfl) (pe_ifExp (PW.pt (pw_or (pt_cmpR op_isN (pv 4) pe_non (nomark _)) (pw_or1 (pt_cmpR op_lt
          (pe_op op_mul (pe_ix ix_tup (pv 8) pe_int (fun _ _ => rfl)) (pe_ix ix_tup (pv 4) pe_int (fun _ _ => rfl))) (pe_op op_mul (pe_ix ix_tup (pv 4) pe_int (fun _ _ => rfl)) (pe_ix ix_tup (pv 8) pe_int (fun _ _ => rfl))) (nomark _))))) (pv 8) (pv 4)))))))
    (pss_one (ps_ret (pv 4))))), ?_⟩
  obtain ⟨ts, ha, hl, hts⟩ := hO
  have n8 := ok.n8
  have n1 := ok.n1
  obtain ⟨w1, w2⟩ := whl_bd ok
  obtain ⟨d1, d2⟩ := den_bd ok lv
  have sb := fun i (hi : i < os.length) => gsm_bd (gs := gs) ok g4 hi
  have wb := fun i (hi : i < os.length) => wt_bd ok hi
  have l0 := lv.lo
  have l1 := lv.lt
  have l2 := lv.hi
  have lts : (ts.map V.ref).length = os.length := by rw [List.length_map, hl]
  have hW := iseq_sum os.length (wt os)
  refine ⟨.ref a, rfl, a, rfl, ⟨_, ha⟩, fun D1 nD1 => lc_tup (K := K) (a := a) (xs := ts.map V.ref) (fun i H' => Grow H H' ∧ H' D1 = some (.lst ((iseq i (wt os)).map V.int))) ⟨Grow.new nD1, upd_same⟩ (fun i H' _ h => h.1.seqT ha) ?_ ?_⟩
  · rintro i y H' hy ⟨g, hL⟩
    obtain ⟨t1, hti, rfl⟩ := at_map hy
    have hio : i < os.length := by
      rw [← hl]
      exact (List.getElem?_eq_some_iff.mp hti).1
    have hO2 : os[i]? = some os[i] := List.getElem?_eq_getElem hio
    obtain ⟨tl, q1, q2⟩ := (hts i t1 _ hti hO2).grow g
    have ew : os[i].1 = wt os i := by
      unfold wt
      rw [getD_at hO2]
    rw [ew] at q1
    exact ⟨rfl, .ref t1, rfl, t1, _, _, _, rfl, rfl, q1, atI_nat (j := 0) rfl, iseq_put nD1 g hL (by omega) (Grow.refl _)⟩
  rintro H1 ⟨g1, hL1⟩
  rw [lts] at hL1
  refine ⟨D1, _, rfl, .inl (.inl hL1), _, _, rfl, ?_⟩
  refine ⟨.ref a, rfl, a, rfl, ⟨_, g1.seqT ha⟩, fun S nS => lc_tup (K := K) (a := a) (xs := ts.map V.ref) (fun i H' => Grow H1 H' ∧ H' S = some (.lst ((iseq i (gsm gs os)).map V.int))) ⟨Grow.new nS, upd_same⟩ (fun i H' _ h => h.1.seqT (g1.seqT ha)) ?_ ?_⟩
  · rintro i y H' hy ⟨g, hL⟩
    obtain ⟨t1, hti, rfl⟩ := at_map hy
    have hio : i < os.length := by
      rw [← hl]
      exact (List.getElem?_eq_some_iff.mp hti).1
    have hO2 : os[i]? = some os[i] := List.getElem?_eq_getElem hio
    have oki := ok.ok _ (List.getElem_mem hio)
    obtain ⟨tl, q1, q2⟩ := (hts i t1 _ hti hO2).grow (g1.trans g)
    refine ⟨rfl, .ref cc, rfl, cc, rfl, ⟨_, (g1.trans g).seqT hg⟩, fun D2 nD2 => lc_tup (K := K) (a := cc) (xs := natV gs) (fun j H'' => Grow H' H'' ∧ H'' D2 = some (.lst ((iseq j (fun j => os[i].2.getD (gs.getD j 0) 0)).map V.int))) ⟨Grow.new nD2, upd_same⟩ (fun j H'' _ h => h.1.seqT ((g1.trans g).seqT hg)) ?_ ?_⟩
    · rintro j z H2 hz ⟨g2, hL2⟩
      obtain ⟨z', hz', rfl⟩ := at_map hz
      rw [List.getElem?_map] at hz'
      cases e : gs[j]? with
      | none => rw [e] at hz'; cases hz'
      | some q =>
        rw [e] at hz'
        cases hz'
        have hq := glt q (List.mem_of_getElem? e)
        have hq2 : q < os[i].2.length := by rw [oki.len]; exact hq
        have hjg : j < gs.length := (List.getElem?_eq_some_iff.mp e).1
        have e2 : gs.getD j 0 = q := by rw [List.getD_eq_getElem?_getD, e]; rfl
        refine ⟨rfl, .ref t1, rfl, t1, _, _, .ref tl, rfl, rfl, g2.seqT q1, atI_nat (j := 1) rfl, .int (q : Int), rfl, tl, _, (q : Int), .int (os[i].2.getD (gs.getD j 0) 0), rfl, rfl, g2.seqT q2, atI_nat (j := q) ?_, iseq_put nD2 g2 hL2 (by omega) (Grow.refl _)⟩
        rw [List.getElem?_map, List.getElem?_eq_getElem hq2, e2, List.getD_eq_getElem?_getD, List.getElem?_eq_getElem hq2]
        rfl
    · rintro H3 ⟨g3, hL3⟩
      refine ⟨D2, _, rfl, .inl (.inl hL3), ?_⟩
      have eg : (iseq (natV gs).length (fun j => os[i].2.getD (gs.getD j 0) 0)).sum = gsm gs os i := by
        rw [iseq_sum, List.length_map, List.length_map]
        unfold gsm
        rw [getD_at hO2]
        rfl
      rw [eg]
      exact iseq_put nS g hL (by omega) g3
  rintro H4 ⟨g4', hS⟩
  rw [lts] at hS
  have G4 := g1.trans g4'
  refine ⟨.ref S, rfl, S, rfl, ⟨_, .inl (.inl hS)⟩, for_list (K := K) (a := S) (xs := (iseq os.length (gsm gs os)).map V.int) (fun i σ H' => ∃ best e6 e7 e8, σ = [some (.ref a), some (.ref cc), some (.ref t), some (.int (iseq os.length (wt os)).sum), some best, some (.ref S), e6, e7, e8, none, none] ∧ Grow H4 H' ∧
      (i = 0 → best = .non) ∧ ∀ j, i = j + 1 → ∃ p, best = .ref p ∧ SqT K H' p (rt (rat (dueOf la lb os gs j) (den la lb os))) ∧ 0 ≤ dueOf la lb os gs j ∧ dueOf la lb os gs j ≤ 100000000000)
    ⟨.non, none, none, none, rfl, Grow.refl _, fun _ => rfl, fun j h => by omega⟩ (fun i σ H' _ ⟨_, _, _, _, _, g, _⟩ => g.seqL (.inl (.inl hS))) ?_ ?_⟩
  · rintro i x σ Ha hx ⟨best, e6, e7, e8, rfl, ga, b0, b1⟩
    have hi : i < os.length := by
      have := (List.getElem?_eq_some_iff.mp hx).1
      rwa [List.length_map, iseq_len] at this
    have ex : x = .int (gsm gs os i) := by
      rw [iseq_at _ hi] at hx
      exact (Option.some.inj hx).symm
    subst ex
    have si := sb i hi
    have hSa := ga.lst hS
    have Ga := G4.trans ga
    refine ⟨.ref S, rfl, .ref S, os.length, rfl, .inl ⟨_, .inl (.inl hSa), by rw [List.length_map, iseq_len]⟩, (os.length : Int), rfl, by omega, by omega, fun D3 nD3 => ?_⟩
    refine lc_range (lo := 0) (n := (os.length : Int).toNat) (fun j H' => Grow Ha H' ∧ H' D3 = some (.lst ((iseq j (fun j => wt os j * pos_ (gsm gs os j - gsm gs os i))).map V.int))) ⟨Grow.new nD3, upd_same⟩ ?_ ?_
    · rintro j Hb hj0 ⟨gb', hL⟩
      have hj : j < os.length := hj0
      have hO2 : os[j]? = some os[j] := List.getElem?_eq_getElem hj
      have htj : ts[j]? = some (ts[j]'(by omega)) := List.getElem?_eq_getElem _
      obtain ⟨tl, q1, q2⟩ := (hts j _ _ htj hO2).grow (Ga.trans gb')
      have ew : os[j].1 = wt os j := by
        unfold wt
        rw [getD_at hO2]
      rw [ew] at q1
      have wj := wb j hj
      have ez : (0 : Int) + (j : Nat) = (j : Nat) := by omega
      refine ⟨rfl, .ref a, rfl, .int ((0 : Int) + (j : Nat)), rfl, a, _, (0 : Int) + (j : Nat), _, rfl, rfl, (Ga.trans gb').seqT ha, ?_, _, _, _, .int (wt os j), rfl, rfl, q1, atI_nat (j := 0) rfl,
        .ref S, rfl, .int ((0 : Int) + (j : Nat)), rfl, S, _, (0 : Int) + (j : Nat), .int (gsm gs os j), rfl, rfl, gb'.seqL (.inl (.inl hSa)), ?_, .int (gsm gs os i), rfl, gsm gs os j, gsm gs os i, rfl, rfl, 0, gsm gs os j - gsm gs os i, rfl,
        wt os j, pos_ (gsm gs os j - gsm gs os i), rfl, rfl, .inl ⟨by omega, by omega⟩, iseq_put nD3 gb' hL (by omega) (Grow.refl _)⟩
      · rw [ez]
        exact atI_nat (by rw [List.getElem?_map, htj]; rfl)
      · rw [ez]
        exact atI_nat (iseq_at _ hj)
    rintro Hb ⟨gb', hL⟩
    refine ⟨D3, _, rfl, .inl (.inl hL), _, rfl, _, _, rfl, ?_⟩
    have eX : (iseq (os.length : Int).toNat (fun j => wt os j * pos_ (gsm gs os j - gsm gs os i))).sum = sm os.length (fun j => wt os j * pos_ (gsm gs os j - gsm gs os i)) := iseq_sum _ _
    rw [eX]
    have bX := sm_bd (n := os.length) (f := fun j => wt os j * pos_ (gsm gs os j - gsm gs os i)) (c := 4000000) fun j hj => by
      have wj := wb j hj
      have sj := sb j hj
      have p0 : 0 ≤ pos_ (gsm gs os j - gsm gs os i) ∧ pos_ (gsm gs os j - gsm gs os i) ≤ 4000 := by
        unfold pos_
        split <;> omega
      have m1 := Int.mul_nonneg (show (0 : Int) ≤ wt os j by omega) p0.1
      have m2 : wt os j * pos_ (gsm gs os j - gsm gs os i) ≤ 1000 * 4000 := Int.mul_le_mul wj.2 p0.2 p0.1 (by omega)
      exact ⟨m1, by omega⟩
    have bX2 : ((os.length : Nat) : Int) * 4000000 ≤ 32000000 := by omega
    have eN : (iseq os.length (wt os)).sum = whl os := hW
    have eAt : gsm gs os i * (whl os * (lb - la)) + sm os.length (fun j => wt os j * pos_ (gsm gs os j - gsm gs os i)) * lb = at_ os.length (gsm gs os) (capf lb os) (den la lb os) (gsm gs os i) := by
      unfold at_
      have e1 : sm os.length (fun k => capf lb os k * pos_ (gsm gs os k - gsm gs os i)) = lb * sm os.length (fun j => wt os j * pos_ (gsm gs os j - gsm gs os i)) := by
        rw [← sm_mul]
        refine sm_congr fun k _ => ?_
        unfold capf
        rw [Int.mul_assoc]
      rw [e1]
      unfold den
      rw [Int.mul_comm (whl os), Int.mul_comm (sm _ _) lb]
    generalize hXX : sm os.length (fun j => wt os j * pos_ (gsm gs os j - gsm gs os i)) = X at *
    rw [eN]
    refine ⟨by omega, by unfold big; omega, fun p0 np0 => ?_⟩
    have gp0 := Grow.new (o := .tup (rt (rat X (whl os)))) np0
    have Gb' := (Ga.trans gb').trans gp0
    refine ⟨.int (gsm gs os i), rfl, (by show 2 ≤ sizeLine; decide), fun p1 np1 => ?_⟩
    have gp1 := Grow.new (o := .tup [.int (gsm gs os i), .int 1]) np1
    have ht1 := (Gb'.trans gp1).seqT ht
    refine ⟨.ref p0, rfl, .ref t, rfl, t, _, _, _, rfl, rfl, ht1, atI_nat (j := 1) rfl, .ref t, rfl, t, _, _, _, rfl, rfl, ht1, atI_nat (j := 1) rfl, .ref t, rfl, t, _, _, _, rfl, rfl, ht1, atI_nat (j := 0) rfl, _, _, rfl, rfl, (by show 2 ≤ sizeLine; decide), fun p2 np2 => ?_⟩
    have gp2 := Grow.new (o := .tup [.int lb, .int (lb - la)]) np2
    refine ⟨p0, p2, X, whl os, lb, lb - la, rfl, (gp1.trans gp2).seqT tup_new, ?_, by omega, by omega, .of (by omega) (by omega), .of (by omega) (by omega), .of (by omega) (by omega), .of (by omega) (by omega), trivial, fun p3 np3 => ?_⟩
    · rw [rat_self (gcd_rest lv.low)]
      exact tup_new
    have gp3 := Grow.new (o := .tup (rt (rat (X * lb) (whl os * (lb - la))))) np3
    have bN : whl os * (lb - la) ≤ 8000 * 1000 := Int.mul_le_mul w2 (by omega) (by omega) (by omega)
    have bN0 : 0 < whl os * (lb - la) := Int.mul_pos (by omega) (by omega)
    have bXl : X * lb ≤ 32000000 * 1000 := Int.mul_le_mul (by omega) l2 (by omega) (by omega)
    have bXl0 : 0 ≤ X * lb := Int.mul_nonneg (by omega) (by omega)
    have bEN : gsm gs os i * (whl os * (lb - la)) ≤ 4000 * (8000 * 1000) := Int.mul_le_mul si.2 bN (by omega) (by omega)
    have bEN0 : 0 ≤ gsm gs os i * (whl os * (lb - la)) := Int.mul_nonneg si.1 (by omega)
    have eD : whl os * (lb - la) = den la lb os := by
      unfold den
      rw [Int.mul_comm]
    rw [eD] at bN bN0 bEN bEN0 eAt
    refine ⟨p1, p3, gsm gs os i * den la lb os, den la lb os, X * lb, den la lb os, rfl, (gp2.trans gp3).seqT ?_, tup_eq (by rw [← eD]), bN0, bN0, .of (by omega) (by omega), .of (by omega) (by omega), .of (by omega) (by omega), .of (by omega) (by omega), rfl, fun p4 np4 => ?_⟩
    · rw [rat_scale bN0]
      exact tup_new
    have gp4 := Grow.new (o := .tup (rt (rat (gsm gs os i * den la lb os + X * lb) (den la lb os)))) np4
    have bAt0 : 0 ≤ at_ os.length (gsm gs os) (capf lb os) (den la lb os) (gsm gs os i) := by omega
    have bAt : at_ os.length (gsm gs os) (capf lb os) (den la lb os) (gsm gs os i) ≤ 100000000000 := by omega
    have gBest := ((((gb'.trans gp0).trans gp1).trans gp2).trans gp3).trans gp4
    have gAll := ga.trans gBest
    have h4 : ∀ Hz : Hp, SqT K (upd Hz p4 (.tup (rt (rat (gsm gs os i * den la lb os + X * lb) (den la lb os))))) p4 (rt (rat (at_ os.length (gsm gs os) (capf lb os) (den la lb os) (gsm gs os i)) (den la lb os))) := fun _ => tup_eq (by rw [eAt])
    cases i with
    | zero =>
      have eb := b0 rfl
      subst eb
      refine ⟨.non, rfl, rfl, _, rfl, iteT (iteT ⟨.ref p4, rfl, ?_⟩)⟩
      refine ⟨.ref p4, _, _, _, rfl, gAll, fun z => (by cases z), fun j hj => ?_⟩
      have ej : j = 0 := by omega
      subst ej
      exact ⟨p4, rfl, h4 _, bAt0, bAt⟩
    | succ j =>
      obtain ⟨p, rfl, hp, c0, c1⟩ := b1 j rfl
      have hp4 := gBest.seqT hp
      have sA : Sm (at_ os.length (gsm gs os) (capf lb os) (den la lb os) (gsm gs os (j + 1))) := .of (by omega) (by omega)
      have sB : Sm (dueOf la lb os gs j) := .of (by omega) (by omega)
      refine ⟨.ref p, rfl, rfl, _, rfl, ?_⟩
      rw [decide_eq_false (show ¬ V.ref p = V.non from fun z => by cases z)]
      refine iteF ?_
      refine ⟨.ref p4, rfl, p4, _, _, _, rfl, rfl, h4 _, atI_nat (j := 0) rfl, .ref p, rfl, p, _, _, _, rfl, rfl, hp4, atI_nat (j := 1) rfl, _, _, rfl, rfl, .inl (sA.top bN0).mulok, .ref p, rfl, p, _, _, _, rfl, rfl, hp4, atI_nat (j := 0) rfl, .ref p4, rfl, p4, _, _, _, rfl, rfl, h4 _, atI_nat (j := 1) rfl, _, _, rfl, rfl, .inl (sB.top bN0).mulok, _, _, rfl, rfl, _, rfl, ?_⟩
      by_cases hlt : at_ os.length (gsm gs os) (capf lb os) (den la lb os) (gsm gs os (j + 1)) < dueOf la lb os gs j
      · have eD2 : dueOf la lb os gs (j + 1) = at_ os.length (gsm gs os) (capf lb os) (den la lb os) (gsm gs os (j + 1)) := if_pos hlt
        rw [decide_eq_true ((rat_less bN0).mpr hlt)]
        refine iteT ⟨.ref p4, rfl, ?_⟩
        refine ⟨.ref p4, _, _, _, rfl, gAll, fun z => (by cases z), fun i hi2 => ?_⟩
        have ei : i = j + 1 := by omega
        subst ei
        rw [eD2]
        exact ⟨p4, rfl, h4 _, bAt0, bAt⟩
      · have eD2 : dueOf la lb os gs (j + 1) = dueOf la lb os gs j := if_neg hlt
        rw [decide_eq_false (fun z => hlt ((rat_less bN0).mp z))]
        refine iteF ⟨.ref p, rfl, ?_⟩
        refine ⟨.ref p, _, _, _, rfl, gAll, fun z => (by cases z), fun i hi2 => ?_⟩
        have ei : i = j + 1 := by omega
        subst ei
        rw [eD2]
        exact ⟨p, rfl, hp4, c0, c1⟩
  · rintro σ Ha ⟨best, e6, e7, e8, rfl, ga, b0, b1⟩
    obtain ⟨p, rfl, hp, c0, c1⟩ := b1 (os.length - 1) (by rw [List.length_map, iseq_len]; omega)
    exact ⟨.ref p, rfl, k p Ha (G4.trans ga) hp⟩
end
end K45
/-! K45: alike. -/
namespace K45
open PySem PySem.Spec PyProof.Rows L2
theorem bt_isi : bootBuiltins "isinstance" = some (.builtin "isinstance") := by decide +kernel
theorem bt_tuple : bootBuiltins "tuple" = some (.type "tuple") := by decide +kernel
theorem bt_list : bootBuiltins "list" = some (.type "list") := by decide +kernel
theorem bt_str : bootBuiltins "str" = some (.type "str") := by decide +kernel
theorem bt_int : bootBuiltins "int" = some (.type "int") := by decide +kernel
theorem bt_bool : bootBuiltins "bool" = some (.type "bool") := by decide +kernel
theorem any_int {K : PySem.W.Frag} : PySem.W.kitAny K (.type "int") [.type "tuple", .type "list"] = some false := kitAny_cons (b := false) (kit_ty (by decide +kernel)) (fun _ => kitAny_cons (b := false) (kit_ty (by decide +kernel)) (fun _ => rfl) (fun z => by cases z)) (fun z => by cases z)
theorem any_tup {K : PySem.W.Frag} : PySem.W.kitAny K (.type "tuple") [.type "tuple", .type "list"] = some true := kitAny_cons (b := true) (kit_ty (by decide +kernel)) (fun z => by cases z) (fun _ => rfl)
section
variable {P : Program} {w : World} {K : PySem.W.Frag} {mg : Str → Option Value} {base : Heap}
abbrev NAl : List Str := ["_law_found", "_law_due", "_law_k"]
theorem scAlike : FnScope NAl ["_law_found", "_law_due"] (defScope sAlike) := ⟨rfl, rfl, rfl, by decide +kernel, rfl, by decide +kernel, by decide +kernel⟩
def spAlikeI : Sp := fun vs H Q _ => ∃ i : Int, vs = [.int i, .int i] ∧ ∀ H', Grow H H' → Q (.bl true) H'
def spAlikeT (K : PySem.W.Frag) : Sp := fun vs H Q _ => ∃ (p q : Addr) (a b : Int), vs = [.ref p, .ref q] ∧ SqT K H p (rt (a, b)) ∧ SqT K H q (rt (a, b)) ∧ ∀ H', Grow H H' → Q (.bl true) H'
theorem ok_alikeI {f : Addr} {fd : FuncData} (D : Def K mg "_law_alike" sAlike ["_law_found", "_law_due"] f fd) (B : Blt mg) : Cal P w K mg base "_law_alike" 1 ["_law_found", "_law_due"] spAlikeI := by
  have nd := scAlike.nd
  refine D.cal (D.fn.ok scAlike (fun vs H Q E h => ?_) (fun cdv A outer s H vs Q E hr h => ?_))
  · obtain ⟨i, rfl, _⟩ := h
    rfl
  obtain ⟨i, rfl, k⟩ := h
  refine ⟨_, pss_cons (ps_if (pt_val (pe_callB call_isiT (by rfl) B.isi bt_isi (pa_cons (pv 1) (pa_cons (pe_tup (pa_cons (pe_bltn (by rfl) B.tuple bt_tuple (v := .ty "tuple") rfl) (pa_cons (pe_bltn (by rfl) B.list bt_list (v := .ty "list") rfl) pa_nil))) pa_nil)))) pss_never pss_nil)
    (pss_cons (ps_if (PW.pt (pw_or (pt_cmpR op_isN (pv 1) pe_non (nomark _)) (pw_or1 (pt_val (pe_callB call_isi (by rfl) B.isi bt_isi (pa_cons (pv 1) (pa_cons (pe_bltn (by rfl) B.str bt_str (v := .ty "str") rfl) pa_nil))))))) pss_never pss_nil)
    (pss_one (ps_ret (pe_and (pe_callB call_isi (by rfl) B.isi bt_isi (pa_cons (pv 0) (pa_cons (pe_bltn (by rfl) B.int bt_int (v := .ty "int") rfl) pa_nil)))
      (pe_and (pe_cmpR op_eq (pe_callB call_isi (by rfl) B.isi bt_isi (pa_cons (pv 0) (pa_cons (pe_bltn (by rfl) B.bool bt_bool (v := .ty "bool") rfl) pa_nil))) (pe_callB call_isi (by rfl) B.isi bt_isi (pa_cons (pv 1) (pa_cons (pe_bltn (by rfl) B.bool bt_bool (v := .ty "bool") rfl) pa_nil))) (nomark _))
        (pe_one (pe_cmpR op_eq (pv 0) (pv 1) (nomark _)))))))), ?_⟩
  refine ⟨.int i, rfl, (by show 2 ≤ sizeLine; decide), fun tp ntp => ⟨.int i, tp, _, _, _, false, rfl, upd_same, .cons (.ty _) (.cons (.ty _) .nil), .base (.int i), any_int, false, rfl, iteF ?_⟩⟩
  have g := Grow.new (o := .tup [.ty "tuple", .ty "list"]) ntp
  refine ⟨.int i, rfl, rfl, _, rfl, ?_⟩
  rw [decide_eq_false (show ¬ V.int i = V.non from fun z => by cases z)]
  refine iteF ⟨.int i, rfl, .int i, _, _, _, false, rfl, .ty _, .base (.int i), kit_ty (by decide +kernel), false, rfl, iteF ?_⟩
  refine ⟨.int i, rfl, .int i, _, _, _, true, rfl, .ty _, .base (.int i), kit_ty (by decide +kernel), true, rfl, iteT ?_⟩
  refine ⟨.int i, rfl, .int i, _, _, _, false, rfl, .ty _, .base (.int i), kit_ty (by decide +kernel), .int i, rfl, .int i, _, _, _, false, rfl, .ty _, .base (.int i), kit_ty (by decide +kernel), rfl, true, ?_, iteT ?_⟩
  · rw [decide_eq_true rfl]
  refine ⟨.int i, rfl, .int i, rfl, rfl, ?_⟩
  rw [decide_eq_true rfl]
  exact k _ g
theorem ok_alikeT {f : Addr} {fd : FuncData} (D : Def K mg "_law_alike" sAlike ["_law_found", "_law_due"] f fd) (B : Blt mg) (C : Cal P w K mg base "_law_alike" 1 ["_law_found", "_law_due"] spAlikeI) : Cal P w K mg base "_law_alike" 2 ["_law_found", "_law_due"] (spAlikeT K) := by
  obtain ⟨fr, fdr, G, gr, kr, br⟩ := C
  have nd := scAlike.nd
  refine D.cal (D.fn.ok scAlike (fun vs H Q E h => ?_) (fun cdv A outer s H vs Q E hr h => ?_))
  · obtain ⟨p, q, a, b, rfl, _⟩ := h
    rfl
  obtain ⟨p, q, a, b, rfl, hp, hq, k⟩ := h
  refine ⟨_, pss_cons (ps_if (pt_val (pe_callB call_isiT (by rfl) B.isi bt_isi (pa_cons (pv 1) (pa_cons (pe_tup (pa_cons (pe_bltn (by rfl) B.tuple bt_tuple (v := .ty "tuple") rfl) (pa_cons (pe_bltn (by rfl) B.list bt_list (v := .ty "list") rfl) pa_nil))) pa_nil))))
      (pss_cons (ps_if (PW.pt (pw_or (pt_not (pt_val (pe_callB call_isiT (by rfl) B.isi bt_isi (pa_cons (pv 0) (pa_cons (pe_tup (pa_cons (pe_bltn (by rfl) B.tuple bt_tuple (v := .ty "tuple") rfl) (pa_cons (pe_bltn (by rfl) B.list bt_list (v := .ty "list") rfl) pa_nil))) pa_nil)))))
          (pw_or1 (pt_cmpR op_ne (pe_callB call_isi (by rfl) B.isi bt_isi (pa_cons (pv 0) (pa_cons (pe_bltn (by rfl) B.list bt_list (v := .ty "list") rfl) pa_nil))) (pe_callB call_isi (by rfl) B.isi bt_isi (pa_cons (pv 1) (pa_cons (pe_bltn (by rfl) B.list bt_list (v := .ty "list") rfl) pa_nil))) (nomark _))))) pss_never pss_nil)
      (pss_cons (ps_if (pt_cmpR op_ne (pe_lenS B (pv 0)) (pe_lenS B (pv 1)) (nomark _)) pss_never pss_nil)
      (pss_one (ps_ret (pe_cmpR (op_eqD hr.units) (pe_lc (own := [("_law_k", 2)]) (g := gName 2) rfl nd (pi_range1 (by rfl) B.range (pa_cons (pe_lenS B (pv 1)) pa_nil)) (blkOk_by (own := [("_law_k", 2)]) (N := NAl) (sc := defScope sAlike) (by decide +kernel))
        (fun _ _ _ _ _ => pg_name (i := 2) nd rfl (Or.inl rfl))
        (fun _ _ _ _ _ => pts_one (pt_not (pt_val (pe_call G hr (by rfl) gr kr br .nil pass0 (pa_cons (pe_ix (ixT (K := K) rfl) (pv 0) (pv 2) (fun _ _ => rfl)) (pa_cons (pe_ix (ixT (K := K) rfl) (pv 1) (pv 2) (fun _ _ => rfl)) pa_nil))))))
        (fun _ _ _ _ _ => pv 2)) (pe_lst pa_nil) (nomark _)))))) pss_nil)
    pss_never, ?_⟩
  refine ⟨.ref q, rfl, (by show 2 ≤ sizeLine; decide), fun tp ntp => ?_⟩
  have g1 := Grow.new (o := .tup [.ty "tuple", .ty "list"]) ntp
  refine ⟨.ref q, tp, _, _, _, true, rfl, upd_same, .cons (.ty _) (.cons (.ty _) .nil), tyT (g1.seqT hq), any_tup, true, rfl, iteT ?_⟩
  refine ⟨.ref p, rfl, (by show 2 ≤ sizeLine; decide), fun tp2 ntp2 => ?_⟩
  have g2 := g1.trans (Grow.new (o := .tup [.ty "tuple", .ty "list"]) ntp2)
  refine ⟨.ref p, tp2, _, _, _, true, rfl, upd_same, .cons (.ty _) (.cons (.ty _) .nil), tyT (g2.seqT hp), any_tup, true, rfl, iteF ?_⟩
  refine ⟨.ref p, rfl, .ref p, _, _, _, false, rfl, .ty _, tyT (g2.seqT hp), kit_ty (by decide +kernel), .ref q, rfl, .ref q, _, _, _, false, rfl, .ty _, tyT (g2.seqT hq), kit_ty (by decide +kernel), rfl, false, ?_, iteF ?_⟩
  · rw [decide_eq_true rfl]
    rfl
  refine ⟨.ref p, rfl, p, _, rfl, .inr (g2.seqT hp), .ref q, rfl, q, _, rfl, .inr (g2.seqT hq), rfl, false, ?_, iteF ?_⟩
  · rw [decide_eq_true rfl]
    rfl
  refine ⟨.ref q, rfl, q, _, rfl, .inr (g2.seqT hq), 2, rfl, by decide, by decide, fun Dn nD => ?_⟩
  refine lc_range (lo := 0) (n := 2) (fun i H' => Grow _ H' ∧ H' Dn = some (.lst [])) ⟨Grow.new nD, upd_same⟩ ?_ ?_
  · rintro j H3 hj ⟨g3, hD⟩
    obtain ⟨v, hv⟩ : ∃ v : Int, (rt (a, b))[j]? = some (.int v) := by
      match j, hj with
      | 0, _ => exact ⟨a, rfl⟩
      | 1, _ => exact ⟨b, rfl⟩
    have ez : (0 : Int) + (j : Nat) = (j : Nat) := by omega
    have hat : atI (rt (a, b)) ((0 : Int) + (j : Nat)) = some (.int v) := by
      rw [ez]
      exact atI_nat hv
    have G := g2.trans g3
    refine ⟨rfl, .ref p, rfl, .int ((0 : Int) + (j : Nat)), rfl, p, _, (0 : Int) + (j : Nat), .int v, rfl, rfl, G.seqT hp, hat, .ref q, rfl, .int ((0 : Int) + (j : Nat)), rfl, q, _, (0 : Int) + (j : Nat), .int v, rfl, rfl, G.seqT hq, hat, v, rfl, fun H4 g4 => ⟨true, rfl, iteF ?_⟩⟩
    exact ⟨g3.trans g4, g4.lst hD⟩
  · rintro H3 ⟨g3, hD⟩
    refine ⟨Nat.zero_le _, fun e ne => ?_⟩
    have g4 := Grow.new (o := .lst []) ne
    refine ⟨_, _, dp_lst (ns := []) (.inl (.inl (g4.lst hD))), dp_lst (ns := []) lst_new, shp_lst _, shp_lst _, ?_⟩
    exact k _ ((g2.trans g3).trans g4)
end
end K45
/-! K45: the law. -/
namespace K45
open PySem PySem.Spec PyProof.Rows L2
section
variable {m : Nat} {os : List (Int × List Int)} {la lb : Int} {gs ord : List Nat}
theorem due_eq (ok : OutsOk m os) (lv : LvlOk la lb) (oo : OrdOk os.length (gsm gs os) ord) : dueOf la lb os gs (os.length - 1) = sm os.length fun i => gsm gs os i * partsOf la lb os ord i :=
  due_is (s := gsm gs os) (by have := ok.n1; omega) (fun i hi => (cap_bd ok lv hi).1) (den_bd ok lv).1 (den_le ok lv) oo.nd oo.mem oo.pw
theorem part_sum : sm gs.length (fun k => shr la lb os ord (gs.getD k 0)) = sm os.length fun j => gsm gs os j * partsOf la lb os ord j := by
  unfold shr
  rw [sm_swap]
  refine sm_congr fun j _ => ?_
  have e : gsm gs os j = sm gs.length fun k => lsv os (gs.getD k 0) j := rfl
  rw [e, Int.mul_comm, ← sm_mul]
  exact sm_congr fun k _ => Int.mul_comm _ _
theorem part_no {q : Nat → Int} (ok : OutsOk m os) (lv : LvlOk la lb) (oo : OrdOk os.length (gsm gs os) ord) (F : Fits os.length (capf lb os) (den la lb os) q) : sm os.length (fun j => gsm gs os j * q j) ≤ dueOf la lb os gs (os.length - 1) := by
  rw [due_eq ok lv oo]
  exact part_le (s := gsm gs os) (m := os.length - 1) (by have := ok.n1; omega) (fun i hi => (cap_bd ok lv hi).1) (den_bd ok lv).1 (den_le ok lv) oo.nd oo.mem oo.pw F
theorem shr_bd {gf : List Nat} (ok : OutsOk m os) (lv : LvlOk la lb) (oo : OrdOk os.length (gsm gf os) ord) (i : Nat) : 0 ≤ shr la lb os ord i ∧ shr la lb os ord i ≤ 100000000000 := by
  have := prods_sm ok lv oo (f := fun j => lsv os i j) (fun j hj => lsv_bd ok i hj) (Nat.le_refl os.length)
  unfold shr
  exact ⟨by omega, by omega⟩
theorem lvl_six {v : Int} (h0 : 0 ≤ v) (h1 : v < 7) : LvlOk (rat v 7).1 (rat v 7).2 := by
  have : v = 0 ∨ v = 1 ∨ v = 2 ∨ v = 3 ∨ v = 4 ∨ v = 5 ∨ v = 6 := by omega
  rcases this with rfl | rfl | rfl | rfl | rfl | rfl | rfl <;> exact ⟨by decide, by decide, by decide, by decide⟩
end
theorem RatsM_put {K : PySem.W.Frag} {Hb H' : Hp} {D p : Addr} {i : Nat} {f : Nat → Int} {N : Int} (nD : Hb D = none) (g : Grow Hb H') (h : RatsM K H' D i f N) (hi : i ≤ 1000) (hp : SqT K H' p (rt (rat (f i) N))) :
    ∃ acc, H' D = some (.lst acc) ∧ acc.length < sizeLine ∧ (Grow Hb (upd H' D (.lst (acc ++ [.ref p]))) ∧ RatsM K (upd H' D (.lst (acc ++ [.ref p]))) D (i + 1) f N) := by
  obtain ⟨ps, el, hD, hps⟩ := h
  refine ⟨_, hD, by rw [List.length_map, el]; exact small1000 hi, g.wr nD (by rw [hD]; exact fun z => by cases z), ps ++ [p], by simp [el], by rw [upd_same, List.map_append]; rfl, fun j r hjr => ?_⟩
  rcases Nat.lt_or_ge j ps.length with hj | hj
  · rw [List.getElem?_append_left hj] at hjr
    exact sqT_lst (hps j r hjr) hD
  · rw [List.getElem?_append_right hj] at hjr
    have ej : j - ps.length = 0 := by
      have := (List.getElem?_eq_some_iff.mp hjr).1
      simp at this
      omega
    rw [ej] at hjr
    have eq : p = r := by simpa using hjr
    subst eq
    have ej2 : j = i := by omega
    subst ej2
    exact sqT_lst hp hD
theorem call_isiE {X : Cx} {K : PySem.W.Frag} (hK : X.K = K) : CallR X (.builtin "isinstance") (rIsi K) := by
  subst hK
  exact call_isi
section
variable {P : Program} {w : World} {K : PySem.W.Frag} {mg : Str → Option Value} {base : Heap}
abbrev NLa : List Str := ["_law_script", "_law_row", "_law_outcomes_here", "_law_level", "_law_many", "_law_found", "_law_one", "_law_group", "_law_due", "_law_part", "_law_k"]
theorem scLaw : FnScope NLa ["_law_script"] (defScope sLaw) := ⟨rfl, rfl, rfl, by decide +kernel, rfl, by decide +kernel, by decide +kernel⟩
def spLaw (K : PySem.W.Frag) (T : Tbl) : Sp := fun vs H Q _ => ∃ (a : Addr) (ns : List Int), vs = [.ref a] ∧ SqL K H a (ns.map V.int) ∧ TbOk T H ∧ ∀ H', Q (.bl true) H'
theorem ok_law {f : Addr} {fd : FuncData} {T : Tbl} (D : Def K mg "law" sLaw ["_law_script"] f fd) (B : Blt mg)
    (Ct : Cal P w K mg base "_law_taken" 1 ["_law_row", "_law_many"] (spTaken K)) (Cp : Cal P w K mg base "_law_pick" 2 ["_law_row", "_law_things"] (spPick K)) (Co : Cal P w K mg base "_law_outcomes" 3 ["_law_row"] (spLOut K))
    (Cr : Cal P w K mg base "_law_ratio" 1 ["_law_top", "_law_bottom"] spRatio) (Ch : Cal P w K mg base "shares" 4 ["outcomes", "level"] (spShares K T)) (Cg : Cal P w K mg base "_law_groups" 1 ["_law_many"] (spGroups K))
    (Cs : Cal P w K mg base "_law_short" 3 ["_law_outcomes_here", "_law_members", "_law_level"] (spLShort K)) (Ca : Cal P w K mg base "_law_alike" 2 ["_law_found", "_law_due"] (spAlikeT K))
    (Cl : Cal P w K mg base "pool_shortfall" 5 ["outcomes", "members", "level"] (spShort K T fun _ m gs => GrpOk m gs)) (Cu : Cal P w K mg base "_law_sum" 3 ["_law_some"] (spTotal K)) : FnOk P w K mg base CX0 6 f fd ["_law_script"] (spLaw K T) := by
  obtain ⟨ft, fdt, Gt, gt, kt, bt⟩ := Ct
  obtain ⟨fp, fdp, Gp, gp, kp, bp⟩ := Cp
  obtain ⟨fo, fdo, Go, go, ko, bo⟩ := Co
  obtain ⟨fr, fdr, Gr, gr, kr, br⟩ := Cr
  obtain ⟨fh, fdh, Gh, gh, kh, bh⟩ := Ch
  obtain ⟨fg, fdg, Gg, gg, kg, bg⟩ := Cg
  obtain ⟨fs, fds, Gs, gs', ks, bs⟩ := Cs
  obtain ⟨fa, fda, Ga, ga, ka, ba⟩ := Ca
  obtain ⟨fl, fdl, Gl', gl, kl, bl⟩ := Cl
  obtain ⟨fu, fdu, Gu, gu, ku, bu⟩ := Cu
  have nd := scLaw.nd
  refine D.fn.ok scLaw (fun vs H Q E h => ?_) (fun cdv A outer s H vs Q E hr h => ?_)
  · obtain ⟨a, ns, rfl, _⟩ := h
    rfl
  obtain ⟨a, ns, rfl, hs, tb, k⟩ := h
  have hr1 : Room 1 _ := hr.mono (by decide)
  have hr2 : Room 2 _ := hr.mono (by decide)
  have hr3 : Room 3 _ := hr.mono (by decide)
  have hr4 : Room 4 _ := hr.mono (by decide)
  refine ⟨_, pss_cons (ps_set (i := 1) nd rfl (.inl rfl) (pe_lst (pa_cons (pv 0) (pa_cons pe_int (pa_cons pe_int (pa_cons pe_int pa_nil))))))
    (pss_cons (ps_set (i := 2) nd rfl (.inl rfl) (pe_call Go hr3 (by rfl) go ko bo .nil pass0 (pa_cons (pv 1) pa_nil)))
    (pss_cons (ps_set (i := 3) nd rfl (.inl rfl) (pe_call Gp hr2 (by rfl) gp kp bp .nil pass0 (pa_cons (pv 1) (pa_cons (pe_lst (pa_cons (pe_tup (pa_cons pe_int (pa_cons pe_int pa_nil))) (pa_cons (pe_tup (pa_cons pe_int (pa_cons pe_int pa_nil)))
        (pa_cons (pe_tup (pa_cons pe_int (pa_cons pe_int pa_nil))) (pa_cons (pe_tup (pa_cons pe_int (pa_cons pe_int pa_nil))) (pa_cons (pe_tup (pa_cons pe_int (pa_cons pe_int pa_nil)))
        (pa_cons (pe_call Gr hr1 (by rfl) gr kr br .nil pass0 (pa_cons (pe_call Gt hr1 (by rfl) gt kt bt .nil pass0 (pa_cons (pv 1) (pa_cons pe_int pa_nil))) (pa_cons pe_int pa_nil))) pa_nil))))))) pa_nil))))
    (pss_cons (ps_asg (pe_tup (pa_cons (pe_lenS B (pe_ix ix_tup (pe_ix ix_tup (pv 2) pe_int (fun _ _ => rfl)) pe_int (fun _ _ => rfl))) (pa_cons (pe_call Gh hr4 (by rfl) gh kh bh .nil pass0 (pa_cons (pv 2) (pa_cons (pv 3) pa_nil))) pa_nil)))
      (pg_tup (n := 2) rfl (pgs_cons (pg_name (i := 4) nd rfl (.inl rfl)) (pgs_cons (pg_name (i := 5) nd rfl (.inr rfl)) pgs_nil))))
    (pss_cons (ps_if (PW.pt (pw_or (pt_not (pt_val (pe_isT B (pv 5)))) (pw_or1 (pt_cmpR op_ne (pe_lenS B (pv 5)) (pv 4) (nomark _))))) pss_never pss_nil)
    (pss_cons (ps_for PassesOwn.never rfl (pi_tup (pv 5)) (pg_name (i := 6) nd rfl (.inl rfl))
      (pss_cons (ps_if (PW.pt (pw_or (pt_not (pt_val (pe_isT B (pv 6)))) (pw_or (pt_cmpR op_ne (pe_lenS B (pv 6)) pe_int (nomark _)) (pw_or1 (pt_cmpR (op_neD hr.units)
          (pe_lc (own := [("_law_k", 10)]) (g := gName 10) rfl nd (pi_tup (pv 6)) (blkOk_by (own := [("_law_k", 10)]) (N := NLa) (sc := defScope sLaw) (by decide +kernel)) (fun _ _ _ _ _ => pg_name (i := 10) nd rfl (Or.inl rfl))
            (fun _ _ _ _ _ => pts_one (PW.pt (pw_or (pt_not (pt_val (pe_callB (call_isiE (K := K) rfl) (by rfl) B.isi bt_isi (pa_cons (pv 10) (pa_cons (pe_bltn (by rfl) B.int bt_int (v := .ty "int") rfl) pa_nil)))))
              (pw_or1 (pt_val (pe_callB (call_isiE (K := K) rfl) (by rfl) B.isi bt_isi (pa_cons (pv 10) (pa_cons (pe_bltn (by rfl) B.bool bt_bool (v := .ty "bool") rfl) pa_nil))))))))
            (fun _ _ _ _ _ => pv 10)) (pe_lst pa_nil) (nomark _)))))) pss_never pss_nil)
      (pss_one (ps_if (PW.pt (pw_or (pt_cmpR op_lt (pe_ix ix_tup (pv 6) pe_int (fun _ _ => rfl)) pe_int (nomark _)) (pw_or1 (pt_cmpR (op_neD hr.units) (pe_call Gr hr1 (by rfl) gr kr br .nil pass0 (pa_cons (pe_ix ix_tup (pv 6) pe_int (fun _ _ => rfl)) (pa_cons (pe_ix ix_tup (pv 6) pe_int (fun _ _ => rfl)) pa_nil))) (pv 6) (nomark _))))) pss_never pss_nil))))
    (pss_cons (ps_for PassesOwn.never rfl (pi_list (pe_call Gg hr1 (by rfl) gg kg bg .nil pass0 (pa_cons (pv 4) pa_nil))) (pg_name (i := 7) nd rfl (.inl rfl))
      (pss_cons (ps_set (i := 8) nd rfl (.inl rfl) (pe_call Gs hr3 (by rfl) gs' ks bs .nil pass0 (pa_cons (pv 2) (pa_cons (pv 7) (pa_cons (pv 3) pa_nil)))))
      (pss_cons (ps_if (pt_not (pt_val (pe_call Ga hr2 (by rfl) ga ka ba .nil pass0 (pa_cons (pe_call Gl' hr (by rfl) gl kl bl .nil pass0 (pa_cons (pv 2) (pa_cons (pv 7) (pa_cons (pv 3) pa_nil)))) (pa_cons (pv 8) pa_nil))))) pss_never pss_nil)
      (pss_cons (ps_set (i := 9) nd rfl (.inl rfl) (pe_call Gu hr3 (by rfl) gu ku bu .nil pass0 (pa_cons
          (pe_lc (own := [("_law_k", 10)]) (g := gName 10) (tt := tYes) rfl nd (pi_tup (pv 7)) (blkOk_by (own := [("_law_k", 10)]) (N := NLa) (sc := defScope sLaw) (by decide +kernel)) (fun _ _ _ _ _ => pg_name (i := 10) nd rfl (Or.inl rfl)) (fun _ _ _ _ _ => pts_nil)
            (fun _ _ _ _ _ => pe_ix (ixT (K := K) rfl) (pv 5) (pv 10) (fun _ _ => rfl))) pa_nil)))
      (pss_one (ps_if (PW.pt (pw_or (pt_cmpR op_gt (pe_op op_mul (pe_ix ix_tup (pv 9) pe_int (fun _ _ => rfl)) (pe_ix ix_tup (pv 8) pe_int (fun _ _ => rfl))) (pe_op op_mul (pe_ix ix_tup (pv 8) pe_int (fun _ _ => rfl)) (pe_ix ix_tup (pv 9) pe_int (fun _ _ => rfl))) (nomark _))
          (pw_or1 (PW.pt (pw_and (pt_cmpR op_eq (pe_lenS B (pv 7)) (pv 4) (nomark _)) (pw_and1 (pt_cmpR (op_neD hr.units) (pv 9) (pv 8) (nomark _)))))))) pss_never pss_nil))))))
    (pss_one (ps_ret pe_bl)))))))), ?_⟩
  refine ⟨.ref a, rfl, (by show 4 ≤ sizeLine; decide), fun r nr => ?_⟩
  have g1 := Grow.new (o := .lst [.ref a, .int 0, .int 3445, .int 0]) nr
  have R1 : Row K (upd H r (.lst [.ref a, .int 0, .int 3445, .int 0])) r a ns := ⟨⟨0, 3445, 0, upd_same, by decide, by decide, by decide⟩, g1.seqL hs⟩
  refine ⟨.ref r, rfl, r, a, ns, rfl, R1, fun po H2 m os hO ok R2 x2 => ?_⟩
  have G2 := g1.thenX nr x2
  obtain ⟨ys2, hr2'⟩ := R2.at
  refine ⟨.ref r, rfl, (by show 2 ≤ sizeLine; decide), fun t1 n1 => ⟨(by show 2 ≤ sizeLine; decide), fun t2 n2 => ⟨(by show 2 ≤ sizeLine; decide), fun t3 n3 => ⟨(by show 2 ≤ sizeLine; decide), fun t4 n4 => ⟨(by show 2 ≤ sizeLine; decide), fun t5 n5 => ?_⟩⟩⟩⟩⟩
  have k1 := Grow.new (o := .tup [.int 0, .int 1]) n1
  have k2 := Grow.new (o := .tup [.int 1, .int 2]) n2
  have k3 := Grow.new (o := .tup [.int 9, .int 10]) n3
  have k4 := Grow.new (o := .tup [.int 1, .int 3]) n4
  have k5 := Grow.new (o := .tup [.int 999, .int 1000]) n5
  have R5 := ((((R2.grow k1).grow k2).grow k3).grow k4).grow k5
  refine ⟨.ref r, rfl, r, a, ns, 7, rfl, R5, by decide, by decide, fun v H8 v0 v1 R8 x8 => ⟨v, 7, rfl, by decide, by decide +kernel, fun t6 n6 => ⟨(by show 6 ≤ sizeLine; decide), fun l nl => ?_⟩⟩⟩
  have k6 := Grow.new (o := .tup (rt (rat v 7))) n6
  have k7 := Grow.new (o := .lst [.ref t1, .ref t2, .ref t3, .ref t4, .ref t5, .ref t6]) nl
  have R9 := (R8.grow k6).grow k7
  refine ⟨r, a, l, ns, _, rfl, R9, .inl (.inl upd_same), (R8.grow k6).ne nl, by simp, by simp, fun lv H10 hlv R10 x10 => ?_⟩
  have G10 : Grow H H10 := (((((((((G2.trans k1).trans k2).trans k3).trans k4).trans k5).thenX nr x8).trans k6).trans k7).thenX nr x10)
  have x7 : ∀ {t : Addr} {xs : List V}, SqT K (upd (upd (upd (upd (upd H2 t1 (.tup [.int 0, .int 1])) t2 (.tup [.int 1, .int 2])) t3 (.tup [.int 9, .int 10])) t4 (.tup [.int 1, .int 3])) t5 (.tup [.int 999, .int 1000])) t xs → SqT K H10 t xs := fun h => by
    obtain ⟨ys5, hr5⟩ := R5.at
    obtain ⟨ys9, hr9⟩ := R9.at
    exact x10.seqT hr9 (k7.seqT (k6.seqT (x8.seqT hr5 h)))
  have hO10 : OutsAt K H10 po os := by
    obtain ⟨ts, ha, hl, hts⟩ := hO
    have up : ∀ {t : Addr} {xs : List V}, SqT K H2 t xs → SqT K H10 t xs := fun h => x7 (k5.seqT (k4.seqT (k3.seqT (k2.seqT (k1.seqT h)))))
    refine ⟨ts, up ha, hl, fun i t o h1 h2 => ?_⟩
    obtain ⟨tl, a, b⟩ := hts i t o h1 h2
    exact ⟨tl, up a, up b⟩
  obtain ⟨t, la, lb, elv, ht, lvl⟩ : ∃ (t : Addr) (la lb : Int), lv = .ref t ∧ SqT K H10 t (rt (la, lb)) ∧ LvlOk la lb := by
    simp only [List.mem_cons, List.not_mem_nil, or_false] at hlv
    rcases hlv with h | h | h | h | h | h
    · exact ⟨t1, 0, 1, h, x7 (k5.seqT (k4.seqT (k3.seqT (k2.seqT tup_new)))), ⟨by decide, by decide, by decide, by decide⟩⟩
    · exact ⟨t2, 1, 2, h, x7 (k5.seqT (k4.seqT (k3.seqT tup_new))), ⟨by decide, by decide, by decide, by decide⟩⟩
    · exact ⟨t3, 9, 10, h, x7 (k5.seqT (k4.seqT tup_new)), ⟨by decide, by decide, by decide, by decide⟩⟩
    · exact ⟨t4, 1, 3, h, x7 (k5.seqT tup_new), ⟨by decide, by decide, by decide, by decide⟩⟩
    · exact ⟨t5, 999, 1000, h, x7 tup_new, ⟨by decide, by decide, by decide, by decide⟩⟩
    · obtain ⟨ys9, hr9⟩ := R9.at
      exact ⟨t6, (rat v 7).1, (rat v 7).2, h, x10.seqT hr9 (k7.seqT tup_new), lvl_six v0 v1⟩
  subst elv
  have tb10 := tb.grow G10
  obtain ⟨os1, o1, tl1, wv, ls, ho1, ho0, hto, htl, hlen⟩ := hO10.first ok
  refine ⟨.ref po, rfl, po, _, _, _, rfl, rfl, ho1, atI_nat (j := 0) ho0, o1, _, _, _, rfl, rfl, hto, atI_nat (j := 1) rfl, tl1, _, rfl, .inr htl, ?_⟩
  rw [hlen]
  refine ⟨.ref po, rfl, .ref t, rfl, po, t, m, os, la, lb, rfl, hO10, ok, ht, lvl, tb10, fun ps H11 ordF ss g11 nps oof hsl hps hss => ?_⟩
  refine ⟨(by show 2 ≤ sizeLine; decide), fun T2 nT2 => ⟨T2, _, rfl, tup_new, rfl, _, _, rfl, _, _, rfl, rfl, ?_⟩⟩
  have kT := Grow.new (o := .tup [.int (m : Int), .ref ps]) nT2
  have hps' : SqT K (upd H11 T2 (.tup [.int (m : Int), .ref ps])) ps (ss.map V.ref) := kT.seqT (.inl (.inl hps))
  have G12 := g11.trans kT
  refine ⟨.ref ps, rfl, tyT hps', true, rfl, iteF ?_⟩
  refine ⟨.ref ps, rfl, ps, _, rfl, .inr hps', .int (m : Int), rfl, rfl, false, ?_, iteF ?_⟩
  · rw [List.length_map, hsl, decide_eq_true rfl]
    rfl
  obtain ⟨d1, d2⟩ := den_bd ok lvl
  have m1 := ok.m1
  have m4 := ok.m4
  have bs := fun i => shr_bd ok lvl oof i
  refine ⟨.ref ps, rfl, ps, rfl, ⟨_, hps'⟩, for_tup (K := K) (a := ps) (xs := ss.map V.ref) (fun i σ H' => ∃ e6, σ = [some (.ref a), some (.ref r), some (.ref po), some (.ref t), some (.int (m : Int)), some (.ref ps), e6, none, none, none, none] ∧ Grow (upd H11 T2 (.tup [.int (m : Int), .ref ps])) H')
    ⟨none, rfl, Grow.refl _⟩ (fun i σ H' _ ⟨_, _, g⟩ => g.seqT hps') ?_ ?_⟩
  · rintro i x σ Hb hx ⟨e6, rfl, gb⟩
    obtain ⟨tj, htj, rfl⟩ := at_map hx
    have hq : SqT K Hb tj (rt (rat (shr la lb os ordF i) (den la lb os))) := gb.seqT (kT.seqT (hss i tj htj))
    have bq := rat_pos (x := shr la lb os ordF i) d1
    have bq2 := rat_bot_le (x := shr la lb os ordF i) d1
    have eself : rat (rat (shr la lb os ordF i) (den la lb os)).1 (rat (shr la lb os ordF i) (den la lb os)).2 = rat (shr la lb os ordF i) (den la lb os) := rat_self (rat_gcd d1)
    generalize rat (shr la lb os ordF i) (den la lb os) = q at *
    refine ⟨.ref tj, rfl, tyT hq, true, rfl, iteF ?_⟩
    refine ⟨.ref tj, rfl, tj, _, rfl, .inr hq, rfl, false, rfl, iteF ?_⟩
    refine ⟨.ref tj, rfl, tj, rfl, ⟨_, hq⟩, fun Dn nD => ?_⟩
    refine lc_tup (K := K) (a := tj) (xs := rt q) (fun j H' => Grow Hb H' ∧ H' Dn = some (.lst [])) ⟨Grow.new nD, upd_same⟩ (fun j H' _ h => h.1.seqT hq) ?_ ?_
    · rintro j y Hc hy ⟨gc, hD⟩
      obtain ⟨v, rfl⟩ : ∃ v : Int, y = .int v := by
        match j, hy with
        | 0, hy => exact ⟨_, (Option.some.inj hy).symm⟩
        | 1, hy => exact ⟨_, (Option.some.inj hy).symm⟩
      refine ⟨rfl, .int v, rfl, .int v, _, _, _, true, rfl, .ty _, .base (.int v), kit_ty (by decide +kernel), true, rfl, iteF ?_⟩
      exact ⟨.int v, rfl, .int v, _, _, _, false, rfl, .ty _, .base (.int v), kit_ty (by decide +kernel), false, rfl, iteF ⟨gc, hD⟩⟩
    rintro Hc ⟨gc, hD⟩
    refine ⟨Nat.zero_le _, fun e ne => ?_⟩
    have ge := Grow.new (o := .lst []) ne
    refine ⟨_, _, dp_lst (ns := []) (.inl (.inl (ge.lst hD))), dp_lst (ns := []) lst_new, shp_lst _, shp_lst _, false, rfl, iteF ?_⟩
    have gd := gc.trans ge
    have hqd := gd.seqT hq
    refine ⟨.ref tj, rfl, tj, _, _, _, rfl, rfl, hqd, atI_nat (j := 1) rfl, q.2, 1, rfl, rfl, _, rfl, ?_⟩
    rw [decide_eq_false (show ¬ q.2 < 1 by omega)]
    refine iteF ?_
    refine ⟨.ref tj, rfl, tj, _, _, _, rfl, rfl, hqd, atI_nat (j := 0) rfl, .ref tj, rfl, tj, _, _, _, rfl, rfl, hqd, atI_nat (j := 1) rfl, q.1, q.2, rfl, by omega, by unfold big; omega, fun pr npr => ?_⟩
    have gr' := Grow.new (o := .tup (rt (rat q.1 q.2))) npr
    refine ⟨.ref tj, rfl, _, _, dp_tup (ns := [q.1, q.2]) (tup_eq (by rw [eself]; rfl)), dp_tup (ns := [q.1, q.2]) (gr'.seqT hqd), shp_tup _, shp_tup _, false, ?_, iteF ?_⟩
    · have e := eqv_self [q.1, q.2]
      show V.bl (!PyData.eqvAll (List.map PyData.int [q.1, q.2]) (List.map PyData.int [q.1, q.2])) = V.bl false
      rw [e]
      rfl
    · exact ⟨_, rfl, (gb.trans gd).trans gr'⟩
  rintro σ Hb ⟨e6, rfl, gb⟩
  refine ⟨.int (m : Int), rfl, m, rfl, m1, m4, fun pg Hc tgs gc npg hpg htgs => ?_⟩
  have G13 := G12.trans (gb.trans gc)
  refine ⟨pg, rfl, ⟨_, .inl (.inl hpg)⟩, for_list (K := K) (a := pg) (xs := tgs.map V.ref) (fun i σ H' => ∃ e7 e8 e9, σ = [some (.ref a), some (.ref r), some (.ref po), some (.ref t), some (.int (m : Int)), some (.ref ps), e6, e7, e8, e9, none] ∧ Grow Hc H')
    ⟨none, none, none, rfl, Grow.refl _⟩ (fun i σ H' _ ⟨_, _, _, _, g⟩ => g.seqL (.inl (.inl hpg))) ?_ ?_⟩
  · rintro i x σ Hd hx ⟨e7, e8, e9, rfl, gd⟩
    obtain ⟨tg, htg, rfl⟩ := at_map hx
    obtain ⟨gs, hgd, hne, hgs0⟩ := htgs tg (List.mem_of_getElem? htg)
    have hgs := gd.seqT hgs0
    have G14 := (G13.trans gd)
    have l4 : gs.length ≤ 4 := by have := hgd.len; omega
    refine ⟨.ref po, rfl, .ref tg, rfl, .ref t, rfl, po, tg, t, m, os, gs, la, lb, rfl, hO10.grow G14, ok, hgs, hgd.lt, l4, G14.seqT ht, lvl, fun pd He ge hd => ?_⟩
    have G15 := G14.trans ge
    refine ⟨.ref po, rfl, .ref tg, rfl, .ref t, rfl, po, tg, t, m, os, gs, la, lb, rfl, hO10.grow G15, ok, ge.seqT hgs, hgd.lt, l4, G15.seqT ht, lvl, tb10.grow G15, ⟨hne, hgd.lt, hgd.asc⟩, fun pp Hf ord gf npp oo hpp => ?_⟩
    have hdf := gf.seqT hd
    rw [← due_eq ok lvl oo] at hpp
    refine ⟨.ref pd, rfl, pp, pd, _, _, rfl, .inl (.inl hpp), hdf, fun Hg gg => ⟨true, rfl, iteF ?_⟩⟩
    have G16 := (gf.trans gg)
    have hdg := gg.seqT hdf
    have hgsg := G16.seqT (ge.seqT hgs)
    have hpsg : SqT K Hg ps (ss.map V.ref) := G16.seqT (ge.seqT (gd.seqT (gc.seqT (gb.seqT hps'))))
    refine ⟨.ref tg, rfl, tg, rfl, ⟨_, hgsg⟩, fun Dn nD => lc_tup (K := K) (a := tg) (xs := natV gs) (fun j H' => Grow Hg H' ∧ RatsM K H' Dn j (fun k => shr la lb os ordF (gs.getD k 0)) (den la lb os))
      ⟨Grow.new nD, [], rfl, upd_same, fun j q hq => by simp at hq⟩ (fun j H' _ h => h.1.seqT hgsg) ?_ ?_⟩
    · rintro j z Hh hz ⟨gh', hM⟩
      obtain ⟨z', hz', rfl⟩ := at_map hz
      rw [List.getElem?_map] at hz'
      cases e : gs[j]? with
      | none => rw [e] at hz'; cases hz'
      | some q =>
        rw [e] at hz'
        cases hz'
        have hqm := hgd.lt q (List.mem_of_getElem? e)
        have hjg : j < gs.length := (List.getElem?_eq_some_iff.mp e).1
        have e2 : gs.getD j 0 = q := by rw [List.getD_eq_getElem?_getD, e]; rfl
        have hsq : ss[q]? = some (ss[q]'(by omega)) := List.getElem?_eq_getElem _
        refine ⟨rfl, .ref ps, rfl, .int (q : Int), rfl, ps, _, (q : Int), .ref (ss[q]'(by omega)), rfl, rfl, gh'.seqT hpsg, atI_nat (by rw [List.getElem?_map, hsq]; rfl), RatsM_put nD gh' hM (by omega) ?_⟩
        rw [e2]
        exact gh'.seqT (G16.seqT (ge.seqT (gd.seqT (gc.seqT (gb.seqT (kT.seqT (hss q _ hsq)))))))
    rintro Hh ⟨gh', hM⟩
    have lnV : (natV gs).length = gs.length := by rw [List.length_map, List.length_map]
    rw [lnV] at hM
    have bpart := fun j (hj : j ≤ gs.length) => sm_bd (n := j) (f := fun k => shr la lb os ordF (gs.getD k 0)) (c := 100000000000) fun k _ => bs _
    refine ⟨Dn, gs.length, fun k => shr la lb os ordF (gs.getD k 0), den la lb os, rfl, hM.rats, d1, .of (by omega) (by omega), fun j hj => ?_, fun j hj => ?_, fun pq Hi gi npq hpq => ?_⟩
    · have := bs (gs.getD j 0)
      show Sm (shr la lb os ordF (gs.getD j 0))
      exact .of (by omega) (by omega)
    · have := bpart j hj
      exact .of (by omega) (by omega)
    have hdi := gi.seqT (gh'.seqT hdg)
    have hgsi := gi.seqT (gh'.seqT hgsg)
    have hno := part_no (q := partsOf la lb os ordF) ok lvl oo (parts_fit ok lvl oof)
    have hdb : dueOf la lb os gs (os.length - 1) = sm os.length fun i => gsm gs os i * partsOf la lb os ord i := due_eq ok lvl oo
    have hdb2 := prods_sm ok lvl oo (f := gsm gs os) (fun j hj => gsm_bd ok l4 hj) (Nat.le_refl os.length)
    have hpq' : SqT K Hi pq (rt (rat (sm os.length fun j => gsm gs os j * partsOf la lb os ordF j) (den la lb os))) := by
      rw [part_sum] at hpq
      exact .inl (.inl hpq)
    have hpb := prods_sm ok lvl oof (f := gsm gs os) (fun j hj => gsm_bd ok l4 hj) (Nat.le_refl os.length)
    have hfull : gs.length = m → (sm os.length fun j => gsm gs os j * partsOf la lb os ordF j) = dueOf la lb os gs (os.length - 1) := fun e => by
      have eg := hgd.full e
      rw [← eg] at oof
      exact (due_eq ok lvl oof).symm
    generalize hYY : dueOf la lb os gs (os.length - 1) = Y at *
    generalize hXX : (sm os.length fun j => gsm gs os j * partsOf la lb os ordF j) = X at *
    have sX : Sm X := .of (by omega) (by omega)
    have sY : Sm Y := .of (by omega) (by omega)
    refine ⟨.ref pq, rfl, pq, _, _, _, rfl, rfl, hpq', atI_nat (j := 0) rfl, .ref pd, rfl, pd, _, _, _, rfl, rfl, hdi, atI_nat (j := 1) rfl, _, _, rfl, rfl, .inl (sX.top d1).mulok,
      .ref pd, rfl, pd, _, _, _, rfl, rfl, hdi, atI_nat (j := 0) rfl, .ref pq, rfl, pq, _, _, _, rfl, rfl, hpq', atI_nat (j := 1) rfl, _, _, rfl, rfl, .inl (sY.top d1).mulok, _, _, rfl, rfl, _, rfl, ?_⟩
    rw [decide_eq_false (fun z => Int.not_le.mpr ((rat_less d1).mp z) hno)]
    refine iteF ?_
    refine ⟨.ref tg, rfl, tg, _, rfl, .inr hgsi, .int (m : Int), rfl, rfl, _, rfl, ?_⟩
    rw [lnV]
    have fin : Grow Hc Hi := (((((gd.trans ge).trans gf).trans gg).trans gh').trans gi)
    by_cases he : gs.length = m
    · rw [decide_eq_true (show V.int (gs.length : Int) = V.int (m : Int) by rw [he])]
      refine iteT ?_
      have eXY := hfull he
      refine ⟨.ref pq, rfl, .ref pd, rfl, _, _, dp_tup (ns := [(rat Y (den la lb os)).1, (rat Y (den la lb os)).2]) (by rw [eXY] at hpq'; exact hpq'), dp_tup (ns := [(rat Y (den la lb os)).1, (rat Y (den la lb os)).2]) hdi, shp_tup _, shp_tup _, false, ?_, iteF ?_⟩
      · have e := eqv_self [(rat Y (den la lb os)).1, (rat Y (den la lb os)).2]
        show V.bl (!PyData.eqvAll (List.map PyData.int [(rat Y (den la lb os)).1, (rat Y (den la lb os)).2]) (List.map PyData.int [(rat Y (den la lb os)).1, (rat Y (den la lb os)).2])) = V.bl false
        rw [e]
        rfl
      · exact ⟨_, _, _, rfl, fin⟩
    · rw [decide_eq_false (show ¬ V.int (gs.length : Int) = V.int (m : Int) from fun z => he (by have := V.int.inj z; omega))]
      refine iteF (iteF ?_)
      exact ⟨_, _, _, rfl, fin⟩
  · rintro σ Hd ⟨e7, e8, e9, rfl, gd⟩
    exact k Hd
end
end K45
/-! K45: the end. -/
namespace K45
open PySem PySem.Spec PyProof.Rows L2
/-- the tables of the defs are empty at the head's heap -/
def TabsOk (q : Program) (K : PySem.W.Frag) (mg : Str → Option Value) (h : Heap) : Prop := ∀ (x : Str) (f c P : Addr) (o : Obj) (fd : FuncData) (e : Value) (dd : Option Addr) (vs : Array Value) (sl : Array (Option Value)), ((recsOf q).any fun r => r.name == x) = true → mg x = some (.ref f) →
  K.lookup f = some o → o.data = .func fd → fd.code = .ref c → K.lookup c = some ⟨e, dd, .fields vs, sl⟩ → vs[11]? = some (.ref P) → PySem.W.CodeHd h c P ∧ h.get? P = some { cls := .none, data := .fields #[] }
theorem walk_ofTabs {l : PySem.W.OpenLaw} {n k : Nat} {q : Program} {loose : List Str} {XP : (Str → Option Value) → Heap → Prop} {YP : World → Heap → Prop} {d : DefRec} {K : Params → PySem.W.Frag} {CX : World → CXT} {x : Str}
    (hn : l.most = some n) (hn2 : n ≤ sizeLine) (hdf : d.params.defaults = []) (hr : Room k callerA) (hY : ∀ (w : World) (h : Heap), YP w h → (K w.params).In h)
    (F : ∀ (w : World) (mg : Str → Option Value) (fa : Addr) (h : Heap), YP w h → (K w.params).In h → h.Ns mainGlobals mg → mg d.name = some (.ref fa) → TabsOk q (K w.params) mg h → LamX.LawAtS l w (K w.params) (CX w) k n x mg fa h)
    (hCX : ∀ (w : World) (H : Hp) (s : Shared) (e : Value) (s' : Shared), CX w [] H s (fun _ _ _ => False) e s' → False) :
    PySem.W.WalkO q loose XP YP l.row.toRowW d [] (fun f vs => PySem.call f vs) := by
  refine Att.attach_callB hn hdf fun w s₀ s₁ mg mb fa o pm cd doc a vs ns G Y ho hd hcd hmg hobj hints hlen hbits hg => ?_
  have KX := hY w _ Y
  have own : TabsOk q (K w.params) mg s₁.heap := fun y f c P o1 fd1 e dd vs1 sl hrec hf k1 k2 k3 k4 k5 => by
    obtain ⟨dL, hm, hn1⟩ := List.any_eq_true.mp hrec
    have hn2 : dL.name = y := beq_iff_eq.mp hn1
    obtain ⟨a', o', fd', c', P', h1, h2, h3, h4, h5, h6⟩ := G.T.tab dL hm
    rw [hn2, hf] at h1
    cases h1
    have g1 := KX _ _ k1
    rw [g1] at h2
    cases h2
    rw [k2] at h3
    cases h3
    rw [k3] at h4
    cases h4
    have h6' := h6
    obtain ⟨⟨oc, vc, e1, _, e3, e4⟩, hP⟩ := h6'
    have g2 := KX _ _ k4
    rw [g2] at e1
    cases e1
    cases e3
    rw [k5] at e4
    cases e4
    exact ⟨PySem.W.CodeHd.of h5 h6, hP⟩
  obtain ⟨fd, cs, sp, hT, nT, C, hb, hsp, hF⟩ := F w mg fa _ Y KX G.T.g hmg own
  exact LamX.law_callTs KX G.T.g G.T.b G.T.builtins G.T.nolimit hg hT nT C G.T.bmain hobj hints (Nat.le_trans hlen hn2) hr hF hb (fun H hH hS => hsp H a ns hlen hbits hH hS) fun H e s' => hCX w H s₁ e s'
section
variable {K : PySem.W.Frag} {h : Heap} {mg : Str → Option Value}
theorem def_mk {nm : Str} {st : Stmt} {ps : List Str} {f : Addr} {oc : Value} {od an : Option Addr} {osl : Array (Option Value)} {kV doc pm cdv ct : Value} (X : K.In h) (G : h.Ns mainGlobals mg)
    (b : ∀ (kV doc pm : Value) (an : Option Addr) (cdv ct : Value) (us : List Value), us.length = ps.length → bindArgs (PySem.W.fnOf nm nm (defArgs st) (defBody st) (defScope st) .none kV doc pm an cdv ct) ⟨us, []⟩ = pure (ps.zip us))
    (a : PySem.W.nsIn K mainGlobals nm = some (some (.ref f))) (l : K.lookup f = some ⟨oc, od, .func (PySem.W.fnOf nm nm (defArgs st) (defBody st) (defScope st) .none kV doc pm an cdv ct), osl⟩)
    (c : PySem.W.codeIn K cdv nm = true) (k : PySem.W.keepIn K (.ref f) = true) : ∃ (f : Addr) (fd : FuncData), Def K mg nm st ps f fd := by
  have F := fun_mk (st := st) l c k
  exact ⟨f, _, F, PySem.W.mg_of X G a, F.binds b⟩
structure TabD (q : Program) (K : PySem.W.Frag) (mg : Str → Option Value) (h : Heap) (nm : Str) (st : Stmt) (ps : List Str) (f : Addr) (fd : FuncData) (c P : Addr) : Prop where
  d : DefC K mg nm st ps f fd c
  hd : PySem.W.CodeHd h c P
  at_ : h.get? P = some { cls := .none, data := .fields #[] }
  no : K.lookup P = none
theorem defc_mk {q : Program} {nm : Str} {st : Stmt} {ps : List Str} {f c P : Addr} {oc : Value} {od an : Option Addr} {osl : Array (Option Value)} {kV doc pm ct : Value} {e : Value} {dd : Option Addr} {vs : Array Value} {sl : Array (Option Value)} (X : K.In h) (G : h.Ns mainGlobals mg) (T : TabsOk q K mg h)
    (b : ∀ (kV doc pm : Value) (an : Option Addr) (cdv ct : Value) (us : List Value), us.length = ps.length → bindArgs (PySem.W.fnOf nm nm (defArgs st) (defBody st) (defScope st) .none kV doc pm an cdv ct) ⟨us, []⟩ = pure (ps.zip us))
    (hrec : ((recsOf q).any fun r => r.name == nm) = true)
    (a : PySem.W.nsIn K mainGlobals nm = some (some (.ref f))) (l : K.lookup f = some ⟨oc, od, .func (PySem.W.fnOf nm nm (defArgs st) (defBody st) (defScope st) .none kV doc pm an (.ref c) ct), osl⟩)
    (hc : PySem.W.codeIn K (.ref c) nm = true) (k : PySem.W.keepIn K (.ref f) = true) (lc : K.lookup c = some ⟨e, dd, .fields vs, sl⟩) (hp : vs[11]? = some (.ref P)) (np : K.lookup P = none) : ∃ (f : Addr) (fd : FuncData) (c P : Addr), TabD q K mg h nm st ps f fd c P := by
  have F := fun_mk (st := st) l hc k
  obtain ⟨t1, t2⟩ := T nm f c P _ _ _ _ _ _ hrec (PySem.W.mg_of X G a) l rfl rfl lc hp
  exact ⟨f, _, c, P, ⟨⟨oc, od, kV, doc, pm, an, ct, osl, rfl, l, hc⟩, k, PySem.W.mg_of X G a, F.binds b⟩, t1, t2, np⟩
theorem blt_mk {t1 t2 t3 : Tok} (X : K.In h) (G : h.Ns mainGlobals mg) (z1 : PySem.W.nsIn K mainGlobals "len" = some none) (z2 : PySem.W.nsIn K mainGlobals "isinstance" = some none) (z3 : PySem.W.nsIn K mainGlobals "int" = some none) (z4 : PySem.W.nsIn K mainGlobals "bool" = some none)
    (z5 : PySem.W.nsIn K mainGlobals "tuple" = some none) (z6 : PySem.W.nsIn K mainGlobals "list" = some none) (z7 : PySem.W.nsIn K mainGlobals "str" = some none) (z8 : PySem.W.nsIn K mainGlobals "all" = some none) (z9 : PySem.W.nsIn K mainGlobals "any" = some none)
    (z10 : PySem.W.nsIn K mainGlobals "sum" = some none) (z11 : PySem.W.nsIn K mainGlobals "range" = some none) (z12 : PySem.W.nsIn K mainGlobals "enumerate" = some none) (z13 : PySem.W.nsIn K mainGlobals "sorted" = some none) (z14 : PySem.W.nsIn K mainGlobals "zip" = some none)
    (z15 : PySem.W.nsIn K mainGlobals "max" = some none) (z16 : PySem.W.nsIn K mainGlobals "abs" = some none) (z17 : PySem.W.nsIn K mainGlobals "gcd" = some (some (.builtin "math.gcd"))) (z18 : PySem.W.nsIn K mainGlobals "MOST_OUTCOMES" = some (some (.int 8 t1)))
    (z19 : PySem.W.nsIn K mainGlobals "MOST_MEMBERS" = some (some (.int 4 t2))) (z20 : PySem.W.nsIn K mainGlobals "MOST_SIZE" = some (some (.int 1000 t3))) : Blt mg :=
  ⟨PySem.W.mg_none_of X G z1, PySem.W.mg_none_of X G z2, PySem.W.mg_none_of X G z3, PySem.W.mg_none_of X G z4, PySem.W.mg_none_of X G z5, PySem.W.mg_none_of X G z6, PySem.W.mg_none_of X G z7, PySem.W.mg_none_of X G z8, PySem.W.mg_none_of X G z9, PySem.W.mg_none_of X G z10,
    PySem.W.mg_none_of X G z11, PySem.W.mg_none_of X G z12, PySem.W.mg_none_of X G z13, PySem.W.mg_none_of X G z14, PySem.W.mg_none_of X G z15, PySem.W.mg_none_of X G z16, PySem.W.mg_of X G z17, ⟨_, PySem.W.mg_of X G z18⟩, ⟨_, PySem.W.mg_of X G z19⟩, ⟨_, PySem.W.mg_of X G z20⟩⟩
theorem all_end {l : PySem.W.OpenLaw} {w : World} {q : Program} {fa : Addr} (hfa : mg "law" = some (.ref fa)) (B : Blt mg)
    (d1 : ∃ f fd, Def K mg "ratio" sRatio ["top", "bottom"] f fd) (d2 : ∃ f fd, Def K mg "plus" sPlus ["one", "other"] f fd) (d3 : ∃ f fd, Def K mg "minus" sMinus ["one", "other"] f fd) (d4 : ∃ f fd, Def K mg "by" sBy ["one", "other"] f fd)
    (d5 : ∃ f fd, Def K mg "over" sOver ["one", "other"] f fd) (d6 : ∃ f fd, Def K mg "less" sLess ["one", "other"] f fd) (d7 : ∃ f fd, Def K mg "total" sTotal ["some"] f fd) (d8 : ∃ f fd c P, TabD q K mg h "is_ratio" sIsRatio ["value"] f fd c P)
    (d9 : ∃ f fd, Def K mg "is_in" sIsIn ["value", "least", "most"] f fd) (d10 : ∃ f fd c P, TabD q K mg h "is_outcome" sIsOutcome ["value", "members"] f fd c P) (d11 : ∃ f fd, Def K mg "need_outcomes" sNeedOutcomes ["outcomes"] f fd) (d12 : ∃ f fd, Def K mg "need_part" sNeedPart ["level"] f fd)
    (d13 : ∃ f fd c P, TabD q K mg h "need_members" sNeedMembers ["outcomes", "members"] f fd c P) (d14 : ∃ f fd c P, TabD q K mg h "sums_of" sSumsOf ["outcomes", "members"] f fd c P) (d15 : ∃ f fd c P, TabD q K mg h "view_of" sViewOf ["outcomes", "members", "level"] f fd c P)
    (d16 : ∃ f fd, Def K mg "shortfall_of" sShortOf ["outcomes", "members", "level"] f fd) (d17 : ∃ f fd, Def K mg "pool_shortfall" sPool ["outcomes", "members", "level"] f fd) (d18 : ∃ f fd, Def K mg "everybody" sEverybody ["outcomes"] f fd) (d19 : ∃ f fd, Def K mg "shares" sShares ["outcomes", "level"] f fd)
    (d20 : ∃ f fd, Def K mg "_law_taken" sTaken ["_law_row", "_law_many"] f fd) (d21 : ∃ f fd, Def K mg "_law_pick" sPick ["_law_row", "_law_things"] f fd) (d22 : ∃ f fd, Def K mg "_law_alike" sAlike ["_law_found", "_law_due"] f fd) (d23 : ∃ f fd, Def K mg "_law_ratio" sLRatio ["_law_top", "_law_bottom"] f fd)
    (d24 : ∃ f fd, Def K mg "_law_plus" sLPlus ["_law_one", "_law_other"] f fd) (d25 : ∃ f fd, Def K mg "_law_by" sLBy ["_law_one", "_law_other"] f fd) (d26 : ∃ f fd, Def K mg "_law_sum" sLSum ["_law_some"] f fd) (d27 : ∃ f fd, Def K mg "_law_outcomes" sLOut ["_law_row"] f fd)
    (d28 : ∃ f fd, Def K mg "_law_groups" sLGroups ["_law_many"] f fd) (d29 : ∃ f fd, Def K mg "_law_short" sLShort ["_law_outcomes_here", "_law_members", "_law_level"] f fd) (d30 : ∃ f fd, Def K mg "law" sLaw ["_law_script"] f fd) :
    LamX.LawAtS l w K CX0 6 63 "_law_script" mg fa h := by
  obtain ⟨f1, fd1, D1⟩ := d1
  obtain ⟨f2, fd2, D2⟩ := d2
  obtain ⟨f3, fd3, D3⟩ := d3
  obtain ⟨f4, fd4, D4⟩ := d4
  obtain ⟨f5, fd5, D5⟩ := d5
  obtain ⟨f6, fd6, D6⟩ := d6
  obtain ⟨f7, fd7, D7⟩ := d7
  obtain ⟨f8, fd8, c8, P8, D8⟩ := d8
  obtain ⟨f9, fd9, D9⟩ := d9
  obtain ⟨f10, fd10, c10, P10, D10⟩ := d10
  obtain ⟨f11, fd11, D11⟩ := d11
  obtain ⟨f12, fd12, D12⟩ := d12
  obtain ⟨f13, fd13, c13, P13, D13⟩ := d13
  obtain ⟨f14, fd14, c14, P14, D14⟩ := d14
  obtain ⟨f15, fd15, c15, P15, D15⟩ := d15
  obtain ⟨f16, fd16, D16⟩ := d16
  obtain ⟨f17, fd17, D17⟩ := d17
  obtain ⟨f18, fd18, D18⟩ := d18
  obtain ⟨f19, fd19, D19⟩ := d19
  obtain ⟨f20, fd20, D20⟩ := d20
  obtain ⟨f21, fd21, D21⟩ := d21
  obtain ⟨f22, fd22, D22⟩ := d22
  obtain ⟨f23, fd23, D23⟩ := d23
  obtain ⟨f24, fd24, D24⟩ := d24
  obtain ⟨f25, fd25, D25⟩ := d25
  obtain ⟨f26, fd26, D26⟩ := d26
  obtain ⟨f27, fd27, D27⟩ := d27
  obtain ⟨f28, fd28, D28⟩ := d28
  obtain ⟨f29, fd29, D29⟩ := d29
  obtain ⟨f30, fd30, D30⟩ := d30
  have e30 : f30 = fa := by
    have := D30.mg.symm.trans hfa
    cases this
    rfl
  subst e30
  refine ⟨fd30, [(c10, P10), (c13, P13), (c8, P8), (c14, P14), (c15, P15)], spLaw K ⟨P10, P13, P8, P14, P15⟩, fun p hp => ?_, fun p hp => ?_, fun p hp => ?_, fun s u => ?_, fun H a ns hl _ hT hS => ?_, fun base KX NX TB => ?_⟩
  · simp only [List.mem_cons, List.not_mem_nil, or_false] at hp
    rcases hp with rfl | rfl | rfl | rfl | rfl
    · exact D10.at_
    · exact D13.at_
    · exact D8.at_
    · exact D14.at_
    · exact D15.at_
  · simp only [List.mem_cons, List.not_mem_nil, or_false] at hp
    rcases hp with rfl | rfl | rfl | rfl | rfl
    · exact D10.no
    · exact D13.no
    · exact D8.no
    · exact D14.no
    · exact D15.no
  · simp only [List.mem_cons, List.not_mem_nil, or_false] at hp
    rcases hp with rfl | rfl | rfl | rfl | rfl
    · exact D10.hd
    · exact D13.hd
    · exact D8.hd
    · exact D14.hd
    · exact D15.hd
  · obtain ⟨oc, od, kV, doc, pm, an, cdv, ct, osl, rfl, lk, hcd⟩ := D30.fn.ex
    exact .of_eq rfl
  · exact ⟨a, ns, rfl, hS, ⟨⟨_, hT (c10, P10) (by simp), trivial⟩, ⟨_, hT (c13, P13) (by simp), trivial⟩, ⟨_, hT (c8, P8) (by simp), trivial⟩, ⟨_, hT (c14, P14) (by simp), trivial⟩, ⟨_, hT (c15, P15) (by simp), trivial⟩⟩, fun _ => rfl⟩
  · have tb : ∀ {c P : Addr}, LamX.TabB base mg c P → GxR.TabB base mg c P := fun t => ⟨t.code, t.bm, t.gP⟩
    have T10 := tb (TB (c10, P10) (by simp))
    have T13 := tb (TB (c13, P13) (by simp))
    have T8 := tb (TB (c8, P8) (by simp))
    have T14 := tb (TB (c14, P14) (by simp))
    have T15 := tb (TB (c15, P15) (by simp))
    have C1 := ok_ratio (P := l.prog) (w := w) (base := base) D1 B
    have C2 := ok_plus D2 C1
    have C3 := ok_minus D3 C1
    have C4 := ok_by D4 C1
    have C5 := ok_over D5 C1
    have C6 := ok_less (P := l.prog) (w := w) (base := base) D6
    have C7 := ok_total D7 C2
    have C8 := ok_isratio (P := l.prog) (w := w) (base := base) D8.d T8 B
    have C10 := ok_isoutcome (P := l.prog) (w := w) (base := base) D10.d D9 T10 B
    have C11 := ok_needoutcomes D11 B C10
    have C12 := ok_needpart D12 B C8
    have C13 := ok_needmembers (P := l.prog) (w := w) (base := base) D13.d D9 T13 B
    have C14 := ok_sumsof (P := l.prog) (w := w) (base := base) D14.d T14 B
    have C15 := ok_viewof D15.d T15 B C14 C1 C3 C4 C5 C6
    have C16 := ok_shortof (T := ⟨P10, P13, P8, P14, P15⟩) D16 B C15 C14 C4 C7
    have C17 := ok_pool (T := ⟨P10, P13, P8, P14, P15⟩) D17 C11 C13 C12 C16
    have C18 := ok_everybody (P := l.prog) (w := w) (base := base) D18 B
    have C19 := ok_shares (T := ⟨P10, P13, P8, P14, P15⟩) D19 B C11 C12 C15 C18 C4 C7
    have C20 := ok_taken (P := l.prog) (w := w) (base := base) D20 B
    have C21 := ok_pick D21 B C20
    have C22 := ok_alikeT D22 B (ok_alikeI (P := l.prog) (w := w) (base := base) D22 B)
    have C23 := ok_lratio (P := l.prog) (w := w) (base := base) D23 B
    have C24 := ok_lplus D24 C23
    have C25 := ok_lby D25 C23
    have C26 := ok_lsum D26 C24
    have C27 := ok_louts D27 B C20 C21
    have C28 := ok_lgroups (P := l.prog) (w := w) (base := base) D28 B
    have C29 := ok_lshort D29 B C23 C24 C25
    exact ok_law D30 B C20 C21 C27 C23 C19 C28 C29 C22 C17 C26
end
end K45
open PySem PySem.W PyProof.Rows
set_option maxHeartbeats 0 in
theorem PySem.Challenge.cw_actuarium_k45_whole_pools_holds : PySem.Challenge.rw_actuarium_k45_whole_pools.Holds := by
  w_on; o_law; k_head; (case hw => w_witness2)
  k_fill
  refine K45.walk_ofTabs (l := PySem.Challenge.rw_actuarium_k45_whole_pools) (n := 63) (k := 6) (x := "_law_script") (CX := fun _ => L2.CX0) rfl (by decide) rfl ⟨rfl, by decide, by decide⟩ (fun w h Y => PySem.W.kIn_of Y) ?F (fun _ _ _ _ _ h => h)
  case F =>
    intro w mg fa h KY KX G hmg TO
    refine' K45.all_end hmg ?B ?d1 ?d2 ?d3 ?d4 ?d5 ?d6 ?d7 ?d8 ?d9 ?d10 ?d11 ?d12 ?d13 ?d14 ?d15 ?d16 ?d17 ?d18 ?d19 ?d20 ?d21 ?d22 ?d23 ?d24 ?d25 ?d26 ?d27 ?d28 ?d29 ?d30
    case B =>
      refine' K45.blt_mk KX G ?z1 ?z2 ?z3 ?z4 ?z5 ?z6 ?z7 ?z8 ?z9 ?z10 ?z11 ?z12 ?z13 ?z14 ?z15 ?z16 ?z17 ?z18 ?z19 ?z20
      (case z1 => k_is); (case z2 => k_is); (case z3 => k_is); (case z4 => k_is); (case z5 => k_is); (case z6 => k_is); (case z7 => k_is); (case z8 => k_is); (case z9 => k_is); (case z10 => k_is); (case z11 => k_is); (case z12 => k_is); (case z13 => k_is); (case z14 => k_is); (case z15 => k_is); (case z16 => k_is); (case z17 => k_is); (case z18 => k_is); (case z19 => k_is); (case z20 => k_is)
    case d1 =>
      refine' K45.def_mk KX G (fun _ _ _ _ _ _ us hl => match us, hl with | [_, _], _ => rfl) ?a ?l ?c ?k
      (case a => k_is); (case l => k_is); (case c => k_is); (case k => k_is)
    case d2 =>
      refine' K45.def_mk KX G (fun _ _ _ _ _ _ us hl => match us, hl with | [_, _], _ => rfl) ?a ?l ?c ?k
      (case a => k_is); (case l => k_is); (case c => k_is); (case k => k_is)
    case d3 =>
      refine' K45.def_mk KX G (fun _ _ _ _ _ _ us hl => match us, hl with | [_, _], _ => rfl) ?a ?l ?c ?k
      (case a => k_is); (case l => k_is); (case c => k_is); (case k => k_is)
    case d4 =>
      refine' K45.def_mk KX G (fun _ _ _ _ _ _ us hl => match us, hl with | [_, _], _ => rfl) ?a ?l ?c ?k
      (case a => k_is); (case l => k_is); (case c => k_is); (case k => k_is)
    case d5 =>
      refine' K45.def_mk KX G (fun _ _ _ _ _ _ us hl => match us, hl with | [_, _], _ => rfl) ?a ?l ?c ?k
      (case a => k_is); (case l => k_is); (case c => k_is); (case k => k_is)
    case d6 =>
      refine' K45.def_mk KX G (fun _ _ _ _ _ _ us hl => match us, hl with | [_, _], _ => rfl) ?a ?l ?c ?k
      (case a => k_is); (case l => k_is); (case c => k_is); (case k => k_is)
    case d7 =>
      refine' K45.def_mk KX G (fun _ _ _ _ _ _ us hl => match us, hl with | [_], _ => rfl) ?a ?l ?c ?k
      (case a => k_is); (case l => k_is); (case c => k_is); (case k => k_is)
    case d8 =>
      refine' K45.defc_mk KX G TO (fun _ _ _ _ _ _ us hl => match us, hl with | [_], _ => rfl) ?r ?a ?l ?c ?k ?m ?tp ?tn
      (case a => k_is); (case l => k_is); (case c => k_is); (case k => k_is); (case m => k_is); (case tp => rfl); (case tn => kernel_rfl); (case r => kernel_rfl)
    case d9 =>
      refine' K45.def_mk KX G (fun _ _ _ _ _ _ us hl => match us, hl with | [_, _, _], _ => rfl) ?a ?l ?c ?k
      (case a => k_is); (case l => k_is); (case c => k_is); (case k => k_is)
    case d10 =>
      refine' K45.defc_mk KX G TO (fun _ _ _ _ _ _ us hl => match us, hl with | [_, _], _ => rfl) ?r ?a ?l ?c ?k ?m ?tp ?tn
      (case a => k_is); (case l => k_is); (case c => k_is); (case k => k_is); (case m => k_is); (case tp => rfl); (case tn => kernel_rfl); (case r => kernel_rfl)
    case d11 =>
      refine' K45.def_mk KX G (fun _ _ _ _ _ _ us hl => match us, hl with | [_], _ => rfl) ?a ?l ?c ?k
      (case a => k_is); (case l => k_is); (case c => k_is); (case k => k_is)
    case d12 =>
      refine' K45.def_mk KX G (fun _ _ _ _ _ _ us hl => match us, hl with | [_], _ => rfl) ?a ?l ?c ?k
      (case a => k_is); (case l => k_is); (case c => k_is); (case k => k_is)
    case d13 =>
      refine' K45.defc_mk KX G TO (fun _ _ _ _ _ _ us hl => match us, hl with | [_, _], _ => rfl) ?r ?a ?l ?c ?k ?m ?tp ?tn
      (case a => k_is); (case l => k_is); (case c => k_is); (case k => k_is); (case m => k_is); (case tp => rfl); (case tn => kernel_rfl); (case r => kernel_rfl)
    case d14 =>
      refine' K45.defc_mk KX G TO (fun _ _ _ _ _ _ us hl => match us, hl with | [_, _], _ => rfl) ?r ?a ?l ?c ?k ?m ?tp ?tn
      (case a => k_is); (case l => k_is); (case c => k_is); (case k => k_is); (case m => k_is); (case tp => rfl); (case tn => kernel_rfl); (case r => kernel_rfl)
    case d15 =>
      refine' K45.defc_mk KX G TO (fun _ _ _ _ _ _ us hl => match us, hl with | [_, _, _], _ => rfl) ?r ?a ?l ?c ?k ?m ?tp ?tn
      (case a => k_is); (case l => k_is); (case c => k_is); (case k => k_is); (case m => k_is); (case tp => rfl); (case tn => kernel_rfl); (case r => kernel_rfl)
    case d16 =>
      refine' K45.def_mk KX G (fun _ _ _ _ _ _ us hl => match us, hl with | [_, _, _], _ => rfl) ?a ?l ?c ?k
      (case a => k_is); (case l => k_is); (case c => k_is); (case k => k_is)
    case d17 =>
      refine' K45.def_mk KX G (fun _ _ _ _ _ _ us hl => match us, hl with | [_, _, _], _ => rfl) ?a ?l ?c ?k
      (case a => k_is); (case l => k_is); (case c => k_is); (case k => k_is)
    case d18 =>
      refine' K45.def_mk KX G (fun _ _ _ _ _ _ us hl => match us, hl with | [_], _ => rfl) ?a ?l ?c ?k
      (case a => k_is); (case l => k_is); (case c => k_is); (case k => k_is)
    case d19 =>
      refine' K45.def_mk KX G (fun _ _ _ _ _ _ us hl => match us, hl with | [_, _], _ => rfl) ?a ?l ?c ?k
      (case a => k_is); (case l => k_is); (case c => k_is); (case k => k_is)
    case d20 =>
      refine' K45.def_mk KX G (fun _ _ _ _ _ _ us hl => match us, hl with | [_, _], _ => rfl) ?a ?l ?c ?k
      (case a => k_is); (case l => k_is); (case c => k_is); (case k => k_is)
    case d21 =>
      refine' K45.def_mk KX G (fun _ _ _ _ _ _ us hl => match us, hl with | [_, _], _ => rfl) ?a ?l ?c ?k
      (case a => k_is); (case l => k_is); (case c => k_is); (case k => k_is)
    case d22 =>
      refine' K45.def_mk KX G (fun _ _ _ _ _ _ us hl => match us, hl with | [_, _], _ => rfl) ?a ?l ?c ?k
      (case a => k_is); (case l => k_is); (case c => k_is); (case k => k_is)
    case d23 =>
      refine' K45.def_mk KX G (fun _ _ _ _ _ _ us hl => match us, hl with | [_, _], _ => rfl) ?a ?l ?c ?k
      (case a => k_is); (case l => k_is); (case c => k_is); (case k => k_is)
    case d24 =>
      refine' K45.def_mk KX G (fun _ _ _ _ _ _ us hl => match us, hl with | [_, _], _ => rfl) ?a ?l ?c ?k
      (case a => k_is); (case l => k_is); (case c => k_is); (case k => k_is)
    case d25 =>
      refine' K45.def_mk KX G (fun _ _ _ _ _ _ us hl => match us, hl with | [_, _], _ => rfl) ?a ?l ?c ?k
      (case a => k_is); (case l => k_is); (case c => k_is); (case k => k_is)
    case d26 =>
      refine' K45.def_mk KX G (fun _ _ _ _ _ _ us hl => match us, hl with | [_], _ => rfl) ?a ?l ?c ?k
      (case a => k_is); (case l => k_is); (case c => k_is); (case k => k_is)
    case d27 =>
      refine' K45.def_mk KX G (fun _ _ _ _ _ _ us hl => match us, hl with | [_], _ => rfl) ?a ?l ?c ?k
      (case a => k_is); (case l => k_is); (case c => k_is); (case k => k_is)
    case d28 =>
      refine' K45.def_mk KX G (fun _ _ _ _ _ _ us hl => match us, hl with | [_], _ => rfl) ?a ?l ?c ?k
      (case a => k_is); (case l => k_is); (case c => k_is); (case k => k_is)
    case d29 =>
      refine' K45.def_mk KX G (fun _ _ _ _ _ _ us hl => match us, hl with | [_, _, _], _ => rfl) ?a ?l ?c ?k
      (case a => k_is); (case l => k_is); (case c => k_is); (case k => k_is)
    case d30 =>
      refine' K45.def_mk KX G (fun _ _ _ _ _ _ us hl => match us, hl with | [_], _ => rfl) ?a ?l ?c ?k
      (case a => k_is); (case l => k_is); (case c => k_is); (case k => k_is)
