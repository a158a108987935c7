import PyProof.Rows.All
import Wide.All
import OpenK.AllK
import Wide.FinOn
import HandS.ForMost
import HandS.Conv
import HandS.IsInst
import HandS.Gcd
import HandS.Wide
import HandS.Zip
import HandS.Style
import HandS.Strs
import HandS.Evl
import PySem.Challenge.RW_guestseats_k68_whole_chains_like_unlinke
set_option Elab.async false
set_option linter.all false
set_option maxRecDepth 100000
set_option maxHeartbeats 4000000
/-! M1 -/
/-! Own: what the program computes, in plain Lean (pairs of ints for fractions). -/
namespace M
abbrev Q2 := Int × Int
def lowM (n d : Int) : Q2 := let g : Int := (Nat.gcd n.natAbs d.natAbs : Nat); (n / g, d / g)
def ratioM (n d : Int) : Q2 := if 0 < d then lowM n d else lowM (-n) (-d)
def plusM (a b : Q2) : Q2 := ratioM (a.1 * b.2 + b.1 * a.2) (a.2 * b.2)
def minusM (a b : Q2) : Q2 := ratioM (a.1 * b.2 - b.1 * a.2) (a.2 * b.2)
def timesM (a b : Q2) : Q2 := ratioM (a.1 * b.1) (a.2 * b.2)
def overM (a b : Q2) : Q2 := ratioM (a.1 * b.2) (a.2 * b.1)
def powM (a : Q2) (k : Nat) : Q2 := (a.1 ^ k, a.2 ^ k)
def belowM (a b : Q2) : Bool := decide (a.1 * b.2 < b.1 * a.2)
def zeroM : Q2 := (0, 1)
def oneM : Q2 := (1, 1)
/-- a size that is looked at -/
def chk (k : Nat) (a : Q2) : Bool := Nat.blt a.1.natAbs (2 ^ k) && Nat.blt a.2.natAbs (2 ^ k)
/-! standings -/
def hasM (s i : Nat) : Bool := s / 2 ^ i % 2 == 1
def bst (n : Nat) : Nat → Nat × Nat
  | 0 => (0, n)
  | i + 1 => ((bst n i).1 + (bst n i).2 % 2, (bst n i).2 / 2)
def bitsM (n : Nat) : Nat := (bst n 5).1
def pairsM (s n : Nat) : Nat := ((List.range (n - 1)).filter fun i => hasM s i && hasM s (i + 1)).length
def circM (s n : Nat) : Nat := pairsM s n + if hasM s 0 && hasM s (n - 1) then 1 else 0
def wtM (w f : Q2) (i j : Nat) : Q2 := timesM (powM w i) (powM f j)
def chainM (w f : Q2) (n : Nat) : List Q2 := (List.range (2 ^ n)).map fun s => wtM w f (bitsM s) (pairsM s n)
def ringM (w f : Q2) (n : Nat) : List Q2 := (List.range (2 ^ n)).map fun s => wtM w f (bitsM s) (circM s n)
/-! seats that fill like unlinked ones -/
def addAt (r : List Q2) (m : Nat) (x : Q2) : List Q2 := r.set m (plusM (r.getD m zeroM) x)
def countsF (c : List Q2) (n : Nat) : Nat → List Q2
  | 0 => List.replicate (n + 1) zeroM
  | s + 1 => addAt (countsF c n s) (bitsM s) (c.getD s zeroM)
def countsM (c : List Q2) (n : Nat) : List Q2 := countsF c n c.length
def ptot (row found : List Q2) (at_ : Nat) : Nat → Q2
  | 0 => if at_ < row.length then timesM (row.getD at_ zeroM) ((at_ : Int), 1) else zeroM
  | s + 1 => plusM (ptot row found at_ s) (timesM (row.getD (s + 1) zeroM) (found.getD (at_ - (s + 1)) zeroM))
def powersC (row : List Q2) : Nat → Option (List Q2)
  | 0 => some [((row.length : Int) - 1, 1)]
  | i + 1 => match powersC row i with
    | none => none
    | some found =>
      let x := minusM zeroM (ptot row found (i + 1) (min (i + 1) row.length - 1))
      if chk 80 x then some (found ++ [x]) else none
def tabM (sums : List Q2) (n : Nat) : List (List Q2) := (List.range n).map fun l => (List.range n).map fun r => sums.getD (l + r) zeroM
def prodR (u v : List Q2) (tab : List (List Q2)) (l : Nat) (z : Q2) : Nat → Q2
  | 0 => z
  | r + 1 => plusM (prodR u v tab l z r) (timesM (timesM (u.getD l zeroM) (v.getD r zeroM)) ((tab.getD l []).getD r zeroM))
def prodL (u v : List Q2) (tab : List (List Q2)) (n : Nat) : Nat → Q2
  | 0 => zeroM
  | l + 1 => prodR u v tab l (prodL u v tab n l) n
def prodM (tab : List (List Q2)) (n : Nat) (u v : List Q2) : Q2 := prodL u v tab n n
def unitM (n at_ : Nat) : List Q2 := (List.range n).map fun p => if p = at_ then oneM else zeroM
def updM (tab : List (List Q2)) (n : Nat) (v b : List Q2) (part : Q2) : List Q2 := (List.zip v b).map fun q => minusM q.1 (timesM part q.2)
def updC (tab : List (List Q2)) (n : Nat) : List (List Q2 × Q2) → List Q2 → Option (List Q2)
  | [], v => some v
  | (b, s) :: r, v =>
    let part := overM (prodM tab n v b) s
    let v' := updM tab n v b part
    if chk 64 part && v'.all (chk 64) then updC tab n r v' else none
def lookOk (tab : List (List Q2)) (n : Nat) (v : List Q2) : Bool := (List.range n).all fun p => (prodM tab n v (unitM n p)).1 == 0
def takeC (tab : List (List Q2)) (n : Nat) (bases : List (List Q2 × Q2)) (at_ : Nat) : Option (List (List Q2 × Q2) × Option (List Q2)) :=
  match updC tab n bases (unitM n at_) with
  | none => none
  | some v =>
    let size := prodM tab n v v
    if chk 64 size then
      (if size.1 < 0 then some (bases, some v) else if 0 < size.1 then some (bases ++ [(v, size)], none) else if lookOk tab n v then some (bases, none) else none)
    else none
def initC (tab : List (List Q2)) (n : Nat) : Nat → Option (List (List Q2 × Q2) × Option (List Q2))
  | 0 => some ([], none)
  | i + 1 => match initC tab n i with
    | none => none
    | some (bases, some v) => some (bases, some v)
    | some (bases, none) => takeC tab n bases i
def fillsC (n : Nat) (c : List Q2) : Option Bool :=
  let row := countsM c n
  if row.all (chk 40) then
    match powersC row (2 * n) with
    | none => none
    | some sums => match initC (tabM sums n) n n with
      | none => none
      | some (_, some _) => some false
      | some (_, none) => some true
  else none
/-! the draws -/
def drawn : List Q2 := [(1, 1), (1, 2), (1, 3), (1, 4), (2, 1), (2, 3), (3, 1), (3, 2), (3, 4), (4, 1), (4, 3), (5, 1), (5, 2), (5, 3), (5, 4), (6, 1), (7, 1), (7, 2), (7, 3), (7, 4), (8, 1), (8, 3), (9, 1), (9, 2), (9, 4)]
def okAt (w f : Q2) : Bool := decide (fillsC 2 (chainM w f 2) = some (decide (f.1 ≤ f.2))) && (if f.1 ≤ f.2 then decide (fillsC 3 (chainM w f 3) = some true) && decide (fillsC 4 (chainM w f 4) = some true) && decide (fillsC 5 (chainM w f 5) = some true) else true) && decide (fillsC 1 (chainM w f 1) = some true)
end M
/-! M2 -/
/-! Own: sizes and reduced fractions. -/
namespace M
structure Bd (n : Nat) (a : Q2) : Prop where
  d0 : 0 < a.2
  n1 : a.1.natAbs < 2 ^ n
  d1 : a.2.natAbs < 2 ^ n
theorem Bd.mono {n m : Nat} {a : Q2} (h : Bd n a) (l : n ≤ m) : Bd m a :=
  ⟨h.d0, Nat.lt_of_lt_of_le h.n1 (Nat.pow_le_pow_right (by decide) l), Nat.lt_of_lt_of_le h.d1 (Nat.pow_le_pow_right (by decide) l)⟩
theorem Bd.one : Bd 1 oneM := ⟨by decide, by decide, by decide⟩
theorem Bd.zero : Bd 1 zeroM := ⟨by decide, by decide, by decide⟩
theorem chk_bd {k : Nat} {a : Q2} (h : chk k a = true) (d : 0 < a.2) : Bd k a := by
  unfold chk at h
  rw [Bool.and_eq_true] at h
  exact ⟨d, Nat.blt_eq.mp h.1, Nat.blt_eq.mp h.2⟩
def gc (n d : Int) : Nat := Nat.gcd n.natAbs d.natAbs
theorem lowM_eq (n d : Int) : lowM n d = (n / (gc n d : Int), d / (gc n d : Int)) := rfl
theorem gc_pos {n d : Int} (h : d ≠ 0) : 0 < gc n d := Nat.gcd_pos_of_pos_right _ (Int.natAbs_pos.mpr h)
theorem gc_dl (n d : Int) : (gc n d : Int) ∣ n := Int.ofNat_dvd_left.mpr (Nat.gcd_dvd_left _ _)
theorem gc_dr (n d : Int) : (gc n d : Int) ∣ d := Int.ofNat_dvd_left.mpr (Nat.gcd_dvd_right _ _)
theorem abs_div_le (a : Int) {g : Nat} (hg : 0 < g) (h : (g : Int) ∣ a) : (a / (g : Int)).natAbs ≤ a.natAbs := by
  obtain ⟨c, rfl⟩ := h
  rw [Int.mul_ediv_cancel_left _ (by omega), Int.natAbs_mul, Int.natAbs_natCast]
  exact Nat.le_mul_of_pos_left _ hg
theorem pos_div {a : Int} {g : Nat} (hg : 0 < g) (h : (g : Int) ∣ a) (ha : 0 < a) : 0 < a / (g : Int) := by
  obtain ⟨c, rfl⟩ := h
  rw [Int.mul_ediv_cancel_left _ (by omega)]
  exact Int.pos_of_mul_pos_right ha (by omega) |> fun h => by omega
theorem lowM_bd {n d : Int} {k : Nat} (h : 0 < d) (hn : n.natAbs < 2 ^ k) (hd : d.natAbs < 2 ^ k) : Bd k (lowM n d) := by
  have g := gc_pos (n := n) (d := d) (by omega)
  exact ⟨pos_div g (gc_dr n d) h, Nat.lt_of_le_of_lt (abs_div_le n g (gc_dl n d)) hn, Nat.lt_of_le_of_lt (abs_div_le d g (gc_dr n d)) hd⟩
theorem ratioM_pos {n d : Int} (h : 0 < d) : ratioM n d = lowM n d := if_pos h
theorem ratioM_neg {n d : Int} (h : d < 0) : ratioM n d = lowM (-n) (-d) := if_neg (by omega)
theorem ratioM_bd {n d : Int} {k : Nat} (h : d ≠ 0) (hn : n.natAbs < 2 ^ k) (hd : d.natAbs < 2 ^ k) : Bd k (ratioM n d) := by
  by_cases h0 : 0 < d
  · rw [ratioM_pos h0]
    exact lowM_bd h0 hn hd
  · rw [ratioM_neg (by omega)]
    exact lowM_bd (by omega) (by rw [Int.natAbs_neg]; exact hn) (by rw [Int.natAbs_neg]; exact hd)
theorem mul_lt {i j : Int} {a b : Nat} (ha : i.natAbs < 2 ^ a) (hb : j.natAbs < 2 ^ b) : (i * j).natAbs < 2 ^ (a + b) := by
  rw [Int.natAbs_mul, Nat.pow_add]
  exact Nat.mul_lt_mul'' ha hb
theorem add_lt {i j : Int} {a : Nat} (ha : i.natAbs < 2 ^ a) (hb : j.natAbs < 2 ^ a) : (i + j).natAbs < 2 ^ (a + 1) := by
  rw [Nat.pow_succ]
  omega
theorem sub_lt {i j : Int} {a : Nat} (ha : i.natAbs < 2 ^ a) (hb : j.natAbs < 2 ^ a) : (i - j).natAbs < 2 ^ (a + 1) := by
  rw [Nat.pow_succ]
  omega
theorem lt_mono {i : Int} {a b : Nat} (h : i.natAbs < 2 ^ a) (l : a ≤ b) : i.natAbs < 2 ^ b := Nat.lt_of_lt_of_le h (Nat.pow_le_pow_right (by decide) l)
theorem timesM_bd {a b : Q2} {n m : Nat} (ha : Bd n a) (hb : Bd m b) : Bd (n + m) (timesM a b) :=
  ratioM_bd (Int.ne_of_gt (Int.mul_pos ha.d0 hb.d0)) (mul_lt ha.n1 hb.n1) (mul_lt ha.d1 hb.d1)
theorem plusM_bd {a b : Q2} {n m : Nat} (ha : Bd n a) (hb : Bd m b) : Bd (n + m + 1) (plusM a b) :=
  ratioM_bd (Int.ne_of_gt (Int.mul_pos ha.d0 hb.d0)) (add_lt (mul_lt ha.n1 hb.d1) (lt_mono (mul_lt hb.n1 ha.d1) (by omega))) (lt_mono (mul_lt ha.d1 hb.d1) (by omega))
theorem minusM_bd {a b : Q2} {n m : Nat} (ha : Bd n a) (hb : Bd m b) : Bd (n + m + 1) (minusM a b) :=
  ratioM_bd (Int.ne_of_gt (Int.mul_pos ha.d0 hb.d0)) (sub_lt (mul_lt ha.n1 hb.d1) (lt_mono (mul_lt hb.n1 ha.d1) (by omega))) (lt_mono (mul_lt ha.d1 hb.d1) (by omega))
theorem overM_bd {a b : Q2} {n m : Nat} (ha : Bd n a) (hb : Bd m b) (h : b.1 ≠ 0) : Bd (n + m) (overM a b) :=
  ratioM_bd (Int.mul_ne_zero (Int.ne_of_gt ha.d0) h) (mul_lt ha.n1 hb.d1) (mul_lt ha.d1 hb.n1)
theorem pow_lt {i : Int} {n : Nat} (h : i.natAbs < 2 ^ n) : ∀ k : Nat, (i ^ k).natAbs < 2 ^ (n * k + 1)
  | 0 => by rw [Int.pow_zero]; exact Nat.one_lt_pow (by omega) (by decide)
  | k + 1 => by
    rw [Int.pow_succ]
    exact lt_mono (mul_lt (pow_lt h k) h) (by rw [Nat.mul_succ]; omega)
theorem powM_bd {a : Q2} {n : Nat} (h : Bd n a) (k : Nat) : Bd (n * k + 1) (powM a k) := ⟨Int.pow_pos h.d0, pow_lt h.n1 k, pow_lt h.d1 k⟩
/-- an amount -/
structure Amt (a : Q2) : Prop where
  n0 : 0 < a.1
  d0 : 0 < a.2
  cop : gc a.1 a.2 = 1
theorem lowM_cop {n d : Int} (h : d ≠ 0) : gc (lowM n d).1 (lowM n d).2 = 1 := by
  have g := gc_pos (n := n) (d := d) h
  obtain ⟨x, hx⟩ := gc_dl n d
  obtain ⟨y, hy⟩ := gc_dr n d
  have e1 : (lowM n d).1 = x := by
    show n / (gc n d : Int) = x
    conv => lhs; lhs; rw [hx]
    exact Int.mul_ediv_cancel_left _ (by omega)
  have e2 : (lowM n d).2 = y := by
    show d / (gc n d : Int) = y
    conv => lhs; lhs; rw [hy]
    exact Int.mul_ediv_cancel_left _ (by omega)
  rw [e1, e2]
  have hg : gc n d = gc n d * gc x y := by
    have e : Nat.gcd n.natAbs d.natAbs = Nat.gcd (gc n d * x.natAbs) (gc n d * y.natAbs) := by
      congr 1
      · conv => lhs; rw [hx]
        rw [Int.natAbs_mul, Int.natAbs_natCast]
      · conv => lhs; rw [hy]
        rw [Int.natAbs_mul, Int.natAbs_natCast]
    rw [Nat.gcd_mul_left] at e
    exact e
  exact Nat.eq_of_mul_eq_mul_left g (by rw [Nat.mul_one]; exact hg.symm)
theorem lowM_amt {n d : Int} (hn : 0 < n) (hd : 0 < d) : Amt (lowM n d) := by
  have g := gc_pos (n := n) (d := d) (by omega)
  exact ⟨pos_div g (gc_dl n d) hn, pos_div g (gc_dr n d) hd, lowM_cop (by omega)⟩
theorem ratioM_amt {n d : Int} (hn : 0 < n) (hd : 0 < d) : Amt (ratioM n d) := by
  rw [ratioM_pos hd]
  exact lowM_amt hn hd
theorem ratioM_self {a : Q2} (h : Amt a) : ratioM a.1 a.2 = a := by
  rw [ratioM_pos h.d0, lowM_eq, h.cop]
  show (a.1 / 1, a.2 / 1) = a
  rw [Int.ediv_one, Int.ediv_one]
/-- a common factor goes -/
theorem ratioM_mul {n d k : Int} (hk : 0 < k) (hd : 0 < d) : ratioM (k * n) (k * d) = ratioM n d := by
  rw [ratioM_pos hd, ratioM_pos (Int.mul_pos hk hd), lowM_eq, lowM_eq]
  have e : gc (k * n) (k * d) = k.natAbs * gc n d := by
    unfold gc
    rw [Int.natAbs_mul, Int.natAbs_mul, Nat.gcd_mul_left]
  have ek : ((k.natAbs : Nat) : Int) = k := by omega
  have g := gc_pos (n := n) (d := d) (by omega)
  rw [e, Int.natCast_mul, ek, Int.mul_ediv_mul_of_pos _ _ hk, Int.mul_ediv_mul_of_pos _ _ hk]
/-- the pair of a positive quotient, told by any numbers -/
theorem ratioM_of {n d : Int} (hd : 0 < d) : ∃ g : Int, 0 < g ∧ n = g * (ratioM n d).1 ∧ d = g * (ratioM n d).2 := by
  have g := gc_pos (n := n) (d := d) (by omega)
  refine ⟨(gc n d : Int), by omega, ?_, ?_⟩
  · rw [ratioM_pos hd, lowM_eq]
    exact (Int.mul_ediv_cancel' (gc_dl n d)).symm
  · rw [ratioM_pos hd, lowM_eq]
    exact (Int.mul_ediv_cancel' (gc_dr n d)).symm
theorem timesM_ratio {a b c d : Int} (hb : 0 < b) (hd : 0 < d) : timesM (ratioM a b) (ratioM c d) = ratioM (a * c) (b * d) := by
  obtain ⟨g, g0, e1, e2⟩ := ratioM_of (n := a) hb
  obtain ⟨h, h0, e3, e4⟩ := ratioM_of (n := c) hd
  have p1 : 0 < (ratioM a b).2 := by
    rcases Int.lt_trichotomy (ratioM a b).2 0 with z | z | z
    · exact absurd (Int.mul_neg_of_pos_of_neg g0 z) (by omega)
    · rw [z, Int.mul_zero] at e2; omega
    · exact z
  have p2 : 0 < (ratioM c d).2 := by
    rcases Int.lt_trichotomy (ratioM c d).2 0 with z | z | z
    · exact absurd (Int.mul_neg_of_pos_of_neg h0 z) (by omega)
    · rw [z, Int.mul_zero] at e4; omega
    · exact z
  have f1 : a * c = (g * h) * ((ratioM a b).1 * (ratioM c d).1) := by
    conv => lhs; rw [e1, e3]
    simp only [Int.mul_assoc, Int.mul_left_comm, Int.mul_comm]
  have f2 : b * d = (g * h) * ((ratioM a b).2 * (ratioM c d).2) := by
    conv => lhs; rw [e2, e4]
    simp only [Int.mul_assoc, Int.mul_left_comm, Int.mul_comm]
  unfold timesM
  rw [f1, f2, ratioM_mul (Int.mul_pos g0 h0) (Int.mul_pos p1 p2)]
end M
/-! M3 -/
/-! Own: links. -/
namespace M
def freeM (L i j : Nat) : List Nat := (List.range L).filter fun s => !hasM s i && !hasM s j
def linkM (c : List Q2) (i j s : Nat) : Q2 := overM (timesM (c.getD (s + 2 ^ i + 2 ^ j) zeroM) (c.getD s zeroM)) (timesM (c.getD (s + 2 ^ i) zeroM) (c.getD (s + 2 ^ j) zeroM))
def linksM (c : List Q2) (i j : Nat) : List Q2 := (freeM c.length i j).map (linkM c i j)
def pairsL (n : Nat) : List (Nat × Nat) := (List.range n).flatMap fun i => (List.range (n - (i + 1))).map fun k => (i, i + 1 + k)
def allLinksM (c : List Q2) (n : Nat) : List Q2 := (pairsL n).flatMap fun p => linksM c p.1 p.2
theorem free_all : ((List.range 6).all fun n => (List.range n).all fun i => (List.range n).all fun j => i == j || (freeM (2 ^ n) i j).all fun s => decide (s + 2 ^ i + 2 ^ j < 2 ^ n)) = true := by decide +kernel
theorem free_lt {n i j s : Nat} (h5 : n ≤ 5) (hi : i < n) (hj : j < n) (hne : i ≠ j) (hs : s ∈ freeM (2 ^ n) i j) : s + 2 ^ i + 2 ^ j < 2 ^ n := by
  have h := free_all
  rw [List.all_eq_true] at h
  have h1 := h n (List.mem_range.mpr (by omega))
  rw [List.all_eq_true] at h1
  have h2 := h1 i (List.mem_range.mpr hi)
  rw [List.all_eq_true] at h2
  have h3 := h2 j (List.mem_range.mpr hj)
  rw [Bool.or_eq_true, List.all_eq_true] at h3
  rcases h3 with h3 | h3
  · exact absurd (beq_iff_eq.mp h3) hne
  · exact of_decide_eq_true (h3 s hs)
theorem pairsL_all : ((List.range 6).all fun n => decide ((pairsL n).length ≤ 10) && (pairsL n).all fun p => decide (p.1 < p.2) && decide (p.2 < n)) = true := by decide +kernel
theorem pairsL_ok {n : Nat} (h5 : n ≤ 5) : (pairsL n).length ≤ 10 ∧ ∀ p ∈ pairsL n, p.1 < p.2 ∧ p.2 < n := by
  have h := pairsL_all
  rw [List.all_eq_true] at h
  have h1 := h n (List.mem_range.mpr (by omega))
  rw [Bool.and_eq_true, List.all_eq_true] at h1
  refine ⟨of_decide_eq_true h1.1, fun p hp => ?_⟩
  have h2 := h1.2 p hp
  rw [Bool.and_eq_true] at h2
  exact ⟨of_decide_eq_true h2.1, of_decide_eq_true h2.2⟩
theorem links_len (c : List Q2) (i j : Nat) : (linksM c i j).length ≤ c.length := by
  unfold linksM freeM
  rw [List.length_map]
  exact Nat.le_trans (List.length_filter_le _ _) (by rw [List.length_range]; exact Nat.le_refl _)
theorem flat_len (c : List Q2) : ∀ l : List (Nat × Nat), (l.flatMap fun p => linksM c p.1 p.2).length ≤ l.length * c.length
  | [] => by simp
  | p :: l => by
    rw [List.flatMap_cons, List.length_append, List.length_cons, Nat.succ_mul]
    have := links_len c p.1 p.2
    have := flat_len c l
    omega
theorem timesM_amt {a b : Q2} (ha : Amt a) (hb : Amt b) : Amt (timesM a b) := ratioM_amt (Int.mul_pos ha.n0 hb.n0) (Int.mul_pos ha.d0 hb.d0)
theorem bits_le : ∀ s : Nat, s < 32 → bitsM s ≤ 5 := by decide +kernel
theorem pairs_le (s n : Nat) : pairsM s n ≤ n - 1 := by
  unfold pairsM
  exact Nat.le_trans (List.length_filter_le _ _) (by rw [List.length_range]; exact Nat.le_refl _)
theorem circ_le (s n : Nat) : circM s n ≤ n - 1 + 1 := by
  unfold circM
  have := pairs_le s n
  split <;> omega
theorem wtM_bd {u f : Q2} {i j : Nat} (hu : Bd 4 u) (hf : Bd 4 f) (hi : i ≤ 5) (hj : j ≤ 5) : Bd 64 (wtM u f i j) :=
  (timesM_bd (powM_bd hu i) (powM_bd hf j)).mono (by omega)
theorem powM_pos {a : Q2} (h : Amt a) (i : Nat) : 0 < (powM a i).1 ∧ 0 < (powM a i).2 := ⟨Int.pow_pos h.n0, Int.pow_pos h.d0⟩
theorem wtM_amt {u f : Q2} (hu : Amt u) (hf : Amt f) (i j : Nat) : Amt (wtM u f i j) :=
  ratioM_amt (Int.mul_pos (powM_pos hu i).1 (powM_pos hf j).1) (Int.mul_pos (powM_pos hu i).2 (powM_pos hf j).2)
theorem wtM_zero (u f : Q2) : wtM u f 0 0 = oneM := by
  unfold wtM powM
  rw [Int.pow_zero, Int.pow_zero, Int.pow_zero, Int.pow_zero]
  rfl
end M
/-! M4 -/
/-! Own: unlinked carriers, counts, sums of powers: sizes. -/
namespace M
def wsK (fs : List Q2) : Nat → List Q2
  | 0 => [oneM]
  | k + 1 => wsK fs k ++ (wsK fs k).map fun a => timesM a (fs.getD k zeroM)
def wsM (fs : List Q2) : List Q2 := wsK fs fs.length
theorem wsK_len (fs : List Q2) : ∀ k, (wsK fs k).length = 2 ^ k
  | 0 => rfl
  | k + 1 => by
    unfold wsK
    rw [List.length_append, List.length_map, wsK_len fs k, Nat.pow_succ]
    omega
theorem getD_mem {c : List Q2} {k : Nat} (h : k < c.length) : c.getD k zeroM ∈ c ∧ c[k]? = some (c.getD k zeroM) := by
  have e : c[k]? = some c[k] := List.getElem?_eq_getElem h
  have e2 : c.getD k zeroM = c[k] := by rw [List.getD_eq_getElem?_getD, e]; rfl
  rw [e2]
  exact ⟨List.getElem_mem h, e⟩
theorem wsK_bd {fs : List Q2} (hf : ∀ a ∈ fs, Bd 64 a) : ∀ k, k ≤ fs.length → ∀ a ∈ wsK fs k, Bd (1 + 64 * k) a
  | 0, _, a, ha => by
    rw [List.mem_singleton.mp ha]
    exact Bd.one
  | k + 1, hk, a, ha => by
    unfold wsK at ha
    rcases List.mem_append.mp ha with ha | ha
    · exact (wsK_bd hf k (by omega) a ha).mono (by omega)
    · obtain ⟨b, hb, rfl⟩ := List.mem_map.mp ha
      exact (timesM_bd (wsK_bd hf k (by omega) b hb) (hf _ (getD_mem (by omega)).1)).mono (by omega)
def aloneK (c : List Q2) (k : Nat) : List Q2 := (List.range k).map fun i => c.getD (2 ^ i) zeroM
theorem aloneK_succ (c : List Q2) (k : Nat) : aloneK c (k + 1) = aloneK c k ++ [c.getD (2 ^ k) zeroM] := by
  unfold aloneK
  rw [List.range_succ, List.map_append]
  rfl
theorem countsF_len (c : List Q2) (n : Nat) : ∀ k, (countsF c n k).length = n + 1
  | 0 => by unfold countsF; rw [List.length_replicate]
  | k + 1 => by
    unfold countsF addAt
    rw [List.length_set, countsF_len c n k]
theorem countsF_bd {c : List Q2} {n : Nat} (hc : ∀ a ∈ c, Bd 64 a) : ∀ k, k ≤ c.length → ∀ a ∈ countsF c n k, Bd (1 + 65 * k) a
  | 0, _, a, ha => by
    unfold countsF at ha
    rw [List.eq_of_mem_replicate ha]
    exact Bd.zero
  | k + 1, hk, a, ha => by
    unfold countsF addAt at ha
    rcases List.mem_or_eq_of_mem_set ha with ha | ha
    · exact (countsF_bd hc k (by omega) a ha).mono (by omega)
    · subst ha
      have h1 : Bd (1 + 65 * k) ((countsF c n k).getD (bitsM k) zeroM) := by
        by_cases hb : bitsM k < (countsF c n k).length
        · exact countsF_bd hc k (by omega) _ (getD_mem hb).1
        · rw [List.getD_eq_getElem?_getD, List.getElem?_eq_none (by omega)]
          exact Bd.zero.mono (by omega)
      exact (plusM_bd h1 (hc _ (getD_mem (by omega)).1)).mono (by omega)
theorem bits_all : ((List.range 6).all fun n => (List.range (2 ^ n)).all fun s => decide (bitsM s ≤ n)) = true := by decide +kernel
theorem bits_le_n {n s : Nat} (h5 : n ≤ 5) (hs : s < 2 ^ n) : bitsM s ≤ n := by
  have h := bits_all
  rw [List.all_eq_true] at h
  have h1 := h n (List.mem_range.mpr (by omega))
  rw [List.all_eq_true] at h1
  exact of_decide_eq_true (h1 s (List.mem_range.mpr hs))
theorem powersC_prev {row : List Q2} : ∀ {m : Nat} {s : List Q2}, powersC row m = some s → ∀ k, k ≤ m → ∃ s', powersC row k = some s'
  | 0, s, h, k, hk => by
    have : k = 0 := by omega
    subst this
    exact ⟨s, h⟩
  | m + 1, s, h, k, hk => by
    by_cases e : k = m + 1
    · subst e
      exact ⟨s, h⟩
    · unfold powersC at h
      cases q : powersC row m with
      | none => rw [q] at h; cases h
      | some s1 => exact powersC_prev q k (by omega)
theorem powersC_step {row : List Q2} {k : Nat} {s s1 : List Q2} (h : powersC row k = some s) (h1 : powersC row (k + 1) = some s1) :
    s1 = s ++ [minusM zeroM (ptot row s (k + 1) (min (k + 1) row.length - 1))] ∧ chk 80 (minusM zeroM (ptot row s (k + 1) (min (k + 1) row.length - 1))) = true := by
  unfold powersC at h1
  rw [h] at h1
  simp only at h1
  split at h1
  · rename_i hc
    exact ⟨(Option.some.inj h1).symm, hc⟩
  · cases h1
theorem ptot_bd {row found : List Q2} {at_ : Nat} (hr : ∀ a ∈ row, Bd 40 a) (hf : ∀ a ∈ found, Bd 80 a) (ha : at_ ≤ 10) : ∀ s, s < row.length → s ≤ at_ → at_ ≤ found.length → Bd (44 + 121 * s) (ptot row found at_ s)
  | 0, _, _, _ => by
    unfold ptot
    split
    · rename_i h
      refine (timesM_bd (m := 4) (hr _ (getD_mem h).1) ⟨(by decide : (0 : Int) < 1), ?_, (by decide : (1 : Int).natAbs < 2 ^ 4)⟩).mono (by omega)
      show ((at_ : Nat) : Int).natAbs < 2 ^ 4
      rw [Int.natAbs_natCast]
      omega
    · exact Bd.zero.mono (by omega)
  | s + 1, h1, h2, h3 => by
    unfold ptot
    exact (plusM_bd (ptot_bd hr hf ha s (by omega) (by omega) h3) (timesM_bd (hr _ (getD_mem h1).1) (hf _ (getD_mem (by omega)).1))).mono (by omega)
theorem minus0_d {a : Q2} {n : Nat} (h : Bd n a) : 0 < (minusM zeroM a).2 := (minusM_bd Bd.zero h).d0
theorem powersC_ok {row : List Q2} (hr : ∀ a ∈ row, Bd 40 a) (h0 : 1 ≤ row.length) (h6 : row.length ≤ 6) : ∀ {k : Nat} {s : List Q2}, k ≤ 10 → powersC row k = some s → s.length = k + 1 ∧ ∀ a ∈ s, Bd 80 a
  | 0, s, _, h => by
    unfold powersC at h
    have e := Option.some.inj h
    subst e
    refine ⟨rfl, fun a ha => ?_⟩
    rw [List.mem_singleton.mp ha]
    refine ⟨(by decide : (0 : Int) < 1), ?_, (by decide : (1 : Int).natAbs < 2 ^ 80)⟩
    show ((row.length : Int) - 1).natAbs < 2 ^ 80
    have : ((row.length : Int) - 1).natAbs ≤ 6 := by omega
    exact Nat.lt_of_le_of_lt this (by decide)
  | k + 1, s1, hk, h => by
    obtain ⟨s, hs⟩ := powersC_prev h k (by omega)
    obtain ⟨e1, e2⟩ := powersC_step hs h
    obtain ⟨l, b⟩ := powersC_ok hr h0 h6 (by omega) hs
    subst e1
    refine ⟨by rw [List.length_append, l]; rfl, fun a ha => ?_⟩
    rcases List.mem_append.mp ha with ha | ha
    · exact b a ha
    · rw [List.mem_singleton.mp ha]
      exact chk_bd e2 (minus0_d (ptot_bd hr b hk _ (by omega) (by omega) (by omega)))
end M
/-! M5 -/
/-! Own: the table made into sums of squares: sizes. -/
namespace M
structure TabOk (tab : List (List Q2)) (n : Nat) : Prop where
  n1 : 1 ≤ n
  n5 : n ≤ 5
  len : tab.length = n
  row : ∀ l, l < n → ((tab.getD l []).length = n ∧ tab[l]? = some (tab.getD l []))
  bd : ∀ l r, l < n → r < n → Bd 80 ((tab.getD l []).getD r zeroM)
structure VecOk (u : List Q2) (n : Nat) : Prop where
  len : u.length = n
  bd : ∀ a ∈ u, Bd 64 a
theorem prodR_bd {u v : List Q2} {tab : List (List Q2)} {n l : Nat} (T : TabOk tab n) (hu : VecOk u n) (hv : VecOk v n) (hl : l < n) {z : Q2} {b : Nat} (hz : Bd b z) : ∀ r, r ≤ n → Bd (b + 209 * r) (prodR u v tab l z r)
  | 0, _ => hz
  | r + 1, hr => by
    unfold prodR
    have h1 := prodR_bd T hu hv hl hz r (by omega)
    exact (plusM_bd h1 (timesM_bd (timesM_bd (hu.bd _ (getD_mem (by rw [hu.len]; exact hl)).1) (hv.bd _ (getD_mem (by rw [hv.len]; omega)).1)) (T.bd l r hl (by omega)))).mono (by omega)
theorem prodL_bd {u v : List Q2} {tab : List (List Q2)} {n : Nat} (T : TabOk tab n) (hu : VecOk u n) (hv : VecOk v n) : ∀ l, l ≤ n → Bd (1 + 1045 * l) (prodL u v tab n l)
  | 0, _ => Bd.zero
  | l + 1, hl => by
    unfold prodL
    have n5 := T.n5
    exact (prodR_bd T hu hv (by omega) (prodL_bd T hu hv l (by omega)) n (Nat.le_refl _)).mono (by omega)
theorem prodM_bd {u v : List Q2} {tab : List (List Q2)} {n : Nat} (T : TabOk tab n) (hu : VecOk u n) (hv : VecOk v n) : Bd 5226 (prodM tab n u v) := by
  have n5 := T.n5
  exact (prodL_bd T hu hv n (Nat.le_refl _)).mono (by omega)
theorem unit_ok (n a : Nat) : VecOk (unitM n a) n := by
  unfold unitM
  refine ⟨by rw [List.length_map, List.length_range], fun x hx => ?_⟩
  obtain ⟨p, _, rfl⟩ := List.mem_map.mp hx
  split
  · exact Bd.one.mono (by decide)
  · exact Bd.zero.mono (by decide)
def BaseOk (n : Nat) (b : List Q2 × Q2) : Prop := VecOk b.1 n ∧ Bd 64 b.2 ∧ 0 < b.2.1
theorem updC_app {tab : List (List Q2)} {n : Nat} : ∀ (l r : List (List Q2 × Q2)) (v : List Q2), updC tab n (l ++ r) v = (updC tab n l v).bind (updC tab n r)
  | [], r, v => rfl
  | (b, s) :: l, r, v => by
    show updC tab n ((b, s) :: (l ++ r)) v = _
    unfold updC
    simp only
    split
    · exact updC_app l r _
    · rfl
theorem updC_pre {tab : List (List Q2)} {n : Nat} {bases : List (List Q2 × Q2)} {v v' : List Q2} (h : updC tab n bases v = some v') (k : Nat) : ∃ x, updC tab n (bases.take k) v = some x := by
  rw [← List.take_append_drop k bases, updC_app] at h
  cases e : updC tab n (bases.take k) v with
  | none => rw [e] at h; cases h
  | some x => exact ⟨x, rfl⟩
theorem updC_one {tab : List (List Q2)} {n : Nat} {b : List Q2} {s : Q2} {v x : List Q2} (h : updC tab n [(b, s)] v = some x) : x = updM tab n v b (overM (prodM tab n v b) s) ∧ chk 64 (overM (prodM tab n v b) s) = true ∧ x.all (chk 64) = true := by
  unfold updC at h
  simp only at h
  split at h
  · rename_i hc
    rw [Bool.and_eq_true] at hc
    unfold updC at h
    have e := Option.some.inj h
    subst e
    exact ⟨rfl, hc.1, hc.2⟩
  · cases h
theorem updM_ok {tab : List (List Q2)} {n : Nat} {v b : List Q2} {part : Q2} (hv : VecOk v n) (hb : VecOk b n) (hp : Bd 64 part) (hc : (updM tab n v b part).all (chk 64) = true) : VecOk (updM tab n v b part) n := by
  refine ⟨by unfold updM; rw [List.length_map, List.length_zip, hv.len, hb.len, Nat.min_self], fun a ha => chk_bd (List.all_eq_true.mp hc a ha) ?_⟩
  obtain ⟨⟨x, y⟩, hq, rfl⟩ := List.mem_map.mp ha
  obtain ⟨q1, q2⟩ := List.of_mem_zip hq
  exact (minusM_bd (hv.bd _ q1) (timesM_bd hp (hb.bd _ q2))).d0
theorem updC_ok {tab : List (List Q2)} {n : Nat} (T : TabOk tab n) : ∀ {bases : List (List Q2 × Q2)} {v v' : List Q2}, (∀ b ∈ bases, BaseOk n b) → VecOk v n → updC tab n bases v = some v' → VecOk v' n
  | [], v, v', _, hv, h => by
    unfold updC at h
    have e := Option.some.inj h
    subst e
    exact hv
  | (b, s) :: l, v, v', hb, hv, h => by
    have h0 := h
    rw [show (b, s) :: l = [(b, s)] ++ l from rfl, updC_app] at h
    cases e : updC tab n [(b, s)] v with
    | none => rw [e] at h; cases h
    | some x =>
      rw [e] at h
      obtain ⟨e1, e2, e3⟩ := updC_one e
      obtain ⟨b1, b2, b3⟩ := hb (b, s) List.mem_cons_self
      have hx : VecOk x n := by
        rw [e1] at e3 ⊢
        exact updM_ok hv b1 (chk_bd e2 (overM_bd (prodM_bd T hv b1) b2 (by show s.1 ≠ 0; have : 0 < s.1 := b3; omega)).d0) e3
      exact updC_ok T (fun c hc => hb c (List.mem_cons_of_mem _ hc)) hx h
theorem takeC_cases {tab : List (List Q2)} {n a : Nat} {bases b' : List (List Q2 × Q2)} {vec : Option (List Q2)} (h : takeC tab n bases a = some (b', vec)) :
    ∃ v, updC tab n bases (unitM n a) = some v ∧ chk 64 (prodM tab n v v) = true ∧ (((prodM tab n v v).1 < 0 ∧ b' = bases ∧ vec = some v) ∨ (0 < (prodM tab n v v).1 ∧ b' = bases ++ [(v, prodM tab n v v)] ∧ vec = none) ∨ ((prodM tab n v v).1 = 0 ∧ lookOk tab n v = true ∧ b' = bases ∧ vec = none)) := by
  unfold takeC at h
  cases e : updC tab n bases (unitM n a) with
  | none => rw [e] at h; cases h
  | some v =>
    rw [e] at h
    simp only at h
    split at h
    · rename_i hc
      refine ⟨v, rfl, hc, ?_⟩
      split at h
      · rename_i h1
        have e := Prod.mk.inj (Option.some.inj h)
        exact .inl ⟨h1, e.1.symm, e.2.symm⟩
      · rename_i h1
        split at h
        · rename_i h2
          have e := Prod.mk.inj (Option.some.inj h)
          exact .inr (.inl ⟨h2, e.1.symm, e.2.symm⟩)
        · rename_i h2
          split at h
          · rename_i h3
            have e := Prod.mk.inj (Option.some.inj h)
            exact .inr (.inr ⟨by omega, h3, e.1.symm, e.2.symm⟩)
          · cases h
    · cases h
theorem takeC_ok {tab : List (List Q2)} {n a : Nat} {bases b' : List (List Q2 × Q2)} {vec : Option (List Q2)} (T : TabOk tab n) (hb : ∀ b ∈ bases, BaseOk n b) (h : takeC tab n bases a = some (b', vec)) : (∀ b ∈ b', BaseOk n b) ∧ b'.length ≤ bases.length + 1 := by
  obtain ⟨v, h1, h2, h3⟩ := takeC_cases h
  rcases h3 with ⟨_, rfl, _⟩ | ⟨h4, rfl, _⟩ | ⟨_, _, rfl, _⟩
  · exact ⟨hb, by omega⟩
  · have hv := updC_ok T hb (unit_ok n a) h1
    refine ⟨fun b hm => ?_, by rw [List.length_append]; exact Nat.le_refl _⟩
    rcases List.mem_append.mp hm with hm | hm
    · exact hb b hm
    · rw [List.mem_singleton.mp hm]
      exact ⟨hv, chk_bd h2 (prodM_bd T hv hv).d0, h4⟩
  · exact ⟨hb, by omega⟩
theorem tab_ok {sums : List Q2} {n : Nat} (h1 : 1 ≤ n) (h5 : n ≤ 5) (hl : sums.length = 2 * n + 1) (hb : ∀ a ∈ sums, Bd 80 a) : TabOk (tabM sums n) n := by
  have row : ∀ l, l < n → (tabM sums n)[l]? = some ((List.range n).map fun r => sums.getD (l + r) zeroM) := fun l hl => by
    unfold tabM
    rw [List.getElem?_map, List.getElem?_range hl]
    rfl
  have rowD : ∀ l, l < n → (tabM sums n).getD l [] = (List.range n).map fun r => sums.getD (l + r) zeroM := fun l hl => by
    rw [List.getD_eq_getElem?_getD, row l hl]
    rfl
  refine ⟨h1, h5, by unfold tabM; rw [List.length_map, List.length_range], fun l hl => ⟨by rw [rowD l hl, List.length_map, List.length_range], by rw [rowD l hl, row l hl]⟩, fun l r hl2 hr => ?_⟩
  rw [rowD l hl2, List.getD_eq_getElem?_getD, List.getElem?_map, List.getElem?_range hr]
  exact hb _ (getD_mem (by omega)).1
theorem initC_pre {tab : List (List Q2)} {n : Nat} : ∀ {m : Nat} {r : List (List Q2 × Q2) × Option (List Q2)}, initC tab n m = some r → ∀ k, k ≤ m → ∃ r', initC tab n k = some r'
  | 0, r, h, k, hk => by
    have e : k = 0 := by omega
    subst e
    exact ⟨r, h⟩
  | m + 1, r, h, k, hk => by
    by_cases e : k = m + 1
    · subst e
      exact ⟨r, h⟩
    · unfold initC at h
      cases q : initC tab n m with
      | none => rw [q] at h; cases h
      | some r' => exact initC_pre q k (by omega)
theorem initC_done {tab : List (List Q2)} {n k : Nat} {b : List (List Q2 × Q2)} {v : List Q2} (h : initC tab n k = some (b, some v)) : initC tab n (k + 1) = some (b, some v) := by
  conv => lhs; unfold initC
  rw [h]
theorem initC_step {tab : List (List Q2)} {n k : Nat} {b : List (List Q2 × Q2)} (h : initC tab n k = some (b, none)) : initC tab n (k + 1) = takeC tab n b k := by
  conv => lhs; unfold initC
  rw [h]
theorem fillsC_cases {n : Nat} {c : List Q2} {b : Bool} (h : fillsC n c = some b) : (countsM c n).all (chk 40) = true ∧ ∃ sums bs vec, powersC (countsM c n) (2 * n) = some sums ∧ initC (tabM sums n) n n = some (bs, vec) ∧ b = vec.isNone := by
  unfold fillsC at h
  simp only at h
  split at h
  · rename_i hc
    refine ⟨hc, ?_⟩
    cases e : powersC (countsM c n) (2 * n) with
    | none => rw [e] at h; cases h
    | some sums =>
      rw [e] at h
      simp only at h
      cases e2 : initC (tabM sums n) n n with
      | none => rw [e2] at h; cases h
      | some r =>
        obtain ⟨bs, vec⟩ := r
        rw [e2] at h
        cases vec with
        | none => exact ⟨sums, bs, none, rfl, e2, (Option.some.inj h).symm⟩
        | some v => exact ⟨sums, bs, some v, rfl, e2, (Option.some.inj h).symm⟩
  · cases h
end M
/-! M6 -/
/-! Own: the finitely many draws, by the kernel. -/
namespace M
def okW (w : Q2) : Bool := drawn.all fun f => okAt w f
theorem okW0 : okW (1, 1) = true := by decide +kernel
theorem okW1 : okW (1, 2) = true := by decide +kernel
theorem okW2 : okW (1, 3) = true := by decide +kernel
theorem okW3 : okW (1, 4) = true := by decide +kernel
theorem okW4 : okW (2, 1) = true := by decide +kernel
theorem okW5 : okW (2, 3) = true := by decide +kernel
theorem okW6 : okW (3, 1) = true := by decide +kernel
theorem okW7 : okW (3, 2) = true := by decide +kernel
theorem okW8 : okW (3, 4) = true := by decide +kernel
theorem okW9 : okW (4, 1) = true := by decide +kernel
theorem okW10 : okW (4, 3) = true := by decide +kernel
theorem okW11 : okW (5, 1) = true := by decide +kernel
theorem okW12 : okW (5, 2) = true := by decide +kernel
theorem okW13 : okW (5, 3) = true := by decide +kernel
theorem okW14 : okW (5, 4) = true := by decide +kernel
theorem okW15 : okW (6, 1) = true := by decide +kernel
theorem okW16 : okW (7, 1) = true := by decide +kernel
theorem okW17 : okW (7, 2) = true := by decide +kernel
theorem okW18 : okW (7, 3) = true := by decide +kernel
theorem okW19 : okW (7, 4) = true := by decide +kernel
theorem okW20 : okW (8, 1) = true := by decide +kernel
theorem okW21 : okW (8, 3) = true := by decide +kernel
theorem okW22 : okW (9, 1) = true := by decide +kernel
theorem okW23 : okW (9, 2) = true := by decide +kernel
theorem okW24 : okW (9, 4) = true := by decide +kernel
theorem okAll : drawn.all okW = true := by
  show (okW (1, 1) && (okW (1, 2) && (okW (1, 3) && (okW (1, 4) && (okW (2, 1) && (okW (2, 3) && (okW (3, 1) && (okW (3, 2) && (okW (3, 4) && (okW (4, 1) && (okW (4, 3) && (okW (5, 1) && (okW (5, 2) && (okW (5, 3) && (okW (5, 4) && (okW (6, 1) && (okW (7, 1) && (okW (7, 2) && (okW (7, 3) && (okW (7, 4) && (okW (8, 1) && (okW (8, 3) && (okW (9, 1) && (okW (9, 2) && (okW (9, 4) && true))))))))))))))))))))))))) = true
  rw [okW0, okW1, okW2, okW3, okW4, okW5, okW6, okW7, okW8, okW9, okW10, okW11, okW12, okW13, okW14, okW15, okW16, okW17, okW18, okW19, okW20, okW21, okW22, okW23, okW24]
  rfl
end M
/-! M7 -/
/-! Own: what a chain's and a ring's links are. -/
namespace M
/-! drawn fractions -/
def amtB (a : Q2) : Bool := decide (0 < a.1) && decide (0 < a.2) && decide (gc a.1 a.2 = 1) && decide (a.1.natAbs < 2 ^ 4) && decide (a.2.natAbs < 2 ^ 4) && (decide (a = oneM) == decide (a.1 = a.2))
theorem drawn_all : drawn.all amtB = true := by decide +kernel
theorem drawn_amt {a : Q2} (h : a ∈ drawn) : Amt a ∧ Bd 4 a ∧ (a = oneM ↔ a.1 = a.2) := by
  have q := List.all_eq_true.mp drawn_all a h
  unfold amtB at q
  rw [Bool.and_eq_true, Bool.and_eq_true, Bool.and_eq_true, Bool.and_eq_true, Bool.and_eq_true, decide_eq_true_eq, decide_eq_true_eq, decide_eq_true_eq, decide_eq_true_eq, decide_eq_true_eq, beq_iff_eq, decide_eq_decide] at q
  obtain ⟨⟨⟨⟨⟨q1, q2⟩, q3⟩, q4⟩, q5⟩, q6⟩ := q
  exact ⟨⟨q1, q2, q3⟩, ⟨q2, q4, q5⟩, q6⟩
theorem low_all : ((List.range 10).all fun n => (List.range 5).all fun m => n == 0 || m == 0 || decide (lowM (n : Int) (m : Int) ∈ drawn)) = true := by decide +kernel
theorem low_drawn {n m : Nat} (hn : 1 ≤ n ∧ n ≤ 9) (hm : 1 ≤ m ∧ m ≤ 4) : lowM (n : Int) (m : Int) ∈ drawn := by
  have h := List.all_eq_true.mp low_all n (List.mem_range.mpr (by omega))
  have h1 := List.all_eq_true.mp h m (List.mem_range.mpr (by omega))
  rw [Bool.or_eq_true, Bool.or_eq_true, beq_iff_eq, beq_iff_eq, decide_eq_true_eq] at h1
  rcases h1 with (h1 | h1) | h1
  · omega
  · omega
  · exact h1
/-! what was decided at each pair -/
theorem fills_ok {u f : Q2} (hu : okW u = true) (hf : f ∈ drawn) : fillsC 2 (chainM u f 2) = some (decide (f.1 ≤ f.2)) ∧ fillsC 1 (chainM u f 1) = some true ∧ ∀ n, 2 ≤ n → n ≤ 5 → f.1 ≤ f.2 → fillsC n (chainM u f n) = some true := by
  have q := List.all_eq_true.mp hu f hf
  unfold okAt at q
  rw [Bool.and_eq_true, Bool.and_eq_true, decide_eq_true_eq, decide_eq_true_eq] at q
  obtain ⟨⟨q1, q2⟩, q3⟩ := q
  refine ⟨q1, q3, fun n h2 h5 hle => ?_⟩
  rw [if_pos hle, Bool.and_eq_true, Bool.and_eq_true, decide_eq_true_eq, decide_eq_true_eq, decide_eq_true_eq] at q2
  have hn : n = 2 ∨ n = 3 ∨ n = 4 ∨ n = 5 := by omega
  rcases hn with rfl | rfl | rfl | rfl
  · rw [q1, decide_eq_true hle]
  · exact q2.1.1
  · exact q2.1.2
  · exact q2.2
/-! links -/
theorem overM_ratio {a b c d : Int} (hb : 0 < b) (hc : 0 < c) (hd : 0 < d) : overM (ratioM a b) (ratioM c d) = ratioM (a * d) (b * c) := by
  obtain ⟨g, g0, e1, e2⟩ := ratioM_of (n := a) hb
  obtain ⟨h, h0, e3, e4⟩ := ratioM_of (n := c) hd
  have p1 : 0 < (ratioM a b).2 := by
    rcases Int.lt_trichotomy (ratioM a b).2 0 with z | z | z
    · exact absurd (Int.mul_neg_of_pos_of_neg g0 z) (by omega)
    · rw [z, Int.mul_zero] at e2; omega
    · exact z
  have p2 : 0 < (ratioM c d).1 := by
    rcases Int.lt_trichotomy (ratioM c d).1 0 with z | z | z
    · exact absurd (Int.mul_neg_of_pos_of_neg h0 z) (by omega)
    · rw [z, Int.mul_zero] at e3; omega
    · exact z
  have f1 : a * d = (g * h) * ((ratioM a b).1 * (ratioM c d).2) := by
    conv => lhs; rw [e1, e4]
    simp only [Int.mul_assoc, Int.mul_left_comm, Int.mul_comm]
  have f2 : b * c = (g * h) * ((ratioM a b).2 * (ratioM c d).1) := by
    conv => lhs; rw [e2, e3]
    simp only [Int.mul_assoc, Int.mul_left_comm, Int.mul_comm]
  unfold overM
  rw [f1, f2, ratioM_mul (Int.mul_pos g0 h0) (Int.mul_pos p1 p2)]
theorem wtM_eq (u f : Q2) (i j : Nat) : wtM u f i j = ratioM (u.1 ^ i * f.1 ^ j) (u.2 ^ i * f.2 ^ j) := rfl
theorem posw {u f : Q2} (hu : Amt u) (hf : Amt f) (i j : Nat) : 0 < u.1 ^ i * f.1 ^ j ∧ 0 < u.2 ^ i * f.2 ^ j := ⟨Int.mul_pos (powM_pos hu i).1 (powM_pos hf j).1, Int.mul_pos (powM_pos hu i).2 (powM_pos hf j).2⟩
theorem times_wt {u f : Q2} (hu : Amt u) (hf : Amt f) (i j k l : Nat) : timesM (wtM u f i j) (wtM u f k l) = wtM u f (i + k) (j + l) := by
  rw [wtM_eq, wtM_eq, wtM_eq, timesM_ratio (posw hu hf i j).2 (posw hu hf k l).2]
  congr 1
  · rw [Int.pow_add, Int.pow_add]
    simp only [Int.mul_assoc, Int.mul_left_comm, Int.mul_comm]
  · rw [Int.pow_add, Int.pow_add]
    simp only [Int.mul_assoc, Int.mul_left_comm, Int.mul_comm]
theorem over_wt {u f : Q2} (hu : Amt u) (hf : Amt f) (i j e : Nat) : overM (wtM u f i (j + e)) (wtM u f i j) = ratioM (f.1 ^ e) (f.2 ^ e) := by
  rw [wtM_eq, wtM_eq, overM_ratio (posw hu hf i (j + e)).2 (posw hu hf i j).1 (posw hu hf i j).2]
  rw [← ratioM_mul (n := f.1 ^ e) (d := f.2 ^ e) (Int.mul_pos (posw hu hf i j).1 (posw hu hf i j).2) (powM_pos hf e).2]
  congr 1
  · rw [Int.pow_add]
    simp only [Int.mul_assoc, Int.mul_left_comm, Int.mul_comm]
  · rw [Int.pow_add]
    simp only [Int.mul_assoc, Int.mul_left_comm, Int.mul_comm]
/-- a carrier told by exponents -/
def expM (u f : Q2) (p : Nat → Nat) (n : Nat) : List Q2 := (List.range (2 ^ n)).map fun s => wtM u f (bitsM s) (p s)
theorem expM_at {u f : Q2} {p : Nat → Nat} {n s : Nat} (h : s < 2 ^ n) : (expM u f p n).getD s zeroM = wtM u f (bitsM s) (p s) := by
  unfold expM
  rw [List.getD_eq_getElem?_getD, List.getElem?_map, List.getElem?_range h]
  rfl
theorem expM_len (u f : Q2) (p : Nat → Nat) (n : Nat) : (expM u f p n).length = 2 ^ n := by unfold expM; rw [List.length_map, List.length_range]
def exps (p : Nat → Nat) (i j s e : Nat) : Bool := decide (bitsM (s + 2 ^ i + 2 ^ j) + bitsM s = bitsM (s + 2 ^ i) + bitsM (s + 2 ^ j)) && decide (p (s + 2 ^ i + 2 ^ j) + p s = p (s + 2 ^ i) + p (s + 2 ^ j) + e)
theorem link_exp {u f : Q2} (hu : Amt u) (hf : Amt f) {p : Nat → Nat} {n i j s e : Nat} (hs : s + 2 ^ i + 2 ^ j < 2 ^ n) (h : exps p i j s e = true) : linkM (expM u f p n) i j s = ratioM (f.1 ^ e) (f.2 ^ e) := by
  unfold exps at h
  rw [Bool.and_eq_true, decide_eq_true_eq, decide_eq_true_eq] at h
  have p1 : 0 < 2 ^ i := Nat.two_pow_pos i
  have p2 : 0 < 2 ^ j := Nat.two_pow_pos j
  unfold linkM
  rw [expM_at hs, expM_at (by omega), expM_at (by omega), expM_at (by omega), times_wt hu hf, times_wt hu hf, h.1, h.2, over_wt hu hf]
def bes (n i j : Nat) : Bool := decide (j = i + 1)
def besR (n i j : Nat) : Bool := decide (j = i + 1) || (decide (i = 0) && decide (j = n - 1))
theorem chain_exps : ((List.range 6).all fun n => (List.range n).all fun i => (List.range n).all fun j => decide (j ≤ i) || (freeM (2 ^ n) i j).all fun s => exps (fun t => pairsM t n) i j s (bes n i j).toNat) = true := by decide +kernel
theorem ring_exps : ((List.range 6).all fun n => n < 3 || (List.range n).all fun i => (List.range n).all fun j => decide (j ≤ i) || (freeM (2 ^ n) i j).all fun s => exps (fun t => circM t n) i j s (besR n i j).toNat) = true := by decide +kernel
theorem ratio_e {f : Q2} (hf : Amt f) (b : Bool) : ratioM (f.1 ^ b.toNat) (f.2 ^ b.toNat) = if b then f else oneM := by
  cases b with
  | true =>
    show ratioM (f.1 ^ 1) (f.2 ^ 1) = f
    rw [Int.pow_succ, Int.pow_zero, Int.one_mul, Int.pow_succ, Int.pow_zero, Int.one_mul, ratioM_self hf]
  | false =>
    show ratioM (f.1 ^ 0) (f.2 ^ 0) = oneM
    rw [Int.pow_zero, Int.pow_zero]
    rfl
theorem chain_links {u f : Q2} (hu : Amt u) (hf : Amt f) {n i j : Nat} (h5 : n ≤ 5) (hi : i < j) (hj : j < n) : ∀ x ∈ linksM (chainM u f n) i j, x = if bes n i j then f else oneM := fun x hx => by
  have h := List.all_eq_true.mp chain_exps n (List.mem_range.mpr (by omega))
  have h1 := List.all_eq_true.mp h i (List.mem_range.mpr (by omega))
  have h2 := List.all_eq_true.mp h1 j (List.mem_range.mpr hj)
  rw [Bool.or_eq_true, List.all_eq_true, decide_eq_true_eq] at h2
  unfold linksM at hx
  rw [show (chainM u f n).length = 2 ^ n from expM_len u f (fun t => pairsM t n) n] at hx
  obtain ⟨s, hs, rfl⟩ := List.mem_map.mp hx
  have h3 := h2.resolve_left (by omega) s hs
  rw [← ratio_e hf]
  exact link_exp hu hf (free_lt h5 (by omega) hj (by omega) hs) h3
theorem ring_links {u f : Q2} (hu : Amt u) (hf : Amt f) {n i j : Nat} (h3 : 3 ≤ n) (h5 : n ≤ 5) (hi : i < j) (hj : j < n) : ∀ x ∈ linksM (ringM u f n) i j, x = if besR n i j then f else oneM := fun x hx => by
  have h := List.all_eq_true.mp ring_exps n (List.mem_range.mpr (by omega))
  rw [Bool.or_eq_true, decide_eq_true_eq] at h
  have h1 := List.all_eq_true.mp (h.resolve_left (by omega)) i (List.mem_range.mpr (by omega))
  have h2 := List.all_eq_true.mp h1 j (List.mem_range.mpr hj)
  rw [Bool.or_eq_true, List.all_eq_true, decide_eq_true_eq] at h2
  unfold linksM at hx
  rw [show (ringM u f n).length = 2 ^ n from expM_len u f (fun t => circM t n) n] at hx
  obtain ⟨s, hs, rfl⟩ := List.mem_map.mp hx
  have h3 := h2.resolve_left (by omega) s hs
  rw [← ratio_e hf]
  exact link_exp hu hf (free_lt h5 (by omega) hj (by omega) hs) h3
theorem pairsL_lt {n : Nat} (h5 : n ≤ 5) : ∀ p ∈ pairsL n, p.1 < p.2 ∧ p.2 < n := (pairsL_ok h5).2
theorem free0 : ((List.range 6).all fun n => decide (n < 2) || (decide ((0, 1) ∈ pairsL n) && decide (0 ∈ freeM (2 ^ n) 0 1))) = true := by decide +kernel
/-- what holds of one that is not 1, of some link of a chain of two and more -/
theorem any_links {u f : Q2} (hu : Amt u) (hf : Amt f) {n : Nat} (h2 : 2 ≤ n) (h5 : n ≤ 5) (p : Q2 → Bool) (h1 : p oneM = false) : (allLinksM (chainM u f n) n).any p = p f := by
  cases hp : p f with
  | true =>
    have h := List.all_eq_true.mp free0 n (List.mem_range.mpr (by omega))
    rw [Bool.or_eq_true, Bool.and_eq_true, decide_eq_true_eq, decide_eq_true_eq, decide_eq_true_eq] at h
    obtain ⟨m1, m2⟩ := h.resolve_left (by omega)
    refine List.any_eq_true.mpr ⟨linkM (chainM u f n) 0 1 0, ?_, ?_⟩
    · unfold allLinksM
      refine List.mem_flatMap.mpr ⟨(0, 1), m1, ?_⟩
      unfold linksM
      rw [show (chainM u f n).length = 2 ^ n from expM_len u f (fun t => pairsM t n) n]
      exact List.mem_map.mpr ⟨0, m2, rfl⟩
    · have e := chain_links hu hf h5 (i := 0) (j := 1) (by omega) (by omega) (linkM (chainM u f n) 0 1 0) (by
        unfold linksM
        rw [show (chainM u f n).length = 2 ^ n from expM_len u f (fun t => pairsM t n) n]
        exact List.mem_map.mpr ⟨0, m2, rfl⟩)
      rw [e]
      exact hp
  | false =>
    refine List.any_eq_false.mpr fun x hx => ?_
    unfold allLinksM at hx
    obtain ⟨⟨i, j⟩, hq, hx⟩ := List.mem_flatMap.mp hx
    obtain ⟨l1, l2⟩ := pairsL_lt h5 _ hq
    rw [chain_links hu hf h5 l1 l2 x hx]
    split
    · rw [hp]; exact Bool.false_ne_true
    · rw [h1]; exact Bool.false_ne_true
theorem none_links (c : List Q2) (p : Q2 → Bool) : (allLinksM c 1).any p = false := rfl
/-! unlinked -/
theorem bits_step : ((List.range 5).all fun k => (List.range (2 ^ k)).all fun s => decide (bitsM (2 ^ k + s) = bitsM s + 1)) = true := by decide +kernel
theorem bits_pow : ((List.range 5).all fun k => decide (bitsM (2 ^ k) = 1)) = true := by decide +kernel
theorem ws_exp {u f : Q2} (hu : Amt u) (hf : Amt f) {fs : List Q2} : ∀ k, k ≤ 5 → (∀ i, i < k → fs.getD i zeroM = wtM u f 1 0) → wsK fs k = expM u f (fun _ => 0) k
  | 0, _, _ => by
    show [oneM] = [wtM u f 0 0]
    rw [wtM_zero]
  | k + 1, hk, h => by
    have b := List.all_eq_true.mp bits_step k (List.mem_range.mpr (by omega))
    rw [List.all_eq_true] at b
    unfold wsK
    rw [ws_exp hu hf k (by omega) fun i hi => h i (by omega), h k (by omega)]
    unfold expM
    rw [Nat.pow_succ, Nat.mul_two, List.range_add, List.map_append, List.map_map, List.map_map]
    congr 1
    refine List.map_congr_left fun s hs => ?_
    show timesM (wtM u f (bitsM s) 0) (wtM u f 1 0) = wtM u f (bitsM (2 ^ k + s)) 0
    rw [times_wt hu hf, of_decide_eq_true (b s hs)]
theorem pairs_pow : ((List.range 6).all fun n => (List.range n).all fun k => decide (pairsM (2 ^ k) n = 0)) = true := by decide +kernel
theorem wsM_chain {u f : Q2} (hu : Amt u) (hf : Amt f) {n : Nat} (h5 : n ≤ 5) : wsM (aloneK (chainM u f n) n) = expM u f (fun _ => 0) n := by
  unfold wsM
  have hl : (aloneK (chainM u f n) n).length = n := by unfold aloneK; rw [List.length_map, List.length_range]
  rw [hl]
  refine ws_exp hu hf n h5 fun i hi => ?_
  have b := List.all_eq_true.mp bits_pow i (List.mem_range.mpr (by omega))
  have c := List.all_eq_true.mp pairs_pow n (List.mem_range.mpr (by omega))
  have d := List.all_eq_true.mp c i (List.mem_range.mpr hi)
  unfold aloneK
  rw [List.getD_eq_getElem?_getD, List.getElem?_map, List.getElem?_range hi]
  show (chainM u f n).getD (2 ^ i) zeroM = _
  rw [show (chainM u f n).getD (2 ^ i) zeroM = wtM u f (bitsM (2 ^ i)) (pairsM (2 ^ i) n) from expM_at (p := fun t => pairsM t n) (Nat.pow_lt_pow_right (by decide) hi), of_decide_eq_true b, of_decide_eq_true d]
theorem pairs3 : ((List.range 6).all fun n => decide (n < 2) || decide (pairsM 3 n = 1)) = true := by decide +kernel
theorem ratio_inj {a b c d : Int} (hb : 0 < b) (hd : 0 < d) (h : ratioM a b = ratioM c d) : a * d = c * b := by
  obtain ⟨g, g0, e1, e2⟩ := ratioM_of (n := a) hb
  obtain ⟨k, k0, e3, e4⟩ := ratioM_of (n := c) hd
  rw [← h] at e3 e4
  generalize ratioM a b = r at *
  subst e1 e2 e3 e4
  simp only [Int.mul_assoc, Int.mul_left_comm, Int.mul_comm]
theorem unlinked_chain {u f : Q2} (hu : Amt u) (hf : Amt f) {n : Nat} (h2 : 2 ≤ n) (h5 : n ≤ 5) : (wsM (aloneK (chainM u f n) n) = chainM u f n) ↔ f.1 = f.2 := by
  rw [wsM_chain hu hf h5]
  constructor
  · intro h
    have h4 : 3 < 2 ^ n := Nat.lt_of_lt_of_le (by decide : 3 < 2 ^ 2) (Nat.pow_le_pow_right (by decide) h2)
    have p := List.all_eq_true.mp pairs3 n (List.mem_range.mpr (by omega))
    rw [Bool.or_eq_true, decide_eq_true_eq, decide_eq_true_eq] at p
    have e : (expM u f (fun _ => 0) n).getD 3 zeroM = (chainM u f n).getD 3 zeroM := by rw [h]
    rw [expM_at h4, show (chainM u f n).getD 3 zeroM = wtM u f (bitsM 3) (pairsM 3 n) from expM_at (p := fun t => pairsM t n) h4, p.resolve_left (by omega), wtM_eq, wtM_eq] at e
    have q := ratio_inj (posw hu hf _ _).2 (posw hu hf _ _).2 e
    simp only [Int.pow_zero, Int.mul_one, Int.pow_succ, Int.one_mul] at q
    have w : 0 < u.1 ^ bitsM 3 * u.2 ^ bitsM 3 := Int.mul_pos (powM_pos hu _).1 (powM_pos hu _).2
    have r : (u.1 ^ bitsM 3 * u.2 ^ bitsM 3) * f.2 = (u.1 ^ bitsM 3 * u.2 ^ bitsM 3) * f.1 := by
      rw [Int.mul_assoc, q]
      simp only [Int.mul_assoc, Int.mul_left_comm, Int.mul_comm]
    exact (Int.eq_of_mul_eq_mul_left (by omega) r).symm
  · intro h
    unfold expM chainM
    refine List.map_congr_left fun s _ => ?_
    have one : ∀ j : Nat, wtM u f (bitsM s) j = ratioM (u.1 ^ bitsM s) (u.2 ^ bitsM s) := fun j => by
      rw [wtM_eq, ← h, Int.mul_comm _ (f.1 ^ j), Int.mul_comm _ (f.1 ^ j)]
      exact ratioM_mul (powM_pos hf j).1 (powM_pos hu _).2
    rw [one, one]
theorem unlinked_one {u f : Q2} (hu : Amt u) (hf : Amt f) : wsM (aloneK (chainM u f 1) 1) = chainM u f 1 := by
  rw [wsM_chain hu hf (by decide)]
  rfl
end M
/-! G1 -/
/-! Own: big-step judgements over data, above the hand layer. -/
namespace G
open PySem PySem.Spec PyProof.Rows L2
open Evl (Ex Ex.refl Ex.trans Ex.new Ex.mut ex_rd ex_l ex_t fresh_back)

/-! ### data: what a value stands for -/
/-- the script's list, that nobody changes -/
def scrD (ds : List PyData) : PyData := .dict [(.none, .list ds)]
mutual
inductive Rp (K : PySem.W.Frag) (H : Hp) : V → PyData → Prop
  | non : Rp K H .non .none
  | bl (b : Bool) : Rp K H (.bl b) (.bool b)
  | int (i : Int) : Rp K H (.int i) (.int i)
  | str (x : Str) : Rp K H (.str x) (.str x)
  | lst {a : Addr} {xs : List V} {ds : List PyData} : H a = some (.lst xs) → RpAll K H xs ds → Rp K H (.ref a) (.list ds)
  | tup {a : Addr} {xs : List V} {ds : List PyData} : SqT K H a xs → RpAll K H xs ds → Rp K H (.ref a) (.tuple ds)
  | scr {a : Addr} {xs : List V} {ds : List PyData} : SqL K H a xs → RpAll K H xs ds → Rp K H (.ref a) (scrD ds)
inductive RpAll (K : PySem.W.Frag) (H : Hp) : List V → List PyData → Prop
  | nil : RpAll K H [] []
  | cons {v : V} {vs : List V} {d : PyData} {ds : List PyData} : Rp K H v d → RpAll K H vs ds → RpAll K H (v :: vs) (d :: ds)
end
section
variable {K : PySem.W.Frag} {H H' H0 H1 : Hp}
theorem Rp.int_v {v : V} {i : Int} (h : Rp K H v (.int i)) : v = .int i := by cases h; rfl
theorem Rp.bl_v {v : V} {b : Bool} (h : Rp K H v (.bool b)) : v = .bl b := by cases h; rfl
theorem Rp.str_v {v : V} {b : Str} (h : Rp K H v (.str b)) : v = .str b := by cases h; rfl
theorem Rp.non_v {v : V} (h : Rp K H v .none) : v = .non := by cases h; rfl
theorem Rp.tup_v {v : V} {ds : List PyData} (h : Rp K H v (.tuple ds)) : ∃ a xs, v = .ref a ∧ SqT K H a xs ∧ RpAll K H xs ds := by
  cases h with
  | tup h1 h2 => exact ⟨_, _, rfl, h1, h2⟩
theorem Rp.lst_v {v : V} {ds : List PyData} (h : Rp K H v (.list ds)) : ∃ a xs, v = .ref a ∧ H a = some (.lst xs) ∧ RpAll K H xs ds := by
  cases h with
  | lst h1 h2 => exact ⟨_, _, rfl, h1, h2⟩
theorem Rp.scr_v {v : V} {ds : List PyData} (h : Rp K H v (scrD ds)) : ∃ a xs, v = .ref a ∧ SqL K H a xs ∧ RpAll K H xs ds := by
  generalize e : scrD ds = d at h
  cases h with
  | scr h1 h2 =>
    have e2 := PyData.list.inj (congrArg Prod.snd (List.cons.inj (PyData.dict.inj e)).1)
    rw [e2]
    exact ⟨_, _, rfl, h1, h2⟩
  | _ => unfold scrD at e; cases e
theorem RpAll.length : ∀ {vs : List V} {ds : List PyData}, RpAll K H vs ds → vs.length = ds.length
  | [], _, h => by cases h; rfl
  | v :: vs, _, h => by
    cases h with
    | cons h1 h2 => rw [List.length_cons, List.length_cons, RpAll.length h2]
theorem RpAll.get : ∀ {vs : List V} {ds : List PyData}, RpAll K H vs ds → ∀ (i : Nat) (d : PyData), ds[i]? = some d → ∃ v, vs[i]? = some v ∧ Rp K H v d
  | [], _, h, i, d, e => by cases h; simp at e
  | v :: vs, _, h, 0, d, e => by
    cases h with
    | cons h1 h2 =>
      have e' := Option.some.inj e
      subst e'
      exact ⟨v, rfl, h1⟩
  | v :: vs, _, h, i + 1, d, e => by
    cases h with
    | cons h1 h2 => exact RpAll.get h2 i d e
theorem RpAll.get' : ∀ {vs : List V} {ds : List PyData}, RpAll K H vs ds → ∀ (i : Nat) (v : V), vs[i]? = some v → ∃ d, ds[i]? = some d ∧ Rp K H v d
  | [], _, h, i, d, e => by simp at e
  | v :: vs, _, h, 0, d, e => by
    cases h with
    | cons h1 h2 =>
      have e' := Option.some.inj e
      subst e'
      exact ⟨_, rfl, h1⟩
  | v :: vs, _, h, i + 1, d, e => by
    cases h with
    | cons h1 h2 => exact RpAll.get' h2 i d e
theorem RpAll.append : ∀ {vs ws : List V} {ds es : List PyData}, RpAll K H vs ds → RpAll K H ws es → RpAll K H (vs ++ ws) (ds ++ es)
  | [], _, _, _, h, k => by cases h; exact k
  | v :: vs, _, _, _, h, k => by
    cases h with
    | cons h1 h2 => exact .cons h1 (RpAll.append h2 k)
theorem RpAll.set : ∀ {vs : List V} {ds : List PyData} {v : V} {d : PyData} (i : Nat), RpAll K H vs ds → Rp K H v d → RpAll K H (vs.set i v) (ds.set i d)
  | [], _, _, _, _, h, k => by cases h; exact .nil
  | _ :: _, _, _, _, 0, h, k => by
    cases h with
    | cons h1 h2 => exact .cons k h2
  | _ :: _, _, _, _, i + 1, h, k => by
    cases h with
    | cons h1 h2 => exact .cons h1 (RpAll.set i h2 k)
theorem RpAll.take : ∀ {vs : List V} {ds : List PyData} (i : Nat), RpAll K H vs ds → RpAll K H (vs.take i) (ds.take i)
  | _, _, 0, h => by rw [List.take_zero, List.take_zero]; exact .nil
  | [], _, i + 1, h => by cases h; exact .nil
  | v :: vs, _, i + 1, h => by
    cases h with
    | cons h1 h2 => exact .cons h1 (RpAll.take i h2)
theorem RpAll.one_v {vs : List V} {d : PyData} (h : RpAll K H vs [d]) : ∃ v, vs = [v] ∧ Rp K H v d := by
  cases h with
  | cons h1 h2 => cases h2; exact ⟨_, rfl, h1⟩
theorem RpAll.two_v {vs : List V} {d e : PyData} (h : RpAll K H vs [d, e]) : ∃ v w, vs = [v, w] ∧ Rp K H v d ∧ Rp K H w e := by
  cases h with
  | cons h1 h2 =>
    obtain ⟨w, rfl, h3⟩ := h2.one_v
    exact ⟨_, w, rfl, h1, h3⟩
theorem RpAll.ints : ∀ {ns : List Int} {vs : List V}, RpAll K H vs (ns.map .int) → vs = ns.map V.int
  | [], _, h => by cases h; rfl
  | n :: ns, _, h => by
    cases h with
    | cons h1 h2 => rw [h1.int_v, RpAll.ints h2]; rfl
theorem RpAll.of_ints : ∀ {ns : List Int}, RpAll K H (ns.map V.int) (ns.map .int)
  | [] => .nil
  | n :: ns => .cons (.int n) RpAll.of_ints
theorem RpAll.bools : ∀ {ns : List Bool} {vs : List V}, RpAll K H vs (ns.map .bool) → vs = ns.map V.bl
  | [], _, h => by cases h; rfl
  | n :: ns, _, h => by
    cases h with
    | cons h1 h2 => rw [h1.bl_v, RpAll.bools h2]; rfl

mutual
theorem Rp.keep (ht : ∀ a xs, SqT K H a xs → SqT K H' a xs) (hl : ∀ a xs, H a = some (.lst xs) → H' a = some (.lst xs)) (hs : ∀ a xs, SqL K H a xs → SqL K H' a xs) : ∀ (d : PyData) (v : V), Rp K H v d → Rp K H' v d
  | .none, _, h => by rw [h.non_v]; exact .non
  | .bool b, _, h => by rw [h.bl_v]; exact .bl b
  | .int i, _, h => by rw [h.int_v]; exact .int i
  | .str x, _, h => by rw [h.str_v]; exact .str x
  | .list ds, _, h => by
    obtain ⟨a, xs, rfl, h1, h2⟩ := h.lst_v
    exact .lst (hl _ _ h1) (Rp.keepAll ht hl hs ds xs h2)
  | .tuple ds, _, h => by
    obtain ⟨a, xs, rfl, h1, h2⟩ := h.tup_v
    exact .tup (ht _ _ h1) (Rp.keepAll ht hl hs ds xs h2)
  | .dict [(.none, .list ds)], _, h => by
    obtain ⟨a, xs, rfl, h1, h2⟩ := Rp.scr_v (ds := ds) h
    exact .scr (hs _ _ h1) (Rp.keepAll ht hl hs ds xs h2)
  | .dict [], _, h => by cases h
  | .dict (_ :: _ :: _), _, h => by cases h
  | .dict [(.bool _, _)], _, h => by cases h
  | .dict [(.int _, _)], _, h => by cases h
  | .dict [(.str _, _)], _, h => by cases h
  | .dict [(.list _, _)], _, h => by cases h
  | .dict [(.tuple _, _)], _, h => by cases h
  | .dict [(.dict _, _)], _, h => by cases h
  | .dict [(.none, .none)], _, h => by cases h
  | .dict [(.none, .bool _)], _, h => by cases h
  | .dict [(.none, .int _)], _, h => by cases h
  | .dict [(.none, .str _)], _, h => by cases h
  | .dict [(.none, .tuple _)], _, h => by cases h
  | .dict [(.none, .dict _)], _, h => by cases h
theorem Rp.keepAll (ht : ∀ a xs, SqT K H a xs → SqT K H' a xs) (hl : ∀ a xs, H a = some (.lst xs) → H' a = some (.lst xs)) (hs : ∀ a xs, SqL K H a xs → SqL K H' a xs) : ∀ (ds : List PyData) (vs : List V), RpAll K H vs ds → RpAll K H' vs ds
  | [], _, h => by cases h; exact .nil
  | d :: ds, _, h => by
    cases h with
    | cons h1 h2 => exact .cons (Rp.keep ht hl hs d _ h1) (Rp.keepAll ht hl hs ds _ h2)
end
theorem Rp.mono (e : Ex H H') {d : PyData} {v : V} (h : Rp K H v d) : Rp K H' v d := Rp.keep (fun _ _ => ex_t e) (fun a xs q => e a _ q) (fun _ _ => ex_l e) d v h
theorem RpAll.mono (e : Ex H H') {ds : List PyData} {vs : List V} (h : RpAll K H vs ds) : RpAll K H' vs ds := Rp.keepAll (fun _ _ => ex_t e) (fun a xs q => e a _ q) (fun _ _ => ex_l e) ds vs h
/-! no list within -/
mutual
def lf : PyData → Bool
  | .tuple xs => lfAll xs
  | .list _ => false
  | .dict _ => false
  | _ => true
def lfAll : List PyData → Bool
  | [] => true
  | x :: xs => lf x && lfAll xs
end
mutual
theorem Rp.keepT (ht : ∀ a xs, SqT K H a xs → SqT K H' a xs) : ∀ (d : PyData) (v : V), lf d = true → Rp K H v d → Rp K H' v d
  | .none, _, _, h => by rw [h.non_v]; exact .non
  | .bool b, _, _, h => by rw [h.bl_v]; exact .bl b
  | .int i, _, _, h => by rw [h.int_v]; exact .int i
  | .str x, _, _, h => by rw [h.str_v]; exact .str x
  | .tuple ds, _, f, h => by
    obtain ⟨a, xs, rfl, h1, h2⟩ := h.tup_v
    exact .tup (ht _ _ h1) (Rp.keepTAll ht ds xs (by simpa only [lf] using f) h2)
  | .list ds, _, f, h => by simp only [lf] at f; cases f
  | .dict ds, _, f, h => by simp only [lf] at f; cases f
theorem Rp.keepTAll (ht : ∀ a xs, SqT K H a xs → SqT K H' a xs) : ∀ (ds : List PyData) (vs : List V), lfAll ds = true → RpAll K H vs ds → RpAll K H' vs ds
  | [], _, _, h => by cases h; exact .nil
  | d :: ds, _, f, h => by
    cases h with
    | cons h1 h2 =>
      have f' : lf d = true ∧ lfAll ds = true := by simpa only [lfAll, Bool.and_eq_true] using f
      exact .cons (Rp.keepT ht d _ f'.1 h1) (Rp.keepTAll ht ds _ f'.2 h2)
end
/-- a list is written: tuples stand -/
theorem sqT_upd {p a : Addr} {xs ys : List V} {o : HO} (hp : H p = some (.lst ys)) (h : SqT K H a xs) : SqT K (upd H p o) a xs := by
  rcases h with (h | ⟨ob, h⟩) | h
  · exact .inl (.inl (by rw [upd_ne (ne_of h hp (by intro z; cases z))]; exact h))
  · exact .inl (.inr ⟨ob, by rw [upd_ne (ne_of h hp (by intro z; cases z))]; exact h⟩)
  · exact .inr h
mutual
theorem Rp.dp : ∀ (d : PyData) (v : V), d.canLay0 = true → Rp K H v d → Dp K H v d
  | .none, _, _, h => by rw [h.non_v]; exact .non
  | .bool b, _, _, h => by rw [h.bl_v]; exact .bl b
  | .int i, _, _, h => by rw [h.int_v]; exact .int i
  | .str x, _, _, h => by rw [h.str_v]; exact .str x
  | .list ds, _, f, h => by
    obtain ⟨a, xs, rfl, h1, h2⟩ := h.lst_v
    exact .lst (SqL.of h1) (Rp.dpAll ds xs (by simpa only [PyData.canLay0] using f) h2)
  | .tuple ds, _, f, h => by
    obtain ⟨a, xs, rfl, h1, h2⟩ := h.tup_v
    exact .tup h1 (Rp.dpAll ds xs (by simpa only [PyData.canLay0] using f) h2)
  | .dict ds, _, f, h => by simp only [PyData.canLay0] at f; cases f
theorem Rp.dpAll : ∀ (ds : List PyData) (vs : List V), PyData.canLayAll0 ds = true → RpAll K H vs ds → DpAll K H vs ds
  | [], _, _, h => by cases h; exact .nil
  | d :: ds, _, f, h => by
    cases h with
    | cons h1 h2 =>
      have f' : d.canLay0 = true ∧ PyData.canLayAll0 ds = true := by simpa only [PyData.canLayAll0, Bool.and_eq_true] using f
      exact .cons (Rp.dp d _ f'.1 h1) (Rp.dpAll ds _ f'.2 h2)
end
end

/-! ### a frame's places -/
inductive Sl where
  | dat (d : PyData) | arg (d : PyData) | own (ds : List PyData) | obj (φ : Addr → Hp → Prop)
def Sl.data : Sl → Option PyData
  | .dat d => some d
  | .arg d => some d
  | .own ds => some (.list ds)
  | .obj _ => none
abbrev En := List (Option Sl)
def SlOk (K : PySem.W.Frag) (H0 H : Hp) (v : V) : Sl → Prop
  | .dat d => Rp K H v d
  | .arg d => Rp K H0 v d
  | .own ds => ∃ p xs, v = .ref p ∧ H0 p = none ∧ H p = some (.lst xs) ∧ RpAll K H xs ds ∧ lfAll ds = true
  | .obj φ => ∃ p, v = .ref p ∧ ∀ H', Ex H0 H' → φ p H'
structure St0 (K : PySem.W.Frag) (H0 H : Hp) (σ : L2.St) (δ : En) : Prop where
  ex : Ex H0 H
  len : List.length σ = List.length δ
  at_ : ∀ (i : Nat) (s : Sl), δ[i]? = some (some s) → ∃ v, σ[i]? = some (some v) ∧ SlOk K H0 H v s
section
variable {K : PySem.W.Frag} {H H' H0 H1 : Hp} {σ : L2.St} {δ δ' : En}
theorem SlOk.mono {v : V} {s : Sl} (e : Ex H H') (h : SlOk K H0 H v s) : SlOk K H0 H' v s := by
  cases s with
  | dat d => exact Rp.mono (K := K) e h
  | arg d => exact h
  | own ds =>
    obtain ⟨p, xs, e1, e2, e3, e4, e5⟩ := h
    exact ⟨p, xs, e1, e2, e _ _ e3, e4.mono e, e5⟩
  | obj φ => exact h
theorem SlOk.rp {v : V} {s : Sl} {d : PyData} (hd : s.data = some d) (e : Ex H0 H) (h : SlOk K H0 H v s) : Rp K H v d := by
  cases s with
  | dat d => cases hd; exact h
  | arg d => cases hd; exact Rp.mono (K := K) e h
  | own ds =>
    cases hd
    obtain ⟨p, xs, rfl, e2, e3, e4, e5⟩ := h
    exact .lst e3 e4
  | obj φ => cases hd
theorem St0.mono (S : St0 K H0 H σ δ) (e : Ex H H') : St0 K H0 H' σ δ :=
  ⟨S.ex.trans e, S.len, fun i s h => let ⟨v, h1, h2⟩ := S.at_ i s h; ⟨v, h1, h2.mono e⟩⟩
theorem St0.get (S : St0 K H0 H σ δ) {i : Nat} {s : Sl} {d : PyData} (hd : s.data = some d) (h : δ[i]? = some (some s)) : ∃ v, σ[i]? = some (some v) ∧ Rp K H v d :=
  let ⟨v, h1, h2⟩ := S.at_ i s h; ⟨v, h1, h2.rp hd S.ex⟩
theorem St0.set (S : St0 K H0 H σ δ) (j : Nat) {v : V} {s : Sl} (h : SlOk K H0 H v s) : St0 K H0 H (σ.set j (some v)) (δ.set j (some s)) := by
  refine ⟨S.ex, by simpa using S.len, fun i t e => ?_⟩
  by_cases hij : j = i
  · subst hij
    by_cases hj : j < δ.length
    · rw [List.getElem?_set_self hj] at e
      cases e
      exact ⟨v, by rw [List.getElem?_set_self (by rw [S.len]; exact hj)], h⟩
    · rw [List.getElem?_eq_none (by simpa using hj)] at e
      cases e
  · rw [List.getElem?_set_ne hij] at e ⊢
    exact S.at_ i t e
def wipeE (δ : En) : List Nat → En
  | [] => δ
  | v :: vs => (wipeE δ vs).set v none
theorem wipeE_len (δ : En) : ∀ vs, (wipeE δ vs).length = δ.length
  | [] => rfl
  | v :: vs => by unfold wipeE; rw [List.length_set, wipeE_len δ vs]
theorem wipeE_get {i : Nat} {s : Sl} : ∀ {vs : List Nat}, (wipeE δ vs)[i]? = some (some s) → δ[i]? = some (some s) ∧ i ∉ vs
  | [], h => ⟨h, by simp⟩
  | v :: vs, h => by
    unfold wipeE at h
    by_cases hi : v = i
    · subst hi
      by_cases hv : v < (wipeE δ vs).length
      · rw [List.getElem?_set_self hv] at h; cases h
      · rw [List.getElem?_eq_none (by simpa using hv)] at h; cases h
    · rw [List.getElem?_set_ne hi] at h
      obtain ⟨h1, h2⟩ := wipeE_get h
      exact ⟨h1, by simp only [List.mem_cons, not_or]; exact ⟨fun e => hi e.symm, h2⟩⟩
theorem St0.wipe (S : St0 K H0 H σ δ) (vs : List Nat) : St0 K H0 H (wipe σ vs) (wipeE δ vs) := by
  refine ⟨S.ex, by rw [wipe_length, wipeE_len, S.len], fun i s e => ?_⟩
  obtain ⟨h1, h2⟩ := wipeE_get e
  obtain ⟨v, h3, h4⟩ := S.at_ i s h1
  exact ⟨v, by rw [wipe_out h2]; exact h3, h4⟩
/-- δ' knows no more than δ -/
def leE : En → En → Prop
  | [], [] => True
  | none :: a, _ :: b => leE a b
  | some s :: a, x :: b => x = some s ∧ leE a b
  | _, _ => False
theorem leE.len : ∀ {a b : En}, leE a b → a.length = b.length
  | [], [], _ => rfl
  | none :: a, _ :: b, h => by
    have q : leE a b := by simpa only [leE] using h
    rw [List.length_cons, List.length_cons, q.len]
  | some s :: a, x :: b, h => by
    have q : x = some s ∧ leE a b := by simpa only [leE] using h
    rw [List.length_cons, List.length_cons, q.2.len]
  | [], _ :: _, h => by simp only [leE] at h
  | none :: _, [], h => by simp only [leE] at h
  | some _ :: _, [], h => by simp only [leE] at h
theorem leE.get : ∀ {a b : En}, leE a b → ∀ (i : Nat) (s : Sl), a[i]? = some (some s) → b[i]? = some (some s)
  | [], [], _, i, s, e => e
  | none :: a, _ :: b, h, 0, s, e => by cases e
  | none :: a, _ :: b, h, i + 1, s, e => by
    have q : leE a b := by simpa only [leE] using h
    exact q.get i s e
  | some t :: a, x :: b, h, 0, s, e => by
    have q : x = some t ∧ leE a b := by simpa only [leE] using h
    rw [q.1]
    exact e
  | some t :: a, x :: b, h, i + 1, s, e => by
    have q : x = some t ∧ leE a b := by simpa only [leE] using h
    exact q.2.get i s e
  | [], _ :: _, h, _, _, _ => by simp only [leE] at h
  | none :: _, [], h, _, _, _ => by simp only [leE] at h
  | some _ :: _, [], h, _, _, _ => by simp only [leE] at h
theorem leE.refl : ∀ a : En, leE a a
  | [] => by simp only [leE]
  | none :: a => by simp only [leE]; exact leE.refl a
  | some s :: a => by simp only [leE, true_and]; exact leE.refl a
theorem St0.weak (S : St0 K H0 H σ δ) (l : leE δ' δ) : St0 K H0 H σ δ' := ⟨S.ex, by rw [S.len, l.len], fun i s e => S.at_ i s (l.get i s e)⟩
end

/-! ### the best readings -/
section
variable (X : Cx)
def bE (e : Expr) : TE := fun σ H Q => ∀ (pins : List (Addr × Obj)) (s : Shared), Inv X pins σ H s → wpAny (model X.prog X.w) X.A (eval e X.env) (EP X pins σ Q) X.xe s
def bT (e : Expr) : TT := fun σ H Q => ∀ (pins : List (Addr × Obj)) (s : Shared), Inv X pins σ H s → wpAny (model X.prog X.w) X.A (isTrue e X.env (eval e X.env)) (TP X pins σ Q) X.xe s
def bW (e : Expr) : TT := fun σ H Q => ∀ (whole : Sem Value) (pins : List (Addr × Obj)) (s : Shared), Inv X pins σ H s → wpAny (model X.prog X.w) X.A (isTrue e X.env whole) (TP X pins σ Q) X.xe s
def bA (es : List Expr) : TA := fun σ H Q => ∀ (pos : Pos) (pins : List (Addr × Obj)) (s : Shared), Inv X pins σ H s → wpAny (model X.prog X.w) X.A (spliced (backTo pos (starEach es X.env))) (AP X pins σ Q) X.xe s
def bS (st : Stmt) : TS := fun D σ H => ∀ (pins : List (Addr × Obj)) (s : Shared), Inv X pins σ H s → wpAny (model X.prog X.w) X.A (exec st X.env) (SP X pins D) X.xe s
def bSs (st : List Stmt) : TS := fun D σ H => ∀ (pins : List (Addr × Obj)) (s : Shared), Inv X pins σ H s → wpAny (model X.prog X.w) X.A (execs st X.env) (SP X pins D) X.xe s
def bI (tg iter : Expr) : TI := fun σ H R => ∀ (pins : List (Addr × Obj)) (s : Shared), Inv X pins σ H s →
  wpAny (model X.prog X.w) X.A (eval iter X.env) (fun v s1 => wpAny (model X.prog X.w) X.A (pyIter v) (PIE X pins σ tg R) X.xe s1) X.xe s
end
section
variable {X : Cx} {e : Expr} {es : List Expr} {st : Stmt} {sts : List Stmt} {tg iter : Expr} {te : TE} {tt : TT} {ta : TA} {ts : TS} {ti : TI} {σ : L2.St} {H : Hp}
theorem pe_b : PE X e (bE X e) := ⟨fun pins s σ H Q I h => h pins s I⟩
theorem pt_b : PT X e (bT X e) := ⟨fun pins s σ H Q I h => h pins s I⟩
theorem pw_b : PW X e (bW X e) := ⟨fun whole pins s σ H Q I h => h whole pins s I⟩
theorem pa_b : PA X es (bA X es) := ⟨fun pos pins s σ H Q I h => h pos pins s I⟩
theorem ps_b : PS X st (bS X st) := ⟨fun pins s σ H D I h => h pins s I⟩
theorem pss_b : PSs X sts (bSs X sts) := ⟨fun pins s σ H D I h => h pins s I⟩
theorem pi_b : PI X tg iter (bI X tg iter) := ⟨fun pins s σ H R I h => h pins s I⟩
theorem bE_of {Q : VK} (h : PE X e te) (q : te σ H Q) : bE X e σ H Q := fun pins s I => h.run pins s σ H Q I q
theorem bT_of {Q : Bool → Hp → Prop} (h : PT X e tt) (q : tt σ H Q) : bT X e σ H Q := fun pins s I => h.run pins s σ H Q I q
theorem bW_of {Q : Bool → Hp → Prop} (h : PW X e tt) (q : tt σ H Q) : bW X e σ H Q := fun whole pins s I => h.run whole pins s σ H Q I q
theorem bA_of {Q : List V → Hp → Prop} (h : PA X es ta) (q : ta σ H Q) : bA X es σ H Q := fun pos pins s I => h.run pos pins s σ H Q I q
theorem bS_of {D : Ends} (h : PS X st ts) (q : ts D σ H) : bS X st D σ H := fun pins s I => h.run pins s σ H D I q
theorem bSs_of {D : Ends} (h : PSs X sts ts) (q : ts D σ H) : bSs X sts D σ H := fun pins s I => h.run pins s σ H D I q
theorem bI_of {R : It → Hp → Prop} (h : PI X tg iter ti) (q : ti σ H R) : bI X tg iter σ H R := fun pins s I => h.run pins s σ H R I q
end

/-! ### the judgements -/
def ED (X : Cx) (δ : En) (e : Expr) (d : PyData) : Prop := ∀ H0 H σ, St0 X.K H0 H σ δ → ∀ Q : VK, (∀ v H2, Ex H H2 → Rp X.K H2 v d → Q v H2) → bE X e σ H Q
def TD (X : Cx) (δ : En) (e : Expr) (b : Bool) : Prop := ∀ H0 H σ, St0 X.K H0 H σ δ → ∀ Q : Bool → Hp → Prop, (∀ H2, Ex H H2 → Q b H2) → bT X e σ H Q
def WD (X : Cx) (δ : En) (e : Expr) (b : Bool) : Prop := ∀ H0 H σ, St0 X.K H0 H σ δ → ∀ Q : Bool → Hp → Prop, (∀ H2, Ex H H2 → Q b H2) → bW X e σ H Q
def AD (X : Cx) (δ : En) (es : List Expr) (ds : List PyData) : Prop := ∀ H0 H σ, St0 X.K H0 H σ δ → ∀ Q : List V → Hp → Prop, (∀ vs H2, Ex H H2 → RpAll X.K H2 vs ds → Q vs H2) → bA X es σ H Q
inductive Oc where
  | nx (δ : En) | rt (d : PyData) | fin (R : Hp → Hp → Prop)
def Oc.ok (K : PySem.W.Frag) (H0 : Hp) (D : Ends) : Oc → Prop
  | .nx δ => ∀ σ H, St0 K H0 H σ δ → D.nx σ H
  | .rt d => ∀ v H, Ex H0 H → Rp K H v d → D.rt v H
  | .fin R => ∀ σ H, R H0 H → D.nx σ H
def SD (X : Cx) (δ : En) (st : Stmt) (o : Oc) : Prop := ∀ H0 H σ, St0 X.K H0 H σ δ → ∀ D : Ends, o.ok X.K H0 D → bS X st D σ H
def SDs (X : Cx) (δ : En) (st : List Stmt) (o : Oc) : Prop := ∀ H0 H σ, St0 X.K H0 H σ δ → ∀ D : Ends, o.ok X.K H0 D → bSs X st D σ H
/-- what an iterator gives -/
def JD (K : PySem.W.Frag) (H1 : Hp) (J : It) (ds : List PyData) : Prop := ∀ H, Ex H1 H → (∀ i d, ds[i]? = some d → J.go i H ∧ ∀ x H', J.yld i H x H' → Ex H H' ∧ Rp K H' x d) ∧ J.stop ds.length H
def ID (X : Cx) (δ : En) (tg iter : Expr) (ds : List PyData) : Prop := ∀ H0 H σ, St0 X.K H0 H σ δ → ∀ R : It → Hp → Prop, (∀ J H1, Ex H H1 → JD X.K H1 J ds → R J H1) → bI X tg iter σ H R
/-- .. whatever is written to what the frame itself has made -/
def ID0 (X : Cx) (δ : En) (tg iter : Expr) (ds : List PyData) : Prop := ∀ H0 H σ, St0 X.K H0 H σ δ → ∀ R : It → Hp → Prop, (∀ J H1, Ex H H1 → JD X.K H0 J ds → R J H1) → bI X tg iter σ H R

section
variable {X : Cx} {δ : En} {a b c e : Expr} {es : List Expr} {pos : Pos} {d da db dc : PyData}
theorem ed_is {d' : PyData} (h : ED X δ e d) (q : d = d') : ED X δ e d' := by rw [← q]; exact h
theorem td_is {x y : Bool} (h : TD X δ e x) (q : x = y) : TD X δ e y := by rw [← q]; exact h
theorem ed_weak {δ' : En} (h : ED X δ' e d) (l : leE δ' δ) : ED X δ e d := fun H0 H σ S => h H0 H σ (S.weak l)
theorem ed_of {te : TE} (h : PE X e te) (r : ∀ H0 H σ, St0 X.K H0 H σ δ → ∀ Q : VK, (∀ v H2, Ex H H2 → Rp X.K H2 v d → Q v H2) → te σ H Q) : ED X δ e d := fun H0 H σ S Q q => bE_of h (r H0 H σ S Q q)
theorem td_of {tt : TT} {k : Bool} (h : PT X e tt) (r : ∀ H0 H σ, St0 X.K H0 H σ δ → ∀ Q : Bool → Hp → Prop, (∀ H2, Ex H H2 → Q k H2) → tt σ H Q) : TD X δ e k := fun H0 H σ S Q q => bT_of h (r H0 H σ S Q q)
theorem wd_of {tt : TT} {k : Bool} (h : PW X e tt) (r : ∀ H0 H σ, St0 X.K H0 H σ δ → ∀ Q : Bool → Hp → Prop, (∀ H2, Ex H H2 → Q k H2) → tt σ H Q) : WD X δ e k := fun H0 H σ S Q q => bW_of h (r H0 H σ S Q q)
/-! constants and names -/
theorem ed_int {i : Int} {j : Nat} : ED X δ (.Constant (.int i) j pos) (.int i) := ed_of pe_int fun _ _ _ _ Q q => q _ _ (Ex.refl _) (.int i)
theorem ed_bl {i : Bool} {j : Nat} : ED X δ (.Constant (.bool i) j pos) (.bool i) := ed_of pe_bl fun _ _ _ _ Q q => q _ _ (Ex.refl _) (.bl i)
theorem ed_non {j : Nat} : ED X δ (.Constant .none j pos) .none := ed_of pe_non fun _ _ _ _ Q q => q _ _ (Ex.refl _) .non
theorem ed_var {x : Str} {i : Nat} {s : Sl} (hs : δ[i]? = some (some s)) (hd : s.data = some d) (hN : X.N[i]? = some x := by rfl) (hv : Vis X.env.scope x := by first | exact Or.inl rfl | exact Or.inr (Or.inl rfl) | exact Or.inr (Or.inr rfl))
    (h1 : (x == ("__debug__" : Str)) = false := by decide) (h2 : (x == ("__classdict__" : Str)) = false := by decide) : ED X δ (.Name x pos) d :=
  ed_of (pe_var hN hv h1 h2) fun H0 H σ S Q q => by
    obtain ⟨v, e1, r⟩ := S.get hd hs
    exact ⟨v, e1, q v H (Ex.refl H) r⟩
/-- a module's constant -/
def GC (K : PySem.W.Frag) (mg : Str → Option Value) (x : Str) (d : PyData) : Prop := ∃ v u, mg x = some u ∧ RelV v u ∧ ∀ H, Rp K H v d
theorem ed_gc {x : Str} (h : GC X.K X.mg x d) (hg : Gl X x := by rfl) (hd : (x == ("__debug__" : Str)) = false := by decide) : ED X δ (.Name x pos) d := by
  obtain ⟨v, u, hm, r, q⟩ := h
  exact ed_of (pe_glob hg hm r hd) fun _ H _ _ Q k => k v H (Ex.refl H) (q H)
/-! operators -/
theorem ed_op {r : R2} {e : Expr} (hp : PE X e (tOp r (bE X a) (bE X b))) (ha : ED X δ a da) (hb : ED X δ b db)
    (hr : ∀ x y H, Rp X.K H x da → Rp X.K H y db → ∀ Q : VK, (∀ v H2, Ex H H2 → Rp X.K H2 v d → Q v H2) → r x y H Q) : ED X δ e d :=
  ed_of hp fun H0 H σ S Q q => ha H0 H σ S _ fun x H1 e1 d1 => hb H0 H1 σ (S.mono e1) _ fun y H2 e2 d2 => hr x y H2 (d1.mono e2) d2 Q fun v H3 e3 => q v H3 ((e1.trans e2).trans e3)
theorem ed_i0 {g : Int → Int → V} {i j : Int} {e : Expr} (hp : PE X e (tOp (rI0 g) (bE X a) (bE X b))) (ha : ED X δ a (.int i)) (hb : ED X δ b (.int j)) (hd : ∀ H, Rp X.K H (g i j) d) : ED X δ e d :=
  ed_op hp ha hb fun x y H d1 d2 Q q => ⟨i, j, d1.int_v, d2.int_v, q _ _ (Ex.refl H) (hd H)⟩
theorem ed_i1 {C : Int → Int → Prop} {g : Int → Int → V} {i j : Int} {e : Expr} (hp : PE X e (tOp (rI C g) (bE X a) (bE X b))) (ha : ED X δ a (.int i)) (hb : ED X δ b (.int j)) (hc : C i j) (hd : ∀ H, Rp X.K H (g i j) d) : ED X δ e d :=
  ed_op hp ha hb fun x y H d1 d2 Q q => ⟨i, j, d1.int_v, d2.int_v, hc, q _ _ (Ex.refl H) (hd H)⟩
variable {i j : Int}
theorem ed_add (ha : ED X δ a (.int i)) (hb : ED X δ b (.int j)) : ED X δ (.BinOp a .Add b pos) (.int (i + j)) := ed_i0 (pe_op op_add pe_b pe_b) ha hb fun _ => .int _
theorem ed_sub (ha : ED X δ a (.int i)) (hb : ED X δ b (.int j)) : ED X δ (.BinOp a .Sub b pos) (.int (i - j)) := ed_i0 (pe_op op_sub pe_b pe_b) ha hb fun _ => .int _
theorem ed_mul (ha : ED X δ a (.int i)) (hb : ED X δ b (.int j)) (hc : CMulW i j) : ED X δ (.BinOp a .Mult b pos) (.int (i * j)) := ed_i1 (pe_op op_mulW pe_b pe_b) ha hb hc fun _ => .int _
theorem ed_mulS (ha : ED X δ a (.int i)) (hb : ED X δ b (.int j)) (hc : CMul i j) : ED X δ (.BinOp a .Mult b pos) (.int (i * j)) := ed_i1 (pe_op op_mul pe_b pe_b) ha hb hc fun _ => .int _
theorem ed_div (ha : ED X δ a (.int i)) (hb : ED X δ b (.int j)) (hc : CDivW i j) : ED X δ (.BinOp a .FloorDiv b pos) (.int (i / j)) := ed_i1 (pe_op op_fdivW pe_b pe_b) ha hb hc fun _ => .int _
theorem ed_mod (ha : ED X δ a (.int i)) (hb : ED X δ b (.int j)) (hc : 0 < j) : ED X δ (.BinOp a .Mod b pos) (.int (i % j)) := ed_i1 (pe_op op_mod pe_b pe_b) ha hb hc fun _ => .int _
theorem ed_pow (ha : ED X δ a (.int i)) (hb : ED X δ b (.int j)) (hc : CPow i j) : ED X δ (.BinOp a .Pow b pos) (.int (i ^ j.toNat)) := ed_i1 (pe_op op_pow pe_b pe_b) ha hb hc fun _ => .int _
theorem ed_neg (ha : ED X δ a (.int i)) : ED X δ (.UnaryOp .USub a pos) (.int (-i)) := ed_of (pe_un un_neg pe_b) fun H0 H σ S Q q => ha H0 H σ S _ fun x H1 e1 d1 => ⟨i, d1.int_v, q _ _ e1 (.int _)⟩
theorem ed_lt (ha : ED X δ a (.int i)) (hb : ED X δ b (.int j)) : ED X δ (.Compare a [.Lt] [b] pos) (.bool (decide (i < j))) := ed_i0 (pe_cmpR op_lt pe_b pe_b (nomark _)) ha hb fun _ => .bl _
theorem ed_le (ha : ED X δ a (.int i)) (hb : ED X δ b (.int j)) : ED X δ (.Compare a [.LtE] [b] pos) (.bool (decide (i ≤ j))) := ed_i0 (pe_cmpR op_le pe_b pe_b (nomark _)) ha hb fun _ => .bl _
theorem ed_gt (ha : ED X δ a (.int i)) (hb : ED X δ b (.int j)) : ED X δ (.Compare a [.Gt] [b] pos) (.bool (decide (j < i))) := ed_i0 (pe_cmpR op_gt pe_b pe_b (nomark _)) ha hb fun _ => .bl _
theorem ed_ge (ha : ED X δ a (.int i)) (hb : ED X δ b (.int j)) : ED X δ (.Compare a [.GtE] [b] pos) (.bool (decide (j ≤ i))) := ed_i0 (pe_cmpR op_ge pe_b pe_b (nomark _)) ha hb fun _ => .bl _
theorem ed_eq (hu : X.A.units + 64 < cLine) (ha : ED X δ a da) (hb : ED X δ b db) (s1 : SeqAt.shaped da = true) (s2 : SeqAt.shaped db = true) : ED X δ (.Compare a [.Eq] [b] pos) (.bool (PyData.eqv da db)) :=
  ed_op (pe_cmpR (op_eqD hu) pe_b pe_b (nomark _)) ha hb fun x y H d1 d2 Q q => ⟨da, db, d1.dp _ _ (SeqAt.canLay_of_shaped s1), d2.dp _ _ (SeqAt.canLay_of_shaped s2), s1, s2, q _ _ (Ex.refl H) (.bl _)⟩
theorem ed_ne (hu : X.A.units + 64 < cLine) (ha : ED X δ a da) (hb : ED X δ b db) (s1 : SeqAt.shaped da = true) (s2 : SeqAt.shaped db = true) : ED X δ (.Compare a [.NotEq] [b] pos) (.bool (!PyData.eqv da db)) :=
  ed_op (pe_cmpR (op_neD hu) pe_b pe_b (nomark _)) ha hb fun x y H d1 d2 Q q => ⟨da, db, d1.dp _ _ (SeqAt.canLay_of_shaped s1), d2.dp _ _ (SeqAt.canLay_of_shaped s2), s1, s2, q _ _ (Ex.refl H) (.bl _)⟩
theorem ed_eqI (ha : ED X δ a (.int i)) (hb : ED X δ b (.int j)) : ED X δ (.Compare a [.Eq] [b] pos) (.bool (decide (i = j))) :=
  ed_op (pe_cmpR op_eq pe_b pe_b (nomark _)) ha hb fun x y H d1 d2 Q q => by
    rw [d1.int_v, d2.int_v]
    exact ⟨rfl, q _ _ (Ex.refl H) (by rw [show decide (V.int i = V.int j) = decide (i = j) from decide_eq_decide.mpr ⟨fun z => V.int.inj z, fun z => by rw [z]⟩]; exact .bl _)⟩
theorem ed_neI (ha : ED X δ a (.int i)) (hb : ED X δ b (.int j)) : ED X δ (.Compare a [.NotEq] [b] pos) (.bool (!decide (i = j))) :=
  ed_op (pe_cmpR op_ne pe_b pe_b (nomark _)) ha hb fun x y H d1 d2 Q q => by
    rw [d1.int_v, d2.int_v]
    exact ⟨rfl, q _ _ (Ex.refl H) (by rw [show decide (V.int i = V.int j) = decide (i = j) from decide_eq_decide.mpr ⟨fun z => V.int.inj z, fun z => by rw [z]⟩]; exact .bl _)⟩
theorem ed_neB {i j : Bool} (ha : ED X δ a (.bool i)) (hb : ED X δ b (.bool j)) : ED X δ (.Compare a [.NotEq] [b] pos) (.bool (!decide (i = j))) :=
  ed_op (pe_cmpR op_ne pe_b pe_b (nomark _)) ha hb fun x y H d1 d2 Q q => by
    rw [d1.bl_v, d2.bl_v]
    exact ⟨rfl, q _ _ (Ex.refl H) (by rw [show decide (V.bl i = V.bl j) = decide (i = j) from decide_eq_decide.mpr ⟨fun z => V.bl.inj z, fun z => by rw [z]⟩]; exact .bl _)⟩
theorem ed_neS {i j : Str} (ha : ED X δ a (.str i)) (hb : ED X δ b (.str j)) : ED X δ (.Compare a [.NotEq] [b] pos) (.bool (!decide (i = j))) :=
  ed_op (pe_cmpR op_ne pe_b pe_b (nomark _)) ha hb fun x y H d1 d2 Q q => by
    rw [d1.str_v, d2.str_v]
    exact ⟨rfl, q _ _ (Ex.refl H) (by rw [show decide (V.str i = V.str j) = decide (i = j) from decide_eq_decide.mpr ⟨fun z => V.str.inj z, fun z => by rw [z]⟩]; exact .bl _)⟩
theorem ed_isB {i j : Bool} (ha : ED X δ a (.bool i)) (hb : ED X δ b (.bool j)) : ED X δ (.Compare a [.Is] [b] pos) (.bool (decide (i = j))) :=
  ed_op (pe_cmpR op_isBl pe_b pe_b (nomark _)) ha hb fun x y H d1 d2 Q q => ⟨i, j, d1.bl_v, d2.bl_v, q _ _ (Ex.refl H) (.bl _)⟩
theorem ed_niB {i j : Bool} (ha : ED X δ a (.bool i)) (hb : ED X δ b (.bool j)) : ED X δ (.Compare a [.IsNot] [b] pos) (.bool (!decide (i = j))) :=
  ed_op (pe_cmpR op_notBl pe_b pe_b (nomark _)) ha hb fun x y H d1 d2 Q q => ⟨i, j, d1.bl_v, d2.bl_v, q _ _ (Ex.refl H) (.bl _)⟩
/-- x in a tuple of ints -/
theorem ed_notIn {ns : List Int} (hm : behindInMarks .NotIn b = false) (ha : ED X δ a (.int i)) (hb : ED X δ b (.tuple (ns.map .int))) : ED X δ (.Compare a [.NotIn] [b] pos) (.bool (!ns.any (· == i))) :=
  ed_op (pe_cmpR op_notIn_seq pe_b pe_b hm) ha hb fun x y H d1 d2 Q q => by
    rw [d1.int_v]
    obtain ⟨p, xs, rfl, h1, h2⟩ := d2.tup_v
    have e := h2.ints
    subst e
    refine ⟨p, _, rfl, .inr h1, rfl, by rw [List.all_map]; exact List.all_eq_true.mpr fun _ _ => rfl, q _ _ (Ex.refl H) ?_⟩
    rw [if_pos rfl, show inV (.int i) (ns.map V.int) = ns.any (· == i) by
      unfold inV
      rw [List.any_map]
      rfl]
    exact .bl _
/-! and, or, not, if -/
theorem ed_one {op : BoolOp} (h : ED X δ a d) : ED X δ (.BoolOp op [a] pos) d := ed_of (pe_one pe_b) fun H0 H σ S Q q => h H0 H σ S Q q
theorem ed_and {rest : List Expr} {k : Bool} {l : Bool} (ha : ED X δ a (.bool k)) (hb : k = true → ED X δ (.BoolOp .And (b :: rest) pos) (.bool l)) : ED X δ (.BoolOp .And (a :: b :: rest) pos) (.bool (k && l)) :=
  ed_of (pe_and pe_b pe_b) fun H0 H σ S Q q => ha H0 H σ S _ fun x H1 e1 d1 => ⟨k, d1.bl_v, by
    cases k with
    | true => rw [if_pos rfl]; exact hb rfl H0 H1 σ (S.mono e1) _ fun v H2 e2 => q v H2 (e1.trans e2)
    | false => rw [if_neg Bool.false_ne_true]; exact q _ _ e1 (.bl _)⟩
theorem ed_or {rest : List Expr} {k : Bool} {l : Bool} (ha : ED X δ a (.bool k)) (hb : k = false → ED X δ (.BoolOp .Or (b :: rest) pos) (.bool l)) : ED X δ (.BoolOp .Or (a :: b :: rest) pos) (.bool (k || l)) :=
  ed_of (pe_or pe_b pe_b) fun H0 H σ S Q q => ha H0 H σ S _ fun x H1 e1 d1 => ⟨k, d1.bl_v, by
    cases k with
    | false => rw [if_neg Bool.false_ne_true]; exact hb rfl H0 H1 σ (S.mono e1) _ fun v H2 e2 => q v H2 (e1.trans e2)
    | true => rw [if_pos rfl]; exact q _ _ e1 (.bl _)⟩
theorem ed_not {k : Bool} (ha : ED X δ a (.bool k)) : ED X δ (.UnaryOp .Not a pos) (.bool (!k)) :=
  ed_of (pe_not pe_b) fun H0 H σ S Q q => ha H0 H σ S _ fun x H1 e1 d1 => ⟨k, d1.bl_v, q _ _ e1 (.bl _)⟩
theorem ed_if {k : Bool} (hc : TD X δ c k) (ha : k = true → ED X δ a d) (hb : k = false → ED X δ b d) : ED X δ (.IfExp c a b pos) d :=
  ed_of (pe_ifExp pt_b pe_b pe_b) fun H0 H σ S Q q => hc H0 H σ S _ fun H1 e1 => by
    cases k with
    | true => rw [if_pos rfl]; exact ha rfl H0 H1 σ (S.mono e1) _ fun v H2 e2 => q v H2 (e1.trans e2)
    | false => rw [if_neg Bool.false_ne_true]; exact hb rfl H0 H1 σ (S.mono e1) _ fun v H2 e2 => q v H2 (e1.trans e2)
/-! tests -/
theorem td_val {k : Bool} (h : ED X δ e (.bool k)) (he : ∀ whole, isTrue e X.env whole = (do let v ← whole; standAt e.pos; holding [v] (truthy v)) := by intro _; rfl) : TD X δ e k :=
  td_of (pt_val pe_b he) fun H0 H σ S Q q => h H0 H σ S _ fun v H1 e1 d1 => ⟨k, d1.bl_v, q H1 e1⟩
theorem td_i0 {op : CmpOp} {g : Int → Int → V} {k : Bool} (ho : OpR X (compareOp op) (rI0 g)) (hm : behindInMarks op b = false) (ha : ED X δ a (.int i)) (hb : ED X δ b (.int j)) (hg : g i j = .bl k) : TD X δ (.Compare a [op] [b] pos) k :=
  td_of (pt_cmpR ho pe_b pe_b hm) fun H0 H σ S Q q => ha H0 H σ S _ fun x H1 e1 d1 => hb H0 H1 σ (S.mono e1) _ fun y H2 e2 d2 => ⟨i, j, d1.int_v, d2.int_v, k, hg, q _ (e1.trans e2)⟩
theorem td_lt (ha : ED X δ a (.int i)) (hb : ED X δ b (.int j)) : TD X δ (.Compare a [.Lt] [b] pos) (decide (i < j)) := td_i0 op_lt (nomark _) ha hb rfl
theorem td_le (ha : ED X δ a (.int i)) (hb : ED X δ b (.int j)) : TD X δ (.Compare a [.LtE] [b] pos) (decide (i ≤ j)) := td_i0 op_le (nomark _) ha hb rfl
theorem td_gt (ha : ED X δ a (.int i)) (hb : ED X δ b (.int j)) : TD X δ (.Compare a [.Gt] [b] pos) (decide (j < i)) := td_i0 op_gt (nomark _) ha hb rfl
theorem td_ge (ha : ED X δ a (.int i)) (hb : ED X δ b (.int j)) : TD X δ (.Compare a [.GtE] [b] pos) (decide (j ≤ i)) := td_i0 op_ge (nomark _) ha hb rfl
theorem td_r {op : CmpOp} {r : R2} {k : Bool} (ho : OpR X (compareOp op) r) (hm : behindInMarks op b = false) (ha : ED X δ a da) (hb : ED X δ b db)
    (hr : ∀ x y H, Rp X.K H x da → Rp X.K H y db → ∀ Q : VK, Q (.bl k) H → r x y H Q) : TD X δ (.Compare a [op] [b] pos) k :=
  td_of (pt_cmpR ho pe_b pe_b hm) fun H0 H σ S Q q => ha H0 H σ S _ fun x H1 e1 d1 => hb H0 H1 σ (S.mono e1) _ fun y H2 e2 d2 => hr x y H2 (d1.mono e2) d2 _ ⟨k, rfl, q _ (e1.trans e2)⟩
theorem td_eqI (ha : ED X δ a (.int i)) (hb : ED X δ b (.int j)) : TD X δ (.Compare a [.Eq] [b] pos) (decide (i = j)) :=
  td_r op_eq (nomark _) ha hb fun x y H d1 d2 Q q => by
    rw [d1.int_v, d2.int_v]
    exact ⟨rfl, by rw [show decide (V.int i = V.int j) = decide (i = j) from decide_eq_decide.mpr ⟨fun z => V.int.inj z, fun z => by rw [z]⟩]; exact q⟩
theorem td_neI (ha : ED X δ a (.int i)) (hb : ED X δ b (.int j)) : TD X δ (.Compare a [.NotEq] [b] pos) (!decide (i = j)) :=
  td_r op_ne (nomark _) ha hb fun x y H d1 d2 Q q => by
    rw [d1.int_v, d2.int_v]
    exact ⟨rfl, by rw [show decide (V.int i = V.int j) = decide (i = j) from decide_eq_decide.mpr ⟨fun z => V.int.inj z, fun z => by rw [z]⟩]; exact q⟩
theorem td_neB {i j : Bool} (ha : ED X δ a (.bool i)) (hb : ED X δ b (.bool j)) : TD X δ (.Compare a [.NotEq] [b] pos) (!decide (i = j)) :=
  td_r op_ne (nomark _) ha hb fun x y H d1 d2 Q q => by
    rw [d1.bl_v, d2.bl_v]
    exact ⟨rfl, by rw [show decide (V.bl i = V.bl j) = decide (i = j) from decide_eq_decide.mpr ⟨fun z => V.bl.inj z, fun z => by rw [z]⟩]; exact q⟩
theorem td_neS {i j : Str} (ha : ED X δ a (.str i)) (hb : ED X δ b (.str j)) : TD X δ (.Compare a [.NotEq] [b] pos) (!decide (i = j)) :=
  td_r op_ne (nomark _) ha hb fun x y H d1 d2 Q q => by
    rw [d1.str_v, d2.str_v]
    exact ⟨rfl, by rw [show decide (V.str i = V.str j) = decide (i = j) from decide_eq_decide.mpr ⟨fun z => V.str.inj z, fun z => by rw [z]⟩]; exact q⟩
theorem td_eq (hu : X.A.units + 64 < cLine) (ha : ED X δ a da) (hb : ED X δ b db) (s1 : SeqAt.shaped da = true) (s2 : SeqAt.shaped db = true) : TD X δ (.Compare a [.Eq] [b] pos) (PyData.eqv da db) :=
  td_r (op_eqD hu) (nomark _) ha hb fun x y H d1 d2 Q q => ⟨da, db, d1.dp _ _ (SeqAt.canLay_of_shaped s1), d2.dp _ _ (SeqAt.canLay_of_shaped s2), s1, s2, q⟩
theorem td_ne (hu : X.A.units + 64 < cLine) (ha : ED X δ a da) (hb : ED X δ b db) (s1 : SeqAt.shaped da = true) (s2 : SeqAt.shaped db = true) : TD X δ (.Compare a [.NotEq] [b] pos) (!PyData.eqv da db) :=
  td_r (op_neD hu) (nomark _) ha hb fun x y H d1 d2 Q q => ⟨da, db, d1.dp _ _ (SeqAt.canLay_of_shaped s1), d2.dp _ _ (SeqAt.canLay_of_shaped s2), s1, s2, q⟩
theorem td_niB {i j : Bool} (ha : ED X δ a (.bool i)) (hb : ED X δ b (.bool j)) : TD X δ (.Compare a [.IsNot] [b] pos) (!decide (i = j)) :=
  td_r op_notBl (nomark _) ha hb fun x y H d1 d2 Q q => ⟨i, j, d1.bl_v, d2.bl_v, q⟩
/-- is None of a datum that is told -/
theorem td_isN {j : Nat} {p : Pos} {k : Bool} (ha : ED X δ a da) (hk : ∀ H v, Rp X.K H v da → decide (v = .non) = k) : TD X δ (.Compare a [.Is] [.Constant .none j p] pos) k :=
  td_r (db := .none) op_isN (nomark _) ha ed_non fun x y H d1 d2 Q q => ⟨d2.non_v, by rw [hk H x d1]; exact q⟩
theorem td_notIn {ns : List Int} (hm : behindInMarks .NotIn b = false) (ha : ED X δ a (.int i)) (hb : ED X δ b (.tuple (ns.map .int))) : TD X δ (.Compare a [.NotIn] [b] pos) (!ns.any (· == i)) :=
  td_r op_notIn_seq hm ha hb fun x y H d1 d2 Q q => by
    rw [d1.int_v]
    obtain ⟨p, xs, rfl, h1, h2⟩ := d2.tup_v
    have e := h2.ints
    subst e
    refine ⟨p, _, rfl, .inr h1, rfl, by rw [List.all_map]; exact List.all_eq_true.mpr fun _ _ => rfl, ?_⟩
    rw [if_pos rfl, show inV (.int i) (ns.map V.int) = ns.any (· == i) by
      unfold inV
      rw [List.any_map]
      rfl]
    exact q
theorem td_not {k : Bool} (h : TD X δ e k) : TD X δ (.UnaryOp .Not e pos) (!k) := td_of (pt_not pt_b) fun H0 H σ S Q q => h H0 H σ S _ q
theorem td_w {k : Bool} (h : WD X δ e k) : TD X δ e k := td_of pw_b.pt fun H0 H σ S Q q => h H0 H σ S Q q
theorem wd_and1 {k : Bool} (h : TD X δ a k) : WD X δ (.BoolOp .And [a] pos) k := wd_of (pw_and1 pt_b) fun H0 H σ S Q q => h H0 H σ S Q q
theorem wd_or1 {k : Bool} (h : TD X δ a k) : WD X δ (.BoolOp .Or [a] pos) k := wd_of (pw_or1 pt_b) fun H0 H σ S Q q => h H0 H σ S Q q
theorem wd_and {rest : List Expr} {k l : Bool} (ha : TD X δ a k) (hb : k = true → WD X δ (.BoolOp .And (b :: rest) pos) l) : WD X δ (.BoolOp .And (a :: b :: rest) pos) (k && l) :=
  wd_of (pw_and pt_b pw_b) fun H0 H σ S Q q => ha H0 H σ S _ fun H1 e1 => by
    cases k with
    | true => rw [if_pos rfl]; exact hb rfl H0 H1 σ (S.mono e1) _ fun H2 e2 => q H2 (e1.trans e2)
    | false => rw [if_neg Bool.false_ne_true]; exact q _ e1
theorem wd_or {rest : List Expr} {k l : Bool} (ha : TD X δ a k) (hb : k = false → WD X δ (.BoolOp .Or (b :: rest) pos) l) : WD X δ (.BoolOp .Or (a :: b :: rest) pos) (k || l) :=
  wd_of (pw_or pt_b pw_b) fun H0 H σ S Q q => ha H0 H σ S _ fun H1 e1 => by
    cases k with
    | false => rw [if_neg Bool.false_ne_true]; exact hb rfl H0 H1 σ (S.mono e1) _ fun H2 e2 => q H2 (e1.trans e2)
    | true => rw [if_pos rfl]; exact q _ e1
theorem wd_is {k l : Bool} (h : WD X δ e k) (q : k = l) : WD X δ e l := by rw [← q]; exact h
/-! arguments -/
theorem ad_nil : AD X δ [] [] := fun H0 H σ S Q q => bA_of pa_nil (q [] H (Ex.refl H) .nil)
theorem ad_cons {ds : List PyData} (h : ED X δ e d) (hr : AD X δ es ds) (hs : starEach (e :: es) X.env = (false, eval e X.env) :: starEach es X.env := by rfl) : AD X δ (e :: es) (d :: ds) := fun H0 H σ S Q q =>
  bA_of (pa_cons pe_b pa_b hs) (h H0 H σ S _ fun v H1 e1 d1 => hr H0 H1 σ (S.mono e1) _ fun vs H2 e2 d2 => q _ _ (e1.trans e2) (.cons (d1.mono e2) d2))
/-! displays -/
theorem ed_tup {x1 : Nat} {ds : List PyData} (h : AD X δ es ds) (hl : ds.length ≤ 100000 := by exact Nat.le_of_ble_eq_true rfl) : ED X δ (.Tuple es x1 pos) (.tuple ds) :=
  ed_of (pe_tup pa_b) fun H0 H σ S Q q => h H0 H σ S _ fun vs H1 e1 d1 => ⟨by rw [d1.length]; exact Evl.sz_of hl, fun p hp => q _ _ (e1.trans (Ex.new hp)) (.tup (SqT.of upd_same) (d1.mono (Ex.new hp)))⟩
theorem ed_lst {ds : List PyData} (h : AD X δ es ds) (hl : ds.length ≤ 100000 := by exact Nat.le_of_ble_eq_true rfl) : ED X δ (.List es pos) (.list ds) :=
  ed_of (pe_lst pa_b) fun H0 H σ S Q q => h H0 H σ S _ fun vs H1 e1 d1 => ⟨by rw [d1.length]; exact Evl.sz_of hl, fun p hp => q _ _ (e1.trans (Ex.new hp)) (.lst upd_same (d1.mono (Ex.new hp)))⟩
/-! subscripts, slices, lists -/
theorem ed_ixT {ds : List PyData} {j : Nat} (ha : ED X δ a (.tuple ds)) (hb : ED X δ b (.int (j : Int))) (hd : ds[j]? = some d) (hs : PlainIx b := by exact fun _ _ => rfl) : ED X δ (.Subscript a b pos) d :=
  ed_op (pe_ix ix_tup pe_b pe_b hs) ha hb fun x y H d1 d2 Q q => by
    obtain ⟨p, xs, rfl, h1, h2⟩ := d1.tup_v
    obtain ⟨v, e1, r⟩ := h2.get j d hd
    exact ⟨p, xs, (j : Int), v, rfl, d2.int_v, h1, atI_nat e1, q v H (Ex.refl H) r⟩
theorem ed_ixL {ds : List PyData} {j : Nat} (ha : ED X δ a (.list ds)) (hb : ED X δ b (.int (j : Int))) (hd : ds[j]? = some d) (hs : PlainIx b := by exact fun _ _ => rfl) : ED X δ (.Subscript a b pos) d :=
  ed_op (pe_ix ix_list pe_b pe_b hs) ha hb fun x y H d1 d2 Q q => by
    obtain ⟨p, xs, rfl, h1, h2⟩ := d1.lst_v
    obtain ⟨v, e1, r⟩ := h2.get j d hd
    exact ⟨p, xs, (j : Int), v, rfl, d2.int_v, SqL.of h1, atI_nat e1, q v H (Ex.refl H) r⟩
theorem ed_ixS {ds : List PyData} {j : Nat} (ha : ED X δ a (scrD ds)) (hb : ED X δ b (.int (j : Int))) (hd : ds[j]? = some d) (hs : PlainIx b := by exact fun _ _ => rfl) : ED X δ (.Subscript a b pos) d :=
  ed_op (pe_ix ix_list pe_b pe_b hs) ha hb fun x y H d1 d2 Q q => by
    obtain ⟨p, xs, rfl, h1, h2⟩ := d1.scr_v
    obtain ⟨v, e1, r⟩ := h2.get j d hd
    exact ⟨p, xs, (j : Int), v, rfl, d2.int_v, h1, atI_nat e1, q v H (Ex.refl H) r⟩
theorem ed_cat {ds es : List PyData} (ha : ED X δ a (.list ds)) (hb : ED X δ b (.list es)) (hl : ds.length + es.length ≤ 100000) : ED X δ (.BinOp a .Add b pos) (.list (ds ++ es)) :=
  ed_op (pe_op op_cat pe_b pe_b) ha hb fun x y H d1 d2 Q q => by
    obtain ⟨p, xs, rfl, h1, h2⟩ := d1.lst_v
    obtain ⟨p', ys, rfl, h3, h4⟩ := d2.lst_v
    exact ⟨p, p', xs, ys, rfl, rfl, h1, h3, by rw [h2.length, h4.length]; exact Evl.sz_of hl, fun l hl => q _ _ (Ex.new hl) (.lst upd_same ((h2.append h4).mono (Ex.new hl)))⟩
theorem rep_all {K : PySem.W.Frag} {H : Hp} {v : V} (h : Rp K H v d) : ∀ n : Nat, RpAll K H ((List.replicate n [v]).flatten) (List.replicate n d)
  | 0 => .nil
  | n + 1 => .cons h (rep_all h n)
/-- [x] * n -/
theorem ed_rep {n : Nat} (ha : ED X δ a (.list [d])) (hb : ED X δ b (.int (n : Int))) (hl : n ≤ 100000) : ED X δ (.BinOp a .Mult b pos) (.list (List.replicate n d)) :=
  ed_op (pe_op op_rep pe_b pe_b) ha hb fun x y H d1 d2 Q q => by
    obtain ⟨p, xs, rfl, h1, h2⟩ := d1.lst_v
    obtain ⟨v, rfl, r⟩ := h2.one_v
    refine ⟨p, (n : Int), [v], rfl, d2.int_v, h1, by omega, by omega, by rw [Int.toNat_natCast, List.length_singleton, Nat.one_mul]; exact Evl.sz_of hl, fun l hl => q _ _ (Ex.new hl) (.lst upd_same ?_)⟩
    rw [Int.toNat_natCast]
    exact (rep_all r n).mono (Ex.new hl)
end
end G
/-! G2 -/
/-! Own: statements, loops, comprehensions, calls. -/
namespace G
open PySem PySem.Spec PyProof.Rows L2
open Evl (Ex Ex.refl Ex.trans Ex.new Ex.mut ex_rd ex_l ex_t fresh_back)

section
variable {X : Cx} {δ δ1 δ2 δ' : En} {a b c e : Expr} {es : List Expr} {pos : Pos} {d da db dc : PyData} {st : Stmt} {rest sts : List Stmt} {o : Oc}
/-! ### blocks -/
theorem sd_of {ts : TS} (h : PS X st ts) (r : ∀ H0 H σ, St0 X.K H0 H σ δ → ∀ D : Ends, o.ok X.K H0 D → ts D σ H) : SD X δ st o := fun H0 H σ S D k => bS_of h (r H0 H σ S D k)
theorem sds_of {ts : TS} (h : PSs X sts ts) (r : ∀ H0 H σ, St0 X.K H0 H σ δ → ∀ D : Ends, o.ok X.K H0 D → ts D σ H) : SDs X δ sts o := fun H0 H σ S D k => bSs_of h (r H0 H σ S D k)
theorem sds_nil : SDs X δ [] (.nx δ) := sds_of pss_nil fun H0 H σ S D k => k σ H S
theorem sds_cons (h : SD X δ st (.nx δ1)) (r : SDs X δ1 rest o) : SDs X δ (st :: rest) o :=
  sds_of (pss_cons ps_b pss_b) fun H0 H σ S D k => h H0 H σ S { D with nx := bSs X rest D } fun σ' H' S' => r H0 H' σ' S' D k
theorem sds_ret (h : SD X δ st (.rt d)) : SDs X δ (st :: rest) (.rt d) :=
  sds_of (pss_cons ps_b pss_b) fun H0 H σ S D k => h H0 H σ S { D with nx := bSs X rest D } k
theorem sds_one (h : SD X δ st o) : SDs X δ [st] o := sds_of (pss_one ps_b) fun H0 H σ S D k => h H0 H σ S D k
theorem sd_weak (h : SD X δ' st o) (l : leE δ' δ) : SD X δ st o := fun H0 H σ S => h H0 H σ (S.weak l)
theorem sds_weak (h : SDs X δ' sts o) (l : leE δ' δ) : SDs X δ sts o := fun H0 H σ S => h H0 H σ (S.weak l)
theorem sd_out (h : SD X δ st (.nx δ1)) (l : leE δ2 δ1) : SD X δ st (.nx δ2) := fun H0 H σ S D k => h H0 H σ S D fun σ' H' S' => k σ' H' (S'.weak l)
theorem sds_out (h : SDs X δ sts (.nx δ1)) (l : leE δ2 δ1) : SDs X δ sts (.nx δ2) := fun H0 H σ S D k => h H0 H σ S D fun σ' H' S' => k σ' H' (S'.weak l)
theorem sd_is {o' : Oc} (h : SD X δ st o) (q : o = o') : SD X δ st o' := by rw [← q]; exact h
theorem sds_is {o' : Oc} (h : SDs X δ sts o) (q : o = o') : SDs X δ sts o' := by rw [← q]; exact h
/-! ### simple statements -/
theorem sd_ret (h : ED X δ e d) : SD X δ (.Return (some e) pos) (.rt d) := sd_of (ps_ret pe_b) fun H0 H σ S D k => h H0 H σ S _ fun v H2 e2 r => k v H2 (S.ex.trans e2) r
theorem sd_expr (h : ED X δ e d) (hs : swapsWith e none pos.line X.env = pure false := by rfl) : SD X δ (.Expr e pos) (.nx δ) := sd_of (ps_expr pe_b hs) fun H0 H σ S D k => h H0 H σ S _ fun v H2 e2 r => k σ H2 (S.mono e2)
theorem sd_if {k : Bool} {p q : List Stmt} (hc : TD X δ c k) (h1 : k = true → SDs X δ p o) (h2 : k = false → SDs X δ q o) : SD X δ (.If c p q pos) o :=
  sd_of (ps_if pt_b pss_b pss_b) fun H0 H σ S D w => hc H0 H σ S _ fun H1 e1 => by
    cases k with
    | true => rw [if_pos rfl]; exact h1 rfl H0 H1 σ (S.mono e1) D w
    | false => rw [if_neg Bool.false_ne_true]; exact h2 rfl H0 H1 σ (S.mono e1) D w
/-- an if that isn't taken -/
theorem sd_no {p : List Stmt} (hc : TD X δ c false) : SD X δ (.If c p [] pos) (.nx δ) := sd_if hc (fun z => by cases z) fun _ => sds_nil
theorem sd_set {i : Nat} {x : Str} {pos' : Pos} (he : ED X δ e d) (hN : X.N.Nodup) (hi : X.N[i]? = some x := by rfl) (hx : Loc X.env.scope x := by first | exact Or.inl rfl | exact Or.inr rfl) (hs : swapsWith e (some (.Name x pos')) pos.line X.env = pure false := by rfl)
    (hf : X.fn x = true ∨ X.env.scope.names.lookup x = some .local := by first | exact .inl rfl | exact .inr rfl) : SD X δ (.Assign [.Name x pos'] e pos) (.nx (δ.set i (some (.dat d)))) :=
  sd_of (ps_set hN hi hx pe_b hs hf) fun H0 H σ S D k => he H0 H σ S _ fun v H2 e2 r => k _ H2 ((S.mono e2).set i (s := .dat d) r)
/-- a, b = x, y: two local names -/
theorem sd_par {i j : Nat} {x y : Str} {px py pt : Pos} {kt k2 pt2} {d1 d2 : PyData} (ha : AD X δ [a, b] [d1, d2]) (hN : X.N.Nodup) (hc : X.calm = true := by rfl) (hi : X.N[i]? = some x := by rfl) (hj : X.N[j]? = some y := by rfl) (hij : i ≠ j := by decide)
    (hx : X.env.scope.names.lookup x = some .local := by rfl) (hy : X.env.scope.names.lookup y = some .local := by rfl) (hw : swappedStores [.Tuple [.Name x px, .Name y py] kt pt] (.Tuple [a, b] k2 pt2) X.env = pure (some [x, y]) := by rfl)
    (hs : swapsWithSole [.Tuple [.Name x px, .Name y py] kt pt] (.Tuple [a, b] k2 pt2) pos.line X.env = pure false := by rfl) :
    SD X δ (.Assign [.Tuple [.Name x px, .Name y py] kt pt] (.Tuple [a, b] k2 pt2) pos) (.nx ((δ.set i (some (.dat d1))).set j (some (.dat d2)))) :=
  sd_of (ps_par hc hN hi hj hij hx hy pa_b hw hs) fun H0 H σ S D k => ha H0 H σ S _ fun vs H2 e2 r => by
    obtain ⟨v, w, rfl, r1, r2⟩ := r.two_v
    exact ⟨v, w, rfl, k _ H2 (((S.mono e2).set i (s := .dat d1) r1).set j (s := .dat d2) r2)⟩
/-- a, b = t, stored through the tuple -/
theorem sd_unp {i j : Nat} {x y : Str} {px py pt : Pos} {kt} {d1 d2 : PyData} (ha : ED X δ e (.tuple [d1, d2])) (hN : X.N.Nodup) (hc : X.calm = true := by rfl) (hi : X.N[i]? = some x := by rfl) (hj : X.N[j]? = some y := by rfl)
    (hg : PG X (.Tuple [.Name x px, .Name y py] kt pt) (gTup X.K 2 (gCons (gName i) (gCons (gName j) gNil))))
    (hs : swapsWithSole [.Tuple [.Name x px, .Name y py] kt pt] e pos.line X.env = pure false := by rfl) (hw : swappedStores [.Tuple [.Name x px, .Name y py] kt pt] e X.env = pure none := by rfl)
    (h1 : (assignEach [.Tuple [.Name x px, .Name y py] kt pt] X.env).map (·.2) = [assign (.Tuple [.Name x px, .Name y py] kt pt) X.env] := by rfl) :
    SD X δ (.Assign [.Tuple [.Name x px, .Name y py] kt pt] e pos) (.nx ((δ.set i (some (.dat d1))).set j (some (.dat d2)))) :=
  sd_of (ps_asg pe_b hg hs hw h1) fun H0 H σ S D k => ha H0 H σ S _ fun v H2 e2 r => by
    obtain ⟨p, xs, rfl, h2, h3⟩ := r.tup_v
    obtain ⟨v1, v2, rfl, r1, r2⟩ := h3.two_v
    exact ⟨p, [v1, v2], rfl, h2, rfl, v1, [v2], rfl, v2, [], rfl, rfl, k _ H2 (((S.mono e2).set i (s := .dat d1) r1).set j (s := .dat d2) r2)⟩

/-! ### what is walked -/
theorem id_of {tg iter : Expr} {ti : TI} {ds : List PyData} (h : PI X tg iter ti) (r : ∀ H0 H σ, St0 X.K H0 H σ δ → ∀ R : It → Hp → Prop, (∀ J H1, Ex H H1 → JD X.K H1 J ds → R J H1) → ti σ H R) : ID X δ tg iter ds := fun H0 H σ S R q => bI_of h (r H0 H σ S R q)
theorem jd_list {K : PySem.W.Frag} {H1 : Hp} {p : Addr} {xs : List V} {ds : List PyData} (h : SqL K H1 p xs) (r : RpAll K H1 xs ds) : JD K H1 (Itl K p) ds := fun H e => by
  refine ⟨fun i d hd => ?_, ⟨xs, ex_l e h, by rw [r.length]; exact Nat.le_refl _⟩⟩
  obtain ⟨v, hv, rv⟩ := r.get i d hd
  refine ⟨⟨xs, v, ex_l e h, hv⟩, fun x H' y => ?_⟩
  obtain ⟨rfl, y⟩ := y
  have := y xs (ex_l e h)
  rw [hv] at this
  cases this
  exact ⟨Ex.refl _, rv.mono e⟩
theorem jd_tup {K : PySem.W.Frag} {H1 : Hp} {p : Addr} {xs : List V} {ds : List PyData} (h : SqT K H1 p xs) (r : RpAll K H1 xs ds) : JD K H1 (Itt K p) ds := fun H e => by
  refine ⟨fun i d hd => ?_, ⟨xs, ex_t e h, by rw [r.length]; exact Nat.le_refl _⟩⟩
  obtain ⟨v, hv, rv⟩ := r.get i d hd
  refine ⟨⟨xs, v, ex_t e h, hv⟩, fun x H' y => ?_⟩
  obtain ⟨rfl, y⟩ := y
  have := y xs (ex_t e h)
  rw [hv] at this
  cases this
  exact ⟨Ex.refl _, rv.mono e⟩
/-- lo, lo + 1, .. -/
def rgD (lo : Int) (n : Nat) : List PyData := (List.range n).map fun i => .int (lo + (i : Nat))
theorem rgD_len (lo : Int) (n : Nat) : (rgD lo n).length = n := by unfold rgD; rw [List.length_map, List.length_range]
theorem rgD_get {lo : Int} {n i : Nat} {d : PyData} (h : (rgD lo n)[i]? = some d) : i < n ∧ d = .int (lo + (i : Nat)) := by
  have hi : i < n := by rw [← rgD_len lo n]; exact (List.getElem?_eq_some_iff.mp h).1
  unfold rgD at h
  rw [List.getElem?_map, List.getElem?_range hi] at h
  exact ⟨hi, (Option.some.inj h).symm⟩
theorem jd_rng {K : PySem.W.Frag} {H1 : Hp} {lo : Int} {n : Nat} : JD K H1 (Itr lo n) (rgD lo n) := fun H e => by
  refine ⟨fun i d hd => ?_, by rw [rgD_len]; exact Nat.le_refl _⟩
  obtain ⟨hi, rfl⟩ := rgD_get hd
  refine ⟨hi, fun x H' y => ?_⟩
  obtain ⟨rfl, rfl⟩ := y
  exact ⟨Ex.refl _, .int _⟩
theorem id_list {tg : Expr} {ds : List PyData} (h : ED X δ e (.list ds)) : ID X δ tg e ds := id_of (pi_list pe_b) fun H0 H σ S R q => h H0 H σ S _ fun v H1 e1 r => by
  obtain ⟨p, xs, rfl, h1, h2⟩ := r.lst_v
  exact ⟨p, rfl, ⟨xs, SqL.of h1⟩, q _ _ e1 (jd_list (SqL.of h1) h2)⟩
theorem id_tup {tg : Expr} {ds : List PyData} (h : ED X δ e (.tuple ds)) : ID X δ tg e ds := id_of (pi_tup pe_b) fun H0 H σ S R q => h H0 H σ S _ fun v H1 e1 r => by
  obtain ⟨p, xs, rfl, h1, h2⟩ := r.tup_v
  exact ⟨p, rfl, ⟨xs, h1⟩, q _ _ e1 (jd_tup h1 h2)⟩
theorem id_rng1 {tg : Expr} {n : Nat} {p : Pos} (h : AD X δ [a] [.int (n : Int)]) (hn : n ≤ 100000) (hm : X.mg "range" = none) (hg : Gl X "range" := by rfl) (hs : starEach [a] X.env = [(false, eval a X.env)] := by rfl) : ID X δ tg (.Call (.Name "range" p) [a] [] pos) (rgD 0 n) :=
  id_of (pi_range1 hg hm pa_b hs) fun H0 H σ S R q => h H0 H σ S _ fun vs H1 e1 r => by
    obtain ⟨v, rfl, r1⟩ := r.one_v
    refine ⟨(n : Int), by rw [r1.int_v], by omega, by omega, q _ _ e1 ?_⟩
    rw [Int.toNat_natCast]
    exact jd_rng
theorem id_rng2 {tg : Expr} {lo hi : Int} {p : Pos} (h : AD X δ [a, b] [.int lo, .int hi]) (hn : 0 ≤ lo ∧ lo ≤ 100000 ∧ -100000 ≤ hi ∧ hi ≤ 100000) (hm : X.mg "range" = none) (hg : Gl X "range" := by rfl)
    (hs : starEach [a, b] X.env = [(false, eval a X.env), (false, eval b X.env)] := by rfl) (hs2 : starEach [b] X.env = [(false, eval b X.env)] := by rfl) : ID X δ tg (.Call (.Name "range" p) [a, b] [] pos) (rgD lo (hi - lo).toNat) :=
  id_of (pi_range2 hg hm pa_b hs hs2) fun H0 H σ S R q => h H0 H σ S _ fun vs H1 e1 r => by
    obtain ⟨v, w, rfl, r1, r2⟩ := r.two_v
    exact ⟨lo, hi, by rw [r1.int_v, r2.int_v], ⟨by omega, by omega, by omega, by omega⟩, q _ _ e1 jd_rng⟩
theorem id0_rng1 {tg : Expr} {n : Nat} {p : Pos} (h : AD X δ [a] [.int (n : Int)]) (hn : n ≤ 100000) (hm : X.mg "range" = none) (hg : Gl X "range" := by rfl) (hs : starEach [a] X.env = [(false, eval a X.env)] := by rfl) : ID0 X δ tg (.Call (.Name "range" p) [a] [] pos) (rgD 0 n) :=
  fun H0 H σ S R q => bI_of (pi_range1 hg hm pa_b hs) (h H0 H σ S _ fun vs H1 e1 r => by
    obtain ⟨v, rfl, r1⟩ := r.one_v
    refine ⟨(n : Int), by rw [r1.int_v], by omega, by omega, q _ _ e1 ?_⟩
    rw [Int.toNat_natCast]
    exact jd_rng)
theorem id0_rng2 {tg : Expr} {lo hi : Int} {p : Pos} (h : AD X δ [a, b] [.int lo, .int hi]) (hn : 0 ≤ lo ∧ lo ≤ 100000 ∧ -100000 ≤ hi ∧ hi ≤ 100000) (hm : X.mg "range" = none) (hg : Gl X "range" := by rfl)
    (hs : starEach [a, b] X.env = [(false, eval a X.env), (false, eval b X.env)] := by rfl) (hs2 : starEach [b] X.env = [(false, eval b X.env)] := by rfl) : ID0 X δ tg (.Call (.Name "range" p) [a, b] [] pos) (rgD lo (hi - lo).toNat) :=
  fun H0 H σ S R q => bI_of (pi_range2 hg hm pa_b hs hs2) (h H0 H σ S _ fun vs H1 e1 r => by
    obtain ⟨v, w, rfl, r1, r2⟩ := r.two_v
    exact ⟨lo, hi, by rw [r1.int_v, r2.int_v], ⟨by omega, by omega, by omega, by omega⟩, q _ _ e1 jd_rng⟩)
theorem id0_arg {tg : Expr} {x : Str} {i : Nat} {ds : List PyData} (hs : δ[i]? = some (some (.arg (.list ds)))) (hN : X.N[i]? = some x := by rfl) (hv : Vis X.env.scope x := by first | exact Or.inl rfl | exact Or.inr (Or.inl rfl) | exact Or.inr (Or.inr rfl))
    (h1 : (x == ("__debug__" : Str)) = false := by decide) (h2 : (x == ("__classdict__" : Str)) = false := by decide) : ID0 X δ tg (.Name x pos) ds :=
  fun H0 H σ S R q => bI_of (pi_list (pe_var hN hv h1 h2)) (by
    obtain ⟨v, e1, r⟩ := S.at_ i _ hs
    obtain ⟨p, xs, rfl, h1, h2⟩ := Rp.lst_v (K := X.K) (H := H0) r
    exact ⟨.ref p, e1, p, rfl, ⟨xs, SqL.of (S.ex _ _ h1)⟩, q _ _ (Ex.refl _) (jd_list (SqL.of h1) h2)⟩)
theorem jd_zip {K : PySem.W.Frag} {H1 : Hp} {p q : Addr} {xs ys : List V} {ds es : List PyData} (hl : ds.length = es.length) (h : SqL K H1 p xs) (r : RpAll K H1 xs ds) (h' : SqL K H1 q ys) (r' : RpAll K H1 ys es) :
    JD K H1 (Itz K p q) (List.zipWith (fun x y => .tuple [x, y]) ds es) := fun H e => by
  refine ⟨fun i d hd => ?_, ⟨xs, ys, ex_l e h, ex_l e h', .inl (by rw [List.length_zipWith, r.length]; omega)⟩⟩
  rw [List.getElem?_zipWith] at hd
  cases e1 : ds[i]? with
  | none => rw [e1] at hd; cases hd
  | some d1 =>
    cases e2 : es[i]? with
    | none => rw [e1, e2] at hd; cases hd
    | some d2 =>
      rw [e1, e2] at hd
      have hd' := Option.some.inj hd
      subst hd'
      obtain ⟨v, hv, rv⟩ := r.get i d1 e1
      obtain ⟨w, hw, rw'⟩ := r'.get i d2 e2
      refine ⟨⟨xs, ys, v, w, ex_l e h, ex_l e h', hv, hw⟩, fun x H' y => ?_⟩
      obtain ⟨T, x1, y1, rfl, hT, rfl, f1, f2⟩ := y
      have g1 := f1 xs (ex_l e h)
      rw [hv] at g1
      cases g1
      have g2 := f2 ys (ex_l e h')
      rw [hw] at g2
      cases g2
      exact ⟨Ex.new hT, .tup (SqT.of upd_same) (.cons ((rv.mono e).mono (Ex.new hT)) (.cons ((rw'.mono e).mono (Ex.new hT)) .nil))⟩
theorem id_zip {elts : List Expr} {kk : Nat} {p tpos : Pos} {ds es : List PyData} (hl : ds.length = es.length) (h : AD X δ [a, b] [.list ds, .list es]) (hm : X.mg "zip" = none) (hg : Gl X "zip" := by rfl)
    (hs : starEach [a, b] X.env = (false, eval a X.env) :: starEach [b] X.env := by rfl) (hpl : (backTo pos (starEach [b] X.env)).any (·.1) = false := by rfl) :
    ID X δ (.Tuple elts kk tpos) (.Call (.Name "zip" p) [a, b] [] pos) (List.zipWith (fun x y => .tuple [x, y]) ds es) :=
  id_of (pi_zip hg hm pa_b hs hpl) fun H0 H σ S R q => h H0 H σ S _ fun vs H1 e1 r => by
    obtain ⟨v, w, rfl, r1, r2⟩ := r.two_v
    obtain ⟨p, xs, rfl, h1, h2⟩ := r1.lst_v
    obtain ⟨p', ys, rfl, h3, h4⟩ := r2.lst_v
    exact ⟨p, p', xs, ys, rfl, SqL.of h1, SqL.of h3, q _ _ e1 (jd_zip hl (SqL.of h1) h2 (SqL.of h3) h4)⟩

/-! ### for, while -/
/-- how a target takes an item -/
def GD (K : PySem.W.Frag) (g : TG) (d : PyData) (δ δ1 : En) : Prop := ∀ H0 H σ x, St0 K H0 H σ δ → Rp K H x d → ∀ Q : L2.St → Hp → Prop, (∀ σ', St0 K H0 H σ' δ1 → Q σ' H) → g x σ H Q
theorem gd_name {K : PySem.W.Frag} {j : Nat} : GD K (gName j) d δ (δ.set j (some (.dat d))) := fun H0 H σ x S r Q q => q _ (S.set j (s := .dat d) r)
theorem gd_pair {K : PySem.W.Frag} {i j : Nat} {d1 d2 : PyData} : GD K (gTup K 2 (gCons (gName i) (gCons (gName j) gNil))) (.tuple [d1, d2]) δ ((δ.set i (some (.dat d1))).set j (some (.dat d2))) := fun H0 H σ x S r Q q => by
  obtain ⟨p, xs, rfl, h2, h3⟩ := r.tup_v
  obtain ⟨v1, v2, rfl, r1, r2⟩ := h3.two_v
  exact ⟨p, [v1, v2], rfl, h2, rfl, v1, [v2], rfl, v2, [], rfl, rfl, q _ ((S.set i (s := .dat d1) r1).set j (s := .dat d2) r2)⟩
theorem for_core {J : It} {ds : List PyData} {H0 H : Hp} {σ : L2.St} {g : TG} {body : List Stmt} {D : Ends} (j : JD X.K H0 J ds) (F : Nat → En) (h0 : St0 X.K H0 H σ (F 0))
    (step : ∀ i d, ds[i]? = some d → ∃ δ1 δ2, GD X.K g d (F i) δ1 ∧ SDs X δ1 body (.nx δ2) ∧ leE (F (i + 1)) δ2) (k : ∀ σ' H', St0 X.K H0 H' σ' (F ds.length) → D.nx σ' H') :
    ∃ W : Nat → Nat → L2.St → Hp → Prop, (∃ m, W 0 m σ H) ∧ ∀ i m σ H, W i m σ H →
      (J.stop i H ∧ D.nx σ H) ∨ (J.go i H ∧ ∃ N : L2.St → Hp → Prop, (∀ σ' H', N σ' H' → ∃ m', m' < m ∧ W (i + 1) m' σ' H') ∧ ∀ x H', J.yld i H x H' → g x σ H' fun σ2 H2 => bSs X body { D with nx := N, ct := N, bk := D.nx } σ2 H2) := by
  refine ⟨fun i m σ H => m = ds.length - i ∧ i ≤ ds.length ∧ St0 X.K H0 H σ (F i), ⟨ds.length, by simp, Nat.zero_le _, h0⟩, ?_⟩
  rintro i m σ1 H1 ⟨rfl, hi, S⟩
  by_cases hlt : i < ds.length
  · have hd : ds[i]? = some ds[i] := List.getElem?_eq_getElem hlt
    obtain ⟨go, y⟩ := (j H1 S.ex).1 i _ hd
    obtain ⟨δ1, δ2, hg, hb, hl⟩ := step i _ hd
    refine .inr ⟨go, fun σ' H' => St0 X.K H0 H' σ' (F (i + 1)), fun σ' H' S' => ⟨ds.length - (i + 1), by omega, rfl, hlt, S'⟩, fun x H' hx => ?_⟩
    obtain ⟨e2, r⟩ := y x H' hx
    exact hg H0 H' σ1 x (S.mono e2) r _ fun σ' S' => hb H0 H' σ' S' _ fun σ'' H'' S'' => S''.weak hl
  · have e : i = ds.length := by omega
    subst e
    exact .inl ⟨(j H1 S.ex).2, k σ1 H1 S⟩
def allDat : En → Bool
  | [] => true
  | none :: r => allDat r
  | some (.dat _) :: r => allDat r
  | _ :: _ => false
theorem allDat.get : ∀ {δ : En}, allDat δ = true → ∀ (i : Nat) (s : Sl), δ[i]? = some (some s) → ∃ d, s = .dat d
  | [], _, i, s, h => by simp at h
  | none :: r, _, 0, s, h => by cases h
  | none :: r, h0, i + 1, s, h => allDat.get (δ := r) (by simpa only [allDat] using h0) i s h
  | some (.dat d) :: r, h0, 0, s, h => by cases h; exact ⟨d, rfl⟩
  | some (.dat d) :: r, h0, i + 1, s, h => allDat.get (δ := r) (by simpa only [allDat] using h0) i s h
  | some (.arg d) :: r, h0, _, s, h => by simp only [allDat] at h0; cases h0
  | some (.own d) :: r, h0, _, s, h => by simp only [allDat] at h0; cases h0
  | some (.obj d) :: r, h0, _, s, h => by simp only [allDat] at h0; cases h0
theorem St0.rebase {K : PySem.W.Frag} {H0 H1 H : Hp} {σ : L2.St} (S : St0 K H0 H σ δ) (ha : allDat δ = true) (e : Ex H1 H) : St0 K H1 H σ δ :=
  ⟨e, S.len, fun i s h => by
    obtain ⟨d, rfl⟩ := allDat.get ha i s h
    exact S.at_ i _ h⟩
theorem sd_forG {tg iter : Expr} {body : List Stmt} {ds : List PyData} {g : TG} (src : ID X δ tg iter ds) (hg : PG X tg g) (F : Nat → En) (h0 : leE (F 0) δ) (ha : ∀ i, allDat (F i) = true)
    (step : ∀ i d, ds[i]? = some d → ∃ δ1 δ2, GD X.K g d (F i) δ1 ∧ SDs X δ1 body (.nx δ2) ∧ leE (F (i + 1)) δ2)
    (hc : X.calm = true := by rfl) (hp : PassesOwn (model X.prog X.w) X.A X.env X.xe := by exact PassesOwn.never) (hs : ∀ x, foldedSetIterable iter X.env x = pure x := by intro _; rfl) : SD X δ (.For tg iter body [] pos) (.nx (F ds.length)) :=
  sd_of (ps_for hp hc pi_b hg pss_b hs) fun H0 H σ S D k => src H0 H σ S _ fun J H1 e1 j =>
    for_core j F (((S.weak h0).mono e1).rebase (ha 0) (Ex.refl _)) step fun σ' H' S' => k σ' H' (S'.rebase (ha _) ((S.ex.trans e1).trans S'.ex))
theorem sd_for0G {tg iter : Expr} {body : List Stmt} {ds : List PyData} {g : TG} (src : ID0 X δ tg iter ds) (hg : PG X tg g) (F : Nat → En) (h0 : leE (F 0) δ)
    (step : ∀ i d, ds[i]? = some d → ∃ δ1 δ2, GD X.K g d (F i) δ1 ∧ SDs X δ1 body (.nx δ2) ∧ leE (F (i + 1)) δ2)
    (hc : X.calm = true := by rfl) (hp : PassesOwn (model X.prog X.w) X.A X.env X.xe := by exact PassesOwn.never) (hs : ∀ x, foldedSetIterable iter X.env x = pure x := by intro _; rfl) : SD X δ (.For tg iter body [] pos) (.nx (F ds.length)) :=
  sd_of (ps_for hp hc pi_b hg pss_b hs) fun H0 H σ S D k => src H0 H σ S _ fun J H1 e1 j =>
    for_core j F ((S.weak h0).mono e1) step k
theorem sd_while {body : List Stmt} (F : Nat → En) (n : Nat) (h0 : leE (F 0) δ) (step : ∀ i, i < n → TD X (F i) c true ∧ ∃ δ2, SDs X (F i) body (.nx δ2) ∧ leE (F (i + 1)) δ2) (fin : TD X (F n) c false)
    (hp : PassesOwn (model X.prog X.w) X.A X.env X.xe := by exact PassesOwn.never) : SD X δ (.While c body [] pos) (.nx (F n)) :=
  sd_of (ps_while hp pt_b pss_b) fun H0 H σ S D k => by
    refine ⟨fun m σ' H' => ∃ i, i ≤ n ∧ m = n - i ∧ St0 X.K H0 H' σ' (F i), ⟨n, 0, Nat.zero_le _, by omega, S.weak h0⟩, ?_⟩
    rintro m σ1 H1 ⟨i, hi, rfl, S1⟩
    by_cases hlt : i < n
    · obtain ⟨t, δ2, hb, hl⟩ := step i hlt
      refine t H0 H1 σ1 S1 _ fun H2 e2 => ?_
      rw [if_pos rfl]
      exact ⟨fun σ' H' => St0 X.K H0 H' σ' (F (i + 1)), fun σ' H' S' => ⟨n - (i + 1), by omega, i + 1, hlt, rfl, S'⟩, hb H0 H2 σ1 (S1.mono e2) _ fun σ' H' S' => S'.weak hl⟩
    · have e : i = n := by omega
      subst e
      refine fin H0 H1 σ1 S1 _ fun H2 e2 => ?_
      rw [if_neg Bool.false_ne_true]
      exact k σ1 H2 (S1.mono e2)

/-! ### own lists -/
/-- all but the own list may be read behind a write -/
def calmE : En → Nat → Bool
  | [], _ => true
  | some (.dat d) :: r, 0 => false
  | some (.arg d) :: r, 0 => false
  | some (.obj _) :: _, _ => false
  | _ :: r, 0 => calmE' r
  | some (.dat d) :: r, n + 1 => lf d && calmE r n
  | some (.own _) :: _, _ + 1 => false
  | _ :: r, n + 1 => calmE r n
where calmE' : En → Bool
  | [] => true
  | some (.dat d) :: r => lf d && calmE' r
  | some (.own _) :: _ => false
  | some (.obj _) :: _ => false
  | _ :: r => calmE' r
theorem calm' : ∀ {δ : En}, calmE.calmE' δ = true → ∀ (j : Nat) (s : Sl), δ[j]? = some (some s) → (∃ d, s = .dat d ∧ lf d = true) ∨ ∃ d, s = .arg d
  | [], _, _, _, h => by simp at h
  | none :: r, h0, 0, s, h => by cases h
  | none :: r, h0, j + 1, s, h => calm' (δ := r) (by simpa only [calmE.calmE'] using h0) j s h
  | some (.dat d) :: r, h0, 0, s, h => by
    cases h
    have q : lf d = true ∧ calmE.calmE' r = true := by simpa only [calmE.calmE', Bool.and_eq_true] using h0
    exact .inl ⟨d, rfl, q.1⟩
  | some (.dat d) :: r, h0, j + 1, s, h => by
    have q : lf d = true ∧ calmE.calmE' r = true := by simpa only [calmE.calmE', Bool.and_eq_true] using h0
    exact calm' (δ := r) q.2 j s h
  | some (.arg d) :: r, h0, 0, s, h => by cases h; exact .inr ⟨d, rfl⟩
  | some (.arg d) :: r, h0, j + 1, s, h => calm' (δ := r) (by simpa only [calmE.calmE'] using h0) j s h
  | some (.own d) :: r, h0, _, s, h => by simp only [calmE.calmE'] at h0; cases h0
  | some (.obj d) :: r, h0, _, s, h => by simp only [calmE.calmE'] at h0; cases h0
theorem calm_get : ∀ {δ : En} {i : Nat}, calmE δ i = true → ∀ (j : Nat) (s : Sl), j ≠ i → δ[j]? = some (some s) → (∃ d, s = .dat d ∧ lf d = true) ∨ ∃ d, s = .arg d
  | [], _, _, _, _, _, h => by simp at h
  | some (.dat d) :: r, 0, h0, _, _, _, h => by simp only [calmE] at h0; cases h0
  | some (.arg d) :: r, 0, h0, _, _, _, h => by simp only [calmE] at h0; cases h0
  | some (.own d) :: r, 0, h0, 0, s, ne, h => absurd rfl ne
  | none :: r, 0, h0, 0, s, ne, h => absurd rfl ne
  | some (.own d) :: r, 0, h0, j + 1, s, ne, h => calm' (δ := r) (by simpa only [calmE] using h0) j s h
  | none :: r, 0, h0, j + 1, s, ne, h => calm' (δ := r) (by simpa only [calmE] using h0) j s h
  | some (.dat d) :: r, i + 1, h0, 0, s, ne, h => by
    cases h
    have q : lf d = true ∧ calmE r i = true := by simpa only [calmE, Bool.and_eq_true] using h0
    exact .inl ⟨d, rfl, q.1⟩
  | some (.dat d) :: r, i + 1, h0, j + 1, s, ne, h => by
    have q : lf d = true ∧ calmE r i = true := by simpa only [calmE, Bool.and_eq_true] using h0
    exact calm_get (δ := r) q.2 j s (fun z => ne (by rw [z])) h
  | some (.arg d) :: r, i + 1, h0, 0, s, ne, h => by cases h; exact .inr ⟨d, rfl⟩
  | some (.arg d) :: r, i + 1, h0, j + 1, s, ne, h => calm_get (δ := r) (by simpa only [calmE] using h0) j s (fun z => ne (by rw [z])) h
  | none :: r, i + 1, h0, 0, s, ne, h => by cases h
  | none :: r, i + 1, h0, j + 1, s, ne, h => calm_get (δ := r) (by simpa only [calmE] using h0) j s (fun z => ne (by rw [z])) h
  | some (.own d) :: r, i + 1, h0, _, s, ne, h => by simp only [calmE] at h0; cases h0
  | some (.obj d) :: r, 0, h0, _, s, ne, h => by simp only [calmE] at h0; cases h0
  | some (.obj d) :: r, i + 1, h0, _, s, ne, h => by simp only [calmE] at h0; cases h0
/-- the own list in place i is written -/
theorem St0.write {K : PySem.W.Frag} {H0 H : Hp} {σ : L2.St} {i : Nat} {p : Addr} {xs ys : List V} {ds : List PyData} (S : St0 K H0 H σ δ) (hc : calmE δ i = true) (hi : i < δ.length) (hp0 : H0 p = none) (hp : H p = some (.lst xs)) (hσ : σ[i]? = some (some (.ref p))) (hr : RpAll K H ys ds) (hl : lfAll ds = true) :
    St0 K H0 (upd H p (.lst ys)) σ (δ.set i (some (.own ds))) := by
  refine ⟨S.ex.mut hp0, by simpa using S.len, fun j s e => ?_⟩
  by_cases hij : i = j
  · subst hij
    rw [List.getElem?_set_self hi] at e
    cases e
    exact ⟨.ref p, hσ, p, ys, rfl, hp0, upd_same, Rp.keepTAll (fun _ _ q => sqT_upd hp q) ds ys hl hr, hl⟩
  · rw [List.getElem?_set_ne hij] at e
    obtain ⟨v, e1, r⟩ := S.at_ j s e
    refine ⟨v, e1, ?_⟩
    rcases calm_get hc j s (fun z => hij z.symm) e with ⟨d, rfl, f⟩ | ⟨d, rfl⟩
    · exact Rp.keepT (fun _ _ q => sqT_upd hp q) d v f r
    · exact r
theorem sd_own {i : Nat} {x : Str} {pos' : Pos} {ds : List PyData} {te : TE} (he : PE X e te) (hr : ∀ H0 H σ, St0 X.K H0 H σ δ → ∀ Q : VK, (∀ p xs H2, H p = none → Ex H H2 → H2 p = some (.lst xs) → RpAll X.K H2 xs ds → Q (.ref p) H2) → te σ H Q) (hf : lfAll ds = true) (hN : X.N.Nodup) (hi : X.N[i]? = some x := by rfl)
    (hx : Loc X.env.scope x := by first | exact Or.inl rfl | exact Or.inr rfl) (hs : swapsWith e (some (.Name x pos')) pos.line X.env = pure false := by rfl)
    (hfn : X.fn x = true ∨ X.env.scope.names.lookup x = some .local := by first | exact .inl rfl | exact .inr rfl) : SD X δ (.Assign [.Name x pos'] e pos) (.nx (δ.set i (some (.own ds)))) :=
  sd_of (ps_set hN hi hx he hs hfn) fun H0 H σ S D k => hr H0 H σ S _ fun p xs H2 hp e2 h2 r => k _ H2 ((S.mono e2).set i (s := .own ds) ⟨p, xs, rfl, fresh_back S.ex hp, h2, r, hf⟩)
/-- found.append(e) -/
theorem sd_app {i : Nat} {x : Str} {p1 p2 p3 : Pos} {ds : List PyData} (hi : δ[i]? = some (some (.own ds))) (h : ED X δ e d) (hc : calmE δ i = true) (hf : lf d = true) (hz : ds.length < 100000)
    (hN : X.N[i]? = some x := by rfl) (hv : Vis X.env.scope x := by first | exact Or.inl rfl | exact Or.inr (Or.inl rfl) | exact Or.inr (Or.inr rfl)) (h1 : (x == ("__debug__" : Str)) = false := by decide) (h2 : (x == ("__classdict__" : Str)) = false := by decide)
    (hb : attributeBase (.Name x p1) "append" X.env (eval (.Name x p1) X.env) = eval (.Name x p1) X.env := by rfl) 
    (hfew : ((backTo p3 (starEach [e] X.env)).all (fun x => !x.1) && (backToKw p3 (keywordEach [] X.env)).all (fun x => x.1.isSome) && decide ([e].length + ([] : List Keyword).length + (if ([] : List Keyword).isEmpty then 0 else 1) < 30)) = true := by rfl)
    (hline : (p2.endLine == p3.line) = true := by rfl) (hst : starEach [e] X.env = (false, eval e X.env) :: starEach [] X.env := by rfl) (hplain : (backTo p3 (starEach [] X.env)).any (·.1) = false := by rfl)
    (hs : swapsWith (.Call (.Attribute (.Name x p1) "append" p2) [e] [] p3) none pos.line X.env = pure false := by rfl) :
    SD X δ (.Expr (.Call (.Attribute (.Name x p1) "append" p2) [e] [] p3) pos) (.nx (δ.set i (some (.own (ds ++ [d]))))) := by
  have hil : i < δ.length := (List.getElem?_eq_some_iff.mp hi).1
  refine sd_of (ps_expr (pe_bm PySem.F.plainAttrs_list PySem.F.slot_list_append PySem.F.type_list_append mt_append (pe_var hN hv h1 h2) (pa_cons pe_b pa_nil hst) hb hfew hline hst hplain) hs) fun H0 H σ S D k => ?_
  obtain ⟨v, e1, p, xs, rfl, hp0, hp, r, hl⟩ := S.at_ i _ hi
  refine ⟨.ref p, e1, .inl ⟨rfl, xs, SqL.of hp⟩, h H0 H σ S _ fun w H2 e2 rw' => ?_⟩
  refine ⟨p, xs, w, rfl, rfl, e2 _ _ hp, by rw [r.length]; exact Evl.sz_lt hz, k σ _ ?_⟩
  refine (S.mono e2).write hc hil hp0 (e2 _ _ hp) e1 ((r.mono e2).append (.cons rw' .nil)) ?_
  clear hi hz S r k hp hc
  induction ds with
  | nil => simp only [List.nil_append, lfAll, hf, Bool.and_self]
  | cons y ys ih =>
    have q : lf y = true ∧ lfAll ys = true := by simpa only [lfAll, Bool.and_eq_true] using hl
    simp only [List.cons_append, lfAll, q.1, ih q.2, Bool.and_self]
theorem lfAll_set : ∀ {ds : List PyData} (j : Nat), lfAll ds = true → lf d = true → lfAll (ds.set j d) = true
  | [], _, h, _ => h
  | y :: ys, 0, h, f => by
    have q : lf y = true ∧ lfAll ys = true := by simpa only [lfAll, Bool.and_eq_true] using h
    simp only [List.set_cons_zero, lfAll, f, q.2, Bool.and_self]
  | y :: ys, j + 1, h, f => by
    have q : lf y = true ∧ lfAll ys = true := by simpa only [lfAll, Bool.and_eq_true] using h
    simp only [List.set_cons_succ, lfAll, q.1, lfAll_set j q.2 f, Bool.and_self]
/-- found[k] = e -/
theorem sd_seti {i j : Nat} {x : Str} {p1 p2 : Pos} {ds : List PyData} (hi : δ[i]? = some (some (.own ds))) (h : ED X δ e d) (hk : ED X δ b (.int (j : Int))) (hj : j < ds.length) (hc : calmE δ i = true) (hf : lf d = true)
    (hN : X.N[i]? = some x := by rfl) (hv : Vis X.env.scope x := by first | exact Or.inl rfl | exact Or.inr (Or.inl rfl) | exact Or.inr (Or.inr rfl)) (h1 : (x == ("__debug__" : Str)) = false := by decide) (h2 : (x == ("__classdict__" : Str)) = false := by decide)
    (ha : ∀ v, assign (.Subscript (.Name x p1) b p2) X.env v = (do
      let ov ← holding [v] (eval (.Name x p1) X.env)
      let iv ← holding [v, ov] (eval b X.env)
      standAt p2
      holding [v, ov, iv] (setItem ov iv v)
      release [v, ov, iv] []) := by intro _; rfl)
    (hs : swapsWithSole [.Subscript (.Name x p1) b p2] e pos.line X.env = pure false := by rfl) (hw : swappedStores [.Subscript (.Name x p1) b p2] e X.env = pure none := by rfl)
    (h3 : (assignEach [.Subscript (.Name x p1) b p2] X.env).map (·.2) = [assign (.Subscript (.Name x p1) b p2) X.env] := by rfl) :
    SD X δ (.Assign [.Subscript (.Name x p1) b p2] e pos) (.nx (δ.set i (some (.own (ds.set j d))))) := by
  have hil : i < δ.length := (List.getElem?_eq_some_iff.mp hi).1
  refine sd_of (ps_asg pe_b (pg_sub (pe_var hN hv h1 h2) pe_b set_list ha) hs hw h3) fun H0 H σ S D k => h H0 H σ S _ fun w H2 e2 rw' => ?_
  have S2 := S.mono e2
  obtain ⟨v, e1, p, xs, rfl, hp0, hp, r, hl⟩ := S2.at_ i _ hi
  refine ⟨.ref p, e1, hk H0 H2 σ S2 _ fun u H3 e3 ru => ?_⟩
  refine ⟨p, xs, (j : Int), j, rfl, ru.int_v, e3 _ _ hp, Evl.ixN_nat (by rw [r.length]; exact hj), k σ _ ?_⟩
  exact (S2.mono e3).write hc hil hp0 (e3 _ _ hp) e1 ((r.mono e3).set j (rw'.mono e3)) (lfAll_set j hl hf)
end
end G
/-! G3 -/
/-! Own: comprehensions, calls, built-ins, a def's promise. -/
namespace G
open PySem PySem.Spec PyProof.Rows L2
open Evl (Ex Ex.refl Ex.trans Ex.new Ex.mut ex_rd ex_l ex_t fresh_back)

section
variable {X : Cx} {δ δ1 δ2 δ' : En} {a b c e : Expr} {es : List Expr} {pos : Pos} {d da db dc : PyData}
/-! ### comprehensions -/
/-- a reading that leaves a new list of data -/
def RL (K : PySem.W.Frag) (te : TE) (δ : En) (ds : List PyData) : Prop := ∀ H0 H σ, St0 K H0 H σ δ → ∀ Q : VK, (∀ p xs H2, H p = none → Ex H H2 → H2 p = some (.lst xs) → RpAll K H2 xs ds → Q (.ref p) H2) → te σ H Q
theorem take_next {α : Type} {l : List α} {i : Nat} {x : α} (h : l[i]? = some x) : l.take (i + 1) = l.take i ++ [x] := by rw [List.take_add_one, h]; rfl
/-- how a comprehension's target takes an item, and leaves the block's other names -/
def GW (K : PySem.W.Frag) (g : TG) (vs : List Nat) (d : PyData) (δ δ1 : En) : Prop := ∀ H0 H (σ : L2.St) x, St0 K H0 H σ δ → wipe σ vs = σ → Rp K H x d → ∀ Q : L2.St → Hp → Prop, (∀ σ', St0 K H0 H σ' δ1 → wipe σ' vs = σ → Q σ' H) → g x σ H Q
theorem wipe_idem1 (σ : L2.St) (j : Nat) : wipe (wipe σ [j]) [j] = wipe σ [j] := by
  show List.set (List.set σ j none) j none = List.set σ j none
  rw [List.set_set]
theorem gw_name {K : PySem.W.Frag} {j : Nat} : GW K (gName j) [j] d δ (δ.set j (some (.dat d))) := fun H0 H σ x S w r Q q => q _ (S.set j (s := .dat d) r) (by
  unfold wipe wipe at *
  rw [List.set_set]
  exact w)
theorem gw_pair {K : PySem.W.Frag} {i j : Nat} {d1 d2 : PyData} (hij : i ≠ j) : GW K (gTup K 2 (gCons (gName i) (gCons (gName j) gNil))) [i, j] (.tuple [d1, d2]) δ ((δ.set i (some (.dat d1))).set j (some (.dat d2))) := fun H0 H σ x S w r Q q => by
  obtain ⟨p, xs, rfl, h2, h3⟩ := r.tup_v
  obtain ⟨v1, v2, rfl, r1, r2⟩ := h3.two_v
  refine ⟨p, [v1, v2], rfl, h2, rfl, v1, [v2], rfl, v2, [], rfl, rfl, q _ ((S.set i (s := .dat d1) r1).set j (s := .dat d2) r2) ?_⟩
  have w' : List.set (List.set σ j none) i none = σ := w
  show List.set (List.set (List.set (List.set σ i (some v1)) j (some v2)) j none) i none = σ
  rw [List.set_set, List.set_comm _ _ (Ne.symm hij), List.set_set, List.set_comm _ _ hij]
  exact w'
theorem wipe_idem2 (σ : L2.St) {i j : Nat} (hij : i ≠ j) : wipe (wipe σ [i, j]) [i, j] = wipe σ [i, j] := by
  have e1 : List.set (List.set (List.set σ j none) i none) j none = List.set (List.set σ j none) i none := by
    rw [List.set_comm _ _ hij, List.set_set]
  show List.set (List.set (List.set (List.set σ j none) i none) j none) i none = List.set (List.set σ j none) i none
  rw [e1, List.set_set]
theorem lfAll_app : ∀ {zs : List PyData} {z : PyData}, lfAll zs = true → lf z = true → lfAll (zs ++ [z]) = true
  | [], z, _, h => by simp only [List.nil_append, lfAll, h, Bool.and_self]
  | y :: ys, z, h0, h => by
    have q : lf y = true ∧ lfAll ys = true := by simpa only [lfAll, Bool.and_eq_true] using h0
    simp only [List.cons_append, lfAll, q.1, lfAll_app q.2 h, Bool.and_self]
theorem lc_read {tg iter : Expr} {gt : TG} {vs : List Nat} {te : TE} {tt : TT} {ds : List PyData} {f : PyData → Bool} {g : PyData → PyData} (src : ID X δ tg iter ds) (hz : ds.length ≤ 50000) (hv : ∀ σ : L2.St, wipe (wipe σ vs) vs = wipe σ vs)
    (δd : PyData → En) (hg : ∀ d, d ∈ ds → GW X.K gt vs d (wipeE δ vs) (δd d)) (ht : ∀ d, d ∈ ds → ∀ H0 H σ, St0 X.K H0 H σ (δd d) → ∀ Q : Bool → Hp → Prop, (∀ H2, Ex H H2 → Q (f d) H2) → tt σ H Q)
    (he : ∀ d, d ∈ ds → f d = true → ∀ H0 H σ, St0 X.K H0 H σ (δd d) → ∀ Q : VK, (∀ v H2, Ex H H2 → Rp X.K H2 v (g d) → Q v H2) → te σ H Q) (hlf : ∀ d, d ∈ ds → f d = true → lf (g d) = true) :
    RL X.K (tLc (bI X tg iter) gt tt te vs) δ ((ds.filter f).map g) := fun H0 H σ S Q q => src H0 H σ S _ fun J H1 e1 j => fun Dl hD => by
  refine ⟨fun i m H' => m = ds.length - i ∧ i ≤ ds.length ∧ Ex H1 H' ∧ ∃ acc, H' Dl = some (.lst acc) ∧ RpAll X.K H' acc (((ds.take i).filter f).map g) ∧ lfAll (((ds.take i).filter f).map g) = true,
    ⟨ds.length, by simp, Nat.zero_le _, Ex.new hD, [], upd_same, by rw [List.take_zero]; exact .nil, by rw [List.take_zero]; rfl⟩, ?_⟩
  rintro i m H' ⟨rfl, hi, ex, acc, hacc, racc, lacc⟩
  by_cases hlt : i < ds.length
  · have hd : ds[i]? = some ds[i] := List.getElem?_eq_getElem hlt
    have hm : ds[i] ∈ ds := List.getElem_mem hlt
    obtain ⟨go, y⟩ := (j H' ex).1 i _ hd
    refine .inr ⟨go, fun H'' => Ex H1 H'' ∧ ∃ acc, H'' Dl = some (.lst acc) ∧ RpAll X.K H'' acc (((ds.take (i + 1)).filter f).map g) ∧ lfAll (((ds.take (i + 1)).filter f).map g) = true,
      fun H'' n => ⟨ds.length - (i + 1), by omega, rfl, hlt, n⟩, fun x H2 hx => ?_⟩
    obtain ⟨e2, r⟩ := y x H2 hx
    have S2 : St0 X.K H0 H2 (wipe σ vs) (wipeE δ vs) := ((S.mono e1).mono (ex.trans e2)).wipe vs
    refine hg _ hm H0 H2 (wipe σ vs) x S2 (hv σ) r _ fun σ' S' hw => ⟨hw, ht _ hm H0 H2 σ' S' _ fun H3 e3 => ?_⟩
    have et := take_next hd
    cases hf : f ds[i] with
    | true =>
      rw [if_pos rfl]
      refine he _ hm hf H0 H3 σ' (S'.mono e3) _ fun v H4 e4 rv => ?_
      have a4 := e4 _ _ (e3 _ _ (e2 _ _ hacc))
      have en : ((ds.take (i + 1)).filter f).map g = ((ds.take i).filter f).map g ++ [g ds[i]] := by
        rw [et, List.filter_append, List.map_append, List.filter_cons, if_pos hf] <;> rfl
      have r4 : RpAll X.K H4 (acc ++ [v]) (((ds.take (i + 1)).filter f).map g) := by
        rw [en]
        exact ((racc.mono e2).mono (e3.trans e4)).append (.cons rv .nil)
      have l4 : lfAll (((ds.take (i + 1)).filter f).map g) = true := by
        rw [en]
        exact lfAll_app lacc (hlf _ hm hf)
      refine ⟨acc, a4, ?_, ?_, acc ++ [v], upd_same, Rp.keepTAll (fun _ _ z => sqT_upd a4 z) _ _ l4 r4, l4⟩
      · rw [racc.length, List.length_map]
        refine Evl.sz_lt (Nat.lt_of_le_of_lt (List.length_filter_le _ _) ?_)
        rw [List.length_take]
        omega
      · exact (((ex.trans e2).trans e3).trans e4).mut hD
    | false =>
      rw [if_neg Bool.false_ne_true]
      have en : ((ds.take (i + 1)).filter f).map g = ((ds.take i).filter f).map g := by
        rw [et, List.filter_append, List.map_append, List.filter_cons, if_neg (by rw [hf]; exact Bool.false_ne_true)]
        simp
      rw [en]
      exact ⟨(ex.trans e2).trans e3, acc, e3 _ _ (e2 _ _ hacc), (racc.mono e2).mono e3, lacc⟩
  · have ei : i = ds.length := by omega
    subst ei
    rw [List.take_length] at racc
    exact .inl ⟨(j H' ex).2, q Dl acc H' (fresh_back e1 hD) (e1.trans ex) hacc racc⟩
/-- items that are new lists -/
inductive LL (K : PySem.W.Frag) (H : Hp) (Dl : Addr) : List V → List (List PyData) → Prop
  | nil : LL K H Dl [] []
  | cons {p : Addr} {xs vs : List V} {ds : List PyData} {dss : List (List PyData)} : p ≠ Dl → H p = some (.lst xs) → RpAll K H xs ds → lfAll ds = true → LL K H Dl vs dss → LL K H Dl (.ref p :: vs) (ds :: dss)
theorem LL.mono {K : PySem.W.Frag} {H H' : Hp} {Dl : Addr} (e : Ex H H') : ∀ {vs : List V} {dss : List (List PyData)}, LL K H Dl vs dss → LL K H' Dl vs dss
  | _, _, .nil => .nil
  | _, _, .cons h1 h2 h3 h4 h5 => .cons h1 (e _ _ h2) (h3.mono e) h4 (LL.mono e h5)
theorem LL.upd {K : PySem.W.Frag} {H : Hp} {Dl : Addr} {ys zs : List V} (hD : H Dl = some (.lst ys)) : ∀ {vs : List V} {dss : List (List PyData)}, LL K H Dl vs dss → LL K (L2.upd H Dl (.lst zs)) Dl vs dss
  | _, _, .nil => .nil
  | _, _, .cons h1 h2 h3 h4 h5 => .cons h1 (by rw [upd_ne h1]; exact h2) (Rp.keepTAll (fun _ _ z => sqT_upd hD z) _ _ h4 h3) h4 (LL.upd hD h5)
theorem LL.append {K : PySem.W.Frag} {H : Hp} {Dl : Addr} : ∀ {vs ws : List V} {dss ess : List (List PyData)}, LL K H Dl vs dss → LL K H Dl ws ess → LL K H Dl (vs ++ ws) (dss ++ ess)
  | _, _, _, _, .nil, k => k
  | _, _, _, _, .cons h1 h2 h3 h4 h5, k => .cons h1 h2 h3 h4 (LL.append h5 k)
theorem LL.rp {K : PySem.W.Frag} {H : Hp} {Dl : Addr} : ∀ {vs : List V} {dss : List (List PyData)}, LL K H Dl vs dss → RpAll K H vs (dss.map .list)
  | _, _, .nil => .nil
  | _, _, .cons h1 h2 h3 h4 h5 => .cons (.lst h2 h3) (LL.rp h5)
theorem LL.length {K : PySem.W.Frag} {H : Hp} {Dl : Addr} : ∀ {vs : List V} {dss : List (List PyData)}, LL K H Dl vs dss → vs.length = dss.length
  | _, _, .nil => rfl
  | _, _, .cons h1 h2 h3 h4 h5 => by rw [List.length_cons, List.length_cons, LL.length h5]
theorem lc_readL {tg iter : Expr} {gt : TG} {vs : List Nat} {te : TE} {ds : List PyData} {g : PyData → List PyData} (src : ID X δ tg iter ds) (hz : ds.length ≤ 50000) (hv : ∀ σ : L2.St, wipe (wipe σ vs) vs = wipe σ vs)
    (δd : PyData → En) (hg : ∀ d, d ∈ ds → GW X.K gt vs d (wipeE δ vs) (δd d)) (he : ∀ d, d ∈ ds → RL X.K te (δd d) (g d)) (hlf : ∀ d, d ∈ ds → lfAll (g d) = true) :
    RL X.K (tLc (bI X tg iter) gt tYes te vs) δ (ds.map fun d => .list (g d)) := fun H0 H σ S Q q => src H0 H σ S _ fun J H1 e1 j => fun Dl hD => by
  refine ⟨fun i m H' => m = ds.length - i ∧ i ≤ ds.length ∧ Ex H1 H' ∧ ∃ acc, H' Dl = some (.lst acc) ∧ LL X.K H' Dl acc ((ds.take i).map g), ⟨ds.length, by simp, Nat.zero_le _, Ex.new hD, [], upd_same, by rw [List.take_zero]; exact .nil⟩, ?_⟩
  rintro i m H' ⟨rfl, hi, ex, acc, hacc, racc⟩
  by_cases hlt : i < ds.length
  · have hd : ds[i]? = some ds[i] := List.getElem?_eq_getElem hlt
    have hm : ds[i] ∈ ds := List.getElem_mem hlt
    obtain ⟨go, y⟩ := (j H' ex).1 i _ hd
    refine .inr ⟨go, fun H'' => Ex H1 H'' ∧ ∃ acc, H'' Dl = some (.lst acc) ∧ LL X.K H'' Dl acc ((ds.take (i + 1)).map g), fun H'' n => ⟨ds.length - (i + 1), by omega, rfl, hlt, n⟩, fun x H2 hx => ?_⟩
    obtain ⟨e2, r⟩ := y x H2 hx
    have S2 : St0 X.K H0 H2 (wipe σ vs) (wipeE δ vs) := ((S.mono e1).mono (ex.trans e2)).wipe vs
    refine hg _ hm H0 H2 (wipe σ vs) x S2 (hv σ) r _ fun σ' S' hw => ⟨hw, ?_⟩
    simp only [tYes, if_true]
    refine he _ hm H0 H2 σ' S' _ fun p xs H4 hp e4 h4 r4 => ?_
    have a2 := e2 _ _ hacc
    have a4 := e4 _ _ a2
    have npD : p ≠ Dl := fun z => by
      rw [z, a2] at hp
      cases hp
    refine ⟨acc, a4, ?_, ((ex.trans e2).trans e4).mut hD, acc ++ [.ref p], upd_same, ?_⟩
    · rw [racc.length, List.length_map, List.length_take]
      exact Evl.sz_lt (by omega)
    · rw [take_next hd, List.map_append]
      exact LL.upd a4 (((racc.mono e2).mono e4).append (.cons npD h4 r4 (hlf _ hm) .nil))
  · have ei : i = ds.length := by omega
    subst ei
    rw [List.take_length] at racc
    refine .inl ⟨(j H' ex).2, q Dl acc H' (fresh_back e1 hD) (e1.trans ex) hacc ?_⟩
    have := racc.rp
    rw [List.map_map] at this
    exact this

/-- the block of a comprehension -/
abbrev BK (X : Cx) (scope : Scope) (s : Shared) (H : Hp) (C : Addr) (cl : List (Str × Addr)) (fp : List Addr) : Cx := X.blk s H scope (compEnvC scope cl C X.env) fp
def kE (X : Cx) (scope : Scope) (e : Expr) : TE := fun σ H Q => ∀ (s : Shared) (H' : Hp) (C : Addr) (cl : List (Str × Addr)) (fp : List Addr), bE (BK X scope s H' C cl fp) e σ H Q
def kT (X : Cx) (scope : Scope) (e : Expr) : TT := fun σ H Q => ∀ (s : Shared) (H' : Hp) (C : Addr) (cl : List (Str × Addr)) (fp : List Addr), bT (BK X scope s H' C cl fp) e σ H Q
theorem pe_k {scope : Scope} {s : Shared} {H' : Hp} {C : Addr} {cl : List (Str × Addr)} {fp : List Addr} : PE (BK X scope s H' C cl fp) e (kE X scope e) := ⟨fun pins s1 σ H Q I h => h s H' C cl fp pins s1 I⟩
theorem pt_k {scope : Scope} {s : Shared} {H' : Hp} {C : Addr} {cl : List (Str × Addr)} {fp : List Addr} : PT (BK X scope s H' C cl fp) e (kT X scope e) := ⟨fun pins s1 σ H Q I h => h s H' C cl fp pins s1 I⟩
variable {scope : Scope} {elt tg iter : Expr} {ds : List PyData} {x y : Str} {j i : Nat} {p py spos : Pos}
/-- the reading of [elt for x in iter] -/
theorem lc_1 {g : PyData → PyData} (src : ID X δ (.Name x p) iter ds) (hz : ds.length ≤ 50000)
    (he : ∀ d, d ∈ ds → ∀ s H C cl fp, ED (BK X scope s H C cl fp) ((wipeE δ [j]).set j (some (.dat d))) elt (g d)) (hlf : ∀ d, d ∈ ds → lf (g d) = true) :
    RL X.K (tLc (bI X (.Name x p) iter) (gName j) tYes (kE X scope elt) [j]) δ (ds.map g) := by
  have h := lc_read (X := X) (δ := δ) (gt := gName j) (vs := [j]) (te := kE X scope elt) (tt := tYes) (f := fun _ => true) (g := g) src hz (fun σ => wipe_idem1 σ j) (fun d => (wipeE δ [j]).set j (some (.dat d))) (fun d _ => gw_name) (fun d _ H0 H σ S Q q => q H (Ex.refl H))
    (fun d hd _ H0 H σ S Q q s H' C cl fp => he d hd s H' C cl fp H0 H σ S Q q) (fun d hd _ => hlf d hd)
  rw [List.filter_eq_self.mpr fun _ _ => rfl] at h
  exact h
/-- [elt for x in iter if c] -/
theorem lc_1f {f : PyData → Bool} {g : PyData → PyData} (src : ID X δ (.Name x p) iter ds) (hz : ds.length ≤ 50000)
    (ht : ∀ d, d ∈ ds → ∀ s H C cl fp, TD (BK X scope s H C cl fp) ((wipeE δ [j]).set j (some (.dat d))) c (f d))
    (he : ∀ d, d ∈ ds → f d = true → ∀ s H C cl fp, ED (BK X scope s H C cl fp) ((wipeE δ [j]).set j (some (.dat d))) elt (g d)) (hlf : ∀ d, d ∈ ds → f d = true → lf (g d) = true) :
    RL X.K (tLc (bI X (.Name x p) iter) (gName j) (kT X scope c) (kE X scope elt) [j]) δ ((ds.filter f).map g) :=
  lc_read (X := X) (δ := δ) (gt := gName j) (vs := [j]) (te := kE X scope elt) (tt := kT X scope c) (f := f) (g := g) src hz (fun σ => wipe_idem1 σ j) (fun d => (wipeE δ [j]).set j (some (.dat d))) (fun d _ => gw_name)
    (fun d hd H0 H σ S Q q s H' C cl fp => ht d hd s H' C cl fp H0 H σ S Q q) (fun d hd hf H0 H σ S Q q s H' C cl fp => he d hd hf s H' C cl fp H0 H σ S Q q) hlf
/-- [elt for x, y in iter] over pairs -/
theorem lc_2 {kt : Nat} {px py : Pos} {g : PyData → PyData → PyData} {ps : List (PyData × PyData)} (src : ID X δ (.Tuple [.Name x px, .Name y py] kt p) iter (ps.map fun q => .tuple [q.1, q.2])) (hz : ps.length ≤ 50000) (hij : i ≠ j)
    (he : ∀ d1 d2, (d1, d2) ∈ ps → ∀ s H C cl fp, ED (BK X scope s H C cl fp) (((wipeE δ [i, j]).set i (some (.dat d1))).set j (some (.dat d2))) elt (g d1 d2)) (hlf : ∀ d1 d2, (d1, d2) ∈ ps → lf (g d1 d2) = true) :
    RL X.K (tLc (bI X (.Tuple [.Name x px, .Name y py] kt p) iter) (gTup X.K 2 (gCons (gName i) (gCons (gName j) gNil))) tYes (kE X scope elt) [i, j]) δ (ps.map fun q => g q.1 q.2) := by
  let fst : PyData → PyData := fun d => match d with | .tuple [u, _] => u | z => z
  let snd : PyData → PyData := fun d => match d with | .tuple [_, u] => u | z => z
  have h := lc_read (X := X) (δ := δ) (gt := gTup X.K 2 (gCons (gName i) (gCons (gName j) gNil))) (vs := [i, j]) (te := kE X scope elt) (tt := tYes) (f := fun _ => true) (g := fun d => g (fst d) (snd d)) src (by rw [List.length_map]; exact hz) (fun σ => wipe_idem2 σ hij)
    (fun d => ((wipeE δ [i, j]).set i (some (.dat (fst d)))).set j (some (.dat (snd d)))) (fun d hd => by
      obtain ⟨q, _, rfl⟩ := List.mem_map.mp hd
      exact gw_pair hij) (fun d _ H0 H σ S Q q => q H (Ex.refl H))
    (fun d hd _ H0 H σ S Q q s H' C cl fp => by
      obtain ⟨⟨d1, d2⟩, hq, rfl⟩ := List.mem_map.mp hd
      exact he d1 d2 hq s H' C cl fp H0 H σ S Q q) (fun d hd _ => by
      obtain ⟨⟨d1, d2⟩, hq, rfl⟩ := List.mem_map.mp hd
      exact hlf d1 d2 hq)
  rw [List.filter_eq_self.mpr fun _ _ => rfl, List.map_map] at h
  exact h
theorem rl_ed {te : TE} (h : PE X e te) (r : RL X.K te δ ds) : ED X δ e (.list ds) := ed_of h fun H0 H σ S Q q => r H0 H σ S Q fun p xs H2 _ e2 h2 r2 => q _ H2 e2 (.lst h2 r2)
theorem rl_sd {te : TE} {st : Stmt} {i : Nat} (h : PS X st (tAsg te (gName i))) (r : RL X.K te δ ds) : SD X δ st (.nx (δ.set i (some (.dat (.list ds))))) :=
  sd_of h fun H0 H σ S D k => r H0 H σ S _ fun p xs H2 _ e2 h2 r2 => k _ H2 ((S.mono e2).set i (s := .dat (.list ds)) (.lst h2 r2))
/-- [elt for x in iter] -/
theorem ed_lc {g : PyData → PyData} (src : ID X δ (.Name x p) iter ds) (hz : ds.length ≤ 50000) (hN : X.N.Nodup) (ok : BlkOk X.N X.env.scope scope [(x, j)]) (hg : ∀ s H C cl fp, PG (BK X scope s H C cl fp) (.Name x p) (gName j))
    (he : ∀ d, d ∈ ds → ∀ s H C cl fp, ED (BK X scope s H C cl fp) ((wipeE δ [j]).set j (some (.dat d))) elt (g d)) (hlf : ∀ d, d ∈ ds → lf (g d) = true) (hc : X.calm = true := by rfl)
    (hs : ∀ x, foldedSetIterable iter X.env x = pure x := by intro _; rfl) : ED X δ (.ListComp elt [⟨.Name x p, iter, [], 0⟩] scope pos) (.list (ds.map g)) :=
  rl_ed (pe_lc (own := [(x, j)]) hc hN pi_b ok hg (fun _ _ _ _ _ => pts_nil) (fun _ _ _ _ _ => pe_k) hs) (lc_1 src hz he hlf)
theorem ed_lcF {f : PyData → Bool} {g : PyData → PyData} (src : ID X δ (.Name x p) iter ds) (hz : ds.length ≤ 50000) (hN : X.N.Nodup) (ok : BlkOk X.N X.env.scope scope [(x, j)]) (hg : ∀ s H C cl fp, PG (BK X scope s H C cl fp) (.Name x p) (gName j))
    (ht : ∀ d, d ∈ ds → ∀ s H C cl fp, TD (BK X scope s H C cl fp) ((wipeE δ [j]).set j (some (.dat d))) c (f d))
    (he : ∀ d, d ∈ ds → f d = true → ∀ s H C cl fp, ED (BK X scope s H C cl fp) ((wipeE δ [j]).set j (some (.dat d))) elt (g d)) (hlf : ∀ d, d ∈ ds → f d = true → lf (g d) = true) (hc : X.calm = true := by rfl)
    (hs : ∀ x, foldedSetIterable iter X.env x = pure x := by intro _; rfl) : ED X δ (.ListComp elt [⟨.Name x p, iter, [c], 0⟩] scope pos) (.list ((ds.filter f).map g)) :=
  rl_ed (pe_lc (own := [(x, j)]) hc hN pi_b ok hg (fun _ _ _ _ _ => pts_one pt_k) (fun _ _ _ _ _ => pe_k) hs) (lc_1f src hz ht he hlf)
/-! ### calls -/
theorem ed_cb {r : List V → Hp → VK → Prop} {as : List PyData} (h : PE X e (tCB r (bA X es))) (ha : AD X δ es as) (hr : ∀ vs H, RpAll X.K H vs as → ∀ Q : VK, (∀ v H2, Ex H H2 → Rp X.K H2 v d → Q v H2) → r vs H Q) : ED X δ e d :=
  ed_of h fun H0 H σ S Q q => ha H0 H σ S _ fun vs H1 e1 d1 => hr vs H1 d1 Q fun v H2 e2 => q v H2 (e1.trans e2)
section
variable {fx : Str}
theorem ed_len_t {fp : Pos} {n : Nat} (hm : X.mg "len" = none) (h : AD X δ [a] [.tuple ds]) (hl : ds.length = n) (hg : Gl X "len" := by rfl) (hs : starEach [a] X.env = (false, eval a X.env) :: starEach [] X.env := by rfl) (hpl : (backTo pos (starEach [] X.env)).any (·.1) = false := by rfl) : ED X δ (.Call (.Name "len" fp) [a] [] pos) (.int (n : Int)) :=
  ed_cb (pe_callB call_len_seq hg hm PySem.boot_len pa_b (by decide) (by decide) hs hpl) h fun vs H d1 Q q => by
    obtain ⟨v, rfl, r⟩ := d1.one_v
    obtain ⟨p, xs, rfl, h1, h2⟩ := r.tup_v
    exact ⟨p, xs, rfl, .inr h1, q _ H (Ex.refl H) (by rw [h2.length, hl]; exact .int _)⟩
theorem ed_len_l {fp : Pos} {n : Nat} (hm : X.mg "len" = none) (h : AD X δ [a] [.list ds]) (hl : ds.length = n) (hg : Gl X "len" := by rfl) (hs : starEach [a] X.env = (false, eval a X.env) :: starEach [] X.env := by rfl) (hpl : (backTo pos (starEach [] X.env)).any (·.1) = false := by rfl) : ED X δ (.Call (.Name "len" fp) [a] [] pos) (.int (n : Int)) :=
  ed_cb (pe_callB call_len_seq hg hm PySem.boot_len pa_b (by decide) (by decide) hs hpl) h fun vs H d1 Q q => by
    obtain ⟨v, rfl, r⟩ := d1.one_v
    obtain ⟨p, xs, rfl, h1, h2⟩ := r.lst_v
    exact ⟨p, xs, rfl, .inl (SqL.of h1), q _ H (Ex.refl H) (by rw [h2.length, hl]; exact .int _)⟩
theorem ed_len_s {fp : Pos} {n : Nat} (hm : X.mg "len" = none) (h : AD X δ [a] [scrD ds]) (hl : ds.length = n) (hg : Gl X "len" := by rfl) (hs : starEach [a] X.env = (false, eval a X.env) :: starEach [] X.env := by rfl) (hpl : (backTo pos (starEach [] X.env)).any (·.1) = false := by rfl) : ED X δ (.Call (.Name "len" fp) [a] [] pos) (.int (n : Int)) :=
  ed_cb (pe_callB call_len_seq hg hm PySem.boot_len pa_b (by decide) (by decide) hs hpl) h fun vs H d1 Q q => by
    obtain ⟨v, rfl, r⟩ := d1.one_v
    obtain ⟨p, xs, rfl, h1, h2⟩ := r.scr_v
    exact ⟨p, xs, rfl, .inl h1, q _ H (Ex.refl H) (by rw [h2.length, hl]; exact .int _)⟩
theorem ed_tuple_l {fp : Pos} (hm : X.mg "tuple" = none) (h : AD X δ [a] [.list ds]) (hg : Gl X "tuple" := by rfl) (hs : starEach [a] X.env = (false, eval a X.env) :: starEach [] X.env := by rfl) (hpl : (backTo pos (starEach [] X.env)).any (·.1) = false := by rfl) : ED X δ (.Call (.Name "tuple" fp) [a] [] pos) (.tuple ds) :=
  ed_cb (pe_callTy call_tuple_of hg hm PyProof.Rows.boot_tuple pa_b (by decide) (by decide) hs hpl) h fun vs H d1 Q q => by
    obtain ⟨v, rfl, r⟩ := d1.one_v
    obtain ⟨p, xs, rfl, h1, h2⟩ := r.lst_v
    exact ⟨p, xs, rfl, .inl ⟨SqL.of h1, fun l hl => q _ _ (Ex.new hl) (.tup (SqT.of upd_same) (h2.mono (Ex.new hl)))⟩⟩
theorem ed_all {fp : Pos} {bs : List Bool} (hc : X.calm = true) (hm : X.mg "all" = none) (h : AD X δ [a] [.list (bs.map .bool)]) (hg : Gl X "all" := by rfl) (hs : starEach [a] X.env = (false, eval a X.env) :: starEach [] X.env := by rfl) (hpl : (backTo pos (starEach [] X.env)).any (·.1) = false := by rfl) : ED X δ (.Call (.Name "all" fp) [a] [] pos) (.bool (bs.all id)) :=
  ed_cb (pe_callB (cr_all hc) hg hm PyProof.Rows.boot_all pa_b (by decide) (by decide) hs hpl) h fun vs H d1 Q q => by
    obtain ⟨v, rfl, r⟩ := d1.one_v
    obtain ⟨p, xs, rfl, h1, h2⟩ := r.lst_v
    have e := h2.bools
    subst e
    exact ⟨p, bs, rfl, SqL.of h1, q _ H (Ex.refl H) (.bl _)⟩
theorem ed_any {fp : Pos} {bs : List Bool} (hc : X.calm = true) (hm : X.mg "any" = none) (h : AD X δ [a] [.list (bs.map .bool)]) (hg : Gl X "any" := by rfl) (hs : starEach [a] X.env = (false, eval a X.env) :: starEach [] X.env := by rfl) (hpl : (backTo pos (starEach [] X.env)).any (·.1) = false := by rfl) : ED X δ (.Call (.Name "any" fp) [a] [] pos) (.bool (bs.any id)) :=
  ed_cb (pe_callB (cr_any hc) hg hm PyProof.Rows.boot_any pa_b (by decide) (by decide) hs hpl) h fun vs H d1 Q q => by
    obtain ⟨v, rfl, r⟩ := d1.one_v
    obtain ⟨p, xs, rfl, h1, h2⟩ := r.lst_v
    have e := h2.bools
    subst e
    exact ⟨p, bs, rfl, SqL.of h1, q _ H (Ex.refl H) (.bl _)⟩
theorem ed_gcd {fp : Pos} {i j : Int} (hm : X.mg fx = some (.builtin "math.gcd")) (h : AD X δ [a, b] [.int i, .int j]) (hdb : (fx == ("__debug__" : Str)) = false := by decide) (hg : Gl X fx := by rfl) (hs : starEach [a, b] X.env = (false, eval a X.env) :: starEach [b] X.env := by rfl) (hpl : (backTo pos (starEach [b] X.env)).any (·.1) = false := by rfl) :
    ED X δ (.Call (.Name fx fp) [a, b] [] pos) (.int ((Nat.gcd i.natAbs j.natAbs : Nat) : Int)) :=
  ed_cb (pe_callBfun cr_gcd hg hm pa_b hdb hs hpl) h fun vs H d1 Q q => by
    obtain ⟨v, w, rfl, r1, r2⟩ := d1.two_v
    exact ⟨i, j, by rw [r1.int_v, r2.int_v], q _ H (Ex.refl H) (.int _)⟩
theorem ed_max {fp : Pos} {i j : Int} (hc : X.calm = true) (hm : X.mg "max" = none) (h : AD X δ [a, b] [.int i, .int j]) (hg : Gl X "max" := by rfl) (hs : starEach [a, b] X.env = (false, eval a X.env) :: starEach [b] X.env := by rfl) (hpl : (backTo pos (starEach [b] X.env)).any (·.1) = false := by rfl) :
    ED X δ (.Call (.Name "max" fp) [a, b] [] pos) (.int (if j > i then j else i)) :=
  ed_cb (pe_callB (call_max2 hc) hg hm PyProof.Rows.boot_max pa_b (by decide) (by decide) hs hpl) h fun vs H d1 Q q => by
    obtain ⟨v, w, rfl, r1, r2⟩ := d1.two_v
    exact ⟨i, j, by rw [r1.int_v, r2.int_v], q _ H (Ex.refl H) (.int _)⟩
theorem ed_abs {fp : Pos} {i : Int} (hm : X.mg "abs" = none) (h : AD X δ [a] [.int i]) (hg : Gl X "abs" := by rfl) (hs : starEach [a] X.env = (false, eval a X.env) :: starEach [] X.env := by rfl) (hpl : (backTo pos (starEach [] X.env)).any (·.1) = false := by rfl) : ED X δ (.Call (.Name "abs" fp) [a] [] pos) (.int (if i < 0 then -i else i)) :=
  ed_cb (pe_callB call_abs hg hm (by decide +kernel) pa_b (by decide) (by decide) hs hpl) h fun vs H d1 Q q => by
    obtain ⟨v, rfl, r⟩ := d1.one_v
    exact ⟨i, by rw [r.int_v], q _ H (Ex.refl H) (.int _)⟩
theorem ed_toint {fp : Pos} {i : Int} (hm : X.mg "int" = none) (h : AD X δ [a] [.int i]) (hg : Gl X "int" := by rfl) (hs : starEach [a] X.env = (false, eval a X.env) :: starEach [] X.env := by rfl) (hpl : (backTo pos (starEach [] X.env)).any (·.1) = false := by rfl) : ED X δ (.Call (.Name "int" fp) [a] [] pos) (.int i) :=
  ed_cb (pe_callTy call_int1 hg hm PyProof.Rows.boot_int pa_b (by decide) (by decide) hs hpl) h fun vs H d1 Q q => by
    obtain ⟨v, rfl, r⟩ := d1.one_v
    exact .inl ⟨i, by rw [r.int_v], q _ H (Ex.refl H) (.int _)⟩
theorem ed_sum {fp : Pos} {ns : List Int} (hc : X.calm = true) (hm : X.mg "sum" = none) (h : AD X δ [a] [.list (ns.map .int)]) (hg : Gl X "sum" := by rfl) (hs : starEach [a] X.env = (false, eval a X.env) :: starEach [] X.env := by rfl) (hpl : (backTo pos (starEach [] X.env)).any (·.1) = false := by rfl) : ED X δ (.Call (.Name "sum" fp) [a] [] pos) (.int ns.sum) :=
  ed_cb (pe_callB (cr_sum hc) hg hm PyProof.Rows.boot_sum pa_b (by decide) (by decide) hs hpl) h fun vs H d1 Q q => by
    obtain ⟨v, rfl, r⟩ := d1.one_v
    obtain ⟨p, xs, rfl, h1, h2⟩ := r.lst_v
    have e := h2.ints
    subst e
    exact ⟨p, ns, rfl, SqL.of h1, q _ H (Ex.refl H) (.int _)⟩
/-- list(range(n)) -/
theorem ed_listRg {fp fp2 p2 : Pos} {n : Nat} (hc : X.calm = true) (hm : X.mg "list" = none) (hm2 : X.mg "range" = none) (h : ED X δ a (.int (n : Int))) (hn : n ≤ 100000) (hg : Gl X "list" := by rfl) (hg2 : Gl X "range" := by rfl) (na : starEach [a] X.env = (false, eval a X.env) :: starEach [] X.env := by rfl)
    (na2 : starEach [.Call (.Name "range" fp2) [a] [] p2] X.env = (false, eval (.Call (.Name "range" fp2) [a] [] p2) X.env) :: starEach [] X.env := by rfl) : ED X δ (.Call (.Name "list" fp) [.Call (.Name "range" fp2) [a] [] p2] [] pos) (.list (rgD 0 n)) :=
  ed_of (pe_listRg hc hg hm (prg_1 hg2 hm2 pe_b na) na2) fun H0 H σ S Q q => h H0 H σ S _ fun v H1 e1 r => by
    refine ⟨(n : Int), r.int_v, RgOk.of_le (Int.le_refl _) (by omega) (by omega) (by omega), fun l hl => q _ _ (e1.trans (Ex.new hl)) (.lst upd_same ?_)⟩
    have e : rgV 0 (n : Int) = ((List.range n).map fun i => (0 : Int) + (i : Nat)).map V.int := by
      unfold rgV
      rw [List.map_map, show ((n : Int) - 0).toNat = n by omega]
      rfl
    have e2 : rgD 0 n = ((List.range n).map fun i => (0 : Int) + (i : Nat)).map .int := by
      unfold rgD
      rw [List.map_map]
      rfl
    rw [e, e2]
    exact RpAll.of_ints
end
/-! isinstance -/
theorem ed_isInt {fp p2 : Pos} {T : String} {i : Int} {k : Bool} {tx : Str} (hm : X.mg "isinstance" = none) (hm2 : X.mg tx = none) (hb : bootBuiltins tx = some (.type T)) (h : ED X δ a (.int i)) (hk : kitB "int" T = some k) (hn : tx ≠ "__name__" := by decide) (hdb : (tx == ("__debug__" : Str)) = false := by decide)
    (hg : Gl X "isinstance" := by rfl) (hg2 : Gl X tx := by rfl) (hs : starEach [a, .Name tx p2] X.env = (false, eval a X.env) :: starEach [.Name tx p2] X.env := by rfl) (hs2 : starEach [.Name tx p2] X.env = (false, eval (.Name tx p2) X.env) :: starEach [] X.env := by rfl)
    (hpl : (backTo pos (starEach [.Name tx p2] X.env)).any (·.1) = false := by rfl) : ED X δ (.Call (.Name "isinstance" fp) [a, .Name tx p2] [] pos) (.bool k) :=
  ed_of (pe_callB call_isi hg hm PyProof.Rows.boot_isinstance (pa_cons pe_b (pa_cons (pe_bltn (v := .ty T) hg2 hm2 hb rfl hn hdb) pa_nil hs2) hs) (by decide) (by decide) hs hpl) fun H0 H σ S Q q => h H0 H σ S _ fun v H1 e1 r => by
    refine ⟨v, .ty T, .type "int", .type T, k, rfl, .ty T, ?_, kit_ty hk, q _ H1 e1 (.bl _)⟩
    rw [r.int_v]
    exact .base (.int i)
theorem ed_isTup {fp p2 : Pos} {T : String} {k : Bool} {tx : Str} (hm : X.mg "isinstance" = none) (hm2 : X.mg tx = none) (hb : bootBuiltins tx = some (.type T)) (h : ED X δ a (.tuple ds)) (hk : kitB "tuple" T = some k) (hn : tx ≠ "__name__" := by decide) (hdb : (tx == ("__debug__" : Str)) = false := by decide)
    (hg : Gl X "isinstance" := by rfl) (hg2 : Gl X tx := by rfl) (hs : starEach [a, .Name tx p2] X.env = (false, eval a X.env) :: starEach [.Name tx p2] X.env := by rfl) (hs2 : starEach [.Name tx p2] X.env = (false, eval (.Name tx p2) X.env) :: starEach [] X.env := by rfl)
    (hpl : (backTo pos (starEach [.Name tx p2] X.env)).any (·.1) = false := by rfl) : ED X δ (.Call (.Name "isinstance" fp) [a, .Name tx p2] [] pos) (.bool k) :=
  ed_of (pe_callB call_isi hg hm PyProof.Rows.boot_isinstance (pa_cons pe_b (pa_cons (pe_bltn (v := .ty T) hg2 hm2 hb rfl hn hdb) pa_nil hs2) hs) (by decide) (by decide) hs hpl) fun H0 H σ S Q q => h H0 H σ S _ fun v H1 e1 r => by
    obtain ⟨p, xs, rfl, h1, h2⟩ := r.tup_v
    refine ⟨.ref p, .ty T, .type "tuple", .type T, k, rfl, .ty T, ?_, kit_ty hk, q _ H1 e1 (.bl _)⟩
    rcases h1 with (h1 | ⟨o, h1⟩) | ⟨o, its, n, h1, h3, _⟩
    · exact .base (.tup h1)
    · exact .fTuple h1
    · exact .kTuple h1 h3
/-! ### promises -/
/-- called with n data for which dom tells an answer, it returns it; what was tracked stands -/
def spD (K : PySem.W.Frag) (n : Nat) (dom : List PyData → PyData → Prop) : Sp := fun vs H Q _ => ∃ ds r, RpAll K H vs ds ∧ ds.length = n ∧ dom ds r ∧ ∀ v H2, Ex H H2 → Rp K H2 v r → Q v H2
structure Cal (P : Program) (w : World) (K : PySem.W.Frag) (mg : Str → Option Value) (base : Heap) (k : Nat) (x : Str) (n : Nat) (dom : List PyData → PyData → Prop) : Prop where
  ex : ∃ f fd ps, FnOk P w K mg base CX0 k f fd ps (spD K n dom) ∧ mg x = some (.ref f) ∧ PySem.W.keepIn K (.ref f) = true ∧ Binds K fd ps []
theorem ed_call {k kk n : Nat} {fx : Str} {fp : Pos} {as : List PyData} {dom : List PyData → PyData → Prop} (C : Cal X.prog X.w X.K X.mg X.base k fx n dom) (hr : Room kk X.A) (ha : AD X δ (a :: es) as) (hd : dom as d) (hn : as.length = n := by rfl) (hk : k ≤ kk := by decide)
    (hg : Gl X fx := by rfl) (hdb : (fx == ("__debug__" : Str)) = false := by decide) (hs : starEach (a :: es) X.env = (false, eval a X.env) :: starEach es X.env := by rfl) (hpl : (backTo pos (starEach es X.env)).any (·.1) = false := by rfl) :
    ED X δ (.Call (.Name fx fp) (a :: es) [] pos) d := by
  obtain ⟨f, fd, ps, F, hm, hkp, hb⟩ := C.ex
  exact ed_of (pe_call F (hr.mono hk) hg hm hkp hb .nil pass0 pa_b hdb hs hpl) fun H0 H σ S Q q => ha H0 H σ S _ fun vs H1 e1 d1 => ⟨as, d, by rw [List.append_nil]; exact d1, hn, hd, fun v H2 e2 => q v H2 (e1.trans e2)⟩
theorem Cal.weak {P : Program} {w : World} {K : PySem.W.Frag} {mg : Str → Option Value} {base : Heap} {k n : Nat} {x : Str} {dom dom' : List PyData → PyData → Prop} (C : Cal P w K mg base k x n dom) (h : ∀ ds r, dom' ds r → dom ds r) : Cal P w K mg base k x n dom' := by
  obtain ⟨f, fd, ps, F, hm, hkp, hb⟩ := C.ex
  exact ⟨f, fd, ps, F.imp fun vs H Q E ⟨ds, r, h1, h2, h3, h4⟩ => ⟨ds, r, h1, h2, h _ _ h3, h4⟩, hm, hkp, hb⟩
end
/-- the context of a def's body -/
abbrev cx (P : Program) (w : World) (K : PySem.W.Frag) (mg : Str → Option Value) (base : Heap) (N : List Str) (qual : Str) (st : Stmt) (f : Addr) (cdv : Value) (A : Around) (outer : List Env) (s : Shared) (H : Hp) (E : XK) : Cx :=
  (cxOf CX0 P w K mg base N qual (defScope st) f cdv A outer s H E).nox
def enD (N : List Str) (ds : List PyData) : En := ds.map (fun d => some (.dat d)) ++ List.replicate (N.length - ds.length) none
def enA (N : List Str) (ds : List PyData) : En := ds.map (fun d => some (.arg d)) ++ List.replicate (N.length - ds.length) none
section
variable {P : Program} {w : World} {K : PySem.W.Frag} {mg : Str → Option Value} {base : Heap}
theorem rep_none {n i : Nat} {s : Sl} : (List.replicate n (none : Option Sl))[i]? ≠ some (some s) := by
  rw [List.getElem?_replicate]
  split
  · intro h; cases h
  · intro h; cases h
theorem start_St0 {H : Hp} {N : List Str} (mk : PyData → Sl) (hk : ∀ v d, Rp K H v d → SlOk K H H v (mk d)) : ∀ {vs : List V} {ds : List PyData} (n : Nat), RpAll K H vs ds → St0 K H H (vs.map some ++ List.replicate n none) (ds.map (fun d => some (mk d)) ++ List.replicate n none) := fun {vs ds} n h => by
  refine ⟨Ex.refl H, by simp [h.length], fun i s e => ?_⟩
  by_cases hi : i < ds.length
  · rw [List.getElem?_append_left (by simpa using hi), List.getElem?_map] at e
    rw [List.getElem?_append_left (by simpa [h.length] using hi), List.getElem?_map]
    cases e1 : ds[i]? with
    | none => rw [e1] at e; cases e
    | some d =>
      rw [e1] at e
      have e2 := Option.some.inj (Option.some.inj e)
      subst e2
      obtain ⟨v, hv, r⟩ := h.get i d e1
      rw [hv]
      exact ⟨v, rfl, hk v d r⟩
  · rw [List.getElem?_append_right (by simpa using Nat.le_of_not_lt hi)] at e
    exact absurd e rep_none
/-- THE RULE for a def: its body, from its data to its answer -/
theorem def_ok {x : Str} {st : Stmt} {f : Addr} {fd : FuncData} {N ps : List Str} {k n : Nat} {dom : List PyData → PyData → Prop} (F : Fun K x x st f fd) (S : FnScope N ps (defScope st)) (b : Binds K fd ps []) (g : mg x = some (.ref f)) (hn : ps.length = n)
    (body : ∀ cdv A outer s H E ds r, Room k (cx P w K mg base N x st f cdv A outer s H E).A → dom ds r → ds.length = n → SDs (cx P w K mg base N x st f cdv A outer s H E) (enD N ds) (defBody st) (.rt r)) : Cal P w K mg base (k + 1) x n dom :=
  ⟨f, fd, ps, F.ok S (fun vs H Q E h => by
    obtain ⟨ds, r, h1, h2, _⟩ := h
    rw [h1.length, h2, hn]) fun cdv A outer s H vs Q E hr h => by
      obtain ⟨ds, r, h1, h2, h3, q⟩ := h
      refine ⟨bSs _ _, pss_b, body cdv A outer s H E ds r hr h3 h2 H H _ ?_ _ q⟩
      have e := start_St0 (K := K) (H := H) (N := N) (mk := Sl.dat) (fun v d r => r) (N.length - vs.length) h1
      rw [h1.length] at e
      unfold L2.start enD
      rw [h1.length]
      exact e, g, F.kp, b⟩
/-- the same where the body writes to a list of its own -/
theorem def_okA {x : Str} {st : Stmt} {f : Addr} {fd : FuncData} {N ps : List Str} {k n : Nat} {dom : List PyData → PyData → Prop} (F : Fun K x x st f fd) (S : FnScope N ps (defScope st)) (b : Binds K fd ps []) (g : mg x = some (.ref f)) (hn : ps.length = n)
    (body : ∀ cdv A outer s H E ds r, Room k (cx P w K mg base N x st f cdv A outer s H E).A → dom ds r → ds.length = n → SDs (cx P w K mg base N x st f cdv A outer s H E) (enA N ds) (defBody st) (.rt r)) : Cal P w K mg base (k + 1) x n dom :=
  ⟨f, fd, ps, F.ok S (fun vs H Q E h => by
    obtain ⟨ds, r, h1, h2, _⟩ := h
    rw [h1.length, h2, hn]) fun cdv A outer s H vs Q E hr h => by
      obtain ⟨ds, r, h1, h2, h3, q⟩ := h
      refine ⟨bSs _ _, pss_b, body cdv A outer s H E ds r hr h3 h2 H H _ ?_ _ q⟩
      have e := start_St0 (K := K) (H := H) (N := N) (mk := Sl.arg) (fun v d r => r) (N.length - vs.length) h1
      rw [h1.length] at e
      unfold L2.start enA
      rw [h1.length]
      exact e, g, F.kp, b⟩
end
end G
/-! G4 -/
/-! Own: t.index(n) of a tuple of ints; comprehensions of two clauses. -/
namespace G
open PySem PySem.Spec PyProof.Rows L2
open Evl (Ex Ex.refl Ex.trans Ex.new Ex.mut ex_rd ex_l ex_t fresh_back)
section
variable {X : Cx} {δ δ1 δ2 δ' : En} {a b c e : Expr} {es : List Expr} {pos : Pos} {d da db dc : PyData}
def rTIx (K : PySem.W.Frag) : V → List V → Hp → VK → Prop := fun x vs H Q => ∃ (p : Addr) (ns : List Int) (z : Int) (j : Nat), x = .ref p ∧ vs = [.int z] ∧ SqT K H p (ns.map V.int) ∧ ns[j]? = some z ∧ (∀ m, m < j → ns[m]? ≠ some z) ∧ Q (.int (j : Int)) H
theorem mt_tIx : MtR X "tuple.index" (rTIx X.K) := by
  intro pins s σ H x vs v us Q I rx rvs hw
  obtain ⟨p, ns, z, j, rfl, rfl, hsq, hz, hfirst, hQ⟩ := hw
  cases rx
  obtain ⟨uz, rfl, tz, rfl⟩ := vals1 rvs
  obtain ⟨its, ri, pl, hline⟩ := I.tuple hsq
  obtain ⟨⟨cl, odd, dta, osl⟩, ob, ocl, nn, odt⟩ := pl
  simp only at ocl odt
  subst ocl odt
  have size : its.toArray.size = ns.length := by rw [List.size_toArray, ← ri.length, List.length_map]
  have item : ∀ (m : Nat) (h : m < its.toArray.size), ∃ y ty, ns[m]? = some y ∧ its.toArray[m] = Value.int y ty := by
    intro m h
    have hm : m < ns.length := size ▸ h
    obtain ⟨w, ew, ty, rfl⟩ := ri.get (i := m) (x := V.int ns[m]) (by rw [List.getElem?_map, List.getElem?_eq_getElem hm]; rfl)
    refine ⟨ns[m], ty, List.getElem?_eq_getElem hm, ?_⟩
    have := (List.getElem?_eq_some_iff.mp ew).2
    simpa using this
  have jl : j < its.toArray.size := size ▸ (List.getElem?_eq_some_iff.mp hz).1
  have flat : (ns.map V.int).all flatV = true := by rw [List.all_map]; exact List.all_eq_true.mpr fun _ _ => rfl
  refine call_meets PySem.F.slot_tuple_index ⟨_, ob, rfl⟩ PySem.F.entry_tuple_index (PySem.F.args_tuple_index_2 _ _)
    (TI.tuple_indexAt p its.toArray nn odd osl (.int z tz) (eqU (.int z)) j jl ?hit ?miss)
    ⟨ob, fun u hu => mem_eqAt (x := .int z) ⟨tz, rfl⟩ rfl ri flat u (by simpa using hu), V.int (j : Int), H, I.tok _, ⟨_, rfl⟩, hQ⟩
  case hit =>
    obtain ⟨y, ty, e1, e2⟩ := item j jl
    rw [e1] at hz
    cases hz
    rw [e2]
    exact beq_self_eq_true (α := Int) z
  case miss =>
    intro m hm lt
    obtain ⟨y, ty, e1, e2⟩ := item m hm
    rw [e2]
    exact (beq_eq_false_iff_ne (α := Int)).mpr fun q => hfirst m lt (q ▸ e1)
/-- T.index(e), T a name of the module that holds a tuple of ints -/
theorem ed_tIx {tx : Str} {p1 p2 p3 : Pos} {ns : List Int} {z : Int} {j : Nat} (hT : ∃ a o, X.mg tx = some (.ref a) ∧ X.K.lookup a = some o ∧ o.cls = .type "tuple" ∧ o.dict = none) (hG : GC X.K X.mg tx (.tuple (ns.map .int))) (h : ED X δ e (.int z)) (hj : ns[j]? = some z) (hno : ∀ m, m < j → ns[m]? ≠ some z)
    (hg : Gl X tx := by rfl) (hd : (tx == ("__debug__" : Str)) = false := by decide) (hb : attributeBase (.Name tx p1) "index" X.env (eval (.Name tx p1) X.env) = eval (.Name tx p1) X.env := by rfl)
    (hfew : ((backTo p3 (starEach [e] X.env)).all (fun x => !x.1) && (backToKw p3 (keywordEach [] X.env)).all (fun x => x.1.isSome) && decide ([e].length + ([] : List Keyword).length + (if ([] : List Keyword).isEmpty then 0 else 1) < 30)) = true := by rfl)
    (hline : (p2.endLine == p3.line) = true := by rfl) (hst : starEach [e] X.env = (false, eval e X.env) :: starEach [] X.env := by rfl) (hplain : (backTo p3 (starEach [] X.env)).any (·.1) = false := by rfl) :
    ED X δ (.Call (.Attribute (.Name tx p1) "index" p2) [e] [] p3) (.int (j : Int)) := by
  obtain ⟨ad, o, m1, k1, k2, k3⟩ := hT
  obtain ⟨v, u, m2, rv, hrp⟩ := hG
  rw [m1] at m2
  cases m2
  obtain rfl : v = .ref ad := RelV.inj rv (show RelV (.ref ad) (.ref ad) from rfl)
  refine ed_of (pe_bm PySem.F.plainAttrs_tuple PySem.F.slot_tuple_index PySem.F.type_tuple_index mt_tIx (pe_glob hg m1 (show RelV (V.ref ad) (Value.ref ad) from rfl) hd) (pa_cons pe_b pa_nil hst) hb hfew hline hst hplain) fun H0 H σ S Q q => ?_
  refine ⟨.inr (.inl ⟨rfl, o, k1, k2, k3⟩), h H0 H σ S _ fun w H2 e2 r => ?_⟩
  obtain ⟨a', xs, ea, hs, hr⟩ := (hrp H2).tup_v
  cases ea
  have := hr.ints
  subst this
  exact ⟨ad, ns, z, j, rfl, by rw [r.int_v], hs, hj, hno, q _ H2 e2 (.int _)⟩

/-! ### [elt for x in iter for y in range(..)] -/
def kI (X : Cx) (scope : Scope) (tg iter : Expr) : TI := fun σ H R => ∀ (s : Shared) (H' : Hp) (C : Addr) (cl : List (Str × Addr)) (fp : List Addr), bI (BK X scope s H' C cl fp) tg iter σ H R
theorem pi_k {scope : Scope} {tg iter : Expr} {s : Shared} {H' : Hp} {C : Addr} {cl : List (Str × Addr)} {fp : List Addr} : PI (BK X scope s H' C cl fp) tg iter (kI X scope tg iter) := ⟨fun pins s1 σ H R I h => h s H' C cl fp pins s1 I⟩
/-- items that hang on no heap -/
def ID1 (X : Cx) (δ : En) (tg iter : Expr) (ds : List PyData) : Prop := ∀ H0 H σ, St0 X.K H0 H σ δ → ∀ R : It → Hp → Prop, (∀ J H1, Ex H H1 → JD X.K (fun _ => none) J ds → R J H1) → bI X tg iter σ H R
theorem id1_rng2 {tg : Expr} {lo hi : Int} {p : Pos} (h : AD X δ [a, b] [.int lo, .int hi]) (hn : 0 ≤ lo ∧ lo ≤ 100000 ∧ -100000 ≤ hi ∧ hi ≤ 100000) (hm : X.mg "range" = none) (hg : Gl X "range" := by rfl)
    (hs : starEach [a, b] X.env = [(false, eval a X.env), (false, eval b X.env)] := by rfl) (hs2 : starEach [b] X.env = [(false, eval b X.env)] := by rfl) : ID1 X δ tg (.Call (.Name "range" p) [a, b] [] pos) (rgD lo (hi - lo).toNat) :=
  fun H0 H σ S R q => bI_of (pi_range2 hg hm pa_b hs hs2) (h H0 H σ S _ fun vs H1 e1 r => by
    obtain ⟨v, w, rfl, r1, r2⟩ := r.two_v
    exact ⟨lo, hi, by rw [r1.int_v, r2.int_v], ⟨by omega, by omega, by omega, by omega⟩, q _ _ e1 jd_rng⟩)
theorem lfAll_append : ∀ {u v : List PyData}, lfAll u = true → lfAll v = true → lfAll (u ++ v) = true
  | [], _, _, h => h
  | z :: zs, v, h0, h => by
    have q : lf z = true ∧ lfAll zs = true := by simpa only [lfAll, Bool.and_eq_true] using h0
    simp only [List.cons_append, lfAll, q.1, lfAll_append q.2 h, Bool.and_self]
variable {scope : Scope} {elt iter iter1 : Expr} {ds : List PyData} {x y : Str} {i j : Nat} {p p1 : Pos}
theorem lc2_read {es : PyData → List PyData} {g : PyData → PyData → PyData} (src : ID X δ (.Name x p) iter ds) (hz : (ds.flatMap es).length ≤ 50000) (hij : i ≠ j) (hint : ∀ d, d ∈ ds → ∃ z : Int, d = .int z)
    (src1 : ∀ d, d ∈ ds → ∀ s H C cl fp, ID1 (BK X scope s H C cl fp) ((wipeE δ [i, j]).set i (some (.dat d))) (.Name y p1) iter1 (es d))
    (he : ∀ d, d ∈ ds → ∀ d1, d1 ∈ es d → ∀ s H C cl fp, ED (BK X scope s H C cl fp) ((((wipeE δ [i, j]).set i (some (.dat d))).set j none).set j (some (.dat d1))) elt (g d d1)) (hlf : ∀ d, d ∈ ds → ∀ d1, d1 ∈ es d → lf (g d d1) = true) :
    RL X.K (tLc2 (bI X (.Name x p) iter) (gName i) tYes (kI X scope (.Name y p1) iter1) (gName j) tYes (kE X scope elt) [i, j] [j]) δ (ds.flatMap fun d => (es d).map (g d)) := fun H0 H σ S Q q => src H0 H σ S _ fun J H1 e1 jd => fun Dl hD => by
  have lfm : ∀ (l : List PyData) (d : PyData), d ∈ ds → (∀ z, z ∈ l → z ∈ es d) → lfAll (l.map (g d)) = true := fun l d hd hl => by
    induction l with
    | nil => rfl
    | cons z zs ih => simp only [List.map_cons, lfAll, hlf d hd z (hl z List.mem_cons_self), ih (fun y hy => hl y (List.mem_cons_of_mem _ hy)), Bool.and_self]
  refine ⟨fun n m H' => m = ds.length - n ∧ n ≤ ds.length ∧ Ex H1 H' ∧ ∃ acc, H' Dl = some (.lst acc) ∧ RpAll X.K H' acc ((ds.take n).flatMap fun d => (es d).map (g d)) ∧ lfAll ((ds.take n).flatMap fun d => (es d).map (g d)) = true,
    ⟨ds.length, by simp, Nat.zero_le _, Ex.new hD, [], upd_same, by rw [List.take_zero]; exact .nil, by rw [List.take_zero]; rfl⟩, ?_⟩
  rintro n m H' ⟨rfl, hn, ex, acc, hacc, racc, lacc⟩
  by_cases hlt : n < ds.length
  · have hd : ds[n]? = some ds[n] := List.getElem?_eq_getElem hlt
    have hm : ds[n] ∈ ds := List.getElem_mem hlt
    obtain ⟨go, yl⟩ := (jd H' ex).1 n _ hd
    have et : (ds.take (n + 1)).flatMap (fun d => (es d).map (g d)) = (ds.take n).flatMap (fun d => (es d).map (g d)) ++ (es ds[n]).map (g ds[n]) := by
      rw [take_next hd, List.flatMap_append]
      simp
    have tot : ((ds.take n).flatMap fun d => (es d).map (g d)).length + (es ds[n]).length ≤ 50000 := by
      have h1 : ((ds.take (n + 1)).flatMap fun d => (es d).map (g d)).length ≤ (ds.flatMap es).length := by
        conv => rhs; rw [← List.take_append_drop (n + 1) ds]
        rw [List.flatMap_append, List.length_append, List.length_flatMap, List.length_flatMap]
        simp only [List.length_map]
        omega
      rw [et, List.length_append, List.length_map] at h1
      omega
    refine .inr ⟨go, fun H'' => Ex H1 H'' ∧ ∃ acc, H'' Dl = some (.lst acc) ∧ RpAll X.K H'' acc ((ds.take (n + 1)).flatMap fun d => (es d).map (g d)) ∧ lfAll ((ds.take (n + 1)).flatMap fun d => (es d).map (g d)) = true,
      fun H'' nx => ⟨ds.length - (n + 1), by omega, rfl, hlt, nx⟩, fun xv H2 hx => ?_⟩
    obtain ⟨e2, r⟩ := yl xv H2 hx
    obtain ⟨z, ez⟩ := hint _ hm
    have rz : ∀ H9, Rp X.K H9 xv ds[n] := fun H9 => by
      rw [ez] at r ⊢
      rw [r.int_v]
      exact .int z
    have Sat : ∀ H9, Ex H1 H9 → St0 X.K H0 H9 ((wipe σ [i, j]).set i (some xv)) ((wipeE δ [i, j]).set i (some (.dat ds[n]))) := fun H9 e9 => (((S.mono e1).mono e9).wipe [i, j]).set i (s := .dat ds[n]) (rz H9)
    refine ⟨?_, ?_⟩
    · show List.set (List.set (List.set (List.set (List.set σ j none) i none) i (some xv)) j none) i none = List.set (List.set σ j none) i none
      rw [List.set_set, List.set_comm _ _ hij, List.set_set, List.set_set]
    · simp only [tYes, if_true]
      intro s H'' C cl fp
      refine src1 _ hm s H'' C cl fp H0 H2 _ (Sat H2 (ex.trans e2)) _ fun J1 H4 e4 jd1 => ?_
      have any : ∀ H9 : Hp, Ex (fun _ => none) H9 := fun H9 a o h => by cases h
      refine ⟨fun n1 m1 H5 => m1 = (es ds[n]).length - n1 ∧ n1 ≤ (es ds[n]).length ∧ Ex H1 H5 ∧ ∃ acc1, H5 Dl = some (.lst acc1) ∧ RpAll X.K H5 acc1 ((ds.take n).flatMap (fun d => (es d).map (g d)) ++ ((es ds[n]).take n1).map (g ds[n])),
        ⟨(es ds[n]).length, by simp, Nat.zero_le _, (ex.trans e2).trans e4, acc, e4 _ _ (e2 _ _ hacc), by
          rw [List.take_zero, List.map_nil, List.append_nil]
          exact (racc.mono e2).mono e4⟩, ?_⟩
      rintro n1 m1 H5 ⟨rfl, hn1, ex5, acc1, hacc1, racc1⟩
      by_cases hl1 : n1 < (es ds[n]).length
      · have hd1 : (es ds[n])[n1]? = some (es ds[n])[n1] := List.getElem?_eq_getElem hl1
        obtain ⟨go1, yl1⟩ := (jd1 H5 (any H5)).1 n1 _ hd1
        refine .inr ⟨go1, fun H6 => Ex H1 H6 ∧ ∃ acc1, H6 Dl = some (.lst acc1) ∧ RpAll X.K H6 acc1 ((ds.take n).flatMap (fun d => (es d).map (g d)) ++ ((es ds[n]).take (n1 + 1)).map (g ds[n])),
          fun H6 nx => ⟨(es ds[n]).length - (n1 + 1), by omega, rfl, hl1, nx⟩, fun yv H6 hy => ?_⟩
        obtain ⟨e6, ry⟩ := yl1 yv H6 hy
        have S6 := ((Sat H6 (ex5.trans e6)).wipe [j]).set j (s := .dat (es ds[n])[n1]) ry
        refine ⟨?_, ?_⟩
        · show List.set (List.set (List.set ((wipe σ [i, j]).set i (some xv)) j none) j (some yv)) j none = List.set ((wipe σ [i, j]).set i (some xv)) j none
          rw [List.set_set, List.set_set]
        · intro s2 H8 C2 cl2 fp2
          refine he _ hm _ (List.getElem_mem hl1) s2 H8 C2 cl2 fp2 H0 H6 _ S6 _ fun v H7 e7 rv => ?_
          have a7 := e7 _ _ (e6 _ _ hacc1)
          refine ⟨acc1, a7, ?_, ((ex5.trans e6).trans e7).mut hD, acc1 ++ [v], upd_same, ?_⟩
          · rw [racc1.length, List.length_append, List.length_map, List.length_take]
            exact Evl.sz_lt (by omega)
          · rw [take_next hd1, List.map_append, ← List.append_assoc]
            refine Rp.keepTAll (fun _ _ z => sqT_upd a7 z) _ _ ?_ (((racc1.mono e6).mono e7).append (.cons rv .nil))
            exact lfAll_app (lfAll_append lacc (lfm _ _ hm fun z hz => List.mem_of_mem_take hz)) (hlf _ hm _ (List.getElem_mem hl1))
      · have e9 : n1 = (es ds[n]).length := by omega
        subst e9
        rw [List.take_length] at racc1
        refine .inl ⟨(jd1 H5 (any H5)).2, ex5, acc1, hacc1, ?_, ?_⟩
        · rw [et]
          exact racc1
        · rw [et]
          exact lfAll_append lacc (lfm _ _ hm fun z hz => hz)
  · have ei : n = ds.length := by omega
    subst ei
    rw [List.take_length] at racc
    exact .inl ⟨(jd H' ex).2, q Dl acc H' (fresh_back e1 hD) (e1.trans ex) hacc racc⟩
theorem ed_lc2 {es : PyData → List PyData} {g : PyData → PyData → PyData} (src : ID X δ (.Name x p) iter ds) (hz : (ds.flatMap es).length ≤ 50000) (hN : X.N.Nodup) (ok : BlkOk X.N X.env.scope scope [(x, i), (y, j)]) (hg : ∀ s H C cl fp, PG (BK X scope s H C cl fp) (.Name x p) (gName i)) (hg1 : ∀ s H C cl fp, PG (BK X scope s H C cl fp) (.Name y p1) (gName j))
    (hint : ∀ d, d ∈ ds → ∃ z : Int, d = .int z)
    (src1 : ∀ d, d ∈ ds → ∀ s H C cl fp, ID1 (BK X scope s H C cl fp) ((wipeE δ [i, j]).set i (some (.dat d))) (.Name y p1) iter1 (es d))
    (he : ∀ d, d ∈ ds → ∀ d1, d1 ∈ es d → ∀ s H C cl fp, ED (BK X scope s H C cl fp) ((((wipeE δ [i, j]).set i (some (.dat d))).set j none).set j (some (.dat d1))) elt (g d d1)) (hlf : ∀ d, d ∈ ds → ∀ d1, d1 ∈ es d → lf (g d d1) = true)
    (hij : i ≠ j := by decide) (hc : X.calm = true := by rfl) (hs : ∀ x, foldedSetIterable iter X.env x = pure x := by intro _; rfl) (hs1 : ∀ env x, foldedSetIterable iter1 env x = pure x := by intro _ _; rfl) :
    ED X δ (.ListComp elt [⟨.Name x p, iter, [], 0⟩, ⟨.Name y p1, iter1, [], 0⟩] scope pos) (.list (ds.flatMap fun d => (es d).map (g d))) :=
  rl_ed (pe_lc2 (own := [(x, i), (y, j)]) (vs1 := [j]) hc hN pi_b ok (fun k hk => by rw [List.mem_singleton.mp hk]; simp) hg (fun _ _ _ _ _ => pts_nil) (fun _ _ _ _ _ => pi_k) hg1 (fun _ _ _ _ _ => pts_nil) (fun _ _ _ _ _ => pe_k) hs hs1) (lc2_read src hz hij hint src1 he hlf)
end
end G
/-! D0 -/
/-! Own: the text by places, what the top holds. -/
namespace G
open PySem PySem.Spec PyProof.Rows L2
open M (Q2)
open Evl (Ex Ex.refl Ex.trans Ex.new Ex.mut)
def topS (i : Nat) : Stmt := PySem.Challenge.pw_guestseats_k68_whole_chains_like_unlinke.main.body.getD i (.Pass ⟨0, 0, 0, 0⟩)
/-- a fraction's datum -/
abbrev qd (a : Q2) : PyData := .tuple [.int a.1, .int a.2]
abbrev cd (c : List Q2) : PyData := .tuple (c.map qd)
/-- what the module's names hold -/
structure Facts (K : PySem.W.Frag) (mg : Str → Option Value) : Prop where
  len : mg "len" = none
  tuple : mg "tuple" = none
  all : mg "all" = none
  any : mg "any" = none
  max : mg "max" = none
  min : mg "min" = none
  abs : mg "abs" = none
  int : mg "int" = none
  bool : mg "bool" = none
  sum : mg "sum" = none
  list : mg "list" = none
  range : mg "range" = none
  zip : mg "zip" = none
  isinstance : mg "isinstance" = none
  repr : mg "repr" = none
  divmod : mg "divmod" = none
  gcd : mg "gcd" = some (.builtin "math.gcd")
  ZERO : GC K mg "ZERO" (qd M.zeroM)
  ONE : GC K mg "ONE" (qd M.oneM)
  SIZES : GC K mg "SIZES" (.tuple [.int 2, .int 4, .int 8, .int 16, .int 32])
  SIZESk : ∃ a o, mg "SIZES" = some (.ref a) ∧ K.lookup a = some o ∧ o.cls = .type "tuple" ∧ o.dict = none
  MOST : GC K mg "MOST_SEATS" (.int 5)
  LEAST : GC K mg "LEAST_IN_RING" (.int 3)
/-- a def of the text stands under its name -/
structure Df (K : PySem.W.Frag) (mg : Str → Option Value) (x : Str) (st : Stmt) (ps : List Str) : Prop where
  ex : ∃ f fd, Fun K x x st f fd ∧ Binds K fd ps [] ∧ mg x = some (.ref f)
section
variable {P : Program} {w : World} {K : PySem.W.Frag} {mg : Str → Option Value} {base : Heap} {x : Str} {st : Stmt} {N ps : List Str} {k n : Nat} {dom : List PyData → PyData → Prop}
theorem df_ok (D : Df K mg x st ps) (S : FnScope N ps (defScope st)) (hn : ps.length = n)
    (body : ∀ f cdv A outer s H E ds r, Room k (cx P w K mg base N x st f cdv A outer s H E).A → dom ds r → ds.length = n → SDs (cx P w K mg base N x st f cdv A outer s H E) (enD N ds) (defBody st) (.rt r)) : Cal P w K mg base (k + 1) x n dom := by
  obtain ⟨f, fd, F, b, g⟩ := D.ex
  exact def_ok F S b g hn fun cdv A outer s H E ds r hr hd hl => body f cdv A outer s H E ds r hr hd hl
theorem df_okA (D : Df K mg x st ps) (S : FnScope N ps (defScope st)) (hn : ps.length = n)
    (body : ∀ f cdv A outer s H E ds r, Room k (cx P w K mg base N x st f cdv A outer s H E).A → dom ds r → ds.length = n → SDs (cx P w K mg base N x st f cdv A outer s H E) (enA N ds) (defBody st) (.rt r)) : Cal P w K mg base (k + 1) x n dom := by
  obtain ⟨f, fd, F, b, g⟩ := D.ex
  exact def_okA F S b g hn fun cdv A outer s H E ds r hr hd hl => body f cdv A outer s H E ds r hr hd hl
/-- a def that hands back None at its end -/
theorem df_okN (D : Df K mg x st ps) (S : FnScope N ps (defScope st)) (hn : ps.length = n) (hN : ∀ ds r, dom ds r → r = .none)
    (body : ∀ f cdv A outer s H E ds, Room k (cx P w K mg base N x st f cdv A outer s H E).A → dom ds .none → ds.length = n → ∃ δ', SDs (cx P w K mg base N x st f cdv A outer s H E) (enD N ds) (defBody st) (.nx δ')) : Cal P w K mg base (k + 1) x n dom := by
  obtain ⟨f, fd, F, b, g⟩ := D.ex
  refine ⟨f, fd, ps, F.ok S (fun vs H Q E h => ?_) fun cdv A outer s H vs Q E hr h => ?_, g, F.kp, b⟩
  · obtain ⟨ds, r, h1, h2, _⟩ := h
    rw [h1.length, h2, hn]
  · obtain ⟨ds, r, h1, h2, h3, q⟩ := h
    have er := hN ds r h3
    subst er
    obtain ⟨δ', h4⟩ := body f cdv A outer s H E ds hr h3 h2
    refine ⟨bSs _ _, pss_b, h4 H H _ ?_ _ fun σ' H' S' => q .non H' S'.ex .non⟩
    have e := start_St0 (K := K) (H := H) (N := N) (mk := Sl.dat) (fun v d r => r) (N.length - vs.length) h1
    rw [h1.length] at e
    unfold L2.start enD
    rw [h1.length]
    exact e
end
/-! names by their places -/
section
variable {X : Cx} {δ : En} {pos p p2 : Pos} {x : Str} {d : PyData} {ds : List PyData} {a b e : Expr} {q q2 : Q2}
theorem ed_v (i : Nat) (hs : δ[i]? = some (some (.dat d)) := by rfl) (hN : X.N[i]? = some x := by rfl) (hv : Vis X.env.scope x := by first | exact Or.inl rfl | exact Or.inr (Or.inl rfl) | exact Or.inr (Or.inr rfl))
    (h1 : (x == ("__debug__" : Str)) = false := by decide) (h2 : (x == ("__classdict__" : Str)) = false := by decide) : ED X δ (.Name x pos) d := ed_var hs rfl hN hv h1 h2
theorem ed_vA (i : Nat) (hs : δ[i]? = some (some (.arg d)) := by rfl) (hN : X.N[i]? = some x := by rfl) (hv : Vis X.env.scope x := by first | exact Or.inl rfl | exact Or.inr (Or.inl rfl) | exact Or.inr (Or.inr rfl))
    (h1 : (x == ("__debug__" : Str)) = false := by decide) (h2 : (x == ("__classdict__" : Str)) = false := by decide) : ED X δ (.Name x pos) d := ed_var hs rfl hN hv h1 h2
theorem ed_vO (i : Nat) (hs : δ[i]? = some (some (.own ds)) := by rfl) (hN : X.N[i]? = some x := by rfl) (hv : Vis X.env.scope x := by first | exact Or.inl rfl | exact Or.inr (Or.inl rfl) | exact Or.inr (Or.inr rfl))
    (h1 : (x == ("__debug__" : Str)) = false := by decide) (h2 : (x == ("__classdict__" : Str)) = false := by decide) : ED X δ (.Name x pos) (.list ds) := ed_var hs rfl hN hv h1 h2
theorem ed_q0 {k : Nat} (h : ED X δ a (qd q)) : ED X δ (.Subscript a (.Constant (.int 0) k p) pos) (.int q.1) := ed_ixT (j := 0) h ed_int rfl (fun _ _ => rfl)
theorem ed_q1 {k : Nat} (h : ED X δ a (qd q)) : ED X δ (.Subscript a (.Constant (.int 1) k p) pos) (.int q.2) := ed_ixT (j := 1) h ed_int rfl (fun _ _ => rfl)
theorem ed_t0 {k : Nat} {d e : PyData} (h : ED X δ a (.tuple [d, e])) : ED X δ (.Subscript a (.Constant (.int 0) k p) pos) d := ed_ixT (j := 0) h ed_int rfl (fun _ _ => rfl)
theorem ed_t1 {k : Nat} {d e : PyData} (h : ED X δ a (.tuple [d, e])) : ED X δ (.Subscript a (.Constant (.int 1) k p) pos) e := ed_ixT (j := 1) h ed_int rfl (fun _ _ => rfl)
end
/-! sizes of ints, as the rules ask -/
theorem cmul {i j : Int} {a b : Nat} (ha : i.natAbs < 2 ^ a) (hb : j.natAbs < 2 ^ b) (h : a + b ≤ 100000) : CMulW i j :=
  wide_mul (M.lt_mono ha (Nat.le_succ a)) (M.lt_mono hb (Nat.le_succ b)) (Nat.succ_pos _) (Nat.succ_pos _) (by omega)
theorem cdiv {i j : Int} {b : Nat} (h : 0 < j) (hb : j.natAbs < 2 ^ b) (hl : b ≤ 8999) : CDivW i j := wide_div h (M.lt_mono hb (Nat.le_succ b)) (Nat.succ_pos _) (by omega)
end G
/-! D1 -/
namespace G
open PySem PySem.Spec PyProof.Rows L2
open M (Q2 Bd Amt gc)
section
variable {P : Program} {w : World} {K : PySem.W.Frag} {mg : Str → Option Value} {base : Heap}
abbrev s_is_whole : Stmt := topS 8
abbrev N_is_whole : List Str := ["value"]
theorem sc_is_whole : FnScope N_is_whole ["value"] (defScope s_is_whole) := ⟨rfl, rfl, rfl, by decide +kernel, rfl, by decide +kernel, by decide +kernel⟩
def dom_is_whole (ds : List PyData) (r : PyData) : Prop := ∃ i : Int, ds = [.int i] ∧ r = .bool true
theorem ok_is_whole (T : Facts K mg) (D : Df K mg "is_whole" s_is_whole ["value"]) : Cal P w K mg base 1 "is_whole" 1 dom_is_whole := by
  refine df_ok D sc_is_whole rfl fun f cdv A outer s H E ds r hr h hl => ?_
  obtain ⟨i, rfl, rfl⟩ := h
  show SDs _ [some (.dat (.int i))] _ _
  exact sds_one (sd_ret (ed_is (ed_and (ed_isInt (k := true) T.isinstance T.int PyProof.Rows.boot_int (ed_v 0) (by decide +kernel)) fun _ => ed_one (ed_not (ed_isInt (k := false) T.isinstance T.bool PyProof.Rows.boot_bool (ed_v 0) (by decide +kernel)))) rfl))
abbrev s_is_between : Stmt := topS 9
abbrev N_is_between : List Str := ["value", "low", "high"]
theorem sc_is_between : FnScope N_is_between ["value", "low", "high"] (defScope s_is_between) := ⟨rfl, rfl, rfl, by decide +kernel, rfl, by decide +kernel, by decide +kernel⟩
def dom_is_between (ds : List PyData) (r : PyData) : Prop := ∃ i l h : Int, ds = [.int i, .int l, .int h] ∧ r = .bool (decide (l ≤ i) && decide (i ≤ h))
theorem ok_is_between (T : Facts K mg) (D : Df K mg "is_between" s_is_between ["value", "low", "high"]) (c_is_whole : Cal P w K mg base 1 "is_whole" 1 dom_is_whole) : Cal P w K mg base 2 "is_between" 3 dom_is_between := by
  refine df_ok D sc_is_between rfl fun f cdv A outer s H E ds r hr h hl => ?_
  obtain ⟨i, l, h, rfl, rfl⟩ := h
  show SDs _ [some (.dat (.int i)), some (.dat (.int l)), some (.dat (.int h))] _ _
  exact sds_one (sd_ret (ed_is (ed_and (ed_call c_is_whole hr (ad_cons (ed_v 0) ad_nil) ⟨i, rfl, rfl⟩) fun _ => ed_and (ed_le (ed_v 1) (ed_v 0)) fun _ => ed_one (ed_le (ed_v 0) (ed_v 2))) (by rw [Bool.true_and])))
abbrev s_are_wholes : Stmt := topS 10
abbrev N_are_wholes : List Str := ["value", "many", "each"]
theorem sc_are_wholes : FnScope N_are_wholes ["value", "many"] (defScope s_are_wholes) := ⟨rfl, rfl, rfl, by decide +kernel, rfl, by decide +kernel, by decide +kernel⟩
def dom_are_wholes (ds : List PyData) (r : PyData) : Prop := ∃ q : Q2, ds = [qd q, .int 2] ∧ r = .bool true
theorem ok_are_wholes (T : Facts K mg) (D : Df K mg "are_wholes" s_are_wholes ["value", "many"]) (c_is_whole : Cal P w K mg base 1 "is_whole" 1 dom_is_whole) : Cal P w K mg base 2 "are_wholes" 2 dom_are_wholes := by
  refine df_ok D sc_are_wholes rfl fun f cdv A outer s H E ds r hr h hl => ?_
  obtain ⟨q, rfl, rfl⟩ := h
  show SDs _ [some (.dat (qd q)), some (.dat (.int 2)), none] _ _
  exact sds_one (sd_ret (ed_is (ed_and (ed_isTup (k := true) T.isinstance T.tuple PyProof.Rows.boot_tuple (ed_v 0) (by decide +kernel)) fun _ => ed_and (ed_eqI (ed_len_t (n := 2) T.len (ad_cons (ed_v 0) ad_nil) rfl) (ed_v 1)) fun _ =>
    ed_one (ed_all (bs := [true, true]) rfl T.all (ad_cons (ed_is (ed_lc (j := 2) (g := fun _ => .bool true) (id_tup (ed_v 0)) (Nat.le_of_ble_eq_true rfl) sc_are_wholes.nd (blkOk_by (N := N_are_wholes) (sc := defScope s_are_wholes) (by decide +kernel)) (fun _ _ _ _ _ => pg_name sc_are_wholes.nd rfl (Or.inl rfl))
      (fun d hd s H C cl fp => ed_call c_is_whole hr (ad_cons (ed_v 2) ad_nil) (by
        rcases List.mem_cons.mp hd with e | hd
        · exact ⟨_, by rw [e], rfl⟩
        · exact ⟨_, by rw [List.mem_singleton.mp hd], rfl⟩)) (fun _ _ => rfl)) rfl) ad_nil))) rfl))
abbrev s_divisor_of : Stmt := topS 11
abbrev N_divisor_of : List Str := ["numbers", "found", "number"]
theorem sc_divisor_of : FnScope N_divisor_of ["numbers"] (defScope s_divisor_of) := ⟨rfl, rfl, rfl, by decide +kernel, rfl, by decide +kernel, by decide +kernel⟩
def dom_divisor_of (ds : List PyData) (r : PyData) : Prop := ∃ q : Q2, ds = [qd q] ∧ r = .int (gc q.1 q.2 : Nat)
theorem ok_divisor_of (T : Facts K mg) (D : Df K mg "divisor_of" s_divisor_of ["numbers"]) : Cal P w K mg base 1 "divisor_of" 1 dom_divisor_of := by
  refine df_ok D sc_divisor_of rfl fun f cdv A outer s H E ds r hr h hl => ?_
  obtain ⟨q, rfl, rfl⟩ := h
  show SDs _ [some (.dat (qd q)), none, none] _ _
  refine sds_cons (sd_set (i := 1) ed_int sc_divisor_of.nd) ?_
  refine sds_cons (sd_forG (ds := [.int q.1, .int q.2]) (id_tup (ed_v 0)) (pg_name (i := 2) sc_divisor_of.nd rfl (Or.inl rfl))
    (fun i => match i with
      | 0 => [some (.dat (qd q)), some (.dat (.int 0)), none]
      | 1 => [some (.dat (qd q)), some (.dat (.int ((Nat.gcd (0 : Int).natAbs q.1.natAbs : Nat) : Int))), none]
      | _ => [some (.dat (qd q)), some (.dat (.int ((Nat.gcd ((Nat.gcd (0 : Int).natAbs q.1.natAbs : Nat) : Int).natAbs q.2.natAbs : Nat) : Int))), none])
    (leE.refl _) (fun i => by rcases i with _ | _ | i <;> rfl) fun i d hd => ?_) ?_
  · rcases i with _ | _ | i
    · cases hd
      exact ⟨_, _, gd_name, sds_one (sd_set (i := 1) (ed_gcd T.gcd (ad_cons (ed_v 1) (ad_cons (ed_v 2) ad_nil))) sc_divisor_of.nd), ⟨rfl, rfl, trivial⟩⟩
    · cases hd
      exact ⟨_, _, gd_name, sds_one (sd_set (i := 1) (ed_gcd T.gcd (ad_cons (ed_v 1) (ad_cons (ed_v 2) ad_nil))) sc_divisor_of.nd), ⟨rfl, rfl, trivial⟩⟩
    · cases hd
  · refine sds_one (sd_ret (ed_is (ed_v 1) ?_))
    show PyData.int ((Nat.gcd (Nat.gcd 0 q.1.natAbs) q.2.natAbs : Nat) : Int) = _
    rw [Nat.gcd_zero_left]
    rfl
abbrev s_lowest : Stmt := topS 12
abbrev N_lowest : List Str := ["numbers", "part", "number"]
theorem sc_lowest : FnScope N_lowest ["numbers"] (defScope s_lowest) := ⟨rfl, rfl, rfl, by decide +kernel, rfl, by decide +kernel, by decide +kernel⟩
def dom_lowest (ds : List PyData) (r : PyData) : Prop := ∃ q : Q2, ds = [qd q] ∧ 0 < q.2 ∧ q.2.natAbs < 2 ^ 8999 ∧ r = qd (M.lowM q.1 q.2)
theorem ok_lowest (T : Facts K mg) (D : Df K mg "lowest" s_lowest ["numbers"]) (c_divisor_of : Cal P w K mg base 1 "divisor_of" 1 dom_divisor_of) : Cal P w K mg base 2 "lowest" 1 dom_lowest := by
  refine df_ok D sc_lowest rfl fun f cdv A outer s H E ds r hr h hl => ?_
  obtain ⟨q, rfl, h0, hb, rfl⟩ := h
  show SDs _ [some (.dat (qd q)), none, none] _ _
  have g0 : 0 < gc q.1 q.2 := M.gc_pos (by omega)
  have gl : gc q.1 q.2 ≤ q.2.natAbs := Nat.le_of_dvd (by omega) (Nat.gcd_dvd_right _ _)
  have cd : ∀ i : Int, CDivW i ((gc q.1 q.2 : Nat) : Int) := fun i => cdiv (by omega) (Nat.lt_of_le_of_lt (by rw [Int.natAbs_natCast]; exact gl) hb) (Nat.le_refl _)
  refine sds_cons (sd_set (i := 1) (ed_call c_divisor_of hr (ad_cons (ed_v 0) ad_nil) ⟨q, rfl, rfl⟩) sc_lowest.nd) ?_
  refine sds_one (sd_ret (ed_if (td_is (td_eqI (ed_v 1) ed_int) (decide_eq_false (by omega))) (fun z => by cases z) fun _ =>
    ed_is (ed_tuple_l T.tuple (ad_cons (ed_lc (j := 2) (g := fun d => match d with | .int i => .int (i / ((gc q.1 q.2 : Nat) : Int)) | z => z) (id_tup (ed_v 0)) (Nat.le_of_ble_eq_true rfl) sc_lowest.nd (blkOk_by (N := N_lowest) (sc := defScope s_lowest) (by decide +kernel)) (fun _ _ _ _ _ => pg_name sc_lowest.nd rfl (Or.inl rfl))
      (fun d hd s H C cl fp => ?_) (fun d hd => ?_)) ad_nil)) rfl))
  · rcases List.mem_cons.mp hd with e | hd
    · subst e
      exact ed_div (ed_v 2) (ed_v 1) (cd _)
    · have e := List.mem_singleton.mp hd
      subst e
      exact ed_div (ed_v 2) (ed_v 1) (cd _)
  · rcases List.mem_cons.mp hd with e | hd
    · subst e
      rfl
    · have e := List.mem_singleton.mp hd
      subst e
      rfl
abbrev s_is_ratio : Stmt := topS 17
abbrev N_is_ratio : List Str := ["value"]
theorem sc_is_ratio : FnScope N_is_ratio ["value"] (defScope s_is_ratio) := ⟨rfl, rfl, rfl, by decide +kernel, rfl, by decide +kernel, by decide +kernel⟩
def dom_is_ratio (ds : List PyData) (r : PyData) : Prop := ∃ q : Q2, ds = [qd q] ∧ 0 < q.2 ∧ gc q.1 q.2 = 1 ∧ r = .bool true
theorem ok_is_ratio (T : Facts K mg) (D : Df K mg "is_ratio" s_is_ratio ["value"]) (c_are_wholes : Cal P w K mg base 2 "are_wholes" 2 dom_are_wholes) (c_divisor_of : Cal P w K mg base 1 "divisor_of" 1 dom_divisor_of) : Cal P w K mg base 3 "is_ratio" 1 dom_is_ratio := by
  refine df_ok D sc_is_ratio rfl fun f cdv A outer s H E ds r hr h hl => ?_
  obtain ⟨q, rfl, h0, hg, rfl⟩ := h
  show SDs _ [some (.dat (qd q))] _ _
  exact sds_one (sd_ret (ed_is (ed_and (ed_call c_are_wholes hr (ad_cons (ed_v 0) (ad_cons ed_int ad_nil)) ⟨q, rfl, rfl⟩) fun _ => ed_and (ed_gt (ed_q1 (ed_v 0)) ed_int) fun _ =>
    ed_one (ed_eqI (ed_call c_divisor_of hr (ad_cons (ed_v 0) ad_nil) ⟨q, rfl, rfl⟩) ed_int)) (by rw [decide_eq_true h0, hg]; rfl)))
abbrev s_ratio : Stmt := topS 18
abbrev N_ratio : List Str := ["top", "low"]
theorem sc_ratio : FnScope N_ratio ["top", "low"] (defScope s_ratio) := ⟨rfl, rfl, rfl, by decide +kernel, rfl, by decide +kernel, by decide +kernel⟩
def dom_ratio (ds : List PyData) (r : PyData) : Prop := ∃ n d : Int, ds = [.int n, .int d] ∧ d ≠ 0 ∧ d.natAbs < 2 ^ 8999 ∧ r = qd (M.ratioM n d)
theorem ok_ratio (T : Facts K mg) (D : Df K mg "ratio" s_ratio ["top", "low"]) (c_lowest : Cal P w K mg base 2 "lowest" 1 dom_lowest) : Cal P w K mg base 3 "ratio" 2 dom_ratio := by
  refine df_ok D sc_ratio rfl fun f cdv A outer s H E ds r hr h hl => ?_
  obtain ⟨n, d, rfl, h0, hb, rfl⟩ := h
  show SDs _ [some (.dat (.int n)), some (.dat (.int d))] _ _
  refine sds_one (sd_ret (ed_if (td_gt (ed_v 1) ed_int) (fun z => ?_) fun z => ?_))
  · have z := of_decide_eq_true z
    rw [M.ratioM_pos z]
    exact ed_call c_lowest hr (ad_cons (ed_tup (ad_cons (ed_v 0) (ad_cons (ed_v 1) ad_nil))) ad_nil) ⟨(n, d), rfl, z, hb, rfl⟩
  · have z := of_decide_eq_false z
    rw [M.ratioM_neg (by omega)]
    exact ed_call c_lowest hr (ad_cons (ed_tup (ad_cons (ed_neg (ed_v 0)) (ad_cons (ed_neg (ed_v 1)) ad_nil))) ad_nil) ⟨(-n, -d), rfl, by show 0 < -d; omega, by rw [Int.natAbs_neg]; exact hb, rfl⟩
def dom2 (f : Q2 → Q2 → Q2) (ds : List PyData) (r : PyData) : Prop := ∃ (a b : Q2) (n m : Nat), ds = [qd a, qd b] ∧ Bd n a ∧ Bd m b ∧ n + m ≤ 8998 ∧ r = qd (f a b)
abbrev s_plus : Stmt := topS 19
abbrev N_plus : List Str := ["one", "two"]
theorem sc_plus : FnScope N_plus ["one", "two"] (defScope s_plus) := ⟨rfl, rfl, rfl, by decide +kernel, rfl, by decide +kernel, by decide +kernel⟩
abbrev dom_plus := dom2 M.plusM
theorem ok_plus (T : Facts K mg) (D : Df K mg "plus" s_plus ["one", "two"]) (c_ratio : Cal P w K mg base 3 "ratio" 2 dom_ratio) : Cal P w K mg base 4 "plus" 2 dom_plus := by
  refine df_ok D sc_plus rfl fun f cdv A outer s H E ds r hr h hl => ?_
  obtain ⟨a, b, n, m, rfl, ha, hb, hl, rfl⟩ := h
  show SDs _ [some (.dat (qd a)), some (.dat (qd b))] _ _
  exact sds_one (sd_ret (ed_call c_ratio hr (ad_cons (ed_add (ed_mul (ed_q0 (ed_v 0)) (ed_q1 (ed_v 1)) (cmul ha.n1 hb.d1 (by omega))) (ed_mul (ed_q0 (ed_v 1)) (ed_q1 (ed_v 0)) (cmul hb.n1 ha.d1 (by omega)))) (ad_cons (ed_mul (ed_q1 (ed_v 0)) (ed_q1 (ed_v 1)) (cmul ha.d1 hb.d1 (by omega))) ad_nil))
    ⟨_, _, rfl, Int.ne_of_gt (Int.mul_pos ha.d0 hb.d0), M.lt_mono (M.mul_lt ha.d1 hb.d1) (by omega), rfl⟩))
abbrev s_minus : Stmt := topS 20
abbrev N_minus : List Str := ["one", "two"]
theorem sc_minus : FnScope N_minus ["one", "two"] (defScope s_minus) := ⟨rfl, rfl, rfl, by decide +kernel, rfl, by decide +kernel, by decide +kernel⟩
abbrev dom_minus := dom2 M.minusM
theorem ok_minus (T : Facts K mg) (D : Df K mg "minus" s_minus ["one", "two"]) (c_ratio : Cal P w K mg base 3 "ratio" 2 dom_ratio) : Cal P w K mg base 4 "minus" 2 dom_minus := by
  refine df_ok D sc_minus rfl fun f cdv A outer s H E ds r hr h hl => ?_
  obtain ⟨a, b, n, m, rfl, ha, hb, hl, rfl⟩ := h
  show SDs _ [some (.dat (qd a)), some (.dat (qd b))] _ _
  exact sds_one (sd_ret (ed_call c_ratio hr (ad_cons (ed_sub (ed_mul (ed_q0 (ed_v 0)) (ed_q1 (ed_v 1)) (cmul ha.n1 hb.d1 (by omega))) (ed_mul (ed_q0 (ed_v 1)) (ed_q1 (ed_v 0)) (cmul hb.n1 ha.d1 (by omega)))) (ad_cons (ed_mul (ed_q1 (ed_v 0)) (ed_q1 (ed_v 1)) (cmul ha.d1 hb.d1 (by omega))) ad_nil))
    ⟨_, _, rfl, Int.ne_of_gt (Int.mul_pos ha.d0 hb.d0), M.lt_mono (M.mul_lt ha.d1 hb.d1) (by omega), rfl⟩))
abbrev s_times : Stmt := topS 21
abbrev N_times : List Str := ["one", "two"]
theorem sc_times : FnScope N_times ["one", "two"] (defScope s_times) := ⟨rfl, rfl, rfl, by decide +kernel, rfl, by decide +kernel, by decide +kernel⟩
abbrev dom_times := dom2 M.timesM
theorem ok_times (T : Facts K mg) (D : Df K mg "times" s_times ["one", "two"]) (c_ratio : Cal P w K mg base 3 "ratio" 2 dom_ratio) : Cal P w K mg base 4 "times" 2 dom_times := by
  refine df_ok D sc_times rfl fun f cdv A outer s H E ds r hr h hl => ?_
  obtain ⟨a, b, n, m, rfl, ha, hb, hl, rfl⟩ := h
  show SDs _ [some (.dat (qd a)), some (.dat (qd b))] _ _
  exact sds_one (sd_ret (ed_call c_ratio hr (ad_cons (ed_mul (ed_q0 (ed_v 0)) (ed_q0 (ed_v 1)) (cmul ha.n1 hb.n1 (by omega))) (ad_cons (ed_mul (ed_q1 (ed_v 0)) (ed_q1 (ed_v 1)) (cmul ha.d1 hb.d1 (by omega))) ad_nil))
    ⟨_, _, rfl, Int.ne_of_gt (Int.mul_pos ha.d0 hb.d0), M.lt_mono (M.mul_lt ha.d1 hb.d1) (by omega), rfl⟩))
abbrev s_over : Stmt := topS 22
abbrev N_over : List Str := ["one", "two"]
theorem sc_over : FnScope N_over ["one", "two"] (defScope s_over) := ⟨rfl, rfl, rfl, by decide +kernel, rfl, by decide +kernel, by decide +kernel⟩
def dom_over (ds : List PyData) (r : PyData) : Prop := ∃ (a b : Q2) (n m : Nat), ds = [qd a, qd b] ∧ Bd n a ∧ Bd m b ∧ n + m ≤ 8998 ∧ b.1 ≠ 0 ∧ r = qd (M.overM a b)
theorem ok_over (T : Facts K mg) (D : Df K mg "over" s_over ["one", "two"]) (c_ratio : Cal P w K mg base 3 "ratio" 2 dom_ratio) : Cal P w K mg base 4 "over" 2 dom_over := by
  refine df_ok D sc_over rfl fun f cdv A outer s H E ds r hr h hl => ?_
  obtain ⟨a, b, n, m, rfl, ha, hb, hl, h0, rfl⟩ := h
  show SDs _ [some (.dat (qd a)), some (.dat (qd b))] _ _
  exact sds_one (sd_ret (ed_call c_ratio hr (ad_cons (ed_mul (ed_q0 (ed_v 0)) (ed_q1 (ed_v 1)) (cmul ha.n1 hb.d1 (by omega))) (ad_cons (ed_mul (ed_q1 (ed_v 0)) (ed_q0 (ed_v 1)) (cmul ha.d1 hb.n1 (by omega))) ad_nil))
    ⟨_, _, rfl, Int.mul_ne_zero (Int.ne_of_gt ha.d0) h0, M.lt_mono (M.mul_lt ha.d1 hb.n1) (by omega), rfl⟩))
abbrev s_is_below : Stmt := topS 24
abbrev N_is_below : List Str := ["one", "two"]
theorem sc_is_below : FnScope N_is_below ["one", "two"] (defScope s_is_below) := ⟨rfl, rfl, rfl, by decide +kernel, rfl, by decide +kernel, by decide +kernel⟩
def dom_is_below (ds : List PyData) (r : PyData) : Prop := ∃ (a b : Q2) (n m : Nat), ds = [qd a, qd b] ∧ Bd n a ∧ Bd m b ∧ n + m ≤ 8998 ∧ r = .bool (M.belowM a b)
theorem ok_is_below (T : Facts K mg) (D : Df K mg "is_below" s_is_below ["one", "two"]) : Cal P w K mg base 1 "is_below" 2 dom_is_below := by
  refine df_ok D sc_is_below rfl fun f cdv A outer s H E ds r hr h hl => ?_
  obtain ⟨a, b, n, m, rfl, ha, hb, hl, rfl⟩ := h
  show SDs _ [some (.dat (qd a)), some (.dat (qd b))] _ _
  exact sds_one (sd_ret (ed_is (ed_lt (ed_mul (ed_q0 (ed_v 0)) (ed_q1 (ed_v 1)) (cmul ha.n1 hb.d1 (by omega))) (ed_mul (ed_q0 (ed_v 1)) (ed_q1 (ed_v 0)) (cmul hb.n1 ha.d1 (by omega)))) rfl))
end
end G
/-! D2 -/
namespace G
open PySem PySem.Spec PyProof.Rows L2
open M (Q2 Bd Amt gc)
/-- a carrier of n seats -/
structure VC (n : Nat) (c : List Q2) : Prop where
  len : c.length = 2 ^ n
  n1 : 1 ≤ n
  n5 : n ≤ 5
  amt : ∀ a ∈ c, Amt a
  bd : ∀ a ∈ c, Bd 64 a
  one : c[0]? = some M.oneM
theorem five {n : Nat} (h1 : 1 ≤ n) (h5 : n ≤ 5) : n = 1 ∨ n = 2 ∨ n = 3 ∨ n = 4 ∨ n = 5 := by omega
theorem len32 {n : Nat} (h5 : n ≤ 5) : 2 ^ n ≤ 32 := Nat.pow_le_pow_right (n := 2) (by decide) h5
theorem VC.lt {n : Nat} {c : List Q2} (h : VC n c) : c.length ≤ 32 := by rw [h.len]; exact len32 h.n5
theorem qd_map {c : List Q2} {i : Nat} {a : Q2} (h : c[i]? = some a) : (c.map qd)[i]? = some (qd a) := by rw [List.getElem?_map, h]; rfl
theorem VC.at {n : Nat} {c : List Q2} (h : VC n c) {s : Nat} (hs : s < 2 ^ n) : (c.map qd)[s]? = some (qd (c.getD s M.zeroM)) ∧ Amt (c.getD s M.zeroM) ∧ Bd 64 (c.getD s M.zeroM) := by
  have hl : s < c.length := by rw [h.len]; exact hs
  have e : c[s]? = some c[s] := List.getElem?_eq_getElem hl
  have e2 : c.getD s M.zeroM = c[s] := by rw [List.getD_eq_getElem?_getD, e]; rfl
  rw [e2]
  exact ⟨qd_map e, h.amt _ (List.getElem_mem hl), h.bd _ (List.getElem_mem hl)⟩
theorem all_true {α : Type} (l : List α) : (l.map fun _ => true).all id = true := by
  rw [List.all_map]
  exact List.all_eq_true.mpr fun _ _ => rfl
abbrev chd (w f : Q2) : PyData := .tuple [qd w, qd f]
section
variable {P : Program} {w : World} {K : PySem.W.Frag} {mg : Str → Option Value} {base : Heap}
abbrev s_bits_in : Stmt := topS 13
abbrev N_bits_in : List Str := ["number", "found"]
theorem sc_bits_in : FnScope N_bits_in ["number"] (defScope s_bits_in) := ⟨rfl, rfl, rfl, by decide +kernel, rfl, by decide +kernel, by decide +kernel⟩
def klen (n : Nat) : Nat := if n = 0 then 0 else if n < 2 then 1 else if n < 4 then 2 else if n < 8 then 3 else if n < 16 then 4 else 5
theorem klen_ok : ∀ n : Nat, n < 32 → (∀ i, i < klen n → 0 < (M.bst n i).2) ∧ (M.bst n (klen n)).2 = 0 ∧ (M.bst n (klen n)).1 = M.bitsM n := by decide +kernel
def dom_bits_in (ds : List PyData) (r : PyData) : Prop := ∃ n : Nat, ds = [.int (n : Int)] ∧ n < 32 ∧ r = .int (M.bitsM n : Nat)
theorem ok_bits_in (T : Facts K mg) (D : Df K mg "bits_in" s_bits_in ["number"]) : Cal P w K mg base 1 "bits_in" 1 dom_bits_in := by
  refine df_ok D sc_bits_in rfl fun f cdv A outer s H E ds r hr h hl => ?_
  obtain ⟨n, rfl, hn, rfl⟩ := h
  obtain ⟨k1, k2, k3⟩ := klen_ok n hn
  show SDs _ [some (.dat (.int (n : Int))), none] _ _
  refine sds_cons (sd_set (i := 1) ed_int sc_bits_in.nd) ?_
  refine sds_cons (sd_while (fun i => [some (.dat (.int ((M.bst n i).2 : Nat))), some (.dat (.int ((M.bst n i).1 : Nat)))]) (klen n) (leE.refl _) (fun i hi => ⟨td_is (td_gt (ed_v 0) ed_int) (decide_eq_true (by have := k1 i hi; omega)), _, sds_one (sd_par (i := 1) (j := 0) (ad_cons (ed_add (ed_v 1) (ed_mod (ed_v 0) ed_int (by decide))) (ad_cons (ed_div (ed_v 0) ed_int (cdiv (b := 2) (by decide) (by decide) (by decide))) ad_nil)) sc_bits_in.nd), ?_⟩) (td_is (td_gt (ed_v 0) ed_int) (decide_eq_false (by rw [k2]; decide)))) ?_
  · refine ⟨?_, ?_, trivial⟩
    · show some (Sl.dat (.int (((M.bst n i).2 : Int) / 2))) = some (Sl.dat (.int (((M.bst n i).2 / 2 : Nat) : Int)))
      rw [Int.natCast_ediv]
      rfl
    · show some (Sl.dat (.int (((M.bst n i).1 : Int) + ((M.bst n i).2 : Int) % 2))) = some (Sl.dat (.int (((M.bst n i).1 + (M.bst n i).2 % 2 : Nat) : Int)))
      rw [Int.natCast_add, Int.natCast_emod]
      rfl
  · refine sds_one (sd_ret (ed_is (ed_v 1) ?_))
    rw [k3]
abbrev s_power : Stmt := topS 23
abbrev N_power : List Str := ["one", "many", "top", "low", "_"]
theorem sc_power : FnScope N_power ["one", "many"] (defScope s_power) := ⟨rfl, rfl, rfl, by decide +kernel, rfl, by decide +kernel, by decide +kernel⟩
def dom_power (ds : List PyData) (r : PyData) : Prop := ∃ (a : Q2) (k n : Nat), ds = [qd a, .int (k : Int)] ∧ Bd n a ∧ k ≤ 100 ∧ n ≤ 100 ∧ r = qd (M.powM a k)
theorem ok_power (T : Facts K mg) (D : Df K mg "power" s_power ["one", "many"]) : Cal P w K mg base 1 "power" 2 dom_power := by
  refine df_ok D sc_power rfl fun f cdv A outer s H E ds r hr h hl => ?_
  obtain ⟨a, k, n, rfl, ha, hk, hn, rfl⟩ := h
  show SDs _ [some (.dat (qd a)), some (.dat (.int (k : Int))), none, none, none] _ _
  refine sds_cons (sd_unp (i := 2) (j := 3) (ed_tup (ad_cons ed_int (ad_cons ed_int ad_nil))) sc_power.nd (hg := pg_tup rfl (pgs_cons (pg_name sc_power.nd rfl (Or.inl rfl)) (pgs_cons (pg_name sc_power.nd rfl (Or.inl rfl)) pgs_nil)))) ?_
  have bn : ∀ i, i ≤ k → n * i + 1 ≤ 10001 := fun i hi => by
    have h1 : n * i ≤ 100 * 100 := Nat.mul_le_mul hn (Nat.le_trans hi hk)
    omega
  refine sds_cons (sd_forG (ds := rgD 0 k) (id_rng1 (ad_cons (ed_v 1) ad_nil) (by omega) T.range) (pg_name (i := 4) sc_power.nd rfl (Or.inl rfl)) (fun i => [some (.dat (qd a)), some (.dat (.int (k : Int))), some (.dat (.int (a.1 ^ i))), some (.dat (.int (a.2 ^ i))), none])
    ⟨rfl, rfl, by rw [Int.pow_zero], by rw [Int.pow_zero], trivial⟩ (fun _ => rfl) fun i d hd => ?_) ?_
  · obtain ⟨hi, rfl⟩ := rgD_get hd
    refine ⟨_, _, gd_name, sds_one (sd_par (i := 2) (j := 3) (ad_cons (ed_mul (ed_v 2) (ed_q0 (ed_v 0)) (cmul (M.pow_lt ha.n1 i) ha.n1 (by have := bn i (by omega); omega))) (ad_cons (ed_mul (ed_v 3) (ed_q1 (ed_v 0)) (cmul (M.pow_lt ha.d1 i) ha.d1 (by have := bn i (by omega); omega))) ad_nil)) sc_power.nd), ⟨rfl, rfl, ?_, ?_, trivial⟩⟩
    · rw [Int.pow_succ]
    · rw [Int.pow_succ]
  · rw [rgD_len]
    exact sds_one (sd_ret (ed_tup (ad_cons (ed_v 2) (ad_cons (ed_v 3) ad_nil))))
abbrev s_is_amount : Stmt := topS 27
abbrev N_is_amount : List Str := ["value"]
theorem sc_is_amount : FnScope N_is_amount ["value"] (defScope s_is_amount) := ⟨rfl, rfl, rfl, by decide +kernel, rfl, by decide +kernel, by decide +kernel⟩
def dom_is_amount (ds : List PyData) (r : PyData) : Prop := ∃ q : Q2, ds = [qd q] ∧ Amt q ∧ r = .bool true
theorem ok_is_amount (T : Facts K mg) (D : Df K mg "is_amount" s_is_amount ["value"]) (c_is_ratio : Cal P w K mg base 3 "is_ratio" 1 dom_is_ratio) : Cal P w K mg base 4 "is_amount" 1 dom_is_amount := by
  refine df_ok D sc_is_amount rfl fun f cdv A outer s H E ds r hr h hl => ?_
  obtain ⟨q, rfl, ha, rfl⟩ := h
  show SDs _ [some (.dat (qd q))] _ _
  exact sds_one (sd_ret (ed_is (ed_and (ed_call c_is_ratio hr (ad_cons (ed_v 0) ad_nil) ⟨q, rfl, ha.d0, ha.cop, rfl⟩) fun _ => ed_one (ed_gt (ed_q0 (ed_v 0)) ed_int)) (by rw [decide_eq_true ha.n0]; rfl)))
abbrev s_is_carrier : Stmt := topS 28
abbrev N_is_carrier : List Str := ["value", "each"]
theorem sc_is_carrier : FnScope N_is_carrier ["value"] (defScope s_is_carrier) := ⟨rfl, rfl, rfl, by decide +kernel, rfl, by decide +kernel, by decide +kernel⟩
def dom_is_carrier (ds : List PyData) (r : PyData) : Prop := ∃ (n : Nat) (c : List Q2), ds = [cd c] ∧ VC n c ∧ r = .bool true
theorem ok_is_carrier (T : Facts K mg) (D : Df K mg "is_carrier" s_is_carrier ["value"]) (c_is_amount : Cal P w K mg base 4 "is_amount" 1 dom_is_amount) : Cal P w K mg base 5 "is_carrier" 1 dom_is_carrier := by
  refine df_ok D sc_is_carrier rfl fun f cdv A outer s H E ds r hr h hl => ?_
  obtain ⟨n, c, rfl, hc, rfl⟩ := h
  show SDs _ [some (.dat (cd c)), none] _ _
  have hin : ([2, 4, 8, 16, 32] : List Int).any (· == ((c.length : Nat) : Int)) = true := by
    rw [hc.len]
    rcases five hc.n1 hc.n5 with e | e | e | e | e <;> subst e <;> rfl
  refine sds_cons (sd_no (td_is (td_w (wd_or (td_not (td_val (ed_isTup (k := true) T.isinstance T.tuple PyProof.Rows.boot_tuple (ed_v 0) (by decide +kernel)))) fun _ => wd_or1 (td_notIn (ns := [2, 4, 8, 16, 32]) rfl (ed_len_t T.len (ad_cons (ed_v 0) ad_nil) (List.length_map (as := c) qd)) (ed_is (ed_gc T.SIZES) rfl)))) (by rw [hin]; rfl))) ?_
  obtain ⟨c0, _, _⟩ := hc.at (s := 0) (Nat.two_pow_pos n)
  have e0 : c.getD 0 M.zeroM = M.oneM := by rw [List.getD_eq_getElem?_getD, hc.one]; rfl
  rw [e0] at c0
  refine sds_one (sd_ret (ed_is (ed_and (k := true) (ed_is (ed_all (bs := c.map fun _ => true) rfl T.all (ad_cons (ed_is (ed_lc (j := 1) (g := fun _ => .bool true) (id_tup (ed_v 0)) (by rw [List.length_map]; have := hc.lt; omega) sc_is_carrier.nd (blkOk_by (N := N_is_carrier) (sc := defScope s_is_carrier) (by decide +kernel)) (fun _ _ _ _ _ => pg_name sc_is_carrier.nd rfl (Or.inl rfl))
      (fun d hd s H C cl fp => ?_) (fun _ _ => rfl)) ?_) ad_nil)) (by rw [all_true])) fun _ => ed_one (ed_eq hr.units (ed_ixT (j := 0) (ed_v 0) ed_int c0 (fun _ _ => rfl)) (ed_gc T.ONE) (by decide +kernel) (by decide +kernel))) (congrArg PyData.bool (by decide +kernel))))
  · obtain ⟨a, ha, rfl⟩ := List.mem_map.mp hd
    exact ed_call c_is_amount hr (ad_cons (ed_v 1) ad_nil) ⟨a, rfl, hc.amt a ha, rfl⟩
  · rw [List.map_map, List.map_map]
    rfl
abbrev s_check_carrier : Stmt := topS 29
abbrev N_check_carrier : List Str := ["value"]
theorem sc_check_carrier : FnScope N_check_carrier ["value"] (defScope s_check_carrier) := ⟨rfl, rfl, rfl, by decide +kernel, rfl, by decide +kernel, by decide +kernel⟩
def dom_check_carrier (ds : List PyData) (r : PyData) : Prop := r = .none ∧ ∃ (n : Nat) (c : List Q2), ds = [cd c] ∧ VC n c
theorem ok_check_carrier (T : Facts K mg) (D : Df K mg "check_carrier" s_check_carrier ["value"]) (c_is_carrier : Cal P w K mg base 5 "is_carrier" 1 dom_is_carrier) : Cal P w K mg base 6 "check_carrier" 1 dom_check_carrier := by
  refine df_okN D sc_check_carrier rfl (fun _ _ h => h.1) fun f cdv A outer s H E ds hr h hl => ?_
  obtain ⟨_, n, c, rfl, hc⟩ := h
  exact ⟨[some (.dat (cd c))], sds_one (sd_no (td_not (td_val (ed_call c_is_carrier hr (ad_cons (ed_v 0) ad_nil) ⟨n, c, rfl, hc, rfl⟩))))⟩
abbrev s_seat_count : Stmt := topS 32
abbrev N_seat_count : List Str := ["carrier"]
theorem sc_seat_count : FnScope N_seat_count ["carrier"] (defScope s_seat_count) := ⟨rfl, rfl, rfl, by decide +kernel, rfl, by decide +kernel, by decide +kernel⟩
def dom_seat_count (ds : List PyData) (r : PyData) : Prop := ∃ (n : Nat) (l : List PyData), ds = [.tuple l] ∧ l.length = 2 ^ n ∧ 1 ≤ n ∧ n ≤ 5 ∧ r = .int (n : Int)
theorem ok_seat_count (T : Facts K mg) (D : Df K mg "seat_count" s_seat_count ["carrier"]) : Cal P w K mg base 1 "seat_count" 1 dom_seat_count := by
  refine df_ok D sc_seat_count rfl fun f cdv A outer s H E ds r hr h hl => ?_
  obtain ⟨n, l, rfl, hlen, h1, h5, rfl⟩ := h
  show SDs _ [some (.dat (.tuple l))] _ _
  refine sds_one (sd_ret (ed_is (ed_add (ed_tIx (ns := [2, 4, 8, 16, 32]) (j := n - 1) T.SIZESk T.SIZES (ed_len_t T.len (ad_cons (ed_v 0) ad_nil) hlen) ?_ ?_) ed_int) (by congr 1; omega)))
  · rcases five h1 h5 with e | e | e | e | e <;> subst e <;> rfl
  · rcases five h1 h5 with e | e | e | e | e <;> subst e <;> decide
abbrev s_check_seat : Stmt := topS 30
abbrev N_check_seat : List Str := ["carrier", "value"]
theorem sc_check_seat : FnScope N_check_seat ["carrier", "value"] (defScope s_check_seat) := ⟨rfl, rfl, rfl, by decide +kernel, rfl, by decide +kernel, by decide +kernel⟩
def dom_check_seat (ds : List PyData) (r : PyData) : Prop := r = .none ∧ ∃ (n i : Nat) (l : List PyData), ds = [.tuple l, .int (i : Int)] ∧ l.length = 2 ^ n ∧ 1 ≤ n ∧ n ≤ 5 ∧ i < n
theorem ok_check_seat (T : Facts K mg) (D : Df K mg "check_seat" s_check_seat ["carrier", "value"]) (c_is_between : Cal P w K mg base 2 "is_between" 3 dom_is_between) (c_seat_count : Cal P w K mg base 1 "seat_count" 1 dom_seat_count) : Cal P w K mg base 3 "check_seat" 2 dom_check_seat := by
  refine df_okN D sc_check_seat rfl (fun _ _ h => h.1) fun f cdv A outer s H E ds hr h hl => ?_
  obtain ⟨_, n, i, l, rfl, hlen, h1, h5, hi⟩ := h
  exact ⟨[some (.dat (.tuple l)), some (.dat (.int (i : Int)))], sds_one (sd_no (td_is (td_not (td_val (ed_call c_is_between hr (ad_cons (ed_v 1) (ad_cons ed_int (ad_cons (ed_sub (ed_call c_seat_count hr (ad_cons (ed_v 0) ad_nil) ⟨n, l, rfl, hlen, h1, h5, rfl⟩) ed_int) ad_nil))) ⟨_, _, _, rfl, rfl⟩))) (by
    rw [decide_eq_true (show (0 : Int) ≤ (i : Int) by omega), decide_eq_true (show (i : Int) ≤ (n : Int) - 1 by omega)]
    rfl)))⟩
abbrev s_check_other_seat : Stmt := topS 31
abbrev N_check_other_seat : List Str := ["carrier", "seat", "value"]
theorem sc_check_other_seat : FnScope N_check_other_seat ["carrier", "seat", "value"] (defScope s_check_other_seat) := ⟨rfl, rfl, rfl, by decide +kernel, rfl, by decide +kernel, by decide +kernel⟩
def dom_check_other_seat (ds : List PyData) (r : PyData) : Prop := r = .none ∧ ∃ (n i j : Nat) (l : List PyData), ds = [.tuple l, .int (i : Int), .int (j : Int)] ∧ l.length = 2 ^ n ∧ 1 ≤ n ∧ n ≤ 5 ∧ j < n ∧ j ≠ i
theorem ok_check_other_seat (T : Facts K mg) (D : Df K mg "check_other_seat" s_check_other_seat ["carrier", "seat", "value"]) (c_check_seat : Cal P w K mg base 3 "check_seat" 2 dom_check_seat) : Cal P w K mg base 4 "check_other_seat" 3 dom_check_other_seat := by
  refine df_okN D sc_check_other_seat rfl (fun _ _ h => h.1) fun f cdv A outer s H E ds hr h hl => ?_
  obtain ⟨_, n, i, j, l, rfl, hlen, h1, h5, hj, hne⟩ := h
  refine ⟨[some (.dat (.tuple l)), some (.dat (.int (i : Int))), some (.dat (.int (j : Int)))], sds_cons (sd_expr (ed_call c_check_seat hr (ad_cons (ed_v 0) (ad_cons (ed_v 2) ad_nil)) ⟨rfl, n, j, l, rfl, hlen, h1, h5, hj⟩)) (sds_one (sd_no (td_is (td_eqI (ed_v 2) (ed_v 1)) (decide_eq_false (by omega)))))⟩
abbrev s_has_guest : Stmt := topS 33
abbrev N_has_guest : List Str := ["standing", "seat", "_"]
theorem sc_has_guest : FnScope N_has_guest ["standing", "seat"] (defScope s_has_guest) := ⟨rfl, rfl, rfl, by decide +kernel, rfl, by decide +kernel, by decide +kernel⟩
def dom_has_guest (ds : List PyData) (r : PyData) : Prop := ∃ s i : Nat, ds = [.int (s : Int), .int (i : Int)] ∧ i ≤ 100 ∧ r = .bool (M.hasM s i)
theorem ok_has_guest (T : Facts K mg) (D : Df K mg "has_guest" s_has_guest ["standing", "seat"]) : Cal P w K mg base 1 "has_guest" 2 dom_has_guest := by
  refine df_ok D sc_has_guest rfl fun f cdv A outer s H E ds r hr h hl => ?_
  obtain ⟨t, i, rfl, hi, rfl⟩ := h
  show SDs _ [some (.dat (.int (t : Int))), some (.dat (.int (i : Int))), none] _ _
  refine sds_cons (sd_forG (ds := rgD 0 i) (id_rng1 (ad_cons (ed_v 1) ad_nil) (by omega) T.range) (pg_name (i := 2) sc_has_guest.nd rfl (Or.inl rfl)) (fun k => [some (.dat (.int ((t / 2 ^ k : Nat) : Int))), some (.dat (.int (i : Int))), none]) ⟨by rw [Nat.pow_zero, Nat.div_one], rfl, trivial⟩ (fun _ => rfl) fun k d hd => ?_) ?_
  · refine ⟨_, _, gd_name, sds_one (sd_set (i := 0) (ed_div (ed_v 0) ed_int (cdiv (b := 2) (by decide) (by decide) (by decide))) sc_has_guest.nd), ⟨?_, rfl, trivial⟩⟩
    show some (Sl.dat (.int (((t / 2 ^ k : Nat) : Int) / 2))) = some (Sl.dat (.int ((t / 2 ^ (k + 1) : Nat) : Int)))
    rw [Nat.pow_succ, ← Nat.div_div_eq_div_mul, Int.natCast_ediv (t / 2 ^ k) 2]
    rfl
  · rw [rgD_len]
    refine sds_one (sd_ret (ed_is (ed_eqI (ed_mod (ed_v 0) ed_int (by decide)) ed_int) ?_))
    congr 1
    unfold M.hasM
    rw [Bool.beq_eq_decide_eq]
    exact decide_eq_decide.mpr (by omega)
abbrev s_is_chain : Stmt := topS 38
abbrev N_is_chain : List Str := ["value"]
theorem sc_is_chain : FnScope N_is_chain ["value"] (defScope s_is_chain) := ⟨rfl, rfl, rfl, by decide +kernel, rfl, by decide +kernel, by decide +kernel⟩
def dom_is_chain (ds : List PyData) (r : PyData) : Prop := ∃ u f : Q2, ds = [chd u f] ∧ Amt u ∧ Amt f ∧ r = .bool true
theorem ok_is_chain (T : Facts K mg) (D : Df K mg "is_chain" s_is_chain ["value"]) (c_is_amount : Cal P w K mg base 4 "is_amount" 1 dom_is_amount) : Cal P w K mg base 5 "is_chain" 1 dom_is_chain := by
  refine df_ok D sc_is_chain rfl fun f cdv A outer s H E ds r hr h hl => ?_
  obtain ⟨u, v, rfl, hu, hv, rfl⟩ := h
  show SDs _ [some (.dat (chd u v))] _ _
  exact sds_one (sd_ret (ed_is (ed_and (ed_isTup (k := true) T.isinstance T.tuple PyProof.Rows.boot_tuple (ed_v 0) (by decide +kernel)) fun _ => ed_and (ed_eqI (ed_len_t (n := 2) T.len (ad_cons (ed_v 0) ad_nil) rfl) ed_int) fun _ =>
    ed_and (ed_call c_is_amount hr (ad_cons (ed_t0 (ed_v 0)) ad_nil) ⟨u, rfl, hu, rfl⟩) fun _ => ed_one (ed_call c_is_amount hr (ad_cons (ed_t1 (ed_v 0)) ad_nil) ⟨v, rfl, hv, rfl⟩)) rfl))
abbrev s_check_chain : Stmt := topS 39
abbrev N_check_chain : List Str := ["value"]
theorem sc_check_chain : FnScope N_check_chain ["value"] (defScope s_check_chain) := ⟨rfl, rfl, rfl, by decide +kernel, rfl, by decide +kernel, by decide +kernel⟩
def dom_check_chain (ds : List PyData) (r : PyData) : Prop := r = .none ∧ ∃ u f : Q2, ds = [chd u f] ∧ Amt u ∧ Amt f
theorem ok_check_chain (T : Facts K mg) (D : Df K mg "check_chain" s_check_chain ["value"]) (c_is_chain : Cal P w K mg base 5 "is_chain" 1 dom_is_chain) : Cal P w K mg base 6 "check_chain" 1 dom_check_chain := by
  refine df_okN D sc_check_chain rfl (fun _ _ h => h.1) fun f cdv A outer s H E ds hr h hl => ?_
  obtain ⟨_, u, v, rfl, hu, hv⟩ := h
  exact ⟨[some (.dat (chd u v))], sds_one (sd_no (td_not (td_val (ed_call c_is_chain hr (ad_cons (ed_v 0) ad_nil) ⟨u, v, rfl, hu, hv, rfl⟩))))⟩
abbrev s_check_row_seats : Stmt := topS 40
abbrev N_check_row_seats : List Str := ["value", "least", "most"]
theorem sc_check_row_seats : FnScope N_check_row_seats ["value", "least", "most"] (defScope s_check_row_seats) := ⟨rfl, rfl, rfl, by decide +kernel, rfl, by decide +kernel, by decide +kernel⟩
def dom_check_row_seats (ds : List PyData) (r : PyData) : Prop := r = .none ∧ ∃ i l h : Int, ds = [.int i, .int l, .int h] ∧ l ≤ i ∧ i ≤ h
theorem ok_check_row_seats (T : Facts K mg) (D : Df K mg "check_row_seats" s_check_row_seats ["value", "least", "most"]) (c_is_between : Cal P w K mg base 2 "is_between" 3 dom_is_between) : Cal P w K mg base 3 "check_row_seats" 3 dom_check_row_seats := by
  refine df_okN D sc_check_row_seats rfl (fun _ _ h => h.1) fun f cdv A outer s H E ds hr h hl => ?_
  obtain ⟨_, i, l, h, rfl, h1, h2⟩ := h
  exact ⟨[some (.dat (.int i)), some (.dat (.int l)), some (.dat (.int h))], sds_one (sd_no (td_is (td_not (td_val (ed_call c_is_between hr (ad_cons (ed_v 0) (ad_cons (ed_v 1) (ad_cons (ed_v 2) ad_nil))) ⟨_, _, _, rfl, rfl⟩))) (by rw [decide_eq_true h1, decide_eq_true h2]; rfl)))⟩
end
end G
/-! D3 -/
namespace G
open PySem PySem.Spec PyProof.Rows L2
open M (Q2 Bd Amt gc)
def dnat : PyData → Nat
  | .int a => a.toNat
  | _ => 0
theorem dnat0 (k : Nat) : dnat (.int (0 + (k : Nat))) = k := by
  show (0 + (k : Int)).toNat = k
  omega
theorem dnat1 (k : Nat) : dnat (.int (1 + (k : Nat))) = k + 1 := by
  show (1 + (k : Int)).toNat = k + 1
  omega
theorem rgD_mem {lo : Int} {m : Nat} {d : PyData} (h : d ∈ rgD lo m) : ∃ k, k < m ∧ d = .int (lo + (k : Nat)) := by
  unfold rgD at h
  obtain ⟨k, hk, rfl⟩ := List.mem_map.mp h
  exact ⟨k, List.mem_range.mp hk, rfl⟩
theorem rgD_map {g : PyData → PyData} {h : Nat → PyData} {lo : Int} {m : Nat} (e : ∀ k, k < m → g (.int (lo + (k : Nat))) = h k) : (rgD lo m).map g = (List.range m).map h := by
  unfold rgD
  rw [List.map_map]
  exact List.map_congr_left fun k hk => e k (List.mem_range.mp hk)
theorem rgD_filter {f : PyData → Bool} {h : Nat → Bool} {lo : Int} {m : Nat} (e : ∀ k, k < m → f (.int (lo + (k : Nat))) = h k) : (rgD lo m).filter f = ((List.range m).filter h).map fun k => .int (lo + (k : Nat)) := by
  unfold rgD
  rw [List.filter_map]
  congr 1
  exact List.filter_congr fun k hk => e k (List.mem_range.mp hk)
section
variable {P : Program} {w : World} {K : PySem.W.Frag} {mg : Str → Option Value} {base : Heap}
abbrev s_pairs_in : Stmt := topS 41
abbrev N_pairs_in : List Str := ["standing", "seats", "at"]
theorem sc_pairs_in : FnScope N_pairs_in ["standing", "seats"] (defScope s_pairs_in) := ⟨rfl, rfl, rfl, by decide +kernel, rfl, by decide +kernel, by decide +kernel⟩
def dom_pairs_in (ds : List PyData) (r : PyData) : Prop := ∃ s n : Nat, ds = [.int (s : Int), .int (n : Int)] ∧ 1 ≤ n ∧ n ≤ 5 ∧ r = .int (M.pairsM s n : Nat)
theorem ok_pairs_in (T : Facts K mg) (D : Df K mg "pairs_in" s_pairs_in ["standing", "seats"]) (c_has_guest : Cal P w K mg base 1 "has_guest" 2 dom_has_guest) : Cal P w K mg base 2 "pairs_in" 2 dom_pairs_in := by
  refine df_ok D sc_pairs_in rfl fun f cdv A outer s H E ds r hr h hl => ?_
  obtain ⟨t, n, rfl, h1, h5, rfl⟩ := h
  show SDs _ [some (.dat (.int (t : Int))), some (.dat (.int (n : Int))), none] _ _
  have en : ((n : Int) - 1).toNat = n - 1 := by omega
  have ef : ∀ k : Nat, (fun d => M.hasM t (dnat d - 1) && M.hasM t (dnat d)) (.int (1 + (k : Nat))) = (M.hasM t k && M.hasM t (k + 1)) := fun k => by
    have e := dnat1 k
    show (M.hasM t (dnat (.int (1 + (k : Nat))) - 1) && M.hasM t (dnat (.int (1 + (k : Nat))))) = _
    rw [e, Nat.add_sub_cancel]
  refine sds_one (sd_ret (ed_len_l T.len (ad_cons (ed_lcF (j := 2) (f := fun d => M.hasM t (dnat d - 1) && M.hasM t (dnat d)) (g := fun d => d) (id_rng2 (ad_cons ed_int (ad_cons (ed_v 1) ad_nil)) (by omega) T.range) (by rw [rgD_len]; omega) sc_pairs_in.nd (blkOk_by (N := N_pairs_in) (sc := defScope s_pairs_in) (by decide +kernel)) (fun _ _ _ _ _ => pg_name sc_pairs_in.nd rfl (Or.inl rfl))
    (fun d hd s H C cl fp => ?_) (fun d hd _ s H C cl fp => ed_v 2) (fun d hd _ => ?_)) ad_nil) ?_))
  · obtain ⟨k, hk, rfl⟩ := rgD_mem hd
    refine td_is (td_w (wd_and (td_val (ed_call c_has_guest hr (ad_cons (ed_v 0) (ad_cons (ed_is (ed_sub (ed_v 2) ed_int) (show PyData.int (1 + (k : Int) - 1) = .int ((k : Nat) : Int) by congr 1; omega)) ad_nil)) ⟨t, k, rfl, by omega, rfl⟩)) fun _ =>
      wd_and1 (td_val (ed_call c_has_guest hr (ad_cons (ed_v 0) (ad_cons (ed_is (ed_v 2) (show PyData.int (1 + (k : Int)) = .int ((k + 1 : Nat) : Int) by congr 1; omega)) ad_nil)) ⟨t, k + 1, rfl, by omega, rfl⟩)))) (ef k).symm
  · obtain ⟨k, hk, rfl⟩ := rgD_mem hd
    rfl
  · rw [List.map_id', rgD_filter fun k _ => ef k, List.length_map, en]
    rfl
abbrev s_weight_in : Stmt := topS 42
abbrev N_weight_in : List Str := ["chain", "many", "pairs"]
theorem sc_weight_in : FnScope N_weight_in ["chain", "many", "pairs"] (defScope s_weight_in) := ⟨rfl, rfl, rfl, by decide +kernel, rfl, by decide +kernel, by decide +kernel⟩
def dom_weight_in (ds : List PyData) (r : PyData) : Prop := ∃ (u f : Q2) (i j : Nat), ds = [chd u f, .int (i : Int), .int (j : Int)] ∧ Bd 4 u ∧ Bd 4 f ∧ i ≤ 5 ∧ j ≤ 5 ∧ r = qd (M.wtM u f i j)
theorem ok_weight_in (T : Facts K mg) (D : Df K mg "weight_in" s_weight_in ["chain", "many", "pairs"]) (c_times : Cal P w K mg base 4 "times" 2 dom_times) (c_power : Cal P w K mg base 1 "power" 2 dom_power) : Cal P w K mg base 5 "weight_in" 3 dom_weight_in := by
  refine df_ok D sc_weight_in rfl fun f cdv A outer s H E ds r hr h hl => ?_
  obtain ⟨u, v, i, j, rfl, hu, hv, hi, hj, rfl⟩ := h
  show SDs _ [some (.dat (chd u v)), some (.dat (.int (i : Int))), some (.dat (.int (j : Int)))] _ _
  exact sds_one (sd_ret (ed_call c_times hr (ad_cons (ed_call c_power hr (ad_cons (ed_t0 (ed_v 0)) (ad_cons (ed_v 1) ad_nil)) ⟨u, i, 4, rfl, hu, by omega, by decide, rfl⟩) (ad_cons (ed_call c_power hr (ad_cons (ed_t1 (ed_v 0)) (ad_cons (ed_v 2) ad_nil)) ⟨v, j, 4, rfl, hv, by omega, by decide, rfl⟩) ad_nil))
    ⟨M.powM u i, M.powM v j, _, _, rfl, M.powM_bd hu i, M.powM_bd hv j, by omega, rfl⟩))
abbrev s_circle_pairs : Stmt := topS 59
abbrev N_circle_pairs : List Str := ["standing", "seats", "last"]
theorem sc_circle_pairs : FnScope N_circle_pairs ["standing", "seats"] (defScope s_circle_pairs) := ⟨rfl, rfl, rfl, by decide +kernel, rfl, by decide +kernel, by decide +kernel⟩
def dom_circle_pairs (ds : List PyData) (r : PyData) : Prop := ∃ s n : Nat, ds = [.int (s : Int), .int (n : Int)] ∧ 1 ≤ n ∧ n ≤ 5 ∧ r = .int (M.circM s n : Nat)
theorem ok_circle_pairs (T : Facts K mg) (D : Df K mg "circle_pairs" s_circle_pairs ["standing", "seats"]) (c_has_guest : Cal P w K mg base 1 "has_guest" 2 dom_has_guest) (c_pairs_in : Cal P w K mg base 2 "pairs_in" 2 dom_pairs_in) : Cal P w K mg base 3 "circle_pairs" 2 dom_circle_pairs := by
  refine df_ok D sc_circle_pairs rfl fun f cdv A outer s H E ds r hr h hl => ?_
  obtain ⟨t, n, rfl, h1, h5, rfl⟩ := h
  show SDs _ [some (.dat (.int (t : Int))), some (.dat (.int (n : Int))), none] _ _
  refine sds_cons (sd_set (i := 2) (ed_and (ed_call c_has_guest hr (ad_cons (ed_v 0) (ad_cons ed_int ad_nil)) ⟨t, 0, rfl, by decide, rfl⟩) fun _ => ed_one (ed_call c_has_guest hr (ad_cons (ed_v 0) (ad_cons (ed_is (ed_sub (ed_v 1) ed_int) (show PyData.int ((n : Int) - 1) = .int ((n - 1 : Nat) : Int) by congr 1; omega)) ad_nil)) ⟨t, n - 1, rfl, by omega, rfl⟩)) sc_circle_pairs.nd) ?_
  refine sds_one (sd_ret (ed_is (ed_add (ed_call c_pairs_in hr (ad_cons (ed_v 0) (ad_cons (ed_v 1) ad_nil)) ⟨t, n, rfl, h1, h5, rfl⟩) (ed_if (d := .int ((if M.hasM t 0 && M.hasM t (n - 1) then 1 else 0 : Nat) : Int)) (td_val (ed_v 2)) (fun z => ?_) fun z => ?_)) ?_))
  · rw [if_pos z]
    exact ed_int
  · rw [if_neg (by rw [z]; exact Bool.false_ne_true)]
    exact ed_int
  · unfold M.circM
    rw [Int.natCast_add]
theorem size_at {n : Nat} (h1 : 1 ≤ n) (h5 : n ≤ 5) : ([.int 2, .int 4, .int 8, .int 16, .int 32] : List PyData)[n - 1]? = some (.int ((2 ^ n : Nat) : Int)) := by
  rcases five h1 h5 with e | e | e | e | e <;> subst e <;> rfl
abbrev s_chain_carrier : Stmt := topS 43
abbrev N_chain_carrier : List Str := ["chain", "seats", "at"]
theorem sc_chain_carrier : FnScope N_chain_carrier ["chain", "seats"] (defScope s_chain_carrier) := ⟨rfl, rfl, rfl, by decide +kernel, rfl, by decide +kernel, by decide +kernel⟩
def dom_chain_carrier (ds : List PyData) (r : PyData) : Prop := ∃ (u f : Q2) (n : Nat), ds = [chd u f, .int (n : Int)] ∧ Amt u ∧ Amt f ∧ Bd 4 u ∧ Bd 4 f ∧ 1 ≤ n ∧ n ≤ 5 ∧ r = cd (M.chainM u f n)
theorem ok_chain_carrier (T : Facts K mg) (D : Df K mg "chain_carrier" s_chain_carrier ["chain", "seats"]) (c_check_chain : Cal P w K mg base 6 "check_chain" 1 dom_check_chain) (c_check_row_seats : Cal P w K mg base 3 "check_row_seats" 3 dom_check_row_seats) (c_weight_in : Cal P w K mg base 5 "weight_in" 3 dom_weight_in) (c_bits_in : Cal P w K mg base 1 "bits_in" 1 dom_bits_in) (c_pairs_in : Cal P w K mg base 2 "pairs_in" 2 dom_pairs_in) : Cal P w K mg base 7 "chain_carrier" 2 dom_chain_carrier := by
  refine df_ok D sc_chain_carrier rfl fun f cdv A outer s H E ds r hr h hl => ?_
  obtain ⟨u, v, n, rfl, au, av, hu, hv, h1, h5, rfl⟩ := h
  show SDs _ [some (.dat (chd u v)), some (.dat (.int (n : Int))), none] _ _
  have l32 := len32 h5
  refine sds_cons (sd_expr (ed_call c_check_chain hr (ad_cons (ed_v 0) ad_nil) ⟨rfl, u, v, rfl, au, av⟩)) (sds_cons (sd_expr (ed_call c_check_row_seats hr (ad_cons (ed_v 1) (ad_cons ed_int (ad_cons (ed_gc T.MOST) ad_nil))) ⟨rfl, _, _, _, rfl, by omega, by omega⟩)) ?_)
  refine sds_one (sd_ret (ed_is (ed_tuple_l T.tuple (ad_cons (ed_lc (j := 2) (g := fun d => qd (M.wtM u v (M.bitsM (dnat d)) (M.pairsM (dnat d) n))) (id_rng1 (ad_cons (ed_ixT (j := n - 1) (ed_gc T.SIZES) (ed_is (ed_sub (ed_v 1) ed_int) (show PyData.int ((n : Int) - 1) = .int ((n - 1 : Nat) : Int) by congr 1; omega)) (size_at h1 h5)) ad_nil) (by omega) T.range) (by rw [rgD_len]; omega) sc_chain_carrier.nd (blkOk_by (N := N_chain_carrier) (sc := defScope s_chain_carrier) (by decide +kernel)) (fun _ _ _ _ _ => pg_name sc_chain_carrier.nd rfl (Or.inl rfl))
    (fun d hd s H C cl fp => ?_) (fun _ _ => rfl)) ad_nil)) ?_))
  · obtain ⟨k, hk, rfl⟩ := rgD_mem hd
    have e := dnat0 k
    rw [e]
    have pl := M.pairs_le k n
    exact ed_call c_weight_in hr (ad_cons (ed_v 0) (ad_cons (ed_call c_bits_in hr (ad_cons (ed_is (ed_v 2) (show PyData.int (0 + (k : Int)) = .int ((k : Nat) : Int) by congr 1; omega)) ad_nil) ⟨k, rfl, by omega, rfl⟩) (ad_cons (ed_call c_pairs_in hr (ad_cons (ed_is (ed_v 2) (show PyData.int (0 + (k : Int)) = .int ((k : Nat) : Int) by congr 1; omega)) (ad_cons (ed_v 1) ad_nil)) ⟨k, n, rfl, h1, h5, rfl⟩) ad_nil)))
      ⟨u, v, _, _, rfl, hu, hv, M.bits_le k (by omega), by omega, rfl⟩
  · rw [rgD_map (h := fun k => qd (M.wtM u v (M.bitsM k) (M.pairsM k n))) fun k _ => by
      have e := dnat0 k
      simp only [e]]
    unfold cd M.chainM
    rw [List.map_map]
    rfl
abbrev s_ring_carrier : Stmt := topS 60
abbrev N_ring_carrier : List Str := ["chain", "seats", "at"]
theorem sc_ring_carrier : FnScope N_ring_carrier ["chain", "seats"] (defScope s_ring_carrier) := ⟨rfl, rfl, rfl, by decide +kernel, rfl, by decide +kernel, by decide +kernel⟩
def dom_ring_carrier (ds : List PyData) (r : PyData) : Prop := ∃ (u f : Q2) (n : Nat), ds = [chd u f, .int (n : Int)] ∧ Amt u ∧ Amt f ∧ Bd 4 u ∧ Bd 4 f ∧ 3 ≤ n ∧ n ≤ 5 ∧ r = cd (M.ringM u f n)
theorem ok_ring_carrier (T : Facts K mg) (D : Df K mg "ring_carrier" s_ring_carrier ["chain", "seats"]) (c_check_chain : Cal P w K mg base 6 "check_chain" 1 dom_check_chain) (c_check_row_seats : Cal P w K mg base 3 "check_row_seats" 3 dom_check_row_seats) (c_weight_in : Cal P w K mg base 5 "weight_in" 3 dom_weight_in) (c_bits_in : Cal P w K mg base 1 "bits_in" 1 dom_bits_in) (c_circle_pairs : Cal P w K mg base 3 "circle_pairs" 2 dom_circle_pairs) : Cal P w K mg base 7 "ring_carrier" 2 dom_ring_carrier := by
  refine df_ok D sc_ring_carrier rfl fun f cdv A outer s H E ds r hr h hl => ?_
  obtain ⟨u, v, n, rfl, au, av, hu, hv, h3, h5, rfl⟩ := h
  show SDs _ [some (.dat (chd u v)), some (.dat (.int (n : Int))), none] _ _
  have l32 := len32 h5
  have h1 : 1 ≤ n := by omega
  refine sds_cons (sd_expr (ed_call c_check_chain hr (ad_cons (ed_v 0) ad_nil) ⟨rfl, u, v, rfl, au, av⟩)) (sds_cons (sd_expr (ed_call c_check_row_seats hr (ad_cons (ed_v 1) (ad_cons (ed_gc T.LEAST) (ad_cons (ed_gc T.MOST) ad_nil))) ⟨rfl, _, _, _, rfl, by omega, by omega⟩)) ?_)
  refine sds_one (sd_ret (ed_is (ed_tuple_l T.tuple (ad_cons (ed_lc (j := 2) (g := fun d => qd (M.wtM u v (M.bitsM (dnat d)) (M.circM (dnat d) n))) (id_rng1 (ad_cons (ed_ixT (j := n - 1) (ed_gc T.SIZES) (ed_is (ed_sub (ed_v 1) ed_int) (show PyData.int ((n : Int) - 1) = .int ((n - 1 : Nat) : Int) by congr 1; omega)) (size_at h1 h5)) ad_nil) (by omega) T.range) (by rw [rgD_len]; omega) sc_ring_carrier.nd (blkOk_by (N := N_ring_carrier) (sc := defScope s_ring_carrier) (by decide +kernel)) (fun _ _ _ _ _ => pg_name sc_ring_carrier.nd rfl (Or.inl rfl))
    (fun d hd s H C cl fp => ?_) (fun _ _ => rfl)) ad_nil)) ?_))
  · obtain ⟨k, hk, rfl⟩ := rgD_mem hd
    have e := dnat0 k
    rw [e]
    have pl := M.circ_le k n
    exact ed_call c_weight_in hr (ad_cons (ed_v 0) (ad_cons (ed_call c_bits_in hr (ad_cons (ed_is (ed_v 2) (show PyData.int (0 + (k : Int)) = .int ((k : Nat) : Int) by congr 1; omega)) ad_nil) ⟨k, rfl, by omega, rfl⟩) (ad_cons (ed_call c_circle_pairs hr (ad_cons (ed_is (ed_v 2) (show PyData.int (0 + (k : Int)) = .int ((k : Nat) : Int) by congr 1; omega)) (ad_cons (ed_v 1) ad_nil)) ⟨k, n, rfl, h1, h5, rfl⟩) ad_nil)))
      ⟨u, v, _, _, rfl, hu, hv, M.bits_le k (by omega), by omega, rfl⟩
  · rw [rgD_map (h := fun k => qd (M.wtM u v (M.bitsM k) (M.circM k n))) fun k _ => by
      have e := dnat0 k
      simp only [e]]
    unfold cd M.ringM
    rw [List.map_map]
    rfl
abbrev s_chains_fill_unlinked : Stmt := topS 44
abbrev N_chains_fill_unlinked : List Str := ["chain"]
theorem sc_chains_fill_unlinked : FnScope N_chains_fill_unlinked ["chain"] (defScope s_chains_fill_unlinked) := ⟨rfl, rfl, rfl, by decide +kernel, rfl, by decide +kernel, by decide +kernel⟩
def dom_chains_fill_unlinked (ds : List PyData) (r : PyData) : Prop := ∃ u f : Q2, ds = [chd u f] ∧ Amt u ∧ Amt f ∧ Bd 4 f ∧ r = .bool (!M.belowM M.oneM f)
theorem ok_chains_fill_unlinked (T : Facts K mg) (D : Df K mg "chains_fill_unlinked" s_chains_fill_unlinked ["chain"]) (c_check_chain : Cal P w K mg base 6 "check_chain" 1 dom_check_chain) (c_is_below : Cal P w K mg base 1 "is_below" 2 dom_is_below) : Cal P w K mg base 7 "chains_fill_unlinked" 1 dom_chains_fill_unlinked := by
  refine df_ok D sc_chains_fill_unlinked rfl fun f cdv A outer s H E ds r hr h hl => ?_
  obtain ⟨u, v, rfl, au, av, hv, rfl⟩ := h
  show SDs _ [some (.dat (chd u v))] _ _
  exact sds_cons (sd_expr (ed_call c_check_chain hr (ad_cons (ed_v 0) ad_nil) ⟨rfl, u, v, rfl, au, av⟩)) (sds_one (sd_ret (ed_not (ed_call c_is_below hr (ad_cons (ed_gc T.ONE) (ad_cons (ed_t1 (ed_v 0)) ad_nil)) ⟨M.oneM, v, 1, 4, rfl, Bd.one, hv, by decide, rfl⟩))))
abbrev s_check_pair : Stmt := topS 46
abbrev N_check_pair : List Str := ["carrier", "seat", "other"]
theorem sc_check_pair : FnScope N_check_pair ["carrier", "seat", "other"] (defScope s_check_pair) := ⟨rfl, rfl, rfl, by decide +kernel, rfl, by decide +kernel, by decide +kernel⟩
def dom_check_pair (ds : List PyData) (r : PyData) : Prop := r = .none ∧ ∃ (n i j : Nat) (c : List Q2), ds = [cd c, .int (i : Int), .int (j : Int)] ∧ VC n c ∧ i < n ∧ j < n ∧ j ≠ i
theorem ok_check_pair (T : Facts K mg) (D : Df K mg "check_pair" s_check_pair ["carrier", "seat", "other"]) (c_check_carrier : Cal P w K mg base 6 "check_carrier" 1 dom_check_carrier) (c_check_seat : Cal P w K mg base 3 "check_seat" 2 dom_check_seat) (c_check_other_seat : Cal P w K mg base 4 "check_other_seat" 3 dom_check_other_seat) : Cal P w K mg base 7 "check_pair" 3 dom_check_pair := by
  refine df_okN D sc_check_pair rfl (fun _ _ h => h.1) fun f cdv A outer s H E ds hr h hl => ?_
  obtain ⟨_, n, i, j, c, rfl, hc, hi, hj, hne⟩ := h
  have e : (c.map qd).length = 2 ^ n := by rw [List.length_map]; exact hc.len
  exact ⟨[some (.dat (cd c)), some (.dat (.int (i : Int))), some (.dat (.int (j : Int)))], sds_cons (sd_expr (ed_call c_check_carrier hr (ad_cons (ed_v 0) ad_nil) ⟨rfl, n, c, rfl, hc⟩)) (sds_cons (sd_expr (ed_call c_check_seat hr (ad_cons (ed_v 0) (ad_cons (ed_v 1) ad_nil)) ⟨rfl, n, i, _, rfl, e, hc.n1, hc.n5, hi⟩))
    (sds_one (sd_expr (ed_call c_check_other_seat hr (ad_cons (ed_v 0) (ad_cons (ed_v 1) (ad_cons (ed_v 2) ad_nil))) ⟨rfl, n, i, j, _, rfl, e, hc.n1, hc.n5, hj, hne⟩))))⟩
abbrev s_bit_of : Stmt := topS 48
abbrev N_bit_of : List Str := ["seat", "found", "_"]
theorem sc_bit_of : FnScope N_bit_of ["seat"] (defScope s_bit_of) := ⟨rfl, rfl, rfl, by decide +kernel, rfl, by decide +kernel, by decide +kernel⟩
def dom_bit_of (ds : List PyData) (r : PyData) : Prop := ∃ i : Nat, ds = [.int (i : Int)] ∧ i ≤ 5 ∧ r = .int ((2 ^ i : Nat) : Int)
theorem ok_bit_of (T : Facts K mg) (D : Df K mg "bit_of" s_bit_of ["seat"]) : Cal P w K mg base 1 "bit_of" 1 dom_bit_of := by
  refine df_ok D sc_bit_of rfl fun f cdv A outer s H E ds r hr h hl => ?_
  obtain ⟨i, rfl, hi, rfl⟩ := h
  show SDs _ [some (.dat (.int (i : Int))), none, none] _ _
  refine sds_cons (sd_set (i := 1) ed_int sc_bit_of.nd) (sds_cons (sd_forG (ds := rgD 0 i) (id_rng1 (ad_cons (ed_v 0) ad_nil) (by omega) T.range) (pg_name (i := 2) sc_bit_of.nd rfl (Or.inl rfl)) (fun k => [some (.dat (.int (i : Int))), some (.dat (.int ((2 ^ k : Nat) : Int))), none]) ⟨rfl, rfl, trivial⟩ (fun _ => rfl) fun k d hd => ?_) ?_)
  · refine ⟨_, _, gd_name, sds_one (sd_set (i := 1) (ed_mulS ed_int (ed_v 1) (.inl ⟨by decide, by decide⟩)) sc_bit_of.nd), ⟨rfl, ?_, trivial⟩⟩
    show some (Sl.dat (.int (2 * ((2 ^ k : Nat) : Int)))) = some (Sl.dat (.int ((2 ^ (k + 1) : Nat) : Int)))
    rw [Nat.pow_succ, Int.natCast_mul, Int.mul_comm]
    rfl
  · rw [rgD_len]
    exact sds_one (sd_ret (ed_v 1))
abbrev s_is_free : Stmt := topS 49
abbrev N_is_free : List Str := ["standing", "seat", "other"]
theorem sc_is_free : FnScope N_is_free ["standing", "seat", "other"] (defScope s_is_free) := ⟨rfl, rfl, rfl, by decide +kernel, rfl, by decide +kernel, by decide +kernel⟩
def dom_is_free (ds : List PyData) (r : PyData) : Prop := ∃ s i j : Nat, ds = [.int (s : Int), .int (i : Int), .int (j : Int)] ∧ i ≤ 100 ∧ j ≤ 100 ∧ r = .bool (!M.hasM s i && !M.hasM s j)
theorem ok_is_free (T : Facts K mg) (D : Df K mg "is_free" s_is_free ["standing", "seat", "other"]) (c_has_guest : Cal P w K mg base 1 "has_guest" 2 dom_has_guest) : Cal P w K mg base 2 "is_free" 3 dom_is_free := by
  refine df_ok D sc_is_free rfl fun f cdv A outer s H E ds r hr h hl => ?_
  obtain ⟨t, i, j, rfl, hi, hj, rfl⟩ := h
  show SDs _ [some (.dat (.int (t : Int))), some (.dat (.int (i : Int))), some (.dat (.int (j : Int)))] _ _
  exact sds_one (sd_ret (ed_and (ed_not (ed_call c_has_guest hr (ad_cons (ed_v 0) (ad_cons (ed_v 1) ad_nil)) ⟨t, i, rfl, hi, rfl⟩)) fun _ => ed_one (ed_not (ed_call c_has_guest hr (ad_cons (ed_v 0) (ad_cons (ed_v 2) ad_nil)) ⟨t, j, rfl, hj, rfl⟩))))
abbrev natD (l : List Nat) : List PyData := l.map fun (k : Nat) => .int (k : Int)
abbrev s_free_standings : Stmt := topS 50
abbrev N_free_standings : List Str := ["carrier", "seat", "other", "standing"]
theorem sc_free_standings : FnScope N_free_standings ["carrier", "seat", "other"] (defScope s_free_standings) := ⟨rfl, rfl, rfl, by decide +kernel, rfl, by decide +kernel, by decide +kernel⟩
def dom_free_standings (ds : List PyData) (r : PyData) : Prop := ∃ (l : List PyData) (i j : Nat), ds = [.tuple l, .int (i : Int), .int (j : Int)] ∧ l.length ≤ 32 ∧ i ≤ 100 ∧ j ≤ 100 ∧ r = .list (natD (M.freeM l.length i j))
theorem ok_free_standings (T : Facts K mg) (D : Df K mg "free_standings" s_free_standings ["carrier", "seat", "other"]) (c_is_free : Cal P w K mg base 2 "is_free" 3 dom_is_free) : Cal P w K mg base 3 "free_standings" 3 dom_free_standings := by
  refine df_ok D sc_free_standings rfl fun f cdv A outer s H E ds r hr h hl => ?_
  obtain ⟨l, i, j, rfl, hl32, hi, hj, rfl⟩ := h
  show SDs _ [some (.dat (.tuple l)), some (.dat (.int (i : Int))), some (.dat (.int (j : Int))), none] _ _
  have ef : ∀ k : Nat, (fun d => !M.hasM (dnat d) i && !M.hasM (dnat d) j) (.int (0 + (k : Nat))) = (!M.hasM k i && !M.hasM k j) := fun k => by
    have e := dnat0 k
    simp only [e]
  refine sds_one (sd_ret (ed_is (ed_lcF (j := 3) (f := fun d => !M.hasM (dnat d) i && !M.hasM (dnat d) j) (g := fun d => d) (id_rng1 (ad_cons (ed_len_t T.len (ad_cons (ed_v 0) ad_nil) rfl) ad_nil) (by omega) T.range) (by rw [rgD_len]; omega) sc_free_standings.nd (blkOk_by (N := N_free_standings) (sc := defScope s_free_standings) (by decide +kernel)) (fun _ _ _ _ _ => pg_name sc_free_standings.nd rfl (Or.inl rfl))
    (fun d hd s H C cl fp => ?_) (fun d hd _ s H C cl fp => ed_v 3) (fun d hd _ => ?_)) ?_))
  · obtain ⟨k, hk, rfl⟩ := rgD_mem hd
    exact td_is (td_val (ed_call c_is_free hr (ad_cons (ed_is (ed_v 3) (show PyData.int (0 + (k : Int)) = .int ((k : Nat) : Int) by congr 1; omega)) (ad_cons (ed_v 1) (ad_cons (ed_v 2) ad_nil))) ⟨k, i, j, rfl, hi, hj, rfl⟩)) (ef k).symm
  · obtain ⟨k, hk, rfl⟩ := rgD_mem hd
    rfl
  · rw [List.map_id', rgD_filter fun k _ => ef k]
    congr 1
    exact List.map_congr_left (fun k _ => by rw [Int.zero_add])
end
end G
/-! D4 -/
namespace G
open PySem PySem.Spec PyProof.Rows L2
open M (Q2 Bd Amt gc)
theorem linkM_ok {n : Nat} {c : List Q2} (hc : VC n c) {i j s : Nat} (hi : i < n) (hj : j < n) (hne : i ≠ j) (hs : s ∈ M.freeM (2 ^ n) i j) : s + 2 ^ i + 2 ^ j < 2 ^ n ∧ Bd 256 (M.linkM c i j s) := by
  have h := M.free_lt hc.n5 hi hj hne hs
  have p1 := Nat.two_pow_pos i
  have p2 := Nat.two_pow_pos j
  refine ⟨h, ?_⟩
  have a1 := (hc.at h).2
  have a2 := (hc.at (s := s) (by omega)).2
  have a3 := (hc.at (s := s + 2 ^ i) (by omega)).2
  have a4 := (hc.at (s := s + 2 ^ j) (by omega)).2
  exact (M.overM_bd (M.timesM_bd a1.2 a2.2) (M.timesM_bd a3.2 a4.2) (Int.ne_of_gt (M.timesM_amt a3.1 a4.1).n0)).mono (by omega)
section
variable {P : Program} {w : World} {K : PySem.W.Frag} {mg : Str → Option Value} {base : Heap}
abbrev s_link_over : Stmt := topS 51
abbrev N_link_over : List Str := ["carrier", "seat", "other", "standing", "one", "two", "both"]
theorem sc_link_over : FnScope N_link_over ["carrier", "seat", "other", "standing"] (defScope s_link_over) := ⟨rfl, rfl, rfl, by decide +kernel, rfl, by decide +kernel, by decide +kernel⟩
def dom_link_over (ds : List PyData) (r : PyData) : Prop := ∃ (n i j s : Nat) (c : List Q2), ds = [cd c, .int (i : Int), .int (j : Int), .int (s : Int)] ∧ VC n c ∧ i < n ∧ j < n ∧ s + 2 ^ i + 2 ^ j < 2 ^ n ∧ r = qd (M.linkM c i j s)
theorem ok_link_over (T : Facts K mg) (D : Df K mg "link_over" s_link_over ["carrier", "seat", "other", "standing"]) (c_bit_of : Cal P w K mg base 1 "bit_of" 1 dom_bit_of) (c_times : Cal P w K mg base 4 "times" 2 dom_times) (c_over : Cal P w K mg base 4 "over" 2 dom_over) : Cal P w K mg base 5 "link_over" 4 dom_link_over := by
  refine df_ok D sc_link_over rfl fun f cdv A outer s H E ds r hr h hl => ?_
  obtain ⟨n, i, j, t, c, rfl, hc, hi, hj, ht, rfl⟩ := h
  show SDs _ [some (.dat (cd c)), some (.dat (.int (i : Int))), some (.dat (.int (j : Int))), some (.dat (.int (t : Int))), none, none, none] _ _
  have n5 := hc.n5
  have p1 := Nat.two_pow_pos i
  have p2 := Nat.two_pow_pos j
  obtain ⟨g1, a1, b1⟩ := hc.at ht
  obtain ⟨g2, a2, b2⟩ := hc.at (s := t) (by omega)
  obtain ⟨g3, a3, b3⟩ := hc.at (s := t + 2 ^ i) (by omega)
  obtain ⟨g4, a4, b4⟩ := hc.at (s := t + 2 ^ j) (by omega)
  refine sds_cons (sd_par (i := 4) (j := 5) (ad_cons (ed_call c_bit_of hr (ad_cons (ed_v 1) ad_nil) ⟨i, rfl, by omega, rfl⟩) (ad_cons (ed_call c_bit_of hr (ad_cons (ed_v 2) ad_nil) ⟨j, rfl, by omega, rfl⟩) ad_nil)) sc_link_over.nd) ?_
  refine sds_cons (sd_set (i := 6) (ed_call c_times hr (ad_cons (ed_ixT (j := t + 2 ^ i + 2 ^ j) (ed_v 0) (ed_is (ed_add (ed_add (ed_v 3) (ed_v 4)) (ed_v 5)) (by congr 1)) g1 (fun _ _ => rfl)) (ad_cons (ed_ixT (j := t) (ed_v 0) (ed_v 3) g2 (fun _ _ => rfl)) ad_nil)) ⟨_, _, _, _, rfl, b1, b2, by decide, rfl⟩) sc_link_over.nd) ?_
  exact sds_one (sd_ret (ed_call c_over hr (ad_cons (ed_v 6) (ad_cons (ed_call c_times hr (ad_cons (ed_ixT (j := t + 2 ^ i) (ed_v 0) (ed_is (ed_add (ed_v 3) (ed_v 4)) (by congr 1)) g3 (fun _ _ => rfl)) (ad_cons (ed_ixT (j := t + 2 ^ j) (ed_v 0) (ed_is (ed_add (ed_v 3) (ed_v 5)) (by congr 1)) g4 (fun _ _ => rfl)) ad_nil)) ⟨_, _, _, _, rfl, b3, b4, by decide, rfl⟩) ad_nil))
    ⟨_, _, _, _, rfl, M.timesM_bd b1 b2, M.timesM_bd b3 b4, by decide, Int.ne_of_gt (M.timesM_amt a3 a4).n0, rfl⟩))
abbrev pairD (p : Nat × Nat) : PyData := .tuple [.int (p.1 : Int), .int (p.2 : Int)]
abbrev s_seat_pairs : Stmt := topS 52
abbrev N_seat_pairs : List Str := ["carrier", "many", "seat", "other"]
theorem sc_seat_pairs : FnScope N_seat_pairs ["carrier"] (defScope s_seat_pairs) := ⟨rfl, rfl, rfl, by decide +kernel, rfl, by decide +kernel, by decide +kernel⟩
def dom_seat_pairs (ds : List PyData) (r : PyData) : Prop := ∃ (n : Nat) (l : List PyData), ds = [.tuple l] ∧ l.length = 2 ^ n ∧ 1 ≤ n ∧ n ≤ 5 ∧ r = .list ((M.pairsL n).map pairD)
theorem ok_seat_pairs (T : Facts K mg) (D : Df K mg "seat_pairs" s_seat_pairs ["carrier"]) (c_seat_count : Cal P w K mg base 1 "seat_count" 1 dom_seat_count) : Cal P w K mg base 2 "seat_pairs" 1 dom_seat_pairs := by
  refine df_ok D sc_seat_pairs rfl fun f cdv A outer s H E ds r hr h hl => ?_
  obtain ⟨n, l, rfl, hlen, h1, h5, rfl⟩ := h
  show SDs _ [some (.dat (.tuple l)), none, none, none] _ _
  refine sds_cons (sd_set (i := 1) (ed_call c_seat_count hr (ad_cons (ed_v 0) ad_nil) ⟨n, l, rfl, hlen, h1, h5, rfl⟩) sc_seat_pairs.nd) ?_
  refine sds_one (sd_ret (ed_is (ed_lc2 (i := 2) (j := 3) (es := fun d => rgD (((dnat d : Nat) : Int) + 1) ((n : Int) - (((dnat d : Nat) : Int) + 1)).toNat) (g := fun d d1 => .tuple [d, d1]) (id_rng1 (ad_cons (ed_v 1) ad_nil) (by omega) T.range) ?_ sc_seat_pairs.nd (blkOk_by (N := N_seat_pairs) (sc := defScope s_seat_pairs) (by decide +kernel))
    (fun _ _ _ _ _ => pg_name sc_seat_pairs.nd rfl (Or.inl rfl)) (fun _ _ _ _ _ => pg_name sc_seat_pairs.nd rfl (Or.inl rfl)) (fun d hd => ?_) (fun d hd s H C cl fp => ?_) (fun d hd d1 hd1 s H C cl fp => ?_) (fun d hd d1 hd1 => ?_)) ?_))
  · rcases five h1 h5 with e | e | e | e | e <;> subst e <;> exact Nat.le_of_ble_eq_true rfl
  · obtain ⟨k, hk, rfl⟩ := rgD_mem hd
    exact ⟨_, rfl⟩
  · obtain ⟨k, hk, rfl⟩ := rgD_mem hd
    rw [dnat0]
    exact id1_rng2 (ad_cons (ed_is (ed_add (ed_v 2) ed_int) (show PyData.int (0 + (k : Int) + 1) = .int ((k : Int) + 1) by congr 1; omega)) (ad_cons (ed_v 1) ad_nil)) (by omega) T.range
  · exact ed_tup (ad_cons (ed_v 2) (ad_cons (ed_v 3) ad_nil))
  · obtain ⟨k, hk, rfl⟩ := rgD_mem hd
    obtain ⟨k1, hk1, rfl⟩ := rgD_mem hd1
    rfl
  · rcases five h1 h5 with e | e | e | e | e <;> subst e <;> rfl
abbrev s_all_links : Stmt := topS 53
abbrev N_all_links : List Str := ["carrier", "found", "seat", "other", "each"]
theorem sc_all_links : FnScope N_all_links ["carrier"] (defScope s_all_links) := ⟨rfl, rfl, rfl, by decide +kernel, rfl, by decide +kernel, by decide +kernel⟩
def dom_all_links (ds : List PyData) (r : PyData) : Prop := ∃ (n : Nat) (c : List Q2), ds = [cd c] ∧ VC n c ∧ r = .list ((M.allLinksM c n).map qd)
theorem flat_next {α β : Type} {l : List α} {i : Nat} {x : α} (f : α → List β) (h : l[i]? = some x) : (l.take (i + 1)).flatMap f = (l.take i).flatMap f ++ f x := by
  rw [take_next h, List.flatMap_append]
  simp
theorem ok_all_links (T : Facts K mg) (D : Df K mg "all_links" s_all_links ["carrier"]) (c_seat_pairs : Cal P w K mg base 2 "seat_pairs" 1 dom_seat_pairs) (c_link_over : Cal P w K mg base 5 "link_over" 4 dom_link_over) (c_free_standings : Cal P w K mg base 3 "free_standings" 3 dom_free_standings) : Cal P w K mg base 6 "all_links" 1 dom_all_links := by
  refine df_ok D sc_all_links rfl fun f cdv A outer s H E ds r hr h hl => ?_
  obtain ⟨n, c, rfl, hc, rfl⟩ := h
  show SDs _ [some (.dat (cd c)), none, none, none, none] _ _
  have el : (c.map qd).length = 2 ^ n := by rw [List.length_map]; exact hc.len
  have c32 := hc.lt
  obtain ⟨pl, pok⟩ := M.pairsL_ok hc.n5
  refine sds_cons (sd_set (i := 1) (ed_lst ad_nil) sc_all_links.nd) ?_
  refine sds_cons (sd_forG (ds := (M.pairsL n).map pairD) (id_list (ed_call c_seat_pairs hr (ad_cons (ed_v 0) ad_nil) ⟨n, _, rfl, el, hc.n1, hc.n5, rfl⟩))
    (pg_tup rfl (pgs_cons (pg_name (i := 2) sc_all_links.nd rfl (Or.inr rfl)) (pgs_cons (pg_name (i := 3) sc_all_links.nd rfl (Or.inr rfl)) pgs_nil)))
    (fun k => [some (.dat (cd c)), some (.dat (.list ((((M.pairsL n).take k).flatMap fun p => M.linksM c p.1 p.2).map qd))), none, none, none]) ⟨rfl, by rw [List.take_zero]; rfl, trivial⟩ (fun _ => rfl) fun k d hd => ?_) ?_
  · obtain ⟨p, hp, rfl⟩ : ∃ p, (M.pairsL n)[k]? = some p ∧ pairD p = d := by
      rw [List.getElem?_map] at hd
      cases e : (M.pairsL n)[k]? with
      | none => rw [e] at hd; cases hd
      | some p => rw [e] at hd; exact ⟨p, rfl, Option.some.inj hd⟩
    obtain ⟨p1, p2⟩ := pok p (List.mem_of_getElem? hp)
    have hl1 : (((M.pairsL n).take k).flatMap fun p => M.linksM c p.1 p.2).length ≤ 320 := by
      refine Nat.le_trans (M.flat_len c _) ?_
      have h1 : ((M.pairsL n).take k).length ≤ 10 := by rw [List.length_take]; omega
      exact Nat.le_trans (Nat.mul_le_mul h1 c32) (by decide)
    have hl2 := M.links_len c p.1 p.2
    refine ⟨_, _, gd_pair, sds_one (sd_set (i := 1) (ed_cat (ed_v 1) (ed_lc (j := 4) (g := fun d => qd (M.linkM c p.1 p.2 (dnat d))) (id_list (ed_call c_free_standings hr (ad_cons (ed_v 0) (ad_cons (ed_v 2) (ad_cons (ed_v 3) ad_nil))) ⟨_, p.1, p.2, rfl, by rw [el]; exact len32 hc.n5, by have := hc.n5; omega, by have := hc.n5; omega, rfl⟩))
      ?_ sc_all_links.nd (blkOk_by (N := N_all_links) (sc := defScope s_all_links) (by decide +kernel)) (fun _ _ _ _ _ => pg_name sc_all_links.nd rfl (Or.inl rfl)) (fun d hd s H C cl fp => ?_) (fun _ _ => rfl)) ?_) sc_all_links.nd), ⟨rfl, ?_, trivial⟩⟩
    · rw [List.length_map, List.length_map]
      unfold M.linksM at hl2
      rw [List.length_map] at hl2
      omega
    · obtain ⟨t, ht, rfl⟩ := List.mem_map.mp hd
      rw [el] at ht
      have := linkM_ok hc (i := p.1) (j := p.2) (by omega) p2 (by omega) ht
      exact ed_call c_link_over hr (ad_cons (ed_v 0) (ad_cons (ed_v 2) (ad_cons (ed_v 3) (ad_cons (ed_v 4) ad_nil)))) ⟨n, p.1, p.2, t, c, rfl, hc, by omega, p2, this.1, rfl⟩
    · rw [List.length_map, List.length_map, List.length_map, List.length_map]
      unfold M.linksM at hl2
      rw [List.length_map] at hl2
      omega
    · show some (Sl.dat (.list (_ ++ _))) = some (Sl.dat (.list (List.map qd (((M.pairsL n).take (k + 1)).flatMap fun p => M.linksM c p.1 p.2))))
      rw [flat_next _ hp, List.map_append]
      unfold M.linksM
      rw [List.map_map, List.map_map, List.length_map]
      rfl
  · rw [List.length_map]
    refine sds_one (sd_ret (ed_is (ed_v 1) ?_))
    rw [List.take_length]
    rfl
abbrev s_links_of : Stmt := topS 54
abbrev N_links_of : List Str := ["carrier", "seat", "other", "each"]
theorem sc_links_of : FnScope N_links_of ["carrier", "seat", "other"] (defScope s_links_of) := ⟨rfl, rfl, rfl, by decide +kernel, rfl, by decide +kernel, by decide +kernel⟩
def dom_links_of (ds : List PyData) (r : PyData) : Prop := ∃ (n i j : Nat) (c : List Q2), ds = [cd c, .int (i : Int), .int (j : Int)] ∧ VC n c ∧ i < n ∧ j < n ∧ i ≠ j ∧ r = cd (M.linksM c i j)
theorem ok_links_of (T : Facts K mg) (D : Df K mg "links_of" s_links_of ["carrier", "seat", "other"]) (c_check_pair : Cal P w K mg base 7 "check_pair" 3 dom_check_pair) (c_link_over : Cal P w K mg base 5 "link_over" 4 dom_link_over) (c_free_standings : Cal P w K mg base 3 "free_standings" 3 dom_free_standings) : Cal P w K mg base 8 "links_of" 3 dom_links_of := by
  refine df_ok D sc_links_of rfl fun f cdv A outer s H E ds r hr h hl => ?_
  obtain ⟨n, i, j, c, rfl, hc, hi, hj, hne, rfl⟩ := h
  show SDs _ [some (.dat (cd c)), some (.dat (.int (i : Int))), some (.dat (.int (j : Int))), none] _ _
  have el : (c.map qd).length = 2 ^ n := by rw [List.length_map]; exact hc.len
  have c32 := hc.lt
  have n5 := hc.n5
  have hl2 := M.links_len c i j
  unfold M.linksM at hl2
  rw [List.length_map] at hl2
  refine sds_cons (sd_expr (ed_call c_check_pair hr (ad_cons (ed_v 0) (ad_cons (ed_v 1) (ad_cons (ed_v 2) ad_nil))) ⟨rfl, n, i, j, c, rfl, hc, hi, hj, fun z => hne z.symm⟩)) ?_
  refine sds_one (sd_ret (ed_is (ed_tuple_l T.tuple (ad_cons (ed_lc (j := 3) (g := fun d => qd (M.linkM c i j (dnat d))) (id_list (ed_call c_free_standings hr (ad_cons (ed_v 0) (ad_cons (ed_v 1) (ad_cons (ed_v 2) ad_nil))) ⟨_, i, j, rfl, by rw [el]; exact len32 hc.n5, by omega, by omega, rfl⟩))
      ?_ sc_links_of.nd (blkOk_by (N := N_links_of) (sc := defScope s_links_of) (by decide +kernel)) (fun _ _ _ _ _ => pg_name sc_links_of.nd rfl (Or.inl rfl)) (fun d hd s H C cl fp => ?_) (fun _ _ => rfl)) ad_nil)) ?_))
  · rw [List.length_map, List.length_map]
    omega
  · obtain ⟨t, ht, rfl⟩ := List.mem_map.mp hd
    rw [el] at ht
    exact ed_call c_link_over hr (ad_cons (ed_v 0) (ad_cons (ed_v 1) (ad_cons (ed_v 2) (ad_cons (ed_v 3) ad_nil)))) ⟨n, i, j, t, c, rfl, hc, hi, hj, (linkM_ok hc hi hj hne ht).1, rfl⟩
  · unfold cd M.linksM
    rw [List.map_map, List.map_map, List.length_map]
    rfl
theorem allLinks_bd {n : Nat} {c : List Q2} (hc : VC n c) {a : Q2} (ha : a ∈ M.allLinksM c n) : Bd 256 a := by
  obtain ⟨p, hp, h⟩ := List.mem_flatMap.mp ha
  obtain ⟨t, ht, rfl⟩ := List.mem_map.mp h
  obtain ⟨p1, p2⟩ := (M.pairsL_ok hc.n5).2 p hp
  rw [hc.len] at ht
  exact (linkM_ok hc (by omega) p2 (by omega) ht).2
theorem allLinks_len {n : Nat} {c : List Q2} (hc : VC n c) : (M.allLinksM c n).length ≤ 320 :=
  Nat.le_trans (M.flat_len c _) (Nat.le_trans (Nat.mul_le_mul (M.pairsL_ok hc.n5).1 hc.lt) (by decide))
def qof : PyData → Q2
  | .tuple [.int a, .int b] => (a, b)
  | _ => (0, 1)
abbrev s_draws : Stmt := topS 55
abbrev N_draws : List Str := ["carrier", "each"]
theorem sc_draws : FnScope N_draws ["carrier"] (defScope s_draws) := ⟨rfl, rfl, rfl, by decide +kernel, rfl, by decide +kernel, by decide +kernel⟩
def dom_draws (ds : List PyData) (r : PyData) : Prop := ∃ (n : Nat) (c : List Q2), ds = [cd c] ∧ VC n c ∧ r = .bool (!(M.allLinksM c n).any fun a => M.belowM a M.oneM)
theorem ok_draws (T : Facts K mg) (D : Df K mg "draws" s_draws ["carrier"]) (c_check_carrier : Cal P w K mg base 6 "check_carrier" 1 dom_check_carrier) (c_all_links : Cal P w K mg base 6 "all_links" 1 dom_all_links) (c_is_below : Cal P w K mg base 1 "is_below" 2 dom_is_below) : Cal P w K mg base 7 "draws" 1 dom_draws := by
  refine df_ok D sc_draws rfl fun f cdv A outer s H E ds r hr h hl => ?_
  obtain ⟨n, c, rfl, hc, rfl⟩ := h
  show SDs _ [some (.dat (cd c)), none] _ _
  refine sds_cons (sd_expr (ed_call c_check_carrier hr (ad_cons (ed_v 0) ad_nil) ⟨rfl, n, c, rfl, hc⟩)) ?_
  refine sds_one (sd_ret (ed_is (ed_not (ed_any (bs := (M.allLinksM c n).map fun a => M.belowM a M.oneM) rfl T.any (ad_cons (ed_is (ed_lc (j := 1) (g := fun d => .bool (M.belowM (qof d) M.oneM)) (id_list (ed_call c_all_links hr (ad_cons (ed_v 0) ad_nil) ⟨n, c, rfl, hc, rfl⟩)) (by rw [List.length_map]; have := allLinks_len hc; omega)
    sc_draws.nd (blkOk_by (N := N_draws) (sc := defScope s_draws) (by decide +kernel)) (fun _ _ _ _ _ => pg_name sc_draws.nd rfl (Or.inl rfl)) (fun d hd s H C cl fp => ?_) (fun _ _ => rfl)) ?_) ad_nil))) ?_))
  · obtain ⟨a, ha, rfl⟩ := List.mem_map.mp hd
    exact ed_call c_is_below hr (ad_cons (ed_v 1) (ad_cons (ed_gc T.ONE) ad_nil)) ⟨a, M.oneM, 256, 1, rfl, allLinks_bd hc ha, Bd.one, by decide, rfl⟩
  · rw [List.map_map, List.map_map]
    rfl
  · rw [List.any_map]
    rfl
abbrev s_shuns : Stmt := topS 56
abbrev N_shuns : List Str := ["carrier", "each"]
theorem sc_shuns : FnScope N_shuns ["carrier"] (defScope s_shuns) := ⟨rfl, rfl, rfl, by decide +kernel, rfl, by decide +kernel, by decide +kernel⟩
def dom_shuns (ds : List PyData) (r : PyData) : Prop := ∃ (n : Nat) (c : List Q2), ds = [cd c] ∧ VC n c ∧ r = .bool (!(M.allLinksM c n).any fun a => M.belowM M.oneM a)
theorem ok_shuns (T : Facts K mg) (D : Df K mg "shuns" s_shuns ["carrier"]) (c_check_carrier : Cal P w K mg base 6 "check_carrier" 1 dom_check_carrier) (c_all_links : Cal P w K mg base 6 "all_links" 1 dom_all_links) (c_is_below : Cal P w K mg base 1 "is_below" 2 dom_is_below) : Cal P w K mg base 7 "shuns" 1 dom_shuns := by
  refine df_ok D sc_shuns rfl fun f cdv A outer s H E ds r hr h hl => ?_
  obtain ⟨n, c, rfl, hc, rfl⟩ := h
  show SDs _ [some (.dat (cd c)), none] _ _
  refine sds_cons (sd_expr (ed_call c_check_carrier hr (ad_cons (ed_v 0) ad_nil) ⟨rfl, n, c, rfl, hc⟩)) ?_
  refine sds_one (sd_ret (ed_is (ed_not (ed_any (bs := (M.allLinksM c n).map fun a => M.belowM M.oneM a) rfl T.any (ad_cons (ed_is (ed_lc (j := 1) (g := fun d => .bool (M.belowM M.oneM (qof d))) (id_list (ed_call c_all_links hr (ad_cons (ed_v 0) ad_nil) ⟨n, c, rfl, hc, rfl⟩)) (by rw [List.length_map]; have := allLinks_len hc; omega)
    sc_shuns.nd (blkOk_by (N := N_shuns) (sc := defScope s_shuns) (by decide +kernel)) (fun _ _ _ _ _ => pg_name sc_shuns.nd rfl (Or.inl rfl)) (fun d hd s H C cl fp => ?_) (fun _ _ => rfl)) ?_) ad_nil))) ?_))
  · obtain ⟨a, ha, rfl⟩ := List.mem_map.mp hd
    exact ed_call c_is_below hr (ad_cons (ed_gc T.ONE) (ad_cons (ed_v 1) ad_nil)) ⟨M.oneM, a, 1, 256, rfl, Bd.one, allLinks_bd hc ha, by decide, rfl⟩
  · rw [List.map_map, List.map_map]
    rfl
  · rw [List.any_map]
    rfl
end
end G
/-! D5 -/
namespace G
open PySem PySem.Spec PyProof.Rows L2
open M (Q2 Bd Amt gc)
open Evl (Ex Ex.refl Ex.trans Ex.new Ex.mut fresh_back)
section
variable {X : Cx} {δ : En} {a b e : Expr} {es : List Expr} {pos : Pos} {d : PyData} {ds : List PyData}
theorem ed_min {fp : Pos} {i j : Int} (hc : X.calm = true) (hm : X.mg "min" = none) (h : AD X δ [a, b] [.int i, .int j]) (hg : Gl X "min" := by rfl) (hs : starEach [a, b] X.env = (false, eval a X.env) :: starEach [b] X.env := by rfl) (hpl : (backTo pos (starEach [b] X.env)).any (·.1) = false := by rfl) :
    ED X δ (.Call (.Name "min" fp) [a, b] [] pos) (.int (if j < i then j else i)) :=
  ed_cb (pe_callB (call_min2 hc) hg hm (by decide +kernel) pa_b (by decide) (by decide) hs hpl) h fun vs H d1 Q q => by
    obtain ⟨v, w, rfl, r1, r2⟩ := d1.two_v
    exact ⟨i, j, by rw [r1.int_v, r2.int_v], q _ H (Ex.refl H) (.int _)⟩
/-- new lists, their addresses told to be new -/
theorem rl_lst (h : AD X δ es ds) (hl : ds.length ≤ 100000 := by exact Nat.le_of_ble_eq_true rfl) : RL X.K (tLst (bA X es)) δ ds := fun H0 H σ S Q q => h H0 H σ S _ fun vs H1 e1 d1 =>
  ⟨by rw [d1.length]; exact Evl.sz_of hl, fun p hp => q _ _ _ (fresh_back e1 hp) (e1.trans (Ex.new hp)) upd_same (d1.mono (Ex.new hp))⟩
theorem rl_rep {n : Nat} (ha : ED X δ a (.list [d])) (hb : ED X δ b (.int (n : Int))) (hl : n ≤ 100000) : RL X.K (tOp rRep (bE X a) (bE X b)) δ (List.replicate n d) := fun H0 H σ S Q q => ha H0 H σ S _ fun x H1 e1 d1 => hb H0 H1 σ (S.mono e1) _ fun y H2 e2 d2 => by
  obtain ⟨p, xs, rfl, h1, h2⟩ := (d1.mono e2).lst_v
  obtain ⟨v, rfl, r⟩ := h2.one_v
  refine ⟨p, (n : Int), [v], rfl, d2.int_v, h1, by omega, by omega, by rw [Int.toNat_natCast, List.length_singleton, Nat.one_mul]; exact Evl.sz_of hl, fun l hl => q l _ _ (fresh_back (e1.trans e2) hl) ((e1.trans e2).trans (Ex.new hl)) upd_same ?_⟩
  rw [Int.toNat_natCast]
  exact (rep_all r n).mono (Ex.new hl)
/-- a, b = [..], y: two local names, the first an own list -/
theorem sd_parO {i j : Nat} {x y : Str} {px py pt p1 : Pos} {kt k2 pt2} {d2 : PyData} (hl : AD X δ es ds) (hb : ED X δ b d2) (hf : lfAll ds = true) (hN : X.N.Nodup) (hc : X.calm = true := by rfl) (hi : X.N[i]? = some x := by rfl) (hj : X.N[j]? = some y := by rfl) (hij : i ≠ j := by decide)
    (hx : X.env.scope.names.lookup x = some .local := by rfl) (hy : X.env.scope.names.lookup y = some .local := by rfl) (hw : swappedStores [.Tuple [.Name x px, .Name y py] kt pt] (.Tuple [.List es p1, b] k2 pt2) X.env = pure (some [x, y]) := by rfl)
    (hs : swapsWithSole [.Tuple [.Name x px, .Name y py] kt pt] (.Tuple [.List es p1, b] k2 pt2) pos.line X.env = pure false := by rfl)
    (hst : starEach [.List es p1, b] X.env = (false, eval (.List es p1) X.env) :: starEach [b] X.env := by rfl) (hst2 : starEach [b] X.env = (false, eval b X.env) :: starEach [] X.env := by rfl) (hz : ds.length ≤ 100000 := by exact Nat.le_of_ble_eq_true rfl) :
    SD X δ (.Assign [.Tuple [.Name x px, .Name y py] kt pt] (.Tuple [.List es p1, b] k2 pt2) pos) (.nx ((δ.set i (some (.own ds))).set j (some (.dat d2)))) :=
  sd_of (ps_par hc hN hi hj hij hx hy (pa_cons (pe_lst pa_b) (pa_cons pe_b pa_nil hst2) hst) hw hs) fun H0 H σ S D k => by
    show tLst (bA X es) σ H fun u H1 => bE X b σ H1 fun z H2 => ∃ v w, [u, z] = [v, w] ∧ D.nx ((σ.set i (some v)).set j (some w)) H2
    refine rl_lst hl hz H0 H σ S _ fun p xs H1 hp e1 h1 r1 => ?_
    refine hb H0 H1 σ (S.mono e1) _ fun w H2 e2 r2 => ?_
    exact ⟨.ref p, w, rfl, k _ H2 ((((S.mono e1).mono e2).set i (s := .own ds) ⟨p, xs, rfl, fresh_back S.ex hp, e2 _ _ h1, r1.mono e2, hf⟩).set j (s := .dat d2) r2)⟩
end
theorem canLay_q (c : List Q2) : PyData.canLayAll0 (c.map qd) = true := by
  induction c with
  | nil => rfl
  | cons a c ih =>
    rw [List.map_cons]
    show (PyData.canLay0 (qd a) && PyData.canLayAll0 (c.map qd)) = true
    rw [ih]
    rfl
theorem depth_q (c : List Q2) : PyData.depthAll (c.map qd) ≤ 1 := by
  induction c with
  | nil => exact Nat.zero_le _
  | cons a c ih =>
    rw [List.map_cons]
    show max (PyData.depth (qd a)) (PyData.depthAll (c.map qd)) ≤ 1
    exact Nat.max_le.mpr ⟨Nat.le_refl 1, ih⟩
theorem shaped_cd (c : List Q2) : SeqAt.shaped (cd c) = true := by
  unfold SeqAt.shaped
  rw [Bool.and_eq_true]
  refine ⟨canLay_q c, decide_eq_true ?_⟩
  show PyData.depthAll (c.map qd) + 1 ≤ 64
  have := depth_q c
  omega
theorem eqv_q (a b : Q2) : PyData.eqv (qd a) (qd b) = decide (a = b) := by
  obtain ⟨a1, a2⟩ := a
  obtain ⟨b1, b2⟩ := b
  show (PyData.eqv (.int a1) (.int b1) && (PyData.eqv (.int a2) (.int b2) && PyData.eqvAll [] [])) = _
  show ((a1 == b1) && ((a2 == b2) && true)) = _
  rw [Bool.and_true, Bool.beq_eq_decide_eq, Bool.beq_eq_decide_eq, ← Bool.decide_and]
  exact decide_eq_decide.mpr ⟨fun h => by rw [h.1, h.2], fun h => ⟨congrArg Prod.fst h, congrArg Prod.snd h⟩⟩
theorem eqv_cdAll : ∀ a b : List Q2, PyData.eqvAll (a.map qd) (b.map qd) = decide (a = b)
  | [], [] => rfl
  | [], _ :: _ => rfl
  | _ :: _, [] => rfl
  | x :: a, y :: b => by
    show (PyData.eqv (qd x) (qd y) && PyData.eqvAll (a.map qd) (b.map qd)) = _
    rw [eqv_q, eqv_cdAll a b, ← Bool.decide_and]
    exact decide_eq_decide.mpr ⟨fun h => by rw [h.1, h.2], fun h => List.cons.inj h⟩
theorem eqv_cd (a b : List Q2) : PyData.eqv (cd a) (cd b) = decide (a = b) := eqv_cdAll a b
theorem lf_qs (c : List Q2) : lfAll (c.map qd) = true := by
  induction c with
  | nil => rfl
  | cons a c ih =>
    rw [List.map_cons]
    show (lf (qd a) && lfAll (c.map qd)) = true
    rw [ih]
    rfl
section
variable {P : Program} {w : World} {K : PySem.W.Frag} {mg : Str → Option Value} {base : Heap}
abbrev s_weights_of : Stmt := topS 62
abbrev N_weights_of : List Str := ["factors", "found", "factor", "weight"]
theorem sc_weights_of : FnScope N_weights_of ["factors"] (defScope s_weights_of) := ⟨rfl, rfl, rfl, by decide +kernel, rfl, by decide +kernel, by decide +kernel⟩
def dom_weights_of (ds : List PyData) (r : PyData) : Prop := ∃ fs : List Q2, ds = [.list (fs.map qd)] ∧ fs.length ≤ 5 ∧ (∀ a ∈ fs, Bd 64 a) ∧ r = cd (M.wsM fs)
theorem ok_weights_of (T : Facts K mg) (D : Df K mg "weights_of" s_weights_of ["factors"]) (c_times : Cal P w K mg base 4 "times" 2 dom_times) : Cal P w K mg base 5 "weights_of" 1 dom_weights_of := by
  refine df_ok D sc_weights_of rfl fun f cdv A outer s H E ds r hr h hl => ?_
  obtain ⟨fs, rfl, h5, hb, rfl⟩ := h
  show SDs _ [some (.dat (.list (fs.map qd))), none, none, none] _ _
  refine sds_cons (sd_set (i := 1) (ed_lst (ad_cons (ed_gc T.ONE) ad_nil)) sc_weights_of.nd) ?_
  refine sds_cons (sd_forG (ds := fs.map qd) (id_list (ed_v 0)) (pg_name (i := 2) sc_weights_of.nd rfl (Or.inr rfl)) (fun k => [some (.dat (.list (fs.map qd))), some (.dat (.list ((M.wsK fs k).map qd))), none, none]) ⟨rfl, rfl, trivial⟩ (fun _ => rfl) fun k d hd => ?_) ?_
  · have hk : k < fs.length := by
      have := (List.getElem?_eq_some_iff.mp hd).1
      rw [List.length_map] at this
      exact this
    obtain ⟨m1, m2⟩ := M.getD_mem hk
    rw [qd_map m2] at hd
    cases hd
    have hlen : (M.wsK fs k).length ≤ 32 := by rw [M.wsK_len]; exact len32 (by omega)
    refine ⟨_, _, gd_name, sds_one (sd_set (i := 1) (ed_cat (ed_v 1) (ed_lc (j := 3) (g := fun d => qd (M.timesM (qof d) (fs.getD k M.zeroM))) (id_list (ed_v 1)) (by rw [List.length_map]; omega) sc_weights_of.nd (blkOk_by (N := N_weights_of) (sc := defScope s_weights_of) (by decide +kernel)) (fun _ _ _ _ _ => pg_name sc_weights_of.nd rfl (Or.inl rfl))
      (fun d hd s H C cl fp => ?_) (fun _ _ => rfl)) (by rw [List.length_map, List.length_map, List.length_map]; omega)) sc_weights_of.nd), ⟨rfl, ?_, trivial⟩⟩
    · obtain ⟨a, ha, rfl⟩ := List.mem_map.mp hd
      exact ed_call c_times hr (ad_cons (ed_v 3) (ad_cons (ed_v 2) ad_nil)) ⟨a, _, _, _, rfl, M.wsK_bd hb k (by omega) a ha, hb _ m1, by omega, rfl⟩
    · show some (Sl.dat (.list (_ ++ _))) = some (Sl.dat (.list ((M.wsK fs k ++ (M.wsK fs k).map fun a => M.timesM a (fs.getD k M.zeroM)).map qd)))
      rw [List.map_append, List.map_map, List.map_map]
      rfl
  · rw [List.length_map]
    exact sds_one (sd_ret (ed_tuple_l T.tuple (ad_cons (ed_v 1) ad_nil)))
abbrev s_alone_of : Stmt := topS 63
abbrev N_alone_of : List Str := ["carrier", "found", "standing", "_"]
theorem sc_alone_of : FnScope N_alone_of ["carrier"] (defScope s_alone_of) := ⟨rfl, rfl, rfl, by decide +kernel, rfl, by decide +kernel, by decide +kernel⟩
def dom_alone_of (ds : List PyData) (r : PyData) : Prop := ∃ (n : Nat) (c : List Q2), ds = [cd c] ∧ VC n c ∧ r = .list ((M.aloneK c n).map qd)
theorem ok_alone_of (T : Facts K mg) (D : Df K mg "alone_of" s_alone_of ["carrier"]) (c_seat_count : Cal P w K mg base 1 "seat_count" 1 dom_seat_count) : Cal P w K mg base 2 "alone_of" 1 dom_alone_of := by
  refine df_okA D sc_alone_of rfl fun f cdv A outer s H E ds r hr h hl => ?_
  obtain ⟨n, c, rfl, hc, rfl⟩ := h
  show SDs _ [some (.arg (cd c)), none, none, none] _ _
  have el : (c.map qd).length = 2 ^ n := by rw [List.length_map]; exact hc.len
  have n5 := hc.n5
  refine sds_cons (sd_parO (i := 1) (j := 2) ad_nil ed_int rfl sc_alone_of.nd) ?_
  refine sds_cons (sd_for0G (ds := rgD 0 n) (id0_rng1 (ad_cons (ed_call c_seat_count hr (ad_cons (ed_vA 0) ad_nil) ⟨n, _, rfl, el, hc.n1, hc.n5, rfl⟩) ad_nil) (by omega) T.range) (pg_name (i := 3) sc_alone_of.nd rfl (Or.inl rfl)) (fun k => [some (.arg (cd c)), some (.own ((M.aloneK c k).map qd)), some (.dat (.int ((2 ^ k : Nat) : Int))), none]) ⟨rfl, rfl, rfl, trivial⟩ fun k d hd => ?_) ?_
  · obtain ⟨hk, rfl⟩ := rgD_get hd
    have h2 : 2 ^ k < 2 ^ n := Nat.pow_lt_pow_right (by decide) hk
    obtain ⟨g1, a1, b1⟩ := hc.at h2
    refine ⟨_, _, gd_name, sds_cons (sd_app (i := 1) rfl (ed_ixT (j := 2 ^ k) (ed_vA 0) (ed_v 2) g1 (fun _ _ => rfl)) rfl rfl ?_) (sds_one (sd_set (i := 2) (ed_mulS ed_int (ed_v 2) (.inl ⟨by decide, by decide⟩)) sc_alone_of.nd)), ⟨rfl, ?_, ?_, trivial⟩⟩
    · rw [List.length_map]
      unfold M.aloneK
      rw [List.length_map, List.length_range]
      omega
    · show some (Sl.own (_ ++ [_])) = some (Sl.own ((M.aloneK c (k + 1)).map qd))
      rw [M.aloneK_succ, List.map_append]
      rfl
    · show some (Sl.dat (.int (2 * ((2 ^ k : Nat) : Int)))) = some (Sl.dat (.int ((2 ^ (k + 1) : Nat) : Int)))
      rw [Nat.pow_succ, Int.natCast_mul, Int.mul_comm]
      rfl
  · rw [rgD_len]
    exact sds_one (sd_ret (ed_vO 1))
abbrev s_is_unlinked : Stmt := topS 67
abbrev N_is_unlinked : List Str := ["carrier"]
theorem sc_is_unlinked : FnScope N_is_unlinked ["carrier"] (defScope s_is_unlinked) := ⟨rfl, rfl, rfl, by decide +kernel, rfl, by decide +kernel, by decide +kernel⟩
def dom_is_unlinked (ds : List PyData) (r : PyData) : Prop := ∃ (n : Nat) (c : List Q2), ds = [cd c] ∧ VC n c ∧ r = .bool (decide (M.wsM (M.aloneK c n) = c))
theorem alone_bd {n : Nat} {c : List Q2} (hc : VC n c) : (M.aloneK c n).length = n ∧ ∀ a ∈ M.aloneK c n, Bd 64 a := by
  unfold M.aloneK
  refine ⟨by rw [List.length_map, List.length_range], fun a ha => ?_⟩
  obtain ⟨k, hk, rfl⟩ := List.mem_map.mp ha
  exact (hc.at (Nat.pow_lt_pow_right (by decide) (List.mem_range.mp hk))).2.2
theorem ok_is_unlinked (T : Facts K mg) (D : Df K mg "is_unlinked" s_is_unlinked ["carrier"]) (c_check_carrier : Cal P w K mg base 6 "check_carrier" 1 dom_check_carrier) (c_weights_of : Cal P w K mg base 5 "weights_of" 1 dom_weights_of) (c_alone_of : Cal P w K mg base 2 "alone_of" 1 dom_alone_of) : Cal P w K mg base 7 "is_unlinked" 1 dom_is_unlinked := by
  refine df_ok D sc_is_unlinked rfl fun f cdv A outer s H E ds r hr h hl => ?_
  obtain ⟨n, c, rfl, hc, rfl⟩ := h
  show SDs _ [some (.dat (cd c))] _ _
  obtain ⟨al, ab⟩ := alone_bd hc
  have n5 := hc.n5
  refine sds_cons (sd_expr (ed_call c_check_carrier hr (ad_cons (ed_v 0) ad_nil) ⟨rfl, n, c, rfl, hc⟩)) ?_
  exact sds_one (sd_ret (ed_is (ed_eq hr.units (ed_call c_weights_of hr (ad_cons (ed_call c_alone_of hr (ad_cons (ed_v 0) ad_nil) ⟨n, c, rfl, hc, rfl⟩) ad_nil) ⟨_, rfl, by omega, ab, rfl⟩) (ed_v 0) (shaped_cd _) (shaped_cd _)) (by rw [eqv_cd])))
abbrev s_counts_in : Stmt := topS 34
abbrev N_counts_in : List Str := ["carrier", "standings", "found", "standing", "many"]
theorem sc_counts_in : FnScope N_counts_in ["carrier", "standings"] (defScope s_counts_in) := ⟨rfl, rfl, rfl, by decide +kernel, rfl, by decide +kernel, by decide +kernel⟩
def dom_counts_in (ds : List PyData) (r : PyData) : Prop := ∃ (n : Nat) (c : List Q2), ds = [cd c, .list (rgD 0 c.length)] ∧ VC n c ∧ r = .list ((M.countsM c n).map qd)
theorem ok_counts_in (T : Facts K mg) (D : Df K mg "counts_in" s_counts_in ["carrier", "standings"]) (c_seat_count : Cal P w K mg base 1 "seat_count" 1 dom_seat_count) (c_bits_in : Cal P w K mg base 1 "bits_in" 1 dom_bits_in) (c_plus : Cal P w K mg base 4 "plus" 2 dom_plus) : Cal P w K mg base 5 "counts_in" 2 dom_counts_in := by
  refine df_okA D sc_counts_in rfl fun f cdv A outer s H E ds r hr h hl => ?_
  obtain ⟨n, c, rfl, hc, rfl⟩ := h
  show SDs _ [some (.arg (cd c)), some (.arg (.list (rgD 0 c.length))), none, none, none] _ _
  have el : (c.map qd).length = 2 ^ n := by rw [List.length_map]; exact hc.len
  have n5 := hc.n5
  have c32 := hc.lt
  refine sds_cons (sd_own (i := 2) (pe_op op_rep pe_b pe_b) (fun H0 H σ S Q q => rl_rep (n := n + 1) (d := qd M.zeroM) (ed_lst (ad_cons (ed_gc T.ZERO) ad_nil)) (ed_add (ed_call c_seat_count hr (ad_cons (ed_vA 0) ad_nil) ⟨n, _, rfl, el, hc.n1, hc.n5, rfl⟩) ed_int) (by omega) H0 H σ S Q fun p xs H2 hp e2 h2 r2 => q p xs H2 hp e2 h2 (by rw [show (M.countsF c n 0).map qd = List.replicate (n + 1) (qd M.zeroM) from List.map_replicate ..]; exact r2)) (ds := (M.countsF c n 0).map qd) ?_ sc_counts_in.nd) ?_
  · exact lf_qs _
  refine sds_cons (sd_for0G (ds := rgD 0 c.length) (id0_arg (i := 1) rfl) (pg_name (i := 3) sc_counts_in.nd rfl (Or.inl rfl)) (fun k => [some (.arg (cd c)), some (.arg (.list (rgD 0 c.length))), some (.own ((M.countsF c n k).map qd)), none, none]) ⟨rfl, rfl, rfl, trivial⟩ fun k d hd => ?_) ?_
  · obtain ⟨hk, rfl⟩ := rgD_get hd
    have h2 : k < 2 ^ n := by rw [← hc.len]; exact hk
    obtain ⟨g1, a1, b1⟩ := hc.at h2
    have hb := M.bits_le_n n5 h2
    have fl := M.countsF_len c n k
    obtain ⟨m1, m2⟩ := M.getD_mem (c := M.countsF c n k) (k := M.bitsM k) (by omega)
    have fb := M.countsF_bd hc.bd k (by omega) _ m1
    have ek : PyData.int (0 + (k : Int)) = .int ((k : Nat) : Int) := by congr 1; omega
    refine ⟨_, _, gd_name, sds_cons (sd_set (i := 4) (ed_call c_bits_in hr (ad_cons (ed_is (ed_v 3) ek) ad_nil) ⟨k, rfl, by omega, rfl⟩) sc_counts_in.nd)
      (sds_one (sd_seti (i := 2) (j := M.bitsM k) rfl (ed_call c_plus hr (ad_cons (ed_ixL (j := M.bitsM k) (ed_vO 2) (ed_v 4) (qd_map m2) (fun _ _ => rfl)) (ad_cons (ed_ixT (j := k) (ed_vA 0) (ed_is (ed_v 3) ek) g1 (fun _ _ => rfl)) ad_nil)) ⟨_, _, _, _, rfl, fb, b1, by omega, rfl⟩) (ed_v 4) (by rw [List.length_map]; omega) rfl rfl)), ⟨rfl, rfl, ?_, trivial⟩⟩
    show some (Sl.own (((M.countsF c n k).map qd).set (M.bitsM k) _)) = some (Sl.own (((M.countsF c n k).set (M.bitsM k) (M.plusM ((M.countsF c n k).getD (M.bitsM k) M.zeroM) (c.getD k M.zeroM))).map qd))
    rw [List.map_set]
  · rw [rgD_len]
    exact sds_one (sd_ret (ed_vO 2))
abbrev s_counts_by : Stmt := topS 35
abbrev N_counts_by : List Str := ["carrier"]
theorem sc_counts_by : FnScope N_counts_by ["carrier"] (defScope s_counts_by) := ⟨rfl, rfl, rfl, by decide +kernel, rfl, by decide +kernel, by decide +kernel⟩
def dom_counts_by (ds : List PyData) (r : PyData) : Prop := ∃ (n : Nat) (c : List Q2), ds = [cd c] ∧ VC n c ∧ r = .list ((M.countsM c n).map qd)
theorem ok_counts_by (T : Facts K mg) (D : Df K mg "counts_by" s_counts_by ["carrier"]) (c_counts_in : Cal P w K mg base 5 "counts_in" 2 dom_counts_in) : Cal P w K mg base 6 "counts_by" 1 dom_counts_by := by
  refine df_ok D sc_counts_by rfl fun f cdv A outer s H E ds r hr h hl => ?_
  obtain ⟨n, c, rfl, hc, rfl⟩ := h
  show SDs _ [some (.dat (cd c))] _ _
  have c32 := hc.lt
  exact sds_one (sd_ret (ed_call c_counts_in hr (ad_cons (ed_v 0) (ad_cons (ed_listRg rfl T.list T.range (ed_len_t (n := c.length) T.len (ad_cons (ed_v 0) ad_nil) (List.length_map _)) (by omega)) ad_nil)) ⟨n, c, rfl, hc, rfl⟩))
end
end G
/-! D6 -/
namespace G
open PySem PySem.Spec PyProof.Rows L2
open M (Q2 Bd Amt gc)
open Evl (Ex Ex.refl Ex.trans Ex.new Ex.mut fresh_back)
theorem id0_is {X : Cx} {δ : En} {tg iter : Expr} {ds ds' : List PyData} (h : ID0 X δ tg iter ds) (e : ds = ds') : ID0 X δ tg iter ds' := by rw [← e]; exact h
theorem rl_go {K : PySem.W.Frag} {te : TE} {δ : En} {ds ds' : List PyData} {H0 H : Hp} {σ : L2.St} {Q : VK} (h : RL K te δ ds) (e : ds = ds') (S : St0 K H0 H σ δ) (q : ∀ p xs H2, H p = none → Ex H H2 → H2 p = some (.lst xs) → RpAll K H2 xs ds' → Q (.ref p) H2) : te σ H Q := by
  subst e
  exact h H0 H σ S Q q
section
variable {P : Program} {w : World} {K : PySem.W.Frag} {mg : Str → Option Value} {base : Heap}
abbrev s_powers_of : Stmt := topS 64
abbrev N_powers_of : List Str := ["row", "many", "found", "at", "total", "step"]
theorem sc_powers_of : FnScope N_powers_of ["row", "many"] (defScope s_powers_of) := ⟨rfl, rfl, rfl, by decide +kernel, rfl, by decide +kernel, by decide +kernel⟩
def dom_powers_of (ds : List PyData) (r : PyData) : Prop := ∃ (row sums : List Q2) (m : Nat), ds = [.list (row.map qd), .int (m : Int)] ∧ 1 ≤ row.length ∧ row.length ≤ 6 ∧ m ≤ 10 ∧ (∀ a ∈ row, Bd 40 a) ∧ M.powersC row m = some sums ∧ r = .list (sums.map qd)
def psF (row : List Q2) (k : Nat) : List Q2 := (M.powersC row k).getD []
theorem ok_powers_of (T : Facts K mg) (D : Df K mg "powers_of" s_powers_of ["row", "many"]) (c_times : Cal P w K mg base 4 "times" 2 dom_times) (c_plus : Cal P w K mg base 4 "plus" 2 dom_plus) (c_minus : Cal P w K mg base 4 "minus" 2 dom_minus) : Cal P w K mg base 5 "powers_of" 2 dom_powers_of := by
  refine df_okA D sc_powers_of rfl fun f cdv A outer s H E ds r hr h hl => ?_
  obtain ⟨row, sums, m, rfl, r1, r6, hm, hb, hp, rfl⟩ := h
  show SDs _ [some (.arg (.list (row.map qd))), some (.arg (.int (m : Int))), none, none, none, none] _ _
  have ps : ∀ k, k ≤ m → M.powersC row k = some (psF row k) := fun k hk => by
    obtain ⟨s', e⟩ := M.powersC_prev hp k hk
    unfold psF
    rw [e]
    rfl
  refine sds_cons (sd_own (i := 2) (pe_lst pa_b) (fun H0 H σ S Q q => rl_lst (ad_cons (ed_tup (ad_cons (ed_sub (ed_len_l (n := row.length) T.len (ad_cons (ed_vA 0) ad_nil) (List.length_map _)) ed_int) (ad_cons ed_int ad_nil))) ad_nil) (Nat.le_of_ble_eq_true rfl) H0 H σ S Q fun p xs H2 hp e2 h2 r2 => q p xs H2 hp e2 h2 r2) (ds := (psF row 0).map qd) (lf_qs _) sc_powers_of.nd) ?_
  refine sds_cons (sd_for0G (ds := rgD 1 m) (id0_is (id0_rng2 (ad_cons ed_int (ad_cons (ed_add (ed_vA 1) ed_int) ad_nil)) (by omega) T.range) (by rw [show ((m : Int) + 1 - 1).toNat = m by omega])) (pg_name (i := 3) sc_powers_of.nd rfl (Or.inl rfl)) (fun k => [some (.arg (.list (row.map qd))), some (.arg (.int (m : Int))), some (.own ((psF row k).map qd)), none, none, none]) ⟨rfl, rfl, rfl, trivial⟩ fun k d hd => ?_) ?_
  · obtain ⟨hk, rfl⟩ := rgD_get hd
    have e0 := ps k (by omega)
    have e1 := ps (k + 1) (by omega)
    obtain ⟨st, ck⟩ := M.powersC_step e0 e1
    obtain ⟨fl, fb⟩ := M.powersC_ok hb r1 r6 (by omega) e0
    have ea : PyData.int (1 + (k : Int)) = .int ((k + 1 : Nat) : Int) := by congr 1; omega
    have mn : (if (row.length : Int) < 1 + (k : Int) then (row.length : Int) else 1 + (k : Int)) - 1 = ((min (k + 1) row.length - 1 : Nat) : Int) := by split <;> omega
    have pb : ∀ j, j ≤ min (k + 1) row.length - 1 → Bd (44 + 121 * 6) (M.ptot row (psF row k) (k + 1) j) := fun j hj => (M.ptot_bd hb fb (by omega) j (by omega) (by omega) (by omega)).mono (by omega)
    refine ⟨_, _, gd_name, sds_cons (sd_set (i := 4) (d := qd (M.ptot row (psF row k) (k + 1) 0)) (ed_if (td_lt (ed_v 3) (ed_len_l (n := row.length) T.len (ad_cons (ed_vA 0) ad_nil) (List.length_map _))) (fun z => ?_) fun z => ?_) sc_powers_of.nd)
      (sds_cons (sd_for0G (ds := rgD 1 (min (k + 1) row.length - 1)) (id0_is (id0_rng2 (ad_cons ed_int (ad_cons (ed_min rfl T.min (ad_cons (ed_v 3) (ad_cons (ed_len_l (n := row.length) T.len (ad_cons (ed_vA 0) ad_nil) (List.length_map _)) ad_nil))) ad_nil)) (by split <;> omega) T.range) (by rw [mn, Int.toNat_natCast])) (pg_name (i := 5) sc_powers_of.nd rfl (Or.inl rfl)) (fun j => [some (.arg (.list (row.map qd))), some (.arg (.int (m : Int))), some (.own ((psF row k).map qd)), some (.dat (.int (1 + (k : Int)))), some (.dat (qd (M.ptot row (psF row k) (k + 1) j))), none]) ⟨rfl, rfl, rfl, rfl, rfl, trivial⟩ fun j d hd => ?_)
      (sds_one (sd_app (i := 2) rfl (ed_call c_minus hr (ad_cons (ed_gc T.ZERO) (ad_cons (ed_v 4) ad_nil)) ⟨M.zeroM, _, 1, _, rfl, Bd.zero, pb _ (by rw [rgD_len]; exact Nat.le_refl _), by decide, rfl⟩) rfl rfl ?_))), ⟨rfl, rfl, ?_, trivial⟩⟩
    · have z := of_decide_eq_true z
      have hk1 : k + 1 < row.length := by omega
      obtain ⟨m1, m2⟩ := M.getD_mem hk1
      unfold M.ptot
      rw [if_pos hk1]
      refine ed_call c_times hr (ad_cons (ed_ixL (j := k + 1) (ed_vA 0) (ed_is (ed_v 3) ea) (qd_map m2) (fun _ _ => rfl)) (ad_cons (ed_tup (ad_cons (ed_is (ed_v 3) ea) (ad_cons ed_int ad_nil))) ad_nil)) ⟨_, (((k + 1 : Nat) : Int), 1), _, 4, rfl, hb _ m1, ⟨(by decide : (0 : Int) < 1), ?_, (by decide : (1 : Int).natAbs < 2 ^ 4)⟩, by decide, rfl⟩
      show ((k + 1 : Nat) : Int).natAbs < 2 ^ 4
      rw [Int.natAbs_natCast]
      omega
    · have z := of_decide_eq_false z
      unfold M.ptot
      rw [if_neg (by omega)]
      exact ed_gc T.ZERO
    · obtain ⟨hj, rfl⟩ := rgD_get hd
      have ej : PyData.int (1 + (j : Int)) = .int ((j + 1 : Nat) : Int) := by congr 1; omega
      have edj : PyData.int (1 + (k : Int) - (1 + (j : Int))) = .int ((k + 1 - (j + 1) : Nat) : Int) := by congr 1; omega
      obtain ⟨m1, m2⟩ := M.getD_mem (c := row) (k := j + 1) (by omega)
      obtain ⟨n1, n2⟩ := M.getD_mem (c := psF row k) (k := k + 1 - (j + 1)) (by omega)
      refine ⟨_, _, gd_name, sds_one (sd_set (i := 4) (ed_call c_plus hr (ad_cons (ed_v 4) (ad_cons (ed_call c_times hr (ad_cons (ed_ixL (j := j + 1) (ed_vA 0) (ed_is (ed_v 5) ej) (qd_map m2) (fun _ _ => rfl)) (ad_cons (ed_ixL (j := k + 1 - (j + 1)) (ed_vO 2) (ed_is (ed_sub (ed_v 3) (ed_v 5)) edj) (qd_map n2) (fun _ _ => rfl)) ad_nil)) ⟨_, _, _, _, rfl, hb _ m1, fb _ n1, by decide, rfl⟩) ad_nil)) ⟨_, _, _, _, rfl, pb j (by omega), M.timesM_bd (hb _ m1) (fb _ n1), by decide, rfl⟩) sc_powers_of.nd), ⟨rfl, rfl, rfl, rfl, rfl, trivial⟩⟩
    · rw [List.length_map]
      omega
    · rw [rgD_len]
      show some (Sl.own (_ ++ [_])) = some (Sl.own ((psF row (k + 1)).map qd))
      rw [st, List.map_append]
      rfl
  · rw [rgD_len]
    refine sds_one (sd_ret (ed_is (ed_vO 2) ?_))
    rw [show psF row m = sums by unfold psF; rw [hp]; rfl]
abbrev s_table_of : Stmt := topS 65
abbrev N_table_of : List Str := ["carrier", "row", "many", "sums", "right", "left"]
theorem sc_table_of : FnScope N_table_of ["carrier"] (defScope s_table_of) := ⟨rfl, rfl, rfl, by decide +kernel, rfl, by decide +kernel, by decide +kernel⟩
def dom_table_of (ds : List PyData) (r : PyData) : Prop := ∃ (n : Nat) (c sums : List Q2), ds = [cd c] ∧ VC n c ∧ (M.countsM c n).all (M.chk 40) = true ∧ M.powersC (M.countsM c n) (2 * n) = some sums ∧ r = .list ((M.tabM sums n).map fun row => .list (row.map qd))
theorem counts_ok {n : Nat} {c : List Q2} (hc : VC n c) (h : (M.countsM c n).all (M.chk 40) = true) : (M.countsM c n).length = n + 1 ∧ ∀ a ∈ M.countsM c n, Bd 40 a :=
  ⟨M.countsF_len _ _ _, fun a ha => M.chk_bd (List.all_eq_true.mp h a ha) (M.countsF_bd hc.bd _ (Nat.le_refl _) a ha).d0⟩
theorem ok_table_of (T : Facts K mg) (D : Df K mg "table_of" s_table_of ["carrier"]) (c_counts_by : Cal P w K mg base 6 "counts_by" 1 dom_counts_by) (c_seat_count : Cal P w K mg base 1 "seat_count" 1 dom_seat_count) (c_powers_of : Cal P w K mg base 5 "powers_of" 2 dom_powers_of) : Cal P w K mg base 7 "table_of" 1 dom_table_of := by
  refine df_ok D sc_table_of rfl fun f cdv A outer s H E ds r hr h hl => ?_
  obtain ⟨n, c, sums, rfl, hc, hk, hp, rfl⟩ := h
  show SDs _ [some (.dat (cd c)), none, none, none, none, none] _ _
  have el : (c.map qd).length = 2 ^ n := by rw [List.length_map]; exact hc.len
  have n5 := hc.n5
  obtain ⟨cl, cb⟩ := counts_ok hc hk
  obtain ⟨sl, sb⟩ := M.powersC_ok cb (by omega) (by omega) (by omega) hp
  refine sds_cons (sd_unp (i := 1) (j := 2) (ed_tup (ad_cons (ed_call c_counts_by hr (ad_cons (ed_v 0) ad_nil) ⟨n, c, rfl, hc, rfl⟩) (ad_cons (ed_call c_seat_count hr (ad_cons (ed_v 0) ad_nil) ⟨n, _, rfl, el, hc.n1, hc.n5, rfl⟩) ad_nil))) sc_table_of.nd (hg := pg_tup rfl (pgs_cons (pg_name sc_table_of.nd rfl (Or.inl rfl)) (pgs_cons (pg_name sc_table_of.nd rfl (Or.inr rfl)) pgs_nil)))) ?_
  refine sds_cons (sd_set (i := 3) (ed_call c_powers_of hr (ad_cons (ed_v 1) (ad_cons (ed_is (ed_mulS ed_int (ed_v 2) (.inl ⟨by decide, by decide⟩)) (show PyData.int (2 * (n : Int)) = .int ((2 * n : Nat) : Int) by rw [Int.natCast_mul]; rfl)) ad_nil)) ⟨_, sums, 2 * n, rfl, by omega, by omega, by omega, cb, hp, rfl⟩) sc_table_of.nd) ?_
  refine sds_one (sd_ret (ed_is (rl_ed (pe_lc (own := [("left", 5)]) rfl sc_table_of.nd pi_b (blkOk_by (N := N_table_of) (sc := defScope s_table_of) (by decide +kernel)) (fun _ _ _ _ _ => pg_name sc_table_of.nd rfl (Or.inr rfl)) (fun _ _ _ _ _ => pts_nil) (fun _ _ _ _ _ => pe_k)) (lc_readL (g := fun d => (List.range n).map fun r => qd (sums.getD (dnat d + r) M.zeroM)) (id_rng1 (n := n) (ad_cons (ed_v 2) ad_nil) (by omega) T.range) (by rw [rgD_len]; omega) (fun σ => wipe_idem1 σ 5) _ (fun d _ => gw_name) (fun d hd => ?_) (fun d hd => ?_))) ?_))
  · obtain ⟨k, hk2, rfl⟩ := rgD_mem hd
    rw [dnat0]
    intro H0 H1 σ S Q q s' H' C cl' fp
    refine bE_of (pe_lc (own := [("right", 4)]) rfl sc_table_of.nd pi_b (blkOk_by (N := N_table_of) (by rfl)) (fun _ _ _ _ _ => pg_name (i := 4) sc_table_of.nd rfl (Or.inl rfl)) (fun _ _ _ _ _ => pts_nil) (fun _ _ _ _ _ => pe_k)) ?_
    refine rl_go (lc_1 (ds := rgD 0 n) (g := fun d1 => qd (sums.getD (k + dnat d1) M.zeroM)) (id_rng1 (n := n) (ad_cons (ed_v 2) ad_nil) (by omega) T.range) (by rw [rgD_len]; omega) (fun d1 hd1 s2 H2 C2 cl2 fp2 => ?_) (fun _ _ => rfl)) (rgD_map (h := fun r => qd (sums.getD (k + r) M.zeroM)) fun r _ => by simp only [dnat0]) S q
    obtain ⟨r, hr2, rfl⟩ := rgD_mem hd1
    rw [dnat0]
    obtain ⟨n1, n2⟩ := M.getD_mem (c := sums) (k := k + r) (by omega)
    exact ed_ixL (j := k + r) (ed_v 3) (ed_is (ed_add (ed_v 5) (ed_v 4)) (by congr 1; omega)) (qd_map n2) (fun _ _ => rfl)
  · induction List.range n with
    | nil => rfl
    | cons z zs ih =>
      rw [List.map_cons]
      show (lf (qd _) && lfAll _) = true
      rw [ih]
      rfl
  · rw [rgD_map (h := fun k => .list ((List.range n).map fun r => qd (sums.getD (k + r) M.zeroM))) fun k _ => by simp only [dnat0]]
    unfold M.tabM
    rw [List.map_map]
    congr 1
    refine List.map_congr_left fun k _ => ?_
    show _ = PyData.list (List.map qd _)
    rw [List.map_map]
    rfl
end
end G
/-! S1 -/
/-! Own: the class Squares: its object, its methods' promises. -/
namespace G
open PySem PySem.Spec PyProof.Rows L2
open M (Q2 Bd Amt gc)
open Evl (Ex Ex.refl Ex.trans Ex.new Ex.mut fresh_back ex_t ex_l)
abbrev tabD (tab : List (List Q2)) : PyData := .list (tab.map fun row => .list (row.map qd))
/-- the class -/
structure SqC (K : PySem.W.Frag) (C : Addr) : Prop where
  cl : Cls K C
  nT : NoAttr K C "table"
  nM : NoAttr K C "many"
  nB : NoAttr K C "bases"
  nV : NoAttr K C "vector"
/-- an object that is read -/
def Ob (K : PySem.W.Frag) (C : Addr) (t : PyData) (m : Nat) (p : Addr) (H : Hp) : Prop := ∃ dx fs tv, H p = some (.ins C dx fs) ∧ fs.lookup ("table" : Str) = some tv ∧ Rp K H tv t ∧ fs.lookup ("many" : Str) = some (.int (m : Int)) ∧ fs.lookup ("product" : Str) = none ∧ fs.lookup ("look_beside" : Str) = none
theorem Ob.mono {K : PySem.W.Frag} {C : Addr} {t : PyData} {m : Nat} {p : Addr} {H H' : Hp} (e : Ex H H') (h : Ob K C t m p H) : Ob K C t m p H' := by
  obtain ⟨dx, fs, tv, h1, h2, h3, h4, h5, h6⟩ := h
  exact ⟨dx, fs, tv, e _ _ h1, h2, h3.mono e, h4, h5, h6⟩
/-- the promise of a method that only reads its object -/
def spM (K : PySem.W.Frag) (C : Addr) (n : Nat) (dom : PyData → Nat → List PyData → PyData → Prop) : Sp := fun vs H Q _ => ∃ p t m us ds r, vs = .ref p :: us ∧ Ob K C t m p H ∧ RpAll K H us ds ∧ ds.length = n ∧ dom t m ds r ∧ ∀ v H2, Ex H H2 → Rp K H2 v r → Q v H2
structure Cmt (P : Program) (w : World) (K : PySem.W.Frag) (mg : Str → Option Value) (base : Heap) (C : Addr) (k : Nat) (x : Str) (n : Nat) (dom : PyData → Nat → List PyData → PyData → Prop) : Prop where
  ex : ∃ f fd ps, FnOk P w K mg base CX0 k f fd ps (spM K C n dom) ∧ Meth K C x f ∧ Binds K fd ps []
/-- a method of the text stands in the class -/
structure Dm (K : PySem.W.Frag) (C : Addr) (x qual : Str) (st : Stmt) (ps : List Str) : Prop where
  ex : ∃ f fd, Fun K x qual st f fd ∧ Binds K fd ps [] ∧ Meth K C x f
section
variable {X : Cx} {δ : En} {a b e : Expr} {es : List Expr} {pos : Pos} {d : PyData} {C : Addr}
theorem ed_fld {x f : Str} {p1 : Pos} (i : Nat) {φ : Addr → Hp → Prop} (cl : Cls X.K C) (na : NoAttr X.K C f) (hφ : ∀ p H, φ p H → ∃ dx fs v, H p = some (.ins C dx fs) ∧ fs.lookup f = some v ∧ Rp X.K H v d) (hs : δ[i]? = some (some (.obj φ)) := by rfl) (hN : X.N[i]? = some x := by rfl)
    (hv : Vis X.env.scope x := by first | exact Or.inl rfl | exact Or.inr (Or.inl rfl) | exact Or.inr (Or.inr rfl)) (h1 : (x == ("__debug__" : Str)) = false := by decide) (h2 : (x == ("__classdict__" : Str)) = false := by decide)
    (hb : attributeBase (.Name x p1) f X.env (eval (.Name x p1) X.env) = eval (.Name x p1) X.env := by rfl) : ED X δ (.Attribute (.Name x p1) f pos) d :=
  ed_of (pe_fld (pe_var hN hv h1 h2) hb) fun H0 H σ S Q q => by
    obtain ⟨v, e1, p, rfl, g⟩ := S.at_ i _ hs
    obtain ⟨dx, fs, u, h3, h4, h5⟩ := hφ p H (g H S.ex)
    exact ⟨.ref p, e1, p, C, dx, fs, u, rfl, h3, cl, na, h4, q u H (Ex.refl H) h5⟩
theorem ed_meth {x m : Str} {p1 p2 : Pos} {k kk n mm : Nat} {t : PyData} {as : List PyData} {dom : PyData → Nat → List PyData → PyData → Prop} (i : Nat) {φ : Addr → Hp → Prop} {pl : Sem Bool} (cl : Cls X.K C) (M : Cmt X.prog X.w X.K X.mg X.base C k m n dom) (hr : Room kk X.A) (hφ : ∀ p H, φ p H → Ob X.K C t mm p H ∧ ∃ dx fs, H p = some (.ins C dx fs) ∧ fs.lookup m = none)
    (ha : AD X δ (e :: es) as) (hd : dom t mm as d) (hs : δ[i]? = some (some (.obj φ)) := by rfl) (hn : as.length = n := by rfl) (hk : k ≤ kk := by decide) (hN : X.N[i]? = some x := by rfl)
    (hv : Vis X.env.scope x := by first | exact Or.inl rfl | exact Or.inr (Or.inl rfl) | exact Or.inr (Or.inr rfl)) (h1 : (x == ("__debug__" : Str)) = false := by decide) (h2 : (x == ("__classdict__" : Str)) = false := by decide)
    (hst : starEach (e :: es) X.env = (false, eval e X.env) :: starEach es X.env := by rfl) (hpl : (backTo pos (starEach es X.env)).any (·.1) = false := by rfl)
    (ht : eval (.Call (.Attribute (.Name x p1) m p2) (e :: es) [] pos) X.env = (do
      let ov ← eval (.Name x p1) X.env
      standAt p2.atName
      let (f, first) ← holding [ov] (getMethod ov m pl)
      callWith pos f first (backTo pos (starEach (e :: es) X.env)) (backToKw pos (keywordEach [] X.env))) := by rfl) : ED X δ (.Call (.Attribute (.Name x p1) m p2) (e :: es) [] pos) d := by
  obtain ⟨f, fd, ps, F, hm, hb⟩ := M.ex
  refine ed_of (pe_meth (pe_var hN hv h1 h2) cl hm F (hr.mono hk) hb .nil pass0 pa_b hst hpl ht) fun H0 H σ S Q q => ?_
  obtain ⟨v, e1, p, rfl, g⟩ := S.at_ i _ hs
  obtain ⟨ho, dx, fs, h3, h4⟩ := hφ p H (g H S.ex)
  refine ⟨.ref p, e1, p, dx, fs, rfl, h3, h4, ha H0 H σ S _ fun vs H1 e2 d1 => ?_⟩
  exact ⟨p, t, mm, vs, as, d, by rw [List.append_nil], ho.mono e2, d1, hn, hd, fun v H2 e3 => q v H2 (e2.trans e3)⟩
/-- y = [elt for x in iter], y a local name -/
theorem sd_lc1 {i j : Nat} {x y : Str} {p py spos : Pos} {scope : Scope} {elt iter : Expr} {ds : List PyData} {g : PyData → PyData} (src : ID X δ (.Name x p) iter ds) (hz : ds.length ≤ 50000) (hN : X.N.Nodup) (ok : BlkOk X.N X.env.scope scope [(x, j)]) (hg : ∀ s H C cl fp, PG (BK X scope s H C cl fp) (.Name x p) (gName j))
    (he : ∀ d, d ∈ ds → ∀ s H C cl fp, ED (BK X scope s H C cl fp) ((wipeE δ [j]).set j (some (.dat d))) elt (g d)) (hlf : ∀ d, d ∈ ds → lf (g d) = true) (hsw : swapsWith (.ListComp elt [⟨.Name x p, iter, [], 0⟩] scope pos) (some (.Name y py)) spos.line X.env = pure true)
    (hc : X.calm = true := by rfl) (hy : X.N[i]? = some y := by rfl) (hyl : X.env.scope.names.lookup y = some .local := by rfl) (hs : ∀ x, foldedSetIterable iter X.env x = pure x := by intro _; rfl) :
    SD X δ (.Assign [.Name y py] (.ListComp elt [⟨.Name x p, iter, [], 0⟩] scope pos) spos) (.nx (δ.set i (some (.own (ds.map g))))) :=
  sd_of (ps_setLc hc hN hy hyl hsw (own := [(x, j)]) pi_b ok hg (fun _ _ _ _ _ => pts_nil) (fun _ _ _ _ _ => pe_k) hs) fun H0 H σ S D k => lc_1 src hz he hlf H0 H σ S _ fun p xs H2 hp e2 h2 r2 =>
    k _ H2 ((S.mono e2).set i (s := .own (ds.map g)) ⟨p, xs, rfl, fresh_back S.ex hp, h2, r2, by
      have : ∀ l : List PyData, (∀ d, d ∈ l → lf (g d) = true) → lfAll (l.map g) = true := fun l hl => by
        induction l with
        | nil => rfl
        | cons z zs ih =>
          rw [List.map_cons]
          show (lf (g z) && lfAll (zs.map g)) = true
          rw [hl z List.mem_cons_self, ih fun d hd => hl d (List.mem_cons_of_mem _ hd)]
          rfl
      exact this ds hlf⟩)
end
section
variable {P : Program} {w : World} {K : PySem.W.Frag} {mg : Str → Option Value} {base : Heap} {x qual : Str} {st : Stmt} {N ps : List Str} {k n : Nat} {C : Addr} {dom : PyData → Nat → List PyData → PyData → Prop}
def enM (φ : Addr → Hp → Prop) (N : List Str) (ds : List PyData) : En := some (.obj φ) :: (ds.map (fun d => some (.arg d)) ++ List.replicate (N.length - (ds.length + 1)) none)
theorem startM {H : Hp} {φ : Addr → Hp → Prop} {p : Addr} {us : List V} {ds : List PyData} (hφ : ∀ H', Ex H H' → φ p H') (h : RpAll K H us ds) : St0 K H H (L2.start N (.ref p :: us)) (enM φ N ds) := by
  have e := start_St0 (K := K) (H := H) (N := N) (mk := Sl.arg) (fun v d r => r) (N.length - (us.length + 1)) h
  refine ⟨Ex.refl H, ?_, fun i s hs => ?_⟩
  · have := e.len
    unfold L2.start enM
    simp only [List.map_cons, List.cons_append, List.length_cons] at this ⊢
    rw [← h.length, this]
  · cases i with
    | zero =>
      have q := Option.some.inj (Option.some.inj hs)
      subst q
      exact ⟨.ref p, rfl, p, rfl, hφ⟩
    | succ i =>
      have hs' : (ds.map (fun d => some (Sl.arg d)) ++ List.replicate (N.length - (us.length + 1)) none)[i]? = some (some s) := by
        rw [h.length]
        exact hs
      obtain ⟨v, h1, h2⟩ := e.at_ i s hs'
      exact ⟨v, h1, h2⟩
theorem dm_ok (D : Dm K C x qual st ps) (S : FnScope N ps (defScope st)) (hn : ps.length = n + 1)
    (body : ∀ f cdv A outer s H E t m ds r, Room k (cx P w K mg base N qual st f cdv A outer s H E).A → dom t m ds r → ds.length = n → SDs (cx P w K mg base N qual st f cdv A outer s H E) (enM (Ob K C t m) N ds) (defBody st) (.rt r)) : Cmt P w K mg base C (k + 1) x n dom := by
  obtain ⟨f, fd, F, b, g⟩ := D.ex
  refine ⟨f, fd, ps, F.ok S (fun vs H Q E h => ?_) fun cdv A outer s H vs Q E hr h => ?_, g, b⟩
  · obtain ⟨p, t, m, us, ds, r, rfl, _, h1, h2, _⟩ := h
    rw [List.length_cons, h1.length, h2, hn]
  · obtain ⟨p, t, m, us, ds, r, rfl, ho, h1, h2, h3, q⟩ := h
    exact ⟨bSs _ _, pss_b, body f cdv A outer s H E t m ds r hr h3 h2 H H _ (startM (fun H' e => ho.mono e) h1) _ q⟩
theorem dm_okN (D : Dm K C x qual st ps) (S : FnScope N ps (defScope st)) (hn : ps.length = n + 1) (hN : ∀ t m ds r, dom t m ds r → r = .none)
    (body : ∀ f cdv A outer s H E t m ds, Room k (cx P w K mg base N qual st f cdv A outer s H E).A → dom t m ds .none → ds.length = n → ∃ δ', SDs (cx P w K mg base N qual st f cdv A outer s H E) (enM (Ob K C t m) N ds) (defBody st) (.nx δ')) : Cmt P w K mg base C (k + 1) x n dom := by
  obtain ⟨f, fd, F, b, g⟩ := D.ex
  refine ⟨f, fd, ps, F.ok S (fun vs H Q E h => ?_) fun cdv A outer s H vs Q E hr h => ?_, g, b⟩
  · obtain ⟨p, t, m, us, ds, r, rfl, _, h1, h2, _⟩ := h
    rw [List.length_cons, h1.length, h2, hn]
  · obtain ⟨p, t, m, us, ds, r, rfl, ho, h1, h2, h3, q⟩ := h
    have er := hN t m ds r h3
    subst er
    obtain ⟨δ', h4⟩ := body f cdv A outer s H E t m ds hr h3 h2
    exact ⟨bSs _ _, pss_b, h4 H H _ (startM (fun H' e => ho.mono e) h1) _ fun σ' H' S' => q .non H' S'.ex .non⟩
end
end G
/-! S2 -/
namespace G
open PySem PySem.Spec PyProof.Rows L2
open M (Q2 Bd Amt gc)
open Evl (Ex Ex.refl Ex.trans Ex.new Ex.mut fresh_back ex_t ex_l)
theorem ob_many {K : PySem.W.Frag} {C : Addr} {t : PyData} {m : Nat} {p : Addr} {H : Hp} (h : Ob K C t m p H) : ∃ dx fs v, H p = some (.ins C dx fs) ∧ fs.lookup ("many" : Str) = some v ∧ Rp K H v (.int (m : Int)) := by
  obtain ⟨dx, fs, tv, h1, h2, h3, h4, h5, h6⟩ := h
  exact ⟨dx, fs, _, h1, h4, .int _⟩
theorem ob_table {K : PySem.W.Frag} {C : Addr} {t : PyData} {m : Nat} {p : Addr} {H : Hp} (h : Ob K C t m p H) : ∃ dx fs v, H p = some (.ins C dx fs) ∧ fs.lookup ("table" : Str) = some v ∧ Rp K H v t := by
  obtain ⟨dx, fs, tv, h1, h2, h3, h4, h5, h6⟩ := h
  exact ⟨dx, fs, _, h1, h2, h3⟩
theorem ob_prod {K : PySem.W.Frag} {C : Addr} {t : PyData} {m : Nat} {p : Addr} {H : Hp} (h : Ob K C t m p H) : Ob K C t m p H ∧ ∃ dx fs, H p = some (.ins C dx fs) ∧ fs.lookup ("product" : Str) = none := by
  refine ⟨h, ?_⟩
  obtain ⟨dx, fs, tv, h1, h2, h3, h4, h5, h6⟩ := h
  exact ⟨dx, fs, h1, h5⟩
section
variable {P : Program} {w : World} {K : PySem.W.Frag} {mg : Str → Option Value} {base : Heap} {C : Addr}
abbrev s_Sq_product : Stmt := inClass (topS 66) 1
abbrev N_Sq_product : List Str := ["self", "one", "two", "found", "left", "right"]
theorem sc_Sq_product : FnScope N_Sq_product ["self", "one", "two"] (defScope s_Sq_product) := ⟨rfl, rfl, rfl, by decide +kernel, rfl, by decide +kernel, by decide +kernel⟩
def dom_product (t : PyData) (m : Nat) (ds : List PyData) (r : PyData) : Prop := ∃ (tab : List (List Q2)) (u v : List Q2), t = tabD tab ∧ ds = [.list (u.map qd), .list (v.map qd)] ∧ M.TabOk tab m ∧ M.VecOk u m ∧ M.VecOk v m ∧ r = qd (M.prodM tab m u v)
theorem ok_product (T : Facts K mg) (Z : SqC K C) (D : Dm K C "product" "Squares.product" s_Sq_product ["self", "one", "two"]) (c_times : Cal P w K mg base 4 "times" 2 dom_times) (c_plus : Cal P w K mg base 4 "plus" 2 dom_plus) : Cmt P w K mg base C 5 "product" 2 dom_product := by
  refine dm_ok D sc_Sq_product rfl fun f cdv A outer s H E t m ds r hr h hl => ?_
  obtain ⟨tab, u, v, rfl, rfl, ht, hu, hv, rfl⟩ := h
  show SDs _ [some (.obj (Ob K C (tabD tab) m)), some (.arg (.list (u.map qd))), some (.arg (.list (v.map qd))), none, none, none] _ _
  have n5 := ht.n5
  refine sds_cons (sd_set (i := 3) (ed_gc T.ZERO) sc_Sq_product.nd) ?_
  refine sds_cons (sd_for0G (ds := rgD 0 m) (id0_rng1 (n := m) (ad_cons (ed_fld 0 Z.cl Z.nM fun p H h => ob_many h) ad_nil) (by omega) T.range) (pg_name (i := 4) sc_Sq_product.nd rfl (Or.inl rfl))
    (fun l => [some (.obj (Ob K C (tabD tab) m)), some (.arg (.list (u.map qd))), some (.arg (.list (v.map qd))), some (.dat (qd (M.prodL u v tab m l))), none, none]) ⟨rfl, rfl, rfl, rfl, trivial⟩ fun l d hd => ?_) ?_
  · obtain ⟨hl2, rfl⟩ := rgD_get hd
    have el : PyData.int (0 + (l : Int)) = .int ((l : Nat) : Int) := by congr 1; omega
    refine ⟨_, _, gd_name, sds_one (sd_for0G (ds := rgD 0 m) (id0_rng1 (n := m) (ad_cons (ed_fld 0 Z.cl Z.nM fun p H h => ob_many h) ad_nil) (by omega) T.range) (pg_name (i := 5) sc_Sq_product.nd rfl (Or.inl rfl))
      (fun r => [some (.obj (Ob K C (tabD tab) m)), some (.arg (.list (u.map qd))), some (.arg (.list (v.map qd))), some (.dat (qd (M.prodR u v tab l (M.prodL u v tab m l) r))), some (.dat (.int (0 + (l : Int)))), none]) ⟨rfl, rfl, rfl, rfl, rfl, trivial⟩ fun r d hd => ?_), ?_⟩
    · obtain ⟨hr2, rfl⟩ := rgD_get hd
      have er : PyData.int (0 + (r : Int)) = .int ((r : Nat) : Int) := by congr 1; omega
      obtain ⟨u1, u2⟩ := M.getD_mem (c := u) (k := l) (by rw [hu.len]; exact hl2)
      obtain ⟨v1, v2⟩ := M.getD_mem (c := v) (k := r) (by rw [hv.len]; exact hr2)
      obtain ⟨w1, w2⟩ := ht.row l hl2
      obtain ⟨x1, x2⟩ := M.getD_mem (c := tab.getD l []) (k := r) (by rw [w1]; exact hr2)
      have tb := ht.bd l r hl2 hr2
      have pb := (M.prodR_bd ht hu hv hl2 (M.prodL_bd ht hu hv l (by omega)) r (by omega)).mono (m := 6000) (by omega)
      refine ⟨_, _, gd_name, sds_one (sd_set (i := 3) (ed_call c_plus hr (ad_cons (ed_v 3) (ad_cons (ed_call c_times hr (ad_cons (ed_call c_times hr (ad_cons (ed_ixL (j := l) (ed_vA 1) (ed_is (ed_v 4) el) (qd_map u2) (fun _ _ => rfl)) (ad_cons (ed_ixL (j := r) (ed_vA 2) (ed_is (ed_v 5) er) (qd_map v2) (fun _ _ => rfl)) ad_nil)) ⟨_, _, _, _, rfl, hu.bd _ u1, hv.bd _ v1, by decide, rfl⟩)
        (ad_cons (ed_ixL (j := r) (d := qd ((tab.getD l []).getD r M.zeroM)) (ed_ixL (j := l) (d := .list ((tab.getD l []).map qd)) (ed_fld 0 Z.cl Z.nT fun p H h => ob_table h) (ed_is (ed_v 4) el) (by rw [List.getElem?_map, w2]; rfl) (fun _ _ => rfl)) (ed_is (ed_v 5) er) (qd_map x2) (fun _ _ => rfl)) ad_nil)) ⟨_, _, _, _, rfl, M.timesM_bd (hu.bd _ u1) (hv.bd _ v1), tb, by decide, rfl⟩) ad_nil))
        ⟨_, _, _, _, rfl, pb, M.timesM_bd (M.timesM_bd (hu.bd _ u1) (hv.bd _ v1)) tb, by decide, rfl⟩) sc_Sq_product.nd), ⟨rfl, rfl, rfl, rfl, rfl, trivial⟩⟩
    · rw [rgD_len]
      exact ⟨rfl, rfl, rfl, rfl, trivial⟩
  · rw [rgD_len]
    exact sds_one (sd_ret (ed_v 3))
theorem unitD (n a : Nat) : (rgD 0 n).map (fun d => if dnat d = a then qd M.oneM else qd M.zeroM) = (M.unitM n a).map qd := by
  rw [rgD_map (h := fun k => if k = a then qd M.oneM else qd M.zeroM) fun k _ => by simp only [dnat0]]
  unfold M.unitM
  rw [List.map_map]
  refine List.map_congr_left fun k _ => ?_
  show (if k = a then qd M.oneM else qd M.zeroM) = qd (if k = a then M.oneM else M.zeroM)
  split <;> rfl
abbrev s_Sq_look_beside : Stmt := inClass (topS 66) 3
abbrev N_Sq_look_beside : List Str := ["self", "vector", "place", "unit", "at", "lean", "part", "mine", "its"]
theorem sc_Sq_look_beside : FnScope N_Sq_look_beside ["self", "vector"] (defScope s_Sq_look_beside) := ⟨rfl, rfl, rfl, by decide +kernel, rfl, by decide +kernel, by decide +kernel⟩
def dom_look (t : PyData) (m : Nat) (ds : List PyData) (r : PyData) : Prop := r = .none ∧ ∃ (tab : List (List Q2)) (v : List Q2), t = tabD tab ∧ ds = [.list (v.map qd)] ∧ M.TabOk tab m ∧ M.VecOk v m ∧ M.lookOk tab m v = true
theorem ok_look (T : Facts K mg) (Z : SqC K C) (D : Dm K C "look_beside" "Squares.look_beside" s_Sq_look_beside ["self", "vector"]) (c_product : Cmt P w K mg base C 5 "product" 2 dom_product) : Cmt P w K mg base C 6 "look_beside" 1 dom_look := by
  refine dm_okN D sc_Sq_look_beside rfl (fun _ _ _ _ h => h.1) fun f cdv A outer s H E t m ds hr h hl => ?_
  obtain ⟨_, tab, v, rfl, rfl, ht, hv, hlk⟩ := h
  have n5 := ht.n5
  refine ⟨_, sds_weak (δ' := [some (.obj (Ob K C (tabD tab) m)), some (.arg (.list (v.map qd))), none, none, none, none, none, none, none]) (sds_one (sd_for0G (ds := rgD 0 m) (id0_rng1 (n := m) (ad_cons (ed_fld 0 Z.cl Z.nM fun p H h => ob_many h) ad_nil) (by omega) T.range) (pg_name (i := 2) sc_Sq_look_beside.nd rfl (Or.inr rfl))
    (fun l => [some (.obj (Ob K C (tabD tab) m)), some (.arg (.list (v.map qd))), none, none, none, none, none, none, none]) ⟨rfl, rfl, trivial⟩ fun l d hd => ?_)) (leE.refl _)⟩
  obtain ⟨hl2, rfl⟩ := rgD_get hd
  have lk : (M.prodM tab m v (M.unitM m l)).1 = 0 := by
    unfold M.lookOk at hlk
    exact beq_iff_eq.mp (List.all_eq_true.mp hlk l (List.mem_range.mpr hl2))
  refine ⟨_, [some (.obj (Ob K C (tabD tab) m)), some (.arg (.list (v.map qd))), some (.dat (.int (0 + (l : Int)))), some (.own ((M.unitM m l).map qd)), none, some (.dat (qd (M.prodM tab m v (M.unitM m l)))), none, none, none], gd_name, sds_cons (sd_lc1 (i := 3) (j := 4) (g := fun d => if dnat d = l then qd M.oneM else qd M.zeroM) (id_rng1 (n := m) (ad_cons (ed_fld 0 Z.cl Z.nM fun p H h => ob_many h) ad_nil) (by omega) T.range) (by rw [rgD_len]; omega) sc_Sq_look_beside.nd (blkOk_by (N := N_Sq_look_beside) (sc := defScope s_Sq_look_beside) (by decide +kernel)) (fun _ _ _ _ _ => pg_name sc_Sq_look_beside.nd rfl (Or.inl rfl))
      (fun d hd s H C cl fp => ?_) (fun d hd => ?_) (sw_true rfl rfl rfl (by decide +kernel))) ?_, ?_⟩
  · obtain ⟨k, hk, rfl⟩ := rgD_mem hd
    rw [dnat0]
    refine ed_if (td_eqI (ed_v 4) (ed_v 2)) (fun z => ?_) fun z => ?_
    · have z := of_decide_eq_true z
      rw [if_pos (by omega)]
      exact ed_gc T.ONE
    · have z := of_decide_eq_false z
      rw [if_neg (by omega)]
      exact ed_gc T.ZERO
  · obtain ⟨k, hk, rfl⟩ := rgD_mem hd
    rw [dnat0]
    split <;> rfl
  · rw [unitD]
    refine sds_cons (sd_set (i := 5) (ed_meth 0 Z.cl c_product hr (fun p H h => ob_prod h) (ad_cons (ed_vA 1) (ad_cons (ed_vO 3) ad_nil)) ⟨tab, v, M.unitM m l, rfl, rfl, ht, hv, M.unit_ok m l, rfl⟩) sc_Sq_look_beside.nd) ?_
    exact sds_one (sd_no (td_is (td_w (wd_and (k := false) (l := true) (td_is (td_neI (ed_q0 (ed_v 5)) ed_int) (by rw [lk]; rfl)) (fun z => by cases z))) rfl))
  · exact ⟨rfl, rfl, trivial⟩
end
end G
/-! S3 -/
namespace G
open PySem PySem.Spec PyProof.Rows L2
open M (Q2 Bd Amt gc)
open Evl (Ex Ex.refl Ex.trans Ex.new Ex.mut fresh_back ex_t ex_l)
def sqF (tv : V) (n : Nat) (B : Addr) (vec : V) : List (Str × V) := [("table", tv), ("many", .int (n : Int)), ("bases", .ref B), ("vector", vec)]
theorem sqF_t {tv : V} {n : Nat} {B : Addr} {vec : V} : (sqF tv n B vec).lookup ("table" : Str) = some tv := rfl
theorem sqF_m {tv : V} {n : Nat} {B : Addr} {vec : V} : (sqF tv n B vec).lookup ("many" : Str) = some (.int (n : Int)) := rfl
theorem sqF_b {tv : V} {n : Nat} {B : Addr} {vec : V} : (sqF tv n B vec).lookup ("bases" : Str) = some (.ref B) := rfl
theorem sqF_v {tv : V} {n : Nat} {B : Addr} {vec : V} : (sqF tv n B vec).lookup ("vector" : Str) = some vec := rfl
theorem sqF_p {tv : V} {n : Nat} {B : Addr} {vec : V} : (sqF tv n B vec).lookup ("product" : Str) = none := rfl
theorem sqF_l {tv : V} {n : Nat} {B : Addr} {vec : V} : (sqF tv n B vec).lookup ("look_beside" : Str) = none := rfl
theorem sqF_k {tv : V} {n : Nat} {B : Addr} {vec : V} : (sqF tv n B vec).lookup ("take" : Str) = none := rfl
theorem sqF_put {tv : V} {n : Nat} {B : Addr} {vec v' : V} : putF "vector" v' (sqF tv n B vec) = sqF tv n B v' := rfl
abbrev baseD (b : List Q2 × Q2) : PyData := .tuple [.list (b.1.map qd), qd b.2]
/-- the bases, their vectors' lists apart from the list at B -/
inductive BL (K : PySem.W.Frag) (H : Hp) (B : Addr) : List V → List (List Q2 × Q2) → Prop
  | nil : BL K H B [] []
  | cons {t lv : Addr} {sv : V} {xs vs : List V} {b : List Q2 × Q2} {r : List (List Q2 × Q2)} : SqT K H t [.ref lv, sv] → lv ≠ B → H lv = some (.lst xs) → RpAll K H xs (b.1.map qd) → Rp K H sv (qd b.2) → BL K H B vs r → BL K H B (.ref t :: vs) (b :: r)
section
variable {K : PySem.W.Frag} {H H' : Hp} {B p C dx : Addr} {vs : List V} {bs : List (List Q2 × Q2)}
theorem BL.mono (e : Ex H H') : ∀ {vs : List V} {bs : List (List Q2 × Q2)}, BL K H B vs bs → BL K H' B vs bs
  | _, _, .nil => .nil
  | _, _, .cons h1 h2 h3 h4 h5 h6 => .cons (ex_t e h1) h2 (e _ _ h3) (h4.mono e) (h5.mono e) (BL.mono e h6)
theorem BL.rp : ∀ {vs : List V} {bs : List (List Q2 × Q2)}, BL K H B vs bs → RpAll K H vs (bs.map baseD)
  | _, _, .nil => .nil
  | _, _, .cons h1 h2 h3 h4 h5 h6 => .cons (.tup h1 (.cons (.lst h3 h4) (.cons h5 .nil))) (BL.rp h6)
theorem BL.length : ∀ {vs : List V} {bs : List (List Q2 × Q2)}, BL K H B vs bs → vs.length = bs.length
  | _, _, .nil => rfl
  | _, _, .cons h1 h2 h3 h4 h5 h6 => by rw [List.length_cons, List.length_cons, BL.length h6]
theorem BL.updB {ys zs : List V} (hB : H B = some (.lst ys)) : ∀ {vs : List V} {bs : List (List Q2 × Q2)}, BL K H B vs bs → BL K (upd H B (.lst zs)) B vs bs
  | _, _, .nil => .nil
  | _, _, .cons h1 h2 h3 h4 h5 h6 => .cons (sqT_upd hB h1) h2 (by rw [upd_ne h2]; exact h3) (Rp.keepTAll (fun _ _ z => sqT_upd hB z) _ _ (lf_qs _) h4) (Rp.keepT (fun _ _ z => sqT_upd hB z) _ _ rfl h5) (BL.updB hB h6)
theorem BL.append : ∀ {vs ws : List V} {bs cs : List (List Q2 × Q2)}, BL K H B vs bs → BL K H B ws cs → BL K H B (vs ++ ws) (bs ++ cs)
  | _, _, _, _, .nil, h => h
  | _, _, _, _, .cons h1 h2 h3 h4 h5 h6, h => .cons h1 h2 h3 h4 h5 (BL.append h6 h)
end
def TakeRes (K : PySem.W.Frag) (C p dx B : Addr) (tv : V) (n : Nat) (H' : Hp) (bases : List (List Q2 × Q2)) : Option (List Q2) → Prop
  | none => H' p = some (.ins C dx (sqF tv n B .non)) ∧ ∃ bs', H' B = some (.lst bs') ∧ BL K H' B bs' bases
  | some _ => ∃ lv, H' p = some (.ins C dx (sqF tv n B (.ref lv)))
/-- what take needs of the state -/
structure TakeIn (K : PySem.W.Frag) (C p dx B : Addr) (tv : V) (bs : List V) (tab : List (List Q2)) (n : Nat) (bases : List (List Q2 × Q2)) (H : Hp) : Prop where
  ins : H p = some (.ins C dx (sqF tv n B .non))
  tab : Rp K H tv (tabD tab)
  lst : H B = some (.lst bs)
  bl : BL K H B bs bases
theorem TakeIn.mono {K : PySem.W.Frag} {C p dx B : Addr} {tv : V} {bs : List V} {tab : List (List Q2)} {n : Nat} {bases : List (List Q2 × Q2)} {H H' : Hp} (e : Ex H H') (h : TakeIn K C p dx B tv bs tab n bases H) : TakeIn K C p dx B tv bs tab n bases H' := ⟨e _ _ h.ins, h.tab.mono e, e _ _ h.lst, h.bl.mono e⟩
theorem TakeIn.ob {K : PySem.W.Frag} {C p dx B : Addr} {tv : V} {bs : List V} {tab : List (List Q2)} {n : Nat} {bases : List (List Q2 × Q2)} {H : Hp} (h : TakeIn K C p dx B tv bs tab n bases H) : Ob K C (tabD tab) n p H := ⟨dx, _, tv, h.ins, sqF_t, h.tab, sqF_m, sqF_p, sqF_l⟩
def spTake (K : PySem.W.Frag) (C : Addr) : Sp := fun vs H Q _ => ∃ p dx B tv bs tab n bases a b' vec, vs = [.ref p, .int ((a : Nat) : Int)] ∧ TakeIn K C p dx B tv bs tab n bases H ∧ M.TabOk tab n ∧ (∀ b ∈ bases, M.BaseOk n b) ∧ bases.length ≤ 100 ∧ M.takeC tab n bases a = some (b', vec) ∧
  ∀ H', (∀ x o, x ≠ p → x ≠ B → H x = some o → H' x = some o) → TakeRes K C p dx B tv n H' b' vec → Q .non H'
section
variable {X : Cx} {δ : En} {a b e : Expr} {es : List Expr} {pos : Pos} {d : PyData} {C : Addr}
/-- z = [elt for x, y in iter], z a local name -/
theorem sd_lc2p {i j k : Nat} {x y z : Str} {kt : Nat} {px pyy p pz spos : Pos} {scope : Scope} {elt iter : Expr} {g : PyData → PyData → PyData} {ps : List (PyData × PyData)} (src : ID X δ (.Tuple [.Name x px, .Name y pyy] kt p) iter (ps.map fun q => .tuple [q.1, q.2])) (hz : ps.length ≤ 50000) (hN : X.N.Nodup) (ok : BlkOk X.N X.env.scope scope [(x, i), (y, j)])
    (hg : ∀ s H C cl fp, PG (BK X scope s H C cl fp) (.Tuple [.Name x px, .Name y pyy] kt p) (gTup X.K 2 (gCons (gName i) (gCons (gName j) gNil))))
    (he : ∀ d1 d2, (d1, d2) ∈ ps → ∀ s H C cl fp, ED (BK X scope s H C cl fp) (((wipeE δ [i, j]).set i (some (.dat d1))).set j (some (.dat d2))) elt (g d1 d2)) (hlf : ∀ d1 d2, (d1, d2) ∈ ps → lf (g d1 d2) = true) (hsw : swapsWith (.ListComp elt [⟨.Tuple [.Name x px, .Name y pyy] kt p, iter, [], 0⟩] scope pos) (some (.Name z pz)) spos.line X.env = pure true)
    (hij : i ≠ j := by decide) (hc : X.calm = true := by rfl) (hy : X.N[k]? = some z := by rfl) (hyl : X.env.scope.names.lookup z = some .local := by rfl) (hs : ∀ x, foldedSetIterable iter X.env x = pure x := by intro _; rfl) :
    SD X δ (.Assign [.Name z pz] (.ListComp elt [⟨.Tuple [.Name x px, .Name y pyy] kt p, iter, [], 0⟩] scope pos) spos) (.nx (δ.set k (some (.own (ps.map fun q => g q.1 q.2))))) :=
  sd_of (ps_setLc hc hN hy hyl hsw (own := [(x, i), (y, j)]) pi_b ok hg (fun _ _ _ _ _ => pts_nil) (fun _ _ _ _ _ => pe_k) hs) fun H0 H σ S D kk => lc_2 src hz hij he hlf H0 H σ S _ fun p xs H2 hp e2 h2 r2 =>
    kk _ H2 ((S.mono e2).set k (s := .own (ps.map fun q => g q.1 q.2)) ⟨p, xs, rfl, fresh_back S.ex hp, h2, r2, by
      clear src he hz r2 kk
      induction ps with
      | nil => rfl
      | cons z zs ih =>
        rw [List.map_cons]
        show (lf (g z.1 z.2) && lfAll (zs.map fun q => g q.1 q.2)) = true
        rw [hlf z.1 z.2 List.mem_cons_self, ih fun d1 d2 hd => hlf d1 d2 (List.mem_cons_of_mem _ hd)]
        rfl⟩)
theorem id0_fld {tg : Expr} {x f : Str} {p1 : Pos} {ds : List PyData} (i : Nat) {φ : Addr → Hp → Prop} (cl : Cls X.K C) (na : NoAttr X.K C f) (hφ : ∀ p H, φ p H → ∃ dx fs B xs, H p = some (.ins C dx fs) ∧ fs.lookup f = some (.ref B) ∧ H B = some (.lst xs) ∧ RpAll X.K H xs ds) (hs : δ[i]? = some (some (.obj φ)) := by rfl) (hN : X.N[i]? = some x := by rfl)
    (hv : Vis X.env.scope x := by first | exact Or.inl rfl | exact Or.inr (Or.inl rfl) | exact Or.inr (Or.inr rfl)) (h1 : (x == ("__debug__" : Str)) = false := by decide) (h2 : (x == ("__classdict__" : Str)) = false := by decide)
    (hb : attributeBase (.Name x p1) f X.env (eval (.Name x p1) X.env) = eval (.Name x p1) X.env := by rfl) : ID0 X δ tg (.Attribute (.Name x p1) f pos) ds :=
  fun H0 H σ S R q => bI_of (pi_list (pe_fld (pe_var hN hv h1 h2) hb)) (by
    obtain ⟨v, e1, p, rfl, g⟩ := S.at_ i _ hs
    obtain ⟨dx, fs, B, xs, h3, h4, h5, h6⟩ := hφ p H0 (g H0 (Ex.refl H0))
    exact ⟨.ref p, e1, p, C, dx, fs, .ref B, rfl, S.ex _ _ h3, cl, na, h4, B, rfl, ⟨xs, SqL.of (S.ex _ _ h5)⟩, q _ _ (Ex.refl H) (jd_list (SqL.of h5) h6)⟩)
theorem sds_fin {sts : List Stmt} {δ' : En} {R : Hp → Hp → Prop} (h : SDs X δ sts (.nx δ')) (hR : ∀ H0 H σ, St0 X.K H0 H σ δ' → R H0 H) : SDs X δ sts (.fin R) := fun H0 H σ S D k => h H0 H σ S D fun σ' H' S' => k σ' H' (hR H0 H' σ' S')
theorem id_is {tg iter : Expr} {ds ds' : List PyData} (h : ID X δ tg iter ds) (e : ds = ds') : ID X δ tg iter ds' := by rw [← e]; exact h
end
theorem zip_pairs (v b : List Q2) : List.zipWith (fun x y => PyData.tuple [x, y]) (v.map qd) (b.map qd) = ((List.zip v b).map fun q => (qd q.1, qd q.2)).map fun q => .tuple [q.1, q.2] := by
  rw [List.zipWith_map, List.map_map, List.zip_eq_zipWith, List.map_zipWith]
  rfl
section
variable {P : Program} {w : World} {K : PySem.W.Frag} {mg : Str → Option Value} {base : Heap} {C : Addr}
abbrev s_Sq_take : Stmt := inClass (topS 66) 2
abbrev N_Sq_take : List Str := ["self", "at", "vector", "place", "base", "size", "part", "mine", "its"]
theorem sc_Sq_take : FnScope N_Sq_take ["self", "at"] (defScope s_Sq_take) := ⟨rfl, rfl, rfl, by decide +kernel, rfl, by decide +kernel, by decide +kernel⟩
theorem ok_take (T : Facts K mg) (Z : SqC K C) (D : Dm K C "take" "Squares.take" s_Sq_take ["self", "at"]) (c_times : Cal P w K mg base 4 "times" 2 dom_times) (c_minus : Cal P w K mg base 4 "minus" 2 dom_minus) (c_over : Cal P w K mg base 4 "over" 2 dom_over) (c_product : Cmt P w K mg base C 5 "product" 2 dom_product) (c_look : Cmt P w K mg base C 6 "look_beside" 1 dom_look) :
    ∃ f fd ps, FnOk P w K mg base CX0 7 f fd ps (spTake K C) ∧ Meth K C "take" f ∧ Binds K fd ps [] := by
  obtain ⟨f, fd, F, bnd, me⟩ := D.ex
  refine ⟨f, fd, _, F.ok sc_Sq_take (fun vs H Q E h => ?_) (fun cdv A outer s H vs Q E hr h => ?_), me, bnd⟩
  · obtain ⟨p, dx, B, tv, bs, tab, n, bases, a, b', vec, rfl, _⟩ := h
    rfl
  obtain ⟨p, dx, B, tv, bs, tab, n, bases, a, b', vec, rfl, hin, ht, hb, hl100, htk, hq⟩ := h
  have n5 := ht.n5
  obtain ⟨v, hv1, hv2, hv3⟩ := M.takeC_cases htk
  have hvok := M.updC_ok ht hb (M.unit_ok n a) hv1
  refine ⟨bSs _ _, pss_b, ?_⟩
  have main : SDs (cx P w K mg base N_Sq_take "Squares.take" s_Sq_take f cdv A outer s H E) (enM (fun p' H' => p' = p ∧ TakeIn K C p dx B tv bs tab n bases H') N_Sq_take [.int ((a : Nat) : Int)]) (defBody s_Sq_take) (.fin fun H0 H' => H0 = H → (∀ x o, x ≠ p → x ≠ B → H0 x = some o → H' x = some o) ∧ TakeRes K C p dx B tv n H' b' vec) := by
    show SDs _ [some (.obj fun p' H' => p' = p ∧ TakeIn K C p dx B tv bs tab n bases H'), some (.arg (.int ((a : Nat) : Int))), none, none, none, none, none, none, none] _ _
    have hob : ∀ p' H', (p' = p ∧ TakeIn K C p dx B tv bs tab n bases H') → Ob K C (tabD tab) n p' H' := fun p' H' h => by
      obtain ⟨rfl, h⟩ := h
      exact h.ob
    have hbs : ∀ p' H', (p' = p ∧ TakeIn K C p dx B tv bs tab n bases H') → ∃ dx fs B xs, H' p' = some (.ins C dx fs) ∧ fs.lookup ("bases" : Str) = some (.ref B) ∧ H' B = some (.lst xs) ∧ RpAll K H' xs (bases.map baseD) := fun p' H' h => by
      obtain ⟨rfl, h⟩ := h
      exact ⟨dx, _, B, bs, h.ins, sqF_b, h.lst, h.bl.rp⟩
    have hlb : ∀ p' H', (p' = p ∧ TakeIn K C p dx B tv bs tab n bases H') → Ob K C (tabD tab) n p' H' ∧ ∃ dx fs, H' p' = some (.ins C dx fs) ∧ fs.lookup ("look_beside" : Str) = none := fun p' H' h => by
      obtain ⟨rfl, h⟩ := h
      exact ⟨h.ob, dx, _, h.ins, sqF_l⟩
    refine sds_cons (sd_lc1 (i := 2) (j := 3) (g := fun d => if dnat d = a then qd M.oneM else qd M.zeroM) (id_rng1 (n := n) (ad_cons (ed_fld 0 Z.cl Z.nM fun p H h => ob_many (hob p H h)) ad_nil) (by omega) T.range) (by rw [rgD_len]; omega) sc_Sq_take.nd (blkOk_by (N := N_Sq_take) (sc := defScope s_Sq_take) (by decide +kernel)) (fun _ _ _ _ _ => pg_name sc_Sq_take.nd rfl (Or.inl rfl))
      (fun d hd s H C cl fp => ?_) (fun d hd => ?_) (sw_true rfl rfl rfl (by decide +kernel))) ?_
    · obtain ⟨k, hk, rfl⟩ := rgD_mem hd
      rw [dnat0]
      refine ed_if (td_eqI (ed_v 3) (ed_vA 1)) (fun z => ?_) fun z => ?_
      · have z := of_decide_eq_true z
        rw [if_pos (by omega)]
        exact ed_gc T.ONE
      · have z := of_decide_eq_false z
        rw [if_neg (by omega)]
        exact ed_gc T.ZERO
    · obtain ⟨k, hk, rfl⟩ := rgD_mem hd
      rw [dnat0]
      split <;> rfl
    rw [unitD]
    have hvk : ∀ k, M.updC tab n (bases.take k) (M.unitM n a) = some ((M.updC tab n (bases.take k) (M.unitM n a)).getD []) := fun k => by
      obtain ⟨x, e⟩ := M.updC_pre hv1 k
      rw [e]
      rfl
    generalize hvkd : (fun k => (M.updC tab n (bases.take k) (M.unitM n a)).getD []) = vk at *
    have hvk' : ∀ k, M.updC tab n (bases.take k) (M.unitM n a) = some (vk k) := fun k => by
      rw [← hvkd]
      exact hvk k
    have vk0 : vk 0 = M.unitM n a := by
      have := hvk' 0
      rw [List.take_zero] at this
      exact (Option.some.inj this).symm
    have vkl : vk bases.length = v := by
      have := hvk' bases.length
      rw [List.take_length, hv1] at this
      exact (Option.some.inj this).symm
    have vkok : ∀ k, M.VecOk (vk k) n := fun k => M.updC_ok ht (fun b hm => hb b (List.mem_of_mem_take hm)) (M.unit_ok n a) (hvk' k)
    refine sds_cons (sd_for0G (ds := bases.map baseD) (id0_fld 0 Z.cl Z.nB fun p' H' h => hbs p' H' h) (pg_tup rfl (pgs_cons (pg_name (i := 4) sc_Sq_take.nd rfl (Or.inl rfl)) (pgs_cons (pg_name (i := 5) sc_Sq_take.nd rfl (Or.inl rfl)) pgs_nil)))
      (fun k => [some (.obj fun p' H' => p' = p ∧ TakeIn K C p dx B tv bs tab n bases H'), some (.arg (.int ((a : Nat) : Int))), some (.own ((vk k).map qd)), none, none, none, none, none, none]) ⟨rfl, rfl, by rw [vk0], trivial⟩ fun k d hd => ?_) ?_
    · obtain ⟨⟨b, z⟩, hbz, rfl⟩ : ∃ q, bases[k]? = some q ∧ baseD q = d := by
        rw [List.getElem?_map] at hd
        cases e : bases[k]? with
        | none => rw [e] at hd; cases hd
        | some q => rw [e] at hd; exact ⟨q, rfl, Option.some.inj hd⟩
      obtain ⟨b1, b2, b3⟩ := hb (b, z) (List.mem_of_getElem? hbz)
      have stp := hvk' (k + 1)
      rw [take_next hbz, M.updC_app, hvk' k] at stp
      obtain ⟨s1, s2, s3⟩ := M.updC_one stp
      have b3' : z.1 ≠ 0 := by have : 0 < z.1 := b3; omega
      have pd := M.overM_bd (M.prodM_bd ht (vkok k) b1) b2 b3'
      have pb := M.chk_bd s2 pd.d0
      refine ⟨_, _, gd_pair, sds_cons (sd_set (i := 6) (d := qd (M.overM (M.prodM tab n (vk k) b) z)) (ed_call c_over hr (ad_cons (ed_meth 0 Z.cl c_product hr (fun p H h => ob_prod (hob p H h)) (ad_cons (ed_vO 2) (ad_cons (ed_v 4) ad_nil)) ⟨tab, vk k, b, rfl, rfl, ht, vkok k, b1, rfl⟩) (ad_cons (ed_v 5) ad_nil)) ⟨_, z, 5226, 64, rfl, M.prodM_bd ht (vkok k) b1, b2, by decide, b3', rfl⟩) sc_Sq_take.nd)
        (sds_one (sd_lc2p (i := 7) (j := 8) (k := 2) (g := fun m i => qd (M.minusM (qof m) (M.timesM (M.overM (M.prodM tab n (vk k) b) z) (qof i)))) (ps := (List.zip (vk k) b).map fun q => (qd q.1, qd q.2)) (id_is (id_zip (by rw [List.length_map, List.length_map, (vkok k).len, b1.len]) (ad_cons (ed_vO 2) (ad_cons (ed_v 4) ad_nil)) T.zip) (zip_pairs _ _)) (by rw [List.length_map, List.length_zip, (vkok k).len, b1.len, Nat.min_self]; omega) sc_Sq_take.nd (blkOk_by (N := N_Sq_take) (sc := defScope s_Sq_take) (by decide +kernel))
          (fun _ _ _ _ _ => pg_tup rfl (pgs_cons (pg_name (i := 7) sc_Sq_take.nd rfl (Or.inl rfl)) (pgs_cons (pg_name (i := 8) sc_Sq_take.nd rfl (Or.inl rfl)) pgs_nil))) (fun d1 d2 hd s H C cl fp => ?_) (fun d1 d2 hd => rfl) (sw_true rfl rfl rfl (by decide +kernel)))), ⟨rfl, rfl, ?_, trivial⟩⟩
      · obtain ⟨⟨x, y⟩, hq, e⟩ := List.mem_map.mp hd
        obtain ⟨q1, q2⟩ := List.of_mem_zip hq
        cases e
        exact ed_call c_minus hr (ad_cons (ed_v 7) (ad_cons (ed_call c_times hr (ad_cons (ed_v 6) (ad_cons (ed_v 8) ad_nil)) ⟨_, y, 64, 64, rfl, pb, b1.bd _ q2, by decide, rfl⟩) ad_nil)) ⟨x, _, 64, _, rfl, (vkok k).bd _ q1, M.timesM_bd pb (b1.bd _ q2), by decide, rfl⟩
      · show some (Sl.own _) = some (Sl.own ((vk (k + 1)).map qd))
        rw [s1, List.map_map]
        unfold M.updM
        rw [List.map_map]
        rfl
    rw [List.length_map]
    simp only [vkl]
    refine sds_cons (sd_set (i := 5) (d := qd (M.prodM tab n v v)) (ed_meth 0 Z.cl c_product hr (fun p H h => ob_prod (hob p H h)) (ad_cons (ed_vO 2) (ad_cons (ed_vO 2) ad_nil)) ⟨tab, v, v, rfl, rfl, ht, hvok, hvok, rfl⟩) sc_Sq_take.nd) ?_
    refine sds_one (sd_if (td_lt (ed_q0 (ed_v 5)) ed_int) (fun z => ?_) (fun z => sds_one (sd_if (td_gt (ed_q0 (ed_v 5)) ed_int) (fun z2 => ?_) (fun z2 => ?_))))
    · have z := of_decide_eq_true z
      refine sds_one (sd_of (ps_fld (pv 0) (pv 2) rfl) fun H0 H1 σ S D k => ?_)
      obtain ⟨v2, e2, lv, xs, rfl, hfr, hls, r, _⟩ := S.at_ 2 _ rfl
      obtain ⟨v0, e0, p', rfl, g⟩ := S.at_ 0 _ rfl
      obtain ⟨rfl, hin1⟩ := g H1 S.ex
      refine ⟨.ref lv, e2, .ref p', e0, p', C, dx, _, rfl, hin1.ins, Z.cl, Z.nV, (by show 4 < 1000; decide), k σ _ fun _ => ⟨fun x o n1 n2 hx => ?_, ?_⟩⟩
      · rw [upd_ne n1]
        exact S.ex _ _ hx
      · rcases hv3 with ⟨_, _, rfl⟩ | ⟨h4, _⟩ | ⟨h4, _⟩
        · exact ⟨lv, by rw [upd_same, sqF_put]⟩
        · omega
        · omega
    · have z := of_decide_eq_false z
      have z2 := of_decide_eq_true z2
      refine sds_one (sd_of (ps_expr (pe_bm PySem.F.plainAttrs_list PySem.F.slot_list_append PySem.F.type_list_append mt_append (pe_fld (pv 0) rfl) (pa_cons (pe_tup (pa_cons (pv 2) (pa_cons (pv 5) pa_nil))) pa_nil))) fun H0 H1 σ S D k => ?_)
      obtain ⟨v2, e2, lv, xs, rfl, hfr, hls, r, _⟩ := S.at_ 2 _ rfl
      obtain ⟨v0, e0, p', rfl, g⟩ := S.at_ 0 _ rfl
      obtain ⟨sv, e5, r5⟩ := S.get (d := qd (M.prodM tab n v v)) rfl (i := 5) rfl
      obtain ⟨rfl, hin1⟩ := g H1 S.ex
      have hin0 := (g H0 (Ex.refl H0)).2
      refine ⟨.ref p', e0, p', C, dx, _, .ref B, rfl, hin1.ins, Z.cl, Z.nB, sqF_b, .inl ⟨rfl, bs, SqL.of hin1.lst⟩, .ref lv, e2, sv, e5, (by show 2 ≤ sizeLine; decide), fun t htn => ?_⟩
      have ext : Ex H1 (upd H1 t (.tup [.ref lv, sv])) := Ex.new htn
      have hin2 := hin1.mono ext
      refine ⟨B, bs, .ref t, rfl, rfl, hin2.lst, Nat.lt_of_le_of_lt (by rw [hin1.bl.length]; exact hl100) (by decide), k σ _ fun _ => ⟨fun x o n1 n2 hx => ?_, ?_⟩⟩
      · rw [upd_ne n2]
        exact ext _ _ (S.ex _ _ hx)
      · rcases hv3 with ⟨h4, _⟩ | ⟨_, rfl, rfl⟩ | ⟨h4, _⟩
        · omega
        · have pB : p' ≠ B := ne_of hin2.ins hin2.lst (by intro q; cases q)
          have lB : lv ≠ B := fun q => by
            rw [q, hin0.lst] at hfr
            cases hfr
          refine ⟨by rw [upd_ne pB]; exact hin2.ins, bs ++ [.ref t], upd_same, BL.append (BL.updB hin2.lst hin2.bl) ?_⟩
          exact .cons (sqT_upd hin2.lst (SqT.of upd_same)) lB (by rw [upd_ne lB]; exact ext _ _ hls) (Rp.keepTAll (fun _ _ z => sqT_upd hin2.lst z) _ _ (lf_qs _) (r.mono ext)) (Rp.keepT (fun _ _ z => sqT_upd hin2.lst z) _ _ rfl (r5.mono ext)) .nil
        · omega
    · have z := of_decide_eq_false z
      have z2 := of_decide_eq_false z2
      rcases hv3 with ⟨h4, _⟩ | ⟨h4, _⟩ | ⟨_, hlk, rfl, rfl⟩
      · omega
      · omega
      refine sds_fin (sds_one (sd_expr (ed_meth (d := .none) 0 Z.cl c_look hr (fun p' H' h => hlb p' H' h) (ad_cons (ed_vO 2) ad_nil) ⟨rfl, tab, v, rfl, rfl, ht, hvok, hlk⟩))) fun H0 H1 σ S _ => ?_
      obtain ⟨v0, e0, p', rfl, g⟩ := S.at_ 0 _ rfl
      obtain ⟨rfl, hin1⟩ := g H1 S.ex
      exact ⟨fun x o _ _ hx => S.ex _ _ hx, hin1.ins, bs, hin1.lst, hin1.bl⟩
  exact main H H _ (startM (fun H' e => ⟨rfl, hin.mono e⟩) (.cons (.int _) .nil)) _ fun σ' H' R => hq H' (R rfl).1 (R rfl).2
end
end G
/-! S4 -/
namespace G
open PySem PySem.Spec PyProof.Rows L2
open M (Q2 Bd Amt gc)
open Evl (Ex Ex.refl Ex.trans Ex.new Ex.mut fresh_back ex_t ex_l)
/-- what is told of the finished object -/
def Done (C p : Addr) (b : Bool) (H : Hp) : Prop := ∃ dx fs u, H p = some (.ins C dx fs) ∧ fs.lookup ("vector" : Str) = some u ∧ decide (u = V.non) = b
def spInit (K : PySem.W.Frag) (C : Addr) : Sp := fun vs H Q _ => ∃ (H0 : Hp) (p dx : Addr) (tv : V) (tab : List (List Q2)) (n : Nat) (bases : List (List Q2 × Q2)) (vec : Option (List Q2)), vs = [.ref p, tv] ∧ Ex H0 H ∧ H0 p = none ∧ H p = some (.ins C dx []) ∧ Rp K H0 tv (tabD tab) ∧ M.TabOk tab n ∧ M.initC tab n n = some (bases, vec) ∧
  ∀ H', Ex H0 H' → Done C p vec.isNone H' → Q .non H'
def InitW (K : PySem.W.Frag) (C p dx B : Addr) (tv : V) (tab : List (List Q2)) (n : Nat) (H : Hp) (bases : List (List Q2 × Q2)) : Option (List Q2) → Prop
  | none => ∃ bs, TakeIn K C p dx B tv bs tab n bases H
  | some _ => ∃ lv, H p = some (.ins C dx (sqF tv n B (.ref lv)))
section
variable {P : Program} {w : World} {K : PySem.W.Frag} {mg : Str → Option Value} {base : Heap} {C : Addr}
abbrev s_Sq_init : Stmt := inClass (topS 66) 0
abbrev N_Sq_init : List Str := ["self", "table", "at"]
theorem sc_Sq_init : FnScope N_Sq_init ["self", "table"] (defScope s_Sq_init) := ⟨rfl, rfl, rfl, by decide +kernel, rfl, by decide +kernel, by decide +kernel⟩
theorem ok_init (T : Facts K mg) (Z : SqC K C) {f ft : Addr} {fd fdt : FuncData} {pst : List Str} (F : Fun K "__init__" "Squares.__init__" s_Sq_init f fd) (Gt : FnOk P w K mg base CX0 7 ft fdt pst (spTake K C)) (mt : Meth K C "take" ft) (bt : Binds K fdt pst []) : FnOk P w K mg base CX0 8 f fd ["self", "table"] (spInit K C) := by
  refine F.ok sc_Sq_init (fun vs H Q E h => ?_) (fun cdv A outer s H vs Q E hr h => ?_)
  · obtain ⟨H0, p, dx, tv, tab, n, bases, vec, rfl, _⟩ := h
    rfl
  obtain ⟨H0, p, dx, tv, tab, n, bases, vec, rfl, ex0, p0, hp, htv, ht, hin, hq⟩ := h
  obtain ⟨ta, rows, rfl, hta, hrows⟩ := htv.lst_v
  have n5 := ht.n5
  have nl : rows.length = n := by
    rw [hrows.length, List.length_map]
    exact ht.len
  have tap : ta ≠ p := fun q => by
    rw [q, p0] at hta
    cases hta
  refine ⟨_, pss_cons (ps_fld (pv 0) (pv 1) rfl) (pss_cons (ps_fld (pv 0) (pe_callB call_len_seq (by rfl) T.len PySem.boot_len (pa_cons (pv 1) pa_nil)) rfl) (pss_cons (ps_fld (pv 0) (pe_lst pa_nil) rfl) (pss_cons (ps_fld (pv 0) pe_non rfl)
    (pss_one (ps_for PassesOwn.never rfl (pi_range1 rfl T.range (pa_cons (pe_fld (pv 0) rfl) pa_nil)) (pg_name (i := 2) sc_Sq_init.nd rfl (Or.inl rfl)) (pss_one (ps_if (pt_cmpR op_isN (pe_fld (pv 0) rfl) pe_non (nomark _)) (pss_one (ps_expr (pe_meth (pv 0) Z.cl mt Gt (hr.mono (by decide)) bt .nil pass0 (pa_cons (pv 2) pa_nil)))) pss_nil))))))), ?_⟩
  refine ⟨.ref ta, rfl, .ref p, rfl, p, C, dx, _, rfl, hp, Z.cl, Z.nT, (by show 0 < 1000; decide), ?_⟩
  refine ⟨.ref ta, rfl, ta, rows, rfl, .inl (SqL.of (by rw [upd_ne tap]; exact ex0 _ _ hta)), .ref p, rfl, p, C, dx, _, rfl, upd_same, Z.cl, Z.nM, (by show 1 < 1000; decide), ?_⟩
  refine ⟨Nat.zero_le _, fun B hB => ?_⟩
  have pB : p ≠ B := fun q => by
    rw [← q, upd_same] at hB
    cases hB
  have hB0 : H B = none := by
    rw [upd_ne pB.symm, upd_ne pB.symm] at hB
    exact hB
  have hB00 : H0 B = none := fresh_back ex0 hB0
  refine ⟨.ref p, rfl, p, C, dx, _, rfl, Eq.trans (upd_ne pB) upd_same, Z.cl, Z.nB, (by show 2 < 1000; decide), ?_⟩
  refine ⟨.ref p, rfl, p, C, dx, _, rfl, upd_same, Z.cl, Z.nV, (by show 3 < 1000; decide), ?_⟩
  refine ⟨.ref p, rfl, p, C, dx, sqF (.ref ta) n B .non, .int (n : Int), rfl, ?_, Z.cl, Z.nM, sqF_m, (n : Int), rfl, by omega, by omega, ?_⟩
  · rw [upd_same, ← nl]
    rfl
  rw [Int.toNat_natCast]
  refine for_range (lo := 0) (n := n) (fun k σ H' => ∃ y bases' vec', σ = [some (.ref p), some (.ref ta), y] ∧ Ex H0 H' ∧ M.initC tab n k = some (bases', vec') ∧ InitW K C p dx B (.ref ta) tab n H' bases' vec' ∧ (∀ b ∈ bases', M.BaseOk n b) ∧ bases'.length ≤ k) ?_ (fun k σ H' hk hW => ?_) (fun σ H' hW => ?_)
  · refine ⟨none, [], none, rfl, fun a o ha => ?_, rfl, ⟨[], ?_, ?_, ?_, .nil⟩, (fun b hb => nomatch hb), Nat.le_refl _⟩
    · have a1 : a ≠ p := ne_of_none ha p0
      have a2 : a ≠ B := ne_of_none ha hB00
      rw [upd_ne a1, upd_ne a1, upd_ne a2, upd_ne a1, upd_ne a1]
      exact ex0 _ _ ha
    · rw [upd_same, ← nl]
      rfl
    · refine Rp.mono (fun a o ha => ?_) htv
      have a1 : a ≠ p := ne_of_none ha p0
      have a2 : a ≠ B := ne_of_none ha hB00
      rw [upd_ne a1, upd_ne a1, upd_ne a2, upd_ne a1, upd_ne a1]
      exact ex0 _ _ ha
    · rw [upd_ne pB.symm, upd_ne pB.symm, upd_same]
  · obtain ⟨y, bases', vec', rfl, ex1, hi, hw, hbo, hbl⟩ := hW
    cases vec' with
    | some v =>
      obtain ⟨lv, hl⟩ := hw
      refine ⟨.ref p, rfl, p, C, dx, _, .ref lv, rfl, hl, Z.cl, Z.nV, sqF_v, rfl, _, rfl, ?_⟩
      rw [show decide (V.ref lv = V.non) = false from decide_eq_false fun q => by cases q]
      refine iteF ?_
      exact ⟨_, bases', some v, rfl, ex1, M.initC_done hi, ⟨lv, hl⟩, hbo, by omega⟩
    | none =>
      obtain ⟨bs, tin⟩ := hw
      refine ⟨.ref p, rfl, p, C, dx, _, .non, rfl, tin.ins, Z.cl, Z.nV, sqF_v, rfl, _, rfl, ?_⟩
      rw [show decide (V.non = V.non) = true from decide_eq_true rfl]
      refine iteT ?_
      obtain ⟨⟨b2, v2⟩, hi2⟩ := M.initC_pre hin (k + 1) (by omega)
      have htk := hi2
      rw [M.initC_step hi] at htk
      refine ⟨.ref p, rfl, p, dx, _, rfl, tin.ins, sqF_k, _, rfl, p, dx, B, .ref ta, bs, tab, n, bases', k, b2, v2, by rw [Int.zero_add]; rfl, tin, ht, hbo, by omega, htk, fun H2 keep res => ?_⟩
      have ex2 : Ex H0 H2 := fun a o ha => keep a o (ne_of_none ha p0) (ne_of_none ha hB00) (ex1 a o ha)
      obtain ⟨o1, o2⟩ := M.takeC_ok ht hbo htk
      refine ⟨_, b2, v2, rfl, ex2, hi2, ?_, o1, by omega⟩
      cases v2 with
      | none =>
        obtain ⟨r1, bs2, r2, r3⟩ := res
        exact ⟨bs2, r1, htv.mono ex2, r2, r3⟩
      | some v => exact res
  · obtain ⟨y, bases', vec', rfl, ex1, hi, hw, _, _⟩ := hW
    rw [hin] at hi
    cases hi
    refine hq H' ex1 ?_
    cases vec with
    | none =>
      obtain ⟨bs, tin⟩ := hw
      exact ⟨dx, _, _, tin.ins, sqF_v, decide_eq_true rfl⟩
    | some v =>
      obtain ⟨lv, hl⟩ := hw
      exact ⟨dx, _, _, hl, sqF_v, decide_eq_false fun q => by cases q⟩
def spSq (K : PySem.W.Frag) (C : Addr) : Sp := fun vs H Q _ => ∃ v n c b, vs = [v] ∧ Rp K H v (cd c) ∧ VC n c ∧ M.fillsC n c = some b ∧ ∀ p H2, Ex H H2 → Done C p b H2 → Q (.ref p) H2
abbrev s_squares_of : Stmt := topS 68
abbrev N_squares_of : List Str := ["carrier"]
theorem sc_squares_of : FnScope N_squares_of ["carrier"] (defScope s_squares_of) := ⟨rfl, rfl, rfl, by decide +kernel, rfl, by decide +kernel, by decide +kernel⟩
theorem ok_squares_of (T : Facts K mg) {f fi : Addr} {fd fdi : FuncData} (F : Fun K "squares_of" "squares_of" s_squares_of f fd) (Mk0 : Mk K C fi) (mgC : mg "Squares" = some (.ref C)) (Gi : FnOk P w K mg base CX0 8 fi fdi ["self", "table"] (spInit K C)) (bi : Binds K fdi ["self", "table"] []) (c_check_carrier : Cal P w K mg base 6 "check_carrier" 1 dom_check_carrier) (c_table_of : Cal P w K mg base 7 "table_of" 1 dom_table_of) : FnOk P w K mg base CX0 10 f fd ["carrier"] (spSq K C) := by
  refine F.ok sc_squares_of (fun vs H Q E h => ?_) (fun cdv A outer s H vs Q E hr h => ?_)
  · obtain ⟨v, n, c, b, rfl, _⟩ := h
    rfl
  obtain ⟨v, n, c, b, rfl, hv, hc, hf, hq⟩ := h
  obtain ⟨ck, sums, bs, vec, hp, hi, rfl⟩ := M.fillsC_cases hf
  obtain ⟨cl, cb⟩ := counts_ok hc ck
  have n5 := hc.n5
  have n1 := hc.n1
  obtain ⟨sl, sb⟩ := M.powersC_ok cb (by omega) (by omega) (by omega) hp
  have tok := M.tab_ok n1 n5 sl sb
  refine ⟨_, pss_cons (ps_b) (pss_one (ps_ret (pe_make Mk0 Gi hr rfl mgC bi .nil pass0 (pa_cons pe_b pa_nil)))), ?_⟩
  have S0 : St0 K H H (L2.start N_squares_of [v]) [some (.dat (cd c))] := start_St0 (N := N_squares_of) (mk := Sl.dat) (fun v d r => r) 0 (.cons hv .nil)
  refine (sd_expr (d := .none) (ed_call c_check_carrier hr (ad_cons (ed_v 0) ad_nil) ⟨rfl, n, c, rfl, hc⟩)) H H _ S0 _ fun σ1 H1 S1 => ?_
  refine (ed_call c_table_of hr (ad_cons (ed_v 0) ad_nil) ⟨n, c, sums, rfl, hc, ck, hp, rfl⟩ : ED _ _ _ (tabD (M.tabM sums n))) H H1 σ1 S1 _ fun tv H2 e2 r2 => ?_
  intro x dx nx ndx nex
  have hx : Ex H2 (upd (upd H2 dx (.own x)) x (.ins C dx [])) := fun a o ha => by
    rw [upd_ne (ne_of_none ha nx), upd_ne (ne_of_none ha ndx)]
    exact ha
  exact ⟨H2, x, dx, tv, M.tabM sums n, n, bs, vec, rfl, hx, nx, upd_same, r2, tok, hi, fun H3 e3 dn => ⟨rfl, hq x H3 ((S1.ex.trans e2).trans e3) dn⟩⟩
abbrev s_fills_unlinked : Stmt := topS 69
abbrev N_fills_unlinked : List Str := ["carrier"]
theorem sc_fills_unlinked : FnScope N_fills_unlinked ["carrier"] (defScope s_fills_unlinked) := ⟨rfl, rfl, rfl, by decide +kernel, rfl, by decide +kernel, by decide +kernel⟩
def dom_fills_unlinked (ds : List PyData) (r : PyData) : Prop := ∃ n c b, ds = [cd c] ∧ VC n c ∧ M.fillsC n c = some b ∧ r = .bool b
theorem ok_fills_unlinked (D : Df K mg "fills_unlinked" s_fills_unlinked ["carrier"]) (Z : SqC K C) {fs : Addr} {fds : FuncData} (Gs : FnOk P w K mg base CX0 10 fs fds ["carrier"] (spSq K C)) (ms : mg "squares_of" = some (.ref fs)) (ks : PySem.W.keepIn K (.ref fs) = true) (bs : Binds K fds ["carrier"] []) : Cal P w K mg base 11 "fills_unlinked" 1 dom_fills_unlinked := by
  refine df_ok D sc_fills_unlinked rfl fun f cdv A outer s H E ds r hr h hl => ?_
  obtain ⟨n, c, b, rfl, hc, hf, rfl⟩ := h
  show SDs _ [some (.dat (cd c))] _ _
  refine sds_one (sd_of (ps_ret (pe_cmpR op_isN (pe_fld (pe_call Gs hr rfl ms ks bs .nil pass0 (pa_cons (pv 0) pa_nil)) rfl) pe_non (nomark _))) fun H0 H1 σ S D k => ?_)
  obtain ⟨v, e1, r1⟩ := S.get (d := cd c) rfl (i := 0) rfl
  refine ⟨v, e1, v, n, c, b, rfl, r1, hc, hf, fun p H2 e2 dn => ?_⟩
  obtain ⟨dx, fl, u, h1, h2, h3⟩ := dn
  refine ⟨p, C, dx, fl, u, rfl, h1, Z.cl, Z.nV, h2, rfl, k _ _ (S.ex.trans e2) ?_⟩
  rw [h3]
  exact .bl b
end
end G
/-! L1 -/
namespace G
open PySem PySem.Spec PyProof.Rows L2
open M (Q2 Bd Amt gc)
open Evl (Ex Ex.refl Ex.trans Ex.new Ex.mut fresh_back ex_t ex_l)
section
variable {P : Program} {w : World} {K : PySem.W.Frag} {mg : Str → Option Value} {base : Heap}
abbrev s__law_cmp : Stmt := topS 76
abbrev N__law_cmp : List Str := ["_law_one", "_law_two", "_law_gap"]
theorem sc__law_cmp : FnScope N__law_cmp ["_law_one", "_law_two"] (defScope s__law_cmp) := ⟨rfl, rfl, rfl, by decide +kernel, rfl, by decide +kernel, by decide +kernel⟩
def cmpI (a b : Q2) : Int := if 0 < a.1 * b.2 - b.1 * a.2 then 1 else if a.1 * b.2 - b.1 * a.2 < 0 then -1 else 0
def dom__law_cmp (ds : List PyData) (r : PyData) : Prop := ∃ (a b : Q2) (n m : Nat), ds = [qd a, qd b] ∧ Bd n a ∧ Bd m b ∧ n + m ≤ 8998 ∧ r = .int (cmpI a b)
theorem ok__law_cmp (T : Facts K mg) (D : Df K mg "_law_cmp" s__law_cmp ["_law_one", "_law_two"]) : Cal P w K mg base 1 "_law_cmp" 2 dom__law_cmp := by
  refine df_ok D sc__law_cmp rfl fun f cdv A outer s H E ds r hr h hl => ?_
  obtain ⟨a, b, n, m, rfl, ha, hb, hl, rfl⟩ := h
  show SDs _ [some (.dat (qd a)), some (.dat (qd b)), none] _ _
  refine sds_cons (sd_set (i := 2) (ed_sub (ed_mul (ed_q0 (ed_v 0)) (ed_q1 (ed_v 1)) (cmul ha.n1 hb.d1 (by omega))) (ed_mul (ed_q0 (ed_v 1)) (ed_q1 (ed_v 0)) (cmul hb.n1 ha.d1 (by omega)))) sc__law_cmp.nd) ?_
  unfold cmpI
  refine sds_one (sd_ret (ed_if (td_gt (ed_v 2) ed_int) (fun z => ?_) (fun z => ?_)))
  · rw [if_pos (of_decide_eq_true z)]
    exact ed_int
  · rw [if_neg (of_decide_eq_false z)]
    refine ed_if (td_lt (ed_v 2) ed_int) (fun z => ?_) (fun z => ?_)
    · rw [if_pos (of_decide_eq_true z)]
      exact ed_neg ed_int
    · rw [if_neg (of_decide_eq_false z)]
      exact ed_int
abbrev s__law_gcd : Stmt := topS 74
abbrev N__law_gcd : List Str := ["_law_one", "_law_two"]
theorem sc__law_gcd : FnScope N__law_gcd ["_law_one", "_law_two"] (defScope s__law_gcd) := ⟨rfl, rfl, rfl, by decide +kernel, rfl, by decide +kernel, by decide +kernel⟩
/-- the pairs that the loop goes through -/
def gst (a b : Nat) : Nat → Nat × Nat
  | 0 => (a, b)
  | i + 1 => ((gst a b i).2, (gst a b i).1 % (gst a b i).2)
def dom__law_gcd (ds : List PyData) (r : PyData) : Prop := ∃ a b : Nat, ds = [.int (a : Int), .int (b : Int)] ∧ 0 < b ∧ b < 10 ∧ a < 10 ∧ r = .int (Nat.gcd a b : Nat)
theorem gst_all : ((List.range 10).all fun a => (List.range 10).all fun b => b == 0 || (List.range 8).any fun k => ((List.range k).all fun i => decide (0 < (gst a b i).2)) && (gst a b k).2 == 0 && (gst a b k).1 == Nat.gcd a b) = true := by decide +kernel
theorem gst_ok {a b : Nat} (ha : a < 10) (hb : b < 10) (h0 : 0 < b) : ∃ k, (∀ i, i < k → 0 < (gst a b i).2) ∧ (gst a b k).2 = 0 ∧ (gst a b k).1 = Nat.gcd a b := by
  have h := List.all_eq_true.mp gst_all a (List.mem_range.mpr ha)
  have h1 := List.all_eq_true.mp h b (List.mem_range.mpr hb)
  rw [Bool.or_eq_true] at h1
  rcases h1 with h1 | h1
  · have := beq_iff_eq.mp h1
    omega
  · obtain ⟨k, _, hk⟩ := List.any_eq_true.mp h1
    rw [Bool.and_eq_true, Bool.and_eq_true, List.all_eq_true] at hk
    exact ⟨k, fun i hi => of_decide_eq_true (hk.1.1 i (List.mem_range.mpr hi)), beq_iff_eq.mp hk.1.2, beq_iff_eq.mp hk.2⟩
theorem ok__law_gcd (T : Facts K mg) (D : Df K mg "_law_gcd" s__law_gcd ["_law_one", "_law_two"]) : Cal P w K mg base 1 "_law_gcd" 2 dom__law_gcd := by
  refine df_ok D sc__law_gcd rfl fun f cdv A outer s H E ds r hr h hl => ?_
  obtain ⟨a, b, rfl, b0, hb, ha, rfl⟩ := h
  obtain ⟨k, k1, k2, k3⟩ := gst_ok ha hb b0
  show SDs _ [some (.dat (.int (a : Int))), some (.dat (.int (b : Int)))] _ _
  refine sds_cons (sd_par (i := 0) (j := 1) (d1 := .int (a : Int)) (d2 := .int (b : Int)) (ad_cons (ed_is (ed_abs T.abs (ad_cons (ed_v 0) ad_nil)) (by rw [if_neg (by omega)])) (ad_cons (ed_is (ed_abs T.abs (ad_cons (ed_v 1) ad_nil)) (by rw [if_neg (by omega)])) ad_nil)) sc__law_gcd.nd) ?_
  refine sds_cons (sd_while (fun i => [some (.dat (.int ((gst a b i).1 : Nat))), some (.dat (.int ((gst a b i).2 : Nat)))]) k ⟨rfl, rfl, trivial⟩ (fun i hi => ?_) (td_is (td_gt (ed_v 1) ed_int) (decide_eq_false (by rw [k2]; decide)))) ?_
  · have p := k1 i hi
    refine ⟨td_is (td_gt (ed_v 1) ed_int) (decide_eq_true (by omega)), _, sds_one (sd_par (i := 0) (j := 1) (ad_cons (ed_v 1) (ad_cons (ed_mod (ed_toint T.int (ad_cons (ed_v 0) ad_nil)) (ed_v 1) (by omega)) ad_nil)) sc__law_gcd.nd), ⟨rfl, ?_, trivial⟩⟩
    show some (Sl.dat (.int (((gst a b i).1 : Int) % ((gst a b i).2 : Int)))) = some (Sl.dat (.int (((gst a b i).1 % (gst a b i).2 : Nat) : Int)))
    rw [Int.natCast_emod]
  · refine sds_one (sd_ret (ed_is (ed_v 0) ?_))
    rw [k3]
abbrev s__law_ratio : Stmt := topS 75
abbrev N__law_ratio : List Str := ["_law_n", "_law_m", "_law_deep"]
theorem sc__law_ratio : FnScope N__law_ratio ["_law_n", "_law_m"] (defScope s__law_ratio) := ⟨rfl, rfl, rfl, by decide +kernel, rfl, by decide +kernel, by decide +kernel⟩
def dom__law_ratio (ds : List PyData) (r : PyData) : Prop := ∃ a b : Nat, ds = [.int (a : Int), .int (b : Int)] ∧ 0 < b ∧ b < 10 ∧ a < 10 ∧ r = qd (M.lowM (a : Int) (b : Int))
theorem ok__law_ratio (T : Facts K mg) (D : Df K mg "_law_ratio" s__law_ratio ["_law_n", "_law_m"]) (c__law_gcd : Cal P w K mg base 1 "_law_gcd" 2 dom__law_gcd) : Cal P w K mg base 2 "_law_ratio" 2 dom__law_ratio := by
  refine df_ok D sc__law_ratio rfl fun f cdv A outer s H E ds r hr h hl => ?_
  obtain ⟨a, b, rfl, b0, hb, ha, rfl⟩ := h
  have g0 : 0 < Nat.gcd a b := Nat.gcd_pos_of_pos_right _ b0
  have gl : Nat.gcd a b ≤ b := Nat.le_of_dvd b0 (Nat.gcd_dvd_right _ _)
  have cd : ∀ i : Int, CDivW i ((Nat.gcd a b : Nat) : Int) := fun i => cdiv (b := 4) (by omega) (by rw [Int.natAbs_natCast]; omega) (by decide)
  show SDs _ [some (.dat (.int (a : Int))), some (.dat (.int (b : Int))), none] _ _
  refine sds_cons (sd_set (i := 2) (d := .int ((Nat.gcd a b : Nat) : Int)) (ed_if (td_gt (ed_v 1) ed_int) (fun _ => ed_call c__law_gcd hr (ad_cons (ed_v 0) (ad_cons (ed_v 1) ad_nil)) ⟨a, b, rfl, b0, hb, ha, rfl⟩) (fun z => absurd (of_decide_eq_false z) (by omega))) sc__law_ratio.nd) ?_
  exact sds_one (sd_ret (ed_tup (ad_cons (ed_div (ed_v 0) (ed_v 2) (cd _)) (ad_cons (ed_div (ed_v 1) (ed_v 2) (cd _)) ad_nil))))
end
end G
/-! K1 -/
namespace G
open PySem PySem.Spec PyProof.Rows L2
open M (Q2 Bd Amt gc)
open Evl (Ex Ex.refl Ex.trans Ex.new Ex.mut fresh_back ex_t ex_l)
/-- all but the object at p is as it was -/
def Keep (p : Addr) (H H' : Hp) : Prop := ∀ x o, x ≠ p → H x = some o → H' x = some o
theorem Keep.refl (p : Addr) (H : Hp) : Keep p H H := fun _ _ _ h => h
theorem Keep.trans {p : Addr} {H H1 H2 : Hp} (a : Keep p H H1) (b : Keep p H1 H2) : Keep p H H2 := fun x o n h => b x o n (a x o n h)
theorem Keep.of {p : Addr} {H H1 : Hp} (a : Ex H H1) : Keep p H H1 := fun x o _ h => a x o h
theorem Keep.upd {p : Addr} {H : Hp} {o : HO} : Keep p H (upd H p o) := fun x u n h => by rw [upd_ne n]; exact h
structure StAt (p : Addr) (H : Hp) : Prop where
  ex : ∃ a b c : Int, H p = some (.lst [.int a, .int b, .int c]) ∧ 0 ≤ a ∧ 0 ≤ b ∧ b < 4294967296
theorem StAt.mono {p : Addr} {H H' : Hp} (h : StAt p H) (e : Ex H H') : StAt p H' := by
  obtain ⟨a, b, c, h1, h2⟩ := h.ex
  exact ⟨a, b, c, e _ _ h1, h2⟩
theorem Keep.rp {K : PySem.W.Frag} {p : Addr} {H H' : Hp} (k : Keep p H H') (s : StAt p H) {v : V} {d : PyData} (hd : lf d = true) (h : Rp K H v d) : Rp K H' v d := by
  obtain ⟨a, b, c, h1, _⟩ := s.ex
  refine Rp.keepT (fun x xs z => ?_) d v hd h
  rcases z with (z | ⟨o, z⟩) | z
  · exact .inl (.inl (k _ _ (ne_of z h1 (by intro q; cases q)) z))
  · exact .inl (.inr ⟨o, k _ _ (ne_of z h1 (by intro q; cases q)) z⟩)
  · exact .inr z
def cellM (ns : List Int) (t : Nat) : Int := if t < ns.length then ns.getD t 0 else 7331 * (t : Int) + 577 + (ns.take 5).sum % 1000121
def mixM (z e : Int) : Int := (z * 45943 + e % 2147483497 + 17) % 2147483497
def blendM (ns : List Int) (t : Nat) : Int := (ns.take 8 ++ [cellM ns t]).foldl mixM (33613 + 2477 * (t : Int))
def firstM (ns : List Int) (t : Nat) : Int := if cellM ns t < 0 ∨ 10 ^ 18 ≤ cellM ns t then (if cellM ns t < 0 then -(cellM ns t) else cellM ns t) else 0
theorem firstM_nn (ns : List Int) (t : Nat) : 0 ≤ firstM ns t := by
  unfold firstM
  split
  · split <;> omega
  · exact Int.le_refl _
theorem blendM_bd (ns : List Int) (t : Nat) : 0 ≤ blendM ns t ∧ blendM ns t < 4294967296 := by
  unfold blendM
  rw [List.foldl_append]
  show 0 ≤ mixM _ _ ∧ mixM _ _ < _
  unfold mixM
  exact ⟨Int.emod_nonneg _ (by decide), Int.lt_trans (Int.emod_lt_of_pos _ (by decide)) (by decide)⟩
section
variable {X : Cx} {δ : En} {a : Expr} {pos p2 : Pos}
theorem sd_go {st : Stmt} {o : Oc} {H0 H : Hp} {σ : L2.St} {D : Ends} (S : St0 X.K H0 H σ δ) (h : SD X δ st o) (k : o.ok X.K H0 D) : bS X st D σ H := h H0 H σ S D k
/-- xs[:n] of the script -/
theorem ed_slS {ns : List Int} {n : Nat} {j : Nat} {p3 : Pos} (ha : ED X δ a (scrD (ns.map .int))) : ED X δ (.Subscript a (.Slice none (some (.Constant (.int (n : Int)) j p3)) none p2) pos) (.list ((ns.take n).map .int)) :=
  ed_of (pe_slice sl_list pe_b po_none (po_some pe_int)) fun H0 H σ S Q q => ha H0 H σ S _ fun v H1 e1 r => by
    obtain ⟨p, xs, rfl, h1, h2⟩ := r.scr_v
    have e := h2.ints
    subst e
    refine ⟨(n : Int), rfl, p, _, rfl, h1, fun l hl => q _ _ (e1.trans (Ex.new hl)) (.lst upd_same ?_)⟩
    have ec : cutV (ns.map V.int) none (some (n : Int)) = (ns.take n).map V.int := by
      unfold cutV
      rw [HT.sIx_none, show HT.sIx (ns.map V.int).length (ns.map V.int).length (some (n : Int)) = min n (ns.map V.int).length from HT.sIx_nat _ _ n, List.drop_zero, Nat.sub_zero, List.map_take]
      by_cases h : n ≤ (ns.map V.int).length
      · rw [Nat.min_eq_left h]
      · rw [Nat.min_eq_right (by omega), List.take_of_length_le (Nat.le_refl _), List.take_of_length_le (by omega)]
    rw [ec]
    exact RpAll.of_ints
end
section
variable {P : Program} {w : World} {K : PySem.W.Frag} {mg : Str → Option Value} {base : Heap}
def spStore (K : PySem.W.Frag) : Sp := fun vs H Q _ => ∃ (v : V) (ns : List Int) (t : Nat), vs = [v, .int (t : Int)] ∧ Rp K H v (scrD (ns.map .int)) ∧ ns.length ≤ 63 ∧ t ≤ 5 ∧ ∀ p H2, H p = none → Ex H H2 → StAt p H2 → Q (.ref p) H2
abbrev s__law_store : Stmt := topS 71
abbrev N__law_store : List Str := ["_law_script", "_law_turn", "_law_cell", "_law_blend", "_law_each"]
theorem sc__law_store : FnScope N__law_store ["_law_script", "_law_turn"] (defScope s__law_store) := ⟨rfl, rfl, rfl, by decide +kernel, rfl, by decide +kernel, by decide +kernel⟩
theorem ok__law_store (T : Facts K mg) {f : Addr} {fd : FuncData} (F : Fun K "_law_store" "_law_store" s__law_store f fd) : FnOk P w K mg base CX0 1 f fd ["_law_script", "_law_turn"] (spStore K) := by
  refine F.ok sc__law_store (fun vs H Q E h => ?_) (fun cdv A outer s H vs Q E hr h => ?_)
  · obtain ⟨v, ns, t, rfl, _⟩ := h
    rfl
  obtain ⟨v, ns, t, rfl, hv, hn, ht, hq⟩ := h
  refine ⟨_, pss_cons ps_b (pss_cons ps_b (pss_cons ps_b (pss_one (ps_ret (pe_lst pa_b))))), ?_⟩
  have S0 : St0 K H H (L2.start N__law_store [v, .int (t : Int)]) [some (.dat (scrD (ns.map .int))), some (.dat (.int (t : Int))), none, none, none] := start_St0 (N := N__law_store) (mk := Sl.dat) (fun v d r => r) 3 (.cons hv (.cons (.int _) .nil))
  have len : (ns.map PyData.int).length = ns.length := List.length_map _
  refine (sd_set (i := 2) (d := .int (cellM ns t)) (ed_if (td_lt (ed_v 1) (ed_len_s T.len (ad_cons (ed_v 0) ad_nil) len)) (fun z => ?_) (fun z => ?_)) sc__law_store.nd) H H _ S0 _ fun σ1 H1 S1 => ?_
  · have z := of_decide_eq_true z
    have hlt : t < ns.length := by omega
    have e : ns[t]? = some (ns.getD t 0) := by
      rw [List.getD_eq_getElem?_getD, List.getElem?_eq_getElem hlt]
      rfl
    unfold cellM
    rw [if_pos hlt]
    exact ed_toint T.int (ad_cons (ed_ixS (j := t) (ed_v 0) (ed_v 1) (by rw [List.getElem?_map, e]; rfl) (fun _ _ => rfl)) ad_nil)
  · have z := of_decide_eq_false z
    unfold cellM
    rw [if_neg (by omega)]
    exact ed_add (ed_add (ed_mulS ed_int (ed_v 1) (.inl ⟨by decide, by decide⟩)) ed_int) (ed_mod (ed_toint T.int (ad_cons (ed_sum rfl T.sum (ad_cons (ed_slS (n := 5) (ed_v 0)) ad_nil)) ad_nil)) ed_int (by decide))
  refine (sd_set (i := 3) (d := .int (33613 + 2477 * (t : Int))) (ed_add ed_int (ed_mulS ed_int (ed_v 1) (.inl ⟨by decide, by decide⟩))) sc__law_store.nd) H H1 σ1 S1 _ fun σ2 H2 S2 => ?_
  refine sd_go S2 (sd_forG (ds := (ns.take 8 ++ [cellM ns t]).map PyData.int) (id_is (id_list (ed_cat (ed_slS (n := 8) (ed_v 0)) (ed_lst (ad_cons (ed_v 2) ad_nil)) (by rw [List.length_map, List.length_take]; show min 8 ns.length + 1 ≤ _; have := Nat.min_le_left 8 ns.length; omega))) (by rw [List.map_append]; rfl)) (pg_name (i := 4) sc__law_store.nd rfl (Or.inl rfl))
    (fun k => [some (.dat (scrD (ns.map .int))), some (.dat (.int (t : Int))), some (.dat (.int (cellM ns t))), some (.dat (.int (((ns.take 8 ++ [cellM ns t]).take k).foldl mixM (33613 + 2477 * (t : Int))))), none]) ⟨rfl, rfl, rfl, rfl, trivial⟩ (fun _ => rfl) (fun k d hd => ?_)) (fun σ3 H3 S3 => ?_)
  · obtain ⟨z, hz, rfl⟩ : ∃ z, (ns.take 8 ++ [cellM ns t])[k]? = some z ∧ PyData.int z = d := by
      rw [List.getElem?_map] at hd
      cases e : (ns.take 8 ++ [cellM ns t])[k]? with
      | none => rw [e] at hd; cases hd
      | some z => rw [e] at hd; exact ⟨z, rfl, Option.some.inj hd⟩
    refine ⟨_, _, gd_name, sds_one (sd_set (i := 3) (ed_mod (ed_toint T.int (ad_cons (ed_add (ed_add (ed_mulS (ed_v 3) ed_int (.inr ⟨by decide, by decide⟩)) (ed_mod (ed_toint T.int (ad_cons (ed_v 4) ad_nil)) ed_int (by decide))) ed_int) ad_nil)) ed_int (by decide)) sc__law_store.nd), ⟨rfl, rfl, rfl, ?_, trivial⟩⟩
    show some (Sl.dat (.int (mixM _ _))) = some (Sl.dat (.int _))
    rw [take_next hz, List.foldl_append]
    rfl
  rw [List.length_map, List.take_length] at S3
  refine rl_lst (ds := [.int (firstM ns t), .int (blendM ns t), .int 0]) (ad_cons (ed_if (td_w (wd_or (td_lt (ed_v 2) ed_int) fun _ => wd_or1 (td_ge (ed_v 2) (ed_pow ed_int ed_int ⟨by decide, by decide, by decide⟩)))) (fun z => ?_) (fun z => ?_)) (ad_cons (ed_v 3) (ad_cons ed_int ad_nil))) (Nat.le_of_ble_eq_true rfl) H H3 σ3 S3 _ fun p xs H4 hp e4 h4 r4 => ?_
  · rw [Bool.or_eq_true, decide_eq_true_eq, decide_eq_true_eq] at z
    unfold firstM
    rw [if_pos (show cellM ns t < 0 ∨ 10 ^ 18 ≤ cellM ns t from z)]
    exact ed_abs T.abs (ad_cons (ed_v 2) ad_nil)
  · rw [Bool.or_eq_false_iff, decide_eq_false_iff_not, decide_eq_false_iff_not] at z
    unfold firstM
    rw [if_neg (show ¬ (cellM ns t < 0 ∨ 10 ^ 18 ≤ cellM ns t) from fun q => q.elim z.1 z.2)]
    exact ed_int
  · have := RpAll.ints (ns := [firstM ns t, blendM ns t, 0]) r4
    subst this
    exact hq p H4 (fresh_back S3.ex hp) (S3.ex.trans e4) ⟨_, _, _, h4, firstM_nn ns t, blendM_bd ns t⟩
end
end G
/-! K2 -/
namespace G
open PySem PySem.Spec PyProof.Rows L2
open M (Q2 Bd Amt gc)
open Evl (Ex Ex.refl Ex.trans Ex.new Ex.mut fresh_back ex_t ex_l)
/-- a def that stands under its name and keeps a promise -/
structure Fo (P : Program) (w : World) (K : PySem.W.Frag) (mg : Str → Option Value) (base : Heap) (k : Nat) (x : Str) (ps : List Str) (sp : Sp) : Prop where
  ex : ∃ f fd, FnOk P w K mg base CX0 k f fd ps sp ∧ mg x = some (.ref f) ∧ PySem.W.keepIn K (.ref f) = true ∧ Binds K fd ps []
theorem fo_of {P : Program} {w : World} {K : PySem.W.Frag} {mg : Str → Option Value} {base : Heap} {k : Nat} {x : Str} {st : Stmt} {ps : List Str} {sp : Sp} (D : Df K mg x st ps) (h : ∀ f fd, Fun K x x st f fd → FnOk P w K mg base CX0 k f fd ps sp) : Fo P w K mg base k x ps sp := by
  obtain ⟨f, fd, F, b, g⟩ := D.ex
  exact ⟨f, fd, h f fd F, g, F.kp, b⟩
/-! ### step by step -/
section
variable {X : Cx} {a b c e : Expr} {es : List Expr} {pos : Pos} {σ : L2.St} {H : Hp} {Q : VK} {D : Ends} {st : Stmt} {rest : List Stmt} {v : V}
theorem go_cons (h : bS X st { D with nx := bSs X rest D } σ H) : bSs X (st :: rest) D σ H := bSs_of (pss_cons ps_b pss_b) h
theorem go_one (h : bS X st D σ H) : bSs X [st] D σ H := bSs_of (pss_one ps_b) h
theorem go_nil (h : D.nx σ H) : bSs X [] D σ H := bSs_of pss_nil h
theorem go_ret (h : bE X e σ H D.rt) : bS X (.Return (some e) pos) D σ H := bS_of (ps_ret pe_b) h
theorem go_if {p q : List Stmt} (h : bT X c σ H fun b H1 => if b = true then bSs X p D σ H1 else bSs X q D σ H1) : bS X (.If c p q pos) D σ H := bS_of (ps_if pt_b pss_b pss_b) h
theorem go_ife (h : bT X c σ H fun k H1 => if k = true then bE X a σ H1 Q else bE X b σ H1 Q) : bE X (.IfExp c a b pos) σ H Q := bE_of (pe_ifExp pt_b pe_b pe_b) h
theorem go_set {i : Nat} {x : Str} {pos' : Pos} (h : bE X e σ H fun v H1 => D.nx (σ.set i (some v)) H1) (hN : X.N.Nodup) (hi : X.N[i]? = some x := by rfl) (hx : Loc X.env.scope x := by first | exact Or.inl rfl | exact Or.inr rfl) (hs : swapsWith e (some (.Name x pos')) pos.line X.env = pure false := by rfl)
    (hf : X.fn x = true ∨ X.env.scope.names.lookup x = some .local := by first | exact .inl rfl | exact .inr rfl) : bS X (.Assign [.Name x pos'] e pos) D σ H := bS_of (ps_set hN hi hx pe_b hs hf) h
theorem go_call {k kk : Nat} {fx : Str} {fp : Pos} {ps : List Str} {sp : Sp} {E : XK} (C : Fo X.prog X.w X.K X.mg X.base k fx ps sp) (hr : Room kk X.A) (h : bA X (a :: es) σ H fun vs H1 => sp vs H1 Q E) (hk : k ≤ kk := by decide)
    (hg : Gl X fx := by rfl) (hdb : (fx == ("__debug__" : Str)) = false := by decide) (hs : starEach (a :: es) X.env = (false, eval a X.env) :: starEach es X.env := by rfl) (hpl : (backTo pos (starEach es X.env)).any (·.1) = false := by rfl) :
    bE X (.Call (.Name fx fp) (a :: es) [] pos) σ H Q := by
  obtain ⟨f, fd, F, hm, hkp, hb⟩ := C.ex
  refine bE_of (pe_call (E := E) F (hr.mono hk) hg hm hkp hb .nil pass0 pa_b hdb hs hpl) ?_
  show bA X (a :: es) σ H fun vs H1 => sp (vs ++ []) H1 Q E
  simp only [List.append_nil]
  exact h
theorem go_a0 {R : List V → Hp → Prop} (h : R [] H) : bA X [] σ H R := bA_of pa_nil h
theorem go_a {R : List V → Hp → Prop} (h : bE X e σ H fun v H1 => bA X es σ H1 fun vs H2 => R (v :: vs) H2) (hs : starEach (e :: es) X.env = (false, eval e X.env) :: starEach es X.env := by rfl) : bA X (e :: es) σ H R := bA_of (pa_cons pe_b pa_b hs) h
theorem go_var (i : Nat) {x : Str} (h : Q v H) (hσ : σ[i]? = some (some v) := by rfl) (hN : X.N[i]? = some x := by rfl) (hv : Vis X.env.scope x := by first | exact Or.inl rfl | exact Or.inr (Or.inl rfl) | exact Or.inr (Or.inr rfl))
    (h1 : (x == ("__debug__" : Str)) = false := by decide) (h2 : (x == ("__classdict__" : Str)) = false := by decide) : bE X (.Name x pos) σ H Q := bE_of (pe_var hN hv h1 h2) ⟨v, hσ, h⟩
theorem go_int {i : Int} {j : Nat} (h : Q (.int i) H) : bE X (.Constant (.int i) j pos) σ H Q := bE_of pe_int h
/-- without a heap's change: a value -/
def PV (X : Cx) (σ : L2.St) (H : Hp) (e : Expr) (v : V) : Prop := ∀ Q : VK, Q v H → bE X e σ H Q
theorem pv_go (h : PV X σ H e v) (q : Q v H) : bE X e σ H Q := h Q q
theorem pv_var (i : Nat) {x : Str} (hσ : σ[i]? = some (some v) := by rfl) (hN : X.N[i]? = some x := by rfl) (hv : Vis X.env.scope x := by first | exact Or.inl rfl | exact Or.inr (Or.inl rfl) | exact Or.inr (Or.inr rfl))
    (h1 : (x == ("__debug__" : Str)) = false := by decide) (h2 : (x == ("__classdict__" : Str)) = false := by decide) : PV X σ H (.Name x pos) v := fun Q q => go_var i q hσ hN hv h1 h2
theorem pv_int {i : Int} {j : Nat} : PV X σ H (.Constant (.int i) j pos) (.int i) := fun Q q => go_int q
theorem pv_op {r : R2} {e : Expr} {x y : V} (hp : PE X e (tOp r (bE X a) (bE X b))) (ha : PV X σ H a x) (hb : PV X σ H b y) (hr : ∀ Q : VK, Q v H → r x y H Q) : PV X σ H e v := fun Q q => bE_of hp (ha _ (hb _ (hr Q q)))
variable {i j : Int}
theorem pv_add (ha : PV X σ H a (.int i)) (hb : PV X σ H b (.int j)) : PV X σ H (.BinOp a .Add b pos) (.int (i + j)) := pv_op (pe_op op_add pe_b pe_b) ha hb fun Q q => ⟨i, j, rfl, rfl, q⟩
theorem pv_mul (ha : PV X σ H a (.int i)) (hb : PV X σ H b (.int j)) (hc : CMul i j) : PV X σ H (.BinOp a .Mult b pos) (.int (i * j)) := pv_op (pe_op op_mul pe_b pe_b) ha hb fun Q q => ⟨i, j, rfl, rfl, hc, q⟩
theorem pv_mod (ha : PV X σ H a (.int i)) (hb : PV X σ H b (.int j)) (hc : 0 < j) : PV X σ H (.BinOp a .Mod b pos) (.int (i % j)) := pv_op (pe_op op_mod pe_b pe_b) ha hb fun Q q => ⟨i, j, rfl, rfl, hc, q⟩
theorem pv_div (ha : PV X σ H a (.int i)) (hb : PV X σ H b (.int j)) (hc : CDivW i j) : PV X σ H (.BinOp a .FloorDiv b pos) (.int (i / j)) := pv_op (pe_op op_fdivW pe_b pe_b) ha hb fun Q q => ⟨i, j, rfl, rfl, hc, q⟩
theorem pv_ix {p : Addr} {xs : List V} {k : Nat} (ha : PV X σ H a (.ref p)) (hb : PV X σ H b (.int (k : Int))) (hp : H p = some (.lst xs)) (hx : xs[k]? = some v) (hs : PlainIx b := by exact fun _ _ => rfl) : PV X σ H (.Subscript a b pos) v :=
  pv_op (pe_ix ix_list pe_b pe_b hs) ha hb fun Q q => ⟨p, xs, (k : Int), v, rfl, rfl, SqL.of hp, atI_nat hx, q⟩
theorem pv_toint {fp : Pos} (ha : PV X σ H a (.int i)) (hm : X.mg "int" = none) (hg : Gl X "int" := by rfl) (hs : starEach [a] X.env = (false, eval a X.env) :: starEach [] X.env := by rfl) (hpl : (backTo pos (starEach [] X.env)).any (·.1) = false := by rfl) : PV X σ H (.Call (.Name "int" fp) [a] [] pos) (.int i) := fun Q q =>
  bE_of (pe_callTy call_int1 hg hm PyProof.Rows.boot_int pa_b (by decide) (by decide) hs hpl) (go_a (ha _ (go_a0 (.inl ⟨i, rfl, q⟩))) hs)
theorem pv_len {fp : Pos} {p : Addr} {xs : List V} (ha : PV X σ H a (.ref p)) (hp : H p = some (.lst xs)) (hm : X.mg "len" = none) (hg : Gl X "len" := by rfl) (hs : starEach [a] X.env = (false, eval a X.env) :: starEach [] X.env := by rfl) (hpl : (backTo pos (starEach [] X.env)).any (·.1) = false := by rfl) : PV X σ H (.Call (.Name "len" fp) [a] [] pos) (.int xs.length) := fun Q q =>
  bE_of (pe_callB call_len_seq hg hm PySem.boot_len pa_b (by decide) (by decide) hs hpl) (go_a (ha _ (go_a0 ⟨p, xs, rfl, .inl (SqL.of hp), q⟩)) hs)
theorem go_gt {R : Bool → Hp → Prop} (ha : PV X σ H a (.int i)) (hb : PV X σ H b (.int j)) (h : R (decide (j < i)) H) : bT X (.Compare a [.Gt] [b] pos) σ H R := bT_of (pt_cmpR op_gt pe_b pe_b (nomark _)) (ha _ (hb _ ⟨i, j, rfl, rfl, _, rfl, h⟩))
/-- xs[k] = e, in a list at p -/
theorem go_seti {p : Addr} {xs : List V} {k : Nat} {p2 : Pos} (he : PV X σ H e v) (ho : PV X σ H a (.ref p)) (hk : PV X σ H b (.int (k : Int))) (hp : H p = some (.lst xs)) (hl : k < xs.length) (h : D.nx σ (upd H p (.lst (xs.set k v))))
    (hg : PG X (.Subscript a b p2) (gSub (bE X a) (bE X b) rSetL))
    (hs : swapsWithSole [.Subscript a b p2] e pos.line X.env = pure false := by rfl) (hw : swappedStores [.Subscript a b p2] e X.env = pure none := by rfl)
    (h3 : (assignEach [.Subscript a b p2] X.env).map (·.2) = [assign (.Subscript a b p2) X.env] := by rfl) : bS X (.Assign [.Subscript a b p2] e pos) D σ H :=
  bS_of (ps_asg pe_b hg hs hw h3) (he _ (ho _ (hk _ ⟨p, xs, (k : Int), k, rfl, rfl, hp, Evl.ixN_nat hl, h⟩)))
end
section
variable {P : Program} {w : World} {K : PySem.W.Frag} {mg : Str → Option Value} {base : Heap}
theorem StAt.upd {p : Addr} {H : Hp} {a b c : Int} (h1 : 0 ≤ a) (h2 : 0 ≤ b) (h3 : b < 4294967296) : StAt p (upd H p (.lst [.int a, .int b, .int c])) := ⟨a, b, c, upd_same, h1, h2, h3⟩
def spTk : Sp := fun vs H Q _ => ∃ (p : Addr) (n : Nat), vs = [.ref p, .int (n : Int)] ∧ StAt p H ∧ 1 ≤ n ∧ n ≤ 1000 ∧ ∀ (d : Nat) (H' : Hp), d < n → Keep p H H' → StAt p H' → Q (.int (d : Int)) H'
abbrev s__law_take : Stmt := topS 72
abbrev N__law_take : List Str := ["_law_store_here", "_law_top", "_law_digit", "_law_by"]
theorem sc__law_take : FnScope N__law_take ["_law_store_here", "_law_top"] (defScope s__law_take) := ⟨rfl, rfl, rfl, by decide +kernel, rfl, by decide +kernel, by decide +kernel⟩
theorem ok__law_take (T : Facts K mg) (D : Df K mg "_law_take" s__law_take ["_law_store_here", "_law_top"]) : Fo P w K mg base 1 "_law_take" ["_law_store_here", "_law_top"] spTk := by
  refine fo_of D fun f fd F => F.ok sc__law_take (fun vs H Q E h => ?_) (fun cdv A outer s H vs Q E hr h => ?_)
  · obtain ⟨p, n, rfl, _⟩ := h
    rfl
  obtain ⟨p, n, rfl, st, n1, n2, hq⟩ := h
  obtain ⟨a, b, c, hp, a0, b0, b1⟩ := st.ex
  refine ⟨bSs _ _, pss_b, ?_⟩
  show bSs _ _ _ [some (.ref p), some (.int (n : Int)), none, none] H
  refine go_cons (go_if (go_gt (pv_ix (k := 0) (pv_var 0) pv_int hp rfl) pv_int ?_))
  by_cases ha : 0 < a
  · rw [decide_eq_true ha, if_pos rfl]
    have e : (a % (n : Int)) = ((a % (n : Int)).toNat : Int) := (Int.toNat_of_nonneg (Int.emod_nonneg _ (by omega))).symm
    refine go_cons (bS_of (ps_asg pe_b (pg_tup rfl (pgs_cons (pg_sub pe_b pe_b set_list) (pgs_cons (pg_name (i := 2) sc__law_take.nd rfl (Or.inl rfl)) pgs_nil)))) ?_)
    refine bE_of (pe_callB call_divmod rfl T.divmod (by decide +kernel) pa_b) (go_a (pv_go (pv_ix (k := 0) (pv_var 0) pv_int hp rfl) (go_a (pv_go (pv_var 1) (go_a0 ?_)))))
    refine ⟨a, (n : Int), rfl, ⟨by omega, by omega⟩, fun t ht => ?_⟩
    have np : p ≠ t := fun z => by rw [z, ht] at hp; cases hp
    have hp2 : upd H t (.tup [.int (a / (n : Int)), .int (a % (n : Int))]) p = some (.lst [.int a, .int b, .int c]) := by rw [upd_ne np]; exact hp
    refine ⟨t, _, rfl, SqT.of upd_same, rfl, .int (a / (n : Int)), [.int (a % (n : Int))], rfl, pv_go (pv_var 0) (pv_go pv_int ⟨p, _, (0 : Int), 0, rfl, rfl, hp2, Evl.ixN_nat (n := 3) (by decide), ?_⟩)⟩
    refine ⟨.int (a % (n : Int)), [], rfl, rfl, go_one (go_ret (go_var 2 ?_))⟩
    rw [e]
    refine hq _ _ ?_ (fun x o nx hx => ?_) (StAt.upd (Int.ediv_nonneg a0 (by omega)) b0 b1)
    · have := Int.emod_lt_of_pos a (show (0 : Int) < n by omega)
      omega
    · rw [upd_ne nx, upd_ne (fun z => by rw [z, ht] at hx; cases hx)]
      exact hx
  · rw [decide_eq_false ha, if_neg Bool.false_ne_true]
    refine go_nil (go_cons (go_seti (k := 2) (pv_add (pv_ix (k := 2) (pv_var 0) pv_int hp rfl) pv_int) (pv_var 0) pv_int hp (Nat.le_of_ble_eq_true rfl) ?_ (pg_sub pe_b pe_b set_list)))
    refine go_cons (go_set (i := 3) (pv_go (pv_add pv_int (pv_mul pv_int (pv_toint (pv_ix (k := 2) (pv_var 0) pv_int upd_same rfl) T.int) (.inl ⟨by decide, by decide⟩))) ?_) sc__law_take.nd)
    refine go_cons (go_seti (k := 1) (v := .int ((b * (20011 + 8 * (c + 1)) + 70001 * (c + 1) + 3) % 2147483497)) (pv_mod (pv_toint (pv_add (pv_add (pv_mul (pv_ix (k := 1) (pv_var 0) pv_int upd_same rfl) (pv_var 3) (.inl ⟨by omega, by omega⟩)) (pv_mul pv_int (pv_ix (k := 2) (pv_var 0) pv_int upd_same rfl) (.inl ⟨by decide, by decide⟩))) pv_int) T.int) pv_int (by decide)) (pv_var 0) pv_int upd_same (Nat.le_of_ble_eq_true rfl) ?_ (pg_sub pe_b pe_b set_list))
    refine go_one (go_ret (pv_go (pv_mod (pv_toint (pv_div (pv_ix (k := 1) (pv_var 0) pv_int upd_same rfl) pv_int (wide_div (b := 6) (by decide) (by decide) (by decide) (by decide))) T.int) (pv_var 1) (by omega)) ?_))
    have z0 : 0 ≤ (b * (20011 + 8 * (c + 1)) + 70001 * (c + 1) + 3) % 2147483497 := Int.emod_nonneg _ (by decide)
    have z1 : (b * (20011 + 8 * (c + 1)) + 70001 * (c + 1) + 3) % 2147483497 < 2147483497 := Int.emod_lt_of_pos _ (by decide)
    generalize (b * (20011 + 8 * (c + 1)) + 70001 * (c + 1) + 3) % 2147483497 = z at *
    have e : (z / 59 % (n : Int)) = ((z / 59 % (n : Int)).toNat : Int) := (Int.toNat_of_nonneg (Int.emod_nonneg _ (by omega))).symm
    rw [e]
    refine hq _ _ ?_ (fun x o nx hx => ?_) (StAt.upd a0 z0 (by omega))
    · have := Int.emod_lt_of_pos (z / 59) (show (0 : Int) < n by omega)
      omega
    · rw [upd_ne nx, upd_ne nx]
      exact hx
/-- some of a list's items -/
def spPick : Sp := fun vs H Q _ => ∃ (p a : Addr) (xs : List V), vs = [.ref p, .ref a] ∧ a ≠ p ∧ StAt p H ∧ H a = some (.lst xs) ∧ 1 ≤ xs.length ∧ xs.length ≤ 9 ∧ ∀ (k : Nat) (v : V) (H' : Hp), xs[k]? = some v → Keep p H H' → StAt p H' → Q v H'
abbrev s__law_pick : Stmt := topS 73
abbrev N__law_pick : List Str := ["_law_store_here", "_law_some"]
theorem sc__law_pick : FnScope N__law_pick ["_law_store_here", "_law_some"] (defScope s__law_pick) := ⟨rfl, rfl, rfl, by decide +kernel, rfl, by decide +kernel, by decide +kernel⟩
theorem ok__law_pick (T : Facts K mg) (D : Df K mg "_law_pick" s__law_pick ["_law_store_here", "_law_some"]) (c_take : Fo P w K mg base 1 "_law_take" ["_law_store_here", "_law_top"] spTk) : Fo P w K mg base 2 "_law_pick" ["_law_store_here", "_law_some"] spPick := by
  refine fo_of D fun f fd F => F.ok sc__law_pick (fun vs H Q E h => ?_) (fun cdv A outer s H vs Q E hr h => ?_)
  · obtain ⟨p, a, xs, rfl, _⟩ := h
    rfl
  obtain ⟨p, a, xs, rfl, ne, st, ha, l1, l9, hq⟩ := h
  refine ⟨bSs _ _, pss_b, ?_⟩
  show bSs _ _ _ [some (.ref p), some (.ref a)] H
  refine go_one (go_ret (bE_of (pe_ix ix_list pe_b pe_b (fun _ _ => rfl)) (go_var 1 (go_call (E := E) c_take hr (go_a (go_var 0 (go_a (pv_go (pv_len (pv_var 1) ha T.len) (go_a0 ?_))))))))) 
  refine ⟨p, xs.length, rfl, st, l1, by omega, fun d H' hd k s' => ?_⟩
  have e : xs[d]? = some xs[d] := List.getElem?_eq_getElem hd
  exact ⟨a, xs, (d : Int), xs[d], rfl, rfl, SqL.of (k a _ ne ha), atI_nat e, hq d _ H' e k s'⟩
theorem lf_mem : ∀ {ds : List PyData} {d : PyData}, lfAll ds = true → d ∈ ds → lf d = true
  | [], _, _, h => by cases h
  | y :: ys, d, h0, h => by
    have q : lf y = true ∧ lfAll ys = true := by simpa only [lfAll, Bool.and_eq_true] using h0
    rcases List.mem_cons.mp h with rfl | h
    · exact q.1
    · exact lf_mem q.2 h
/-- a fraction of the drawn -/
def spMild (K : PySem.W.Frag) : Sp := fun vs H Q _ => ∃ p : Addr, vs = [.ref p] ∧ StAt p H ∧ ∀ (v : V) (H' : Hp) (u : Q2), u ∈ M.drawn → Rp K H' v (qd u) → Keep p H H' → StAt p H' → Q v H'
/-- what is drawn: an expression that turns the store at p, whose value keeps S -/
def DR (X : Cx) (σ : L2.St) (p : Addr) (e : Expr) (S : V → Hp → Prop) : Prop := ∀ H, StAt p H → ∀ Q : VK, (∀ v H', Keep p H H' → StAt p H' → S v H' → Q v H') → bE X e σ H Q
section
variable {X : Cx} {σ : L2.St} {p : Addr} {a b e : Expr} {es : List Expr} {pos : Pos} {S : V → Hp → Prop}
theorem dr_one {j i0 : Nat} {pc : Pos} (h : DR X σ p e fun v _ => ∃ d : Nat, d < j ∧ v = .int (d : Int)) : DR X σ p (.BinOp (.Constant (.int 1) i0 pc) .Add e pos) fun v _ => ∃ d : Nat, 1 ≤ d ∧ d ≤ j ∧ v = .int (d : Int) := fun H st Q q =>
  bE_of (pe_op op_add pe_int pe_b) (h H st _ fun v H' k s' hv => by
    obtain ⟨d, hd, rfl⟩ := hv
    exact ⟨1, (d : Int), rfl, rfl, q _ H' k s' ⟨d + 1, by omega, by omega, congrArg V.int (by omega : (1 : Int) + (d : Int) = ((d + 1 : Nat) : Int))⟩⟩)
theorem dr_go {H : Hp} {Q : VK} (h : DR X σ p e S) (st : StAt p H) (q : ∀ v H', Keep p H H' → StAt p H' → S v H' → Q v H') : bE X e σ H Q := h H st Q q
theorem dr_imp {S' : V → Hp → Prop} (h : DR X σ p e S) (k : ∀ v H', S v H' → S' v H') : DR X σ p e S' := fun H st Q q => h H st Q fun v H' a b c => q v H' a b (k v H' c)
theorem dr_two {n j : Nat} {pc : Pos} (hn : 1 ≤ n) : DR X σ p (.Constant (.int (n : Int)) j pc) fun v _ => ∃ d : Nat, 1 ≤ d ∧ d ≤ n ∧ v = .int (d : Int) := fun H st Q q => go_int (q _ H (Keep.refl p H) st ⟨n, hn, Nat.le_refl n, rfl⟩)
theorem dr_if {n i0 : Nat} {pc pq : Pos} (h : DR X σ p e fun v _ => ∃ d : Nat, d < n ∧ v = .int (d : Int)) (ha : DR X σ p a S) (hb : DR X σ p b S) : DR X σ p (.IfExp (.Compare e [.Eq] [.Constant (.int 0) i0 pc] pq) a b pos) S := fun H st Q q =>
  go_ife (bT_of (pt_cmpR op_eq pe_b pe_b (nomark _)) (h H st _ fun x H1 k1 s1 hx => go_int (by
    obtain ⟨d, hd, rfl⟩ := hx
    refine ⟨rfl, _, rfl, ?_⟩
    show if decide (V.int (d : Int) = V.int 0) = true then bE X a σ H1 Q else bE X b σ H1 Q
    split
    · exact ha H1 s1 Q fun v H' k2 => q v H' (k1.trans k2)
    · exact hb H1 s1 Q fun v H' k2 => q v H' (k1.trans k2))))
theorem dr_take {kk n : Nat} {x : Str} {pn fp : Pos} (c_take : Fo X.prog X.w X.K X.mg X.base 1 "_law_take" ["_law_store_here", "_law_top"] spTk) (hr : Room kk X.A) (hk : 1 ≤ kk) (h : DR X σ p e fun v _ => ∃ d : Nat, 1 ≤ d ∧ d ≤ n ∧ v = .int (d : Int)) (hn : n ≤ 1000)
    (h0 : σ[0]? = some (some (.ref p))) (hN : X.N[0]? = some x := by rfl) (hv : Vis X.env.scope x := by first | exact Or.inl rfl | exact Or.inr (Or.inl rfl) | exact Or.inr (Or.inr rfl)) (h1 : (x == ("__debug__" : Str)) = false := by decide) (h2 : (x == ("__classdict__" : Str)) = false := by decide)
    (hg : Gl X "_law_take" := by rfl) (hs : starEach [.Name x pn, e] X.env = (false, eval (.Name x pn) X.env) :: starEach [e] X.env := by rfl) (hs1 : starEach [e] X.env = (false, eval e X.env) :: starEach [] X.env := by rfl) (hpl : (backTo pos (starEach [e] X.env)).any (·.1) = false := by rfl) :
    DR X σ p (.Call (.Name "_law_take" fp) [.Name x pn, e] [] pos) fun v _ => ∃ d : Nat, d < n ∧ v = .int (d : Int) := fun H st Q q =>
  go_call (E := fun _ _ _ => True) c_take hr (go_a (go_var 0 (go_a (h H st _ fun v H' k s' hv => go_a0 (by
    obtain ⟨d, d1, d2, rfl⟩ := hv
    exact ⟨p, d, rfl, s', d1, by omega, fun c H2 hc k2 s2 => q _ H2 (k.trans k2) s2 ⟨c, by omega, rfl⟩⟩)) hs1) h0 hN hv h1 h2) hs) hk hg (by decide) hs hpl
theorem dr_pick {kk : Nat} {x : Str} {pn fp : Pos} {ds : List PyData} (c_pick : Fo X.prog X.w X.K X.mg X.base 2 "_law_pick" ["_law_store_here", "_law_some"] spPick) (hr : Room kk X.A) (hk : 2 ≤ kk) (hl : 1 ≤ ds.length ∧ ds.length ≤ 9) (hf : lfAll ds = true)
    (h : ∀ H, StAt p H → ∀ Q : VK, (∀ a xs H2, H a = none → Ex H H2 → H2 a = some (.lst xs) → RpAll X.K H2 xs ds → Q (.ref a) H2) → bE X e σ H Q)
    (h0 : σ[0]? = some (some (.ref p))) (hN : X.N[0]? = some x := by rfl) (hv : Vis X.env.scope x := by first | exact Or.inl rfl | exact Or.inr (Or.inl rfl) | exact Or.inr (Or.inr rfl)) (h1 : (x == ("__debug__" : Str)) = false := by decide) (h2 : (x == ("__classdict__" : Str)) = false := by decide)
    (hg : Gl X "_law_pick" := by rfl) (hs : starEach [.Name x pn, e] X.env = (false, eval (.Name x pn) X.env) :: starEach [e] X.env := by rfl) (hs1 : starEach [e] X.env = (false, eval e X.env) :: starEach [] X.env := by rfl) (hpl : (backTo pos (starEach [e] X.env)).any (·.1) = false := by rfl) :
    DR X σ p (.Call (.Name "_law_pick" fp) [.Name x pn, e] [] pos) fun v H' => ∃ d, d ∈ ds ∧ Rp X.K H' v d := fun H st Q q =>
  go_call (E := fun _ _ _ => True) c_pick hr (go_a (go_var 0 (go_a (h H st _ fun a xs H2 ha e2 hx rx => go_a0 (by
    have na : a ≠ p := fun z => by
      obtain ⟨_, _, _, hp, _⟩ := st.ex
      rw [z, hp] at ha
      cases ha
    refine ⟨p, a, xs, rfl, na, st.mono e2, hx, by rw [rx.length]; exact hl.1, by rw [rx.length]; exact hl.2, fun k v H' hv kp s' => ?_⟩
    obtain ⟨d, hd, rv⟩ := rx.get' k v hv
    have hd2 : d ∈ ds := List.mem_of_getElem? hd
    exact q v H' ((Keep.of e2).trans kp) s' ⟨d, hd2, kp.rp (st.mono e2) (lf_mem hf hd2) rv⟩)) hs1) h0 hN hv h1 h2) hs) hk hg (by decide) hs hpl
end
abbrev s__law_mild : Stmt := topS 77
abbrev N__law_mild : List Str := ["_law_store_here"]
theorem sc__law_mild : FnScope N__law_mild ["_law_store_here"] (defScope s__law_mild) := ⟨rfl, rfl, rfl, by decide +kernel, rfl, by decide +kernel, by decide +kernel⟩
theorem ok__law_mild (T : Facts K mg) (D : Df K mg "_law_mild" s__law_mild ["_law_store_here"]) (c_take : Fo P w K mg base 1 "_law_take" ["_law_store_here", "_law_top"] spTk) (c_pick : Fo P w K mg base 2 "_law_pick" ["_law_store_here", "_law_some"] spPick) (c__law_ratio : Cal P w K mg base 2 "_law_ratio" 2 dom__law_ratio) : Fo P w K mg base 3 "_law_mild" ["_law_store_here"] (spMild K) := by
  refine fo_of D fun f fd F => F.ok sc__law_mild (fun vs H Q E h => ?_) (fun cdv A outer s H vs Q E hr h => ?_)
  · obtain ⟨p, rfl, _⟩ := h
    rfl
  obtain ⟨p, rfl, st, hq⟩ := h
  refine ⟨bSs _ _, pss_b, ?_⟩
  show bSs _ _ _ [some (.ref p)] H
  have S0 : ∀ H1, St0 K H1 H1 [some (.ref p)] [none] := fun H1 => ⟨Ex.refl H1, rfl, fun i s h => by
    match i, h with
    | 0, h => cases h
    | i + 1, h => cases h⟩
  obtain ⟨fr, fdr, psr, FR, mr, kr, br⟩ := c__law_ratio.ex
  have c_ratio : Fo P w K mg base 2 "_law_ratio" psr (spD K 2 dom__law_ratio) := ⟨fr, fdr, FR, mr, kr, br⟩
  refine go_one (go_ret (go_call (E := E) c_ratio hr (go_a (dr_one (dr_take (n := 9) c_take hr (by decide) (fun H1 s1 Q1 q1 => (dr_pick (ds := [.int 1, .int 2, .int 4, .int 9]) c_pick hr (by decide) (by decide) rfl (fun H2 s2 Q2 q2 => bE_of (pe_lst pa_b) (rl_lst (ad_cons ed_int (ad_cons ed_int (ad_cons ed_int (ad_cons ed_int ad_nil)))) (Nat.le_of_ble_eq_true rfl) H2 H2 _ (S0 H2) Q2 q2)) rfl) H1 s1 Q1 fun v H' k s' hv => q1 v H' k s' ?_) (by decide) rfl) H st _ fun x H1 k1 s1 hx => go_a (dr_one (dr_take (n := 4) c_take hr (by decide) (fun H1 s1 Q1 q1 => (dr_pick (ds := [.int 1, .int 1, .int 2, .int 4]) c_pick hr (by decide) (by decide) rfl (fun H2 s2 Q2 q2 => bE_of (pe_lst pa_b) (rl_lst (ad_cons ed_int (ad_cons ed_int (ad_cons ed_int (ad_cons ed_int ad_nil)))) (Nat.le_of_ble_eq_true rfl) H2 H2 _ (S0 H2) Q2 q2)) rfl) H1 s1 Q1 fun v H' k s' hv => q1 v H' k s' ?_) (by decide) rfl) H1 s1 _ fun y H2 k2 s2 hy => go_a0 ?_)))))
  · obtain ⟨d, hd, rv⟩ := hv
    simp only [List.mem_cons, List.not_mem_nil, or_false] at hd
    rcases hd with rfl | rfl | rfl | rfl
    · exact ⟨1, by decide, by decide, rv.int_v⟩
    · exact ⟨2, by decide, by decide, rv.int_v⟩
    · exact ⟨4, by decide, by decide, rv.int_v⟩
    · exact ⟨9, by decide, by decide, rv.int_v⟩
  · obtain ⟨d, hd, rv⟩ := hv
    simp only [List.mem_cons, List.not_mem_nil, or_false] at hd
    rcases hd with rfl | rfl | rfl | rfl
    · exact ⟨1, by decide, by decide, rv.int_v⟩
    · exact ⟨1, by decide, by decide, rv.int_v⟩
    · exact ⟨2, by decide, by decide, rv.int_v⟩
    · exact ⟨4, by decide, by decide, rv.int_v⟩
  · obtain ⟨n, n1, n9, rfl⟩ := hx
    obtain ⟨m, m1, m4, rfl⟩ := hy
    refine ⟨[.int (n : Int), .int (m : Int)], _, .cons (.int _) (.cons (.int _) .nil), rfl, ⟨n, m, rfl, by omega, by omega, by omega, rfl⟩, fun v H' e' rv => ?_⟩
    exact hq v H' _ (M.low_drawn ⟨n1, n9⟩ ⟨m1, m4⟩) rv ((k1.trans k2).trans (Keep.of e')) (s2.mono e')
theorem dr_mild {X : Cx} {σ : L2.St} {p : Addr} {pos : Pos} {kk : Nat} {x : Str} {pn fp : Pos} (c_mild : Fo X.prog X.w X.K X.mg X.base 3 "_law_mild" ["_law_store_here"] (spMild X.K)) (hr : Room kk X.A) (hk : 3 ≤ kk)
    (h0 : σ[0]? = some (some (.ref p))) (hN : X.N[0]? = some x := by rfl) (hv : Vis X.env.scope x := by first | exact Or.inl rfl | exact Or.inr (Or.inl rfl) | exact Or.inr (Or.inr rfl)) (h1 : (x == ("__debug__" : Str)) = false := by decide) (h2 : (x == ("__classdict__" : Str)) = false := by decide)
    (hg : Gl X "_law_mild" := by rfl) (hs : starEach [.Name x pn] X.env = (false, eval (.Name x pn) X.env) :: starEach [] X.env := by rfl) (hpl : (backTo pos (starEach [] X.env)).any (·.1) = false := by rfl) :
    DR X σ p (.Call (.Name "_law_mild" fp) [.Name x pn] [] pos) fun v H' => ∃ u, u ∈ M.drawn ∧ Rp X.K H' v (qd u) := fun H st Q q =>
  go_call (E := fun _ _ _ => True) c_mild hr (go_a (go_var 0 (go_a0 ⟨p, rfl, st, fun v H' u hu rv k s' => q v H' k s' ⟨u, hu, rv⟩⟩) h0 hN hv h1 h2) hs) hk hg (by decide) hs hpl
/-- a row of weight and factor -/
def spRow (K : PySem.W.Frag) : Sp := fun vs H Q _ => ∃ p : Addr, vs = [.ref p] ∧ StAt p H ∧ ∀ (v : V) (H' : Hp) (u f : Q2), u ∈ M.drawn → f ∈ M.drawn → Rp K H' v (chd u f) → Keep p H H' → StAt p H' → Q v H'
abbrev s__law_row_drawn : Stmt := topS 78
abbrev N__law_row_drawn : List Str := ["_law_store_here", "_law_factor2"]
theorem sc__law_row_drawn : FnScope N__law_row_drawn ["_law_store_here"] (defScope s__law_row_drawn) := ⟨rfl, rfl, rfl, by decide +kernel, rfl, by decide +kernel, by decide +kernel⟩
theorem ok__law_row_drawn (T : Facts K mg) (D : Df K mg "_law_row_drawn" s__law_row_drawn ["_law_store_here"]) (c_take : Fo P w K mg base 1 "_law_take" ["_law_store_here", "_law_top"] spTk) (c_pick : Fo P w K mg base 2 "_law_pick" ["_law_store_here", "_law_some"] spPick) (c__law_ratio : Cal P w K mg base 2 "_law_ratio" 2 dom__law_ratio) (c_mild : Fo P w K mg base 3 "_law_mild" ["_law_store_here"] (spMild K)) : Fo P w K mg base 4 "_law_row_drawn" ["_law_store_here"] (spRow K) := by
  refine fo_of D fun f fd F => F.ok sc__law_row_drawn (fun vs H Q E h => ?_) (fun cdv A outer s H vs Q E hr h => ?_)
  · obtain ⟨p, rfl, _⟩ := h
    rfl
  obtain ⟨p, rfl, st, hq⟩ := h
  refine ⟨bSs _ _, pss_b, ?_⟩
  show bSs _ _ _ [some (.ref p), none] H
  have S0 : ∀ H1, St0 K H1 H1 [some (.ref p), none] [none, none] := fun H1 => ⟨Ex.refl H1, rfl, fun i s h => by
    match i, h with
    | 0, h => cases h
    | 1, h => cases h
    | i + 2, h => cases h⟩
  refine go_cons (go_set (i := 1) (dr_if (dr_take (n := 2) c_take hr (by decide) (dr_two (by decide)) (by decide) rfl) (S := fun v H' => ∃ g, g ∈ M.drawn ∧ Rp K H' v (qd g)) (dr_imp (dr_pick (ds := [qd (M.lowM (1 : Nat) (1 : Nat)), qd (M.lowM (2 : Nat) (1 : Nat)), qd (M.lowM (1 : Nat) (2 : Nat))]) c_pick hr (by decide) (by decide) rfl (fun H2 s2 Q2 q2 => bE_of (pe_lst pa_b) (rl_lst
    (ad_cons (ed_call c__law_ratio hr (ad_cons ed_int (ad_cons ed_int ad_nil)) ⟨1, 1, rfl, by decide, by decide, by decide, rfl⟩) (ad_cons (ed_call c__law_ratio hr (ad_cons ed_int (ad_cons ed_int ad_nil)) ⟨2, 1, rfl, by decide, by decide, by decide, rfl⟩) (ad_cons (ed_call c__law_ratio hr (ad_cons ed_int (ad_cons ed_int ad_nil)) ⟨1, 2, rfl, by decide, by decide, by decide, rfl⟩) ad_nil))) (Nat.le_of_ble_eq_true rfl) H2 H2 _ (S0 H2) Q2 q2)) rfl) fun v H' hv => ?_) (dr_mild c_mild hr (by decide) rfl) H st _ fun v H1 k1 s1 hv => ?_) sc__law_row_drawn.nd)
  · obtain ⟨d, hd, rv⟩ := hv
    simp only [List.mem_cons, List.not_mem_nil, or_false] at hd
    rcases hd with rfl | rfl | rfl
    · exact ⟨_, M.low_drawn (n := 1) (m := 1) (by decide) (by decide), rv⟩
    · exact ⟨_, M.low_drawn (n := 2) (m := 1) (by decide) (by decide), rv⟩
    · exact ⟨_, M.low_drawn (n := 1) (m := 2) (by decide) (by decide), rv⟩
  · obtain ⟨g, hg, rv⟩ := hv
    refine go_one (go_ret (bE_of (pe_tup pa_b) (go_a (dr_go (dr_mild c_mild hr (by decide) rfl) s1 fun x H2 k2 s2 hx => go_a (go_var 1 (go_a0 ⟨Nat.le_of_ble_eq_true rfl, fun t ht => ?_⟩))))))
    obtain ⟨u, hu, rx⟩ := hx
    exact hq _ _ u g hu hg (.tup (SqT.of upd_same) (.cons (rx.mono (Ex.new ht)) (.cons ((k2.rp s1 rfl rv).mono (Ex.new ht)) .nil))) ((k1.trans k2).trans (Keep.of (Ex.new ht))) (s2.mono (Ex.new ht))
end
end G
/-! G5 -/
/-! Own: promises that hold while no text of an object is being made (for repr), keyword calls. -/
namespace G
open PySem PySem.Spec PyProof.Rows L2
open M (Q2 Bd Amt gc)
open Evl (Ex Ex.refl Ex.trans Ex.new Ex.mut fresh_back ex_t ex_l)
abbrev Quiet (A : Around) : Prop := A.guards = some []
structure FnG (P : Program) (w : World) (K : PySem.W.Frag) (mg : Str → Option Value) (base : Heap) (k : Nat) (f : Addr) (fd : FuncData) (ps : List Str) (sp : Sp) : Prop where
  len : ∀ vs H Q E, sp vs H Q E → vs.length = ps.length
  go : ∀ (A : Around) (up : List Env) (s : Shared) (H : Hp) (args : Args) (us : List Value) (vs : List V) (Q : VK) (E : XK), Quiet A → Room k A → Env0 P w K mg base A up s H → BindsTo s fd args (ps.zip us) → Vals vs us → sp vs H Q E → codeAny (model P w) A (.call (.ref f) args) (CR CX0 up P w H s Q E) s
section
variable {P : Program} {w : World} {K : PySem.W.Frag} {mg : Str → Option Value} {base : Heap}
theorem fnG {x : Str} {st : Stmt} {f : Addr} {fd : FuncData} {N ps : List Str} {k : Nat} {sp : Sp} (F : Fun K x x st f fd) (S : FnScope N ps (defScope st)) (hlen : ∀ vs H Q E, sp vs H Q E → vs.length = ps.length)
    (body : ∀ (cdv : Value) (A : Around) (up : List Env) (s : Shared) (H : Hp) (vs : List V) (Q : VK) (E : XK), Quiet (cx P w K mg base N x st f cdv A up s H E).A → Room k (cx P w K mg base N x st f cdv A up s H E).A → sp vs H Q E →
      bSs (cx P w K mg base N x st f cdv A up s H E) (defBody st) { nx := fun _ H' => Q .non H', rt := Q } (L2.start N vs) H) : FnG P w K mg base (k + 1) f fd ps sp := by
  obtain ⟨oc, od, kV, doc, pm, an, cdv, ct, osl, rfl, lk, hcd⟩ := F.ex
  refine ⟨hlen, fun A up s H args us vs Q E quiet room e0 bind rv want => ?_⟩
  have inK : K.In s.heap := e0.mod.kin.keeps fun b o e => (e0.bs b o e).1
  have noLim : s.heap.NoLimit := e0.mod.nolimit.keeps fun b o e => (e0.bs b o e).1
  have kinds : ∀ y ∈ ps.zip us, (defScope st).names.lookup y.1 = some .local ∨ ((defScope st).names.lookup y.1 = some .cell ∧ ((cellsFrom (s.heap.objs.size + 1) (defScope st).names []).lookup y.1).isSome = true) := by
    rintro ⟨n, v⟩ hy
    rcases S.par n (List.of_mem_zip hy).1 with z | z
    · exact .inl z
    · exact .inr ⟨z, PySem.W.cellsFrom_some _ _ _ (.inl z)⟩
  refine codeAny_call_function room.depth (inK _ _ lk) rfl S.co S.gen rfl (PySem.W.codeRec_of inK hcd) (bind _ _ _ _ (wpAny_newFunctionEnv_cells S.kind kinds fun env he s1 x1 => ?_))
  subst he
  refine ⟨noLim.keeps x1.toInCall.keep, codeAny_func ?_⟩
  have I := inv_start (CX := CX0) (P := P) (w := w) (K := K) (mg := mg) (base := base) (E := E) S room.hd e0 (hlen _ _ _ _ want) rv x1
  have b := body cdv A up s H vs Q E quiet (room.deeper _) want
  refine wpAny_mono ((PSs.nox (pss_b (X := cx P w K mg base N x st f cdv A up s H E))).run [] s1 (L2.start N vs) H _ I b) (fun fl s2 done => ?_) fun e s2 done => done
  cases fl with
  | ret u =>
    obtain ⟨v, σ2, H2, J, rv2, q⟩ := done
    exact ⟨v, H2, J.os, J.bare, J.base, J.hok, rv2, q⟩
  | next =>
    obtain ⟨σ2, H2, J, q⟩ := done
    exact ⟨.non, H2, J.os, J.bare, J.base, J.hok, rfl, q⟩
  | brk => exact (let ⟨_, _, _, q⟩ := done; False.elim q)
  | cont => exact (let ⟨_, _, _, q⟩ := done; False.elim q)
end
structure FoG (P : Program) (w : World) (K : PySem.W.Frag) (mg : Str → Option Value) (base : Heap) (k : Nat) (x : Str) (ps : List Str) (sp : Sp) : Prop where
  ex : ∃ f fd, FnG P w K mg base k f fd ps sp ∧ mg x = some (.ref f) ∧ PySem.W.keepIn K (.ref f) = true ∧ Binds K fd ps []
section
variable {X : Cx} {δ : En} {a b c e : Expr} {es : List Expr} {pos : Pos} {σ : L2.St} {H : Hp} {Q : VK} {d : PyData}
theorem go_callG {k kk : Nat} {fx : Str} {fp : Pos} {ps : List Str} {sp : Sp} {E : XK} (C : FoG X.prog X.w X.K X.mg X.base k fx ps sp) (quiet : Quiet X.A) (hr : Room kk X.A) (h : bA X (a :: es) σ H fun vs H1 => sp vs H1 Q E) (hk : k ≤ kk := by decide)
    (hg : Gl X fx := by rfl) (hdb : (fx == ("__debug__" : Str)) = false := by decide) (hs : starEach (a :: es) X.env = (false, eval a X.env) :: starEach es X.env := by rfl) (hpl : (backTo pos (starEach es X.env)).any (·.1) = false := by rfl) :
    bE X (.Call (.Name fx fp) (a :: es) [] pos) σ H Q := fun pins s I => by
  obtain ⟨f, fd, F, hm, hkp, hb⟩ := C.ex
  refine wpAny_Call_Name_kw (ld_glob I hg hm ?_ hdb)
  refine PySem.W.callWith_K (h₀ := X.base) I.ok.mod.kin hkp (thn (h pos pins s I) fun us s1 got => ?_) hs hpl
  obtain ⟨vs, H1, I1, rv, want⟩ := got
  have l1 := F.len _ _ _ _ want
  have bt := hb s1 us I1.kIn (by rw [List.append_nil, ← rv.length]; exact l1)
  rw [List.append_nil] at bt
  refine ⟨I1.kIn, wpAny_call (codeAny_mono (F.go X.A X.stack s1 H1 ⟨us, []⟩ us vs Q E quiet (hr.mono hk) I1.env0 bt rv want) fun r s2 hq => ?_)⟩
  match r, hq with
  | .error _, hq => exact hq.elim
  | .ok (.ret u), hq => exact I1.after hq
  | .ok .next, hq => exact hq.elim
  | .ok .brk, hq => exact hq.elim
  | .ok .cont, hq => exact hq.elim
/-- f(k = e) -/
structure CalK (P : Program) (w : World) (K : PySem.W.Frag) (mg : Str → Option Value) (base : Heap) (k : Nat) (x ky : Str) (dom : List PyData → PyData → Prop) : Prop where
  ex : ∃ f fd, FnOk P w K mg base CX0 k f fd [ky] (spD K 1 dom) ∧ mg x = some (.ref f) ∧ PySem.W.keepIn K (.ref f) = true ∧ KBinds K fd [ky] [ky] (fun us ws => us ++ ws) (fun vs zs => vs ++ zs)
theorem ed_callKw {k kk : Nat} {fx ky : Str} {fp kp : Pos} {dom : List PyData → PyData → Prop} {da : PyData} (C : CalK X.prog X.w X.K X.mg X.base k fx ky dom) (hr : Room kk X.A) (ha : ED X δ a da) (hd : dom [da] d) (hk : k ≤ kk := by decide)
    (hg : Gl X fx := by rfl) (hdb : (fx == ("__debug__" : Str)) = false := by decide) (hall : (backToKw pos (keywordEach [⟨some ky, a, kp⟩] X.env)).all (·.1.isSome) = true := by rfl) (hks : (backToKw pos (keywordEach [⟨some ky, a, kp⟩] X.env)).filterMap (·.1) = [ky] := by rfl)
    (hpl : ((backTo pos (starEach [] X.env)).any (·.1) || (backToKw pos (keywordEach [⟨some ky, a, kp⟩] X.env)).any (·.1.isNone)) = false := by rfl) :
    ED X δ (.Call (.Name fx fp) [] [⟨some ky, a, kp⟩] pos) d := fun H0 H σ S Q q pins s I => by
  obtain ⟨f, fd, F, hm, hkp, hb⟩ := C.ex
  refine wpAny_Call_Name_kw (ld_glob I hg hm ?_ hdb)
  have val := (pk_cons (nm := some ky) (kpos := kp) (pe_b (X := X) (e := a)) pk_nil).run pos pins s σ H (fun zs H2 => Ex H H2 ∧ RpAll X.K H2 zs [da]) I (ha H0 H σ S _ fun v H1 e1 r1 => ⟨e1, .cons r1 .nil⟩)
  refine PySem.W.callWith_KW0 (h₀ := X.base) I.ok.mod.kin hkp hall (thn val fun ws s2 got => ?_) hpl
  obtain ⟨zs, H2, I2, rz, e2, r2⟩ := got
  refine ⟨I2.kIn, ?_⟩
  rw [hks]
  exact run_fnk (E := fun _ _ _ => True) F (hr.mono hk) hb pass0 I2 (us := []) (vs := []) .nil rz ⟨[da], d, r2, rfl, hd, fun v H3 e3 => q v H3 (e2.trans e3)⟩
/-! repr of a list of bools -/
theorem call_reprB (quiet : Quiet X.A) (hu : X.A.units + 66 < cLine) : CallR X (.builtin "repr") (fun xs H Q => ∃ (v : V) (bs : List Bool), xs = [v] ∧ Rp X.K H v (.list (bs.map .bool)) ∧ (PyData.list (bs.map .bool)).showable = true ∧ (PyData.list (bs.map .bool)).hasDict = false ∧ (PyData.list (bs.map .bool)).depth ≤ 60 ∧ (PyData.list (bs.map .bool)).canLay0 = true ∧ (PyData.list (bs.map .bool)).shown.length ≤ sizeLine ∧ Q (.str (PyData.list (bs.map .bool)).shown) H) := by
  intro pins s σ H xs us Q I rx hw
  obtain ⟨v, bs, rfl, rv, c1, c2, c3, c4, c5, q⟩ := hw
  obtain ⟨u, rfl, ru⟩ := rx.one
  obtain ⟨p, ys, rfl, _, _⟩ := rv.lst_v
  obtain ⟨as, rd⟩ := Dp.reads I _ _ _ (rv.dp _ _ c4) ru
  cases ru
  exact PySem.repr_of_reads' rd c1 (fun z => by rw [c2] at z; cases z) quiet (by omega) (fun _ _ z => z) (fun h' t tk keep => ⟨.str _, H, I.kept (t' := tk) keep, ⟨t, rfl⟩, q⟩) c5
theorem ed_repr {fp : Pos} {bs : List Bool} (quiet : Quiet X.A) {kk : Nat} (hr : Room kk X.A) (hm : X.mg "repr" = none) (h : AD X δ [a] [.list (bs.map .bool)]) (c : (PyData.list (bs.map .bool)).showable = true ∧ (PyData.list (bs.map .bool)).hasDict = false ∧ (PyData.list (bs.map .bool)).depth ≤ 60 ∧ (PyData.list (bs.map .bool)).canLay0 = true ∧ (PyData.list (bs.map .bool)).shown.length ≤ sizeLine)
    (hg : Gl X "repr" := by rfl) (hs : starEach [a] X.env = (false, eval a X.env) :: starEach [] X.env := by rfl) (hpl : (backTo pos (starEach [] X.env)).any (·.1) = false := by rfl) : ED X δ (.Call (.Name "repr" fp) [a] [] pos) (.str (PyData.list (bs.map .bool)).shown) :=
  ed_cb (pe_callB (call_reprB quiet (by have := hr.un; omega)) hg hm (by decide +kernel) pa_b (by decide) (by decide) hs hpl) h fun vs H d1 Q q => by
    obtain ⟨v, rfl, r⟩ := d1.one_v
    exact ⟨v, bs, rfl, r, c.1, c.2.1, c.2.2.1, c.2.2.2.1, c.2.2.2.2, q _ H (Ex.refl H) (.str _)⟩
theorem shown2 : ∀ x y : Bool, (PyData.list ([x, y].map .bool)).showable = true ∧ (PyData.list ([x, y].map .bool)).hasDict = false ∧ (PyData.list ([x, y].map .bool)).depth ≤ 60 ∧ (PyData.list ([x, y].map .bool)).canLay0 = true ∧ (PyData.list ([x, y].map .bool)).shown.length ≤ sizeLine := by
  intro x y
  cases x <;> cases y <;> exact ⟨by decide +kernel, by decide +kernel, by decide +kernel, by decide +kernel, by decide +kernel⟩
theorem shown3 : ∀ x y z : Bool, (PyData.list ([x, y, z].map .bool)).showable = true ∧ (PyData.list ([x, y, z].map .bool)).hasDict = false ∧ (PyData.list ([x, y, z].map .bool)).depth ≤ 60 ∧ (PyData.list ([x, y, z].map .bool)).canLay0 = true ∧ (PyData.list ([x, y, z].map .bool)).shown.length ≤ sizeLine := by
  intro x y z
  cases x <;> cases y <;> cases z <;> exact ⟨by decide +kernel, by decide +kernel, by decide +kernel, by decide +kernel, by decide +kernel⟩
end
/-! the law's own call -/
theorem lawG {P : Program} {w : World} {K : PySem.W.Frag} {mg mb : Str → Option Value} {k : Nat} {fa a : Addr} {fd : FuncData} {x : Str} {sp : Sp} {s₁ : Shared} {us : List Value} {ns : List Int} (inK : K.In s₁.heap) (top : s₁.heap.Ns mainGlobals mg) (hb : s₁.heap.Ns builtinsNs mb) (hbb : ∀ y : Str, y ≠ "__name__" → mb y = bootBuiltins y) (noLim : s₁.heap.NoLimit) (hgn : s₁.gens = #[])
    (obj : s₁.heap.get? a = some { cls := .type "list", data := .seq us.toArray }) (wh : IntsAre us ns) (hl : ns.length ≤ sizeLine) (room : Room k callerA) (F : ∀ base : Heap, K.In base → base.Ns mainGlobals mg → FnG P w K mg base k fa fd [x] sp) (bind : ∀ (s : Shared) (u : Value), BindsTo s fd ⟨[u], []⟩ [(x, u)])
    (want : ∀ H : Hp, Only H → SqL K H a (ns.map V.int) → sp [.ref a] H (fun v _ => v = .bl true) fun _ _ _ => False) : codeAny (model P w) callerA (.call (.ref fa) ⟨[.ref a], []⟩) (fun r s' => r = .ok (.ret (.bool true)) ∧ OldK s₁.heap s'.heap ∧ s'.os = s₁.os ∧ AllBare s'.gens) s₁ := by
  have rv := vals_ints wh
  have lenV := wh.length
  -- over any abstract heap that tracks at most the script
  have core : ∀ H : Hp, Only H → SqL K H a (ns.map V.int) → HOk P w H s₁.heap → (∀ b, H b ≠ none → b = a) → (H a ≠ none → K.lookup a = none) → codeAny (model P w) callerA (.call (.ref fa) ⟨[.ref a], []⟩) (fun r s' => r = .ok (.ret (.bool true)) ∧ OldK s₁.heap s'.heap ∧ s'.os = s₁.os ∧ AllBare s'.gens) s₁ := by
    intro H only sq hok atA notK
    have none_of : ∀ {b : Addr}, b ≠ a → H b = none := fun {b} hb => by
      rcases e : H b with _ | u
      · rfl
      · exact absurd (atA b (by rw [e]; intro z; cases z)) hb
    have dictFree : ∀ {b : Addr} {o : Obj} {es : Array DictEntry} {ep : Nat}, s₁.heap.get? b = some o → o.data = .dict es ep → H b = none := fun {b o es ep} e d => none_of fun z => by
      subst z
      rw [obj] at e
      cases e
      cases (show Data.seq us.toArray _ = Data.dict es ep from d)
    have names : ∀ {b : Addr} {m : Str → Option Value}, s₁.heap.Ns b m → (hidT s₁.heap H).Ns b m := fun {b m} ⟨o, es, ep, e, d, r⟩ => ⟨o, es, ep, hidT_get e (dictFree e d), d, r⟩
    have inB : K.In (hidT s₁.heap H) := fun b o e => hidT_get (inK b o e) (by
      rcases q : H b with _ | u
      · rfl
      · have z := atA b (by rw [q]; intro z; cases z)
        subst z
        rw [notK (by rw [q]; intro z; cases z)] at e
        cases e)
    have md : Mod K mg (hidT s₁.heap H) := ⟨inB, names top, ⟨mb, names hb, hbb⟩, let ⟨mc, z1, z2⟩ := noLim; ⟨mc, names z1, z2⟩⟩
    have e0 : Env0 P w K mg (hidT s₁.heap H) callerA [] s₁ H := ⟨rfl, md, fun b o e => of_hidT e, Nat.le_of_eq (hidT_size _ _), trivial, fun b z => absurd (show b ∈ ([] : List Addr) from z) List.not_mem_nil, hok, .of_eq hgn⟩
    refine codeAny_mono ((F _ inB (names top)).go callerA [] s₁ H ⟨[.ref a], []⟩ [.ref a] [.ref a] _ _ rfl room e0 (bind s₁ (.ref a)) (.cons rfl .nil) (want H only sq)) fun r s2 done => ?_
    match r, done with
    | .error e, done => exact done.elim
    | .ok .next, done => exact done.elim
    | .ok .brk, done => exact done.elim
    | .ok .cont, done => exact done.elim
    | .ok (.ret u), done =>
      obtain ⟨v, H2, os, bare, un, hok2, ru, q⟩ := done
      obtain rfl : v = .bl true := q
      obtain rfl : u = Value.bool true := ru
      refine ⟨rfl, OldK.of_keep fun b o e => ?_, os, bare⟩
      rcases q2 : H b with _ | u
      · exact un.keep b o e q2 (fun z => absurd (show b ∈ ([] : List Addr) from z) List.not_mem_nil) List.not_mem_nil
      · rcases only b with z | ⟨ob, xs, z⟩
        · rw [q2] at z
          cases z
        · obtain ⟨f1, _⟩ := hok b _ z
          obtain ⟨f2, _⟩ := hok2 b _ (un.frzs b ob _ z)
          rw [e] at f1
          cases f1
          exact f2
  rcases look : K.lookup a with _ | o
  · refine core (fun b => if b = a then some (.frz { cls := .type "list", data := .seq us.toArray } (.lst (ns.map V.int))) else none) (fun b => ?_) (.inl (.inr ⟨_, if_pos rfl⟩)) (fun b u z => ?_) (fun b z => ?_) fun _ => look
    · by_cases h : b = a
      · exact .inr ⟨_, _, if_pos h⟩
      · exact .inl (if_neg h)
    · by_cases h : b = a
      · subst h
        have y := (if_pos rfl).symm.trans z
        cases y
        exact ⟨obj, by rw [List.length_map]; exact hl, us, _, rv, obj⟩
      · have y := (if_neg h).symm.trans z
        cases y
    · by_cases h : b = a
      · exact h
      · exact absurd (if_neg h) z
  · have e := inK a o look
    rw [obj] at e
    cases e
    refine core (fun _ => none) (fun _ => .inl rfl) (.inr ⟨_, us.toArray, _, look, rfl, rfl, rfl, by rw [List.size_toArray, lenV]; exact hl, by simpa using rv⟩) (fun b u z => ?_) (fun b z => absurd rfl z) fun z => absurd rfl z
    cases (show (none : Option HO) = some u from z)
theorem walkG {l : PySem.W.OpenLaw} {n k : Nat} {q : Program} {loose : List Str} {XP : (Str → Option Value) → Heap → Prop} {YP : World → Heap → Prop} {d : DefRec} {K : Params → PySem.W.Frag} {sp : World → Sp} {x : Str} (hn : l.most = some n) (hn2 : n ≤ sizeLine) (hdf : d.params.defaults = []) (room : Room k callerA)
    (hY : ∀ (w : World) (h : Heap), YP w h → (K w.params).In h) (F : ∀ (w : World) (mg : Str → Option Value) (fa : Addr) (h : Heap), (K w.params).In h → h.Ns mainGlobals mg → mg d.name = some (.ref fa) → ∃ fd : FuncData, (∀ (s : Shared) (u : Value), BindsTo s fd ⟨[u], []⟩ [(x, u)]) ∧ ∀ base : Heap, (K w.params).In base → base.Ns mainGlobals mg → FnG l.prog w (K w.params) mg base k fa fd [x] (sp w))
    (want : ∀ (w : World) (H : Hp) (a : Addr) (ns : List Int), ns.length ≤ n → Only H → SqL (K w.params) H a (ns.map V.int) → sp w [.ref a] H (fun v _ => v = .bl true) fun _ _ _ => False) : PySem.W.WalkO q loose XP YP l.row.toRowW d [] (fun f vs => PySem.call f vs) := by
  refine Att.attach_call hn hdf fun w s₀ s₁ mg mb fa o pm cd doc a us ns gr Y ho hd hcd hmg obj wh hlen hgn => ?_
  have inK := hY w _ Y
  obtain ⟨fd, bind, fn⟩ := F w mg fa _ inK gr.T.g hmg
  exact lawG inK gr.T.g gr.T.b gr.T.builtins gr.T.nolimit hgn obj wh (Nat.le_trans hlen hn2) room fn bind fun H only sq => want w H a ns hlen only sq
end G
/-! K3 -/
namespace G
open PySem PySem.Spec PyProof.Rows L2
open M (Q2 Bd Amt gc)
open Evl (Ex Ex.refl Ex.trans Ex.new Ex.mut fresh_back ex_t ex_l)
/-! carriers of chains and rings -/
theorem vc_exp {u f : Q2} (hu : Amt u) (hf : Amt f) (bu : Bd 4 u) (bf : Bd 4 f) {p : Nat → Nat} {n : Nat} (h1 : 1 ≤ n) (h5 : n ≤ 5) (hp : ∀ s, s < 2 ^ n → p s ≤ 5) (p0 : p 0 = 0) : VC n (M.expM u f p n) := by
  refine ⟨M.expM_len u f p n, h1, h5, fun a ha => ?_, fun a ha => ?_, ?_⟩
  · obtain ⟨s, hs, rfl⟩ := List.mem_map.mp ha
    exact M.wtM_amt hu hf _ _
  · obtain ⟨s, hs, rfl⟩ := List.mem_map.mp ha
    have hs := List.mem_range.mp hs
    exact M.wtM_bd bu bf (M.bits_le s (Nat.lt_of_lt_of_le hs (len32 h5))) (hp s hs)
  · unfold M.expM
    rw [List.getElem?_map, List.getElem?_range (Nat.two_pow_pos n)]
    show some (M.wtM u f (M.bitsM 0) (p 0)) = _
    rw [p0, show M.bitsM 0 = 0 from rfl, M.wtM_zero]
theorem pairs0 : ∀ n, n ≤ 5 → M.pairsM 0 n = 0 ∧ M.circM 0 n = 0 := by decide +kernel
theorem vc_chain {u f : Q2} (hu : Amt u) (hf : Amt f) (bu : Bd 4 u) (bf : Bd 4 f) {n : Nat} (h1 : 1 ≤ n) (h5 : n ≤ 5) : VC n (M.chainM u f n) :=
  vc_exp (p := fun s => M.pairsM s n) hu hf bu bf h1 h5 (fun s _ => by have := M.pairs_le s n; omega) (pairs0 n h5).1
theorem vc_ring {u f : Q2} (hu : Amt u) (hf : Amt f) (bu : Bd 4 u) (bf : Bd 4 f) {n : Nat} (h1 : 3 ≤ n) (h5 : n ≤ 5) : VC n (M.ringM u f n) :=
  vc_exp (p := fun s => M.circM s n) hu hf bu bf (by omega) h5 (fun s _ => by have := M.circ_le s n; omega) (pairs0 n h5).2
/-! the way -/
theorem way_le (f : Q2) : cmpI f M.oneM ≤ 0 ↔ f.1 ≤ f.2 := by
  unfold cmpI M.oneM
  simp only [Int.mul_one, Int.one_mul]
  split
  · omega
  · split <;> omega
theorem way_ge (f : Q2) : 0 ≤ cmpI f M.oneM ↔ f.2 ≤ f.1 := by
  unfold cmpI M.oneM
  simp only [Int.mul_one, Int.one_mul]
  split
  · omega
  · split <;> omega
theorem way_eq (f : Q2) : cmpI f M.oneM = 0 ↔ f.1 = f.2 := by
  unfold cmpI M.oneM
  simp only [Int.mul_one, Int.one_mul]
  split
  · omega
  · split <;> omega
theorem below_one (f : Q2) : (!M.belowM f M.oneM) = decide (0 ≤ cmpI f M.oneM) := by
  unfold M.belowM M.oneM
  simp only [Int.mul_one, Int.one_mul]
  rw [← decide_not]
  exact decide_eq_decide.mpr (by rw [show ((1 : Int), (1 : Int)) = M.oneM from rfl, way_ge]; omega)
theorem one_below (f : Q2) : (!M.belowM M.oneM f) = decide (cmpI f M.oneM ≤ 0) := by
  unfold M.belowM M.oneM
  simp only [Int.mul_one, Int.one_mul]
  rw [← decide_not]
  exact decide_eq_decide.mpr (by rw [show ((1 : Int), (1 : Int)) = M.oneM from rfl, way_le]; omega)
section
variable {P : Program} {w : World} {K : PySem.W.Frag} {mg : Str → Option Value} {base : Heap}
/-- what _law_right calls -/
structure Calls (P : Program) (w : World) (K : PySem.W.Frag) (mg : Str → Option Value) (base : Heap) : Prop where
  T : Facts K mg
  take : Fo P w K mg base 1 "_law_take" ["_law_store_here", "_law_top"] spTk
  row : Fo P w K mg base 4 "_law_row_drawn" ["_law_store_here"] (spRow K)
  cmp : Cal P w K mg base 1 "_law_cmp" 2 dom__law_cmp
  cfu : Cal P w K mg base 7 "chains_fill_unlinked" 1 dom_chains_fill_unlinked
  cfuK : CalK P w K mg base 7 "chains_fill_unlinked" "chain" dom_chains_fill_unlinked
  chain : Cal P w K mg base 7 "chain_carrier" 2 dom_chain_carrier
  ring : Cal P w K mg base 7 "ring_carrier" 2 dom_ring_carrier
  draws : Cal P w K mg base 7 "draws" 1 dom_draws
  shuns : Cal P w K mg base 7 "shuns" 1 dom_shuns
  unl : Cal P w K mg base 7 "is_unlinked" 1 dom_is_unlinked
  fills : Cal P w K mg base 11 "fills_unlinked" 1 dom_fills_unlinked
  links : Cal P w K mg base 8 "links_of" 3 dom_links_of
abbrev s__law_right : Stmt := topS 79
abbrev N__law_right : List Str := ["_law_store_here", "_law_row", "_law_count", "_law_way", "_law_house", "_law_wide", "_law_is_ring", "_law_many2", "_law_at", "_law_to", "_law_beside", "_law_each", "_law_lone"]
theorem sc__law_right : FnScope N__law_right ["_law_store_here"] (defScope s__law_right) := ⟨rfl, rfl, rfl, by decide +kernel, rfl, by decide +kernel, by decide +kernel⟩
def bsd (r : Bool) (m i j : Nat) : Bool := decide (j = i + 1) || (r && (decide (i = 0) && decide (j = m - 1)))
/-- behind the house -/
abbrev dRow (u f : Q2) (n : Nat) : En := [none, some (.dat (chd u f)), some (.dat (.int (n : Int))), some (.dat (.int (cmpI f M.oneM))), some (.dat (cd (M.chainM u f n)))]
section
variable {f0 : Addr} {cdv : Value} {A : Around} {outer : List Env} {s : Shared} {H : Hp} {E : XK}
abbrev XR (P : Program) (w : World) (K : PySem.W.Frag) (mg : Str → Option Value) (base : Heap) (f0 : Addr) (cdv : Value) (A : Around) (outer : List Env) (s : Shared) (H : Hp) (E : XK) : Cx := cx P w K mg base N__law_right "_law_right" s__law_right f0 cdv A outer s H E
/-- the for over chain and ring -/
def forBody : List Stmt := match (defBody s__law_right).getD 6 (.Pass ⟨0, 0, 0, 0⟩) with | .For _ _ b _ _ => b | _ => []
def innerFor : List Stmt := match forBody.getD 1 (.Pass ⟨0, 0, 0, 0⟩) with | .For _ _ b _ _ => b | _ => []
def deepFor : List Stmt := match innerFor.getD 0 (.Pass ⟨0, 0, 0, 0⟩) with | .For _ _ b _ _ => b | _ => []
abbrev dIn (u f : Q2) (n : Nat) (c : List Q2) (r : Bool) (m : Nat) : En := dRow u f n ++ [some (.dat (cd c)), some (.dat (.bool r)), some (.dat (.int (m : Int)))]
theorem deep_ok (C : Calls P w K mg base) {kk : Nat} (hr : Room kk (XR P w K mg base f0 cdv A outer s H E).A) (hk : 11 ≤ kk) {u f : Q2} {n : Nat} {c : List Q2} {r : Bool} {m i j : Nat} (vc : VC m c) (hij : i < j) (hj : j < m) (hl : ∀ x ∈ M.linksM c i j, x = if bsd r m i j then f else M.oneM) :
    SDs (XR P w K mg base f0 cdv A outer s H E) (dIn u f n c r m ++ [some (.dat (.int (i : Int))), some (.dat (.int (j : Int))), none, none, none]) deepFor (.nx (dIn u f n c r m ++ [some (.dat (.int (i : Int))), some (.dat (.int (j : Int))), some (.dat (.bool (bsd r m i j))), none, none])) := by
  have m5 := vc.n5
  refine sds_cons (sd_set (i := 10) (d := .bool (bsd r m i j)) (ed_is (ed_or (ed_eqI (ed_v 9) (ed_add (ed_v 8) ed_int)) fun _ => ed_one (ed_and (ed_v 6) fun _ => ed_and (ed_eqI (ed_v 8) ed_int) fun _ => ed_one (ed_eqI (ed_v 9) (ed_sub (ed_v 7) ed_int)))) ?_) sc__law_right.nd) ?_
  · unfold bsd
    rw [show decide ((j : Int) = (i : Int) + 1) = decide (j = i + 1) from decide_eq_decide.mpr (by omega), show decide ((i : Int) = 0) = decide (i = 0) from decide_eq_decide.mpr (by omega), show decide ((j : Int) = (m : Int) - 1) = decide (j = m - 1) from decide_eq_decide.mpr (by omega)]
  · refine sds_one (sd_no (td_is (td_ne hr.units (ed_lcF (ds := (M.linksM c i j).map qd) (f := fun _ => false) (g := fun d => d) (j := 11) (id_tup (ed_call C.links (hr.mono (Nat.le_of_succ_le hk)) (ad_cons (ed_v 5) (ad_cons (ed_v 8) (ad_cons (ed_v 9) ad_nil))) ⟨m, i, j, c, rfl, vc, by omega, hj, by omega, rfl⟩ rfl (by omega))) ?_ sc__law_right.nd (blkOk_by (N := N__law_right) (sc := defScope s__law_right) (by decide +kernel)) (fun _ _ _ _ _ => pg_name sc__law_right.nd rfl (Or.inl rfl)) (fun d hd s' H' C' cl' fp' => ?_) (fun d hd z => by cases z) (fun d hd z => by cases z)) (ed_lst ad_nil) ?_ ?_) ?_))
    · rw [List.length_map]
      have := M.links_len c i j
      have := vc.lt
      omega
    · obtain ⟨x, hx, rfl⟩ := List.mem_map.mp hd
      have e := hl x hx
      refine td_is (td_ne hr.units (ed_v 11) (ed_if (d := qd (if bsd r m i j then f else M.oneM)) (td_val (ed_v 10)) (fun z => ?_) (fun z => ?_)) rfl rfl) ?_
      · rw [if_pos z]
        exact ed_t1 (ed_v 1)
      · rw [if_neg (by rw [z]; exact Bool.false_ne_true)]
        exact ed_tup (ad_cons ed_int (ad_cons ed_int ad_nil))
      · rw [eqv_q, e, decide_eq_true rfl]
        rfl
    · rw [List.filter_eq_nil_iff.mpr fun _ _ => Bool.false_ne_true]
      rfl
    · rfl
    · rw [List.filter_eq_nil_iff.mpr fun _ _ => Bool.false_ne_true]
      rfl
theorem inner_ok (C : Calls P w K mg base) {kk : Nat} (hr : Room kk (XR P w K mg base f0 cdv A outer s H E).A) (hk : 11 ≤ kk) {u f : Q2} {n : Nat} {c : List Q2} {r : Bool} {m i : Nat} (vc : VC m c) (hi : i < m) (hl : ∀ i j, i < j → j < m → ∀ x ∈ M.linksM c i j, x = if bsd r m i j then f else M.oneM) :
    SDs (XR P w K mg base f0 cdv A outer s H E) (dIn u f n c r m ++ [some (.dat (.int (i : Int))), none, none, none, none]) innerFor (.nx (dIn u f n c r m ++ [some (.dat (.int (i : Int))), none, none, none, none])) := by
  have m5 := vc.n5
  refine sds_one (sd_is (sd_forG (ds := rgD ((i + 1 : Nat) : Int) (m - (i + 1))) (id_is (id_rng2 (lo := (i : Int) + 1) (hi := (m : Int)) (ad_cons (ed_add (ed_v 8) ed_int) (ad_cons (ed_v 7) ad_nil)) (by omega) C.T.range) (by rw [show ((m : Int) - ((i : Int) + 1)).toNat = m - (i + 1) by omega]; rfl)) (pg_name (i := 9) sc__law_right.nd rfl (Or.inl rfl)) (fun _ => dIn u f n c r m ++ [some (.dat (.int (i : Int))), none, none, none, none]) (leE.refl _) (fun _ => rfl) (fun k d hd => ?_)) rfl)
  obtain ⟨hk2, rfl⟩ := rgD_get hd
  have ej : PyData.int (((i + 1 : Nat) : Int) + (k : Int)) = .int ((i + 1 + k : Nat) : Int) := by congr 1
  rw [ej]
  exact ⟨_, _, gd_name, deep_ok C hr hk vc (by omega) (by omega) (hl i (i + 1 + k) (by omega) (by omega)), ⟨rfl, rfl, rfl, rfl, rfl, rfl, rfl, rfl, trivial⟩⟩
theorem body_ok (C : Calls P w K mg base) {kk : Nat} (hr : Room kk (XR P w K mg base f0 cdv A outer s H E).A) (hk : 11 ≤ kk) {u f : Q2} {n : Nat} {c : List Q2} {r : Bool} {m : Nat} (vc : VC m c) (hm : m = if r then max 3 n else n) (hl : ∀ i j, i < j → j < m → ∀ x ∈ M.linksM c i j, x = if bsd r m i j then f else M.oneM) :
    SDs (XR P w K mg base f0 cdv A outer s H E) (dRow u f n ++ [some (.dat (cd c)), some (.dat (.bool r)), none, none, none, none, none, none]) forBody (.nx (dRow u f n ++ [none, none, none, none, none, none, none, none])) := by
  have m5 := vc.n5
  refine sds_cons (sd_set (i := 7) (d := .int (m : Int)) (ed_if (td_val (ed_v 6)) (fun z => ed_is (ed_max rfl C.T.max (ad_cons ed_int (ad_cons (ed_v 2) ad_nil))) ?_) (fun z => ed_is (ed_v 2) ?_)) sc__law_right.nd) ?_
  · rw [hm, if_pos z]
    congr 1
    split <;> omega
  · rw [hm, if_neg (by rw [z]; exact Bool.false_ne_true)]
  · refine sds_out (sds_one (sd_is (sd_forG (ds := rgD 0 m) (id_rng1 (n := m) (ad_cons (ed_v 7) ad_nil) (by omega) C.T.range) (pg_name (i := 8) sc__law_right.nd rfl (Or.inl rfl)) (fun _ => dIn u f n c r m ++ [none, none, none, none, none]) (leE.refl _) (fun _ => rfl) (fun k d hd => ?_)) rfl)) (by simp only [dIn, dRow, List.cons_append, List.nil_append, leE, and_self])
    obtain ⟨hk2, rfl⟩ := rgD_get hd
    rw [show PyData.int ((0 : Int) + (k : Int)) = .int (k : Int) by rw [Int.zero_add]]
    exact ⟨_, _, gd_name, inner_ok C hr hk vc hk2 hl, ⟨rfl, rfl, rfl, rfl, rfl, rfl, rfl, trivial⟩⟩
theorem right_ok (C : Calls P w K mg base) (quiet : Quiet (XR P w K mg base f0 cdv A outer s H E).A) {kk : Nat} (hr : Room kk (XR P w K mg base f0 cdv A outer s H E).A) (hk : 11 ≤ kk) {u f : Q2} {n : Nat} (hu : u ∈ M.drawn) (hf : f ∈ M.drawn) (h2 : 2 ≤ n) (h5 : n ≤ 5) :
    SDs (XR P w K mg base f0 cdv A outer s H E) [none, some (.dat (chd u f)), some (.dat (.int (n : Int))), none, none, none, none, none, none, none, none, none, none] ((defBody s__law_right).drop 1) (.rt (.bool true)) := by
  obtain ⟨au, bu, _⟩ := M.drawn_amt hu
  obtain ⟨af, bf, _⟩ := M.drawn_amt hf
  obtain ⟨fl2, fl1, fln⟩ := M.fills_ok (List.all_eq_true.mp M.okAll u hu) hf
  have r7 : Room 7 (XR P w K mg base f0 cdv A outer s H E).A := hr.mono (by omega)
  have r11 : Room 11 (XR P w K mg base f0 cdv A outer s H E).A := hr.mono hk
  have vc := vc_chain au af bu bf (show 1 ≤ n by omega) h5
  have vc1 := vc_chain au af bu bf (n := 1) (by decide) (by decide)
  have vc2 := vc_chain au af bu bf (n := 2) (by decide) (by decide)
  -- the way
  refine sds_cons (sd_set (i := 3) (d := .int (cmpI f M.oneM)) (ed_call C.cmp r7 (ad_cons (ed_t1 (ed_v 1)) (ad_cons (ed_tup (ad_cons ed_int (ad_cons ed_int ad_nil))) ad_nil)) ⟨f, M.oneM, 4, 1, rfl, bf, Bd.one, by decide, rfl⟩) sc__law_right.nd) ?_
  -- the reprs
  refine sds_cons (sd_no (td_is (td_neS (ed_repr (bs := [decide (cmpI f M.oneM ≤ 0), decide (cmpI f M.oneM ≤ 0)]) quiet hr C.T.repr (ad_cons (ed_lst (ad_cons (ed_is (ed_call C.cfu r7 (ad_cons (ed_v 1) ad_nil) ⟨u, f, rfl, au, af, bf, rfl⟩) (by rw [one_below])) (ad_cons (ed_is (ed_callKw C.cfuK r7 (ed_v 1) ⟨u, f, rfl, au, af, bf, rfl⟩) (by rw [one_below])) ad_nil))) ad_nil) (shown2 _ _))
    (ed_repr (bs := [decide (cmpI f M.oneM ≤ 0), decide (cmpI f M.oneM ≤ 0)]) quiet hr C.T.repr (ad_cons (ed_lst (ad_cons (ed_le (ed_v 3) ed_int) (ad_cons (ed_le (ed_v 3) ed_int) ad_nil))) ad_nil) (shown2 _ _))) (by rw [decide_eq_true rfl]; rfl))) ?_
  -- the house
  refine sds_cons (sd_set (i := 4) (d := cd (M.chainM u f n)) (ed_call C.chain r7 (ad_cons (ed_v 1) (ad_cons (ed_v 2) ad_nil)) ⟨u, f, n, rfl, au, af, bu, bf, by omega, h5, rfl⟩) sc__law_right.nd) ?_
  refine sds_cons (sd_no (td_is (td_neS (ed_repr (bs := [decide (0 ≤ cmpI f M.oneM), decide (cmpI f M.oneM ≤ 0), decide (cmpI f M.oneM = 0)]) quiet hr C.T.repr (ad_cons (ed_lst (ad_cons (ed_is (ed_call C.draws r7 (ad_cons (ed_v 4) ad_nil) ⟨n, _, rfl, vc, rfl⟩) (by rw [M.any_links au af h2 h5 (fun a => M.belowM a M.oneM) rfl, below_one])) (ad_cons (ed_is (ed_call C.shuns r7 (ad_cons (ed_v 4) ad_nil) ⟨n, _, rfl, vc, rfl⟩) (by rw [M.any_links au af h2 h5 (fun a => M.belowM M.oneM a) rfl, one_below])) (ad_cons (ed_is (ed_call C.unl r7 (ad_cons (ed_v 4) ad_nil) ⟨n, _, rfl, vc, rfl⟩) (by rw [decide_eq_decide.mpr ((M.unlinked_chain au af h2 h5).trans (way_eq f).symm)])) ad_nil)))) ad_nil) (shown3 _ _ _))
    (ed_repr (bs := [decide (0 ≤ cmpI f M.oneM), decide (cmpI f M.oneM ≤ 0), decide (cmpI f M.oneM = 0)]) quiet hr C.T.repr (ad_cons (ed_lst (ad_cons (ed_ge (ed_v 3) ed_int) (ad_cons (ed_le (ed_v 3) ed_int) (ad_cons (ed_eqI (ed_v 3) ed_int) ad_nil)))) ad_nil) (shown3 _ _ _))) (by rw [decide_eq_true rfl]; rfl))) ?_
  -- filled like unlinked ones
  refine sds_cons (sd_no (td_is (td_w (wd_or (k := false) (td_is (td_w (wd_and (l := false) (td_le (ed_v 3) ed_int) fun z => wd_is (wd_and1 (td_niB (ed_call C.fills r11 (ad_cons (ed_v 4) ad_nil) ⟨n, _, true, rfl, vc, fln n h2 h5 ((way_le f).mp (of_decide_eq_true z)), rfl⟩) ed_bl)) rfl)) (Bool.and_false _)) fun _ => wd_or1 (td_neB (ed_call C.fills r11 (ad_cons (ed_call C.chain r7 (ad_cons (ed_v 1) (ad_cons ed_int ad_nil)) ⟨u, f, 2, rfl, au, af, bu, bf, by decide, by decide, rfl⟩) ad_nil) ⟨2, _, _, rfl, vc2, fl2, rfl⟩) (ed_le (ed_v 3) ed_int)))) ?_)) ?_
  · rw [show decide (f.1 ≤ f.2) = decide (cmpI f M.oneM ≤ 0) from decide_eq_decide.mpr (way_le f).symm, decide_eq_true rfl]
    rfl
  -- chain and ring
  refine sds_cons (sd_is (sd_forG (ds := [.tuple [cd (M.chainM u f n), .bool false], .tuple [cd (M.ringM u f (max 3 n)), .bool true]]) (id_list (ed_lst (ad_cons (ed_tup (ad_cons (ed_v 4) (ad_cons ed_bl ad_nil))) (ad_cons (ed_tup (ad_cons (ed_call C.ring r7 (ad_cons (ed_v 1) (ad_cons (ed_is (ed_max rfl C.T.max (ad_cons ed_int (ad_cons (ed_v 2) ad_nil))) (show _ = PyData.int ((max 3 n : Nat) : Int) by congr 1; split <;> omega)) ad_nil)) ⟨u, f, max 3 n, rfl, au, af, bu, bf, by omega, by omega, rfl⟩) (ad_cons ed_bl ad_nil))) ad_nil)))) (pg_tup rfl (pgs_cons (pg_name (i := 5) sc__law_right.nd rfl (Or.inl rfl)) (pgs_cons (pg_name (i := 6) sc__law_right.nd rfl (Or.inl rfl)) pgs_nil))) (fun _ => dRow u f n ++ [none, none, none, none, none, none, none, none]) (leE.refl _) (fun _ => rfl) (fun k d hd => ?_)) rfl) ?_
  · match k, hd with
    | 0, hd =>
      cases hd
      exact ⟨_, _, gd_pair, body_ok C hr hk vc rfl (fun i j hij hj x hx => (M.chain_links au af h5 hij hj x hx).trans (by unfold M.bes bsd; rw [Bool.false_and, Bool.or_false])), leE.refl _⟩
    | 1, hd =>
      cases hd
      exact ⟨_, _, gd_pair, body_ok C hr hk (vc_ring au af bu bf (n := max 3 n) (by omega) (by omega)) rfl (fun i j hij hj x hx => (M.ring_links au af (by omega) (by omega) hij hj x hx).trans (by unfold M.besR bsd; rw [Bool.true_and])), leE.refl _⟩
    | k + 2, hd => cases hd
  -- one seat
  refine sds_cons (sd_set (i := 12) (d := cd (M.chainM u f 1)) (ed_call C.chain r7 (ad_cons (ed_v 1) (ad_cons ed_int ad_nil)) ⟨u, f, 1, rfl, au, af, bu, bf, by decide, by decide, rfl⟩) sc__law_right.nd) ?_
  refine sds_one (sd_ret (ed_is (ed_and (ed_isB (ed_call C.draws r7 (ad_cons (ed_v 12) ad_nil) ⟨1, _, rfl, vc1, rfl⟩) ed_bl) fun _ => ed_and (ed_isB (ed_call C.shuns r7 (ad_cons (ed_v 12) ad_nil) ⟨1, _, rfl, vc1, rfl⟩) ed_bl) fun _ => ed_one (ed_isB (ed_call C.fills r11 (ad_cons (ed_v 12) ad_nil) ⟨1, _, _, rfl, vc1, fl1, rfl⟩) ed_bl)) ?_))
  rw [M.none_links, M.none_links]
  rfl
end
def spRight : Sp := fun vs H Q _ => ∃ p : Addr, vs = [.ref p] ∧ StAt p H ∧ ∀ H', Keep p H H' → Q (.bl true) H'
theorem ok__law_right (C : Calls P w K mg base) (D : Df K mg "_law_right" s__law_right ["_law_store_here"]) : FoG P w K mg base 12 "_law_right" ["_law_store_here"] spRight := by
  obtain ⟨f, fd, F, b, g⟩ := D.ex
  refine ⟨f, fd, fnG F sc__law_right (fun vs H Q E h => ?_) (fun cdv A up s H vs Q E quiet hr h => ?_), g, F.kp, b⟩
  · obtain ⟨p, rfl, _⟩ := h
    rfl
  obtain ⟨p, rfl, st, hq⟩ := h
  show bSs _ _ _ [some (.ref p), none, none, none, none, none, none, none, none, none, none, none, none] H
  refine go_cons (bS_of (ps_asg (pe_tup pa_b) (pg_tup rfl (pgs_cons (pg_name (i := 1) sc__law_right.nd rfl (Or.inr rfl)) (pgs_cons (pg_name (i := 2) sc__law_right.nd rfl (Or.inl rfl)) pgs_nil)))) ?_)
  refine go_a (go_call (E := E) C.row hr (go_a (go_var 0 (go_a0 ⟨p, rfl, st, fun v H1 u f hu hf rv k1 s1 => ?_⟩))))
  refine go_a (bE_of (pe_op op_add pe_int pe_b) (dr_go (dr_take (n := 4) C.take hr (by decide) (dr_two (by decide)) (by decide) rfl) s1 fun y H2 k2 s2 hy => ?_))
  obtain ⟨d, hd, rfl⟩ := hy
  refine ⟨2, (d : Int), rfl, rfl, go_a0 ⟨Nat.le_of_ble_eq_true rfl, fun t ht => ⟨t, _, rfl, SqT.of upd_same, rfl, v, [.int (2 + (d : Int))], rfl, .int (2 + (d : Int)), [], rfl, rfl, ?_⟩⟩⟩
  have rv2 := (k2.rp s1 rfl rv).mono (Ex.new (o := .tup [v, .int (2 + (d : Int))]) ht)
  refine right_ok C quiet hr (by decide) hu hf (n := 2 + d) (by omega) (by omega) _ _ _ ⟨Ex.refl _, rfl, fun i s h => ?_⟩ _ fun v H3 e3 r3 => ?_
  · match i, h with
    | 0, h => cases h
    | 1, h => cases h; exact ⟨v, rfl, rv2⟩
    | 2, h => cases h; exact ⟨_, rfl, by show Rp K _ (.int (2 + (d : Int))) (.int ((2 + d : Nat) : Int)); rw [show ((2 + d : Nat) : Int) = 2 + (d : Int) by omega]; exact .int _⟩
    | 3, h => cases h
    | 4, h => cases h
    | 5, h => cases h
    | 6, h => cases h
    | 7, h => cases h
    | 8, h => cases h
    | 9, h => cases h
    | 10, h => cases h
    | 11, h => cases h
    | 12, h => cases h
    | i + 13, h => cases h
  · rw [r3.bl_v]
    exact hq H3 ((k1.trans k2).trans ((Keep.of (Ex.new ht)).trans (Keep.of e3)))
end
end G
/-! K4 -/
namespace G
open PySem PySem.Spec PyProof.Rows L2
open M (Q2 Bd Amt gc)
open Evl (Ex Ex.refl Ex.trans Ex.new Ex.mut fresh_back ex_t ex_l)
theorem Keep.sq {K : PySem.W.Frag} {p a : Addr} {H H1 H2 : Hp} {xs : List V} (hp : H p = none) (e : Ex H H1) (k : Keep p H1 H2) (h : SqL K H a xs) : SqL K H2 a xs := by
  have out : ∀ {o : HO}, H a = some o → H2 a = some o := fun {o} z => k a o (fun y => by rw [y, hp] at z; cases z) (e a o z)
  rcases h with (h | ⟨o, h⟩) | h
  · exact .inl (.inl (out h))
  · exact .inl (.inr ⟨o, out h⟩)
  · exact .inr h
/-- a list that a write at D leaves -/
def Off (K : PySem.W.Frag) (D a : Addr) (xs : List V) : Prop := a ≠ D ∨ ∀ H, SqL K H a xs
theorem off_of {K : PySem.W.Frag} {D a : Addr} {H : Hp} {xs : List V} (h : SqL K H a xs) (hD : H D = none) : Off K D a xs := by
  rcases h with (h | ⟨o, h⟩) | h
  · exact .inl fun z => by rw [z, hD] at h; cases h
  · exact .inl fun z => by rw [z, hD] at h; cases h
  · exact .inr fun _ => .inr h
theorem Off.upd {K : PySem.W.Frag} {D a : Addr} {H : Hp} {xs : List V} {o : HO} (f : Off K D a xs) (h : SqL K H a xs) : SqL K (upd H D o) a xs := by
  rcases f with f | f
  · rcases h with (h | ⟨o, h⟩) | h
    · exact .inl (.inl (by rw [upd_ne f]; exact h))
    · exact .inl (.inr ⟨o, by rw [upd_ne f]; exact h⟩)
    · exact .inr h
  · exact f _
section
variable {P : Program} {w : World} {K : PySem.W.Frag} {mg : Str → Option Value} {base : Heap}
def spLaw (K : PySem.W.Frag) : Sp := fun vs H Q _ => ∃ (a : Addr) (ns : List Int), vs = [.ref a] ∧ SqL K H a (ns.map V.int) ∧ ns.length ≤ 63 ∧ ∀ H', Q (.bl true) H'
abbrev s_law : Stmt := topS 80
abbrev N_law : List Str := ["_law_script", "_law_turn"]
theorem sc_law : FnScope N_law ["_law_script"] (defScope s_law) := ⟨rfl, rfl, rfl, by decide +kernel, rfl, by decide +kernel, by decide +kernel⟩
theorem ok_law (T : Facts K mg) (c_store : Fo P w K mg base 1 "_law_store" ["_law_script", "_law_turn"] (spStore K)) (c_right : FoG P w K mg base 12 "_law_right" ["_law_store_here"] spRight) {f : Addr} {fd : FuncData} (F : Fun K "law" "law" s_law f fd) : FnG P w K mg base 13 f fd ["_law_script"] (spLaw K) := by
  refine fnG F sc_law (fun vs H Q E h => ?_) (fun cdv A up s H vs Q E quiet hr h => ?_)
  · obtain ⟨a, ns, rfl, _⟩ := h
    rfl
  obtain ⟨a, ns, rfl, hs, hn, hq⟩ := h
  show bSs _ _ _ [some (.ref a), none] H
  refine go_one (go_ret (bE_of (pe_callB (cr_all rfl) rfl T.all PyProof.Rows.boot_all pa_b (by decide) (by decide)) (go_a ?_)))
  refine bE_of (pe_lc (own := [("_law_turn", 1)]) rfl sc_law.nd (pi_range1 rfl T.range (pa_cons pe_int pa_nil)) (blkOk_by (N := N_law) (sc := defScope s_law) (by decide +kernel)) (fun _ _ _ _ _ => pg_name (i := 1) sc_law.nd rfl (Or.inl rfl)) (fun _ _ _ _ _ => pts_nil) (fun _ _ _ _ _ => pe_k)) ?_
  refine ⟨2, rfl, by decide, by decide, fun Dl hD => ?_⟩
  have off := off_of hs hD
  refine ⟨fun i m H' => m = 2 - i ∧ i ≤ 2 ∧ SqL K H' a (ns.map V.int) ∧ H' Dl = some (.lst ((List.replicate i true).map V.bl)), ⟨2, rfl, by decide, off.upd hs, upd_same⟩, ?_⟩
  rintro i m H' ⟨rfl, hi, hsq, hacc⟩
  by_cases hlt : i < 2
  · refine .inr ⟨hlt, fun H'' => SqL K H'' a (ns.map V.int) ∧ H'' Dl = some (.lst ((List.replicate (i + 1) true).map V.bl)), fun H'' nx => ⟨2 - (i + 1), by omega, rfl, hlt, nx⟩, fun x H2 hx => ?_⟩
    obtain ⟨rfl, rfl⟩ := hx
    refine ⟨rfl, ?_⟩
    simp only [tYes, if_true]
    intro s2 H9 C9 cl9 fp9
    rw [Int.zero_add]
    show bE _ _ [some (.ref a), some (.int (i : Int))] _ _
    refine go_callG (E := fun _ _ _ => True) c_right quiet hr (go_a (go_call (E := fun _ _ _ => True) c_store hr (go_a (go_var 0 (go_a (go_var 1 (go_a0 ⟨.ref a, ns, i, rfl, .scr hsq RpAll.of_ints, hn, by omega, fun p H3 hp e3 st => go_a0 ⟨p, rfl, st, fun H4 k4 => ?_⟩⟩)))))))
    have h4 : H4 Dl = some (.lst ((List.replicate i true).map V.bl)) := k4 Dl _ (fun z => by rw [← z, hacc] at hp; cases hp) (e3 _ _ hacc)
    refine ⟨_, h4, ?_, off.upd (Keep.sq hp e3 k4 hsq), ?_⟩
    · rw [List.length_map, List.length_replicate]
      exact Evl.sz_lt (by omega)
    · rw [upd_same, List.replicate_succ', List.map_append]
      rfl
  · have e : i = 2 := by omega
    subst e
    exact .inl ⟨Nat.le_refl 2, go_a0 ⟨Dl, [true, true], rfl, SqL.of hacc, hq H'⟩⟩
end
end G
/-! E1 -/
/-! Own: what the top has left, all put together. -/
namespace G
open PySem PySem.Spec PyProof.Rows L2
open M (Q2 Bd Amt gc)
theorem df_mk {K : PySem.W.Frag} {h : Heap} {mg : Str → Option Value} {x : Str} {st : Stmt} {ps : List Str} {f : Addr} {od an : Option Addr} {sl : Array (Option Value)} {oc kV dc pm cd ct : Value} (X : K.In h) (N : h.Ns mainGlobals mg)
    (a : PySem.W.nsIn K mainGlobals x = some (some (.ref f))) (l : K.lookup f = some ⟨oc, od, .func (PySem.W.fnOf x x (defArgs st) (defBody st) (defScope st) .none kV dc pm an cd ct), sl⟩) (c : PySem.W.codeIn K cd x = true) (k : PySem.W.keepIn K (.ref f) = true)
    (hb : ∀ (kV doc pm : Value) (an : Option Addr) (cdv ct : Value) (us : List Value), us.length = ps.length → bindArgs (PySem.W.fnOf x x (defArgs st) (defBody st) (defScope st) .none kV doc pm an cdv ct) ⟨us, []⟩ = pure (ps.zip us)) : Df K mg x st ps :=
  ⟨_, _, fun_mk (st := st) l c k, (fun_mk (st := st) l c k).binds hb, PySem.W.mg_of X N a⟩
theorem dm_mk {K : PySem.W.Frag} {C : Addr} {x qual : Str} {st : Stmt} {ps : List Str} {f : Addr} {od an : Option Addr} {sl : Array (Option Value)} {oc kV dc pm cd ct : Value}
    (a : PySem.W.findIn K (.ref C) x = some (some (.ref f))) (i : PySem.W.isFn K (.ref f) = true) (l : K.lookup f = some ⟨oc, od, .func (PySem.W.fnOf x qual (defArgs st) (defBody st) (defScope st) .none kV dc pm an cd ct), sl⟩) (c : PySem.W.codeIn K cd qual = true) (k : PySem.W.keepIn K (.ref f) = true)
    (hb : ∀ (kV doc pm : Value) (an : Option Addr) (cdv ct : Value) (us : List Value), us.length = ps.length → bindArgs (PySem.W.fnOf x qual (defArgs st) (defBody st) (defScope st) .none kV doc pm an cdv ct) ⟨us, []⟩ = pure (ps.zip us)) : Dm K C x qual st ps :=
  ⟨_, _, fun_mk (st := st) l c k, (fun_mk (st := st) l c k).binds hb, ⟨a, i, k⟩⟩
/-- __init__ of the class -/
structure Ini (K : PySem.W.Frag) (C : Addr) : Prop where
  ex : ∃ f fd, Mk K C f ∧ Fun K "__init__" "Squares.__init__" s_Sq_init f fd ∧ Binds K fd ["self", "table"] []
theorem ini_mk {K : PySem.W.Frag} {C f : Addr} {od an : Option Addr} {sl : Array (Option Value)} {oc kV dc pm cd ct : Value}
    (a : PySem.W.findIn K (.ref C) "__init__" = some (some (.ref f))) (i : PySem.W.isFn K (.ref f) = true) (l : K.lookup f = some ⟨oc, od, .func (PySem.W.fnOf "__init__" "Squares.__init__" (defArgs s_Sq_init) (defBody s_Sq_init) (defScope s_Sq_init) .none kV dc pm an cd ct), sl⟩) (c : PySem.W.codeIn K cd "Squares.__init__" = true) (k : PySem.W.keepIn K (.ref f) = true)
    (mk : PySem.W.makesIn K C = true) (kc : PySem.W.keepIn K (.ref C) = true) : Ini K C :=
  ⟨_, _, ⟨mk, a, i, kc⟩, fun_mk (st := s_Sq_init) l c k, (fun_mk (st := s_Sq_init) l c k).binds fun _ _ _ _ _ _ us hl => match us, hl with | [_, _], _ => rfl⟩
theorem gc_int {K : PySem.W.Frag} {h : Heap} {mg : Str → Option Value} {x : Str} {i : Int} {t : Option Addr} (u : Value) (X : K.In h) (N : h.Ns mainGlobals mg) (a : PySem.W.nsIn K mainGlobals x = some (some u)) (hu : RelV (.int i) u) : GC K mg x (.int i) :=
  ⟨.int i, u, PySem.W.mg_of X N a, hu, fun _ => .int i⟩
theorem gc_tup {K : PySem.W.Frag} {h : Heap} {mg : Str → Option Value} {x : Str} {ns : List Int} {a : Addr} {od : Option Addr} {its : Array Value} {n : Nat} {sl : Array (Option Value)} (X : K.In h) (N : h.Ns mainGlobals mg) (ha : PySem.W.nsIn K mainGlobals x = some (some (.ref a)))
    (l : K.lookup a = some ⟨.type "tuple", od, .seq its n, sl⟩) (v : Vals (ns.map V.int) its.toList) (hz : ns.length ≤ 100) : GC K mg x (.tuple (ns.map .int)) :=
  ⟨.ref a, .ref a, PySem.W.mg_of X N ha, rfl, fun H => .tup (.inr ⟨_, its, n, l, rfl, rfl, by rw [← Array.length_toList, ← v.length, List.length_map]; exact Evl.sz_of (by omega), v⟩) RpAll.of_ints⟩
theorem tup_at {K : PySem.W.Frag} {h : Heap} {mg : Str → Option Value} {x : Str} {a : Addr} {its : Array Value} {n : Nat} {sl : Array (Option Value)} (X : K.In h) (N : h.Ns mainGlobals mg) (ha : PySem.W.nsIn K mainGlobals x = some (some (.ref a))) (l : K.lookup a = some ⟨.type "tuple", none, .seq its n, sl⟩) :
    ∃ a o, mg x = some (.ref a) ∧ K.lookup a = some o ∧ o.cls = .type "tuple" ∧ o.dict = none := ⟨a, _, PySem.W.mg_of X N ha, l, rfl, rfl⟩
/-- the keyword's binding -/
theorem kb_chain {K : PySem.W.Frag} {f : Addr} {fd : FuncData} (F : Fun K "chains_fill_unlinked" "chains_fill_unlinked" s_chains_fill_unlinked f fd) : KBinds K fd ["chain"] ["chain"] (fun us ws => us ++ ws) (fun vs zs => vs ++ zs) := by
  obtain ⟨oc, od, kV, doc, pm, an, cdv, ct, osl, rfl, lk, hcd⟩ := F.ex
  refine ⟨fun s us ws hk hl => ?_, fun r1 r2 => r1.append r2⟩
  match us, ws, hl with
  | [], [v], _ => exact .of_eq rfl
  | [v], [], _ => exact .of_eq rfl
  | [], [], hl => cases hl
  | [], _ :: _ :: _, hl => simp at hl
  | [_], _ :: _, hl => simp at hl
  | _ :: _ :: _, _, hl => simp at hl
section
variable {P : Program} {w : World} {K : PySem.W.Frag} {mg : Str → Option Value} {base : Heap} {C : Addr}
theorem okK_chains (T : Facts K mg) (D : Df K mg "chains_fill_unlinked" s_chains_fill_unlinked ["chain"]) (c_check_chain : Cal P w K mg base 6 "check_chain" 1 dom_check_chain) (c_is_below : Cal P w K mg base 1 "is_below" 2 dom_is_below) : CalK P w K mg base 7 "chains_fill_unlinked" "chain" dom_chains_fill_unlinked := by
  obtain ⟨f, fd, F, b, g⟩ := D.ex
  refine ⟨f, fd, F.ok sc_chains_fill_unlinked (fun vs H Q E h => ?_) (fun cdv A outer s H vs Q E hr h => ?_), g, F.kp, kb_chain F⟩
  · obtain ⟨ds, r, h1, h2, _⟩ := h
    rw [h1.length, h2]
    rfl
  · obtain ⟨ds, r, h1, h2, ⟨u, v, rfl, au, av, hv, rfl⟩, q⟩ := h
    obtain ⟨x, rfl, r1⟩ := h1.one_v
    have S0 : St0 K H H (L2.start N_chains_fill_unlinked [x]) [some (.dat (chd u v))] := start_St0 (N := N_chains_fill_unlinked) (mk := Sl.dat) (fun v d r => r) 0 (.cons r1 .nil)
    refine ⟨bSs _ _, pss_b, ?_⟩
    refine (sds_cons (sd_expr (ed_call c_check_chain hr (ad_cons (ed_v 0) ad_nil) ⟨rfl, u, v, rfl, au, av⟩)) (sds_one (sd_ret (ed_not (ed_call c_is_below hr (ad_cons (ed_gc T.ONE) (ad_cons (ed_t1 (ed_v 0)) ad_nil)) ⟨M.oneM, v, 1, 4, rfl, Bd.one, hv, by decide, rfl⟩))))) H H _ S0 _ fun w H2 e2 r2 => ?_
    exact q w H2 e2 r2

/-- the class, as the top has left it -/
structure Sqs (K : PySem.W.Frag) (mg : Str → Option Value) (C : Addr) : Prop where
  mgC : mg "Squares" = some (.ref C)
  Z : SqC K C
  ini : Ini K C
  m_product : Dm K C "product" "Squares.product" s_Sq_product ["self", "one", "two"]
  m_look : Dm K C "look_beside" "Squares.look_beside" s_Sq_look_beside ["self", "vector"]
  m_take : Dm K C "take" "Squares.take" s_Sq_take ["self", "at"]
theorem sq_mk {h : Heap} {f1 f2 f3 f4 : Addr} {od1 an1 od2 an2 od3 an3 od4 an4 : Option Addr} {sl1 sl2 sl3 sl4 : Array (Option Value)} {oc1 kV1 dc1 pm1 cd1 ct1 oc2 kV2 dc2 pm2 cd2 ct2 oc3 kV3 dc3 pm3 cd3 ct3 oc4 kV4 dc4 pm4 cd4 ct4 : Value} (X : K.In h) (N : h.Ns mainGlobals mg)
    (a : PySem.W.nsIn K mainGlobals "Squares" = some (some (.ref C))) (pg : PySem.W.plainGet K C Str.empty = true) (hd : PySem.W.hasDictIn K C = true) (po : PySem.W.plainOver K C = true) (sa : PySem.W.findIn K (.ref C) "__setattr__" = some (some (.builtin "object.__setattr__")))
    (nT : PySem.W.findIn K (.ref C) "table" = some none) (nM : PySem.W.findIn K (.ref C) "many" = some none) (nB : PySem.W.findIn K (.ref C) "bases" = some none) (nV : PySem.W.findIn K (.ref C) "vector" = some none)
    (a1 : PySem.W.findIn K (.ref C) "__init__" = some (some (.ref f1))) (i1 : PySem.W.isFn K (.ref f1) = true) (l1 : K.lookup f1 = some ⟨oc1, od1, .func (PySem.W.fnOf "__init__" "Squares.__init__" (defArgs s_Sq_init) (defBody s_Sq_init) (defScope s_Sq_init) .none kV1 dc1 pm1 an1 cd1 ct1), sl1⟩) (c1 : PySem.W.codeIn K cd1 "Squares.__init__" = true) (k1 : PySem.W.keepIn K (.ref f1) = true) (mk : PySem.W.makesIn K C = true) (kc : PySem.W.keepIn K (.ref C) = true)
    (a2 : PySem.W.findIn K (.ref C) "product" = some (some (.ref f2))) (i2 : PySem.W.isFn K (.ref f2) = true) (l2 : K.lookup f2 = some ⟨oc2, od2, .func (PySem.W.fnOf "product" "Squares.product" (defArgs s_Sq_product) (defBody s_Sq_product) (defScope s_Sq_product) .none kV2 dc2 pm2 an2 cd2 ct2), sl2⟩) (c2 : PySem.W.codeIn K cd2 "Squares.product" = true) (k2 : PySem.W.keepIn K (.ref f2) = true)
    (a3 : PySem.W.findIn K (.ref C) "look_beside" = some (some (.ref f3))) (i3 : PySem.W.isFn K (.ref f3) = true) (l3 : K.lookup f3 = some ⟨oc3, od3, .func (PySem.W.fnOf "look_beside" "Squares.look_beside" (defArgs s_Sq_look_beside) (defBody s_Sq_look_beside) (defScope s_Sq_look_beside) .none kV3 dc3 pm3 an3 cd3 ct3), sl3⟩) (c3 : PySem.W.codeIn K cd3 "Squares.look_beside" = true) (k3 : PySem.W.keepIn K (.ref f3) = true)
    (a4 : PySem.W.findIn K (.ref C) "take" = some (some (.ref f4))) (i4 : PySem.W.isFn K (.ref f4) = true) (l4 : K.lookup f4 = some ⟨oc4, od4, .func (PySem.W.fnOf "take" "Squares.take" (defArgs s_Sq_take) (defBody s_Sq_take) (defScope s_Sq_take) .none kV4 dc4 pm4 an4 cd4 ct4), sl4⟩) (c4 : PySem.W.codeIn K cd4 "Squares.take" = true) (k4 : PySem.W.keepIn K (.ref f4) = true) : Sqs K mg C :=
  ⟨PySem.W.mg_of X N a, ⟨⟨pg, hd, po, sa⟩, nT, nM, nB, nV⟩, ini_mk a1 i1 l1 c1 k1 mk kc, dm_mk a2 i2 l2 c2 k2 (fun _ _ _ _ _ _ us hl => match us, hl with | [_, _, _], _ => rfl), dm_mk a3 i3 l3 c3 k3 (fun _ _ _ _ _ _ us hl => match us, hl with | [_, _], _ => rfl), dm_mk a4 i4 l4 c4 k4 (fun _ _ _ _ _ _ us hl => match us, hl with | [_, _], _ => rfl)⟩
/-- what the top has left -/
structure Tops (K : PySem.W.Frag) (mg : Str → Option Value) (C : Addr) : Prop where
  T : Facts K mg
  d_is_whole : Df K mg "is_whole" s_is_whole ["value"]
  d_is_between : Df K mg "is_between" s_is_between ["value", "low", "high"]
  d_are_wholes : Df K mg "are_wholes" s_are_wholes ["value", "many"]
  d_divisor_of : Df K mg "divisor_of" s_divisor_of ["numbers"]
  d_lowest : Df K mg "lowest" s_lowest ["numbers"]
  d_is_ratio : Df K mg "is_ratio" s_is_ratio ["value"]
  d_ratio : Df K mg "ratio" s_ratio ["top", "low"]
  d_plus : Df K mg "plus" s_plus ["one", "two"]
  d_minus : Df K mg "minus" s_minus ["one", "two"]
  d_times : Df K mg "times" s_times ["one", "two"]
  d_over : Df K mg "over" s_over ["one", "two"]
  d_is_below : Df K mg "is_below" s_is_below ["one", "two"]
  d_bits_in : Df K mg "bits_in" s_bits_in ["number"]
  d_power : Df K mg "power" s_power ["one", "many"]
  d_is_amount : Df K mg "is_amount" s_is_amount ["value"]
  d_is_carrier : Df K mg "is_carrier" s_is_carrier ["value"]
  d_check_carrier : Df K mg "check_carrier" s_check_carrier ["value"]
  d_seat_count : Df K mg "seat_count" s_seat_count ["carrier"]
  d_check_seat : Df K mg "check_seat" s_check_seat ["carrier", "value"]
  d_check_other_seat : Df K mg "check_other_seat" s_check_other_seat ["carrier", "seat", "value"]
  d_has_guest : Df K mg "has_guest" s_has_guest ["standing", "seat"]
  d_is_chain : Df K mg "is_chain" s_is_chain ["value"]
  d_check_chain : Df K mg "check_chain" s_check_chain ["value"]
  d_check_row_seats : Df K mg "check_row_seats" s_check_row_seats ["value", "least", "most"]
  d_pairs_in : Df K mg "pairs_in" s_pairs_in ["standing", "seats"]
  d_weight_in : Df K mg "weight_in" s_weight_in ["chain", "many", "pairs"]
  d_circle_pairs : Df K mg "circle_pairs" s_circle_pairs ["standing", "seats"]
  d_chain_carrier : Df K mg "chain_carrier" s_chain_carrier ["chain", "seats"]
  d_ring_carrier : Df K mg "ring_carrier" s_ring_carrier ["chain", "seats"]
  d_chains_fill_unlinked : Df K mg "chains_fill_unlinked" s_chains_fill_unlinked ["chain"]
  d_check_pair : Df K mg "check_pair" s_check_pair ["carrier", "seat", "other"]
  d_bit_of : Df K mg "bit_of" s_bit_of ["seat"]
  d_is_free : Df K mg "is_free" s_is_free ["standing", "seat", "other"]
  d_free_standings : Df K mg "free_standings" s_free_standings ["carrier", "seat", "other"]
  d_link_over : Df K mg "link_over" s_link_over ["carrier", "seat", "other", "standing"]
  d_seat_pairs : Df K mg "seat_pairs" s_seat_pairs ["carrier"]
  d_all_links : Df K mg "all_links" s_all_links ["carrier"]
  d_links_of : Df K mg "links_of" s_links_of ["carrier", "seat", "other"]
  d_draws : Df K mg "draws" s_draws ["carrier"]
  d_shuns : Df K mg "shuns" s_shuns ["carrier"]
  d_weights_of : Df K mg "weights_of" s_weights_of ["factors"]
  d_alone_of : Df K mg "alone_of" s_alone_of ["carrier"]
  d_is_unlinked : Df K mg "is_unlinked" s_is_unlinked ["carrier"]
  d_counts_in : Df K mg "counts_in" s_counts_in ["carrier", "standings"]
  d_counts_by : Df K mg "counts_by" s_counts_by ["carrier"]
  d_powers_of : Df K mg "powers_of" s_powers_of ["row", "many"]
  d_table_of : Df K mg "table_of" s_table_of ["carrier"]
  d__law_cmp : Df K mg "_law_cmp" s__law_cmp ["_law_one", "_law_two"]
  d__law_gcd : Df K mg "_law_gcd" s__law_gcd ["_law_one", "_law_two"]
  d__law_ratio : Df K mg "_law_ratio" s__law_ratio ["_law_n", "_law_m"]
  d_squares_of : Df K mg "squares_of" s_squares_of ["carrier"]
  d_fills_unlinked : Df K mg "fills_unlinked" s_fills_unlinked ["carrier"]
  d__law_store : Df K mg "_law_store" s__law_store ["_law_script", "_law_turn"]
  d__law_take : Df K mg "_law_take" s__law_take ["_law_store_here", "_law_top"]
  d__law_pick : Df K mg "_law_pick" s__law_pick ["_law_store_here", "_law_some"]
  d__law_mild : Df K mg "_law_mild" s__law_mild ["_law_store_here"]
  d__law_row_drawn : Df K mg "_law_row_drawn" s__law_row_drawn ["_law_store_here"]
  d__law_right : Df K mg "_law_right" s__law_right ["_law_store_here"]
  sq : Sqs K mg C
theorem tops_law (t : Tops K mg C) {f : Addr} {fd : FuncData} (F : Fun K "law" "law" s_law f fd) : FnG P w K mg base 13 f fd ["_law_script"] (spLaw K) := by
  have c_is_whole := ok_is_whole (P := P) (w := w) (base := base) t.T t.d_is_whole
  have c_is_between := ok_is_between (P := P) (w := w) (base := base) t.T t.d_is_between c_is_whole
  have c_are_wholes := ok_are_wholes (P := P) (w := w) (base := base) t.T t.d_are_wholes c_is_whole
  have c_divisor_of := ok_divisor_of (P := P) (w := w) (base := base) t.T t.d_divisor_of
  have c_lowest := ok_lowest (P := P) (w := w) (base := base) t.T t.d_lowest c_divisor_of
  have c_is_ratio := ok_is_ratio (P := P) (w := w) (base := base) t.T t.d_is_ratio c_are_wholes c_divisor_of
  have c_ratio := ok_ratio (P := P) (w := w) (base := base) t.T t.d_ratio c_lowest
  have c_plus := ok_plus (P := P) (w := w) (base := base) t.T t.d_plus c_ratio
  have c_minus := ok_minus (P := P) (w := w) (base := base) t.T t.d_minus c_ratio
  have c_times := ok_times (P := P) (w := w) (base := base) t.T t.d_times c_ratio
  have c_over := ok_over (P := P) (w := w) (base := base) t.T t.d_over c_ratio
  have c_is_below := ok_is_below (P := P) (w := w) (base := base) t.T t.d_is_below
  have c_bits_in := ok_bits_in (P := P) (w := w) (base := base) t.T t.d_bits_in
  have c_power := ok_power (P := P) (w := w) (base := base) t.T t.d_power
  have c_is_amount := ok_is_amount (P := P) (w := w) (base := base) t.T t.d_is_amount c_is_ratio
  have c_is_carrier := ok_is_carrier (P := P) (w := w) (base := base) t.T t.d_is_carrier c_is_amount
  have c_check_carrier := ok_check_carrier (P := P) (w := w) (base := base) t.T t.d_check_carrier c_is_carrier
  have c_seat_count := ok_seat_count (P := P) (w := w) (base := base) t.T t.d_seat_count
  have c_check_seat := ok_check_seat (P := P) (w := w) (base := base) t.T t.d_check_seat c_is_between c_seat_count
  have c_check_other_seat := ok_check_other_seat (P := P) (w := w) (base := base) t.T t.d_check_other_seat c_check_seat
  have c_has_guest := ok_has_guest (P := P) (w := w) (base := base) t.T t.d_has_guest
  have c_is_chain := ok_is_chain (P := P) (w := w) (base := base) t.T t.d_is_chain c_is_amount
  have c_check_chain := ok_check_chain (P := P) (w := w) (base := base) t.T t.d_check_chain c_is_chain
  have c_check_row_seats := ok_check_row_seats (P := P) (w := w) (base := base) t.T t.d_check_row_seats c_is_between
  have c_pairs_in := ok_pairs_in (P := P) (w := w) (base := base) t.T t.d_pairs_in c_has_guest
  have c_weight_in := ok_weight_in (P := P) (w := w) (base := base) t.T t.d_weight_in c_times c_power
  have c_circle_pairs := ok_circle_pairs (P := P) (w := w) (base := base) t.T t.d_circle_pairs c_has_guest c_pairs_in
  have c_chain_carrier := ok_chain_carrier (P := P) (w := w) (base := base) t.T t.d_chain_carrier c_check_chain c_check_row_seats c_weight_in c_bits_in c_pairs_in
  have c_ring_carrier := ok_ring_carrier (P := P) (w := w) (base := base) t.T t.d_ring_carrier c_check_chain c_check_row_seats c_weight_in c_bits_in c_circle_pairs
  have c_chains_fill_unlinked := ok_chains_fill_unlinked (P := P) (w := w) (base := base) t.T t.d_chains_fill_unlinked c_check_chain c_is_below
  have c_check_pair := ok_check_pair (P := P) (w := w) (base := base) t.T t.d_check_pair c_check_carrier c_check_seat c_check_other_seat
  have c_bit_of := ok_bit_of (P := P) (w := w) (base := base) t.T t.d_bit_of
  have c_is_free := ok_is_free (P := P) (w := w) (base := base) t.T t.d_is_free c_has_guest
  have c_free_standings := ok_free_standings (P := P) (w := w) (base := base) t.T t.d_free_standings c_is_free
  have c_link_over := ok_link_over (P := P) (w := w) (base := base) t.T t.d_link_over c_bit_of c_times c_over
  have c_seat_pairs := ok_seat_pairs (P := P) (w := w) (base := base) t.T t.d_seat_pairs c_seat_count
  have c_all_links := ok_all_links (P := P) (w := w) (base := base) t.T t.d_all_links c_seat_pairs c_link_over c_free_standings
  have c_links_of := ok_links_of (P := P) (w := w) (base := base) t.T t.d_links_of c_check_pair c_link_over c_free_standings
  have c_draws := ok_draws (P := P) (w := w) (base := base) t.T t.d_draws c_check_carrier c_all_links c_is_below
  have c_shuns := ok_shuns (P := P) (w := w) (base := base) t.T t.d_shuns c_check_carrier c_all_links c_is_below
  have c_weights_of := ok_weights_of (P := P) (w := w) (base := base) t.T t.d_weights_of c_times
  have c_alone_of := ok_alone_of (P := P) (w := w) (base := base) t.T t.d_alone_of c_seat_count
  have c_is_unlinked := ok_is_unlinked (P := P) (w := w) (base := base) t.T t.d_is_unlinked c_check_carrier c_weights_of c_alone_of
  have c_counts_in := ok_counts_in (P := P) (w := w) (base := base) t.T t.d_counts_in c_seat_count c_bits_in c_plus
  have c_counts_by := ok_counts_by (P := P) (w := w) (base := base) t.T t.d_counts_by c_counts_in
  have c_powers_of := ok_powers_of (P := P) (w := w) (base := base) t.T t.d_powers_of c_times c_plus c_minus
  have c_table_of := ok_table_of (P := P) (w := w) (base := base) t.T t.d_table_of c_counts_by c_seat_count c_powers_of
  have c__law_cmp := ok__law_cmp (P := P) (w := w) (base := base) t.T t.d__law_cmp
  have c__law_gcd := ok__law_gcd (P := P) (w := w) (base := base) t.T t.d__law_gcd
  have c__law_ratio := ok__law_ratio (P := P) (w := w) (base := base) t.T t.d__law_ratio c__law_gcd
  have c_product := ok_product t.T t.sq.Z t.sq.m_product c_times c_plus
  have c_look := ok_look t.T t.sq.Z t.sq.m_look c_product
  obtain ⟨ft, fdt, pst, Gt, mt, bt⟩ := ok_take t.T t.sq.Z t.sq.m_take c_times c_minus c_over c_product c_look
  obtain ⟨fi, fdi, mk, Fi, bi⟩ := t.sq.ini.ex
  have Gi := ok_init t.T t.sq.Z Fi Gt mt bt
  obtain ⟨fs, fds, Fs, bs, gs⟩ := t.d_squares_of.ex
  have Gs := ok_squares_of t.T Fs mk t.sq.mgC Gi bi c_check_carrier c_table_of
  have c_fills := ok_fills_unlinked t.d_fills_unlinked t.sq.Z Gs gs Fs.kp bs
  have c_store := fo_of (P := P) (w := w) (base := base) t.d__law_store fun f fd F => ok__law_store t.T F
  have c_take := ok__law_take (P := P) (w := w) (base := base) t.T t.d__law_take
  have c_pick := ok__law_pick t.T t.d__law_pick c_take
  have c_mild := ok__law_mild t.T t.d__law_mild c_take c_pick c__law_ratio
  have c_row := ok__law_row_drawn t.T t.d__law_row_drawn c_take c_pick c__law_ratio c_mild
  have c_right := ok__law_right ⟨t.T, c_take, c_row, c__law_cmp, c_chains_fill_unlinked, okK_chains t.T t.d_chains_fill_unlinked c_check_chain c_is_below, c_chain_carrier, c_ring_carrier, c_draws, c_shuns, c_is_unlinked, c_fills, c_links_of⟩ t.d__law_right
  exact ok_law t.T c_store c_right F
end
end G
/-! E2 -/
namespace G
open PySem PySem.Spec PyProof.Rows L2
theorem fin_mk {P : Program} {w : World} {K : PySem.W.Frag} {h : Heap} {mg : Str → Option Value} {fa C f : Addr} {od an : Option Addr} {sl : Array (Option Value)} {oc kV dc pm cd ct : Value} (X : K.In h) (N : h.Ns mainGlobals mg) (hfa : mg "law" = some (.ref fa)) (t : Tops K mg C)
    (a : PySem.W.nsIn K mainGlobals "law" = some (some (.ref f))) (l : K.lookup f = some ⟨oc, od, .func (PySem.W.fnOf "law" "law" (defArgs s_law) (defBody s_law) (defScope s_law) .none kV dc pm an cd ct), sl⟩) (c : PySem.W.codeIn K cd "law" = true) (k : PySem.W.keepIn K (.ref f) = true) :
    ∃ fd : FuncData, (∀ (s : Shared) (u : Value), BindsTo s fd ⟨[u], []⟩ [("_law_script", u)]) ∧ ∀ base : Heap, K.In base → base.Ns mainGlobals mg → FnG P w K mg base 13 fa fd ["_law_script"] (spLaw K) := by
  have e := hfa.symm.trans (PySem.W.mg_of X N a)
  cases e
  exact ⟨PySem.W.fnOf "law" "law" (defArgs s_law) (defBody s_law) (defScope s_law) .none kV dc pm an cd ct, fun s u => .of_eq rfl, fun base _ _ => tops_law t (fun_mk (st := s_law) l c k)⟩
end G
open PySem PySem.W PyProof.Rows in
set_option maxRecDepth 100000 in
set_option maxHeartbeats 0 in
theorem PySem.Challenge.cw_guestseats_k68_whole_chains_like_unlinke_holds : PySem.Challenge.rw_guestseats_k68_whole_chains_like_unlinke.Holds := by
  w_on; o_law; k_head; (case hw => w_witness2)
  k_fill
  refine G.walkG (l := PySem.Challenge.rw_guestseats_k68_whole_chains_like_unlinke) (n := 63) (k := 13) (x := "_law_script") (sp := fun w => G.spLaw _) rfl (by decide) rfl ⟨rfl, by decide, by decide⟩ (fun w h Y => PySem.W.kIn_of Y) ?F (fun w H a ns hl _ hS => ⟨a, ns, rfl, hS, hl, fun _ => rfl⟩)
  case F =>
    intro w mg fa h KX hN hmg
    have z_len := PySem.W.mg_none_of (mg := mg) (n := "len") KX hN (by k_is)
    have z_tuple := PySem.W.mg_none_of (mg := mg) (n := "tuple") KX hN (by k_is)
    have z_all := PySem.W.mg_none_of (mg := mg) (n := "all") KX hN (by k_is)
    have z_any := PySem.W.mg_none_of (mg := mg) (n := "any") KX hN (by k_is)
    have z_max := PySem.W.mg_none_of (mg := mg) (n := "max") KX hN (by k_is)
    have z_min := PySem.W.mg_none_of (mg := mg) (n := "min") KX hN (by k_is)
    have z_abs := PySem.W.mg_none_of (mg := mg) (n := "abs") KX hN (by k_is)
    have z_int := PySem.W.mg_none_of (mg := mg) (n := "int") KX hN (by k_is)
    have z_bool := PySem.W.mg_none_of (mg := mg) (n := "bool") KX hN (by k_is)
    have z_sum := PySem.W.mg_none_of (mg := mg) (n := "sum") KX hN (by k_is)
    have z_list := PySem.W.mg_none_of (mg := mg) (n := "list") KX hN (by k_is)
    have z_range := PySem.W.mg_none_of (mg := mg) (n := "range") KX hN (by k_is)
    have z_zip := PySem.W.mg_none_of (mg := mg) (n := "zip") KX hN (by k_is)
    have z_isinstance := PySem.W.mg_none_of (mg := mg) (n := "isinstance") KX hN (by k_is)
    have z_repr := PySem.W.mg_none_of (mg := mg) (n := "repr") KX hN (by k_is)
    have z_divmod := PySem.W.mg_none_of (mg := mg) (n := "divmod") KX hN (by k_is)
    have z_gcd := PySem.W.mg_of (mg := mg) (n := "gcd") (v := .builtin "math.gcd") KX hN (by k_is)
    have z_most := G.gc_int (mg := mg) (i := 5) (x := "MOST_SEATS") (t := none) _ KX hN (by k_is) (by exact ⟨_, rfl⟩)
    have z_least := G.gc_int (mg := mg) (i := 3) (x := "LEAST_IN_RING") (t := none) _ KX hN (by k_is) (by exact ⟨_, rfl⟩)
    have z_zero := G.gc_tup (mg := mg) (x := "ZERO") (ns := [0, 1]) KX hN (by k_is) (by k_is) (by exact .cons ⟨_, rfl⟩ (.cons ⟨_, rfl⟩ .nil)) (by decide)
    have z_one := G.gc_tup (mg := mg) (x := "ONE") (ns := [1, 1]) KX hN (by k_is) (by k_is) (by exact .cons ⟨_, rfl⟩ (.cons ⟨_, rfl⟩ .nil)) (by decide)
    have z_sizes := G.gc_tup (mg := mg) (x := "SIZES") (ns := [2, 4, 8, 16, 32]) KX hN (by k_is) (by k_is) (by exact .cons ⟨_, rfl⟩ (.cons ⟨_, rfl⟩ (.cons ⟨_, rfl⟩ (.cons ⟨_, rfl⟩ (.cons ⟨_, rfl⟩ .nil))))) (by decide)
    have z_sizesk := G.tup_at (mg := mg) (x := "SIZES") KX hN (by k_is) (by k_is)
    have d_is_whole := G.df_mk (mg := mg) (x := "is_whole") (st := G.s_is_whole) (ps := ["value"]) KX hN (by k_is) (by k_is) (by k_is) (by k_is) (fun _ _ _ _ _ _ us hl => match us, hl with | [_], _ => rfl)
    have d_is_between := G.df_mk (mg := mg) (x := "is_between") (st := G.s_is_between) (ps := ["value", "low", "high"]) KX hN (by k_is) (by k_is) (by k_is) (by k_is) (fun _ _ _ _ _ _ us hl => match us, hl with | [_, _, _], _ => rfl)
    have d_are_wholes := G.df_mk (mg := mg) (x := "are_wholes") (st := G.s_are_wholes) (ps := ["value", "many"]) KX hN (by k_is) (by k_is) (by k_is) (by k_is) (fun _ _ _ _ _ _ us hl => match us, hl with | [_, _], _ => rfl)
    have d_divisor_of := G.df_mk (mg := mg) (x := "divisor_of") (st := G.s_divisor_of) (ps := ["numbers"]) KX hN (by k_is) (by k_is) (by k_is) (by k_is) (fun _ _ _ _ _ _ us hl => match us, hl with | [_], _ => rfl)
    have d_lowest := G.df_mk (mg := mg) (x := "lowest") (st := G.s_lowest) (ps := ["numbers"]) KX hN (by k_is) (by k_is) (by k_is) (by k_is) (fun _ _ _ _ _ _ us hl => match us, hl with | [_], _ => rfl)
    have d_is_ratio := G.df_mk (mg := mg) (x := "is_ratio") (st := G.s_is_ratio) (ps := ["value"]) KX hN (by k_is) (by k_is) (by k_is) (by k_is) (fun _ _ _ _ _ _ us hl => match us, hl with | [_], _ => rfl)
    have d_ratio := G.df_mk (mg := mg) (x := "ratio") (st := G.s_ratio) (ps := ["top", "low"]) KX hN (by k_is) (by k_is) (by k_is) (by k_is) (fun _ _ _ _ _ _ us hl => match us, hl with | [_, _], _ => rfl)
    have d_plus := G.df_mk (mg := mg) (x := "plus") (st := G.s_plus) (ps := ["one", "two"]) KX hN (by k_is) (by k_is) (by k_is) (by k_is) (fun _ _ _ _ _ _ us hl => match us, hl with | [_, _], _ => rfl)
    have d_minus := G.df_mk (mg := mg) (x := "minus") (st := G.s_minus) (ps := ["one", "two"]) KX hN (by k_is) (by k_is) (by k_is) (by k_is) (fun _ _ _ _ _ _ us hl => match us, hl with | [_, _], _ => rfl)
    have d_times := G.df_mk (mg := mg) (x := "times") (st := G.s_times) (ps := ["one", "two"]) KX hN (by k_is) (by k_is) (by k_is) (by k_is) (fun _ _ _ _ _ _ us hl => match us, hl with | [_, _], _ => rfl)
    have d_over := G.df_mk (mg := mg) (x := "over") (st := G.s_over) (ps := ["one", "two"]) KX hN (by k_is) (by k_is) (by k_is) (by k_is) (fun _ _ _ _ _ _ us hl => match us, hl with | [_, _], _ => rfl)
    have d_is_below := G.df_mk (mg := mg) (x := "is_below") (st := G.s_is_below) (ps := ["one", "two"]) KX hN (by k_is) (by k_is) (by k_is) (by k_is) (fun _ _ _ _ _ _ us hl => match us, hl with | [_, _], _ => rfl)
    have d_bits_in := G.df_mk (mg := mg) (x := "bits_in") (st := G.s_bits_in) (ps := ["number"]) KX hN (by k_is) (by k_is) (by k_is) (by k_is) (fun _ _ _ _ _ _ us hl => match us, hl with | [_], _ => rfl)
    have d_power := G.df_mk (mg := mg) (x := "power") (st := G.s_power) (ps := ["one", "many"]) KX hN (by k_is) (by k_is) (by k_is) (by k_is) (fun _ _ _ _ _ _ us hl => match us, hl with | [_, _], _ => rfl)
    have d_is_amount := G.df_mk (mg := mg) (x := "is_amount") (st := G.s_is_amount) (ps := ["value"]) KX hN (by k_is) (by k_is) (by k_is) (by k_is) (fun _ _ _ _ _ _ us hl => match us, hl with | [_], _ => rfl)
    have d_is_carrier := G.df_mk (mg := mg) (x := "is_carrier") (st := G.s_is_carrier) (ps := ["value"]) KX hN (by k_is) (by k_is) (by k_is) (by k_is) (fun _ _ _ _ _ _ us hl => match us, hl with | [_], _ => rfl)
    have d_check_carrier := G.df_mk (mg := mg) (x := "check_carrier") (st := G.s_check_carrier) (ps := ["value"]) KX hN (by k_is) (by k_is) (by k_is) (by k_is) (fun _ _ _ _ _ _ us hl => match us, hl with | [_], _ => rfl)
    have d_seat_count := G.df_mk (mg := mg) (x := "seat_count") (st := G.s_seat_count) (ps := ["carrier"]) KX hN (by k_is) (by k_is) (by k_is) (by k_is) (fun _ _ _ _ _ _ us hl => match us, hl with | [_], _ => rfl)
    have d_check_seat := G.df_mk (mg := mg) (x := "check_seat") (st := G.s_check_seat) (ps := ["carrier", "value"]) KX hN (by k_is) (by k_is) (by k_is) (by k_is) (fun _ _ _ _ _ _ us hl => match us, hl with | [_, _], _ => rfl)
    have d_check_other_seat := G.df_mk (mg := mg) (x := "check_other_seat") (st := G.s_check_other_seat) (ps := ["carrier", "seat", "value"]) KX hN (by k_is) (by k_is) (by k_is) (by k_is) (fun _ _ _ _ _ _ us hl => match us, hl with | [_, _, _], _ => rfl)
    have d_has_guest := G.df_mk (mg := mg) (x := "has_guest") (st := G.s_has_guest) (ps := ["standing", "seat"]) KX hN (by k_is) (by k_is) (by k_is) (by k_is) (fun _ _ _ _ _ _ us hl => match us, hl with | [_, _], _ => rfl)
    have d_is_chain := G.df_mk (mg := mg) (x := "is_chain") (st := G.s_is_chain) (ps := ["value"]) KX hN (by k_is) (by k_is) (by k_is) (by k_is) (fun _ _ _ _ _ _ us hl => match us, hl with | [_], _ => rfl)
    have d_check_chain := G.df_mk (mg := mg) (x := "check_chain") (st := G.s_check_chain) (ps := ["value"]) KX hN (by k_is) (by k_is) (by k_is) (by k_is) (fun _ _ _ _ _ _ us hl => match us, hl with | [_], _ => rfl)
    have d_check_row_seats := G.df_mk (mg := mg) (x := "check_row_seats") (st := G.s_check_row_seats) (ps := ["value", "least", "most"]) KX hN (by k_is) (by k_is) (by k_is) (by k_is) (fun _ _ _ _ _ _ us hl => match us, hl with | [_, _, _], _ => rfl)
    have d_pairs_in := G.df_mk (mg := mg) (x := "pairs_in") (st := G.s_pairs_in) (ps := ["standing", "seats"]) KX hN (by k_is) (by k_is) (by k_is) (by k_is) (fun _ _ _ _ _ _ us hl => match us, hl with | [_, _], _ => rfl)
    have d_weight_in := G.df_mk (mg := mg) (x := "weight_in") (st := G.s_weight_in) (ps := ["chain", "many", "pairs"]) KX hN (by k_is) (by k_is) (by k_is) (by k_is) (fun _ _ _ _ _ _ us hl => match us, hl with | [_, _, _], _ => rfl)
    have d_circle_pairs := G.df_mk (mg := mg) (x := "circle_pairs") (st := G.s_circle_pairs) (ps := ["standing", "seats"]) KX hN (by k_is) (by k_is) (by k_is) (by k_is) (fun _ _ _ _ _ _ us hl => match us, hl with | [_, _], _ => rfl)
    have d_chain_carrier := G.df_mk (mg := mg) (x := "chain_carrier") (st := G.s_chain_carrier) (ps := ["chain", "seats"]) KX hN (by k_is) (by k_is) (by k_is) (by k_is) (fun _ _ _ _ _ _ us hl => match us, hl with | [_, _], _ => rfl)
    have d_ring_carrier := G.df_mk (mg := mg) (x := "ring_carrier") (st := G.s_ring_carrier) (ps := ["chain", "seats"]) KX hN (by k_is) (by k_is) (by k_is) (by k_is) (fun _ _ _ _ _ _ us hl => match us, hl with | [_, _], _ => rfl)
    have d_chains_fill_unlinked := G.df_mk (mg := mg) (x := "chains_fill_unlinked") (st := G.s_chains_fill_unlinked) (ps := ["chain"]) KX hN (by k_is) (by k_is) (by k_is) (by k_is) (fun _ _ _ _ _ _ us hl => match us, hl with | [_], _ => rfl)
    have d_check_pair := G.df_mk (mg := mg) (x := "check_pair") (st := G.s_check_pair) (ps := ["carrier", "seat", "other"]) KX hN (by k_is) (by k_is) (by k_is) (by k_is) (fun _ _ _ _ _ _ us hl => match us, hl with | [_, _, _], _ => rfl)
    have d_bit_of := G.df_mk (mg := mg) (x := "bit_of") (st := G.s_bit_of) (ps := ["seat"]) KX hN (by k_is) (by k_is) (by k_is) (by k_is) (fun _ _ _ _ _ _ us hl => match us, hl with | [_], _ => rfl)
    have d_is_free := G.df_mk (mg := mg) (x := "is_free") (st := G.s_is_free) (ps := ["standing", "seat", "other"]) KX hN (by k_is) (by k_is) (by k_is) (by k_is) (fun _ _ _ _ _ _ us hl => match us, hl with | [_, _, _], _ => rfl)
    have d_free_standings := G.df_mk (mg := mg) (x := "free_standings") (st := G.s_free_standings) (ps := ["carrier", "seat", "other"]) KX hN (by k_is) (by k_is) (by k_is) (by k_is) (fun _ _ _ _ _ _ us hl => match us, hl with | [_, _, _], _ => rfl)
    have d_link_over := G.df_mk (mg := mg) (x := "link_over") (st := G.s_link_over) (ps := ["carrier", "seat", "other", "standing"]) KX hN (by k_is) (by k_is) (by k_is) (by k_is) (fun _ _ _ _ _ _ us hl => match us, hl with | [_, _, _, _], _ => rfl)
    have d_seat_pairs := G.df_mk (mg := mg) (x := "seat_pairs") (st := G.s_seat_pairs) (ps := ["carrier"]) KX hN (by k_is) (by k_is) (by k_is) (by k_is) (fun _ _ _ _ _ _ us hl => match us, hl with | [_], _ => rfl)
    have d_all_links := G.df_mk (mg := mg) (x := "all_links") (st := G.s_all_links) (ps := ["carrier"]) KX hN (by k_is) (by k_is) (by k_is) (by k_is) (fun _ _ _ _ _ _ us hl => match us, hl with | [_], _ => rfl)
    have d_links_of := G.df_mk (mg := mg) (x := "links_of") (st := G.s_links_of) (ps := ["carrier", "seat", "other"]) KX hN (by k_is) (by k_is) (by k_is) (by k_is) (fun _ _ _ _ _ _ us hl => match us, hl with | [_, _, _], _ => rfl)
    have d_draws := G.df_mk (mg := mg) (x := "draws") (st := G.s_draws) (ps := ["carrier"]) KX hN (by k_is) (by k_is) (by k_is) (by k_is) (fun _ _ _ _ _ _ us hl => match us, hl with | [_], _ => rfl)
    have d_shuns := G.df_mk (mg := mg) (x := "shuns") (st := G.s_shuns) (ps := ["carrier"]) KX hN (by k_is) (by k_is) (by k_is) (by k_is) (fun _ _ _ _ _ _ us hl => match us, hl with | [_], _ => rfl)
    have d_weights_of := G.df_mk (mg := mg) (x := "weights_of") (st := G.s_weights_of) (ps := ["factors"]) KX hN (by k_is) (by k_is) (by k_is) (by k_is) (fun _ _ _ _ _ _ us hl => match us, hl with | [_], _ => rfl)
    have d_alone_of := G.df_mk (mg := mg) (x := "alone_of") (st := G.s_alone_of) (ps := ["carrier"]) KX hN (by k_is) (by k_is) (by k_is) (by k_is) (fun _ _ _ _ _ _ us hl => match us, hl with | [_], _ => rfl)
    have d_is_unlinked := G.df_mk (mg := mg) (x := "is_unlinked") (st := G.s_is_unlinked) (ps := ["carrier"]) KX hN (by k_is) (by k_is) (by k_is) (by k_is) (fun _ _ _ _ _ _ us hl => match us, hl with | [_], _ => rfl)
    have d_counts_in := G.df_mk (mg := mg) (x := "counts_in") (st := G.s_counts_in) (ps := ["carrier", "standings"]) KX hN (by k_is) (by k_is) (by k_is) (by k_is) (fun _ _ _ _ _ _ us hl => match us, hl with | [_, _], _ => rfl)
    have d_counts_by := G.df_mk (mg := mg) (x := "counts_by") (st := G.s_counts_by) (ps := ["carrier"]) KX hN (by k_is) (by k_is) (by k_is) (by k_is) (fun _ _ _ _ _ _ us hl => match us, hl with | [_], _ => rfl)
    have d_powers_of := G.df_mk (mg := mg) (x := "powers_of") (st := G.s_powers_of) (ps := ["row", "many"]) KX hN (by k_is) (by k_is) (by k_is) (by k_is) (fun _ _ _ _ _ _ us hl => match us, hl with | [_, _], _ => rfl)
    have d_table_of := G.df_mk (mg := mg) (x := "table_of") (st := G.s_table_of) (ps := ["carrier"]) KX hN (by k_is) (by k_is) (by k_is) (by k_is) (fun _ _ _ _ _ _ us hl => match us, hl with | [_], _ => rfl)
    have d__law_cmp := G.df_mk (mg := mg) (x := "_law_cmp") (st := G.s__law_cmp) (ps := ["_law_one", "_law_two"]) KX hN (by k_is) (by k_is) (by k_is) (by k_is) (fun _ _ _ _ _ _ us hl => match us, hl with | [_, _], _ => rfl)
    have d__law_gcd := G.df_mk (mg := mg) (x := "_law_gcd") (st := G.s__law_gcd) (ps := ["_law_one", "_law_two"]) KX hN (by k_is) (by k_is) (by k_is) (by k_is) (fun _ _ _ _ _ _ us hl => match us, hl with | [_, _], _ => rfl)
    have d__law_ratio := G.df_mk (mg := mg) (x := "_law_ratio") (st := G.s__law_ratio) (ps := ["_law_n", "_law_m"]) KX hN (by k_is) (by k_is) (by k_is) (by k_is) (fun _ _ _ _ _ _ us hl => match us, hl with | [_, _], _ => rfl)
    have d_squares_of := G.df_mk (mg := mg) (x := "squares_of") (st := G.s_squares_of) (ps := ["carrier"]) KX hN (by k_is) (by k_is) (by k_is) (by k_is) (fun _ _ _ _ _ _ us hl => match us, hl with | [_], _ => rfl)
    have d_fills_unlinked := G.df_mk (mg := mg) (x := "fills_unlinked") (st := G.s_fills_unlinked) (ps := ["carrier"]) KX hN (by k_is) (by k_is) (by k_is) (by k_is) (fun _ _ _ _ _ _ us hl => match us, hl with | [_], _ => rfl)
    have d__law_store := G.df_mk (mg := mg) (x := "_law_store") (st := G.s__law_store) (ps := ["_law_script", "_law_turn"]) KX hN (by k_is) (by k_is) (by k_is) (by k_is) (fun _ _ _ _ _ _ us hl => match us, hl with | [_, _], _ => rfl)
    have d__law_take := G.df_mk (mg := mg) (x := "_law_take") (st := G.s__law_take) (ps := ["_law_store_here", "_law_top"]) KX hN (by k_is) (by k_is) (by k_is) (by k_is) (fun _ _ _ _ _ _ us hl => match us, hl with | [_, _], _ => rfl)
    have d__law_pick := G.df_mk (mg := mg) (x := "_law_pick") (st := G.s__law_pick) (ps := ["_law_store_here", "_law_some"]) KX hN (by k_is) (by k_is) (by k_is) (by k_is) (fun _ _ _ _ _ _ us hl => match us, hl with | [_, _], _ => rfl)
    have d__law_mild := G.df_mk (mg := mg) (x := "_law_mild") (st := G.s__law_mild) (ps := ["_law_store_here"]) KX hN (by k_is) (by k_is) (by k_is) (by k_is) (fun _ _ _ _ _ _ us hl => match us, hl with | [_], _ => rfl)
    have d__law_row_drawn := G.df_mk (mg := mg) (x := "_law_row_drawn") (st := G.s__law_row_drawn) (ps := ["_law_store_here"]) KX hN (by k_is) (by k_is) (by k_is) (by k_is) (fun _ _ _ _ _ _ us hl => match us, hl with | [_], _ => rfl)
    have d__law_right := G.df_mk (mg := mg) (x := "_law_right") (st := G.s__law_right) (ps := ["_law_store_here"]) KX hN (by k_is) (by k_is) (by k_is) (by k_is) (fun _ _ _ _ _ _ us hl => match us, hl with | [_], _ => rfl)
    have sq := G.sq_mk (mg := mg) KX hN (by k_is) (by k_is) (by k_is) (by k_is) (by k_is) (by k_is) (by k_is) (by k_is) (by k_is) (by k_is) (by k_is) (by k_is) (by k_is) (by k_is) (by k_is) (by k_is) (by k_is) (by k_is) (by k_is) (by k_is) (by k_is) (by k_is) (by k_is) (by k_is) (by k_is) (by k_is) (by k_is) (by k_is) (by k_is) (by k_is) (by k_is)
    exact G.fin_mk KX hN hmg ⟨⟨z_len, z_tuple, z_all, z_any, z_max, z_min, z_abs, z_int, z_bool, z_sum, z_list, z_range, z_zip, z_isinstance, z_repr, z_divmod, z_gcd, z_zero, z_one, z_sizes, z_sizesk, z_most, z_least⟩, d_is_whole, d_is_between, d_are_wholes, d_divisor_of, d_lowest, d_is_ratio, d_ratio, d_plus, d_minus, d_times, d_over, d_is_below, d_bits_in, d_power, d_is_amount, d_is_carrier, d_check_carrier, d_seat_count, d_check_seat, d_check_other_seat, d_has_guest, d_is_chain, d_check_chain, d_check_row_seats, d_pairs_in, d_weight_in, d_circle_pairs, d_chain_carrier, d_ring_carrier, d_chains_fill_unlinked, d_check_pair, d_bit_of, d_is_free, d_free_standings, d_link_over, d_seat_pairs, d_all_links, d_links_of, d_draws, d_shuns, d_weights_of, d_alone_of, d_is_unlinked, d_counts_in, d_counts_by, d_powers_of, d_table_of, d__law_cmp, d__law_gcd, d__law_ratio, d_squares_of, d_fills_unlinked, d__law_store, d__law_take, d__law_pick, d__law_mild, d__law_row_drawn, d__law_right, sq⟩ (by k_is) (by k_is) (by k_is) (by k_is)
