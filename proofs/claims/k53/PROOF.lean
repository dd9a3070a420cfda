import PyProof.Rows.All
import Wide.All
import OpenK.AllK
import Wide.FinOn
import PySem.Challenge.RW_soldwhole_k53_whole_round_behind_round
import HandS.ForMost
import HandS.ForExc
import HandS.Deep
import HandS.Star
import HandS.Flow
import HandS.Lambda
import HandS.Evl
import HandS.Wide
import KE.GoesEnum
import HandS.ExcInit
import HandS.WordsExc
import HandS.ClsMeth
import PyProof.ReprRoads
import PyProof.Rows.StrOr
import HandS.EndOwn
set_option Elab.async false
set_option linter.all false
set_option maxRecDepth 100000
set_option maxHeartbeats 8000000
namespace My
theorem gcd_step (x y : Nat) (h : y ≠ 0) : Nat.gcd y (x % y) = Nat.gcd x y := by
  rw [Nat.gcd_comm x y, Nat.gcd_rec y x, Nat.gcd_comm]
theorem fmod_nat (x y : Nat) : ((x : Int).fmod (y : Int)) = ((x % y : Nat) : Int) := by
  rw [Int.fmod_eq_emod_of_nonneg _ (by omega)]; rfl
/-- what the program calls shared -/
def shared (n d : Int) : Int := if d > 0 then ((n.natAbs.gcd d.natAbs : Nat) : Int) else 0 - ((n.natAbs.gcd d.natAbs : Nat) : Int)
theorem shared_ne {n d : Int} (h : d ≠ 0) : shared n d ≠ 0 := by
  unfold shared
  have : 0 < n.natAbs.gcd d.natAbs := Nat.gcd_pos_of_pos_right _ (by omega)
  split <;> omega
theorem fdiv_exact {a b : Int} (hb : b ≠ 0) (k : Int) (h : a = k * b) : a.fdiv b = k := by
  rw [h]; exact Int.mul_fdiv_cancel k hb
theorem shared_dvd_left (n d : Int) : ∃ k, n = k * shared n d := by
  have h : ((n.natAbs.gcd d.natAbs : Nat) : Int) ∣ n := by
    exact Int.ofNat_dvd_left.mpr (Nat.gcd_dvd_left ..)
  obtain ⟨k, hk⟩ := h
  unfold shared
  split
  · exact ⟨k, by rw [Int.mul_comm]; exact hk⟩
  · refine ⟨-k, ?_⟩
    rw [Int.zero_sub, Int.neg_mul_neg, Int.mul_comm]; exact hk
theorem shared_dvd_right (n d : Int) : ∃ k, d = k * shared n d := by
  have h : ((n.natAbs.gcd d.natAbs : Nat) : Int) ∣ d := by
    exact Int.ofNat_dvd_left.mpr (Nat.gcd_dvd_right ..)
  obtain ⟨k, hk⟩ := h
  unfold shared
  split
  · exact ⟨k, by rw [Int.mul_comm]; exact hk⟩
  · refine ⟨-k, ?_⟩
    rw [Int.zero_sub, Int.neg_mul_neg, Int.mul_comm]; exact hk
theorem red_num {n d : Int} (h : d ≠ 0) : n.fdiv (shared n d) = (Rat.divInt n d).num := by
  obtain ⟨k, hk⟩ := shared_dvd_left n d
  rw [fdiv_exact (shared_ne h) k hk, Rat.num_divInt]
  have e : ((Int.gcd d n : Nat) : Int) = ((n.natAbs.gcd d.natAbs : Nat) : Int) := by
    rw [Int.gcd_comm]; rfl
  rw [e]
  have g0 : 0 < n.natAbs.gcd d.natAbs := Nat.gcd_pos_of_pos_right _ (by omega)
  generalize hg : ((n.natAbs.gcd d.natAbs : Nat) : Int) = g at *
  have g1 : 0 < g := by omega
  symm
  apply Int.ediv_eq_of_eq_mul_left (by omega)
  unfold shared at hk
  rw [hg] at hk
  split at hk
  · rename_i hd
    rw [Int.sign_eq_one_of_pos hd, Int.one_mul]; exact hk
  · rw [Int.sign_eq_neg_one_of_neg (by omega)]
    rw [Int.zero_sub, Int.mul_neg] at hk
    omega
theorem red_den {n d : Int} (h : d ≠ 0) : d.fdiv (shared n d) = ((Rat.divInt n d).den : Int) := by
  obtain ⟨k, hk⟩ := shared_dvd_right n d
  rw [fdiv_exact (shared_ne h) k hk, Rat.den_divInt, if_neg h]
  have e : Int.gcd d n = n.natAbs.gcd d.natAbs := by
    rw [Int.gcd_comm]; rfl
  rw [e]
  have g0 : 0 < n.natAbs.gcd d.natAbs := Nat.gcd_pos_of_pos_right _ (by omega)
  rw [Int.natCast_ediv]
  generalize hg : ((n.natAbs.gcd d.natAbs : Nat) : Int) = g at *
  have g1 : 0 < g := by omega
  symm
  apply Int.ediv_eq_of_eq_mul_left (by omega)
  unfold shared at hk
  rw [hg] at hk
  split at hk
  · omega
  · rw [Int.zero_sub, Int.mul_neg] at hk
    omega
theorem den_ne (q : Rat) : ((q.den : Nat) : Int) ≠ 0 := by
  have := q.den_nz; omega
theorem den_pos (q : Rat) : 0 < ((q.den : Nat) : Int) := by
  have := q.den_nz; omega
theorem divInt_add (a b : Rat) : Rat.divInt (a.num * b.den + b.num * a.den) (a.den * b.den) = a + b := by
  rw [Rat.add_def', ← Int.natCast_mul, Rat.divInt_ofNat]
theorem divInt_sub (a b : Rat) : Rat.divInt (a.num * b.den - b.num * a.den) (a.den * b.den) = a - b := by
  rw [Rat.sub_def', ← Int.natCast_mul, Rat.divInt_ofNat]
theorem divInt_mul (a b : Rat) : Rat.divInt (a.num * b.num) (a.den * b.den) = a * b := by
  rw [Rat.mul_def', ← Int.natCast_mul, Rat.divInt_ofNat]
theorem divInt_div (a b : Rat) : Rat.divInt (a.num * b.den) (a.den * b.num) = a / b := by
  have e : a / b = Rat.divInt a.num a.den * (Rat.divInt b.num b.den)⁻¹ := by
    rw [Rat.num_divInt_den, Rat.num_divInt_den]; rfl
  rw [e, Rat.inv_divInt, Rat.divInt_mul_divInt]
theorem cmp_lt (a b : Rat) : (a.num * b.den < b.num * a.den) ↔ a < b := (Rat.lt_iff a b).symm
end My
namespace My
/-- the bits of a fraction -/
def sz (q : Rat) : Nat := max q.num.natAbs.log2 q.den.log2 + 1
theorem sz_of_lt {q : Rat} {k : Nat} (hk : 0 < k) (h1 : q.num.natAbs < 2 ^ k) (h2 : q.den < 2 ^ k) : sz q ≤ k := by
  unfold sz
  have a : q.num.natAbs.log2 < k := by
    by_cases h : q.num.natAbs = 0
    · rw [h]; simpa using hk
    · exact (Nat.log2_lt h).mpr h1
  have b : q.den.log2 < k := (Nat.log2_lt q.den_nz).mpr h2
  omega
theorem num_lt_sz (q : Rat) : q.num.natAbs < 2 ^ sz q := by
  have h := Nat.lt_log2_self (n := q.num.natAbs)
  have : 2 ^ (q.num.natAbs.log2 + 1) ≤ 2 ^ sz q := Nat.pow_le_pow_right (by decide) (by unfold sz; omega)
  omega
theorem den_lt_sz (q : Rat) : q.den < 2 ^ sz q := by
  have h := Nat.lt_log2_self (n := q.den)
  have : 2 ^ (q.den.log2 + 1) ≤ 2 ^ sz q := Nat.pow_le_pow_right (by decide) (by unfold sz; omega)
  omega
theorem sz_pos (q : Rat) : 0 < sz q := by unfold sz; omega
theorem natAbs_divInt_le (n d : Int) : (Rat.divInt n d).num.natAbs ≤ n.natAbs := by
  rw [Rat.num_divInt]
  have h1 : (d.sign * n / ((d.gcd n : Nat) : Int)).natAbs ≤ (d.sign * n).natAbs := by
    exact Int.natAbs_ediv_le_natAbs _ _
  have h2 : (d.sign * n).natAbs ≤ n.natAbs := by
    rw [Int.natAbs_mul]
    have : d.sign.natAbs ≤ 1 := by
      rcases Int.lt_trichotomy d 0 with h | h | h
      · rw [Int.sign_eq_neg_one_of_neg h]; decide
      · subst h; decide
      · rw [Int.sign_eq_one_of_pos h]; decide
    calc d.sign.natAbs * n.natAbs ≤ 1 * n.natAbs := Nat.mul_le_mul_right _ this
      _ = n.natAbs := Nat.one_mul _
  omega
theorem den_divInt_le {n d : Int} (h : d ≠ 0) : (Rat.divInt n d).den ≤ d.natAbs := by
  rw [Rat.den_divInt, if_neg h]
  exact Nat.div_le_self ..
theorem sz_divInt {n d : Int} {k : Nat} (hd : d ≠ 0) (hk : 0 < k) (h1 : n.natAbs < 2 ^ k) (h2 : d.natAbs < 2 ^ k) : sz (Rat.divInt n d) ≤ k :=
  sz_of_lt hk (Nat.lt_of_le_of_lt (natAbs_divInt_le n d) h1) (Nat.lt_of_le_of_lt (den_divInt_le hd) h2)
theorem mul_lt_pow {a b i j : Nat} (h1 : a < 2 ^ i) (h2 : b < 2 ^ j) : a * b < 2 ^ (i + j) := by
  rw [Nat.pow_add]; exact Nat.mul_lt_mul'' h1 h2
theorem sz_add (a b : Rat) : sz (a + b) ≤ sz a + sz b + 1 := by
  rw [← divInt_add]
  have h1 := mul_lt_pow (num_lt_sz a) (den_lt_sz b)
  have h2 := mul_lt_pow (num_lt_sz b) (den_lt_sz a)
  have h3 := mul_lt_pow (den_lt_sz a) (den_lt_sz b)
  rw [Nat.add_comm (sz b)] at h2
  have e : 2 ^ (sz a + sz b + 1) = 2 ^ (sz a + sz b) * 2 := Nat.pow_succ ..
  refine sz_divInt (Int.mul_ne_zero (den_ne a) (den_ne b)) (by omega) ?_ ?_
  · have := Int.natAbs_add_le (a.num * b.den) (b.num * a.den)
    rw [Int.natAbs_mul, Int.natAbs_mul, Int.natAbs_natCast, Int.natAbs_natCast] at this
    omega
  · rw [Int.natAbs_mul, Int.natAbs_natCast, Int.natAbs_natCast]; omega
theorem sz_sub (a b : Rat) : sz (a - b) ≤ sz a + sz b + 1 := by
  rw [← divInt_sub]
  have h1 := mul_lt_pow (num_lt_sz a) (den_lt_sz b)
  have h2 := mul_lt_pow (num_lt_sz b) (den_lt_sz a)
  have h3 := mul_lt_pow (den_lt_sz a) (den_lt_sz b)
  rw [Nat.add_comm (sz b)] at h2
  have e : 2 ^ (sz a + sz b + 1) = 2 ^ (sz a + sz b) * 2 := Nat.pow_succ ..
  refine sz_divInt (Int.mul_ne_zero (den_ne a) (den_ne b)) (by omega) ?_ ?_
  · have := Int.natAbs_sub_le (a.num * b.den) (b.num * a.den)
    rw [Int.natAbs_mul, Int.natAbs_mul, Int.natAbs_natCast, Int.natAbs_natCast] at this
    omega
  · rw [Int.natAbs_mul, Int.natAbs_natCast, Int.natAbs_natCast]; omega
theorem sz_mul (a b : Rat) : sz (a * b) ≤ sz a + sz b := by
  rw [← divInt_mul]
  have h1 := mul_lt_pow (num_lt_sz a) (num_lt_sz b)
  have h3 := mul_lt_pow (den_lt_sz a) (den_lt_sz b)
  have := sz_pos a
  refine sz_divInt (Int.mul_ne_zero (den_ne a) (den_ne b)) (by omega) ?_ ?_
  · rw [Int.natAbs_mul]; omega
  · rw [Int.natAbs_mul, Int.natAbs_natCast, Int.natAbs_natCast]; omega
theorem sz_div (a b : Rat) : sz (a / b) ≤ sz a + sz b := by
  rw [← divInt_div]
  have h1 := mul_lt_pow (num_lt_sz a) (den_lt_sz b)
  have h3 := mul_lt_pow (den_lt_sz a) (num_lt_sz b)
  have := sz_pos a
  by_cases hb : b.num = 0
  · rw [hb, Int.mul_zero, Rat.divInt_zero]
    have : sz 0 = 1 := by decide +kernel
    omega
  · refine sz_divInt (Int.mul_ne_zero (den_ne a) hb) (by omega) ?_ ?_
    · rw [Int.natAbs_mul, Int.natAbs_natCast]; omega
    · rw [Int.natAbs_mul, Int.natAbs_natCast]; omega
theorem sz_neg (a : Rat) : sz (-a) = sz a := by
  unfold sz
  rw [Rat.neg_num, Rat.neg_den, Int.natAbs_neg]
theorem sz_zero : sz 0 = 1 := by decide +kernel
theorem sz_one : sz 1 = 1 := by decide +kernel
end My
namespace My
abbrev Pt := Rat × Rat
structure Cv where
  cs : List Pt
  sl : Rat
/-- slope from corner to corner -/
def sb (a b : Pt) : Rat := (b.2 - a.2) / (b.1 - a.1)
def ahead (sl : Rat) (h : Pt) : List Pt → Rat
  | [] => sl
  | h2 :: _ => sb h h2
def prune (sl : Rat) (k : Pt) : List Pt → List Pt
  | [] => []
  | h :: t => if sb k h = ahead sl h t then prune sl k t else h :: prune sl h t
def mkCv : List Pt → Rat → Cv
  | [], sl => ⟨[], sl⟩
  | c :: r, sl => ⟨c :: prune sl c r, sl⟩
def cv0 : Cv := ⟨[(0, 0)], 0⟩
def ins (found : List Rat) (q : Rat) : List Rat :=
  if q ∈ found then found else found.take (found.filter (fun o => decide (o < q))).length ++ [q] ++ found.drop (found.filter (fun o => decide (o < q))).length
def inOrder (qs : List Rat) : List Rat := qs.foldl ins []
def levelsOf (cvs : List Cv) : List Rat := inOrder (0 :: (cvs.map fun c => c.cs.map (·.1)).flatten)
/-- slope behind the corner at an index -/
def slopeAt (c : Cv) (i : Nat) : Rat := match c.cs[i]?, c.cs[i + 1]? with
  | some a, some b => sb a b
  | _, _ => c.sl
def ixLe (c : Cv) (x : Rat) : Nat := (c.cs.filter fun p => decide (p.1 ≤ x)).length - 1
def payAt (c : Cv) (x : Rat) : Rat := (c.cs.getD (ixLe c x) (0, 0)).2 + slopeAt c (ixLe c x) * (x - (c.cs.getD (ixLe c x) (0, 0)).1)
def risesAt (c : Cv) (x : Rat) : Rat := slopeAt c (ixLe c x)
def addedUp (cvs : List Cv) : Cv := mkCv ((levelsOf cvs).map fun x => (x, (cvs.map fun c => payAt c x).sum)) (cvs.map (·.sl)).sum
def more (a b : Cv) (x : Rat) : Rat := payAt a x - payAt b x
def steeper (a b : Cv) (x : Rat) : Rat := risesAt a x - risesAt b x
def absR (q : Rat) : Rat := if q < 0 then -q else q
/-- where two curves meet behind a level, ahead of the next one -/
def meetAt (a b : Cv) (x : Rat) (nxt : Option Rat) : List Rat :=
  if more a b x * steeper a b x < 0 then
    let met := x + absR (more a b x) / absR (steeper a b x)
    match nxt with
    | none => [met]
    | some y => if met < y then [met] else []
  else []
def meetGo (a b : Cv) : List Rat → List Rat
  | [] => []
  | x :: r => meetAt a b x r.head? ++ meetGo a b r
def meetings (a b : Cv) : List Rat := meetGo a b (levelsOf [a, b])
def maxLevels (a b : Cv) : List Rat := inOrder (levelsOf [a, b] ++ meetings a b)
def mx (a b : Rat) : Rat := if b < a then a else b
def maxCorners (a b : Cv) : List Pt := (maxLevels a b).map fun x => (x, mx (payAt a x) (payAt b x))
def isMine (a b : Cv) (x : Rat) : Bool := decide (0 < more a b x) || (decide (more a b x = 0) && decide (0 < steeper a b x))
def greaterOf (a b : Cv) : Cv := mkCv (maxCorners a b) (if isMine a b ((maxLevels a b).getLastD 0) then a.sl else b.sl)
/-- the corners that pay less -/
def belowIx (c : Cv) (y : Rat) : List Nat := (List.range c.cs.length).filter fun i => decide ((c.cs.getD i (0, 0)).2 < y)
/-- the least level of a pay; nothing if there is none -/
def reached (c : Cv) (y : Rat) : Option Rat :=
  if belowIx c y = [] then some 0 else
    if slopeAt c ((belowIx c y).getLastD 0) = 0 then none
    else some ((c.cs.getD ((belowIx c y).getLastD 0) (0, 0)).1 + (y - (c.cs.getD ((belowIx c y).getLastD 0) (0, 0)).2) / slopeAt c ((belowIx c y).getLastD 0))
def scaled (c : Cv) (f : Rat) : Cv := mkCv (c.cs.map fun p => (p.1, p.2 * f)) (c.sl * f)
/-- levels ascending -/
def Asc (l : List Pt) : Prop := l.Pairwise fun a b => a.1 < b.1
/-- sizes -/
def PtSz (n : Nat) (p : Pt) : Prop := sz p.1 ≤ n ∧ sz p.2 ≤ n
structure CvSz (n : Nat) (c : Cv) : Prop where
  ne : c.cs ≠ []
  asc : Asc c.cs
  pts : ∀ p ∈ c.cs, PtSz n p
  sl : sz c.sl ≤ 4 * n + 2
theorem sz_sb {n : Nat} {a b : Pt} (ha : PtSz n a) (hb : PtSz n b) : sz (sb a b) ≤ 4 * n + 2 := by
  obtain ⟨a1, a2⟩ := ha
  obtain ⟨b1, b2⟩ := hb
  have h1 := sz_sub b.2 a.2
  have h2 := sz_sub b.1 a.1
  have h3 := sz_div (b.2 - a.2) (b.1 - a.1)
  unfold sb
  omega
theorem CvSz.mono {n m : Nat} {c : Cv} (h : CvSz n c) (hm : n ≤ m) : CvSz m c :=
  ⟨h.ne, h.asc, fun p hp => ⟨Nat.le_trans (h.pts p hp).1 hm, Nat.le_trans (h.pts p hp).2 hm⟩, by have := h.sl; omega⟩
theorem CvSz.slope {n : Nat} {c : Cv} (h : CvSz n c) (i : Nat) : sz (slopeAt c i) ≤ 4 * n + 2 := by
  unfold slopeAt
  split
  · rename_i a b h1 h2
    exact sz_sb (h.pts _ (List.mem_of_getElem? h1)) (h.pts _ (List.mem_of_getElem? h2))
  · exact h.sl
theorem ins_mem {fs : List Rat} {q x : Rat} : x ∈ ins fs q ↔ x ∈ fs ∨ x = q := by
  unfold ins
  split
  · rename_i h
    constructor
    · exact Or.inl
    · rintro (h' | rfl)
      · exact h'
      · exact h
  · have e : ∀ n, x ∈ fs.take n ∨ x ∈ fs.drop n ↔ x ∈ fs := fun n => by
      rw [← List.mem_append, List.take_append_drop]
    rw [List.mem_append, List.mem_append, List.mem_singleton, ← e (fs.filter (fun o => decide (o < q))).length]
    constructor
    · rintro ((h | h) | h)
      · exact .inl (.inl h)
      · exact .inr h
      · exact .inl (.inr h)
    · rintro ((h | h) | h)
      · exact .inl (.inl h)
      · exact .inr h
      · exact .inl (.inr h)
theorem ins_len (fs : List Rat) (q : Rat) : (ins fs q).length ≤ fs.length + 1 := by
  unfold ins
  split
  · omega
  · rw [List.length_append, List.length_append, List.length_take, List.length_drop, List.length_singleton]; omega
theorem inOrder_snoc (l : List Rat) (q : Rat) : inOrder (l ++ [q]) = ins (inOrder l) q := by
  unfold inOrder
  rw [List.foldl_append]; rfl
theorem inOrder_mem {x : Rat} : ∀ {l : List Rat}, x ∈ inOrder l ↔ x ∈ l := by
  intro l
  have aux : ∀ (l acc : List Rat), x ∈ l.foldl ins acc ↔ x ∈ acc ∨ x ∈ l := by
    intro l
    induction l with
    | nil => intro acc; simp
    | cons a l ih =>
      intro acc
      rw [List.foldl_cons, ih, ins_mem, List.mem_cons]
      constructor
      · rintro ((h | h) | h)
        · exact .inl h
        · exact .inr (.inl h)
        · exact .inr (.inr h)
      · rintro (h | h | h)
        · exact .inl (.inl h)
        · exact .inl (.inr h)
        · exact .inr h
  unfold inOrder
  rw [aux]; simp
theorem inOrder_len : ∀ l : List Rat, (inOrder l).length ≤ l.length := by
  intro l
  have aux : ∀ (l acc : List Rat), (l.foldl ins acc).length ≤ acc.length + l.length := by
    intro l
    induction l with
    | nil => intro acc; simp
    | cons a l ih =>
      intro acc
      rw [List.foldl_cons, List.length_cons]
      have := ih (ins acc a)
      have := ins_len acc a
      omega
  have := aux l []
  simpa [inOrder] using this
/-- strictly rising -/
def Rise (l : List Rat) : Prop := l.Pairwise (· < ·)
theorem filter_lt_take {l : List Rat} {q : Rat} (h : Rise l) : l.filter (fun o => decide (o < q)) = l.take (l.filter (fun o => decide (o < q))).length ∧ ∀ x ∈ l.drop (l.filter (fun o => decide (o < q))).length, ¬ x < q := by
  induction l with
  | nil => simp
  | cons a l ih =>
    have h' := List.pairwise_cons.mp h
    by_cases ha : a < q
    · have e : (a :: l).filter (fun o => decide (o < q)) = a :: l.filter (fun o => decide (o < q)) := by simp [ha]
      obtain ⟨i1, i2⟩ := ih h'.2
      rw [e, List.length_cons, List.take_succ_cons, List.drop_succ_cons, ← i1]
      exact ⟨rfl, i2⟩
    · have e : (a :: l).filter (fun o => decide (o < q)) = [] := by
        rw [List.filter_eq_nil_iff]
        intro x hx
        rcases List.mem_cons.mp hx with rfl | hx
        · simpa using ha
        · have := h'.1 x hx
          simp only [decide_eq_true_eq]; grind
      rw [e]
      simp only [List.length_nil, List.take_zero, List.drop_zero, true_and]
      intro x hx
      rcases List.mem_cons.mp hx with rfl | hx
      · exact ha
      · have := h'.1 x hx; grind
theorem ins_rise {l : List Rat} {q : Rat} (h : Rise l) : Rise (ins l q) := by
  unfold ins
  split
  · exact h
  · rename_i hq
    obtain ⟨h1, h2⟩ := filter_lt_take (q := q) h
    generalize hn : (l.filter (fun o => decide (o < q))).length = n at *
    have ht : ∀ x ∈ l.take n, x < q := fun x hx => by
      rw [← h1] at hx
      simpa using (List.mem_filter.mp hx).2
    have hd : ∀ x ∈ l.drop n, q < x := fun x hx => by
      have a := h2 x hx
      have b : x ≠ q := fun e => hq (e ▸ List.mem_of_mem_drop hx)
      grind
    have hs : (l.take n ++ l.drop n).Pairwise (· < ·) := by rw [List.take_append_drop]; exact h
    have hs' := List.pairwise_append.mp hs
    unfold Rise
    rw [List.append_assoc]
    refine List.pairwise_append.mpr ⟨hs'.1, ?_, ?_⟩
    · show (q :: l.drop n).Pairwise (· < ·)
      exact List.pairwise_cons.mpr ⟨hd, hs'.2.1⟩
    · intro a ha b hb
      rcases List.mem_cons.mp hb with rfl | hb
      · exact ht a ha
      · exact hs'.2.2 a ha b hb
theorem inOrder_rise (l : List Rat) : Rise (inOrder l) := by
  have aux : ∀ (l acc : List Rat), Rise acc → Rise (l.foldl ins acc) := by
    intro l
    induction l with
    | nil => intro acc h; exact h
    | cons a l ih => intro acc h; rw [List.foldl_cons]; exact ih _ (ins_rise h)
  exact aux l [] List.Pairwise.nil
theorem asc_map {l : List Rat} (h : Rise l) (f : Rat → Rat) : Asc (l.map fun x => (x, f x)) := by
  unfold Asc
  rw [List.pairwise_map]
  exact h
/-- what joining two curves asks -/
structure preMeet (a b : Cv) : Prop where
  len : a.cs.length ≤ 300 ∧ b.cs.length ≤ 300
  za : ∃ p ∈ a.cs, p.1 = 0
  zb : ∃ p ∈ b.cs, p.1 = 0
  na : ∀ p ∈ a.cs, 0 ≤ p.1
  nb : ∀ p ∈ b.cs, 0 ≤ p.1
  siz : ∃ n, CvSz n a ∧ CvSz n b ∧ 1 ≤ n ∧ 200 * n + 200 ≤ 100000000
theorem levels2 {a b : Cv} {x : Rat} (h : x ∈ levelsOf [a, b]) : x = 0 ∨ (∃ p ∈ a.cs, p.1 = x) ∨ ∃ p ∈ b.cs, p.1 = x := by
  unfold levelsOf at h
  rw [inOrder_mem] at h
  rcases List.mem_cons.mp h with h | h
  · exact .inl h
  · right
    simp only [List.map_cons, List.map_nil, List.flatten_cons, List.flatten_nil, List.append_nil, List.mem_append, List.mem_map] at h
    exact h
theorem preMeet.lev {a b : Cv} (h : preMeet a b) {n : Nat} (ha : CvSz n a) (hb : CvSz n b) (hn : 1 ≤ n) {x : Rat} (hx : x ∈ levelsOf [a, b]) : 0 ≤ x ∧ sz x ≤ n := by
  rcases levels2 hx with rfl | ⟨p, hp, rfl⟩ | ⟨p, hp, rfl⟩
  · exact ⟨by grind, by rw [sz_zero]; exact hn⟩
  · exact ⟨h.na p hp, (ha.pts p hp).1⟩
  · exact ⟨h.nb p hp, (hb.pts p hp).1⟩
theorem meetGo_len (a b : Cv) : ∀ l : List Rat, (meetGo a b l).length ≤ l.length
  | [] => by simp [meetGo]
  | x :: r => by
    have := meetGo_len a b r
    have h2 : (meetAt a b x r.head?).length ≤ 1 := by
      unfold meetAt
      split
      · dsimp only
        split
        · simp
        · split <;> simp
      · simp
    simp only [meetGo, List.length_append, List.length_cons]
    omega
theorem levels2_len {a b : Cv} (h : preMeet a b) : (levelsOf [a, b]).length ≤ 601 := by
  have := inOrder_len (0 :: ([a, b].map fun c => c.cs.map (·.1)).flatten)
  simp only [List.map_cons, List.map_nil, List.flatten_cons, List.flatten_nil, List.append_nil, List.length_cons, List.length_append, List.length_map] at this
  have := h.len
  unfold levelsOf
  simp only [List.map_cons, List.map_nil, List.flatten_cons, List.flatten_nil, List.append_nil]
  omega
theorem absR_pos {q : Rat} (h : q ≠ 0) : 0 < absR q := by
  unfold absR
  split <;> grind
theorem sz_absR (q : Rat) : sz (absR q) = sz q := by
  unfold absR
  split
  · exact sz_neg q
  · rfl
theorem absR_num (q : Rat) : (absR q).num = (q.num.natAbs : Nat) ∧ (absR q).den = q.den := by
  unfold absR
  split
  · rename_i h
    have h1 : q.num < 0 := by
      have := (Rat.lt_iff q 0).mp h
      simp at this
      exact this
    rw [Rat.neg_num, Rat.neg_den]
    exact ⟨by omega, rfl⟩
  · rename_i h
    have h1 : 0 ≤ q.num := Rat.num_nonneg.mpr (by grind)
    exact ⟨by omega, rfl⟩
theorem num_pos_iff (q : Rat) : 0 < q.num ↔ 0 < q := by
  rw [Rat.lt_iff]; simp
theorem num_neg_iff (q : Rat) : q.num < 0 ↔ q < 0 := by
  rw [Rat.lt_iff]; simp
theorem num_mul_neg (a b : Rat) : a.num * b.num < 0 ↔ a * b < 0 := by
  have key : ∀ x : Rat, x < 0 ∨ x = 0 ∨ 0 < x := fun x => by grind
  rcases key a with ha | rfl | ha <;> rcases key b with hb | rfl | hb
  · have h1 := (num_neg_iff a).mpr ha
    have h2 := (num_neg_iff b).mpr hb
    have h3 : 0 < a.num * b.num := Int.mul_pos_of_neg_of_neg h1 h2
    have h4 : 0 < (-a) * (-b) := Rat.mul_pos (by grind) (by grind)
    constructor
    · intro h; omega
    · intro h; grind
  · simp
  · have h1 := (num_neg_iff a).mpr ha
    have h2 := (num_pos_iff b).mpr hb
    have h3 : a.num * b.num < 0 := Int.mul_neg_of_neg_of_pos h1 h2
    have h4 : 0 < (-a) * b := Rat.mul_pos (by grind) hb
    constructor
    · intro _; grind
    · intro _; exact h3
  · simp
  · simp
  · simp
  · have h1 := (num_pos_iff a).mpr ha
    have h2 := (num_neg_iff b).mpr hb
    have h3 : a.num * b.num < 0 := Int.mul_neg_of_pos_of_neg h1 h2
    have h4 : 0 < a * (-b) := Rat.mul_pos ha (by grind)
    constructor
    · intro _; grind
    · intro _; exact h3
  · simp
  · have h1 := (num_pos_iff a).mpr ha
    have h2 := (num_pos_iff b).mpr hb
    have h3 : 0 < a.num * b.num := Int.mul_pos h1 h2
    have h4 : 0 < a * b := Rat.mul_pos ha hb
    constructor
    · intro h; omega
    · intro h; grind
end My
namespace My
def rmax (a b : Rat) : Rat := if a < b then b else a
inductive Th where
  | shares (c : Rat)
  | note (amt : Rat) (cap disc : Option Rat)
  | kept (c old : Rat)
  | weighed (c old thn : Rat)
structure Deal where
  worth : Rat
  money : Rat
  things : List Th
  count : Rat
  part : Rat
def noteW (amt : Rat) (cap disc : Option Rat) (p : Rat) : Rat := match cap with
  | none => amt / (1 - disc.getD 0)
  | some k => rmax (amt / (1 - disc.getD 0)) (p * amt / k)
def weighedW (c old thn p money : Rat) : Rat := if old ≤ p then p * c else c * old * ((thn * p + money) / (thn * old + money))
def thingW (t : Th) (p money : Rat) : Rat := match t with
  | .shares c => c * p
  | .note amt cap disc => noteW amt cap disc p
  | .kept c old => c * rmax p old
  | .weighed c old thn => weighedW c old thn p money
def poolW (d : Deal) (p s : Rat) : Rat := rmax (p * d.count) (d.part * (s + d.money) / (1 - d.part))
def thingWs (d : Deal) (p : Rat) : List Rat := d.things.map fun t => thingW t p d.money
def worthsAt (d : Deal) (p : Rat) : List Rat := thingWs d p ++ [poolW d p (thingWs d p).sum]
def worthAt (d : Deal) (p : Rat) : Rat := (worthsAt d p).sum
def thingCv (t : Th) (money : Rat) : Cv := match t with
  | .shares c => mkCv [(0, 0)] c
  | .kept c old => mkCv [(0, 0), (old, 0)] c
  | .note amt cap disc => match cap with
    | none => cv0
    | some k => mkCv [(0, 0), (k / (1 - disc.getD 0), 0)] (amt / k)
  | .weighed c old thn => mkCv [(0, 0), (old, c * old - weighedW c old thn 0 money)] c
def lowerCs (c : Cv) (gap l : Rat) : List Pt := (if 0 < l then [(0, 0), (l, 0)] else [(0, 0)]) ++ ((c.cs.filter fun p => decide (l < p.1)).map fun p => (p.1, p.2 - gap))
def lowered (c : Cv) (gap : Rat) : Cv := match reached c gap with
  | none => cv0
  | some l => mkCv (lowerCs c gap l) c.sl
def thingsCv (d : Deal) : Cv := addedUp (d.things.map fun t => thingCv t d.money)
def filledCv (d : Deal) : Cv := scaled (thingsCv d) (1 / (1 - d.part))
def gapOf (d : Deal) : Rat := worthAt d 0 - (thingWs d 0).sum
def bareCv (d : Deal) : Cv := addedUp [thingsCv d, mkCv [(0, 0)] d.count]
def worthCv (d : Deal) : Cv := if d.count = 0 then filledCv d else greaterOf (greaterOf cv0 (filledCv d)) (lowered (bareCv d) (gapOf d))
def riseOf (d : Deal) : Rat := d.worth - worthAt d 0
def priceOf (d : Deal) : Option Rat := reached (worthCv d) (riseOf d)
def countsAt (d : Deal) (p : Rat) : List Rat := (worthsAt d p ++ [d.money]).map fun x => x / p
/-- the counts of all things and of the money, the pool's left out -/
def keptCounts (d : Deal) (p : Rat) : List Rat := (thingWs d p ++ [d.money]).map fun x => x / p
def behindCounts (d : Deal) (p : Rat) : List Rat := (keptCounts d p).filter fun x => decide (0 < x)
/-- sizes -/
def OptSz (n : Nat) (o : Option Rat) : Prop := ∀ q, o = some q → sz q ≤ n
def ThSz (n : Nat) : Th → Prop
  | .shares c => sz c ≤ n
  | .note amt cap disc => sz amt ≤ n ∧ OptSz n cap ∧ OptSz n disc
  | .kept c old => sz c ≤ n ∧ sz old ≤ n
  | .weighed c old thn => sz c ≤ n ∧ sz old ≤ n ∧ sz thn ≤ n
/-- a THING as the document has it -/
def ThOk : Th → Prop
  | .shares c => 0 < c
  | .note amt cap disc => 0 < amt ∧ (∀ k, cap = some k → 0 < k) ∧ ∀ e, disc = some e → 0 ≤ e ∧ e < 1
  | .kept c old => 0 < c ∧ 0 < old
  | .weighed c old thn => 0 < c ∧ 0 < old ∧ 0 < thn
theorem disc_lt {disc : Option Rat} (h : ∀ e, disc = some e → 0 ≤ e ∧ e < 1) : 0 ≤ disc.getD 0 ∧ disc.getD 0 < 1 := by
  cases disc with
  | none => exact ⟨by grind, by decide⟩
  | some e => exact h e rfl
theorem sz_disc {disc : Option Rat} {n : Nat} (hn : 1 ≤ n) (h : OptSz n disc) : sz (disc.getD 0) ≤ n := by
  cases disc with
  | none => show sz 0 ≤ n; rw [sz_zero]; exact hn
  | some e => exact h e rfl
/-- what asking for a thing's worth at a price asks -/
structure preThing (t : Th) (p money : Rat) : Prop where
  ok : ThOk t
  mon : 0 ≤ money
  siz : ∃ n m, 1 ≤ n ∧ ThSz n t ∧ sz money ≤ n ∧ sz p ≤ m ∧ 12 * n + 2 * m + 40 ≤ 100000000
theorem sz_rmax {a b : Rat} {n : Nat} (ha : sz a ≤ n) (hb : sz b ≤ n) : sz (rmax a b) ≤ n := by
  unfold rmax; split <;> assumption
theorem sz_thingW {t : Th} {p money : Rat} {n m : Nat} (hn : 1 ≤ n) (ht : ThSz n t) (hm : sz money ≤ n) (hp : sz p ≤ m) : sz (thingW t p money) ≤ 7 * n + m + 4 := by
  cases t with
  | shares c =>
    have h : sz c ≤ n := ht
    have := sz_mul c p
    show sz (c * p) ≤ _
    omega
  | kept c old =>
    obtain ⟨h1, h2⟩ : sz c ≤ n ∧ sz old ≤ n := ht
    have := sz_mul c (rmax p old)
    have := sz_rmax (a := p) (b := old) (n := m + n) (by omega) (by omega)
    show sz (c * rmax p old) ≤ _
    omega
  | note amt cap disc =>
    obtain ⟨h1, h2, h3⟩ : sz amt ≤ n ∧ OptSz n cap ∧ OptSz n disc := ht
    have h4 := sz_disc hn h3
    have h5 := sz_sub 1 (disc.getD 0)
    rw [sz_one] at h5
    have h6 := sz_div amt (1 - disc.getD 0)
    show sz (noteW amt cap disc p) ≤ _
    cases cap with
    | none => show sz (amt / (1 - disc.getD 0)) ≤ _; omega
    | some k =>
      have h7 := h2 k rfl
      have h8 := sz_mul p amt
      have h9 := sz_div (p * amt) k
      exact sz_rmax (by omega) (by omega)
  | weighed c old thn =>
    obtain ⟨h1, h2, h3⟩ : sz c ≤ n ∧ sz old ≤ n ∧ sz thn ≤ n := ht
    have a1 := sz_mul p c
    have a2 := sz_mul thn p
    have a3 := sz_add (thn * p) money
    have a4 := sz_mul thn old
    have a5 := sz_add (thn * old) money
    have a6 := sz_div (thn * p + money) (thn * old + money)
    have a7 := sz_mul c old
    have a8 := sz_mul (c * old) ((thn * p + money) / (thn * old + money))
    show sz (weighedW c old thn p money) ≤ _
    unfold weighedW
    split <;> omega
end My
namespace My
/-- the corners lie on f, f is straight between them and behind the last -/
def Seg (f : Rat → Rat) : List Pt → Rat → Prop
  | [], _ => False
  | [a], sl => a.2 = f a.1 ∧ ∀ x, a.1 ≤ x → f x = a.2 + sl * (x - a.1)
  | a :: b :: r, sl => a.2 = f a.1 ∧ a.1 < b.1 ∧ (∀ x, a.1 ≤ x → x ≤ b.1 → f x = a.2 + sb a b * (x - a.1)) ∧ Seg f (b :: r) sl
structure Fits (c : Cv) (f : Rat → Rat) : Prop where
  seg : Seg f c.cs c.sl
  zero : ∃ p r, c.cs = p :: r ∧ p.1 = 0
theorem Seg.ne {f : Rat → Rat} {sl : Rat} : ¬ Seg f [] sl := fun h => h
theorem Seg.asc {f : Rat → Rat} {sl : Rat} : ∀ {cs : List Pt}, Seg f cs sl → Asc cs
  | [], _ => List.Pairwise.nil
  | [a], _ => List.pairwise_singleton _ _
  | a :: b :: r, h => by
    obtain ⟨_, h1, _, h2⟩ := h
    have ih := Seg.asc h2
    refine List.pairwise_cons.mpr ⟨fun q hq => ?_, ih⟩
    rcases List.mem_cons.mp hq with rfl | hq
    · exact h1
    · have := (List.pairwise_cons.mp ih).1 q hq
      grind
theorem Seg.on {f : Rat → Rat} {sl : Rat} : ∀ {cs : List Pt}, Seg f cs sl → ∀ p ∈ cs, p.2 = f p.1
  | [], h, _, _ => h.elim
  | [a], h, p, hp => by rw [List.mem_singleton.mp hp]; exact h.1
  | a :: b :: r, h, p, hp => by
    rcases List.mem_cons.mp hp with rfl | hp
    · exact h.1
    · exact Seg.on h.2.2.2 p hp
theorem ixLe_cons {a : Pt} {r : List Pt} {sl x : Rat} (ha : a.1 ≤ x) (hr : ∃ b r', r = b :: r' ∧ b.1 ≤ x) : ixLe ⟨a :: r, sl⟩ x = ixLe ⟨r, sl⟩ x + 1 := by
  obtain ⟨b, r', rfl, hb⟩ := hr
  unfold ixLe
  simp [ha, hb]
theorem ixLe_zero {a : Pt} {r : List Pt} {sl x : Rat} (ha : a.1 ≤ x) (hr : ∀ b ∈ r, x < b.1) : ixLe ⟨a :: r, sl⟩ x = 0 := by
  unfold ixLe
  have : r.filter (fun p => decide (p.1 ≤ x)) = [] := by
    rw [List.filter_eq_nil_iff]
    intro b hb
    have := hr b hb
    simp only [decide_eq_true_eq]; grind
  simp [ha, this]
theorem slopeAt_succ (a b : Pt) (r : List Pt) (sl : Rat) (i : Nat) : slopeAt ⟨a :: b :: r, sl⟩ (i + 1) = slopeAt ⟨b :: r, sl⟩ i := by
  unfold slopeAt
  simp
theorem getD_succ (a : Pt) (r : List Pt) (i : Nat) : (a :: r).getD (i + 1) ((0, 0) : Pt) = r.getD i (0, 0) := by simp
theorem asc_gt {a b : Pt} {r : List Pt} {x : Rat} (h : Asc (a :: b :: r)) (hb : x < b.1) : ∀ q ∈ b :: r, x < q.1 := by
  intro q hq
  rcases List.mem_cons.mp hq with rfl | hq
  · exact hb
  · have := (List.pairwise_cons.mp (List.pairwise_cons.mp h).2).1 q hq
    grind
theorem Seg.pay {f : Rat → Rat} {sl x : Rat} : ∀ {cs : List Pt} {a : Pt} {r : List Pt}, cs = a :: r → Seg f cs sl → a.1 ≤ x → payAt ⟨cs, sl⟩ x = f x
  | [], _, _, e, _, _ => by cases e
  | [a], _, _, e, h, hx => by
    cases e
    have e0 : ixLe ⟨[a], sl⟩ x = 0 := ixLe_zero hx (by simp)
    unfold payAt
    rw [e0, h.2 x hx]
    simp [slopeAt]
  | a :: b :: r, _, _, e, h, hx => by
    cases e
    by_cases hb : b.1 ≤ x
    · have e1 : ixLe ⟨a :: b :: r, sl⟩ x = ixLe ⟨b :: r, sl⟩ x + 1 := ixLe_cons hx ⟨b, r, rfl, hb⟩
      have ih := Seg.pay (x := x) rfl h.2.2.2 hb
      rw [← ih]
      unfold payAt
      dsimp only
      rw [e1, getD_succ, slopeAt_succ]
    · have hb' : x < b.1 := by grind
      have e0 : ixLe ⟨a :: b :: r, sl⟩ x = 0 := ixLe_zero hx (asc_gt (Seg.asc h) hb')
      unfold payAt
      rw [e0, h.2.2.1 x hx (by grind)]
      simp [slopeAt]
theorem Fits.pay {c : Cv} {f : Rat → Rat} (h : Fits c f) {x : Rat} (hx : 0 ≤ x) : payAt c x = f x := by
  obtain ⟨p, r, e, e0⟩ := h.zero
  exact Seg.pay (cs := c.cs) e h.seg (by rw [e0]; exact hx)
theorem Fits.nonneg {c : Cv} {f : Rat → Rat} (h : Fits c f) : ∀ p ∈ c.cs, 0 ≤ p.1 := by
  obtain ⟨p, r, e, e0⟩ := h.zero
  intro q hq
  have ha := h.seg.asc
  rw [e] at hq ha
  rcases List.mem_cons.mp hq with rfl | hq
  · rw [e0]; grind
  · have := (List.pairwise_cons.mp ha).1 q hq
    grind
theorem Fits.at0 {c : Cv} {f : Rat → Rat} (h : Fits c f) : ∃ p ∈ c.cs, p.1 = 0 := by
  obtain ⟨p, r, e, e0⟩ := h.zero
  exact ⟨p, by rw [e]; exact List.mem_cons_self, e0⟩
/-- straight on [a, b] -/
def AffOn (f : Rat → Rat) (a b : Rat) : Prop := ∃ s, ∀ z, a ≤ z → z ≤ b → f z = f a + s * (z - a)
def AffFrom (f : Rat → Rat) (a s : Rat) : Prop := ∀ z, a ≤ z → f z = f a + s * (z - a)
theorem sb_self {a b : Pt} {s : Rat} (h : a.1 < b.1) (e : b.2 = a.2 + s * (b.1 - a.1)) : sb a b = s := by
  unfold sb
  have h0 : b.1 - a.1 ≠ 0 := by grind
  rw [e, show a.2 + s * (b.1 - a.1) - a.2 = s * (b.1 - a.1) by grind, Rat.div_def, Rat.mul_assoc, Rat.mul_inv_cancel _ h0, Rat.mul_one]
theorem sb_mul {a b : Pt} (h : a.1 < b.1) : sb a b * (b.1 - a.1) = b.2 - a.2 := by
  unfold sb
  have h0 : b.1 - a.1 ≠ 0 := by grind
  rw [Rat.div_def, Rat.mul_assoc, Rat.inv_mul_cancel _ h0, Rat.mul_one]
/-- a corner on the straight line may be left out -/
theorem Seg.prune {f : Rat → Rat} {sl : Rat} : ∀ (t : List Pt) (k : Pt), Seg f (k :: t) sl → Seg f (k :: My.prune sl k t) sl
  | [], _, h => h
  | h :: t, k, hs => by
    obtain ⟨h1, h2, h3, h4⟩ := hs
    rw [My.prune]
    split
    · rename_i he
      refine Seg.prune t k ?_
      have hh := Seg.on h4 h List.mem_cons_self
      cases t with
      | nil =>
        have he' : sb k h = sl := he
        refine ⟨h1, fun x hx => ?_⟩
        by_cases hxh : x ≤ h.1
        · rw [h3 x hx hxh, he']
        · rw [h4.2 x (by grind)]
          have := sb_mul h2
          rw [he'] at this
          grind
      | cons h2' t' =>
        have he' : sb k h = sb h h2' := he
        obtain ⟨g1, g2, g3, g4⟩ := h4
        have hk : sb k h2' = sb k h := by
          refine sb_self (by grind) ?_
          have e1 := sb_mul h2
          have e2 := sb_mul g2
          rw [← he'] at e2
          grind
        refine ⟨h1, by grind, fun x hx hx2 => ?_, g4⟩
        rw [hk]
        by_cases hxh : x ≤ h.1
        · exact h3 x hx hxh
        · rw [g3 x (by grind) hx2, ← he']
          have := sb_mul h2
          grind
    · rename_i he
      have hp := Seg.prune t h h4
      exact ⟨h1, h2, h3, hp⟩
theorem fits_mk {cs : List Pt} {sl : Rat} {f : Rat → Rat} (h : Seg f cs sl) (z : ∃ p r, cs = p :: r ∧ p.1 = 0) : Fits (mkCv cs sl) f := by
  obtain ⟨p, r, rfl, e⟩ := z
  exact ⟨h.prune, p, _, rfl, e⟩
/-- where no corner lies between, it is straight -/
theorem Seg.aff {f : Rat → Rat} {sl a b : Rat} : ∀ {cs : List Pt} {p : Pt} {r : List Pt}, cs = p :: r → Seg f cs sl → p.1 ≤ a → a < b → (∀ q ∈ cs, q.1 ≤ a ∨ b ≤ q.1) → AffOn f a b
  | [], _, _, e, _, _, _, _ => by cases e
  | [p], _, _, e, h, hp, hab, _ => by
    cases e
    exact ⟨sl, fun z h1 h2 => by rw [h.2 z (by grind), h.2 a hp]; grind⟩
  | p :: q :: r, _, _, e, h, hp, hab, hc => by
    cases e
    rcases hc q (by simp) with hq | hq
    · exact Seg.aff rfl h.2.2.2 hq hab fun x hx => hc x (List.mem_cons_of_mem _ hx)
    · exact ⟨sb p q, fun z h1 h2 => by rw [h.2.2.1 z (by grind) (by grind), h.2.2.1 a hp (by grind)]; grind⟩
theorem Seg.affFrom {f : Rat → Rat} {sl a : Rat} : ∀ {cs : List Pt}, Seg f cs sl → (∀ q ∈ cs, q.1 ≤ a) → AffFrom f a sl
  | [], h, _ => h.elim
  | [p], h, hc => fun z hz => by
    have hp := hc p (by simp)
    rw [h.2 z (by grind), h.2 a hp]; grind
  | p :: q :: r, h, hc => Seg.affFrom h.2.2.2 fun x hx => hc x (List.mem_cons_of_mem _ hx)
/-- corners taken off a function, level for level -/
theorem seg_of {f : Rat → Rat} {sl : Rat} : ∀ {l : List Rat}, l ≠ [] → Rise l → (∀ i x y, l[i]? = some x → l[i + 1]? = some y → AffOn f x y) → (∀ x, l.getLast? = some x → AffFrom f x sl) → Seg f (l.map fun x => (x, f x)) sl
  | [], h, _, _, _ => absurd rfl h
  | [a], _, _, _, h2 => ⟨rfl, fun x hx => h2 a rfl x hx⟩
  | a :: b :: r, _, hr, h1, h2 => by
    have hr' := List.pairwise_cons.mp hr
    have hab : a < b := hr'.1 b List.mem_cons_self
    refine ⟨rfl, hab, ?_, seg_of (by simp) hr'.2 (fun i x y hx hy => h1 (i + 1) x y hx hy) (fun x hx => h2 x (by rw [List.getLast?_cons_cons]; exact hx))⟩
    obtain ⟨s, hs⟩ := h1 0 a b rfl rfl
    have e : sb (a, f a) (b, f b) = s := sb_self hab (hs b (by grind) (by grind))
    intro x hx hx2
    show f x = f a + sb (a, f a) (b, f b) * (x - a)
    rw [e]; exact hs x hx hx2
/-- between neighbours of a rising list nothing lies -/
theorem rise_gap {l : List Rat} (h : Rise l) {i : Nat} {x y : Rat} (hx : l[i]? = some x) (hy : l[i + 1]? = some y) : x < y ∧ ∀ z ∈ l, z ≤ x ∨ y ≤ z := by
  induction l generalizing i with
  | nil => simp at hx
  | cons a t ih =>
    have h' := List.pairwise_cons.mp h
    cases i with
    | zero =>
      have ea : a = x := by simpa using hx
      have hy' : t[0]? = some y := by simpa using hy
      subst ea
      have hym : y ∈ t := List.mem_of_getElem? hy'
      refine ⟨h'.1 y hym, fun z hz => ?_⟩
      rcases List.mem_cons.mp hz with rfl | hz
      · left; grind
      · right
        cases t with
        | nil => simp at hz
        | cons b t' =>
          have eb : b = y := by simpa using hy'
          subst eb
          rcases List.mem_cons.mp hz with rfl | hz
          · grind
          · have := (List.pairwise_cons.mp h'.2).1 z hz
            grind
    | succ i =>
      have hx' : t[i]? = some x := by simpa using hx
      have hy' : t[i + 1]? = some y := by simpa using hy
      obtain ⟨g1, g2⟩ := ih h'.2 hx' hy'
      refine ⟨g1, fun z hz => ?_⟩
      rcases List.mem_cons.mp hz with rfl | hz
      · left
        have := h'.1 x (List.mem_of_getElem? hx')
        grind
      · exact g2 z hz
theorem rise_last {l : List Rat} (h : Rise l) {x : Rat} (hx : l.getLast? = some x) : ∀ z ∈ l, z ≤ x := by
  induction l with
  | nil => simp at hx
  | cons a t ih =>
    have h' := List.pairwise_cons.mp h
    intro z hz
    cases t with
    | nil =>
      have : a = x := by simpa using hx
      rw [List.mem_singleton.mp hz, this]; grind
    | cons b t' =>
      rw [List.getLast?_cons_cons] at hx
      rcases List.mem_cons.mp hz with rfl | hz
      · have h1 := h'.1 x (List.mem_of_getLast? hx)
        grind
      · exact ih h'.2 hx z hz
theorem rise_head {l : List Rat} (h : Rise l) (h0 : (0 : Rat) ∈ l) (hn : ∀ x ∈ l, 0 ≤ x) : ∃ r, l = 0 :: r := by
  cases l with
  | nil => simp at h0
  | cons a t =>
    have h' := List.pairwise_cons.mp h
    have ha := hn a List.mem_cons_self
    rcases List.mem_cons.mp h0 with rfl | h0
    · exact ⟨t, rfl⟩
    · have := h'.1 0 h0
      grind
/-- a curve through the levels of a list that holds nought -/
theorem fits_of {f : Rat → Rat} {sl : Rat} {l : List Rat} (h : Rise l) (h0 : (0 : Rat) ∈ l) (hn : ∀ x ∈ l, 0 ≤ x) (h1 : ∀ x y, 0 ≤ x → x < y → (∀ z ∈ l, z ≤ x ∨ y ≤ z) → AffOn f x y) (h2 : ∀ x, x ∈ l → (∀ z ∈ l, z ≤ x) → AffFrom f x sl) : Fits (mkCv (l.map fun x => (x, f x)) sl) f := by
  obtain ⟨r, rfl⟩ := rise_head h h0 hn
  refine fits_mk (seg_of (by simp) h (fun i x y hx hy => ?_) fun x hx => ?_) ⟨_, _, rfl, rfl⟩
  · obtain ⟨g1, g2⟩ := rise_gap h hx hy
    exact h1 x y (hn x (List.mem_of_getElem? hx)) g1 g2
  · exact h2 x (List.mem_of_getLast? hx) (rise_last h hx)
theorem levels_zero (cvs : List Cv) : (0 : Rat) ∈ levelsOf cvs := by
  unfold levelsOf
  rw [inOrder_mem]; exact List.mem_cons_self
theorem levels_mem {cvs : List Cv} {c : Cv} (hc : c ∈ cvs) {p : Pt} (hp : p ∈ c.cs) : p.1 ∈ levelsOf cvs := by
  unfold levelsOf
  rw [inOrder_mem]
  refine List.mem_cons_of_mem _ (List.mem_flatten.mpr ⟨c.cs.map (·.1), List.mem_map_of_mem hc, List.mem_map_of_mem hp⟩)
theorem levels_of_mem {cvs : List Cv} {x : Rat} (h : x ∈ levelsOf cvs) : x = 0 ∨ ∃ c ∈ cvs, ∃ p ∈ c.cs, p.1 = x := by
  unfold levelsOf at h
  rw [inOrder_mem] at h
  rcases List.mem_cons.mp h with h | h
  · exact .inl h
  · obtain ⟨l, hl, hx⟩ := List.mem_flatten.mp h
    obtain ⟨c, hc, rfl⟩ := List.mem_map.mp hl
    obtain ⟨p, hp, rfl⟩ := List.mem_map.mp hx
    exact .inr ⟨c, hc, p, hp, rfl⟩
theorem Fits.aff {c : Cv} {f : Rat → Rat} (h : Fits c f) {a b : Rat} (ha : 0 ≤ a) (hab : a < b) (hc : ∀ q ∈ c.cs, q.1 ≤ a ∨ b ≤ q.1) : AffOn f a b := by
  obtain ⟨p, r, e, e0⟩ := h.zero
  exact Seg.aff e h.seg (by rw [e0]; exact ha) hab hc
theorem Fits.affFrom {c : Cv} {f : Rat → Rat} (h : Fits c f) {a : Rat} (hc : ∀ q ∈ c.cs, q.1 ≤ a) : AffFrom f a c.sl := Seg.affFrom h.seg hc
theorem affOn_sum {α : Type} {F : α → Rat → Rat} {a b : Rat} : ∀ {ts : List α}, (∀ t ∈ ts, AffOn (F t) a b) → AffOn (fun x => (ts.map fun t => F t x).sum) a b
  | [], _ => ⟨0, fun z _ _ => by simp [Rat.add_zero]⟩
  | t :: ts, h => by
    obtain ⟨s, hs⟩ := h t List.mem_cons_self
    obtain ⟨s', hs'⟩ := affOn_sum fun u hu => h u (List.mem_cons_of_mem _ hu)
    refine ⟨s + s', fun z h1 h2 => ?_⟩
    have e1 := hs z h1 h2
    have e2 := hs' z h1 h2
    dsimp only at e2
    simp only [List.map_cons, List.sum_cons]
    rw [e1, e2]; grind
theorem affFrom_sum {α : Type} {F : α → Rat → Rat} {S : α → Rat} {a : Rat} : ∀ {ts : List α}, (∀ t ∈ ts, AffFrom (F t) a (S t)) → AffFrom (fun x => (ts.map fun t => F t x).sum) a (ts.map S).sum
  | [], _ => fun z _ => by simp [Rat.add_zero]
  | t :: ts, h => fun z hz => by
    have e1 := h t List.mem_cons_self z hz
    have e2 := affFrom_sum (fun u hu => h u (List.mem_cons_of_mem _ hu)) z hz
    dsimp only at e2
    simp only [List.map_cons, List.sum_cons]
    rw [e1, e2]; grind
theorem fits_added {α : Type} {ts : List α} {C : α → Cv} {F : α → Rat → Rat} (h : ∀ t ∈ ts, Fits (C t) (F t)) : Fits (addedUp (ts.map C)) (fun x => (ts.map fun t => F t x).sum) := by
  have hn : ∀ x ∈ levelsOf (ts.map C), 0 ≤ x := fun x hx => by
    rcases levels_of_mem hx with rfl | ⟨c, hc, p, hp, rfl⟩
    · grind
    · obtain ⟨t, ht, rfl⟩ := List.mem_map.mp hc
      exact (h t ht).nonneg p hp
  have e : (levelsOf (ts.map C)).map (fun x => ((x, ((ts.map C).map fun c => payAt c x).sum) : Pt)) = (levelsOf (ts.map C)).map fun x => (x, (ts.map fun t => F t x).sum) := by
    refine List.map_congr_left fun x hx => ?_
    rw [List.map_map]
    have : (ts.map ((fun c => payAt c x) ∘ C)) = ts.map fun t => F t x := List.map_congr_left fun t ht => (h t ht).pay (hn x hx)
    rw [this]
  unfold addedUp
  rw [e]
  refine fits_of (inOrder_rise _) (levels_zero _) hn (fun x y hx hxy hg => affOn_sum fun t ht => ?_) (fun x _ hl => ?_)
  · exact (h t ht).aff hx hxy fun q hq => hg q.1 (levels_mem (List.mem_map_of_mem ht) hq)
  · rw [List.map_map]
    exact affFrom_sum (S := fun t => (C t).sl) fun t ht => (h t ht).affFrom fun q hq => hl q.1 (levels_mem (List.mem_map_of_mem ht) hq)
theorem seg_scale {f : Rat → Rat} {sl k : Rat} : ∀ {cs : List Pt}, Seg f cs sl → Seg (fun x => f x * k) (cs.map fun p => (p.1, p.2 * k)) (sl * k)
  | [], h => h.elim
  | [a], h => ⟨by show a.2 * k = f a.1 * k; rw [h.1], fun x hx => by
      show f x * k = a.2 * k + sl * k * (x - a.1)
      rw [h.2 x hx]; grind⟩
  | a :: b :: r, h => by
    refine ⟨by show a.2 * k = f a.1 * k; rw [h.1], h.2.1, fun x hx hx2 => ?_, seg_scale h.2.2.2⟩
    show f x * k = a.2 * k + sb (a.1, a.2 * k) (b.1, b.2 * k) * (x - a.1)
    have e : sb (a.1, a.2 * k) (b.1, b.2 * k) = sb a b * k := by
      refine sb_self h.2.1 ?_
      show b.2 * k = a.2 * k + sb a b * k * (b.1 - a.1)
      have := sb_mul h.2.1
      have e2 : sb a b * k * (b.1 - a.1) = (sb a b * (b.1 - a.1)) * k := by grind
      rw [e2, this]; grind
    rw [e, h.2.2.1 x hx hx2]; grind
theorem fits_scaled {c : Cv} {f : Rat → Rat} (h : Fits c f) (k : Rat) : Fits (scaled c k) (fun x => f x * k) := by
  obtain ⟨p, r, e, e0⟩ := h.zero
  unfold scaled
  exact fits_mk (seg_scale h.seg) ⟨(p.1, p.2 * k), _, by rw [e]; rfl, e0⟩
end My
namespace My
theorem div_mul_self' {a s : Rat} (h : s ≠ 0) : a / s * s = a := by rw [Rat.div_def, Rat.mul_assoc, Rat.inv_mul_cancel _ h, Rat.mul_one]
theorem lt_div_of {a b s : Rat} (h : 0 < s) (e : a * s < b) : a < b / s := by
  have h1 := div_mul_self' (a := b) (s := s) (by grind)
  by_cases hc : a < b / s
  · exact hc
  · have h2 : b / s * s ≤ a * s := Rat.mul_le_mul_of_nonneg_right (by grind) (by grind)
    grind
theorem div_lt_of {a b s : Rat} (h : 0 < s) (e : b < a * s) : b / s < a := by
  have h1 := div_mul_self' (a := b) (s := s) (by grind)
  by_cases hc : b / s < a
  · exact hc
  · have h2 : a * s ≤ b / s * s := Rat.mul_le_mul_of_nonneg_right (by grind) (by grind)
    grind
theorem le_div_of {a b s : Rat} (h : 0 < s) (e : a * s ≤ b) : a ≤ b / s := by
  have h1 := div_mul_self' (a := b) (s := s) (by grind)
  by_cases hc : a ≤ b / s
  · exact hc
  · have h2 : b / s * s < a * s := Rat.mul_lt_mul_of_pos_right (by grind) h
    grind
theorem div_le_of {a b s : Rat} (h : 0 < s) (e : b ≤ a * s) : b / s ≤ a := by
  have h1 := div_mul_self' (a := b) (s := s) (by grind)
  by_cases hc : b / s ≤ a
  · exact hc
  · have h2 : a * s < b / s * s := Rat.mul_lt_mul_of_pos_right (by grind) h
    grind
theorem absR_nn {q : Rat} (h : 0 ≤ q) : absR q = q := by unfold absR; rw [if_neg (by grind)]
theorem absR_np {q : Rat} (h : q ≤ 0) : absR q = -q := by
  unfold absR
  split
  · rfl
  · grind
theorem mul_nn {a b : Rat} (h1 : 0 ≤ a) (h2 : 0 ≤ b) : 0 ≤ a * b := Rat.mul_nonneg h1 h2
theorem div_nn {a b : Rat} (h1 : 0 ≤ a) (h2 : 0 ≤ b) : 0 ≤ a / b := by
  rw [Rat.div_def]
  refine Rat.mul_nonneg h1 ?_
  by_cases h : b = 0
  · subst h; simp
  · have := Rat.inv_pos.mpr (show 0 < b by grind)
    grind
/-- a straight difference that rises through nought between x and y -/
theorem cross_up {d s u x y : Rat} (hu : u ≤ x) (hxy : x < y) (h1 : d + s * (x - u) < 0) (h2 : 0 < d + s * (y - u)) : d * s < 0 ∧ x < u + absR d / absR s ∧ u + absR d / absR s < y := by
  have hs : 0 < s := by
    by_cases h : 0 < s
    · exact h
    · have : s * (y - x) ≤ 0 * (y - x) := Rat.mul_le_mul_of_nonneg_right (by grind) (by grind)
      grind
  have h3 : 0 ≤ s * (x - u) := mul_nn (by grind) (by grind)
  have hd : d < 0 := by grind
  have h4 : 0 < (-d) * s := Rat.mul_pos (by grind) hs
  rw [absR_np (by grind), absR_nn (by grind : 0 ≤ s)]
  refine ⟨by grind, ?_, ?_⟩
  · have : x - u < -d / s := lt_div_of hs (by grind)
    grind
  · have : -d / s < y - u := div_lt_of hs (by grind)
    grind
theorem absR_neg (q : Rat) : absR (-q) = absR q := by
  by_cases h : 0 ≤ q
  · rw [absR_nn h, absR_np (show -q ≤ 0 by grind)]; grind
  · rw [absR_np (show q ≤ 0 by grind), absR_nn (show 0 ≤ -q by grind)]
theorem cross_down {d s u x y : Rat} (hu : u ≤ x) (hxy : x < y) (h1 : 0 < d + s * (x - u)) (h2 : d + s * (y - u) < 0) : d * s < 0 ∧ x < u + absR d / absR s ∧ u + absR d / absR s < y := by
  have := cross_up (d := -d) (s := -s) hu hxy (by grind) (by grind)
  rw [absR_neg, absR_neg] at this
  obtain ⟨a, b, c⟩ := this
  exact ⟨by grind, b, c⟩
/-- .. that falls away behind x and meets nought later -/
theorem cross_far_down {d s u x : Rat} (hu : u ≤ x) (h1 : 0 < d + s * (x - u)) (h2 : s < 0) : d * s < 0 ∧ x < u + absR d / absR s := by
  have h3 : 0 ≤ (-s) * (x - u) := mul_nn (by grind) (by grind)
  have hd : 0 < d := by grind
  have h4 : 0 < d * (-s) := Rat.mul_pos hd (by grind)
  rw [absR_nn (by grind), absR_np (by grind : s ≤ 0)]
  refine ⟨by grind, ?_⟩
  have : x - u < d / (-s) := lt_div_of (by grind) (by grind)
  grind
theorem cross_far_up {d s u x : Rat} (hu : u ≤ x) (h1 : d + s * (x - u) < 0) (h2 : 0 < s) : d * s < 0 ∧ x < u + absR d / absR s := by
  have := cross_far_down (d := -d) (s := -s) hu (by grind) (by grind)
  rw [absR_neg, absR_neg] at this
  exact ⟨by grind, this.2⟩
/-- the greatest level not above x -/
theorem level_below {l : List Rat} {x : Rat} (h : ∃ m ∈ l, m ≤ x) : ∃ u ∈ l, u ≤ x ∧ ∀ z ∈ l, z ≤ u ∨ x < z := by
  induction l with
  | nil => simp at h
  | cons a t ih =>
    by_cases ht : ∃ m ∈ t, m ≤ x
    · obtain ⟨u, hu, hux, hz⟩ := ih ht
      by_cases ha : u < a ∧ a ≤ x
      · refine ⟨a, List.mem_cons_self, ha.2, fun z hz' => ?_⟩
        rcases List.mem_cons.mp hz' with rfl | hz'
        · left; grind
        · rcases hz z hz' with h1 | h1
          · left; grind
          · right; exact h1
      · refine ⟨u, List.mem_cons_of_mem _ hu, hux, fun z hz' => ?_⟩
        rcases List.mem_cons.mp hz' with rfl | hz'
        · grind
        · exact hz z hz'
    · have ha : a ≤ x := by
        obtain ⟨m, hm, hmx⟩ := h
        rcases List.mem_cons.mp hm with rfl | hm
        · exact hmx
        · exact absurd ⟨m, hm, hmx⟩ ht
      refine ⟨a, List.mem_cons_self, ha, fun z hz => ?_⟩
      rcases List.mem_cons.mp hz with rfl | hz
      · left; grind
      · right
        by_cases h1 : z ≤ x
        · exact absurd ⟨z, hz, h1⟩ ht
        · grind
theorem risesAt_cons {a b : Pt} {r : List Pt} {sl x : Rat} (ha : a.1 ≤ x) (hb : b.1 ≤ x) : risesAt ⟨a :: b :: r, sl⟩ x = risesAt ⟨b :: r, sl⟩ x := by
  unfold risesAt
  rw [ixLe_cons ha ⟨b, r, rfl, hb⟩, slopeAt_succ]
theorem risesAt_head {a b : Pt} {r : List Pt} {sl x : Rat} (h : Asc (a :: b :: r)) (ha : a.1 ≤ x) (hb : x < b.1) : risesAt ⟨a :: b :: r, sl⟩ x = sb a b := by
  unfold risesAt
  rw [ixLe_zero ha (asc_gt h hb)]
  simp [slopeAt]
theorem risesAt_one {a : Pt} {sl x : Rat} (ha : a.1 ≤ x) : risesAt ⟨[a], sl⟩ x = sl := by
  unfold risesAt
  rw [ixLe_zero ha (by simp)]
  simp [slopeAt]
theorem Seg.rises {f : Rat → Rat} {sl x y : Rat} : ∀ {cs : List Pt} {p : Pt} {r : List Pt}, cs = p :: r → Seg f cs sl → p.1 ≤ x → x < y → (∀ q ∈ cs, q.1 ≤ x ∨ y ≤ q.1) → ∀ z, x ≤ z → z ≤ y → f z = f x + risesAt ⟨cs, sl⟩ x * (z - x)
  | [], _, _, e, _, _, _, _ => by cases e
  | [p], _, _, e, h, hp, hxy, _ => by
    cases e
    intro z h1 h2
    rw [risesAt_one hp, h.2 z (by grind), h.2 x hp]; grind
  | p :: q :: r, _, _, e, h, hp, hxy, hc => by
    cases e
    intro z h1 h2
    rcases hc q (by simp) with hq | hq
    · rw [risesAt_cons hp hq]
      exact Seg.rises rfl h.2.2.2 hq hxy (fun w hw => hc w (List.mem_cons_of_mem _ hw)) z h1 h2
    · rw [risesAt_head (Seg.asc h) hp (by grind), h.2.2.1 z (by grind) (by grind), h.2.2.1 x hp (by grind)]; grind
theorem Seg.risesEnd {f : Rat → Rat} {sl x : Rat} : ∀ {cs : List Pt}, Seg f cs sl → (∀ q ∈ cs, q.1 ≤ x) → risesAt ⟨cs, sl⟩ x = sl
  | [], h, _ => h.elim
  | [p], h, hc => risesAt_one (hc p (by simp))
  | p :: q :: r, h, hc => by
    rw [risesAt_cons (hc p (by simp)) (hc q (by simp))]
    exact Seg.risesEnd h.2.2.2 fun w hw => hc w (List.mem_cons_of_mem _ hw)
theorem Fits.rises {c : Cv} {f : Rat → Rat} (h : Fits c f) {x y : Rat} (hx : 0 ≤ x) (hxy : x < y) (hc : ∀ q ∈ c.cs, q.1 ≤ x ∨ y ≤ q.1) : ∀ z, x ≤ z → z ≤ y → f z = f x + risesAt c x * (z - x) := by
  obtain ⟨p, r, e, e0⟩ := h.zero
  exact Seg.rises e h.seg (by rw [e0]; exact hx) hxy hc
theorem Fits.risesEnd {c : Cv} {f : Rat → Rat} (h : Fits c f) {x : Rat} (hc : ∀ q ∈ c.cs, q.1 ≤ x) : risesAt c x = c.sl := Seg.risesEnd h.seg hc
theorem meetGo_in {a b : Cv} {x : Rat} : ∀ {l : List Rat}, Rise l → x ∈ l → more a b x * steeper a b x < 0 → (∀ z ∈ l, z ≤ x ∨ x + absR (more a b x) / absR (steeper a b x) < z) → x + absR (more a b x) / absR (steeper a b x) ∈ meetGo a b l
  | [], _, h, _, _ => by simp at h
  | c :: r, hr, h, hm, hz => by
    have hr' := List.pairwise_cons.mp hr
    rw [meetGo, List.mem_append]
    by_cases hc : x = c
    · subst hc
      left
      unfold meetAt
      rw [if_pos hm]
      cases r with
      | nil => simp
      | cons d t =>
        have h1 : x < d := hr'.1 d List.mem_cons_self
        have h2 : x + absR (more a b x) / absR (steeper a b x) < d := by
          rcases hz d (by simp) with h3 | h3
          · grind
          · exact h3
        simp [h2]
    · right
      rcases List.mem_cons.mp h with h | h
      · exact absurd h hc
      · exact meetGo_in hr'.2 h hm fun z hz' => hz z (List.mem_cons_of_mem _ hz')
theorem meetGo_of {a b : Cv} {z : Rat} : ∀ {l : List Rat}, z ∈ meetGo a b l → ∃ x ∈ l, more a b x * steeper a b x < 0 ∧ z = x + absR (more a b x) / absR (steeper a b x)
  | [], h => by simp [meetGo] at h
  | c :: r, h => by
    rw [meetGo, List.mem_append] at h
    rcases h with h | h
    · unfold meetAt at h
      split at h
      · rename_i hm
        refine ⟨c, List.mem_cons_self, hm, ?_⟩
        cases r with
        | nil => simpa using h
        | cons d t =>
          simp only [List.head?_cons] at h
          split at h
          · simpa using h
          · simp at h
      · simp at h
    · obtain ⟨x, hx, h1, h2⟩ := meetGo_of h
      exact ⟨x, List.mem_cons_of_mem _ hx, h1, h2⟩
theorem absR_nonneg (q : Rat) : 0 ≤ absR q := by
  by_cases h : 0 ≤ q
  · rw [absR_nn h]; exact h
  · rw [absR_np (by grind)]; grind
theorem mx_of_le {a b : Rat} (h : b ≤ a) : mx a b = a := by
  unfold mx
  split
  · rfl
  · grind
theorem mx_of_ge {a b : Rat} (h : a ≤ b) : mx a b = b := by
  unfold mx
  rw [if_neg (by grind)]
theorem maxLevels_mem {a b : Cv} {z : Rat} : z ∈ maxLevels a b ↔ z ∈ levelsOf [a, b] ∨ z ∈ meetings a b := by
  unfold maxLevels
  rw [inOrder_mem, List.mem_append]
/-- a straight line keeps its sign between ends of one sign -/
theorem lin_nn {d s w : Rat} {t : Rat} (h0 : 0 ≤ d) (h1 : 0 ≤ d + s * w) (ht : 0 ≤ t) (htw : t ≤ w) : 0 ≤ d + s * t := by
  by_cases hs : 0 ≤ s
  · have := mul_nn hs ht; grind
  · have h2 : (-s) * t ≤ (-s) * w := Rat.mul_le_mul_of_nonneg_left htw (by grind)
    grind
theorem fits_greater {a b : Cv} {f g : Rat → Rat} (ha : Fits a f) (hb : Fits b g) : Fits (greaterOf a b) (fun x => mx (f x) (g x)) := by
  have hlev : ∀ x ∈ levelsOf [a, b], 0 ≤ x := fun x hx => by
    rcases levels_of_mem hx with rfl | ⟨c, hc, p, hp, rfl⟩
    · grind
    · simp only [List.mem_cons, List.not_mem_nil, or_false] at hc
      rcases hc with rfl | rfl
      · exact ha.nonneg p hp
      · exact hb.nonneg p hp
  have hn : ∀ x ∈ maxLevels a b, 0 ≤ x := fun x hx => by
    rcases maxLevels_mem.mp hx with h | h
    · exact hlev x h
    · obtain ⟨u, hu, _, rfl⟩ := meetGo_of h
      have h1 := hlev u hu
      have h2 := div_nn (absR_nonneg (more a b u)) (absR_nonneg (steeper a b u))
      grind
  have h0 : (0 : Rat) ∈ maxLevels a b := maxLevels_mem.mpr (.inl (levels_zero _))
  have hca : ∀ q ∈ a.cs, q.1 ∈ levelsOf [a, b] := fun q hq => levels_mem (by simp) hq
  have hcb : ∀ q ∈ b.cs, q.1 ∈ levelsOf [a, b] := fun q hq => levels_mem (by simp) hq
  have hD : ∀ u, 0 ≤ u → more a b u = f u - g u := fun u hu => by unfold more; rw [ha.pay hu, hb.pay hu]
  have e : maxCorners a b = (maxLevels a b).map fun x => (x, mx (f x) (g x)) := by
    unfold maxCorners
    refine List.map_congr_left fun x hx => ?_
    rw [ha.pay (hn x hx), hb.pay (hn x hx)]
  unfold greaterOf
  rw [e]
  refine fits_of (f := fun x => mx (f x) (g x)) (inOrder_rise _) h0 hn (fun x y hx hxy hg => ?_) (fun x hxm hl => ?_)
  · -- between neighbours
    have hg2 : ∀ z ∈ levelsOf [a, b], z ≤ x ∨ y ≤ z := fun z hz => hg z (maxLevels_mem.mpr (.inl hz))
    obtain ⟨u, hu, hux, hul⟩ := level_below (l := levelsOf [a, b]) (x := x) ⟨0, levels_zero _, hx⟩
    have hu0 := hlev u hu
    have hul2 : ∀ z ∈ levelsOf [a, b], z ≤ u ∨ y ≤ z := fun z hz => by
      rcases hul z hz with h | h
      · exact .inl h
      · rcases hg2 z hz with h' | h'
        · grind
        · exact .inr h'
    have fa := ha.rises hu0 (show u < y by grind) (fun q hq => hul2 q.1 (hca q hq))
    have fb := hb.rises hu0 (show u < y by grind) (fun q hq => hul2 q.1 (hcb q hq))
    have hmeet : more a b u * steeper a b u < 0 → u + absR (more a b u) / absR (steeper a b u) < y → x < u + absR (more a b u) / absR (steeper a b u) → False := fun h1 h2 h3 => by
      have : u + absR (more a b u) / absR (steeper a b u) ∈ meetings a b := meetGo_in (inOrder_rise _) hu h1 fun z hz => by
        rcases hul2 z hz with h | h
        · exact .inl h
        · right; grind
      rcases hg _ (maxLevels_mem.mpr (.inr this)) with h | h <;> grind
    have dd : ∀ z, u ≤ z → z ≤ y → f z - g z = more a b u + steeper a b u * (z - u) := fun z h1 h2 => by
      rw [fa z h1 h2, fb z h1 h2, hD u hu0]
      unfold steeper; grind
    have dx := dd x hux (by grind)
    have dy := dd y (by grind) (by grind)
    have key : (0 ≤ f x - g x ∧ 0 ≤ f y - g y) ∨ (f x - g x ≤ 0 ∧ f y - g y ≤ 0) := by
      by_cases h1 : 0 < f x - g x
      · by_cases h2 : f y - g y < 0
        · obtain ⟨c1, c2, c3⟩ := cross_down hux hxy (by rw [← dx]; exact h1) (by rw [← dy]; exact h2)
          exact (hmeet c1 c3 c2).elim
        · left; grind
      · by_cases h3 : f x - g x < 0
        · by_cases h2 : 0 < f y - g y
          · obtain ⟨c1, c2, c3⟩ := cross_up hux hxy (by rw [← dx]; exact h3) (by rw [← dy]; exact h2)
            exact (hmeet c1 c3 c2).elim
          · right; grind
        · by_cases h2 : 0 ≤ f y - g y
          · left; grind
          · right; grind
    have dz : ∀ z, x ≤ z → z ≤ y → f z - g z = (f x - g x) + steeper a b u * (z - x) := fun z h1 h2 => by
      rw [dd z (by grind) h2, dx]; grind
    have dyx := dz y (by grind) (by grind)
    rcases key with ⟨k1, k2⟩ | ⟨k1, k2⟩
    · have hnn : ∀ z, x ≤ z → z ≤ y → g z ≤ f z := fun z h1 h2 => by
        have := lin_nn (d := f x - g x) (s := steeper a b u) (w := y - x) (t := z - x) k1 (by rw [← dyx]; exact k2) (by grind) (by grind)
        rw [← dz z h1 h2] at this
        grind
      refine ⟨risesAt a u, fun z h1 h2 => ?_⟩
      dsimp only
      rw [mx_of_le (hnn z h1 h2), mx_of_le (hnn x (by grind) (by grind)), fa z (by grind) h2, fa x hux (by grind)]; grind
    · have hnn : ∀ z, x ≤ z → z ≤ y → f z ≤ g z := fun z h1 h2 => by
        have := lin_nn (d := -(f x - g x)) (s := -steeper a b u) (w := y - x) (t := z - x) (by grind) (by grind) (by grind) (by grind)
        have h3 := dz z h1 h2
        grind
      refine ⟨risesAt b u, fun z h1 h2 => ?_⟩
      dsimp only
      rw [mx_of_ge (hnn z h1 h2), mx_of_ge (hnn x (by grind) (by grind)), fb z (by grind) h2, fb x hux (by grind)]; grind
  · -- behind the last
    have hx := hn x hxm
    have hlast : (maxLevels a b).getLastD 0 = x := by
      have hne : maxLevels a b ≠ [] := List.ne_nil_of_mem hxm
      have h1 : (maxLevels a b).getLast? = some ((maxLevels a b).getLast hne) := List.getLast?_eq_getLast hne
      have h2 : (maxLevels a b).getLastD 0 = (maxLevels a b).getLast hne := by rw [List.getLastD_eq_getLast?, h1]; rfl
      have h3 := rise_last (inOrder_rise _) h1 x hxm
      have h4 := hl _ (List.getLast_mem hne)
      rw [h2]; grind
    have hll : ∀ z ∈ levelsOf [a, b], z ≤ x := fun z hz => hl z (maxLevels_mem.mpr (.inl hz))
    have fa := ha.affFrom (a := x) fun q hq => hll q.1 (hca q hq)
    have fb := hb.affFrom (a := x) fun q hq => hll q.1 (hcb q hq)
    have hst : steeper a b x = a.sl - b.sl := by
      unfold steeper
      rw [ha.risesEnd fun q hq => hll q.1 (hca q hq), hb.risesEnd fun q hq => hll q.1 (hcb q hq)]
    -- the last level of the two
    obtain ⟨u, hu, hux, hul⟩ := level_below (l := levelsOf [a, b]) (x := x) ⟨0, levels_zero _, hx⟩
    have hu0 := hlev u hu
    have hul2 : ∀ z ∈ levelsOf [a, b], z ≤ u := fun z hz => by
      rcases hul z hz with h | h
      · exact h
      · have := hll z hz; grind
    have fau := ha.affFrom (a := u) fun q hq => hul2 q.1 (hca q hq)
    have fbu := hb.affFrom (a := u) fun q hq => hul2 q.1 (hcb q hq)
    have hsu : steeper a b u = a.sl - b.sl := by
      unfold steeper
      rw [ha.risesEnd fun q hq => hul2 q.1 (hca q hq), hb.risesEnd fun q hq => hul2 q.1 (hcb q hq)]
    have dx : f x - g x = more a b u + steeper a b u * (x - u) := by
      rw [fau x hux, fbu x hux, hD u hu0, hsu]; grind
    have hmeet : more a b u * steeper a b u < 0 → x < u + absR (more a b u) / absR (steeper a b u) → False := fun h1 h2 => by
      have : u + absR (more a b u) / absR (steeper a b u) ∈ meetings a b := meetGo_in (inOrder_rise _) hu h1 fun z hz => .inl (hul2 z hz)
      have := hl _ (maxLevels_mem.mpr (.inr this))
      grind
    have no1 : ¬ (0 < f x - g x ∧ a.sl - b.sl < 0) := fun ⟨h1, h2⟩ => by
      obtain ⟨c1, c2⟩ := cross_far_down hux (by rw [← dx]; exact h1) (by rw [hsu]; exact h2)
      exact hmeet c1 c2
    have no2 : ¬ (f x - g x < 0 ∧ 0 < a.sl - b.sl) := fun ⟨h1, h2⟩ => by
      obtain ⟨c1, c2⟩ := cross_far_up hux (by rw [← dx]; exact h1) (by rw [hsu]; exact h2)
      exact hmeet c1 c2
    rw [hlast]
    have hmine : isMine a b x = true ↔ 0 < f x - g x ∨ (f x - g x = 0 ∧ 0 < a.sl - b.sl) := by
      unfold isMine
      rw [hD x hx, hst]
      simp
    intro z hz
    dsimp only
    have dz : f z - g z = (f x - g x) + (a.sl - b.sl) * (z - x) := by rw [fa z hz, fb z hz]; grind
    by_cases hm : isMine a b x = true
    · rw [if_pos hm]
      have h1 : 0 ≤ f x - g x ∧ 0 ≤ a.sl - b.sl := by
        rcases hmine.mp hm with h | h
        · refine ⟨by grind, ?_⟩
          by_cases h2 : a.sl - b.sl < 0
          · exact absurd ⟨h, h2⟩ no1
          · grind
        · grind
      have h2 := mul_nn h1.2 (show 0 ≤ z - x by grind)
      rw [mx_of_le (by grind), mx_of_le (by grind)]
      exact fa z hz
    · rw [if_neg hm]
      have h0 : ¬ (0 < f x - g x ∨ (f x - g x = 0 ∧ 0 < a.sl - b.sl)) := fun h => hm (hmine.mpr h)
      have h1 : f x - g x ≤ 0 ∧ a.sl - b.sl ≤ 0 := by
        refine ⟨by grind, ?_⟩
        by_cases h2 : 0 < a.sl - b.sl
        · by_cases h3 : f x - g x < 0
          · exact absurd ⟨h3, h2⟩ no2
          · exact absurd (.inr ⟨by grind, h2⟩) h0
        · grind
      have h2 := mul_nn (show 0 ≤ -(a.sl - b.sl) by grind) (show 0 ≤ z - x by grind)
      rw [mx_of_ge (by grind), mx_of_ge (by grind)]
      exact fb z hz
end My
namespace My
theorem Seg.at {f : Rat → Rat} {sl : Rat} : ∀ {cs : List Pt}, Seg f cs sl → ∀ i a, cs[i]? = some a →
    (∀ b, cs[i + 1]? = some b → a.1 < b.1 ∧ ∀ z, a.1 ≤ z → z ≤ b.1 → f z = a.2 + slopeAt ⟨cs, sl⟩ i * (z - a.1)) ∧ (cs[i + 1]? = none → slopeAt ⟨cs, sl⟩ i = sl ∧ ∀ z, a.1 ≤ z → f z = a.2 + sl * (z - a.1))
  | [], h, _, _, _ => h.elim
  | [p], h, i, a, e => by
    cases i with
    | zero =>
      have : p = a := by simpa using e
      subst this
      exact ⟨fun b hb => by simp at hb, fun _ => ⟨by simp [slopeAt], h.2⟩⟩
    | succ i => simp at e
  | p :: q :: r, h, i, a, e => by
    cases i with
    | zero =>
      have : p = a := by simpa using e
      subst this
      refine ⟨fun b hb => ?_, fun hn => by simp at hn⟩
      have : q = b := by simpa using hb
      subst this
      exact ⟨h.2.1, fun z h1 h2 => by rw [h.2.2.1 z h1 h2]; simp [slopeAt]⟩
    | succ i =>
      have := Seg.at h.2.2.2 i a (by simpa using e)
      rw [slopeAt_succ]
      simpa using this
theorem belowIx_mem {c : Cv} {y : Rat} {i : Nat} : i ∈ belowIx c y ↔ i < c.cs.length ∧ (c.cs.getD i (0, 0)).2 < y := by
  unfold belowIx
  rw [List.mem_filter, List.mem_range, decide_eq_true_eq]
theorem last_below {c : Cv} {y : Rat} (h : belowIx c y ≠ []) : (belowIx c y).getLastD 0 ∈ belowIx c y ∧ ∀ j ∈ belowIx c y, j ≤ (belowIx c y).getLastD 0 := by
  have e : (belowIx c y).getLastD 0 = (belowIx c y).getLast h := by rw [List.getLastD_eq_getLast?, List.getLast?_eq_getLast h]; rfl
  rw [e]
  refine ⟨List.getLast_mem h, fun j hj => ?_⟩
  have hs : (belowIx c y).Pairwise (· < ·) := List.Pairwise.filter _ List.pairwise_lt_range
  have key : ∀ (l : List Nat) (hl : l ≠ []), l.Pairwise (· < ·) → ∀ j ∈ l, j ≤ l.getLast hl := by
    intro l
    induction l with
    | nil => intro hl; exact absurd rfl hl
    | cons a t ih =>
      intro hl hp j hj
      have hp' := List.pairwise_cons.mp hp
      cases t with
      | nil => simp at hj; subst hj; simp
      | cons b t' =>
        rw [List.getLast_cons (by simp)]
        rcases List.mem_cons.mp hj with rfl | hj
        · have h1 := hp'.1 _ (List.getLast_mem (l := b :: t') (by simp))
          omega
        · exact ih (by simp) hp'.2 j hj
  exact key _ h hs j hj
/-- the level that a pay above nought is reached at -/
theorem reached_pos {c : Cv} {f : Rat → Rat} (h : Fits c f) (f0 : f 0 = 0) {y : Rat} (hy : 0 < y) (hs : 0 < c.sl) : ∃ l, reached c y = some l ∧ 0 < l ∧ f l = y := by
  obtain ⟨p, r, e, e0⟩ := h.zero
  have hp2 : p.2 = 0 := by
    have := h.seg.on p (by rw [e]; exact List.mem_cons_self)
    rw [this, e0, f0]
  have h0 : 0 ∈ belowIx c y := belowIx_mem.mpr ⟨by rw [e]; simp, by rw [e]; simp [hp2, hy]⟩
  have hne : belowIx c y ≠ [] := List.ne_nil_of_mem h0
  obtain ⟨hi, hmax⟩ := last_below hne
  obtain ⟨hin, hiy⟩ := belowIx_mem.mp hi
  unfold reached
  rw [if_neg hne]
  generalize (belowIx c y).getLastD 0 = i at hi hmax hin hiy ⊢
  obtain ⟨a, ha⟩ : ∃ a, c.cs[i]? = some a := ⟨_, List.getElem?_eq_getElem hin⟩
  have had : c.cs.getD i (0, 0) = a := by rw [List.getD_eq_getElem?_getD, ha]; rfl
  rw [had] at hiy ⊢
  have ha0 : 0 ≤ a.1 := h.nonneg a (List.mem_of_getElem? ha)
  obtain ⟨g1, g2⟩ := h.seg.at i a ha
  have hc : (⟨c.cs, c.sl⟩ : Cv) = c := rfl
  rw [hc] at g1 g2
  cases hb : c.cs[i + 1]? with
  | none =>
    obtain ⟨g3, g4⟩ := g2 hb
    rw [g3, if_neg (by grind)]
    have hpos : 0 < (y - a.2) / c.sl := lt_div_of hs (by grind)
    refine ⟨_, rfl, by grind, ?_⟩
    rw [g4 _ (by grind)]
    have := div_mul_self' (a := y - a.2) (s := c.sl) (by grind)
    grind
  | some b =>
    obtain ⟨g3, g4⟩ := g1 b hb
    have hby : y ≤ b.2 := by
      by_cases hlt : b.2 < y
      · have hin2 : i + 1 < c.cs.length := (List.getElem?_eq_some_iff.mp hb).1
        have hbd : c.cs.getD (i + 1) (0, 0) = b := by rw [List.getD_eq_getElem?_getD, hb]; rfl
        have := hmax (i + 1) (belowIx_mem.mpr ⟨hin2, by rw [hbd]; exact hlt⟩)
        omega
      · grind
    have hfb : f b.1 = b.2 := (h.seg.on b (List.mem_of_getElem? hb)).symm
    have hb2 := g4 b.1 (by grind) (by grind)
    have hsl : 0 < slopeAt c i := by
      by_cases hh : 0 < slopeAt c i
      · exact hh
      · have : slopeAt c i * (b.1 - a.1) ≤ 0 * (b.1 - a.1) := Rat.mul_le_mul_of_nonneg_right (by grind) (by grind)
        grind
    rw [if_neg (by grind)]
    have hpos : 0 < (y - a.2) / slopeAt c i := lt_div_of hsl (by grind)
    have hle : (y - a.2) / slopeAt c i ≤ b.1 - a.1 := div_le_of hsl (by grind)
    refine ⟨_, rfl, by grind, ?_⟩
    rw [g4 _ (by grind) (by grind)]
    have := div_mul_self' (a := y - a.2) (s := slopeAt c i) (by grind)
    grind
theorem reached_zero {c : Cv} {f : Rat → Rat} (h : Fits c f) (hn : ∀ x, 0 ≤ x → 0 ≤ f x) : reached c 0 = some 0 := by
  have : belowIx c 0 = [] := by
    rw [List.eq_nil_iff_forall_not_mem]
    intro i hi
    obtain ⟨h1, h2⟩ := belowIx_mem.mp hi
    have hm : c.cs.getD i (0, 0) ∈ c.cs := by
      rw [List.getD_eq_getElem?_getD, List.getElem?_eq_getElem h1]; exact List.getElem_mem h1
    have := h.seg.on _ hm
    have := hn _ (h.nonneg _ hm)
    grind
  unfold reached
  rw [if_pos this]
theorem sb_shift (a b : Pt) (g : Rat) : sb (a.1, a.2 - g) (b.1, b.2 - g) = sb a b := by
  unfold sb
  have : b.2 - g - (a.2 - g) = b.2 - a.2 := by grind
  simp only [this]
theorem Seg.shift {f : Rat → Rat} {sl g : Rat} : ∀ {cs : List Pt}, Seg f cs sl → Seg (fun x => f x - g) (cs.map fun p => (p.1, p.2 - g)) sl
  | [], h => h.elim
  | [a], h => ⟨by show a.2 - g = f a.1 - g; rw [h.1], fun x hx => by
      show f x - g = a.2 - g + sl * (x - a.1)
      rw [h.2 x hx]; grind⟩
  | a :: b :: r, h => by
    refine ⟨by show a.2 - g = f a.1 - g; rw [h.1], h.2.1, fun x hx hx2 => ?_, Seg.shift h.2.2.2⟩
    show f x - g = a.2 - g + sb (a.1, a.2 - g) (b.1, b.2 - g) * (x - a.1)
    rw [sb_shift, h.2.2.1 x hx hx2]; grind
theorem Seg.congr {f g : Rat → Rat} {sl : Rat} : ∀ {cs : List Pt} {p : Pt} {r : List Pt}, cs = p :: r → Seg f cs sl → (∀ x, p.1 ≤ x → f x = g x) → Seg g cs sl
  | [], _, _, e, _, _ => by cases e
  | [p], _, _, e, h, hg => by
    cases e
    exact ⟨by rw [h.1]; exact hg _ (by grind), fun x hx => by rw [← hg x hx]; exact h.2 x hx⟩
  | p :: q :: r, _, _, e, h, hg => by
    cases e
    exact ⟨by rw [h.1]; exact hg _ (by grind), h.2.1, fun x hx hx2 => by rw [← hg x hx]; exact h.2.2.1 x hx hx2, Seg.congr rfl h.2.2.2 fun x hx => hg x (by have := h.2.1; grind)⟩
theorem asc_filter {l : Rat} : ∀ {cs : List Pt}, Asc cs → (∀ p r, cs = p :: r → l < p.1) → cs.filter (fun p => decide (l < p.1)) = cs := by
  intro cs h hp
  refine List.filter_eq_self.mpr fun q hq => ?_
  cases cs with
  | nil => simp at hq
  | cons p r =>
    have h1 := hp p r rfl
    rcases List.mem_cons.mp hq with rfl | hq
    · simpa using h1
    · have := (List.pairwise_cons.mp h).1 q hq
      simp only [decide_eq_true_eq]; grind
/-- cut off ahead of a level -/
theorem Seg.cut {f : Rat → Rat} {sl l : Rat} : ∀ {cs : List Pt} {p : Pt} {r : List Pt}, cs = p :: r → Seg f cs sl → p.1 ≤ l → Seg f ((l, f l) :: cs.filter fun p => decide (l < p.1)) sl
  | [], _, _, e, _, _ => by cases e
  | [p], _, _, e, h, hl => by
    cases e
    have : [p].filter (fun p => decide (l < p.1)) = [] := by
      rw [List.filter_eq_nil_iff]
      intro q hq
      rw [List.mem_singleton.mp hq]
      simp only [decide_eq_true_eq]; grind
    rw [this]
    exact ⟨rfl, fun x hx => by
      show f x = f l + sl * (x - l)
      have hx' : l ≤ x := hx
      rw [h.2 x (by grind), h.2 l hl]; grind⟩
  | p :: q :: r, _, _, e, h, hl => by
    cases e
    have hp : ¬ l < p.1 := by grind
    have e1 : (p :: q :: r).filter (fun p => decide (l < p.1)) = (q :: r).filter (fun p => decide (l < p.1)) := by
      rw [List.filter_cons, if_neg (by simpa using hp)]
    rw [e1]
    by_cases hq : q.1 ≤ l
    · exact Seg.cut rfl h.2.2.2 hq
    · have hq' : l < q.1 := by grind
      rw [asc_filter (Seg.asc h.2.2.2) (fun p' r' e' => by cases e'; exact hq')]
      have e2 : sb (l, f l) q = sb p q := by
        refine sb_self (a := (l, f l)) (b := q) hq' ?_
        show q.2 = f l + sb p q * (q.1 - l)
        have e3 := h.2.2.1 l hl (by grind)
        have e4 := sb_mul h.2.1
        rw [e3]; grind
      refine ⟨rfl, hq', fun x hx hx2 => ?_, h.2.2.2⟩
      show f x = f l + sb (l, f l) q * (x - l)
      have hx' : l ≤ x := hx
      rw [e2, h.2.2.1 x (by grind) hx2, h.2.2.1 l hl (by grind)]; grind
theorem lowerCs_seg {c : Cv} {f : Rat → Rat} (h : Fits c f) {g l : Rat} (hl : 0 ≤ l) (hf : f l = g) : Seg (fun x => if x ≤ l then 0 else f x - g) (lowerCs c g l) c.sl ∧ ∃ r, lowerCs c g l = (0, 0) :: r := by
  obtain ⟨p, r, e, e0⟩ := h.zero
  have hcut := (Seg.cut e h.seg (by rw [e0]; exact hl)).shift (g := g)
  have hgl : ((l, f l) : Pt).2 - g = 0 := by show f l - g = 0; grind
  have hcut' : Seg (fun x => if x ≤ l then 0 else f x - g) ((l, 0) :: (c.cs.filter fun p => decide (l < p.1)).map fun p => (p.1, p.2 - g)) c.sl := by
    have e1 : (((l, f l) :: c.cs.filter fun p => decide (l < p.1)).map fun p => ((p.1, p.2 - g) : Pt)) = (l, 0) :: (c.cs.filter fun p => decide (l < p.1)).map fun p => (p.1, p.2 - g) := by
      rw [List.map_cons, hgl]
    rw [e1] at hcut
    refine Seg.congr rfl hcut fun x hx => ?_
    have hx' : l ≤ x := hx
    split
    · have : x = l := by grind
      rw [this, hf]; grind
    · rfl
  by_cases hp : 0 < l
  · have e2 : lowerCs c g l = (0, 0) :: (l, 0) :: (c.cs.filter fun p => decide (l < p.1)).map fun p => (p.1, p.2 - g) := by
      unfold lowerCs; rw [if_pos hp]; rfl
    rw [e2]
    refine ⟨⟨?_, hp, fun x hx hx2 => ?_, hcut'⟩, _, rfl⟩
    · show (0 : Rat) = if (0 : Rat) ≤ l then 0 else f 0 - g
      rw [if_pos hl]
    · have hx2' : x ≤ l := hx2
      show (if x ≤ l then 0 else f x - g) = 0 + sb (0, 0) (l, 0) * (x - 0)
      have e3 : sb ((0, 0) : Pt) (l, 0) = 0 := by
        unfold sb
        show ((0 : Rat) - 0) / (l - 0) = 0
        rw [show (0 : Rat) - 0 = 0 by grind, Rat.div_def, Rat.zero_mul]
      rw [if_pos hx2', e3]; grind
  · have hl0 : l = 0 := by grind
    subst hl0
    have e2 : lowerCs c g 0 = (0, 0) :: (c.cs.filter fun p => decide (0 < p.1)).map fun p => (p.1, p.2 - g) := by
      unfold lowerCs; rw [if_neg (by grind)]; rfl
    rw [e2]
    exact ⟨hcut', _, rfl⟩
theorem fits_lowered {c : Cv} {f : Rat → Rat} (h : Fits c f) {g l : Rat} (hr : reached c g = some l) (hl : 0 ≤ l) (hf : f l = g) : Fits (lowered c g) (fun x => if x ≤ l then 0 else f x - g) := by
  obtain ⟨h1, r, h2⟩ := lowerCs_seg h hl hf
  unfold lowered
  rw [hr]
  exact fits_mk h1 ⟨_, r, h2, rfl⟩
end My
namespace My
theorem Fits.congr {c : Cv} {f g : Rat → Rat} (h : Fits c f) (e : ∀ x, 0 ≤ x → f x = g x) : Fits c g := by
  obtain ⟨p, r, e1, e0⟩ := h.zero
  exact ⟨Seg.congr e1 h.seg fun x hx => e x (by rw [e0] at hx; exact hx), p, r, e1, e0⟩
theorem fits_line (c : Rat) : Fits (mkCv [(0, 0)] c) (fun x => c * x) :=
  fits_mk ⟨by show (0 : Rat) = c * 0; grind, fun x _ => by show c * x = 0 + c * (x - 0); grind⟩ ⟨_, _, rfl, rfl⟩
theorem fits_cv0 : Fits cv0 (fun _ => 0) :=
  ⟨⟨rfl, fun x _ => by show (0 : Rat) = 0 + 0 * (x - 0); grind⟩, _, _, rfl, rfl⟩
theorem fits_knee {l c : Rat} (hl : 0 < l) : Fits (mkCv [(0, 0), (l, 0)] c) (fun x => if x ≤ l then 0 else c * (x - l)) := by
  refine fits_mk ⟨?_, hl, fun x hx hx2 => ?_, ?_, fun x hx => ?_⟩ ⟨_, _, rfl, rfl⟩
  · show (0 : Rat) = if (0 : Rat) ≤ l then 0 else c * (0 - l)
    rw [if_pos (by grind)]
  · have hx2' : x ≤ l := hx2
    show (if x ≤ l then 0 else c * (x - l)) = 0 + sb (0, 0) (l, 0) * (x - 0)
    have e3 : sb ((0, 0) : Pt) (l, 0) = 0 := by
      unfold sb
      show ((0 : Rat) - 0) / (l - 0) = 0
      rw [show (0 : Rat) - 0 = 0 by grind, Rat.div_def, Rat.zero_mul]
    rw [if_pos hx2', e3]; grind
  · show (0 : Rat) = if l ≤ l then 0 else c * (l - l)
    rw [if_pos (by grind)]
  · have hx' : l ≤ x := hx
    show (if x ≤ l then 0 else c * (x - l)) = 0 + c * (x - l)
    split
    · have : x = l := by grind
      subst this; grind
    · grind
theorem inv_mul1 {q : Rat} (h : q ≠ 0) : q * (1 / q) = 1 := by rw [Rat.div_def, Rat.one_mul, Rat.mul_inv_cancel _ h]
theorem div_eq_mul1 (a q : Rat) : a / q = a * (1 / q) := by rw [Rat.div_def, Rat.div_def, Rat.one_mul]
theorem one_div_pos {q : Rat} (h : 0 < q) : 0 < 1 / q := by rw [Rat.div_def, Rat.one_mul]; exact Rat.inv_pos.mpr h
theorem rmax_le {a b : Rat} (h : b ≤ a) : rmax a b = a := by unfold rmax; rw [if_neg (by grind)]
theorem rmax_ge {a b : Rat} (h : a ≤ b) : rmax a b = b := by
  unfold rmax
  split
  · rfl
  · grind
theorem rmax_mono {a b a' b' : Rat} (h1 : a ≤ a') (h2 : b ≤ b') : rmax a b ≤ rmax a' b' := by
  by_cases h : a ≤ b <;> by_cases h' : a' ≤ b'
  · rw [rmax_ge h, rmax_ge h']; exact h2
  · rw [rmax_ge h, rmax_le (by grind)]; grind
  · rw [rmax_le (by grind), rmax_ge h']; grind
  · rw [rmax_le (by grind), rmax_le (by grind)]; exact h1
theorem thingCv_fits {t : Th} {m : Rat} (ht : ThOk t) (hm : 0 ≤ m) : Fits (thingCv t m) (fun p => thingW t p m - thingW t 0 m) := by
  cases t with
  | shares c =>
    refine (fits_line c).congr fun x hx => ?_
    show c * x = c * x - c * 0
    grind
  | kept c old =>
    obtain ⟨h1, h2⟩ : 0 < c ∧ 0 < old := ht
    refine (fits_knee h2).congr fun x hx => ?_
    show (if x ≤ old then 0 else c * (x - old)) = c * rmax x old - c * rmax 0 old
    rw [rmax_ge (show (0 : Rat) ≤ old by grind)]
    split
    · rename_i h; rw [rmax_ge h]; grind
    · rename_i h; rw [rmax_le (by grind)]; grind
  | note amt cap disc =>
    obtain ⟨h1, h2, h3⟩ : 0 < amt ∧ (∀ k, cap = some k → 0 < k) ∧ ∀ e, disc = some e → 0 ≤ e ∧ e < 1 := ht
    obtain ⟨l1, l2⟩ := disc_lt h3
    cases cap with
    | none =>
      refine fits_cv0.congr fun x hx => ?_
      show (0 : Rat) = amt / (1 - disc.getD 0) - amt / (1 - disc.getD 0)
      grind
    | some k =>
      have hk := h2 k rfl
      generalize hd : 1 - disc.getD 0 = dd
      have hdd : 0 < dd := by grind
      have e1 := inv_mul1 (q := dd) (by grind)
      have e2 := inv_mul1 (q := k) (by grind)
      have p1 := one_div_pos hdd
      have p2 := one_div_pos hk
      have hturn : 0 < k / dd := by rw [div_eq_mul1]; exact Rat.mul_pos hk p1
      show Fits (mkCv [(0, 0), (k / (1 - disc.getD 0), 0)] (amt / k)) _
      rw [hd]
      refine (fits_knee hturn).congr fun x hx => ?_
      show (if x ≤ k / dd then 0 else amt / k * (x - k / dd)) = rmax (amt / (1 - disc.getD 0)) (x * amt / k) - rmax (amt / (1 - disc.getD 0)) (0 * amt / k)
      rw [hd, div_eq_mul1 amt k, div_eq_mul1 k dd, div_eq_mul1 amt dd, div_eq_mul1 (x * amt) k, div_eq_mul1 (0 * amt) k]
      generalize 1 / dd = w at *
      generalize 1 / k = v at *
      have hs : 0 < amt * v := Rat.mul_pos h1 p2
      have hb : 0 < amt * w := Rat.mul_pos h1 p1
      have eb : amt * w = (k * w) * (amt * v) := by grind
      have ex : x * amt * v = x * (amt * v) := by grind
      rw [rmax_le (show 0 * amt * v ≤ amt * w by grind), ex, eb]
      split
      · rename_i h
        have := Rat.mul_le_mul_of_nonneg_right h (show 0 ≤ amt * v by grind)
        rw [rmax_le this]; grind
      · rename_i h
        have := Rat.mul_le_mul_of_nonneg_right (show k * w ≤ x by grind) (show 0 ≤ amt * v by grind)
        rw [rmax_ge this]; grind
  | weighed c old thn =>
    obtain ⟨h1, h2, h3⟩ : 0 < c ∧ 0 < old ∧ 0 < thn := ht
    have hq : 0 < thn * old + m := by have := Rat.mul_pos h3 h2; grind
    have e1 := inv_mul1 (q := thn * old + m) (by grind)
    have hw0 : weighedW c old thn 0 m = c * old * (m * (1 / (thn * old + m))) := by
      unfold weighedW
      rw [if_neg (by grind), div_eq_mul1 (thn * 0 + m)]; grind
    have hfx : ∀ x, 0 ≤ x → x ≤ old → weighedW c old thn x m - weighedW c old thn 0 m = c * old * thn * (1 / (thn * old + m)) * x := fun x hx hx2 => by
      rw [hw0]
      unfold weighedW
      split
      · have : x = old := by grind
        subst this
        generalize 1 / (thn * x + m) = w at *
        grind
      · rw [div_eq_mul1 (thn * x + m)]
        generalize 1 / (thn * old + m) = w at *
        grind
    have hrise : c * old - weighedW c old thn 0 m = c * old * thn * (1 / (thn * old + m)) * old := by
      rw [hw0]
      generalize 1 / (thn * old + m) = w at *
      grind
    show Fits (mkCv [(0, 0), (old, c * old - weighedW c old thn 0 m)] c) (fun p => weighedW c old thn p m - weighedW c old thn 0 m)
    refine fits_mk ⟨?_, h2, fun x hx hx2 => ?_, ?_, fun x hx => ?_⟩ ⟨_, _, rfl, rfl⟩
    · show (0 : Rat) = weighedW c old thn 0 m - weighedW c old thn 0 m
      grind
    · have hx2' : x ≤ old := hx2
      have hx' : 0 ≤ x := hx
      show weighedW c old thn x m - weighedW c old thn 0 m = 0 + sb (0, 0) (old, c * old - weighedW c old thn 0 m) * (x - 0)
      have e3 : sb ((0, 0) : Pt) (old, c * old - weighedW c old thn 0 m) = c * old * thn * (1 / (thn * old + m)) := by
        refine sb_self (a := ((0, 0) : Pt)) (b := (old, c * old - weighedW c old thn 0 m)) h2 ?_
        show c * old - weighedW c old thn 0 m = 0 + c * old * thn * (1 / (thn * old + m)) * (old - 0)
        rw [hrise]; grind
      rw [e3, hfx x hx' hx2']; grind
    · show c * old - weighedW c old thn 0 m = weighedW c old thn old m - weighedW c old thn 0 m
      have : weighedW c old thn old m = old * c := if_pos (by grind)
      rw [this]; grind
    · have hx' : old ≤ x := hx
      show weighedW c old thn x m - weighedW c old thn 0 m = c * old - weighedW c old thn 0 m + c * (x - old)
      have : weighedW c old thn x m = x * c := if_pos hx'
      rw [this]; grind
theorem thingW_mono {t : Th} {m p p' : Rat} (ht : ThOk t) (hm : 0 ≤ m) (hp : 0 ≤ p) (hpp : p ≤ p') : thingW t p m ≤ thingW t p' m := by
  cases t with
  | shares c =>
    have h1 : 0 < c := ht
    exact Rat.mul_le_mul_of_nonneg_left hpp (by grind)
  | kept c old =>
    obtain ⟨h1, h2⟩ : 0 < c ∧ 0 < old := ht
    exact Rat.mul_le_mul_of_nonneg_left (rmax_mono hpp (by grind)) (by grind)
  | note amt cap disc =>
    obtain ⟨h1, h2, h3⟩ : 0 < amt ∧ (∀ k, cap = some k → 0 < k) ∧ ∀ e, disc = some e → 0 ≤ e ∧ e < 1 := ht
    cases cap with
    | none => show amt / (1 - disc.getD 0) ≤ amt / (1 - disc.getD 0); grind
    | some k =>
      have hk := one_div_pos (h2 k rfl)
      refine rmax_mono (by grind) ?_
      rw [div_eq_mul1 (p * amt), div_eq_mul1 (p' * amt)]
      exact Rat.mul_le_mul_of_nonneg_right (Rat.mul_le_mul_of_nonneg_right hpp (by grind)) (by grind)
  | weighed c old thn =>
    obtain ⟨h1, h2, h3⟩ : 0 < c ∧ 0 < old ∧ 0 < thn := ht
    have hq : 0 < thn * old + m := by have := Rat.mul_pos h3 h2; grind
    have e1 := inv_mul1 (q := thn * old + m) (by grind)
    have hw := one_div_pos hq
    show weighedW c old thn p m ≤ weighedW c old thn p' m
    unfold weighedW
    have hco : 0 ≤ c * old := mul_nn (by grind) (by grind)
    split
    · rw [if_pos (by grind)]
      exact Rat.mul_le_mul_of_nonneg_right hpp (by grind)
    · split
      · rename_i g1 g2
        rw [div_eq_mul1]
        have g3 : (thn * p + m) * (1 / (thn * old + m)) ≤ (thn * old + m) * (1 / (thn * old + m)) := Rat.mul_le_mul_of_nonneg_right (by have := Rat.mul_le_mul_of_nonneg_left (show p ≤ old by grind) (show 0 ≤ thn by grind); grind) (by grind)
        have g4 := Rat.mul_le_mul_of_nonneg_left g3 hco
        have g5 := Rat.mul_le_mul_of_nonneg_right g2 (show 0 ≤ c by grind)
        have g6 : c * old * ((thn * old + m) * (1 / (thn * old + m))) = c * old := by rw [e1, Rat.mul_one]
        rw [g6] at g4
        have g7 : c * old = old * c := Rat.mul_comm _ _
        grind
      · rw [div_eq_mul1 (thn * p + m), div_eq_mul1 (thn * p' + m)]
        refine Rat.mul_le_mul_of_nonneg_left (Rat.mul_le_mul_of_nonneg_right ?_ (show 0 ≤ 1 / (thn * old + m) by grind)) hco
        have := Rat.mul_le_mul_of_nonneg_left hpp (show 0 ≤ thn by grind)
        grind
theorem thingW_nonneg {t : Th} {m p : Rat} (ht : ThOk t) (hm : 0 ≤ m) (hp : 0 ≤ p) : 0 ≤ thingW t p m := by
  cases t with
  | shares c => exact mul_nn (by have h1 : 0 < c := ht; grind) hp
  | kept c old =>
    obtain ⟨h1, h2⟩ : 0 < c ∧ 0 < old := ht
    refine mul_nn (by grind) ?_
    have := rmax_mono hp (show 0 ≤ old by grind)
    rw [rmax_le (show (0 : Rat) ≤ 0 by grind)] at this
    exact this
  | note amt cap disc =>
    obtain ⟨h1, h2, h3⟩ : 0 < amt ∧ (∀ k, cap = some k → 0 < k) ∧ ∀ e, disc = some e → 0 ≤ e ∧ e < 1 := ht
    obtain ⟨l1, l2⟩ := disc_lt h3
    have hb : 0 ≤ amt / (1 - disc.getD 0) := div_nn (by grind) (by grind)
    cases cap with
    | none => exact hb
    | some k =>
      show 0 ≤ rmax (amt / (1 - disc.getD 0)) (p * amt / k)
      by_cases h : amt / (1 - disc.getD 0) ≤ p * amt / k
      · rw [rmax_ge h]; grind
      · rw [rmax_le (by grind)]; exact hb
  | weighed c old thn =>
    obtain ⟨h1, h2, h3⟩ : 0 < c ∧ 0 < old ∧ 0 < thn := ht
    show 0 ≤ weighedW c old thn p m
    unfold weighedW
    split
    · exact mul_nn hp (by grind)
    · exact mul_nn (mul_nn (by grind) (by grind)) (div_nn (by have := mul_nn (show 0 ≤ thn by grind) hp; grind) (by have := mul_nn (show 0 ≤ thn by grind) (show 0 ≤ old by grind); grind))
/-- a deal as the document has it -/
structure DealOk (d : Deal) : Prop where
  things : ∀ t ∈ d.things, ThOk t
  money : 0 ≤ d.money
  count : 0 ≤ d.count
  part : 0 ≤ d.part ∧ d.part < 1
  some : ∃ c, 0 < c ∧ Th.shares c ∈ d.things
theorem sum_map_le {α : Type} {f g : α → Rat} : ∀ {ts : List α}, (∀ t ∈ ts, f t ≤ g t) → (ts.map f).sum ≤ (ts.map g).sum
  | [], _ => by simp
  | t :: ts, h => by
    have h1 := h t List.mem_cons_self
    have h2 := sum_map_le fun u hu => h u (List.mem_cons_of_mem _ hu)
    simp only [List.map_cons, List.sum_cons]
    grind
theorem sum_map_lt {α : Type} {f g : α → Rat} : ∀ {ts : List α}, (∀ t ∈ ts, f t ≤ g t) → (∃ t ∈ ts, f t < g t) → (ts.map f).sum < (ts.map g).sum
  | [], _, ⟨_, h, _⟩ => by simp at h
  | t :: ts, h, ⟨u, hu, hlt⟩ => by
    have h1 := h t List.mem_cons_self
    simp only [List.map_cons, List.sum_cons]
    rcases List.mem_cons.mp hu with rfl | hu
    · have h2 := sum_map_le fun u hu => h u (List.mem_cons_of_mem _ hu)
      grind
    · have h2 := sum_map_lt (fun u hu => h u (List.mem_cons_of_mem _ hu)) ⟨u, hu, hlt⟩
      grind
theorem sum_nonneg {l : List Rat} (h : ∀ x ∈ l, 0 ≤ x) : 0 ≤ l.sum := by
  induction l with
  | nil => simp
  | cons a t ih =>
    have h1 := h a List.mem_cons_self
    have h2 := ih fun x hx => h x (List.mem_cons_of_mem _ hx)
    rw [List.sum_cons]; grind
theorem DealOk.mono {d : Deal} (h : DealOk d) {p p' : Rat} (hp : 0 ≤ p) (hpp : p ≤ p') : (thingWs d p).sum ≤ (thingWs d p').sum :=
  sum_map_le fun t ht => thingW_mono (h.things t ht) h.money hp hpp
theorem DealOk.strict {d : Deal} (h : DealOk d) {p p' : Rat} (hp : 0 ≤ p) (hpp : p < p') : (thingWs d p).sum < (thingWs d p').sum := by
  obtain ⟨c, hc, hm⟩ := h.some
  exact sum_map_lt (fun t ht => thingW_mono (h.things t ht) h.money hp (by grind)) ⟨_, hm, Rat.mul_lt_mul_of_pos_left hpp hc⟩
theorem DealOk.nn {d : Deal} (h : DealOk d) {p : Rat} (hp : 0 ≤ p) : 0 ≤ (thingWs d p).sum := by
  refine sum_nonneg fun x hx => ?_
  obtain ⟨t, ht, rfl⟩ := List.mem_map.mp hx
  exact thingW_nonneg (h.things t ht) h.money hp
theorem worthAt_eq (d : Deal) (p : Rat) : worthAt d p = (thingWs d p).sum + poolW d p (thingWs d p).sum := by
  unfold worthAt worthsAt
  rw [List.sum_append]
  simp [Rat.add_zero]
theorem sum_sub_map {α : Type} {f g : α → Rat} : ∀ ts : List α, (ts.map fun t => f t - g t).sum = (ts.map f).sum - (ts.map g).sum
  | [] => by simp; grind
  | t :: ts => by
    simp only [List.map_cons, List.sum_cons]
    rw [sum_sub_map ts]; grind
theorem thingsCv_fits {d : Deal} (h : DealOk d) : Fits (thingsCv d) (fun p => (thingWs d p).sum - (thingWs d 0).sum) := by
  have := fits_added (ts := d.things) (C := fun t => thingCv t d.money) (F := fun t p => thingW t p d.money - thingW t 0 d.money) fun t ht => thingCv_fits (h.things t ht) h.money
  refine this.congr fun x hx => ?_
  rw [sum_sub_map]; rfl
theorem filledCv_fits {d : Deal} (h : DealOk d) : Fits (filledCv d) (fun p => ((thingWs d p).sum - (thingWs d 0).sum) * (1 / (1 - d.part))) := fits_scaled (thingsCv_fits h) _
theorem bareCv_fits {d : Deal} (h : DealOk d) : Fits (bareCv d) (fun p => ((thingWs d p).sum - (thingWs d 0).sum) + d.count * p) := by
  have := fits_added (ts := [(thingsCv d, fun p => (thingWs d p).sum - (thingWs d 0).sum), (mkCv [(0, 0)] d.count, fun p => d.count * p)]) (C := Prod.fst) (F := Prod.snd) fun t ht => by
    simp only [List.mem_cons, List.not_mem_nil, or_false] at ht
    rcases ht with rfl | rfl
    · exact thingsCv_fits h
    · exact fits_line _
  refine this.congr fun x hx => ?_
  simp [Rat.add_zero]
theorem levels_top (l : List Pt) : ∃ m : Rat, 0 ≤ m ∧ ∀ q ∈ l, q.1 ≤ m := by
  induction l with
  | nil => exact ⟨0, by grind, by simp⟩
  | cons a t ih =>
    obtain ⟨m, h1, h2⟩ := ih
    by_cases h : a.1 ≤ m
    · refine ⟨m, h1, fun q hq => ?_⟩
      rcases List.mem_cons.mp hq with rfl | hq
      · exact h
      · exact h2 q hq
    · refine ⟨a.1, by grind, fun q hq => ?_⟩
      rcases List.mem_cons.mp hq with rfl | hq
      · grind
      · have := h2 q hq; grind
theorem Fits.sl_pos {c : Cv} {f : Rat → Rat} (h : Fits c f) (hs : ∀ x y, 0 ≤ x → x < y → f x < f y) : 0 < c.sl := by
  obtain ⟨m, h1, h2⟩ := levels_top c.cs
  have := h.affFrom h2 (m + 1) (by grind)
  have h3 := hs m (m + 1) h1 (by grind)
  grind
theorem pool0 {d : Deal} (h : DealOk d) : poolW d 0 (thingWs d 0).sum = d.part * ((thingWs d 0).sum + d.money) / (1 - d.part) ∧ 0 ≤ poolW d 0 (thingWs d 0).sum := by
  have h1 : 0 ≤ d.part * ((thingWs d 0).sum + d.money) / (1 - d.part) := div_nn (mul_nn h.part.1 (by have := h.nn (p := 0) (by grind); have := h.money; grind)) (by have := h.part.2; grind)
  unfold poolW
  rw [rmax_ge (show 0 * d.count ≤ d.part * ((thingWs d 0).sum + d.money) / (1 - d.part) by grind)]
  exact ⟨rfl, h1⟩
theorem gap_eq {d : Deal} (h : DealOk d) : gapOf d = poolW d 0 (thingWs d 0).sum := by
  unfold gapOf
  rw [worthAt_eq]; grind
/-- what the worth rises by -/
theorem rise_eq {d : Deal} (h : DealOk d) (p : Rat) : worthAt d p - worthAt d 0 = rmax (((thingWs d p).sum - (thingWs d 0).sum) + d.count * p - gapOf d) (((thingWs d p).sum - (thingWs d 0).sum) * (1 / (1 - d.part))) := by
  have e1 := inv_mul1 (q := 1 - d.part) (by have := h.part.2; grind)
  rw [worthAt_eq d p, worthAt_eq d 0, gap_eq h, (pool0 h).1, div_eq_mul1]
  unfold poolW
  rw [div_eq_mul1]
  generalize (thingWs d p).sum = T
  generalize (thingWs d 0).sum = T0
  generalize 1 / (1 - d.part) = w at *
  have key : (T - T0) * w = (T - T0) + (d.part * (T + d.money) * w - d.part * (T0 + d.money) * w) := by grind
  have kc : p * d.count = d.count * p := Rat.mul_comm _ _
  rw [key]
  generalize d.part * (T + d.money) * w = A at *
  generalize d.part * (T0 + d.money) * w = B at *
  generalize d.count * p = cp at *
  rw [kc]
  by_cases hh : cp ≤ A
  · rw [rmax_ge hh, rmax_ge (by grind)]; grind
  · rw [rmax_le (by grind), rmax_le (by grind)]; grind
theorem cut_level {d : Deal} (h : DealOk d) : ∃ l, reached (bareCv d) (gapOf d) = some l ∧ 0 ≤ l ∧ ((thingWs d l).sum - (thingWs d 0).sum) + d.count * l = gapOf d ∧ (l = 0 ∨ 0 < l) := by
  have hf := bareCv_fits h
  have hs : ∀ x y, 0 ≤ x → x < y → ((thingWs d x).sum - (thingWs d 0).sum) + d.count * x < ((thingWs d y).sum - (thingWs d 0).sum) + d.count * y := fun x y hx hxy => by
    have h1 := h.strict hx hxy
    have h2 := Rat.mul_le_mul_of_nonneg_left (show x ≤ y by grind) h.count
    grind
  have hg : 0 ≤ gapOf d := by rw [gap_eq h]; exact (pool0 h).2
  by_cases h0 : 0 < gapOf d
  · obtain ⟨l, e, hl, hfl⟩ := reached_pos hf (by show ((thingWs d 0).sum - (thingWs d 0).sum) + d.count * 0 = 0; grind) h0 (hf.sl_pos hs)
    exact ⟨l, e, by grind, hfl, .inr hl⟩
  · have e0 : gapOf d = 0 := by grind
    rw [e0]
    refine ⟨0, reached_zero hf fun x hx => ?_, by grind, by grind, .inl rfl⟩
    have h1 := h.mono (show (0 : Rat) ≤ 0 by grind) hx
    have h2 := mul_nn h.count hx
    grind
theorem lowered_fits {d : Deal} (h : DealOk d) : Fits (lowered (bareCv d) (gapOf d)) (fun p => if 0 ≤ ((thingWs d p).sum - (thingWs d 0).sum) + d.count * p - gapOf d then ((thingWs d p).sum - (thingWs d 0).sum) + d.count * p - gapOf d else 0) := by
  obtain ⟨l, e, hl, hfl, h0⟩ := cut_level h
  refine (fits_lowered (bareCv_fits h) e hl hfl).congr fun x hx => ?_
  have hs : ∀ x y, 0 ≤ x → x < y → ((thingWs d x).sum - (thingWs d 0).sum) + d.count * x < ((thingWs d y).sum - (thingWs d 0).sum) + d.count * y := fun x y hx hxy => by
    have h1 := h.strict hx hxy
    have h2 := Rat.mul_le_mul_of_nonneg_left (show x ≤ y by grind) h.count
    grind
  by_cases hxl : x ≤ l
  · rw [if_pos hxl]
    by_cases hxe : x = l
    · subst hxe
      rw [if_pos (by grind)]; grind
    · have := hs x l hx (by grind)
      rw [if_neg (by grind)]
  · have := hs l x hl (by grind)
    rw [if_neg hxl, if_pos (by grind)]
theorem worthCv_fits {d : Deal} (h : DealOk d) : Fits (worthCv d) (fun p => worthAt d p - worthAt d 0) := by
  have e1 := inv_mul1 (q := 1 - d.part) (by have := h.part.2; grind)
  have hw := one_div_pos (show 0 < 1 - d.part by have := h.part.2; grind)
  have hg : 0 ≤ gapOf d := by rw [gap_eq h]; exact (pool0 h).2
  have ht : ∀ x, 0 ≤ x → 0 ≤ ((thingWs d x).sum - (thingWs d 0).sum) := fun x hx => by
    have := h.mono (show (0 : Rat) ≤ 0 by grind) hx; grind
  unfold worthCv
  split
  · rename_i hc
    refine (filledCv_fits h).congr fun x hx => ?_
    rw [rise_eq h, hc]
    have h1 := ht x hx
    generalize ((thingWs d x).sum - (thingWs d 0).sum) = t at *
    generalize 1 / (1 - d.part) = w at *
    have h2 : t ≤ t * w := by
      have : 0 ≤ t * (d.part * w) := mul_nn h1 (mul_nn h.part.1 (by grind))
      have e2 : t * w = t + t * (d.part * w) := by grind
      rw [e2]; grind
    rw [rmax_ge (by grind)]
  · refine (fits_greater (fits_greater fits_cv0 (filledCv_fits h)) (lowered_fits h)).congr fun x hx => ?_
    rw [rise_eq h]
    have h1 := ht x hx
    generalize ((thingWs d x).sum - (thingWs d 0).sum) = t at *
    have h2 : 0 ≤ t * (1 / (1 - d.part)) := mul_nn h1 (by grind)
    rw [mx_of_ge h2]
    by_cases hh : t + d.count * x - gapOf d ≤ t * (1 / (1 - d.part))
    · rw [rmax_ge hh]
      split
      · rw [mx_of_le hh]
      · rw [mx_of_le h2]
    · rw [rmax_le (by grind), if_pos (by grind), mx_of_ge (by grind)]
theorem worth_strict {d : Deal} (h : DealOk d) {p p' : Rat} (hp : 0 ≤ p) (hpp : p < p') : worthAt d p < worthAt d p' := by
  have h1 := h.strict hp hpp
  have hq : 0 < 1 / (1 - d.part) := one_div_pos (by have := h.part.2; grind)
  have h2 : poolW d p (thingWs d p).sum ≤ poolW d p' (thingWs d p').sum := by
    unfold poolW
    refine rmax_mono (Rat.mul_le_mul_of_nonneg_right (by grind) h.count) ?_
    rw [div_eq_mul1, div_eq_mul1 (d.part * ((thingWs d p').sum + d.money))]
    exact Rat.mul_le_mul_of_nonneg_right (Rat.mul_le_mul_of_nonneg_left (by grind) h.part.1) (by grind)
  rw [worthAt_eq, worthAt_eq]; grind
/-- the price is right -/
theorem price_right {d : Deal} (h : DealOk d) (hr : 0 < riseOf d) : ∃ P, priceOf d = some P ∧ 0 < P ∧ worthAt d P = d.worth := by
  have hf := worthCv_fits h
  obtain ⟨P, e, h1, h2⟩ := reached_pos hf (by show worthAt d 0 - worthAt d 0 = 0; grind) hr (hf.sl_pos fun x y hx hxy => by
    have := worth_strict h hx hxy
    show worthAt d x - worthAt d 0 < worthAt d y - worthAt d 0
    grind)
  refine ⟨P, e, h1, ?_⟩
  unfold riseOf at h2
  have h2' : worthAt d P - worthAt d 0 = d.worth - worthAt d 0 := h2
  grind
end My
namespace My
/-- the round's second deal: whole, nothing paid, what stands behind, the pool -/
def wholeDeal (d : Deal) (P : Rat) : Deal := ⟨d.worth + d.money, 0, (behindCounts d P).map .shares, poolW d P (thingWs d P).sum / P, 0⟩
theorem sum_filter_pos : ∀ {l : List Rat}, (∀ x ∈ l, 0 ≤ x) → (l.filter fun x => decide (0 < x)).sum = l.sum
  | [], _ => rfl
  | a :: t, h => by
    have ih := sum_filter_pos fun x hx => h x (List.mem_cons_of_mem _ hx)
    have ha := h a List.mem_cons_self
    by_cases hp : 0 < a
    · rw [List.filter_cons, if_pos (by simpa using hp), List.sum_cons, List.sum_cons, ih]
    · have : a = 0 := by grind
      rw [List.filter_cons, if_neg (by simpa using hp), List.sum_cons, ih, this]; grind
theorem sum_map_mul (l : List Rat) (k : Rat) : (l.map fun x => x * k).sum = l.sum * k := by
  induction l with
  | nil => simp
  | cons a t ih => rw [List.map_cons, List.sum_cons, List.sum_cons, ih]; grind
theorem kept_nonneg {d : Deal} (h : DealOk d) {P : Rat} (hP : 0 < P) : ∀ x ∈ keptCounts d P, 0 ≤ x := fun x hx => by
  unfold keptCounts at hx
  obtain ⟨y, hy, rfl⟩ := List.mem_map.mp hx
  refine div_nn ?_ (by grind)
  rcases List.mem_append.mp hy with hy | hy
  · obtain ⟨t, ht, rfl⟩ := List.mem_map.mp hy
    exact thingW_nonneg (h.things t ht) h.money (by grind)
  · rw [List.mem_singleton.mp hy]; exact h.money
theorem behind_sum {d : Deal} (h : DealOk d) {P : Rat} (hP : 0 < P) : (behindCounts d P).sum = ((thingWs d P).sum + d.money) * (1 / P) := by
  unfold behindCounts
  rw [sum_filter_pos (kept_nonneg h hP)]
  unfold keptCounts
  have e : ∀ l : List Rat, (l.map fun x => x / P) = l.map fun x => x * (1 / P) := fun l => List.map_congr_left fun x _ => div_eq_mul1 x P
  rw [e, sum_map_mul, List.sum_append]
  simp [Rat.add_zero]
theorem behind_pos {d : Deal} {P x : Rat} (hx : x ∈ behindCounts d P) : 0 < x := by
  unfold behindCounts at hx
  simpa using (List.mem_filter.mp hx).2
theorem pool_nonneg {d : Deal} (h : DealOk d) {P : Rat} (hP : 0 ≤ P) : 0 ≤ poolW d P (thingWs d P).sum := by
  unfold poolW
  have h1 := mul_nn hP h.count
  by_cases hh : P * d.count ≤ d.part * ((thingWs d P).sum + d.money) / (1 - d.part)
  · rw [rmax_ge hh]; grind
  · rw [rmax_le (by grind)]; exact h1
theorem shares_behind {d : Deal} (h : DealOk d) {P : Rat} (hP : 0 < P) : ∃ c, 0 < c ∧ c ∈ behindCounts d P := by
  obtain ⟨c, hc, hm⟩ := h.some
  have e1 := inv_mul1 (q := P) (by grind)
  refine ⟨c, hc, ?_⟩
  unfold behindCounts keptCounts
  rw [List.mem_filter]
  refine ⟨List.mem_map.mpr ⟨c * P, List.mem_append_left _ (List.mem_map.mpr ⟨_, hm, rfl⟩), ?_⟩, by simpa using hc⟩
  rw [div_eq_mul1, Rat.mul_assoc, e1, Rat.mul_one]
theorem wholeDeal_ok {d : Deal} (h : DealOk d) {P : Rat} (hP : 0 < P) : DealOk (wholeDeal d P) where
  things t ht := by
    obtain ⟨c, hc, rfl⟩ := List.mem_map.mp ht
    exact behind_pos hc
  money := by show (0 : Rat) ≤ 0; grind
  count := div_nn (pool_nonneg h (by grind)) (by grind)
  part := ⟨by show (0 : Rat) ≤ 0; grind, by show (0 : Rat) < 1; decide⟩
  some := by
    obtain ⟨c, hc, hm⟩ := shares_behind h hP
    exact ⟨c, hc, List.mem_map.mpr ⟨c, hm, rfl⟩⟩
theorem wholeDeal_worth {d : Deal} (h : DealOk d) {P : Rat} (hP : 0 < P) (hw : worthAt d P = d.worth) {p : Rat} (hp : 0 ≤ p) : worthAt (wholeDeal d P) p = p * ((d.worth + d.money) * (1 / P)) := by
  have e1 : (thingWs (wholeDeal d P) p).sum = (behindCounts d P).sum * p := by
    have : thingWs (wholeDeal d P) p = (behindCounts d P).map fun x => x * p := by
      unfold thingWs wholeDeal
      rw [List.map_map]; rfl
    rw [this, sum_map_mul]
  have e2 : poolW (wholeDeal d P) p (thingWs (wholeDeal d P) p).sum = p * (poolW d P (thingWs d P).sum / P) := by
    show rmax (p * (poolW d P (thingWs d P).sum / P)) (0 * ((thingWs (wholeDeal d P) p).sum + 0) / (1 - 0)) = _
    rw [div_eq_mul1 (0 * _)]
    refine rmax_le ?_
    have := mul_nn hp (div_nn (pool_nonneg h (show 0 ≤ P by grind)) (show 0 ≤ P by grind))
    grind
  rw [worthAt_eq, e2, e1, behind_sum h hP, div_eq_mul1 (poolW d P _)]
  rw [worthAt_eq] at hw
  generalize poolW d P (thingWs d P).sum = pl at *
  generalize (thingWs d P).sum = T at *
  generalize 1 / P = w at *
  rw [← hw]; grind
theorem worth_pos {d : Deal} (h : DealOk d) (hr : 0 < riseOf d) : 0 < d.worth := by
  unfold riseOf at hr
  have h1 := h.nn (p := 0) (by grind)
  have h2 := pool_nonneg h (P := 0) (by grind)
  rw [worthAt_eq] at hr
  grind
theorem whole_price {d : Deal} (h : DealOk d) {P : Rat} (hr : 0 < riseOf d) (hP : 0 < P) (hw : worthAt d P = d.worth) : 0 < riseOf (wholeDeal d P) ∧ priceOf (wholeDeal d P) = some P := by
  have hW : 0 < d.worth + d.money := by have := worth_pos h hr; have := h.money; grind
  have hri : 0 < riseOf (wholeDeal d P) := by
    unfold riseOf
    rw [wholeDeal_worth h hP hw (show (0 : Rat) ≤ 0 by grind)]
    show 0 < d.worth + d.money - 0 * ((d.worth + d.money) * (1 / P))
    grind
  refine ⟨hri, ?_⟩
  obtain ⟨P', e, h1, h2⟩ := price_right (wholeDeal_ok h hP) hri
  rw [e]
  rw [wholeDeal_worth h hP hw (by grind)] at h2
  have h3 : P' * ((d.worth + d.money) * (1 / P)) = d.worth + d.money := h2
  have e1 := inv_mul1 (q := P) (by grind)
  have e2 := inv_mul1 (q := d.worth + d.money) (by grind)
  congr 1
  generalize d.worth + d.money = W at *
  generalize 1 / P = w at *
  generalize 1 / W = v at *
  have h4 : P' * w = 1 := by
    have : P' * (W * w) * v = W * v := by rw [h3]
    grind
  have h5 : P' * w * P = P := by rw [h4]; grind
  grind
end My
namespace My
open PySem PySem.Spec PyProof.Rows L2
open Evl (Ex ex_l ex_t fresh_back)

mutual
theorem dp_ex {K : PySem.W.Frag} {H H' : Hp} (e : Ex H H') : ∀ {d : PyData} {v : V}, Dp K H v d → Dp K H' v d
  | .none, _, h => by cases h; exact .non
  | .bool _, _, h => by cases h; exact .bl _
  | .int _, _, h => by cases h; exact .int _
  | .str _, _, h => by cases h; exact .str _
  | .list _, _, h => by
    cases h with
    | lst hs ha => exact .lst (ex_l e hs) (dpa_ex e ha)
  | .tuple _, _, h => by
    cases h with
    | tup hs ha => exact .tup (ex_t e hs) (dpa_ex e ha)
  | .dict _, _, h => by cases h
theorem dpa_ex {K : PySem.W.Frag} {H H' : Hp} (e : Ex H H') : ∀ {ds : List PyData} {vs : List V}, DpAll K H vs ds → DpAll K H' vs ds
  | [], _, h => by cases h; exact .nil
  | _ :: _, _, h => by
    cases h with
    | cons h1 h2 => exact .cons (dp_ex e h1) (dpa_ex e h2)
end
theorem dpa_len {K : PySem.W.Frag} {H : Hp} : ∀ {ds : List PyData} {vs : List V}, DpAll K H vs ds → vs.length = ds.length
  | [], _, h => by cases h; rfl
  | _ :: _, _, h => by
    cases h with
    | cons h1 h2 => rw [List.length_cons, List.length_cons, dpa_len h2]
theorem dpa_get {K : PySem.W.Frag} {H : Hp} : ∀ {ds : List PyData} {vs : List V} {i : Nat} {d : PyData}, DpAll K H vs ds → ds[i]? = some d → ∃ v, vs[i]? = some v ∧ Dp K H v d
  | [], _, _, _, _, e => by simp at e
  | _ :: _, _, 0, _, h, e => by
    cases h with
    | cons h1 h2 =>
      have e1 := Option.some.inj e
      subst e1
      exact ⟨_, rfl, h1⟩
  | _ :: _, _, i + 1, _, h, e => by
    cases h with
    | cons h1 h2 => exact dpa_get (i := i) h2 e
theorem dpa_getV {K : PySem.W.Frag} {H : Hp} : ∀ {ds : List PyData} {vs : List V} {i : Nat} {v : V}, DpAll K H vs ds → vs[i]? = some v → ∃ d, ds[i]? = some d ∧ Dp K H v d
  | [], _, _, _, h, e => by cases h; simp at e
  | _ :: _, _, 0, _, h, e => by
    cases h with
    | cons h1 h2 =>
      have e1 := Option.some.inj e
      subst e1
      exact ⟨_, rfl, h1⟩
  | _ :: _, _, i + 1, _, h, e => by
    cases h with
    | cons h1 h2 => exact dpa_getV (i := i) h2 e
theorem dpa_app {K : PySem.W.Frag} {H : Hp} : ∀ {ds es : List PyData} {vs us : List V}, DpAll K H vs ds → DpAll K H us es → DpAll K H (vs ++ us) (ds ++ es)
  | [], _, _, _, h, h' => by cases h; exact h'
  | _ :: _, _, _, _, h, h' => by
    cases h with
    | cons h1 h2 => exact .cons h1 (dpa_app h2 h')
theorem dpa_takeN {K : PySem.W.Frag} {H : Hp} : ∀ {ds : List PyData} {vs : List V} (n : Nat), DpAll K H vs ds → DpAll K H (vs.take n) (ds.take n)
  | _, _, 0, _ => by rw [List.take_zero, List.take_zero]; exact .nil
  | [], _, _ + 1, h => by cases h; exact .nil
  | _ :: _, _, n + 1, h => by
    cases h with
    | cons h1 h2 => exact .cons h1 (dpa_takeN n h2)
theorem dpa_dropN {K : PySem.W.Frag} {H : Hp} : ∀ {ds : List PyData} {vs : List V} (n : Nat), DpAll K H vs ds → DpAll K H (vs.drop n) (ds.drop n)
  | _, _, 0, h => by rw [List.drop_zero, List.drop_zero]; exact h
  | [], _, _ + 1, h => by cases h; exact .nil
  | _ :: _, _, n + 1, h => by
    cases h with
    | cons h1 h2 => exact dpa_dropN n h2
mutual
def tupOnly : PyData → Bool
  | .none => true
  | .bool _ => true
  | .int _ => true
  | .str _ => true
  | .tuple ds => tupAll ds
  | .list _ => false
  | .dict _ => false
def tupAll : List PyData → Bool
  | [] => true
  | d :: ds => tupOnly d && tupAll ds
end
/-- tuples (and what is locked) stay -/
structure Et (H H' : Hp) : Prop where
  tups : ∀ a xs, H a = some (.tup xs) → H' a = some (.tup xs)
  frzs : ∀ a o u, H a = some (.frz o u) → H' a = some (.frz o u)
theorem Et.refl (H : Hp) : Et H H := ⟨fun _ _ h => h, fun _ _ _ h => h⟩
theorem Et.trans {H H1 H2 : Hp} (a : Et H H1) (b : Et H1 H2) : Et H H2 := ⟨fun x y h => b.tups x y (a.tups x y h), fun x o y h => b.frzs x o y (a.frzs x o y h)⟩
theorem Et.of {H H' : Hp} (e : Ex H H') : Et H H' := ⟨fun a xs h => e a _ h, fun a o u h => e a _ h⟩
theorem Et.upd {H : Hp} {l : Addr} {xs : List V} {o : HO} (h : H l = some (.lst xs)) : Et H (upd H l o) := by
  refine ⟨fun a ys e => ?_, fun a ob u e => ?_⟩
  · rw [upd_ne (ne_of e h (by intro z; cases z))]; exact e
  · rw [upd_ne (ne_of e h (by intro z; cases z))]; exact e
mutual
theorem dp_et {K : PySem.W.Frag} {H H' : Hp} (e : Et H H') : ∀ {d : PyData} {v : V}, tupOnly d = true → Dp K H v d → Dp K H' v d
  | .none, _, _, h => by cases h; exact .non
  | .bool _, _, _, h => by cases h; exact .bl _
  | .int _, _, _, h => by cases h; exact .int _
  | .str _, _, _, h => by cases h; exact .str _
  | .list _, _, t, _ => by simp [tupOnly] at t
  | .tuple _, _, t, h => by
    cases h with
    | tup hs ha =>
      refine .tup ?_ (dpa_et e (by simpa [tupOnly] using t) ha)
      rcases hs with (h | ⟨o, h⟩) | h
      · exact .inl (.inl (e.tups _ _ h))
      · exact .inl (.inr ⟨o, e.frzs _ _ _ h⟩)
      · exact .inr h
  | .dict _, _, t, _ => by simp [tupOnly] at t
theorem dpa_et {K : PySem.W.Frag} {H H' : Hp} (e : Et H H') : ∀ {ds : List PyData} {vs : List V}, tupAll ds = true → DpAll K H vs ds → DpAll K H' vs ds
  | [], _, _, h => by cases h; exact .nil
  | _ :: _, _, t, h => by
    cases h with
    | cons h1 h2 =>
      simp only [tupAll, Bool.and_eq_true] at t
      exact .cons (dp_et e t.1 h1) (dpa_et e t.2 h2)
end

def EvD (K : PySem.W.Frag) (te : TE) (σ : L2.St) (H : Hp) (d : PyData) : Prop := ∀ H1, Ex H H1 → ∀ Q : VK, (∀ v H2, Ex H1 H2 → Dp K H2 v d → Q v H2) → te σ H1 Q
def EvB (tt : TT) (σ : L2.St) (H : Hp) (b : Bool) : Prop := ∀ H1, Ex H H1 → ∀ Q : Bool → Hp → Prop, (∀ H2, Ex H1 H2 → Q b H2) → tt σ H1 Q
def EvAs (K : PySem.W.Frag) (ta : TA) (σ : L2.St) (H : Hp) (ds : List PyData) : Prop := ∀ H1, Ex H H1 → ∀ Q : List V → Hp → Prop, (∀ vs H2, Ex H1 H2 → DpAll K H2 vs ds → Q vs H2) → ta σ H1 Q
def EvOp (to : TO) (σ : L2.St) (H : Hp) (o : Option Int) : Prop := ∀ H1, Ex H H1 → ∀ Q : Option Int → Hp → Prop, (∀ H2, Ex H1 H2 → Q o H2) → to σ H1 Q
/-- an operation on data -/
def RD (K : PySem.W.Frag) (r : R2) (x y z : PyData) : Prop := ∀ u w H, Dp K H u x → Dp K H w y → ∀ Q : VK, (∀ v H2, Ex H H2 → Dp K H2 v z → Q v H2) → r u w H Q
def RU (K : PySem.W.Frag) (r : V → Hp → VK → Prop) (x z : PyData) : Prop := ∀ u H, Dp K H u x → ∀ Q : VK, (∀ v H2, Ex H H2 → Dp K H2 v z → Q v H2) → r u H Q
def RC (K : PySem.W.Frag) (r : List V → Hp → VK → Prop) (ds : List PyData) (z : PyData) : Prop := ∀ vs H, DpAll K H vs ds → ∀ Q : VK, (∀ v H2, Ex H H2 → Dp K H2 v z → Q v H2) → r vs H Q
/-- a promise on data: nothing is raised -/
def SpD (K : PySem.W.Frag) (sp : Sp) (ds : List PyData) (z : PyData) : Prop := ∀ vs H, DpAll K H vs ds → ∀ (Q : VK) (E : XK), (∀ v H2, Ex H H2 → Dp K H2 v z → Q v H2) → sp vs H Q E

section
variable {K : PySem.W.Frag} {σ : L2.St} {H H' : Hp} {ta tb te tx : TE} {t u : TT} {x y z d : PyData} {v : V} {r : R2}
theorem EvD.mono (e : Ex H H') (h : EvD K te σ H d) : EvD K te σ H' d := fun H1 a Q q => h H1 (e.trans a) Q q
theorem EvD.is (h : EvD K te σ H d) (e : d = x) : EvD K te σ H x := e ▸ h
theorem evd_var {i : Nat} (h : σ[i]? = some (some v)) (hd : Dp K H v d) : EvD K (tVar i) σ H d := fun H1 e Q q => ⟨v, h, q v H1 (Ex.refl H1) (dp_ex e hd)⟩
theorem evd_c (hd : ∀ H, Dp K H v d) : EvD K (tC v) σ H d := fun H1 _ Q q => q v H1 (Ex.refl H1) (hd H1)
theorem evd_int {i : Int} : EvD K (tC (.int i)) σ H (.int i) := evd_c fun _ => .int i
theorem evd_str {s : Str} : EvD K (tC (.str s)) σ H (.str s) := evd_c fun _ => .str s
theorem evd_non : EvD K (tC .non) σ H .none := evd_c fun _ => .non
theorem evd_op (ha : EvD K ta σ H x) (hb : EvD K tb σ H y) (hr : RD K r x y z) : EvD K (tOp r ta tb) σ H z := fun H1 e Q q =>
  ha H1 e _ fun v H2 e2 dx => hb H2 (e.trans e2) _ fun w H3 e3 dy => hr v w H3 (dp_ex e3 dx) dy Q fun z H4 e4 dz => q z H4 ((e2.trans e3).trans e4) dz
theorem evd_un {r : V → Hp → VK → Prop} (ha : EvD K ta σ H x) (hr : RU K r x z) : EvD K (tUn r ta) σ H z := fun H1 e Q q =>
  ha H1 e _ fun v H2 e2 dx => hr v H2 dx Q fun w H3 e3 dz => q w H3 (e2.trans e3) dz
theorem ead_nil : EvAs K tNil σ H [] := fun H1 _ Q q => q [] H1 (Ex.refl H1) .nil
theorem ead_cons {tr : TA} {ds : List PyData} (h : EvD K ta σ H x) (hr : EvAs K tr σ H ds) : EvAs K (tCons ta tr) σ H (x :: ds) := fun H1 e Q q =>
  h H1 e _ fun v H2 e2 dx => hr H2 (e.trans e2) _ fun vs H3 e3 dr => q (v :: vs) H3 (e2.trans e3) (.cons (dp_ex e3 dx) dr)
theorem EvAs.mono {tr : TA} {ds : List PyData} (e : Ex H H') (h : EvAs K tr σ H ds) : EvAs K tr σ H' ds := fun H1 a Q q => h H1 (e.trans a) Q q
theorem evd_tup {ta : TA} {ds : List PyData} (h : EvAs K ta σ H ds) (hl : ds.length ≤ 100000) : EvD K (tTup ta) σ H (.tuple ds) := fun H1 e Q q =>
  h H1 e _ fun vs H2 e2 dv => ⟨by rw [dpa_len dv]; exact Evl.sz_of hl, fun p hp => q (.ref p) _ (e2.trans (Ex.new hp)) (.tup (.inl (.inl upd_same)) (dpa_ex (Ex.new hp) dv))⟩
theorem evd_lst {ta : TA} {ds : List PyData} (h : EvAs K ta σ H ds) (hl : ds.length ≤ 100000) : EvD K (tLst ta) σ H (.list ds) := fun H1 e Q q =>
  h H1 e _ fun vs H2 e2 dv => ⟨by rw [dpa_len dv]; exact Evl.sz_of hl, fun p hp => q (.ref p) _ (e2.trans (Ex.new hp)) (.lst (.inl (.inl upd_same)) (dpa_ex (Ex.new hp) dv))⟩
/-- a starred part: of a tuple or a list -/
theorem ead_starT {tr : TA} {ds es : List PyData} (h : EvD K ta σ H (.tuple es)) (hr : EvAs K tr σ H ds) : EvAs K (StX.tStar K ta tr) σ H (es ++ ds) := fun H1 e Q q =>
  h H1 e _ fun v H2 e2 dx => by
    cases dx with
    | tup hs ha => exact ⟨_, _, rfl, .inl hs, hr H2 (e.trans e2) _ fun vs H3 e3 dr => q _ H3 (e2.trans e3) (dpa_app (dpa_ex e3 ha) dr)⟩
theorem ead_starL {tr : TA} {ds es : List PyData} (h : EvD K ta σ H (.list es)) (hr : EvAs K tr σ H ds) : EvAs K (StX.tStar K ta tr) σ H (es ++ ds) := fun H1 e Q q =>
  h H1 e _ fun v H2 e2 dx => by
    cases dx with
    | lst hs ha => exact ⟨_, _, rfl, .inr hs, hr H2 (e.trans e2) _ fun vs H3 e3 dr => q _ H3 (e2.trans e3) (dpa_app (dpa_ex e3 ha) dr)⟩
theorem rd_I0 {g : Int → Int → Int} {i j : Int} : RD K (rI0 fun i j => .int (g i j)) (.int i) (.int j) (.int (g i j)) := fun u w H hu hw Q q => by
  cases hu; cases hw
  exact ⟨i, j, rfl, rfl, q _ H (Ex.refl H) (.int _)⟩
theorem rd_I {C : Int → Int → Prop} {g : Int → Int → Int} {i j : Int} (hc : C i j) : RD K (rI C fun i j => .int (g i j)) (.int i) (.int j) (.int (g i j)) := fun u w H hu hw Q q => by
  cases hu; cases hw
  exact ⟨i, j, rfl, rfl, hc, q _ H (Ex.refl H) (.int _)⟩
theorem rd_B0 {g : Int → Int → Bool} {i j : Int} : RD K (rI0 fun i j => .bl (g i j)) (.int i) (.int j) (.bool (g i j)) := fun u w H hu hw Q q => by
  cases hu; cases hw
  exact ⟨i, j, rfl, rfl, q _ H (Ex.refl H) (.bl _)⟩
theorem ru_neg {i : Int} : RU K (rU fun i => .int (-i)) (.int i) (.int (-i)) := fun u H hu Q q => by
  cases hu
  exact ⟨i, rfl, q _ H (Ex.refl H) (.int _)⟩
theorem rd_eqD (sx : SeqAt.shaped x = true) (sy : SeqAt.shaped y = true) : RD K (rEqD K) x y (.bool (PyData.eqv x y)) := fun u w H hu hw Q q => ⟨x, y, hu, hw, sx, sy, q _ H (Ex.refl H) (.bl _)⟩
theorem rd_neD (sx : SeqAt.shaped x = true) (sy : SeqAt.shaped y = true) : RD K (rNeD K) x y (.bool (!PyData.eqv x y)) := fun u w H hu hw Q q => ⟨x, y, hu, hw, sx, sy, q _ H (Ex.refl H) (.bl _)⟩
theorem rd_eqI {i j : Int} : RD K rEq (.int i) (.int j) (.bool (decide (i = j))) := fun u w H hu hw Q q => by
  cases hu; cases hw
  refine ⟨rfl, ?_⟩
  have e : decide (V.int i = V.int j) = decide (i = j) := by simp
  rw [e]
  exact q _ H (Ex.refl H) (.bl _)
theorem rd_neI {i j : Int} : RD K rNe (.int i) (.int j) (.bool (!decide (i = j))) := fun u w H hu hw Q q => by
  cases hu; cases hw
  refine ⟨rfl, ?_⟩
  have e : decide (V.int i = V.int j) = decide (i = j) := by simp
  rw [e]
  exact q _ H (Ex.refl H) (.bl _)
theorem rd_eqS {i j : Str} : RD K rEq (.str i) (.str j) (.bool (decide (i = j))) := fun u w H hu hw Q q => by
  cases hu; cases hw
  refine ⟨rfl, ?_⟩
  have e : decide (V.str i = V.str j) = decide (i = j) := by simp
  rw [e]
  exact q _ H (Ex.refl H) (.bl _)
theorem rd_neS {i j : Str} : RD K rNe (.str i) (.str j) (.bool (!decide (i = j))) := fun u w H hu hw Q q => by
  cases hu; cases hw
  refine ⟨rfl, ?_⟩
  have e : decide (V.str i = V.str j) = decide (i = j) := by simp
  rw [e]
  exact q _ H (Ex.refl H) (.bl _)
theorem rd_ixT {ds : List PyData} {i : Nat} (h : ds[i]? = some d) : RD K (rIxT K) (.tuple ds) (.int (i : Nat)) d := fun u w H hu hw Q q => by
  cases hw
  cases hu with
  | tup hs ha =>
    obtain ⟨v, hv, dv⟩ := dpa_get ha h
    exact ⟨_, _, _, v, rfl, rfl, hs, atI_nat hv, q v H (Ex.refl H) dv⟩
theorem rd_ixL {ds : List PyData} {i : Nat} (h : ds[i]? = some d) : RD K (rIxL K) (.list ds) (.int (i : Nat)) d := fun u w H hu hw Q q => by
  cases hw
  cases hu with
  | lst hs ha =>
    obtain ⟨v, hv, dv⟩ := dpa_get ha h
    exact ⟨_, _, _, v, rfl, rfl, hs, atI_nat hv, q v H (Ex.refl H) dv⟩
theorem atI_neg1 {α : Type} {xs : List α} {v : α} (h : xs[xs.length - 1]? = some v) (hn : xs ≠ []) : atI xs (-1) = some v := by
  have e : xs = xs.dropLast ++ [xs.getLast hn] := (List.dropLast_concat_getLast hn).symm
  have e2 : xs.getLast hn = v := by
    rw [← List.getLast?_eq_getElem?, List.getLast?_eq_getLast hn] at h
    exact Option.some.inj h
  rw [e, e2]
  exact atI_last _ _
theorem rd_ixT1 {ds : List PyData} (h : ds[ds.length - 1]? = some d) : RD K (rIxT K) (.tuple ds) (.int (-1)) d := fun u w H hu hw Q q => by
  cases hw
  cases hu with
  | tup hs ha =>
    obtain ⟨v, hv, dv⟩ := dpa_get ha h
    rw [← dpa_len ha] at hv
    exact ⟨_, _, _, v, rfl, rfl, hs, atI_neg1 hv (by rintro rfl; simp at hv), q v H (Ex.refl H) dv⟩
theorem rd_ixL1 {ds : List PyData} (h : ds[ds.length - 1]? = some d) : RD K (rIxL K) (.list ds) (.int (-1)) d := fun u w H hu hw Q q => by
  cases hw
  cases hu with
  | lst hs ha =>
    obtain ⟨v, hv, dv⟩ := dpa_get ha h
    rw [← dpa_len ha] at hv
    exact ⟨_, _, _, v, rfl, rfl, hs, atI_neg1 hv (by rintro rfl; simp at hv), q v H (Ex.refl H) dv⟩
theorem evd_call {sp : Sp} {E : XK} {ta : TA} {ds : List PyData} (h : EvAs K ta σ H ds) (hs : SpD K sp ds z) : EvD K (tCall sp [] E ta) σ H z := fun H1 e Q q =>
  h H1 e _ fun vs H2 e2 dv => by
    show sp (vs ++ []) H2 Q E
    rw [List.append_nil]
    exact hs vs H2 dv Q E fun v H3 e3 dz => q v H3 (e2.trans e3) dz
theorem evd_cb {r : List V → Hp → VK → Prop} {ta : TA} {ds : List PyData} (h : EvAs K ta σ H ds) (hr : RC K r ds z) : EvD K (tCB r ta) σ H z := fun H1 e Q q =>
  h H1 e _ fun vs H2 e2 dv => hr vs H2 dv Q fun v H3 e3 dz => q v H3 (e2.trans e3) dz
theorem dpa_one {vs : List V} (h : DpAll K H vs [x]) : ∃ v, vs = [v] ∧ Dp K H v x := by
  cases h with
  | cons h1 h2 => cases h2; exact ⟨_, rfl, h1⟩
theorem dpa_two {vs : List V} (h : DpAll K H vs [x, y]) : ∃ v w, vs = [v, w] ∧ Dp K H v x ∧ Dp K H w y := by
  cases h with
  | cons h1 h2 => obtain ⟨w, rfl, h3⟩ := dpa_one h2; exact ⟨_, _, rfl, h1, h3⟩
theorem dpa_three {vs : List V} (h : DpAll K H vs [x, y, z]) : ∃ v w u, vs = [v, w, u] ∧ Dp K H v x ∧ Dp K H w y ∧ Dp K H u z := by
  cases h with
  | cons h1 h2 => obtain ⟨w, u, rfl, h3, h4⟩ := dpa_two h2; exact ⟨_, _, _, rfl, h1, h3, h4⟩
theorem rc_abs {i : Int} : RC K (fun xs H Q => ∃ i, xs = [.int i] ∧ Q (.int (if i < 0 then -i else i)) H) [.int i] (.int (i.natAbs : Nat)) := fun vs H dv Q q => by
  obtain ⟨v, rfl, hv⟩ := dpa_one dv
  cases hv
  refine ⟨i, rfl, ?_⟩
  have e : (if i < 0 then -i else i) = ((i.natAbs : Nat) : Int) := by split <;> omega
  rw [e]
  exact q _ H (Ex.refl H) (.int _)
theorem rc_int {i : Int} : RC K (fun xs H Q => (∃ i, xs = [.int i] ∧ Q (.int i) H) ∨ ∃ k, xs = [.bl k] ∧ Q (.int (if k then 1 else 0)) H) [.int i] (.int i) := fun vs H dv Q q => by
  obtain ⟨v, rfl, hv⟩ := dpa_one dv
  cases hv
  exact .inl ⟨i, rfl, q _ H (Ex.refl H) (.int _)⟩
theorem rc_intB {b : Bool} : RC K (fun xs H Q => (∃ i, xs = [.int i] ∧ Q (.int i) H) ∨ ∃ k, xs = [.bl k] ∧ Q (.int (if k then 1 else 0)) H) [.bool b] (.int (if b then 1 else 0)) := fun vs H dv Q q => by
  obtain ⟨v, rfl, hv⟩ := dpa_one dv
  cases hv
  exact .inr ⟨b, rfl, q _ H (Ex.refl H) (.int _)⟩
theorem rc_max2 {i j : Int} : RC K (fun xs H Q => ∃ i j, xs = [.int i, .int j] ∧ Q (.int (if j > i then j else i)) H) [.int i, .int j] (.int (if j > i then j else i)) := fun vs H dv Q q => by
  obtain ⟨v, w, rfl, hv, hw⟩ := dpa_two dv
  cases hv; cases hw
  exact ⟨i, j, rfl, q _ H (Ex.refl H) (.int _)⟩
theorem rc_lenL {ds : List PyData} : RC K (fun xs H Q => ∃ p ys, xs = [.ref p] ∧ (SqL K H p ys ∨ SqT K H p ys) ∧ Q (.int ys.length) H) [.list ds] (.int (ds.length : Nat)) := fun vs H dv Q q => by
  obtain ⟨v, rfl, hv⟩ := dpa_one dv
  cases hv with
  | lst hs ha =>
    refine ⟨_, _, rfl, .inl hs, ?_⟩
    rw [dpa_len ha]
    exact q _ H (Ex.refl H) (.int _)
theorem rc_lenT {ds : List PyData} : RC K (fun xs H Q => ∃ p ys, xs = [.ref p] ∧ (SqL K H p ys ∨ SqT K H p ys) ∧ Q (.int ys.length) H) [.tuple ds] (.int (ds.length : Nat)) := fun vs H dv Q q => by
  obtain ⟨v, rfl, hv⟩ := dpa_one dv
  cases hv with
  | tup hs ha =>
    refine ⟨_, _, rfl, .inr hs, ?_⟩
    rw [dpa_len ha]
    exact q _ H (Ex.refl H) (.int _)
theorem rc_tupL {ds : List PyData} : RC K (fun xs H Q => ∃ p ys, xs = [.ref p] ∧ ((SqL K H p ys ∧ ∀ l, H l = none → Q (.ref l) (upd H l (.tup ys))) ∨ (SqT K H p ys ∧ Q (.ref p) H))) [.list ds] (.tuple ds) := fun vs H dv Q q => by
  obtain ⟨v, rfl, hv⟩ := dpa_one dv
  cases hv with
  | lst hs ha => exact ⟨_, _, rfl, .inl ⟨hs, fun l hl => q _ _ (Ex.new hl) (.tup (.inl (.inl upd_same)) (dpa_ex (Ex.new hl) ha))⟩⟩
theorem rc_listT {ds : List PyData} : RC K (fun xs H Q => ∃ p ys, xs = [.ref p] ∧ (SqL K H p ys ∨ SqT K H p ys) ∧ ∀ l, H l = none → Q (.ref l) (upd H l (.lst ys))) [.tuple ds] (.list ds) := fun vs H dv Q q => by
  obtain ⟨v, rfl, hv⟩ := dpa_one dv
  cases hv with
  | tup hs ha => exact ⟨_, _, rfl, .inr hs, fun l hl => q _ _ (Ex.new hl) (.lst (.inl (.inl upd_same)) (dpa_ex (Ex.new hl) ha))⟩
theorem evb_test {b : Bool} (h : EvD K te σ H (.bool b)) : EvB (tTest te) σ H b := fun H1 e Q q => h H1 e _ fun v H2 e2 dv => by
  cases dv
  exact ⟨b, rfl, q H2 e2⟩
theorem evb_B {b : Bool} (h : EvD K te σ H (.bool b)) : EvB (tB te) σ H b := fun H1 e Q q => h H1 e _ fun v H2 e2 dv => by
  cases dv
  exact ⟨b, rfl, q H2 e2⟩
theorem evb_is {a b : Bool} (h : EvB t σ H a) (e : a = b) : EvB t σ H b := e ▸ h
theorem evb_and {a b : Bool} (h1 : EvB t σ H a) (h2 : a = true → EvB u σ H b) : EvB (tAnd t u) σ H (a && b) := fun H1 e Q q => h1 H1 e _ fun H2 e2 => by
  cases a with
  | true =>
    show u σ H2 Q
    exact h2 rfl H2 (e.trans e2) Q fun H3 e3 => q H3 (e2.trans e3)
  | false =>
    show Q false H2
    exact q H2 e2
theorem evb_not {a : Bool} (h1 : EvB t σ H a) : EvB (tNot t) σ H (!a) := fun H1 e Q q => h1 H1 e _ fun H2 e2 => q H2 e2
theorem evd_if {b : Bool} (h : EvB t σ H b) (h1 : b = true → EvD K ta σ H d) (h2 : b = false → EvD K tb σ H d) : EvD K (tIf t ta tb) σ H d := fun H1 e Q q => h H1 e _ fun H2 e2 => by
  cases b with
  | true =>
    show ta σ H2 Q
    exact h1 rfl H2 (e.trans e2) Q fun v H3 e3 dv => q v H3 (e2.trans e3) dv
  | false =>
    show tb σ H2 Q
    exact h2 rfl H2 (e.trans e2) Q fun v H3 e3 dv => q v H3 (e2.trans e3) dv
theorem evd_ite {c : Prop} [Decidable c] {d1 d2 : PyData} (h : EvB t σ H (decide c)) (h1 : c → EvD K ta σ H d1) (h2 : ¬ c → EvD K tb σ H d2) : EvD K (tIf t ta tb) σ H (if c then d1 else d2) :=
  evd_if h (fun e => (h1 (of_decide_eq_true e)).is (if_pos (of_decide_eq_true e)).symm) fun e => (h2 (of_decide_eq_false e)).is (if_neg (of_decide_eq_false e)).symm
theorem evd_andV {a b : Bool} (h1 : EvD K ta σ H (.bool a)) (h2 : a = true → EvD K tb σ H (.bool b)) : EvD K (tAndV ta tb) σ H (.bool (a && b)) := fun H1 e Q q => h1 H1 e _ fun v H2 e2 dv => by
  cases dv
  refine ⟨a, rfl, ?_⟩
  cases a with
  | true =>
    show tb σ H2 Q
    exact h2 rfl H2 (e.trans e2) Q fun v H3 e3 dv => q v H3 (e2.trans e3) dv
  | false =>
    show Q (.bl false) H2
    exact q _ H2 e2 (.bl _)
theorem evd_orV {a b : Bool} (h1 : EvD K ta σ H (.bool a)) (h2 : a = false → EvD K tb σ H (.bool b)) : EvD K (tOrV ta tb) σ H (.bool (a || b)) := fun H1 e Q q => h1 H1 e _ fun v H2 e2 dv => by
  cases dv
  refine ⟨a, rfl, ?_⟩
  cases a with
  | true =>
    show Q (.bl true) H2
    exact q _ H2 e2 (.bl _)
  | false =>
    show tb σ H2 Q
    exact h2 rfl H2 (e.trans e2) Q fun v H3 e3 dv => q v H3 (e2.trans e3) dv
def isNo : PyData → Bool
  | .none => true
  | _ => false
theorem dp_non_iff (h : Dp K H v d) : decide (v = V.non) = isNo d := by
  cases h <;> rfl
theorem rd_notN : RD K (fun x y H Q => y = .non ∧ Q (.bl (!decide (x = .non))) H) x .none (.bool (!isNo x)) := fun u w H hu hw Q q => by
  cases hw
  refine ⟨rfl, ?_⟩
  rw [dp_non_iff hu]
  exact q _ H (Ex.refl H) (.bl _)
theorem rd_isN : RD K (fun x y H Q => y = .non ∧ Q (.bl (decide (x = .non))) H) x .none (.bool (isNo x)) := fun u w H hu hw Q q => by
  cases hw
  refine ⟨rfl, ?_⟩
  rw [dp_non_iff hu]
  exact q _ H (Ex.refl H) (.bl _)
variable {D : Ends} {tu tw : TS} {g : TG}
theorem sd_set {i : Nat} (h : EvD K te σ H d) (k : ∀ v H1, Ex H H1 → Dp K H1 v d → D.nx (σ.set i (some v)) H1) : tAsg te (gName i) D σ H := h H (Ex.refl H) _ fun v H1 e dv => k v H1 e dv
theorem sd_ret (h : EvD K te σ H d) (k : ∀ v H1, Ex H H1 → Dp K H1 v d → D.rt v H1) : tRet te D σ H := h H (Ex.refl H) _ k
theorem sd_if {b : Bool} (h : EvB t σ H b) (h1 : b = true → ∀ H1, Ex H H1 → tu D σ H1) (h2 : b = false → ∀ H1, Ex H H1 → tw D σ H1) : tIfS t tu tw D σ H := h H (Ex.refl H) _ fun H1 e => by
  cases b with
  | true =>
    show tu D σ H1
    exact h1 rfl H1 e
  | false =>
    show tw D σ H1
    exact h2 rfl H1 e
theorem sd_par {i j : Nat} {ta : TA} (h : EvAs K ta σ H [x, y]) (k : ∀ v w H1, Ex H H1 → Dp K H1 v x → Dp K H1 w y → D.nx ((σ.set i (some v)).set j (some w)) H1) : tPar i j ta D σ H := h H (Ex.refl H) _ fun vs H1 e dv => by
  obtain ⟨v, w, rfl, h1, h2⟩ := dpa_two dv
  exact ⟨v, w, rfl, k v w H1 e h1 h2⟩
theorem sd_drop (h : EvD K te σ H d) (k : ∀ H1, Ex H H1 → D.nx σ H1) : tDrop te D σ H := h H (Ex.refl H) _ fun _ H1 e _ => k H1 e
end
end My
namespace My
open PySem PySem.Spec PyProof.Rows L2
open Evl (Ex ex_l ex_t fresh_back)

/-- what the top's heap says of _pylong and of the limit of digits -/
structure Base (h : Heap) : Prop where
  seer : h.NoSeer
  digits : ∃ mc, h.Ns cStatics mc ∧ mc "sys.int_max_str_digits" = none
theorem Base.keeps {h h' : Heap} (b : Base h) (k : ∀ a o, h.get? a = some o → h'.get? a = some o) : Base h' :=
  ⟨b.seer.keeps k, let ⟨mc, n, e⟩ := b.digits; ⟨mc, n.keepsP k, e⟩⟩

section
variable {X : Cx}
/-- a context of a def's body -/
structure BodyCx (X : Cx) : Prop where
  base : Base X.base
  tree : X.prog.given.tree = none
  stk : X.stack = X.env :: X.outer
  gen : X.env.scope.isGenerator = false
  co : X.env.scope.isCoroutine = false
theorem op_fdivX {k : Nat} (B : BodyCx X) (hr : Room k X.A) (hk : 32 ≤ k) : OpR X (binaryOp .FloorDiv) (rI (fun _ j => j ≠ 0) fun i j => .int (i.fdiv j)) := by
  intro pins s σ H x y v u Q I rx ry h
  obtain ⟨i, j, rfl, rfl, hc, q⟩ := h
  obtain ⟨t, rfl⟩ := rx
  obtain ⟨t', rfl⟩ := ry
  have hb := B.base.keeps I.bk
  have hs : SeerAt (model X.prog X.w) X.A s.heap := PySem.SeerAt.of hb.seer B.tree (l := X.outer) (by rw [I.ok.frames, B.stk]) B.gen B.co I.ok.blt I.ok.glob
  have hp : PylongRoom (model X.prog X.w) X.A s := PylongRoom.of I.nolimit (by have := hr.dp; show X.A.depth + 100 < _; omega) hs
  exact floordiv_int hc ⟨.int (i.fdiv j), H, I.tok _, ⟨_, rfl⟩, q⟩ (.inr hp)
/-- * of great ints: together below 2 ^ 27 bits -/
def CMulX (i j : Int) : Prop := i.natAbs.log2 + j.natAbs.log2 < 100000000
theorem CMulX.ok {i j : Int} (h : CMulX i j) : IntMulOk i j := by
  have b : ∀ x : Int, Builtin.Int.intBits x ≤ x.natAbs.log2 + 1 := fun x => by
    unfold Builtin.Int.intBits
    split <;> omega
  have h1 := b i
  have h2 := b j
  have h3 : i.natAbs.log2 + j.natAbs.log2 < 100000000 := h
  have e : bitsLine = 134217728 := by decide
  unfold IntMulOk
  intro z
  rw [Bool.and_eq_true] at z
  have z2 := z.2
  unfold Builtin.Int.intTooBig at z2
  have z3 := of_decide_eq_true z2
  rw [e] at z3
  omega
theorem op_mulX : OpR X (binaryOp .Mult) (rI CMulX fun i j => .int (i * j)) := opI fun _ _ _ _ _ _ _ hc q => mul_int q hc.ok
/-- list + list, of any list -/
def rCatX (K : PySem.W.Frag) : R2 := fun x y H Q => ∃ l b xs zs, x = .ref l ∧ y = .ref b ∧ SqL K H l xs ∧ SqL K H b zs ∧ xs.length + zs.length ≤ sizeLine ∧ ∀ p, H p = none → Q (.ref p) (upd H p (.lst (xs ++ zs)))
theorem op_catX : OpR X (binaryOp .Add) (rCatX X.K) := by
  intro pins s σ H x y v u Q I rx ry h
  obtain ⟨l, b, xs, zs, rfl, rfl, hH, hB, hz, q⟩ := h
  cases rx
  cases ry
  obtain ⟨its, r, ⟨⟨c1, d1, dt1, sl1⟩, n, e, hc, hd, hdt⟩, hl⟩ := I.list hH
  obtain ⟨its2, r2, ⟨⟨c2, d2, dt2, sl2⟩, n2, e2, hc2, hd2, hdt2⟩, hl2⟩ := I.list hB
  simp only at hc hd hdt hc2 hd2 hdt2
  subst hc hd hdt hc2 hd2 hdt2
  have hq1 := r.length
  have hq2 := r2.length
  have ea : its.toArray ++ its2.toArray = (its ++ its2).toArray := by simp
  refine PySem.concat_meets ⟨_, e, rfl⟩ ⟨_, e2, rfl⟩ PySem.noFill_list_add PySem.seq_list_add PySem.F.slot_list_add PySem.F.entry_list_add (PySem.F.args_list_add_2 _ _) (PyProof.Rows.list_addW l b its.toArray its2.toArray n n2 _ _ _ _ (by rw [List.size_toArray, List.size_toArray]; omega)) ⟨e, e2, ?_⟩
  rw [ea]
  exact ⟨.ref _, _, I.lnew (t' := s.toks) (r.append r2) (by rw [List.length_append]; omega), rfl, q _ I.fresh⟩
end
section
variable {K : PySem.W.Frag} {σ : L2.St} {H : Hp}
theorem rd_catX {ds es : List PyData} (hl : ds.length + es.length ≤ 100000) : RD K (rCatX K) (.list ds) (.list es) (.list (ds ++ es)) := fun u w H hu hw Q q => by
  cases hu with
  | lst hs ha =>
    cases hw with
    | lst hs2 ha2 =>
      refine ⟨_, _, _, _, rfl, rfl, hs, hs2, by rw [dpa_len ha, dpa_len ha2]; exact Evl.sz_of hl, fun p hp => q _ _ (Ex.new hp) (.lst (.inl (.inl upd_same)) (dpa_ex (Ex.new hp) (dpa_app ha ha2)))⟩
end

end My
namespace My
open PySem PySem.Spec PyProof.Rows L2
def topS (i : Nat) : Stmt := PySem.Challenge.pw_soldwhole_k53_whole_round_behind_round.main.body.getD i (.Pass ⟨0, 0, 0, 0⟩)

abbrev s_common_divisor : Stmt := topS 4
theorem sc_common_divisor : FnScope ["one", "other"] ["one", "other"] (defScope s_common_divisor) := ⟨rfl, rfl, rfl, by decide +kernel, rfl, by decide +kernel, by decide +kernel⟩
abbrev s_reduced : Stmt := topS 5
theorem sc_reduced : FnScope ["n", "d", "shared"] ["n", "d"] (defScope s_reduced) := ⟨rfl, rfl, rfl, by decide +kernel, rfl, by decide +kernel, by decide +kernel⟩
abbrev s_added : Stmt := topS 6
theorem sc_added : FnScope ["one", "other"] ["one", "other"] (defScope s_added) := ⟨rfl, rfl, rfl, by decide +kernel, rfl, by decide +kernel, by decide +kernel⟩
abbrev s_lessened : Stmt := topS 7
theorem sc_lessened : FnScope ["one", "other"] ["one", "other"] (defScope s_lessened) := ⟨rfl, rfl, rfl, by decide +kernel, rfl, by decide +kernel, by decide +kernel⟩
abbrev s_times : Stmt := topS 8
theorem sc_times : FnScope ["one", "other"] ["one", "other"] (defScope s_times) := ⟨rfl, rfl, rfl, by decide +kernel, rfl, by decide +kernel, by decide +kernel⟩
abbrev s_over : Stmt := topS 9
theorem sc_over : FnScope ["one", "other"] ["one", "other"] (defScope s_over) := ⟨rfl, rfl, rfl, by decide +kernel, rfl, by decide +kernel, by decide +kernel⟩
abbrev s_compared : Stmt := topS 10
theorem sc_compared : FnScope ["one", "other", "mine", "its"] ["one", "other"] (defScope s_compared) := ⟨rfl, rfl, rfl, by decide +kernel, rfl, by decide +kernel, by decide +kernel⟩
abbrev s_greatest_of : Stmt := topS 11
theorem sc_greatest_of : FnScope ["fractions", "found", "one"] ["fractions"] (defScope s_greatest_of) := ⟨rfl, rfl, rfl, by decide +kernel, rfl, by decide +kernel, by decide +kernel⟩
abbrev s_total : Stmt := topS 12
theorem sc_total : FnScope ["fractions", "found", "one"] ["fractions"] (defScope s_total) := ⟨rfl, rfl, rfl, by decide +kernel, rfl, by decide +kernel, by decide +kernel⟩
abbrev s_slope_between : Stmt := topS 15
theorem sc_slope_between : FnScope ["one", "other"] ["one", "other"] (defScope s_slope_between) := ⟨rfl, rfl, rfl, by decide +kernel, rfl, by decide +kernel, by decide +kernel⟩
abbrev s_curve : Stmt := topS 16
theorem sc_curve : FnScope ["corners", "slope", "kept", "at", "here", "ahead"] ["corners", "slope"] (defScope s_curve) := ⟨rfl, rfl, rfl, by decide +kernel, rfl, by decide +kernel, by decide +kernel⟩
abbrev s_nothing : Stmt := topS 17
theorem sc_nothing : FnScope [] [] (defScope s_nothing) := ⟨rfl, rfl, rfl, by decide +kernel, rfl, by decide +kernel, by decide +kernel⟩
abbrev s_in_order : Stmt := topS 18
theorem sc_in_order : FnScope ["fractions", "found", "one", "at", "other"] ["fractions"] (defScope s_in_order) := ⟨rfl, rfl, rfl, by decide +kernel, rfl, by decide +kernel, by decide +kernel⟩
abbrev s_levels_of : Stmt := topS 19
theorem sc_levels_of : FnScope ["curves", "found", "one", "level", "pay"] ["curves"] (defScope s_levels_of) := ⟨rfl, rfl, rfl, by decide +kernel, rfl, by decide +kernel, by decide +kernel⟩
abbrev s_slope_behind : Stmt := topS 20
theorem sc_slope_behind : FnScope ["one", "at", "corners", "slope"] ["one", "at"] (defScope s_slope_behind) := ⟨rfl, rfl, rfl, by decide +kernel, rfl, by decide +kernel, by decide +kernel⟩
abbrev s_pay_at : Stmt := topS 21
theorem sc_pay_at : FnScope ["one", "level", "at", "begin", "pay", "corner"] ["one", "level"] (defScope s_pay_at) := ⟨rfl, rfl, rfl, by decide +kernel, rfl, by decide +kernel, by decide +kernel⟩
abbrev s_rises_at : Stmt := topS 22
theorem sc_rises_at : FnScope ["one", "level", "corner"] ["one", "level"] (defScope s_rises_at) := ⟨rfl, rfl, rfl, by decide +kernel, rfl, by decide +kernel, by decide +kernel⟩
abbrev s_added_up : Stmt := topS 23
theorem sc_added_up : FnScope ["curves", "corners", "level", "one"] ["curves"] (defScope s_added_up) := ⟨rfl, rfl, rfl, by decide +kernel, rfl, by decide +kernel, by decide +kernel⟩
abbrev s_parting : Stmt := topS 24
theorem sc_parting : FnScope ["one", "other", "level", "more"] ["one", "other", "level"] (defScope s_parting) := ⟨rfl, rfl, rfl, by decide +kernel, rfl, by decide +kernel, by decide +kernel⟩
abbrev s_meetings : Stmt := topS 25
theorem sc_meetings : FnScope ["one", "other", "found", "levels", "at", "level", "more", "steeper", "met"] ["one", "other"] (defScope s_meetings) := ⟨rfl, rfl, rfl, by decide +kernel, rfl, by decide +kernel, by decide +kernel⟩
abbrev s_greater_of : Stmt := topS 26
theorem sc_greater_of : FnScope ["one", "other", "corners", "level", "mine", "its", "more", "steeper", "is_mine"] ["one", "other"] (defScope s_greater_of) := ⟨rfl, rfl, rfl, by decide +kernel, rfl, by decide +kernel, by decide +kernel⟩
abbrev s_greatest : Stmt := topS 27
theorem sc_greatest : FnScope ["curves", "found", "one"] ["curves"] (defScope s_greatest) := ⟨rfl, rfl, rfl, by decide +kernel, rfl, by decide +kernel, by decide +kernel⟩
abbrev s_reached : Stmt := topS 28
theorem sc_reached : FnScope ["one", "pay", "ahead", "level", "paid", "slope", "at", "corner"] ["one", "pay"] (defScope s_reached) := ⟨rfl, rfl, rfl, by decide +kernel, rfl, by decide +kernel, by decide +kernel⟩
abbrev s_scaled : Stmt := topS 29
theorem sc_scaled : FnScope ["one", "factor", "level", "pay"] ["one", "factor"] (defScope s_scaled) := ⟨rfl, rfl, rfl, by decide +kernel, rfl, by decide +kernel, by decide +kernel⟩
abbrev s_level_for : Stmt := topS 31
theorem sc_level_for : FnScope ["one", "pay"] ["one", "pay"] (defScope s_level_for) := ⟨rfl, rfl, rfl, by decide +kernel, rfl, by decide +kernel, by decide +kernel⟩
abbrev s_note_worth : Stmt := topS 35
theorem sc_note_worth : FnScope ["thing", "price", "word", "amount", "cap", "discount", "bare"] ["thing", "price"] (defScope s_note_worth) := ⟨rfl, rfl, rfl, by decide +kernel, rfl, by decide +kernel, by decide +kernel⟩
abbrev s_weighed_worth : Stmt := topS 36
theorem sc_weighed_worth : FnScope ["thing", "price", "money", "word", "count", "old", "then", "put"] ["thing", "price", "money"] (defScope s_weighed_worth) := ⟨rfl, rfl, rfl, by decide +kernel, rfl, by decide +kernel, by decide +kernel⟩
abbrev s_thing_worth : Stmt := topS 37
theorem sc_thing_worth : FnScope ["thing", "price", "money"] ["thing", "price", "money"] (defScope s_thing_worth) := ⟨rfl, rfl, rfl, by decide +kernel, rfl, by decide +kernel, by decide +kernel⟩
abbrev s_pool_worth : Stmt := topS 38
theorem sc_pool_worth : FnScope ["deal", "price", "things", "count", "part", "filled"] ["deal", "price", "things"] (defScope s_pool_worth) := ⟨rfl, rfl, rfl, by decide +kernel, rfl, by decide +kernel, by decide +kernel⟩
abbrev s_worths_at : Stmt := topS 39
theorem sc_worths_at : FnScope ["deal", "price", "found", "thing"] ["deal", "price"] (defScope s_worths_at) := ⟨rfl, rfl, rfl, by decide +kernel, rfl, by decide +kernel, by decide +kernel⟩
abbrev s_worth_at : Stmt := topS 40
theorem sc_worth_at : FnScope ["deal", "price"] ["deal", "price"] (defScope s_worth_at) := ⟨rfl, rfl, rfl, by decide +kernel, rfl, by decide +kernel, by decide +kernel⟩
abbrev s_thing_curve : Stmt := topS 41
theorem sc_thing_curve : FnScope ["thing", "money", "start", "word", "amount", "cap", "discount", "turn", "count", "old", "then", "rise"] ["thing", "money"] (defScope s_thing_curve) := ⟨rfl, rfl, rfl, by decide +kernel, rfl, by decide +kernel, by decide +kernel⟩
abbrev s_lowered : Stmt := topS 42
theorem sc_lowered : FnScope ["one", "gap", "level", "later", "first", "at", "pay"] ["one", "gap"] (defScope s_lowered) := ⟨rfl, rfl, rfl, by decide +kernel, rfl, by decide +kernel, by decide +kernel⟩
abbrev s_worth_curve : Stmt := topS 43
theorem sc_worth_curve : FnScope ["deal", "count", "part", "things", "filled", "bare", "gap", "thing"] ["deal"] (defScope s_worth_curve) := ⟨rfl, rfl, rfl, by decide +kernel, rfl, by decide +kernel, by decide +kernel⟩
abbrev s_price_of : Stmt := topS 44
theorem sc_price_of : FnScope ["deal", "rise"] ["deal"] (defScope s_price_of) := ⟨rfl, rfl, rfl, by decide +kernel, rfl, by decide +kernel, by decide +kernel⟩
abbrev s_counts_at : Stmt := topS 46
theorem sc_counts_at : FnScope ["deal", "price", "worth"] ["deal", "price"] (defScope s_counts_at) := ⟨rfl, rfl, rfl, by decide +kernel, rfl, by decide +kernel, by decide +kernel⟩
abbrev s_things_behind : Stmt := topS 47
theorem sc_things_behind : FnScope ["deal", "counts", "kept", "count"] ["deal"] (defScope s_things_behind) := ⟨rfl, rfl, rfl, by decide +kernel, rfl, by decide +kernel, by decide +kernel⟩
abbrev s_l_bag : Stmt := topS 49
theorem sc_l_bag : FnScope ["_law_script", "_law_cell"] ["_law_script"] (defScope s_l_bag) := ⟨rfl, rfl, rfl, by decide +kernel, rfl, by decide +kernel, by decide +kernel⟩
abbrev s_l_take : Stmt := topS 50
theorem sc_l_take : FnScope ["_law_bag_here", "_law_many", "_law_cell", "_law_stirred", "_law_value", "_law_begin", "_law_second"] ["_law_bag_here", "_law_many"] (defScope s_l_take) := ⟨rfl, rfl, rfl, by decide +kernel, rfl, by decide +kernel, by decide +kernel⟩
abbrev s_l_some : Stmt := topS 51
theorem sc_l_some : FnScope ["_law_bag_here", "_law_things"] ["_law_bag_here", "_law_things"] (defScope s_l_some) := ⟨rfl, rfl, rfl, by decide +kernel, rfl, by decide +kernel, by decide +kernel⟩
abbrev s_l_mixed : Stmt := topS 52
theorem sc_l_mixed : FnScope ["_law_bag_here", "_law_things", "_law_found", "_law_thing_here"] ["_law_bag_here", "_law_things"] (defScope s_l_mixed) := ⟨rfl, rfl, rfl, by decide +kernel, rfl, by decide +kernel, by decide +kernel⟩
abbrev s_l_alike : Stmt := topS 53
theorem sc_l_alike : FnScope ["_law_found", "_law_due"] ["_law_found", "_law_due"] (defScope s_l_alike) := ⟨rfl, rfl, rfl, by decide +kernel, rfl, by decide +kernel, by decide +kernel⟩
abbrev s_l_common : Stmt := topS 54
theorem sc_l_common : FnScope ["_law_one", "_law_other"] ["_law_one", "_law_other"] (defScope s_l_common) := ⟨rfl, rfl, rfl, by decide +kernel, rfl, by decide +kernel, by decide +kernel⟩
abbrev s_l_reduced : Stmt := topS 55
theorem sc_l_reduced : FnScope ["_law_n", "_law_d", "_law_shared"] ["_law_n", "_law_d"] (defScope s_l_reduced) := ⟨rfl, rfl, rfl, by decide +kernel, rfl, by decide +kernel, by decide +kernel⟩
abbrev s_l_added : Stmt := topS 56
theorem sc_l_added : FnScope ["_law_one", "_law_other"] ["_law_one", "_law_other"] (defScope s_l_added) := ⟨rfl, rfl, rfl, by decide +kernel, rfl, by decide +kernel, by decide +kernel⟩
abbrev s_l_lessened : Stmt := topS 57
theorem sc_l_lessened : FnScope ["_law_one", "_law_other"] ["_law_one", "_law_other"] (defScope s_l_lessened) := ⟨rfl, rfl, rfl, by decide +kernel, rfl, by decide +kernel, by decide +kernel⟩
abbrev s_l_multiplied : Stmt := topS 58
theorem sc_l_multiplied : FnScope ["_law_one", "_law_other"] ["_law_one", "_law_other"] (defScope s_l_multiplied) := ⟨rfl, rfl, rfl, by decide +kernel, rfl, by decide +kernel, by decide +kernel⟩
abbrev s_l_divided : Stmt := topS 59
theorem sc_l_divided : FnScope ["_law_one", "_law_other"] ["_law_one", "_law_other"] (defScope s_l_divided) := ⟨rfl, rfl, rfl, by decide +kernel, rfl, by decide +kernel, by decide +kernel⟩
abbrev s_l_is_below : Stmt := topS 60
theorem sc_l_is_below : FnScope ["_law_one", "_law_other"] ["_law_one", "_law_other"] (defScope s_l_is_below) := ⟨rfl, rfl, rfl, by decide +kernel, rfl, by decide +kernel, by decide +kernel⟩
abbrev s_l_greater : Stmt := topS 61
theorem sc_l_greater : FnScope ["_law_one", "_law_other"] ["_law_one", "_law_other"] (defScope s_l_greater) := ⟨rfl, rfl, rfl, by decide +kernel, rfl, by decide +kernel, by decide +kernel⟩
abbrev s_l_total : Stmt := topS 62
theorem sc_l_total : FnScope ["_law_fractions", "_law_found", "_law_one"] ["_law_fractions"] (defScope s_l_total) := ⟨rfl, rfl, rfl, by decide +kernel, rfl, by decide +kernel, by decide +kernel⟩
abbrev s_l_number : Stmt := topS 63
theorem sc_l_number : FnScope ["_law_bag_here", "_law_most", "_law_way"] ["_law_bag_here", "_law_most"] (defScope s_l_number) := ⟨rfl, rfl, rfl, by decide +kernel, rfl, by decide +kernel, by decide +kernel⟩
abbrev s_l_deal : Stmt := topS 64
theorem sc_l_deal : FnScope ["_law_bag_here", "_law_some_here", "_law_things", "_law_turn", "_law_pool", "_law_money"] ["_law_bag_here"] (defScope s_l_deal) := ⟨rfl, rfl, rfl, by decide +kernel, rfl, by decide +kernel, by decide +kernel⟩
abbrev s_l_thing : Stmt := topS 65
theorem sc_l_thing : FnScope ["_law_bag_here", "_law_way", "_law_cap", "_law_discount"] ["_law_bag_here"] (defScope s_l_thing) := ⟨rfl, rfl, rfl, by decide +kernel, rfl, by decide +kernel, by decide +kernel⟩
abbrev s_l_worth_of : Stmt := topS 66
theorem sc_l_worth_of : FnScope ["_law_thing_here", "_law_money", "_law_price", "_law_rest", "_law_found", "_law_whole"] ["_law_thing_here", "_law_money", "_law_price"] (defScope s_l_worth_of) := ⟨rfl, rfl, rfl, by decide +kernel, rfl, by decide +kernel, by decide +kernel⟩
abbrev s_l_worths : Stmt := topS 67
theorem sc_l_worths : FnScope ["_law_deal_here", "_law_price", "_law_worth", "_law_money", "_law_things", "_law_count", "_law_part", "_law_found", "_law_filled", "_law_thing_here"] ["_law_deal_here", "_law_price"] (defScope s_l_worths) := ⟨rfl, rfl, rfl, by decide +kernel, rfl, by decide +kernel, by decide +kernel⟩
abbrev s_l_price_heard : Stmt := topS 68
theorem sc_l_price_heard : FnScope ["_law_act"] ["_law_act"] (defScope s_l_price_heard) := ⟨rfl, rfl, rfl, by decide +kernel, rfl, by decide +kernel, by decide +kernel⟩
abbrev s_l_is_short : Stmt := topS 69
theorem sc_l_is_short : FnScope ["_law_one"] ["_law_one"] (defScope s_l_is_short) := ⟨rfl, rfl, rfl, by decide +kernel, rfl, by decide +kernel, by decide +kernel⟩
abbrev s_l_behind : Stmt := topS 70
theorem sc_l_behind : FnScope ["_law_deal_here", "_law_price", "_law_worths_here", "_law_found", "_law_worth"] ["_law_deal_here", "_law_price"] (defScope s_l_behind) := ⟨rfl, rfl, rfl, by decide +kernel, rfl, by decide +kernel, by decide +kernel⟩
abbrev s_law : Stmt := topS 71
theorem sc_law : FnScope ["_law_script", "_law_bag_here", "_law_deal_here", "_law_turn", "_law_told", "_law_price", "_law_things", "_law_count", "_law_whole", "_law_more", "_law_part", "_law_worth", "_law_k"] ["_law_script"] (defScope s_law) := ⟨rfl, rfl, rfl, by decide +kernel, rfl, by decide +kernel, by decide +kernel⟩
end My
namespace My
open PySem PySem.Spec PyProof.Rows L2
open Evl (Ex ex_l ex_t fresh_back)

/-- the def x is known to the module and keeps the promise -/
def Kn (P : Program) (w : World) (K : PySem.W.Frag) (mg : Str → Option Value) (base : Heap) (CX : CXT) (x : Str) (ps : List Str) (k : Nat) (sp : Sp) : Prop :=
  ∃ f fd, mg x = some (.ref f) ∧ PySem.W.keepIn K (.ref f) = true ∧ Binds K fd ps [] ∧ FnOk P w K mg base CX k f fd ps sp
/-- the def's text stands -/
def DefT (K : PySem.W.Frag) (mg : Str → Option Value) (x : Str) (st : Stmt) (ps : List Str) : Prop :=
  ∃ f fd, Fun K x x st f fd ∧ mg x = some (.ref f) ∧ Binds K fd ps []
section
variable {P : Program} {w : World} {K : PySem.W.Frag} {mg : Str → Option Value} {base : Heap} {CX : CXT} {x : Str} {st : Stmt} {ps : List Str} {k : Nat} {sp : Sp}
theorem kn_mk (D : DefT K mg x st ps) (h : ∀ f fd, Fun K x x st f fd → FnOk P w K mg base CX k f fd ps sp) : Kn P w K mg base CX x ps k sp :=
  let ⟨f, fd, F, g, b⟩ := D
  ⟨f, fd, g, F.kp, b, h f fd F⟩
end
section
variable {X : Cx} {e : Expr} {es : List Expr} {t : TA} {x : Str} {p pos : Pos} {ps : List Str} {k j : Nat} {sp : Sp} {E : XK}
theorem pe_kn (F : Kn X.prog X.w X.K X.mg X.base CX0 x ps k sp) (hr : Room j X.A) (ha : PA X (e :: es) t) (hk : k ≤ j := by decide) (hg : Gl X x := by rfl) (hd : (x == ("__debug__" : Str)) = false := by decide)
    (hs : starEach (e :: es) X.env = (false, eval e X.env) :: starEach es X.env := by rfl) (hpl : (backTo pos (starEach es X.env)).any (·.1) = false := by rfl) : PE X (.Call (.Name x p) (e :: es) [] pos) (tCall sp [] E0 t) := by
  obtain ⟨f, fd, g, kp, b, F⟩ := F
  exact pe_call F (hr.mono hk) hg g kp b .nil pass0 ha (hdb := hd) (he := hs) (hpl := hpl)
end
theorem pe_kn0 {X : Cx} {x : Str} {p pos : Pos} {ps : List Str} {k j : Nat} {sp : Sp} (F : Kn X.prog X.w X.K X.mg X.base CX0 x ps k sp) (hr : Room j X.A) (hk : k ≤ j := by decide) (hg : Gl X x := by rfl) (hd : (x == ("__debug__" : Str)) = false := by decide) : PE X (.Call (.Name x p) [] [] pos) (tCall sp [] E0 tNil) := by
  obtain ⟨f, fd, g, kp, b, F⟩ := F
  exact pe_call0 F (hr.mono hk) hg g kp b .nil pass0 (hdb := hd)
/-- a promise on data -/
def SpOf (K : PySem.W.Frag) {α : Type} (ds : α → List PyData) (pre : α → Prop) (out : α → PyData) : Sp := fun vs H Q _ => ∃ a, DpAll K H vs (ds a) ∧ pre a ∧ ∀ v H', Ex H H' → Dp K H' v (out a) → Q v H'
theorem spd_of {K : PySem.W.Frag} {α : Type} {ds : α → List PyData} {pre : α → Prop} {out : α → PyData} (a : α) (h : pre a) : SpD K (SpOf K ds pre out) (ds a) (out a) := fun vs H dv Q E q => ⟨a, dv, h, q⟩
/-- a def by its promise on data -/
theorem okD {P : Program} {w : World} {K : PySem.W.Frag} {mg : Str → Option Value} {base : Heap} {x qual : Str} {st : Stmt} {f : Addr} {fd : FuncData} {N ps : List Str} {k : Nat} {α : Type} {ds : α → List PyData} {pre : α → Prop} {out : α → PyData}
    (F : Fun K x qual st f fd) (S : FnScope N ps (defScope st)) (hl : ∀ a, (ds a).length = ps.length)
    (hbody : ∀ (a : α) (cdv : Value) (A : Around) (outer : List Env) (s : Shared) (H : Hp) (vs : List V) (E : XK), Room k (A.deeper (envOfC qual (defScope st) s.heap.objs.size f cdv)) → DpAll K H vs (ds a) → pre a →
      ∃ t, PSs (cxOf CX0 P w K mg base N qual (defScope st) f cdv A outer s H E).nox (defBody st) t ∧ ∀ Q : VK, (∀ v H', Ex H H' → Dp K H' v (out a) → Q v H') → t { nx := fun _ H' => Q .non H', rt := Q } (start N vs) H) :
    FnOk P w K mg base CX0 (k + 1) f fd ps (SpOf K ds pre out) := by
  refine F.ok S (fun vs H Q E h => ?_) (fun cdv A outer s H vs Q E hr h => ?_)
  · obtain ⟨a, dv, _, _⟩ := h
    rw [dpa_len dv, hl]
  · obtain ⟨a, dv, hp, q⟩ := h
    obtain ⟨t, h1, h2⟩ := hbody a cdv A outer s H vs E hr dv hp
    exact ⟨t, h1, h2 Q q⟩
/-- a constant of the module: a tuple that the top has made -/
def CstT (K : PySem.W.Frag) (mg : Str → Option Value) (x : Str) (d : PyData) : Prop := ∃ a, mg x = some (.ref a) ∧ ∀ H, Dp K H (.ref a) d
theorem pe_cst {X : Cx} {x : Str} {d : PyData} {pos : Pos} (h : CstT X.K X.mg x d) (hg : Gl X x := by rfl) (hd : (x == ("__debug__" : Str)) = false := by decide) : PE X (.Name x pos) (tC (.ref h.choose)) :=
  pe_glob (v := .ref h.choose) hg h.choose_spec.1 rfl hd
theorem evd_cst {K : PySem.W.Frag} {mg : Str → Option Value} {x : Str} {d : PyData} {σ : L2.St} {H : Hp} (h : CstT K mg x d) : EvD K (tC (.ref h.choose)) σ H d := evd_c h.choose_spec.2
theorem room65 {k : Nat} {A : Around} (hr : Room k A) : A.units + 65 < cLine := by have := hr.un; omega
abbrev rLenK (K : PySem.W.Frag) : List V → Hp → VK → Prop := fun xs H Q => ∃ p ys, xs = [.ref p] ∧ (SqL K H p ys ∨ SqT K H p ys) ∧ Q (.int ys.length) H
abbrev rTupK (K : PySem.W.Frag) : List V → Hp → VK → Prop := fun xs H Q => ∃ p ys, xs = [.ref p] ∧ ((SqL K H p ys ∧ ∀ l, H l = none → Q (.ref l) (upd H l (.tup ys))) ∨ (SqT K H p ys ∧ Q (.ref p) H))
abbrev rListK (K : PySem.W.Frag) : List V → Hp → VK → Prop := fun xs H Q => ∃ p ys, xs = [.ref p] ∧ (SqL K H p ys ∨ SqT K H p ys) ∧ ∀ l, H l = none → Q (.ref l) (upd H l (.lst ys))
/-- FRACTIONS as data -/
abbrev fr (q : Rat) : PyData := .tuple [.int q.num, .int ((q.den : Nat) : Int)]
theorem fr_inj {p q : Rat} (h : fr p = fr q) : p = q := by
  injection h with h
  injection h with h1 h2
  injection h2 with h2 _
  injection h1 with h1
  injection h2 with h2
  exact Rat.ext h1 (by omega)
end My
namespace My
open PySem PySem.Spec PyProof.Rows L2
structure Md (P : Program) (K : PySem.W.Frag) (mg : Str → Option Value) (base : Heap) : Prop where
  tree : P.given.tree = none
  base : Base base
  n_abs : mg "abs" = none
  n_int : mg "int" = none
  n_len : mg "len" = none
  n_tuple : mg "tuple" = none
  n_list : mg "list" = none
  n_range : mg "range" = none
  n_enumerate : mg "enumerate" = none
  n_max : mg "max" = none
  n_repr : mg "repr" = none
  g_NOUGHT : CstT K mg "NOUGHT" (fr 0)
  g_ZERO : CstT K mg "ZERO" (fr 0)
  g_ONE : CstT K mg "ONE" (fr 1)
  d_common_divisor : DefT K mg "common_divisor" s_common_divisor ["one", "other"]
  d_reduced : DefT K mg "reduced" s_reduced ["n", "d"]
  d_added : DefT K mg "added" s_added ["one", "other"]
  d_lessened : DefT K mg "lessened" s_lessened ["one", "other"]
  d_times : DefT K mg "times" s_times ["one", "other"]
  d_over : DefT K mg "over" s_over ["one", "other"]
  d_compared : DefT K mg "compared" s_compared ["one", "other"]
  d_greatest_of : DefT K mg "greatest_of" s_greatest_of ["fractions"]
  d_total : DefT K mg "total" s_total ["fractions"]
  d_slope_between : DefT K mg "slope_between" s_slope_between ["one", "other"]
  d_curve : DefT K mg "curve" s_curve ["corners", "slope"]
  d_nothing : DefT K mg "nothing" s_nothing []
  d_in_order : DefT K mg "in_order" s_in_order ["fractions"]
  d_levels_of : DefT K mg "levels_of" s_levels_of ["curves"]
  d_slope_behind : DefT K mg "slope_behind" s_slope_behind ["one", "at"]
  d_pay_at : DefT K mg "pay_at" s_pay_at ["one", "level"]
  d_rises_at : DefT K mg "rises_at" s_rises_at ["one", "level"]
  d_added_up : DefT K mg "added_up" s_added_up ["curves"]
  d_parting : DefT K mg "parting" s_parting ["one", "other", "level"]
  d_meetings : DefT K mg "meetings" s_meetings ["one", "other"]
  d_greater_of : DefT K mg "greater_of" s_greater_of ["one", "other"]
  d_greatest : DefT K mg "greatest" s_greatest ["curves"]
  d_reached : DefT K mg "reached" s_reached ["one", "pay"]
  d_scaled : DefT K mg "scaled" s_scaled ["one", "factor"]
  d_level_for : DefT K mg "level_for" s_level_for ["one", "pay"]
  d_note_worth : DefT K mg "note_worth" s_note_worth ["thing", "price"]
  d_weighed_worth : DefT K mg "weighed_worth" s_weighed_worth ["thing", "price", "money"]
  d_thing_worth : DefT K mg "thing_worth" s_thing_worth ["thing", "price", "money"]
  d_pool_worth : DefT K mg "pool_worth" s_pool_worth ["deal", "price", "things"]
  d_worths_at : DefT K mg "worths_at" s_worths_at ["deal", "price"]
  d_worth_at : DefT K mg "worth_at" s_worth_at ["deal", "price"]
  d_thing_curve : DefT K mg "thing_curve" s_thing_curve ["thing", "money"]
  d_lowered : DefT K mg "lowered" s_lowered ["one", "gap"]
  d_worth_curve : DefT K mg "worth_curve" s_worth_curve ["deal"]
  d_price_of : DefT K mg "price_of" s_price_of ["deal"]
  d_counts_at : DefT K mg "counts_at" s_counts_at ["deal", "price"]
  d_things_behind : DefT K mg "things_behind" s_things_behind ["deal"]
  d_l_bag : DefT K mg "_law_bag" s_l_bag ["_law_script"]
  d_l_take : DefT K mg "_law_take" s_l_take ["_law_bag_here", "_law_many"]
  d_l_some : DefT K mg "_law_some" s_l_some ["_law_bag_here", "_law_things"]
  d_l_mixed : DefT K mg "_law_mixed" s_l_mixed ["_law_bag_here", "_law_things"]
  d_l_alike : DefT K mg "_law_alike" s_l_alike ["_law_found", "_law_due"]
  d_l_common : DefT K mg "_law_common" s_l_common ["_law_one", "_law_other"]
  d_l_reduced : DefT K mg "_law_reduced" s_l_reduced ["_law_n", "_law_d"]
  d_l_added : DefT K mg "_law_added" s_l_added ["_law_one", "_law_other"]
  d_l_lessened : DefT K mg "_law_lessened" s_l_lessened ["_law_one", "_law_other"]
  d_l_multiplied : DefT K mg "_law_multiplied" s_l_multiplied ["_law_one", "_law_other"]
  d_l_divided : DefT K mg "_law_divided" s_l_divided ["_law_one", "_law_other"]
  d_l_is_below : DefT K mg "_law_is_below" s_l_is_below ["_law_one", "_law_other"]
  d_l_greater : DefT K mg "_law_greater" s_l_greater ["_law_one", "_law_other"]
  d_l_total : DefT K mg "_law_total" s_l_total ["_law_fractions"]
  d_l_number : DefT K mg "_law_number" s_l_number ["_law_bag_here", "_law_most"]
  d_l_deal : DefT K mg "_law_deal" s_l_deal ["_law_bag_here"]
  d_l_thing : DefT K mg "_law_thing" s_l_thing ["_law_bag_here"]
  d_l_worth_of : DefT K mg "_law_worth_of" s_l_worth_of ["_law_thing_here", "_law_money", "_law_price"]
  d_l_worths : DefT K mg "_law_worths" s_l_worths ["_law_deal_here", "_law_price"]
  d_l_price_heard : DefT K mg "_law_price_heard" s_l_price_heard ["_law_act"]
  d_l_is_short : DefT K mg "_law_is_short" s_l_is_short ["_law_one"]
  d_l_behind : DefT K mg "_law_behind" s_l_behind ["_law_deal_here", "_law_price"]
theorem BodyCx.of {X : Cx} (M : Md X.prog X.K X.mg X.base) (hs : X.stack = X.env :: X.outer) (hg : X.env.scope.isGenerator = false) (hc : X.env.scope.isCoroutine = false := by rfl) : BodyCx X := ⟨M.base, M.tree, hs, hg, hc⟩
end My
namespace My
open PySem PySem.Spec PyProof.Rows L2
open Evl (Ex ex_l ex_t fresh_back)
section
variable {P : Program} {w : World} {K : PySem.W.Frag} {mg : Str → Option Value} {base : Heap}
theorem ok_common_divisor (M : Md P K mg base) : Kn P w K mg base CX0 "common_divisor" ["one", "other"] 1
    (SpOf K (α := Nat × Nat) (fun a => [.int (a.1 : Nat), .int (a.2 : Nat)]) (fun _ => True) (fun a => .int (a.1.gcd a.2 : Nat))) := by
  refine kn_mk M.d_common_divisor fun f fd F => okD F sc_common_divisor (fun _ => rfl) fun a cdv A outer s H vs E hr dv _ => ?_
  obtain ⟨x, y⟩ := a
  obtain ⟨v0, v1, rfl, d0, d1⟩ := dpa_two dv
  cases d0; cases d1
  refine ⟨_, pss_cons (ps_while PassesOwn.never (pt_cmpR op_ne (pv 1) pe_int (nomark _))
      (pss_one (ps_par (i := 0) (j := 1) (by rfl) sc_common_divisor.nd rfl rfl (by decide) rfl rfl (pa_cons (pv 1) (pa_cons (pe_op op_modN (pe_callTy call_int1 (by rfl) M.n_int (by decide +kernel) (pa_cons (pv 0) pa_nil)) (pv 1)) pa_nil)) (by rfl))))
    (pss_one (ps_ret (pv 0))), fun Q q => ?_⟩
  refine Evl.s_while (fun m σ' H' => ∃ a b : Nat, σ' = [some (.int a), some (.int b)] ∧ Ex H H' ∧ b = m ∧ a.gcd b = x.gcd y) y ⟨x, y, rfl, Ex.refl H, rfl, rfl⟩ ?_
  rintro m σ' H' ⟨a, b, rfl, e, rfl, hg⟩
  refine ⟨!decide ((b : Int) = 0), ?_, fun hb H1 e1 => ?_, fun hb H1 e1 => ?_⟩
  · exact fun H2 e2 Q q => (evb_test (K := K) (evd_op (K := K) (evd_var rfl (.int _)) evd_int rd_neI)) H2 e2 Q q
  · have hb0 : b ≠ 0 := by
      intro z; subst z; simp at hb
    refine ⟨fun σ2 H2 => ∃ a' b' : Nat, σ2 = [some (.int a'), some (.int b')] ∧ Ex H H2 ∧ b' < b ∧ a'.gcd b' = x.gcd y, ?_, ?_⟩
    · rintro σ2 H2 ⟨a', b', rfl, e2, hl, hg'⟩
      exact ⟨b', hl, a', b', rfl, e2, rfl, hg'⟩
    · refine sd_par (K := K) (ead_cons (evd_var rfl (.int _)) (ead_cons (evd_op (evd_cb (ead_cons (evd_var rfl (.int _)) ead_nil) rc_int) (evd_var rfl (.int _)) (rd_I (by omega))) ead_nil)) fun v w H2 e2 dv dw => ?_
      cases dv; cases dw
      exact ⟨b, a % b, by rw [fmod_nat]; rfl, (e.trans e1).trans e2, Nat.mod_lt _ (by omega), by rw [gcd_step a b hb0]; exact hg⟩
  · have hb0 : b = 0 := by simpa using hb
    subst hb0
    refine sd_ret (K := K) (evd_var rfl (.int _)) fun v H2 e2 dv => q v H2 ((e.trans e1).trans e2) ?_
    rw [← hg, Nat.gcd_zero_right]
    exact dv

theorem ok_reduced (M : Md P K mg base) : Kn P w K mg base CX0 "reduced" ["n", "d"] 33
    (SpOf K (α := Int × Int) (fun a => [.int a.1, .int a.2]) (fun a => a.2 ≠ 0) (fun a => fr (Rat.divInt a.1 a.2))) := by
  refine kn_mk M.d_reduced fun f fd F => okD F sc_reduced (fun _ => rfl) fun a cdv A outer s H vs E hr dv hd => ?_
  obtain ⟨n, d⟩ := a
  obtain ⟨v0, v1, rfl, d0, d1⟩ := dpa_two dv
  cases d0; cases d1
  refine ⟨_, (pss_cons (ps_set (i := 2) sc_reduced.nd rfl (.inl rfl) (pe_kn (ok_common_divisor M) hr (pa_cons (pe_callB call_abs (by rfl) M.n_abs (by decide +kernel) (pa_cons (pv 0) pa_nil)) (pa_cons (pe_callB call_abs (by rfl) M.n_abs (by decide +kernel) (pa_cons (pv 1) pa_nil)) pa_nil)))) (pss_cons (ps_set (i := 2) sc_reduced.nd rfl (.inl rfl) (pe_ifExp (pt_cmpR op_gt (pv 1) pe_int (nomark _)) (pv 2) (pe_op op_sub pe_int (pv 2)))) (pss_one (ps_ret (pe_tup (pa_cons (pe_op (op_fdivX (BodyCx.of M rfl rfl) hr (by decide)) (pv 0) (pv 2)) (pa_cons (pe_op (op_fdivX (BodyCx.of M rfl rfl) hr (by decide)) (pv 1) (pv 2)) pa_nil))))))), fun Q q => ?_⟩
  have hd0 : d ≠ 0 := hd
  refine sd_set (K := K) (evd_call (ead_cons (evd_cb (ead_cons (evd_var rfl (.int _)) ead_nil) rc_abs) (ead_cons (evd_cb (ead_cons (evd_var rfl (.int _)) ead_nil) rc_abs) ead_nil)) (spd_of (n.natAbs, d.natAbs) trivial)) fun v H1 e1 dv => ?_
  cases dv
  refine sd_set (K := K) (d := .int (shared n d)) ((evd_if (evb_test (K := K) (evd_op (evd_var rfl (.int _)) evd_int rd_B0)) (fun h => ?_) fun h => ?_)) fun v H2 e2 dv => ?_
  · have h' : d > 0 := of_decide_eq_true h
    refine (evd_var rfl (.int _)).is ?_
    unfold shared
    rw [if_pos h']
  · have h' : ¬ d > 0 := of_decide_eq_false h
    refine (evd_op evd_int (evd_var rfl (.int _)) rd_I0).is ?_
    unfold shared
    rw [if_neg h']
  · cases dv
    dsimp only
    refine sd_ret (K := K) (evd_tup (ead_cons (evd_op (evd_var rfl (.int _)) (evd_var rfl (.int _)) (rd_I (shared_ne hd0))) (ead_cons (evd_op (evd_var rfl (.int _)) (evd_var rfl (.int _)) (rd_I (shared_ne hd0))) ead_nil)) (by simp)) fun v H3 e3 dv => ?_
    refine q v H3 ((e1.trans e2).trans e3) ?_
    rw [red_num hd0, red_den hd0] at dv
    exact dv
/-- two fractions in, one out -/
abbrev spQQ (K : PySem.W.Frag) (pre : Rat → Rat → Prop) (op : Rat → Rat → Rat) : Sp := SpOf K (α := Rat × Rat) (fun a => [fr a.1, fr a.2]) (fun a => pre a.1 a.2) (fun a => fr (op a.1 a.2))
abbrev okSz (a b : Rat) : Prop := sz a + sz b ≤ 100000000
theorem cmul_nd {a b : Rat} (h : okSz a b) : CMulX a.num ((b.den : Nat) : Int) := by
  unfold okSz sz at h; unfold CMulX; rw [Int.natAbs_natCast]; omega
theorem cmul_nn {a b : Rat} (h : okSz a b) : CMulX a.num b.num := by
  unfold okSz sz at h; unfold CMulX; omega
theorem cmul_dd {a b : Rat} (h : okSz a b) : CMulX ((a.den : Nat) : Int) ((b.den : Nat) : Int) := by
  unfold okSz sz at h; unfold CMulX; rw [Int.natAbs_natCast, Int.natAbs_natCast]; omega
theorem cmul_dn {a b : Rat} (h : okSz a b) : CMulX ((a.den : Nat) : Int) b.num := by
  unfold okSz sz at h; unfold CMulX; rw [Int.natAbs_natCast]; omega
theorem okSz.symm {a b : Rat} (h : okSz a b) : okSz b a := by unfold okSz at *; omega
theorem evd_num {te : TE} {σ : L2.St} {H : Hp} {a : Rat} (h : EvD K te σ H (fr a)) : EvD K (tOp (rIxT K) te (tC (.int 0))) σ H (.int a.num) := evd_op h evd_int (rd_ixT (i := 0) rfl)
theorem evd_den {te : TE} {σ : L2.St} {H : Hp} {a : Rat} (h : EvD K te σ H (fr a)) : EvD K (tOp (rIxT K) te (tC (.int 1))) σ H (.int ((a.den : Nat) : Int)) := evd_op h evd_int (rd_ixT (i := 1) rfl)
theorem ok_added (M : Md P K mg base) : Kn P w K mg base CX0 "added" ["one", "other"] 34 (spQQ K okSz (· + ·)) := by
  refine kn_mk M.d_added fun f fd F => okD F sc_added (fun _ => rfl) fun a cdv A outer s H vs E hr dv hs => ?_
  obtain ⟨a, b⟩ := a
  obtain ⟨v0, v1, rfl, d0, d1⟩ := dpa_two dv
  refine ⟨_, (pss_one (ps_ret (pe_kn (ok_reduced M) hr (pa_cons (pe_op op_add (pe_op op_mulX (pe_ix ix_tup (pv 0) pe_int (fun _ _ => rfl)) (pe_ix ix_tup (pv 1) pe_int (fun _ _ => rfl))) (pe_op op_mulX (pe_ix ix_tup (pv 1) pe_int (fun _ _ => rfl)) (pe_ix ix_tup (pv 0) pe_int (fun _ _ => rfl)))) (pa_cons (pe_op op_mulX (pe_ix ix_tup (pv 0) pe_int (fun _ _ => rfl)) (pe_ix ix_tup (pv 1) pe_int (fun _ _ => rfl))) pa_nil))))), fun Q q => ?_⟩
  have hs : okSz a b := hs
  refine sd_ret (K := K) ?_ fun v H1 e1 dv => q v H1 e1 dv
  refine (evd_call (ead_cons (evd_op (evd_op (evd_num (evd_var rfl d0)) (evd_den (evd_var rfl d1)) (rd_I (cmul_nd hs))) (evd_op (evd_num (evd_var rfl d1)) (evd_den (evd_var rfl d0)) (rd_I (cmul_nd hs.symm))) rd_I0) (ead_cons (evd_op (evd_den (evd_var rfl d0)) (evd_den (evd_var rfl d1)) (rd_I (cmul_dd hs))) ead_nil)) (spd_of (_, _) ?_)).is ?_
  · exact Int.mul_ne_zero (den_ne a) (den_ne b)
  · show fr _ = fr _
    rw [divInt_add]
theorem ok_lessened (M : Md P K mg base) : Kn P w K mg base CX0 "lessened" ["one", "other"] 34 (spQQ K okSz (· - ·)) := by
  refine kn_mk M.d_lessened fun f fd F => okD F sc_lessened (fun _ => rfl) fun a cdv A outer s H vs E hr dv hs => ?_
  obtain ⟨a, b⟩ := a
  obtain ⟨v0, v1, rfl, d0, d1⟩ := dpa_two dv
  refine ⟨_, (pss_one (ps_ret (pe_kn (ok_reduced M) hr (pa_cons (pe_op op_sub (pe_op op_mulX (pe_ix ix_tup (pv 0) pe_int (fun _ _ => rfl)) (pe_ix ix_tup (pv 1) pe_int (fun _ _ => rfl))) (pe_op op_mulX (pe_ix ix_tup (pv 1) pe_int (fun _ _ => rfl)) (pe_ix ix_tup (pv 0) pe_int (fun _ _ => rfl)))) (pa_cons (pe_op op_mulX (pe_ix ix_tup (pv 0) pe_int (fun _ _ => rfl)) (pe_ix ix_tup (pv 1) pe_int (fun _ _ => rfl))) pa_nil))))), fun Q q => ?_⟩
  have hs : okSz a b := hs
  refine sd_ret (K := K) ?_ fun v H1 e1 dv => q v H1 e1 dv
  refine (evd_call (ead_cons (evd_op (evd_op (evd_num (evd_var rfl d0)) (evd_den (evd_var rfl d1)) (rd_I (cmul_nd hs))) (evd_op (evd_num (evd_var rfl d1)) (evd_den (evd_var rfl d0)) (rd_I (cmul_nd hs.symm))) rd_I0) (ead_cons (evd_op (evd_den (evd_var rfl d0)) (evd_den (evd_var rfl d1)) (rd_I (cmul_dd hs))) ead_nil)) (spd_of (_, _) ?_)).is ?_
  · exact Int.mul_ne_zero (den_ne a) (den_ne b)
  · show fr _ = fr _
    rw [divInt_sub]
theorem ok_times (M : Md P K mg base) : Kn P w K mg base CX0 "times" ["one", "other"] 34 (spQQ K okSz (· * ·)) := by
  refine kn_mk M.d_times fun f fd F => okD F sc_times (fun _ => rfl) fun a cdv A outer s H vs E hr dv hs => ?_
  obtain ⟨a, b⟩ := a
  obtain ⟨v0, v1, rfl, d0, d1⟩ := dpa_two dv
  refine ⟨_, (pss_one (ps_ret (pe_kn (ok_reduced M) hr (pa_cons (pe_op op_mulX (pe_ix ix_tup (pv 0) pe_int (fun _ _ => rfl)) (pe_ix ix_tup (pv 1) pe_int (fun _ _ => rfl))) (pa_cons (pe_op op_mulX (pe_ix ix_tup (pv 0) pe_int (fun _ _ => rfl)) (pe_ix ix_tup (pv 1) pe_int (fun _ _ => rfl))) pa_nil))))), fun Q q => ?_⟩
  have hs : okSz a b := hs
  refine sd_ret (K := K) ?_ fun v H1 e1 dv => q v H1 e1 dv
  refine (evd_call (ead_cons (evd_op (evd_num (evd_var rfl d0)) (evd_num (evd_var rfl d1)) (rd_I (cmul_nn hs))) (ead_cons (evd_op (evd_den (evd_var rfl d0)) (evd_den (evd_var rfl d1)) (rd_I (cmul_dd hs))) ead_nil)) (spd_of (_, _) ?_)).is ?_
  · exact Int.mul_ne_zero (den_ne a) (den_ne b)
  · show fr _ = fr _
    rw [divInt_mul]
theorem num_ne {b : Rat} (h : b ≠ 0) : b.num ≠ 0 := fun z => h (Rat.num_eq_zero.mp z)
theorem ok_over (M : Md P K mg base) : Kn P w K mg base CX0 "over" ["one", "other"] 34 (spQQ K (fun a b => okSz a b ∧ b ≠ 0) (· / ·)) := by
  refine kn_mk M.d_over fun f fd F => okD F sc_over (fun _ => rfl) fun a cdv A outer s H vs E hr dv hs => ?_
  obtain ⟨a, b⟩ := a
  obtain ⟨v0, v1, rfl, d0, d1⟩ := dpa_two dv
  refine ⟨_, (pss_one (ps_ret (pe_kn (ok_reduced M) hr (pa_cons (pe_op op_mulX (pe_ix ix_tup (pv 0) pe_int (fun _ _ => rfl)) (pe_ix ix_tup (pv 1) pe_int (fun _ _ => rfl))) (pa_cons (pe_op op_mulX (pe_ix ix_tup (pv 0) pe_int (fun _ _ => rfl)) (pe_ix ix_tup (pv 1) pe_int (fun _ _ => rfl))) pa_nil))))), fun Q q => ?_⟩
  obtain ⟨hs, hb⟩ : okSz a b ∧ b ≠ 0 := hs
  refine sd_ret (K := K) ?_ fun v H1 e1 dv => q v H1 e1 dv
  refine (evd_call (ead_cons (evd_op (evd_num (evd_var rfl d0)) (evd_den (evd_var rfl d1)) (rd_I (cmul_nd hs))) (ead_cons (evd_op (evd_den (evd_var rfl d0)) (evd_num (evd_var rfl d1)) (rd_I (cmul_dn hs))) ead_nil)) (spd_of (_, _) ?_)).is ?_
  · exact Int.mul_ne_zero (den_ne a) (num_ne hb)
  · show fr _ = fr _
    rw [divInt_div]
/-- -1, 0, 1 -/
def cmp (a b : Rat) : Int := if a < b then -1 else if b < a then 1 else 0
theorem cmp_eq (a b : Rat) : (if decide (b.num * a.den < a.num * b.den) then (1 : Int) else 0) - (if decide (a.num * b.den < b.num * a.den) then 1 else 0) = cmp a b := by
  unfold cmp
  simp only [Rat.lt_iff a b, Rat.lt_iff b a, decide_eq_true_eq]
  split <;> split <;> omega
theorem ok_compared (M : Md P K mg base) : Kn P w K mg base CX0 "compared" ["one", "other"] 34
    (SpOf K (α := Rat × Rat) (fun a => [fr a.1, fr a.2]) (fun a => okSz a.1 a.2) (fun a => .int (cmp a.1 a.2))) := by
  refine kn_mk M.d_compared fun f fd F => okD F sc_compared (fun _ => rfl) fun a cdv A outer s H vs E hr dv hs => ?_
  obtain ⟨a, b⟩ := a
  obtain ⟨v0, v1, rfl, d0, d1⟩ := dpa_two dv
  refine ⟨_, (pss_cons (ps_par (i := 2) (j := 3) (by rfl) sc_compared.nd rfl rfl (by decide) rfl rfl (pa_cons (pe_op op_mulX (pe_ix ix_tup (pv 0) pe_int (fun _ _ => rfl)) (pe_ix ix_tup (pv 1) pe_int (fun _ _ => rfl))) (pa_cons (pe_op op_mulX (pe_ix ix_tup (pv 1) pe_int (fun _ _ => rfl)) (pe_ix ix_tup (pv 0) pe_int (fun _ _ => rfl))) pa_nil)) (by rfl)) (pss_one (ps_ret (pe_op op_sub (pe_callTy call_int1 (by rfl) M.n_int (by decide +kernel) (pa_cons (pe_cmpR op_gt (pv 2) (pv 3) (nomark _)) pa_nil)) (pe_callTy call_int1 (by rfl) M.n_int (by decide +kernel) (pa_cons (pe_cmpR op_lt (pv 2) (pv 3) (nomark _)) pa_nil)))))), fun Q q => ?_⟩
  have hs : okSz a b := hs
  refine sd_par (K := K) (ead_cons (evd_op (evd_num (evd_var rfl d0)) (evd_den (evd_var rfl d1)) (rd_I (cmul_nd hs))) (ead_cons (evd_op (evd_num (evd_var rfl d1)) (evd_den (evd_var rfl d0)) (rd_I (cmul_nd hs.symm))) ead_nil)) fun v w H1 e1 dv dw => ?_
  dsimp only
  refine sd_ret (K := K) (d := .int (cmp a b)) ?_ fun v H2 e2 dv => q v H2 (e1.trans e2) dv
  refine (evd_op (evd_cb (ead_cons (evd_op (evd_var rfl dv) (evd_var rfl dw) rd_B0) ead_nil) rc_intB) (evd_cb (ead_cons (evd_op (evd_var rfl dv) (evd_var rfl dw) rd_B0) ead_nil) rc_intB) rd_I0).is ?_
  show PyData.int _ = PyData.int _
  rw [← cmp_eq]

theorem evd_cmp {te tf : TE} {σ : L2.St} {H : Hp} {a b : Rat} (ha : EvD K te σ H (fr a)) (hb : EvD K tf σ H (fr b)) (h : okSz a b) {E : XK} :
    EvD K (tCall (SpOf K (α := Rat × Rat) (fun a => [fr a.1, fr a.2]) (fun a => okSz a.1 a.2) (fun a => .int (cmp a.1 a.2))) [] E (tCons te (tCons tf tNil))) σ H (.int (cmp a b)) :=
  evd_call (ead_cons ha (ead_cons hb ead_nil)) (spd_of (a, b) h)
theorem evd_qq {pre : Rat → Rat → Prop} {op : Rat → Rat → Rat} {te tf : TE} {σ : L2.St} {H : Hp} {a b : Rat} (ha : EvD K te σ H (fr a)) (hb : EvD K tf σ H (fr b)) (h : pre a b) {E : XK} :
    EvD K (tCall (spQQ K pre op) [] E (tCons te (tCons tf tNil))) σ H (fr (op a b)) :=
  evd_call (ead_cons ha (ead_cons hb ead_nil)) (spd_of (a, b) h)
theorem cmp_pos (a b : Rat) : decide (0 < cmp a b) = decide (b < a) := by
  unfold cmp
  by_cases h : a < b
  · have : ¬ b < a := by grind
    simp [h, this]
  · by_cases h2 : b < a <;> simp [h, h2]

/-- the i-th item of a list of fractions, found in the heap -/
theorem fr_item {qs : List Rat} {xs : List V} {H : Hp} {i : Nat} {x : V} (ha : DpAll K H xs (qs.map fr)) (h : xs[i]? = some x) : ∃ q, qs[i]? = some q ∧ Dp K H x (fr q) := by
  obtain ⟨d, hd, dx⟩ := dpa_getV ha h
  rw [List.getElem?_map] at hd
  cases e : qs[i]? with
  | none => rw [e] at hd; cases hd
  | some q =>
    rw [e] at hd
    have := Option.some.inj hd
    subst this
    exact ⟨q, rfl, dx⟩
theorem ok_greatest_of (M : Md P K mg base) : Kn P w K mg base CX0 "greatest_of" ["fractions"] 35
    (SpOf K (α := Rat × Rat) (fun a => [.list [fr a.1, fr a.2]]) (fun a => okSz a.1 a.1 ∧ okSz a.1 a.2) (fun a => fr (rmax a.1 a.2))) := by
  refine kn_mk M.d_greatest_of fun f fd F => okD F sc_greatest_of (fun _ => rfl) fun a cdv A outer s H vs E hr dv hs => ?_
  obtain ⟨a, b⟩ := a
  obtain ⟨v0, rfl, d0⟩ := dpa_one dv
  refine ⟨_, (pss_cons (ps_set (i := 1) sc_greatest_of.nd rfl (.inl rfl) (pe_ix ix_list (pv 0) pe_int (fun _ _ => rfl))) (pss_cons (ps_for PassesOwn.never rfl (pi_list (pv 0)) (pg_name (i := 2) sc_greatest_of.nd rfl (Or.inl rfl)) (pss_one (ps_if (pt_cmpR op_gt (pe_kn (ok_compared M) hr (pa_cons (pv 2) (pa_cons (pv 1) pa_nil))) pe_int (nomark _)) (pss_one (ps_set (i := 1) sc_greatest_of.nd rfl (.inl rfl) (pv 2))) pss_nil))) (pss_one (ps_ret (pv 1))))), fun Q q => ?_⟩
  obtain ⟨h1, h2⟩ : okSz a a ∧ okSz a b := hs
  refine sd_set (K := K) (evd_op (evd_var rfl d0) evd_int (rd_ixL (i := 0) rfl)) fun v1 H1 e1 d1 => ?_
  cases d0 with
  | lst hl ha =>
    rename_i l xs
    have hlen := dpa_len ha
    refine Evl.s_forL (K := K) (Evl.ev_var rfl) (ex_l e1 hl) (fun i σ' H' => ∃ v x, σ' = [some (.ref l), some v, x] ∧ Ex H1 H' ∧ Dp K H' v (fr (if i ≤ 1 then a else rmax a b))) (fun H2 e2 => ⟨v1, none, rfl, e2, dp_ex e2 d1⟩) ?_ ?_ ?_
    · rintro i σ' H' _ ⟨v, x, rfl, e, _⟩
      exact ex_l (e1.trans e) hl
    · rintro i x σ' H' hx ⟨v, y, rfl, e, dv⟩
      have ha' := dpa_ex (e1.trans e) ha
      have hi : i < 2 := by
        have := List.getElem?_eq_some_iff.mp hx
        obtain ⟨hi, _⟩ := this
        simpa [hlen] using hi
      obtain ⟨p, hp, dx⟩ := fr_item (qs := [a, b]) ha' hx
      show tIfS _ _ _ _ _ _
      have hi1 : i ≤ 1 := by omega
      rw [if_pos hi1] at dv
      have hok : okSz p a := by
        have : i = 0 ∨ i = 1 := by omega
        rcases this with rfl | rfl
        · simp at hp; subst hp; exact h1
        · simp at hp; subst hp; exact h2.symm
      refine sd_if (b := decide (a < p)) (evb_is (evb_test (K := K) (evd_op (evd_cmp (evd_var rfl dx) (evd_var rfl dv) hok) evd_int rd_B0)) (cmp_pos p a)) (fun hb H2 e2 => ?_) (fun hb H2 e2 => ?_)
      · have hb' : a < p := of_decide_eq_true hb
        refine sd_set (K := K) (evd_var rfl (dp_ex e2 dx)) fun v2 H3 e3 d3 => ⟨v2, some x, rfl, (e.trans e2).trans e3, ?_⟩
        have : i = 0 ∨ i = 1 := by omega
        rcases this with rfl | rfl
        · simp at hp; subst hp; exact absurd hb' (by grind)
        · simp at hp; subst hp
          have e5 : rmax a b = b := if_pos hb'
          rw [if_neg (by omega), e5]; exact d3
      · have hb' : ¬ a < p := of_decide_eq_false hb
        refine ⟨v, some x, rfl, e.trans e2, ?_⟩
        have : i = 0 ∨ i = 1 := by omega
        rcases this with rfl | rfl
        · exact dp_ex e2 dv
        · simp at hp; subst hp
          have e5 : rmax a b = a := if_neg hb'
          rw [if_neg (by omega), e5]; exact dp_ex e2 dv
    · rintro σ' H' ⟨v, x, rfl, e, dv⟩
      have hl2 : xs.length = 2 := by rw [hlen]; rfl
      rw [hl2, if_neg (by omega)] at dv
      exact sd_ret (K := K) (evd_var rfl dv) fun v2 H3 e3 d3 => q v2 H3 ((e1.trans e).trans e3) d3
/-- sums -/
theorem sum_take_succ {qs : List Rat} {i : Nat} {q : Rat} (h : qs[i]? = some q) : (qs.take (i + 1)).sum = (qs.take i).sum + q := by
  rw [List.take_add_one, h, List.sum_append]
  simp [Rat.add_zero]
def okTotal (qs : List Rat) : Prop := ∀ i q, qs[i]? = some q → okSz (qs.take i).sum q
theorem ok_total (M : Md P K mg base) : Kn P w K mg base CX0 "total" ["fractions"] 35
    (SpOf K (α := Bool × List Rat) (fun a => [if a.1 then .list (a.2.map fr) else .tuple (a.2.map fr)]) (fun a => okTotal a.2) (fun a => fr a.2.sum)) := by
  refine kn_mk M.d_total fun f fd F => okD F sc_total (fun _ => rfl) fun a cdv A outer s H vs E hr dv hs => ?_
  obtain ⟨b, qs⟩ := a
  obtain ⟨v0, rfl, d0⟩ := dpa_one dv
  have hs : okTotal qs := hs
  cases b with
  | true =>
    have d0 : Dp K H v0 (.list (qs.map fr)) := d0
    refine ⟨_, (pss_cons (ps_set (i := 1) sc_total.nd rfl (.inl rfl) (pe_tup (pa_cons pe_int (pa_cons pe_int pa_nil)))) (pss_cons (ps_for PassesOwn.never rfl (pi_list (pv 0)) (pg_name (i := 2) sc_total.nd rfl (Or.inl rfl)) (pss_one (ps_set (i := 1) sc_total.nd rfl (.inl rfl) (pe_kn (ok_added M) hr (pa_cons (pv 1) (pa_cons (pv 2) pa_nil)))))) (pss_one (ps_ret (pv 1))))), fun Q q => ?_⟩
    refine sd_set (K := K) (d := fr 0) (evd_tup (ead_cons evd_int (ead_cons evd_int ead_nil)) (by simp)) fun v1 H1 e1 d1 => ?_
    cases d0 with
    | lst hl ha =>
      rename_i l xs
      have hlen := dpa_len ha
      refine Evl.s_forL (K := K) (Evl.ev_var rfl) (ex_l e1 hl) (fun i σ' H' => ∃ v x, σ' = [some (.ref l), some v, x] ∧ Ex H1 H' ∧ Dp K H' v (fr (qs.take i).sum)) (fun H2 e2 => ⟨v1, none, rfl, e2, dp_ex e2 d1⟩) ?_ ?_ ?_
      · rintro i σ' H' _ ⟨v, x, rfl, e, _⟩
        exact ex_l (e1.trans e) hl
      · rintro i x σ' H' hx ⟨v, y, rfl, e, dv⟩
        obtain ⟨p, hp, dx⟩ := fr_item (dpa_ex (e1.trans e) ha) hx
        show tAsg _ _ _ _ _
        refine sd_set (K := K) (evd_qq (evd_var rfl dv) (evd_var rfl dx) (hs i p hp)) fun v2 H3 e3 d3 => ⟨v2, some x, rfl, e.trans e3, ?_⟩
        rw [sum_take_succ hp]; exact d3
      · rintro σ' H' ⟨v, x, rfl, e, dv⟩
        rw [hlen, List.length_map, List.take_length] at dv
        exact sd_ret (K := K) (evd_var rfl dv) fun v2 H3 e3 d3 => q v2 H3 ((e1.trans e).trans e3) d3
  | false =>
    have d0 : Dp K H v0 (.tuple (qs.map fr)) := d0
    refine ⟨_, (pss_cons (ps_set (i := 1) sc_total.nd rfl (.inl rfl) (pe_tup (pa_cons pe_int (pa_cons pe_int pa_nil)))) (pss_cons (ps_for PassesOwn.never rfl (pi_tup (pv 0)) (pg_name (i := 2) sc_total.nd rfl (Or.inl rfl)) (pss_one (ps_set (i := 1) sc_total.nd rfl (.inl rfl) (pe_kn (ok_added M) hr (pa_cons (pv 1) (pa_cons (pv 2) pa_nil)))))) (pss_one (ps_ret (pv 1))))), fun Q q => ?_⟩
    refine sd_set (K := K) (d := fr 0) (evd_tup (ead_cons evd_int (ead_cons evd_int ead_nil)) (by simp)) fun v1 H1 e1 d1 => ?_
    cases d0 with
    | tup hl ha =>
      rename_i l xs
      have hlen := dpa_len ha
      refine Evl.s_forT (K := K) (Evl.ev_var rfl) (ex_t e1 hl) (fun i σ' H' => ∃ v x, σ' = [some (.ref l), some v, x] ∧ Ex H1 H' ∧ Dp K H' v (fr (qs.take i).sum)) (fun H2 e2 => ⟨v1, none, rfl, e2, dp_ex e2 d1⟩) ?_ ?_ ?_
      · rintro i σ' H' _ ⟨v, x, rfl, e, _⟩
        exact ex_t (e1.trans e) hl
      · rintro i x σ' H' hx ⟨v, y, rfl, e, dv⟩
        obtain ⟨p, hp, dx⟩ := fr_item (dpa_ex (e1.trans e) ha) hx
        show tAsg _ _ _ _ _
        refine sd_set (K := K) (evd_qq (evd_var rfl dv) (evd_var rfl dx) (hs i p hp)) fun v2 H3 e3 d3 => ⟨v2, some x, rfl, e.trans e3, ?_⟩
        rw [sum_take_succ hp]; exact d3
      · rintro σ' H' ⟨v, x, rfl, e, dv⟩
        rw [hlen, List.length_map, List.take_length] at dv
        exact sd_ret (K := K) (evd_var rfl dv) fun v2 H3 e3 d3 => q v2 H3 ((e1.trans e).trans e3) d3

end
end My
namespace My
open PySem PySem.Spec PyProof.Rows L2
open Evl (Ex ex_l ex_t fresh_back)
section
variable {K : PySem.W.Frag} {σ : L2.St} {H : Hp}
theorem tupAll_map {α : Type} {enc : α → PyData} (h : ∀ a, tupOnly (enc a) = true) : ∀ xs : List α, tupAll (xs.map enc) = true
  | [] => rfl
  | x :: xs => by simp only [List.map_cons, tupAll, h, tupAll_map h xs, Bool.and_self]
theorem item_of {α : Type} {enc : α → PyData} {qs : List α} {xs : List V} {H : Hp} {i : Nat} {x : V} (ha : DpAll K H xs (qs.map enc)) (h : xs[i]? = some x) : ∃ q, qs[i]? = some q ∧ Dp K H x (enc q) := by
  obtain ⟨d, hd, dx⟩ := dpa_getV ha h
  rw [List.getElem?_map] at hd
  cases e : qs[i]? with
  | none => rw [e] at hd; cases hd
  | some q =>
    rw [e] at hd
    have := Option.some.inj hd
    subst this
    exact ⟨q, rfl, dx⟩
/-- the invariant of a comprehension: D holds what is made of the first i -/
def Lw {α : Type} (K : PySem.W.Frag) (H : Hp) (D : Addr) (xs : List α) (keep : α → Bool) (out : α → PyData) (i : Nat) (H' : Hp) : Prop :=
  Ex H H' ∧ ∃ acc, H' D = some (.lst acc) ∧ DpAll K H' acc (((xs.take i).filter keep).map out)
theorem lw_turn {α : Type} {xs : List α} {keep : α → Bool} {out : α → PyData} {D : Addr} {i : Nat} {H' : Hp} {a : α} {σ2 : L2.St} {tt : TT} {te : TE} (hD : H D = none) (hx : xs[i]? = some a) (hlen : xs.length ≤ 50000) (ho : ∀ a, tupOnly (out a) = true)
    (p : Lw K H D xs keep out i H') (ht : EvB tt σ2 H' (keep a)) (he : keep a = true → EvD K te σ2 H' (out a)) :
    tt σ2 H' fun b H3 => if b = true then te σ2 H3 fun y H4 => ∃ acc, H4 D = some (.lst acc) ∧ acc.length < sizeLine ∧ Lw K H D xs keep out (i + 1) (upd H4 D (.lst (acc ++ [y]))) else Lw K H D xs keep out (i + 1) H3 := by
  obtain ⟨e, acc, hA, dA⟩ := p
  have htk : xs.take (i + 1) = xs.take i ++ [a] := by rw [List.take_add_one, hx]; rfl
  refine ht H' (Ex.refl H') _ fun H3 e3 => ?_
  cases hk : keep a with
  | true =>
    rw [if_pos rfl]
    refine he hk H3 e3 _ fun y H4 e4 dy => ⟨acc, e4 _ _ (e3 _ _ hA), ?_, ?_, acc ++ [y], upd_same, ?_⟩
    · rw [dpa_len dA, List.length_map]
      have h1 := List.length_filter_le keep (xs.take i)
      have h2 : (xs.take i).length ≤ xs.length := by rw [List.length_take]; omega
      exact Evl.sz_lt (by omega)
    · exact Ex.mut ((e.trans e3).trans e4) hD
    · have et : Et H4 (upd H4 D (.lst (acc ++ [y]))) := Et.upd (e4 _ _ (e3 _ _ hA))
      rw [htk, List.filter_append, List.map_append]
      have hf : [a].filter keep = [a] := by simp [hk]
      rw [hf]
      exact dpa_app (dpa_et et (tupAll_map ho _) (dpa_ex (e3.trans e4) dA)) (.cons (dp_et et (ho a) dy) .nil)
  | false =>
    rw [if_neg Bool.false_ne_true]
    refine ⟨e.trans e3, acc, e3 _ _ hA, ?_⟩
    rw [htk, List.filter_append, List.map_append]
    have hf : [a].filter keep = [] := by simp [hk]
    rw [hf]
    simpa using dpa_ex e3 dA
/-- what a turn does -/
def LcTurn {α : Type} (K : PySem.W.Frag) (σ : L2.St) (H : Hp) (vs : List Nat) (enc : α → PyData) (keep : α → Bool) (out : α → PyData) (g : TG) (tt : TT) (te : TE) (a : α) : Prop :=
  ∀ x H2, Ex H H2 → Dp K H2 x (enc a) → ∃ σ2, wipe σ2 vs = wipe σ vs ∧ (∀ Q : L2.St → Hp → Prop, Q σ2 H2 → g x (wipe σ vs) H2 Q) ∧ EvB tt σ2 H2 (keep a) ∧ (keep a = true → EvD K te σ2 H2 (out a))
/-- evaluation to a new list -/
def EvLD (K : PySem.W.Frag) (te : TE) (σ : L2.St) (H : Hp) (ds : List PyData) : Prop := ∀ H1, Ex H H1 → ∀ Q : VK, (∀ p H2, H1 p = none → Ex H1 H2 → (∃ xs, H2 p = some (.lst xs) ∧ DpAll K H2 xs ds) → Q (.ref p) H2) → te σ H1 Q
theorem EvLD.evd {te : TE} {ds : List PyData} (h : EvLD K te σ H ds) : EvD K te σ H (.list ds) := fun H1 e Q q => h H1 e Q fun p H2 _ e2 ⟨xs, a, b⟩ => q _ H2 e2 (.lst (.inl (.inl a)) b)
theorem evl_lcT {α : Type} {xs : List α} {enc : α → PyData} {keep : α → Bool} {out : α → PyData} {t0 : TE} {g : TG} {tt : TT} {te : TE} {vs : List Nat} (h0 : EvD K t0 σ H (.tuple (xs.map enc))) (hlen : xs.length ≤ 50000) (ho : ∀ a, tupOnly (out a) = true)
    (step : ∀ a ∈ xs, LcTurn K σ H vs enc keep out g tt te a) : EvLD K (tLc (iTup K t0) g tt te vs) σ H ((xs.filter keep).map out) := fun H1 e Q q =>
  h0 H1 e _ fun v H2 e2 dv => by
    cases dv with
    | tup hs ha =>
      rename_i a vs'
      have hl := dpa_len ha
      rw [List.length_map] at hl
      refine ⟨a, rfl, ⟨_, hs⟩, fun D hD => lc_tup (K := K) (xs := vs') (Lw K H2 D xs keep out) ⟨Ex.new hD, [], upd_same, .nil⟩ (fun i H' _ p => ex_t p.1 hs) ?_ ?_⟩
      · intro i x H' hx p
        obtain ⟨b, hb, dx⟩ := item_of (dpa_ex p.1 ha) hx
        obtain ⟨σ2, w, hg, ht, he⟩ := step b (List.mem_of_getElem? hb) x H' ((e.trans e2).trans p.1) dx
        exact hg _ ⟨w, lw_turn hD hb hlen ho p ht he⟩
      · intro H' p
        obtain ⟨e3, acc, hA, dA⟩ := p
        rw [hl, List.take_length] at dA
        exact q _ H' (fresh_back e2 hD) (e2.trans e3) ⟨acc, hA, dA⟩
theorem evd_lcT {α : Type} {xs : List α} {enc : α → PyData} {keep : α → Bool} {out : α → PyData} {t0 : TE} {g : TG} {tt : TT} {te : TE} {vs : List Nat} (h0 : EvD K t0 σ H (.tuple (xs.map enc))) (hlen : xs.length ≤ 50000) (ho : ∀ a, tupOnly (out a) = true)
    (step : ∀ a ∈ xs, LcTurn K σ H vs enc keep out g tt te a) : EvD K (tLc (iTup K t0) g tt te vs) σ H (.list ((xs.filter keep).map out)) := (evl_lcT h0 hlen ho step).evd
theorem evd_lcL {α : Type} {xs : List α} {enc : α → PyData} {keep : α → Bool} {out : α → PyData} {t0 : TE} {g : TG} {tt : TT} {te : TE} {vs : List Nat} (h0 : EvD K t0 σ H (.list (xs.map enc))) (hlen : xs.length ≤ 50000) (ho : ∀ a, tupOnly (out a) = true)
    (step : ∀ a ∈ xs, LcTurn K σ H vs enc keep out g tt te a) : EvD K (tLc (iList K t0) g tt te vs) σ H (.list ((xs.filter keep).map out)) := fun H1 e Q q =>
  h0 H1 e _ fun v H2 e2 dv => by
    cases dv with
    | lst hs ha =>
      rename_i a vs'
      have hl := dpa_len ha
      rw [List.length_map] at hl
      refine ⟨a, rfl, ⟨_, hs⟩, fun D hD => lc_list (K := K) (xs := vs') (Lw K H2 D xs keep out) ⟨Ex.new hD, [], upd_same, .nil⟩ (fun i H' _ p => ex_l p.1 hs) ?_ ?_⟩
      · intro i x H' hx p
        obtain ⟨b, hb, dx⟩ := item_of (dpa_ex p.1 ha) hx
        obtain ⟨σ2, w, hg, ht, he⟩ := step b (List.mem_of_getElem? hb) x H' ((e.trans e2).trans p.1) dx
        exact hg _ ⟨w, lw_turn hD hb hlen ho p ht he⟩
      · intro H' p
        obtain ⟨e3, acc, hA, dA⟩ := p
        rw [hl, List.take_length] at dA
        exact q _ H' (e2.trans e3) (.lst (.inl (.inl hA)) dA)
theorem evb_yes : EvB tYes σ H true := fun H1 _ Q q => q H1 (Ex.refl H1)
/-- a turn whose target is one name -/
theorem turn_name {α : Type} {enc : α → PyData} {keep : α → Bool} {out : α → PyData} {tt : TT} {te : TE} {a : α} {vs : List Nat} {j : Nat} (hw : ∀ x, wipe ((wipe σ vs).set j (some x)) vs = wipe σ vs)
    (h : ∀ x H2, Ex H H2 → Dp K H2 x (enc a) → EvB tt ((wipe σ vs).set j (some x)) H2 (keep a) ∧ (keep a = true → EvD K te ((wipe σ vs).set j (some x)) H2 (out a))) : LcTurn K σ H vs enc keep out (gName j) tt te a := fun x H2 e dx =>
  ⟨_, hw x, fun Q q => q, h x H2 e dx⟩
/-- a turn whose target is a pair of names -/
theorem turn_pair {α : Type} {enc : α → PyData} {keep : α → Bool} {out : α → PyData} {tt : TT} {te : TE} {a : α} {vs : List Nat} {j k : Nat} {d1 d2 : PyData} (he : enc a = .tuple [d1, d2]) (hw : ∀ x y, wipe (((wipe σ vs).set j (some x)).set k (some y)) vs = wipe σ vs)
    (h : ∀ x y H2, Ex H H2 → Dp K H2 x d1 → Dp K H2 y d2 → EvB tt (((wipe σ vs).set j (some x)).set k (some y)) H2 (keep a) ∧ (keep a = true → EvD K te (((wipe σ vs).set j (some x)).set k (some y)) H2 (out a))) : LcTurn K σ H vs enc keep out (gTup K 2 (gCons (gName j) (gCons (gName k) gNil))) tt te a := fun x H2 e dx => by
  rw [he] at dx
  cases dx with
  | tup hs ha =>
    obtain ⟨u, w, rfl, hu, hw'⟩ := dpa_two ha
    exact ⟨_, hw u w, fun Q q => ⟨_, _, rfl, hs, rfl, u, [w], rfl, w, [], rfl, rfl, q⟩, h u w H2 e hu hw'⟩
theorem filter_true {α : Type} (xs : List α) : xs.filter (fun _ => true) = xs := List.filter_eq_self.mpr (fun _ _ => rfl)
def LS (K : PySem.W.Frag) (H : Hp) (l : Addr) (ds : List PyData) : Prop := ∃ xs, H l = some (.lst xs) ∧ DpAll K H xs ds
theorem LS.ex {H H' : Hp} {l : Addr} {ds : List PyData} (e : Ex H H') (h : LS K H l ds) : LS K H' l ds := let ⟨xs, a, b⟩ := h; ⟨xs, e _ _ a, dpa_ex e b⟩
theorem LS.dp {H : Hp} {l : Addr} {ds : List PyData} (h : LS K H l ds) : Dp K H (.ref l) (.list ds) := let ⟨xs, a, b⟩ := h; .lst (.inl (.inl a)) b
/-- all but l stays -/
def Em (l : Addr) (H H' : Hp) : Prop := ∀ b o, b ≠ l → H b = some o → H' b = some o
theorem Em.of {l : Addr} {H H' : Hp} (e : Ex H H') : Em l H H' := fun b o _ h => e b o h
theorem Em.trans {l : Addr} {H H1 H2 : Hp} (a : Em l H H1) (b : Em l H1 H2) : Em l H H2 := fun x o n h => b x o n (a x o n h)
theorem Em.ex {l : Addr} {H0 H H' : Hp} (e : Ex H0 H) (hl : H0 l = none) (m : Em l H H') : Ex H0 H' := fun b o h => m b o (ne_of_none h hl) (e b o h)
theorem Em.upd {l : Addr} {H : Hp} {o : HO} : Em l H (upd H l o) := fun b u n h => by rw [upd_ne n]; exact h
variable {D : Ends} {ta te : TE} {d : PyData} {ds : List PyData}
theorem sd_newL {i : Nat} {tr : TA} (h : EvAs K tr σ H ds) (hl : ds.length ≤ 100000) (k : ∀ p H1, H p = none → Ex H H1 → LS K H1 p ds → D.nx (σ.set i (some (.ref p))) H1) : tAsg (tLst tr) (gName i) D σ H :=
  h H (Ex.refl H) _ fun vs H1 e dv => ⟨by rw [dpa_len dv]; exact Evl.sz_of hl, fun p hp => k p _ (fresh_back e hp) (e.trans (Ex.new hp)) ⟨vs, upd_same, dpa_ex (Ex.new hp) dv⟩⟩
theorem ls_app {l : Addr} {H1 : Hp} {xs : List V} {v : V} (hA : H1 l = some (.lst xs)) (dA : DpAll K H1 xs ds) (td : tupAll ds = true) (tv : tupOnly d = true) (dv : Dp K H1 v d) : LS K (upd H1 l (.lst (xs ++ [v]))) l (ds ++ [d]) :=
  ⟨_, upd_same, dpa_app (dpa_et (Et.upd hA) td dA) (.cons (dp_et (Et.upd hA) tv dv) .nil)⟩
theorem sd_app {l : Addr} {i : Nat} (hl : LS K H l ds) (hi : σ[i]? = some (some (.ref l))) (h : EvD K te σ H d) (td : tupAll ds = true) (tv : tupOnly d = true) (hz : ds.length ≤ 90000) (k : ∀ H1, Em l H H1 → LS K H1 l (ds ++ [d]) → D.nx σ H1) :
    tDrop (tBM K "list" rAppend (tVar i) (tCons te tNil)) D σ H := by
  obtain ⟨xs, hA, dA⟩ := hl
  refine ⟨.ref l, hi, .inl ⟨rfl, _, .inl (.inl hA)⟩, ?_⟩
  refine h H (Ex.refl H) _ fun v H1 e dv => ⟨l, xs, v, rfl, rfl, e _ _ hA, Evl.sz_lt (by rw [dpa_len dA]; omega), ?_⟩
  exact k _ ((Em.of e).trans Em.upd) (ls_app (e _ _ hA) (dpa_ex e dA) td tv dv)
theorem sd_asgL {i : Nat} (h : EvLD K te σ H ds) (k : ∀ p H1, H p = none → Ex H H1 → LS K H1 p ds → D.nx (σ.set i (some (.ref p))) H1) : tAsg te (gName i) D σ H := h H (Ex.refl H) _ k
theorem sd_extend {l : Addr} {i : Nat} {es : List PyData} (hl : LS K H l ds) (hi : σ[i]? = some (some (.ref l))) (h : EvLD K te σ H es) (td : tupAll ds = true) (te' : tupAll es = true) (hz : ds.length + es.length ≤ 90000) (k : ∀ H1, Em l H H1 → LS K H1 l (ds ++ es) → D.nx σ H1) :
    tDrop (tBM K "list" rExtend (tVar i) (tCons te tNil)) D σ H := by
  obtain ⟨xs, hA, dA⟩ := hl
  refine ⟨.ref l, hi, .inl ⟨rfl, _, .inl (.inl hA)⟩, ?_⟩
  refine h H (Ex.refl H) _ fun b H1 hb e ⟨zs, hB, dB⟩ => ⟨l, b, xs, zs, rfl, rfl, e _ _ hA, hB, Evl.sz_of (by rw [dpa_len dA, dpa_len dB]; omega), ?_⟩
  refine k _ ((Em.of e).trans Em.upd) ⟨_, upd_same, ?_⟩
  exact dpa_app (dpa_et (Et.upd (e _ _ hA)) td (dpa_ex e dA)) (dpa_et (Et.upd (e _ _ hA)) te' dB)
/-- xs.insert(n, e) -/
theorem sd_insert {l : Addr} {i : Nat} {n : Nat} {tr : TA} (hl : LS K H l ds) (hi : σ[i]? = some (some (.ref l))) (h : EvAs K tr σ H [.int (n : Nat), d]) (td : tupAll ds = true) (tv : tupOnly d = true) (hz : ds.length ≤ 90000) (hn : n ≤ 90000) (k : ∀ H1, Em l H H1 → LS K H1 l (ds.take n ++ [d] ++ ds.drop n) → D.nx σ H1) :
    tDrop (tBM K "list" (fun x vs H Q => ∃ (l : Addr) (xs : List V) (i : Int) (y : V), x = .ref l ∧ vs = [.int i, y] ∧ H l = some (.lst xs) ∧ xs.length < sizeLine ∧ 0 ≤ i ∧ i < 2 ^ 63 ∧
    Q .non (upd H l (.lst (xs.take i.toNat ++ [y] ++ xs.drop i.toNat)))) (tVar i) tr) D σ H := by
  obtain ⟨xs, hA, dA⟩ := hl
  refine ⟨.ref l, hi, .inl ⟨rfl, _, .inl (.inl hA)⟩, ?_⟩
  refine h H (Ex.refl H) _ fun vs H1 e dv => ?_
  obtain ⟨a, b, rfl, h1, h2⟩ := dpa_two dv
  cases h1
  refine ⟨l, xs, (n : Int), b, rfl, rfl, e _ _ hA, Evl.sz_lt (by rw [dpa_len dA]; omega), by omega, by omega, ?_⟩
  refine k _ ((Em.of e).trans Em.upd) ⟨_, upd_same, ?_⟩
  rw [Int.toNat_natCast]
  have et := Et.upd (o := .lst (xs.take n ++ [b] ++ xs.drop n)) (e _ _ hA)
  have d0 := dpa_et et td (dpa_ex e dA)
  exact dpa_app (dpa_app (dpa_takeN n d0) (.cons (dp_et et tv h2) .nil)) (dpa_dropN n d0)
/-- a, b = e -/
theorem sd_unp2 {i j : Nat} {d1 d2 : PyData} (h : EvD K te σ H (.tuple [d1, d2])) (k : ∀ v w H1, Ex H H1 → Dp K H1 v d1 → Dp K H1 w d2 → D.nx ((σ.set i (some v)).set j (some w)) H1) :
    tAsg te (gTup K 2 (gCons (gName i) (gCons (gName j) gNil))) D σ H := h H (Ex.refl H) _ fun v H1 e dv => by
  cases dv with
  | tup hs ha =>
    obtain ⟨u, w, rfl, hu, hw⟩ := dpa_two ha
    exact ⟨_, _, rfl, hs, rfl, u, [w], rfl, w, [], rfl, rfl, k u w H1 e hu hw⟩
theorem rd_notInD {ds : List PyData} (sx : SeqAt.shaped d = true) (sy : SeqAt.shaped (.list ds) = true) : RD K (rNotInD K) d (.list ds) (.bool (!ds.any fun z => PyData.eqv z d)) := fun u w H hu hw Q q => ⟨d, ds, hu, hw, sx, sy, q _ H (Ex.refl H) (.bl _)⟩
end
end My
namespace My
open PySem PySem.Spec PyProof.Rows L2
open Evl (Ex ex_l ex_t fresh_back)
theorem meets_enumT {v : Value} {o : Obj} {H : Heap → Prop} (B : Begins v o H) :
    Meets (Builtin.«enumerate.__new__» ⟨[.type "enumerate", v], []⟩) (fun _ R s => H s.heap ∧
      R (.ok (.ret (.ref (s.heap.push o).objs.size))) { s with heap := (s.heap.push o).push { cls := .type "enumerate", data := .fields #[.none, .bool false, .ref s.heap.objs.size, rawInt 0, .none, .none] } }) :=
  .of_wp fun prog w A R s h => by
    obtain ⟨hp, g, d, tk, os⟩ := s; obtain ⟨h1, h⟩ := h
    have hsub := sub_enumerate
    have q1 : ∀ {A' : Around} {E : Value → Shared → Prop} {Q : Value → Shared → Prop}, Q (.ref hp.objs.size) ⟨hp.push o, g, d, tk, os⟩ → wpAny (model prog w) A' (pyIter v) Q E ⟨hp, g, d, tk, os⟩ :=
      fun q => B.iter prog w _ _ ⟨hp, g, d, tk, os⟩ _ h1 q
    wp_walk using q1
    refine wpAny_stack_any fun st => wpAny_pure ?_
    split
    · rename_i c _ _ _ _ _
      cases (c == Value.type "enumerate")
      · wp_walk using q1
        exact ⟨_, rfl, h⟩
      · wp_walk using q1
        exact ⟨_, rfl, h⟩
    · wp_walk using q1
      exact ⟨_, rfl, h⟩
theorem call_enumT {prog : Program} {w : World} {A : Around} {E : Value → Shared → Prop} {s : Shared} {v : Value} {o : Obj} {H : Heap → Prop} {Q : Value → Shared → Prop} (B : Begins v o H) (h1 : H s.heap)
    (h : ∀ h', IsEnum h' (s.heap.objs.size + 1) s.heap.objs.size 0 .none → h'.get? s.heap.objs.size = some o → h'.objs.size = s.heap.objs.size + 2 →
      (∀ b o, s.heap.get? b = some o → h'.get? b = some o) → Q (.ref (s.heap.objs.size + 1)) { s with heap := h' }) :
    wpAny (model prog w) A (call (.type "enumerate") [v]) Q E s := by
  refine callType_new F.called_enumerate (by decide) (F.typeCall_enumerate_1 _) (F.newCall_enumerate_1 _) (fun obj => F.args_object_init_2 obj _) F.entry_enumerate_new
    (meets_enumT B) ⟨h1, ?_⟩
  have hz : (s.heap.push o).objs.size = s.heap.objs.size + 1 := Heap.size_push ..
  show _ ∧ _
  rw [hz]
  have he : IsEnum ((s.heap.push o).push { cls := .type "enumerate", data := .fields #[.none, .bool false, .ref s.heap.objs.size, rawInt 0, .none, .none] }) (s.heap.objs.size + 1) s.heap.objs.size 0 .none := by
    have := Heap.get?_push_size (s.heap.push o) (o := { cls := .type "enumerate", data := .fields #[.none, .bool false, .ref s.heap.objs.size, rawInt 0, .none, .none] }) rfl
    rw [hz] at this; exact this
  refine ⟨⟨_, he, rfl⟩, h _ he (Heap.get?_push_of_some _ (Heap.get?_push_size _ B.free)) (by rw [Heap.size_push, hz]) fun b o x => Heap.get?_push_of_some _ (Heap.get?_push_of_some _ x)⟩
/-- the tuple at a, each item in a new pair -/
def Itf (K : PySem.W.Frag) (a : Addr) : It :=
  ⟨fun i H => ∃ (xs : List V) (x : V), SqT K H a xs ∧ xs[i]? = some x, fun i H v H' => ∃ T x, v = .ref T ∧ H T = none ∧ H' = upd H T (.tup [.int (i : Nat), x]) ∧ ∀ xs, SqT K H a xs → xs[i]? = some x, fun i H => ∃ xs : List V, SqT K H a xs ∧ xs.length ≤ i⟩
theorem turn_enumT {P : Program} {w : World} {K : PySem.W.Frag} {elts : List Expr} {kk : Nat} {tpos : Pos} (a e it : Addr) :
    Turn P w K (.Tuple elts kk tpos) (Itf K a) [e, it] e (fun i h => (∃ old, IsEnum h e it ((i : Nat) : Int) old) ∧ h.IsTupleIter it a i ∧ e ≠ it ∧ a ≠ it ∧ e ≠ a) where
  mem := by simp
  obj := fun i h st b hb => by
    obtain ⟨⟨old, he⟩, ⟨o, ho, hc, hd⟩, _⟩ := st
    have e' : b = e ∨ b = it := by simpa using hb
    rcases e' with z | z
    · rw [z]; exact ⟨_, he, fun v q => nomatch q⟩
    · rw [z]; exact ⟨o, ho, fun v q => by rw [hd] at q; cases q⟩
  keep := fun i h h' st k => let ⟨⟨old, he⟩, hi, hne⟩ := st; ⟨⟨old, k e (by simp) _ he⟩, hi.at fun o q => k it (by simp) o q, hne⟩
  item := by
    intro X hP hw hK hc i pins s σ H E I hf st hg
    subst hP hw hK
    obtain ⟨⟨old, he⟩, hit, hne, hai, hea⟩ := st
    obtain ⟨xs, x, hq, hx⟩ := hg
    obtain ⟨its, rv, p, hz⟩ := I.tuple hq
    obtain ⟨u, hu, ru⟩ := rv.get hx
    have hel : e < s.heap.objs.size := Heap.lt_size he
    have hil : it < s.heap.objs.size := by obtain ⟨_, q, _⟩ := hit; exact Heap.lt_size q
    have hilt : i < its.toArray.size := by
      rw [List.size_toArray]
      exact (List.getElem?_eq_some_iff.mp hu).1
    refine wpAny_pyNext_enum_itemD (Draws.tuple (A := X.A.in1) (I.ok.hd hc) it a hai its.toArray) he ⟨hit, p⟩ hilt hne (by simp [hne, hea]) fun u' h' tk hP ho st' hT hsz hk => ?_
    have hu' : u' = u := by
      have hP' : its.toArray[i]? = some u' := hP
      have : its[i]? = some u' := by simpa using hP'
      rw [hu] at this
      exact (Option.some.inj this).symm
    subst hu'
    refine ⟨_, rfl, wpAny_letOwnedTupleGo_enum (s := { s with heap := h', toks := tk + 1 }) ho fun h'' he' sb => ?_⟩
    have hT2 : h''.get? s.heap.objs.size = some { cls := .type "tuple", data := .seq #[.int i tk, u'] } := (sb.2 _ (Nat.ne_of_gt hel)).trans hT
    have new : ObjOk X.prog X.w (upd H s.heap.objs.size (.tup [.int (i : Nat), x])) h'' s.heap.objs.size (.tup [.int (i : Nat), x]) :=
      ⟨by show 2 ≤ sizeLine; decide, [.int i tk, u'], .cons ⟨_, rfl⟩ (.cons ru .nil), ⟨_, hT2, rfl, _, rfl⟩⟩
    have I1 : Inv X pins σ (upd H s.heap.objs.size (.tup [.int (i : Nat), x])) { s with heap := h'', toks := tk + 1 } :=
      I.turnedNew (ch := [e, it]) (fun b ob hb q => (sb.2 b (fun z => hb (by simp [z]))).trans (hk b ob (fun z => hb (by simp [z])) (fun z => hb (by simp [z])) q)) hf (Nat.le_refl _) new
    refine ⟨.ref s.heap.objs.size, _, I1, rfl, ⟨_, x, rfl, I.hok.fresh (Nat.le_refl _), rfl, fun ys hy => by rw [I.tuple_inj hy hq]; exact hx⟩, ⟨⟨u', ?_⟩, st'.1.at fun o q => (sb.2 it (Ne.symm hne)).trans q, hne, hai, hea⟩, fun b hb => ?_⟩
    · have e1 : ((i + 1 : Nat) : Int) = (i : Int) + 1 := by omega
      rw [e1]; exact he'
    · have hb' : b < s.heap.objs.size := by
        have e' : b = e ∨ b = it := by simpa using hb
        rcases e' with z | z
        · rw [z]; exact hel
        · rw [z]; exact hil
      rw [upd_ne (Nat.ne_of_lt hb')]
      exact (hf b hb).1
  done := by
    intro X hP hw hK hc i pins s σ H E I hf st hg
    subst hP hw hK
    obtain ⟨⟨old, he⟩, hit, hne, hai, hea⟩ := st
    obtain ⟨xs, hq, hx⟩ := hg
    obtain ⟨its, rv, p, hz⟩ := I.tuple hq
    obtain ⟨f0, f1, f2, f3, f4, f5⟩ := hf it (by simp)
    have hl := rv.length
    -- the iterator stands behind the end
    exact wpAny_pyNext_enum_endD (n := i) (P := fun j v => j < i ∧ its.toArray[j]? = some v) (St := fun j h => h.IsTupleIter it a j ∧ h.IsTuple a its.toArray ∧ its.toArray.size ≤ i ∧ j = i)
      { live := fun _ _ st => let ⟨o, ho, _⟩ := st.1; ⟨o, ho⟩
        frame := fun _ _ _ st hk => ⟨st.1.at fun o e => hk it (show it ∈ [it, a] by simp) o e, st.2.1.at fun o e => hk a (show a ∈ [it, a] by simp) o e, st.2.2⟩
        item := fun j s Q E hj st hQ => absurd (show j < j by have := st.2.2.2; omega) (Nat.lt_irrefl _)
        done := fun s Q E st hE => wpAny_nextOf_tuple_end (I.ok.hd hc) st.1 st.2.1 (by have := st.2.2.1; simp; simp at this; omega) hE } he ⟨hit, p, by rw [List.size_toArray]; omega, rfl⟩ fun h' eb => ⟨rfl, I.turned (t' := s.toks) (fun b o hb q => eb b o hb q) f0 f1 f3 f4 f5⟩
  self := fun A i s Q E st h => let ⟨⟨_, he⟩, _⟩ := st; wpAny_pyIter_enum he h
def iEnumT (K : PySem.W.Frag) (ta : TA) : TI := fun σ H R => ta σ H fun vs H1 => ∃ a xs, vs = [.ref a] ∧ SqT K H1 a xs ∧ R (Itf K a) H1
theorem pi_enumT {X : Cx} {e : Expr} {ta : TA} {p pos tpos : Pos} {elts : List Expr} {kk : Nat} (hg : Gl X "enumerate") (hm : X.mg "enumerate" = none) (ha : PA X [e] ta) (hs : starEach [e] X.env = [(false, eval e X.env)] := by rfl) :
    PI X (.Tuple elts kk tpos) (.Call (.Name "enumerate" p) [e] [] pos) (iEnumT X.K ta) := by
  refine ⟨fun pins s σ H R I h => ?_⟩
  refine Call_ (ld_blt I hg hm boot_enumerate (PyProof.Rows.callWith_type1 (thn (ha.run pos pins s σ H _ I h) fun us s1 ⟨vs, H1, I1, r1, q1⟩ => ?_) hs rfl))
  obtain ⟨a, xs, ex, hq, q⟩ := q1
  subst ex
  cases r1 with
  | cons r rr =>
    cases rr
    cases r
    obtain ⟨its, rv, p', hz⟩ := I1.tuple hq
    have hal : a < s1.heap.objs.size := by
      obtain ⟨o, ho, _⟩ := p'
      exact Heap.lt_size ho
    refine call_enumT (begins_tuple a its.toArray) p' fun h' he hit hsz hk => wpAny_pyIter_enum he ?_
    have I2 : Inv X pins σ H1 { s1 with heap := h' } := I1.kept (t' := s1.toks) hk
    refine ⟨s1.heap.objs.size + 1, [s1.heap.objs.size + 1, s1.heap.objs.size], _, _, H1, rfl, I2, turn_enumT a (s1.heap.objs.size + 1) s1.heap.objs.size, ⟨⟨.none, he⟩, ⟨_, hit, rfl, rfl⟩, Nat.succ_ne_self _, Nat.ne_of_lt hal, Nat.ne_of_gt (Nat.lt_succ_of_lt hal)⟩, fun b hb => ?_, q⟩
    have e' : b = s1.heap.objs.size + 1 ∨ b = s1.heap.objs.size := by simpa using hb
    have hle : s1.heap.objs.size ≤ b := by
      rcases e' with z | z
      · rw [z]; exact Nat.le_add_right _ _
      · rw [z]; exact Nat.le_refl _
    exact I1.fpOk hle (I1.hok.fresh hle)
end My
namespace My
open PySem PySem.Spec PyProof.Rows L2
open Evl (Ex ex_l ex_t fresh_back)
theorem eqv_int (a b : Int) : PyData.eqv (.int a) (.int b) = decide (a = b) := by
  simp only [PyData.eqv]
  by_cases h : a = b <;> simp [h]
theorem shaped_int (a : Int) : SeqAt.shaped (.int a) = true := by
  simp [SeqAt.shaped, PyData.canLay0, PyData.depth]
theorem shaped_fr (q : Rat) : SeqAt.shaped (fr q) = true := by
  simp [SeqAt.shaped, PyData.canLay0, PyData.canLayAll0, PyData.depth, PyData.depthAll]
theorem eqv_fr (a b : Rat) : PyData.eqv (fr a) (fr b) = decide (a = b) := by
  simp only [PyData.eqv, PyData.eqvAll, Bool.and_true]
  by_cases h : a = b
  · subst h; simp
  · simp only [h, decide_false, Bool.and_eq_false_imp, beq_eq_false_iff_ne, beq_iff_eq]
    intro h1 h2
    exact h (Rat.ext h1 (by omega))
abbrev pt (p : Pt) : PyData := .tuple [fr p.1, fr p.2]
abbrev cvD (c : Cv) : PyData := .tuple [.tuple (c.cs.map pt), fr c.sl]
theorem to_pt (p : Pt) : tupOnly (pt p) = true := rfl
section
variable {P : Program} {w : World} {K : PySem.W.Frag} {mg : Str → Option Value} {base : Heap}
theorem evd_p1 {te : TE} {σ : L2.St} {H : Hp} {a : Pt} (h : EvD K te σ H (pt a)) : EvD K (tOp (rIxT K) te (tC (.int 0))) σ H (fr a.1) := evd_op h evd_int (rd_ixT (i := 0) rfl)
theorem evd_p2 {te : TE} {σ : L2.St} {H : Hp} {a : Pt} (h : EvD K te σ H (pt a)) : EvD K (tOp (rIxT K) te (tC (.int 1))) σ H (fr a.2) := evd_op h evd_int (rd_ixT (i := 1) rfl)
theorem evd_cs {te : TE} {σ : L2.St} {H : Hp} {c : Cv} (h : EvD K te σ H (cvD c)) : EvD K (tOp (rIxT K) te (tC (.int 0))) σ H (.tuple (c.cs.map pt)) := evd_op h evd_int (rd_ixT (i := 0) rfl)
theorem evd_sl {te : TE} {σ : L2.St} {H : Hp} {c : Cv} (h : EvD K te σ H (cvD c)) : EvD K (tOp (rIxT K) te (tC (.int 1))) σ H (fr c.sl) := evd_op h evd_int (rd_ixT (i := 1) rfl)
def preSb (a b : Pt) : Prop := a.1 ≠ b.1 ∧ ∃ n, PtSz n a ∧ PtSz n b ∧ 4 * n + 2 ≤ 100000000
abbrev spSb (K : PySem.W.Frag) : Sp := SpOf K (α := Pt × Pt) (fun a => [pt a.1, pt a.2]) (fun a => preSb a.1 a.2) (fun a => fr (sb a.1 a.2))
theorem ok_slope_between (M : Md P K mg base) : Kn P w K mg base CX0 "slope_between" ["one", "other"] 35 (spSb K) := by
  refine kn_mk M.d_slope_between fun f fd F => okD F sc_slope_between (fun _ => rfl) fun a cdv A outer s H vs E hr dv hs => ?_
  obtain ⟨a, b⟩ := a
  obtain ⟨v0, v1, rfl, d0, d1⟩ := dpa_two dv
  refine ⟨_, (pss_one (ps_ret (pe_kn (ok_over M) hr (pa_cons (pe_kn (ok_lessened M) hr (pa_cons (pe_ix ix_tup (pv 1) pe_int (fun _ _ => rfl)) (pa_cons (pe_ix ix_tup (pv 0) pe_int (fun _ _ => rfl)) pa_nil))) (pa_cons (pe_kn (ok_lessened M) hr (pa_cons (pe_ix ix_tup (pv 1) pe_int (fun _ _ => rfl)) (pa_cons (pe_ix ix_tup (pv 0) pe_int (fun _ _ => rfl)) pa_nil))) pa_nil))))), fun Q q => ?_⟩
  obtain ⟨hne, n, ⟨ha1, ha2⟩, ⟨hb1, hb2⟩, hn⟩ := hs
  have z1 := sz_sub b.2 a.2
  have z2 := sz_sub b.1 a.1
  refine sd_ret (K := K) ?_ fun v H1 e1 dv => q v H1 e1 dv
  refine evd_qq (evd_qq (evd_p2 (evd_var rfl d1)) (evd_p2 (evd_var rfl d0)) ?_) (evd_qq (evd_p1 (evd_var rfl d1)) (evd_p1 (evd_var rfl d0)) ?_) ⟨?_, ?_⟩
  · show sz _ + sz _ ≤ _; simp only at *; omega
  · show sz _ + sz _ ≤ _; simp only at *; omega
  · show sz _ + sz _ ≤ _; simp only at *; omega
  · intro z
    apply hne
    show a.1 = b.1
    have z : b.1 - a.1 = 0 := z
    grind
theorem evd_sb {te tf : TE} {σ : L2.St} {H : Hp} {a b : Pt} (ha : EvD K te σ H (pt a)) (hb : EvD K tf σ H (pt b)) (h : preSb a b) {E : XK} : EvD K (tCall (spSb K) [] E (tCons te (tCons tf tNil))) σ H (fr (sb a b)) :=
  evd_call (ead_cons ha (ead_cons hb ead_nil)) (spd_of (a, b) h)
theorem eva_ints {ta : TA} {σ : L2.St} {H : Hp} {i j : Int} (h : EvAs K ta σ H [.int i, .int j]) : Evl.EvA ta σ H [.int i, .int j] := fun H1 e Q q => h H1 e _ fun vs H2 e2 dv => by
  obtain ⟨v, w, rfl, h1, h2⟩ := dpa_two dv
  cases h1; cases h2
  exact q H2 e2
def preCurve (cs : List Pt) : Prop := cs ≠ [] ∧ Asc cs ∧ cs.length ≤ 50000 ∧ ∃ n, (∀ p ∈ cs, PtSz n p) ∧ 4 * n + 2 ≤ 100000000
abbrev spCurve (K : PySem.W.Frag) : Sp := SpOf K (α := List Pt × Rat) (fun a => [.list (a.1.map pt), fr a.2]) (fun a => preCurve a.1) (fun a => cvD (mkCv a.1 a.2))
theorem asc_ne {cs : List Pt} (h : Asc cs) {i j : Nat} {a b : Pt} (ha : cs[i]? = some a) (hb : cs[j]? = some b) (hij : i < j) : a.1 ≠ b.1 := by
  obtain ⟨hi, ea⟩ := List.getElem?_eq_some_iff.mp ha
  obtain ⟨hj, eb⟩ := List.getElem?_eq_some_iff.mp hb
  have := List.pairwise_iff_getElem.mp h i j hi hj hij
  rw [ea, eb] at this
  grind
theorem ok_curve (M : Md P K mg base) : Kn P w K mg base CX0 "curve" ["corners", "slope"] 36 (spCurve K) := by
  refine kn_mk M.d_curve fun f fd F => okD F sc_curve (fun _ => rfl) fun a cdv A outer s H vs E hr dv hs => ?_
  obtain ⟨cs, sl⟩ := a
  obtain ⟨v0, v1, rfl, d0, d1⟩ := dpa_two dv
  refine ⟨_, (pss_cons (ps_set (i := 2) sc_curve.nd rfl (.inl rfl) (pe_lst (pa_cons (pe_ix ix_list (pv 0) pe_int (fun _ _ => rfl)) pa_nil))) (pss_cons (ps_for PassesOwn.never rfl (pi_range2 (by rfl) M.n_range (pa_cons pe_int (pa_cons (pe_callB call_len_seq (by rfl) M.n_len PySem.boot_len (pa_cons (pv 0) pa_nil)) pa_nil))) (pg_name (i := 3) sc_curve.nd rfl (Or.inl rfl)) (pss_cons (ps_set (i := 4) sc_curve.nd rfl (.inl rfl) (pe_ix ix_list (pv 0) (pv 3) (fun _ _ => rfl))) (pss_cons (ps_set (i := 5) sc_curve.nd rfl (.inl rfl) (pe_ifExp (pt_cmpR (op_eqD hr.units) (pe_op op_add (pv 3) pe_int) (pe_callB call_len_seq (by rfl) M.n_len PySem.boot_len (pa_cons (pv 0) pa_nil)) (nomark _)) (pv 1) (pe_kn (ok_slope_between M) hr (pa_cons (pv 4) (pa_cons (pe_ix ix_list (pv 0) (pe_op op_add (pv 3) pe_int) (fun _ _ => rfl)) pa_nil))))) (pss_one (ps_if (pt_cmpR (op_neD hr.units) (pe_kn (ok_slope_between M) hr (pa_cons (pe_ix ix_list (pv 2) (pe_un un_neg pe_int) (fun _ _ => rfl)) (pa_cons (pv 4) pa_nil))) (pv 5) (nomark _)) (pss_one (ps_expr (pe_bm PySem.F.plainAttrs_list PySem.F.slot_list_append PySem.F.type_list_append mt_append (pv 2) (pa_cons (pv 4) pa_nil)))) pss_nil))))) (pss_one (ps_ret (pe_tup (pa_cons (pe_callTy call_tuple_of (by rfl) M.n_tuple (by decide +kernel) (pa_cons (pv 2) pa_nil)) (pa_cons (pv 1) pa_nil))))))), fun Q q => ?_⟩
  obtain ⟨hne, hasc, hlen, n, hsz, hn⟩ := hs
  simp only at hne hasc hlen hsz
  have hsb : ∀ {i j : Nat} {a b : Pt}, cs[i]? = some a → cs[j]? = some b → i < j → preSb a b := fun ha hb hij => ⟨asc_ne hasc ha hb hij, n, hsz _ (List.mem_of_getElem? ha), hsz _ (List.mem_of_getElem? hb), hn⟩
  obtain ⟨c0, rest, rfl⟩ : ∃ c0 rest, cs = c0 :: rest := by
    cases cs with
    | nil => exact absurd rfl hne
    | cons a b => exact ⟨a, b, rfl⟩
  -- kept = [corners[0]]
  refine sd_newL (ds := [pt c0]) (ead_cons (evd_op (evd_var rfl d0) evd_int (rd_ixL (i := 0) rfl)) ead_nil) (by simp) fun l H1 hl0 e1 sl1 => ?_
  dsimp only
  have hlen0 : ((c0 :: rest).map pt).length = rest.length + 1 := by rw [List.length_map]; rfl
  -- the loop
  refine Evl.s_forR2 (lo := 1) (n := ((rest.length + 1 : Nat) : Int)) (eva_ints (K := K) (ead_cons evd_int (ead_cons ((evd_cb (ead_cons (evd_var rfl (dp_ex e1 d0)) ead_nil) rc_lenL).is (by rw [hlen0])) ead_nil))) (by simp at hlen; omega)
    (fun i σ' H' => ∃ pre k x3 x4 x5, σ' = [some v0, some v1, some (.ref l), x3, x4, x5] ∧ Ex H H' ∧ LS K H' l ((pre ++ [k]).map pt) ∧ pre.length ≤ i ∧ k ∈ (c0 :: rest).take (i + 1) ∧ pre ++ [k] ++ prune sl k (rest.drop i) = c0 :: prune sl c0 rest)
    (fun H2 e2 => ⟨[], c0, none, none, none, rfl, e1.trans e2, sl1.ex e2, Nat.le_refl 0, by simp, rfl⟩) ?_ ?_
  · rintro i σ' H' hi ⟨pre, k, x3, x4, x5, rfl, e, hls, hpl, hk, hR⟩
    have hi' : i < rest.length := by omega
    have ei : (1 + (i : Int)) = ((i + 1 : Nat) : Int) := by omega
    rw [ei]
    obtain ⟨j, hj⟩ := List.getElem?_of_mem hk
    have hj1 : j < i + 1 := by
      have := (List.getElem?_eq_some_iff.mp hj).1
      rw [List.length_take] at this; omega
    have hj2 : (c0 :: rest)[j]? = some k := by rw [List.getElem?_take_of_lt hj1] at hj; exact hj
    obtain ⟨h, hh⟩ : ∃ h, rest[i]? = some h := ⟨rest[i], List.getElem?_eq_getElem hi'⟩
    have hh' : (c0 :: rest)[i + 1]? = some h := hh
    have hd : rest.drop i = h :: rest.drop (i + 1) := by
      rw [List.drop_eq_getElem_cons hi']
      rw [List.getElem?_eq_getElem hi'] at hh
      rw [Option.some.inj hh]
    have hmap : ∀ {m : Nat} {p : Pt}, (c0 :: rest)[m]? = some p → ((c0 :: rest).map pt)[m]? = some (pt p) := fun hm => by rw [List.getElem?_map, hm]; rfl
    try dsimp only
    refine sd_set (K := K) (evd_op (evd_var rfl (dp_ex e d0)) (evd_var rfl (.int _)) (rd_ixL (i := i + 1) (hmap hh'))) fun v4 H2 e2 d4 => ?_
    dsimp only
    have dat : ∀ H, Dp K H (.int ((i + 1 : Nat) : Int)) (.int ((i + 1 : Nat) : Int)) := fun _ => .int _
    refine sd_set (K := K) (d := fr (ahead sl h (rest.drop (i + 1)))) (evd_if (b := decide (i + 1 = rest.length)) (evb_is (evb_test (K := K) (evd_op (evd_op (evd_var rfl (dat _)) evd_int rd_I0) (evd_cb (ead_cons (evd_var rfl (dp_ex (e.trans e2) d0)) ead_nil) rc_lenL) (rd_eqD (shaped_int _) (shaped_int _)))) ?_) (fun hb => ?_) (fun hb => ?_)) fun v5 H3 e3 d5 => ?_
    · rw [eqv_int, hlen0]
      simp only [decide_eq_decide]
      omega
    · have hb' : i + 1 = rest.length := of_decide_eq_true hb
      have : rest.drop (i + 1) = [] := List.drop_of_length_le (by omega)
      rw [this]
      exact evd_var rfl (dp_ex (e.trans e2) d1)
    · have hb' : i + 1 < rest.length := by have := of_decide_eq_false hb; omega
      obtain ⟨h2, hh2⟩ : ∃ h, rest[i + 1]? = some h := ⟨rest[i + 1], List.getElem?_eq_getElem hb'⟩
      have hh2' : (c0 :: rest)[i + 1 + 1]? = some h2 := hh2
      have hd2 : rest.drop (i + 1) = h2 :: rest.drop (i + 1 + 1) := by
        rw [List.drop_eq_getElem_cons hb']
        rw [List.getElem?_eq_getElem hb'] at hh2
        rw [Option.some.inj hh2]
      rw [hd2]
      refine evd_sb (evd_var rfl d4) (evd_op (evd_var rfl (dp_ex (e.trans e2) d0)) ((evd_op (evd_var rfl (dat _)) evd_int rd_I0).is (x := .int ((i + 1 + 1 : Nat) : Int)) ?_) (rd_ixL (hmap hh2'))) (hsb hh' hh2' (by omega))
      rfl
    · have hls3 := (hls.ex (e2.trans e3))
      dsimp only
      refine sd_if (b := !decide (sb k h = ahead sl h (rest.drop (i + 1)))) (evb_is (evb_test (K := K) (evd_op (evd_sb (evd_op (evd_var rfl hls3.dp) (evd_un evd_int ru_neg) (rd_ixL1 (d := pt k) ?_)) (evd_var rfl (dp_ex e3 d4)) (hsb hj2 hh' (by omega))) (evd_var rfl d5) (rd_neD (shaped_fr _) (shaped_fr _)))) (by rw [eqv_fr])) (fun hb H4 e4 => ?_) (fun hb H4 e4 => ?_)
      · rw [List.map_append]; simp
      · have hb' : ¬ sb k h = ahead sl h (rest.drop (i + 1)) := by simpa using hb
        try dsimp only
        refine sd_app (hls3.ex e4) rfl (evd_var rfl (dp_ex (e3.trans e4) d4)) (tupAll_map to_pt _) (to_pt h) ?_ fun H5 m5 hls5 => ?_
        · rw [List.length_map, List.length_append]; simp at hlen ⊢; omega
        · refine ⟨pre ++ [k], h, _, _, _, rfl, Em.ex (((e.trans e2).trans e3).trans e4) hl0 m5, ?_, ?_, ?_, ?_⟩
          · rw [List.map_append (l₂ := [h])]; exact hls5
          · rw [List.length_append]; simp; omega
          · exact List.mem_of_getElem? (i := i + 1) (by rw [List.getElem?_take_of_lt (by omega)]; exact hh')
          · rw [← hR, hd]
            simp only [prune, if_neg hb', List.append_assoc, List.cons_append, List.nil_append]
      · have hb' : sb k h = ahead sl h (rest.drop (i + 1)) := by simpa using hb
        refine ⟨pre, k, _, _, _, rfl, ((e.trans e2).trans e3).trans e4, hls3.ex e4, by omega, ?_, ?_⟩
        · exact List.mem_of_getElem? (i := j) (by rw [List.getElem?_take_of_lt (by omega)]; exact hj2)
        · rw [← hR, hd]
          simp only [prune, if_pos hb']
  · rintro σ' H' ⟨pre, k, x3, x4, x5, rfl, e, hls, hpl, hk, hR⟩
    have hn : (((rest.length + 1 : Nat) : Int) - 1).toNat = rest.length := by omega
    rw [hn, List.drop_length] at hR
    simp only [prune, List.append_nil] at hR
    try dsimp only
    refine sd_ret (K := K) (evd_tup (ead_cons (evd_cb (ead_cons (evd_var rfl hls.dp) ead_nil) rc_tupL) (ead_cons (evd_var rfl (dp_ex e d1)) ead_nil)) (by simp)) fun v H2 e2 dv => ?_
    rw [hR] at dv
    exact q v H2 (e.trans e2) dv
end
end My
namespace My
open PySem PySem.Spec PyProof.Rows L2
open Evl (Ex ex_l ex_t fresh_back)
theorem shaped_frs (qs : List Rat) : SeqAt.shaped (.list (qs.map fr)) = true := by
  have h1 : ∀ qs : List Rat, PyData.canLayAll0 (qs.map fr) = true := by
    intro qs
    induction qs with
    | nil => simp [PyData.canLayAll0]
    | cons a l ih => simp [PyData.canLayAll0, PyData.canLay0, ih]
  have h2 : ∀ qs : List Rat, PyData.depthAll (qs.map fr) ≤ 1 := by
    intro qs
    induction qs with
    | nil => simp [PyData.depthAll]
    | cons a l ih => simp [PyData.depthAll, PyData.depth, ih]
  have := h2 qs
  have h3 : PyData.depth (.list (qs.map fr)) ≤ 64 := by
    simp only [PyData.depth]; omega
  simp only [SeqAt.shaped, PyData.canLay0, h1, Bool.true_and, decide_eq_true_eq]
  exact h3
theorem any_eqv (fs : List Rat) (q : Rat) : ((fs.map fr).any fun z => PyData.eqv z (fr q)) = decide (q ∈ fs) := by
  rw [List.any_map]
  induction fs with
  | nil => simp
  | cons a l ih =>
    rw [List.any_cons, ih]
    simp only [Function.comp, eqv_fr, List.mem_cons]
    by_cases h : a = q
    · subst h; simp
    · have h' : ¬ q = a := fun e => h e.symm
      simp [h, h']
theorem cmp_neg (a b : Rat) : decide (cmp a b < 0) = decide (a < b) := by
  unfold cmp
  by_cases h : a < b
  · simp [h]
  · by_cases h2 : b < a <;> simp [h, h2]
theorem cmp_le (a b : Rat) : decide (cmp a b ≤ 0) = decide (a ≤ b) := by
  unfold cmp
  by_cases h : a < b
  · have : a ≤ b := by grind
    simp [h, this]
  · by_cases h2 : b < a
    · have : ¬ a ≤ b := by grind
      simp [h, h2, this]
    · have : a ≤ b := by grind
      simp [h, h2, this]
theorem to_fr (q : Rat) : tupOnly (fr q) = true := rfl
section
variable {P : Program} {w : World} {K : PySem.W.Frag} {mg : Str → Option Value} {base : Heap}
theorem ok_nothing (M : Md P K mg base) : Kn P w K mg base CX0 "nothing" [] 1 (SpOf K (α := Unit) (fun _ => []) (fun _ => True) (fun _ => cvD cv0)) := by
  refine kn_mk M.d_nothing fun f fd F => okD F sc_nothing (fun _ => rfl) fun a cdv A outer s H vs E hr dv hs => ?_
  have hv : vs = [] := by cases dv; rfl
  subst hv
  refine ⟨_, (pss_one (ps_ret (pe_tup (pa_cons (pe_tup (pa_cons (pe_tup (pa_cons (pe_cst M.g_NOUGHT) (pa_cons (pe_cst M.g_NOUGHT) pa_nil))) pa_nil)) (pa_cons (pe_cst M.g_NOUGHT) pa_nil))))), fun Q q => ?_⟩
  refine sd_ret (K := K) (d := cvD cv0) (evd_tup (ead_cons (evd_tup (ead_cons (evd_tup (ead_cons (evd_cst M.g_NOUGHT) (ead_cons (evd_cst M.g_NOUGHT) ead_nil)) (by decide)) ead_nil) (by decide)) (ead_cons (evd_cst M.g_NOUGHT) ead_nil)) (by decide)) fun v H1 e1 dv => q v H1 e1 dv
def preInOrder (qs : List Rat) : Prop := qs.length ≤ 40000 ∧ ∀ a ∈ qs, ∀ b ∈ qs, okSz a b
abbrev spInOrder (K : PySem.W.Frag) : Sp := SpOf K (α := List Rat) (fun a => [.list (a.map fr)]) (fun a => preInOrder a) (fun a => .tuple ((inOrder a).map fr))
theorem ok_in_order (M : Md P K mg base) : Kn P w K mg base CX0 "in_order" ["fractions"] 35 (spInOrder K) := by
  refine kn_mk M.d_in_order fun f fd F => okD F sc_in_order (fun _ => rfl) fun qs cdv A outer s H vs E hr dv hs => ?_
  obtain ⟨v0, rfl, d0⟩ := dpa_one dv
  obtain ⟨hlen, hok⟩ := hs
  refine ⟨_, (pss_cons (ps_set (i := 1) sc_in_order.nd rfl (.inl rfl) (pe_lst pa_nil)) (pss_cons (ps_for PassesOwn.never rfl (pi_list (pv 0)) (pg_name (i := 2) sc_in_order.nd rfl (Or.inr rfl)) (pss_one (ps_if (pt_cmpR (op_notInD (room65 hr)) (pv 2) (pv 1) (by rfl)) (pss_cons (ps_set (i := 3) sc_in_order.nd rfl (.inl rfl) (pe_callB call_len_seq (by rfl) M.n_len PySem.boot_len (pa_cons (pe_lc (own := [("other", 4)]) (g := (gName 4)) rfl sc_in_order.nd (pi_list (pv 1)) (blkOk_by (N := ["fractions", "found", "one", "at", "other"]) (sc := defScope s_in_order) (own := [("other", 4)]) (by decide +kernel)) (fun _ _ _ _ _ => (pg_name (i := 4) sc_in_order.nd rfl (by first | exact Or.inl rfl | exact Or.inr rfl))) (fun _ _ _ _ _ => pts_one (pt_cmpR op_lt (pe_kn (ok_compared M) hr (pa_cons (pv 4) (pa_cons (pv 2) pa_nil))) pe_int (nomark _))) (fun _ _ _ _ _ => (pv 4))) pa_nil))) (pss_one (ps_expr (pe_bm PySem.F.plainAttrs_list PySem.F.slot_list_insert PySem.F.type_list_insert mt_insert (pv 1) (pa_cons (pv 3) (pa_cons (pv 2) pa_nil)))))) pss_nil))) (pss_one (ps_ret (pe_callTy call_tuple_of (by rfl) M.n_tuple (by decide +kernel) (pa_cons (pv 1) pa_nil)))))), fun Q q => ?_⟩
  refine sd_newL (K := K) (ds := []) ead_nil (by simp) fun l H1 hl0 e1 sl1 => ?_
  dsimp only
  have d0' := d0
  cases d0' with
  | lst hv ha =>
    rename_i a xs
    have hxs := dpa_len ha
    rw [List.length_map] at hxs
    refine Evl.s_forL (K := K) (Evl.ev_var rfl) (ex_l e1 hv) (fun i σ' H' => ∃ x2 x3 x4, σ' = [some (.ref a), some (.ref l), x2, x3, x4] ∧ Ex H H' ∧ LS K H' l ((inOrder (qs.take i)).map fr)) (fun H2 e2 => ⟨none, none, none, rfl, e1.trans e2, sl1.ex e2⟩) (fun i σ' H' _ ⟨_, _, _, _, e, _⟩ => ex_l e hv) ?_ ?_
    · rintro i x σ' H' hx ⟨x2, x3, x4, rfl, e, hls⟩
      obtain ⟨p, hp, dx⟩ := fr_item (dpa_ex e ha) hx
      have htk : qs.take (i + 1) = qs.take i ++ [p] := by rw [List.take_add_one, hp]; rfl
      have hpm : p ∈ qs := List.mem_of_getElem? hp
      have hfm : ∀ y ∈ inOrder (qs.take i), y ∈ qs := fun y hy => List.mem_of_mem_take (inOrder_mem.mp hy)
      have hfl : (inOrder (qs.take i)).length ≤ 40000 := by
        have := inOrder_len (qs.take i)
        rw [List.length_take] at this
        omega
      dsimp only [gName]
      refine sd_if (b := decide (¬ p ∈ inOrder (qs.take i))) (evb_is (evb_test (K := K) (evd_op (evd_var rfl dx) (evd_var rfl hls.dp) (rd_notInD (shaped_fr _) (shaped_frs _)))) ?_) (fun hb H2 e2 => ?_) (fun hb H2 e2 => ?_)
      · rw [any_eqv]; simp
      · have hb' : ¬ p ∈ inOrder (qs.take i) := of_decide_eq_true hb
        have hls2 := hls.ex e2
        refine sd_set (K := K) (d := .int (((inOrder (qs.take i)).filter (fun o => decide (o < p))).length : Nat)) ((evd_cb (ead_cons (evd_lcL (xs := inOrder (qs.take i)) (enc := fr) (keep := fun o => decide (o < p)) (out := fr) (evd_var rfl hls2.dp) (by omega) to_fr fun o ho => turn_name (fun _ => rfl) fun y H3 e3 dy => ⟨?_, fun _ => evd_var rfl dy⟩) ead_nil) rc_lenL).is (by rw [List.length_map])) fun v3 H4 e4 d4 => ?_
        · refine evb_is (evb_test (K := K) (evd_op (evd_cmp (evd_var rfl dy) (evd_var rfl (dp_ex (e2.trans e3) dx)) (hok _ (hfm o ho) _ hpm)) evd_int rd_B0)) (cmp_neg _ _)
        · cases d4
          have hls4 := hls2.ex e4
          dsimp only
          have hle : ((inOrder (qs.take i)).filter (fun o => decide (o < p))).length ≤ (inOrder (qs.take i)).length := List.length_filter_le _ _
          refine sd_insert (K := K) (d := fr p) (n := ((inOrder (qs.take i)).filter (fun o => decide (o < p))).length) hls4 rfl (ead_cons (evd_var rfl (.int _)) (ead_cons (evd_var rfl (dp_ex (e2.trans e4) dx)) ead_nil)) (tupAll_map to_fr _) rfl (by rw [List.length_map]; omega) (by omega) fun H5 m5 hls5 => ?_
          refine ⟨_, _, _, rfl, Em.ex ((e.trans e2).trans e4) hl0 m5, ?_⟩
          rw [htk, inOrder_snoc]
          unfold ins
          rw [if_neg hb', List.map_append, List.map_append, List.map_take, List.map_drop]
          exact hls5
      · have hb' : p ∈ inOrder (qs.take i) := by simpa using hb
        refine ⟨_, _, _, rfl, e.trans e2, ?_⟩
        rw [htk, inOrder_snoc]
        unfold ins
        rw [if_pos hb']
        exact hls.ex e2
    · rintro σ' H' ⟨x2, x3, x4, rfl, e, hls⟩
      rw [hxs, List.take_length] at hls
      try dsimp only
      refine sd_ret (K := K) (evd_cb (ead_cons (evd_var rfl hls.dp) ead_nil) rc_tupL) fun v H2 e2 dv => q v H2 (e.trans e2) dv
theorem to_cv (c : Cv) : tupOnly (cvD c) = true := by
  have := tupAll_map (enc := pt) to_pt c.cs
  simp [tupOnly, tupAll, this]
def preLevels (cvs : List Cv) : Prop := cvs.length ≤ 100 ∧ (∀ c ∈ cvs, c.cs.length ≤ 300) ∧ ∃ n, 1 ≤ n ∧ (∀ c ∈ cvs, ∀ p ∈ c.cs, sz p.1 ≤ n) ∧ 2 * n ≤ 100000000
abbrev spLevels (K : PySem.W.Frag) : Sp := SpOf K (α := List Cv) (fun a => [.list (a.map cvD)]) (fun a => preLevels a) (fun a => .tuple ((levelsOf a).map fr))
theorem flat_len {cvs : List Cv} {n : Nat} (h : ∀ c ∈ cvs, c.cs.length ≤ n) : ((cvs.map fun c => c.cs.map (·.1)).flatten).length ≤ cvs.length * n := by
  induction cvs with
  | nil => simp
  | cons a l ih =>
    have h1 := ih fun c hc => h c (List.mem_cons_of_mem _ hc)
    have h2 := h a (List.mem_cons_self ..)
    rw [List.map_cons, List.flatten_cons, List.length_append, List.length_map, List.length_cons, Nat.succ_mul]
    omega
theorem ok_levels_of (M : Md P K mg base) : Kn P w K mg base CX0 "levels_of" ["curves"] 36 (spLevels K) := by
  refine kn_mk M.d_levels_of fun f fd F => okD F sc_levels_of (fun _ => rfl) fun cvs cdv A outer s H vs E hr dv hs => ?_
  obtain ⟨v0, rfl, d0⟩ := dpa_one dv
  obtain ⟨hlen, hcl, n, hn1, hsz, hn⟩ := hs
  refine ⟨_, (pss_cons (ps_set (i := 1) sc_levels_of.nd rfl (.inl rfl) (pe_lst (pa_cons (pe_cst M.g_NOUGHT) pa_nil))) (pss_cons (ps_for PassesOwn.never rfl (pi_list (pv 0)) (pg_name (i := 2) sc_levels_of.nd rfl (Or.inl rfl)) (pss_one (ps_expr (pe_bm PySem.F.plainAttrs_list PySem.F.slot_list_extend PySem.F.type_list_extend mt_extend (pv 1) (pa_cons (pe_lc (own := [("level", 3), ("pay", 4)]) (g := (gTup K 2 (gCons (gName 3) (gCons (gName 4) gNil)))) (tt := tYes) rfl sc_levels_of.nd (pi_tup (pe_ix ix_tup (pv 2) pe_int (fun _ _ => rfl))) (blkOk_by (N := ["curves", "found", "one", "level", "pay"]) (sc := defScope s_levels_of) (own := [("level", 3), ("pay", 4)]) (by decide +kernel)) (fun _ _ _ _ _ => (pg_tup rfl (pgs_cons (pg_name (i := 3) sc_levels_of.nd rfl (by first | exact Or.inl rfl | exact Or.inr rfl)) (pgs_cons (pg_name (i := 4) sc_levels_of.nd rfl (by first | exact Or.inl rfl | exact Or.inr rfl)) pgs_nil)))) (fun _ _ _ _ _ => pts_nil) (fun _ _ _ _ _ => (pv 3))) pa_nil))))) (pss_one (ps_ret (pe_kn (ok_in_order M) hr (pa_cons (pv 1) pa_nil)))))), fun Q q => ?_⟩
  refine sd_newL (K := K) (ds := [fr 0]) (ead_cons (evd_cst M.g_NOUGHT) ead_nil) (by simp) fun l H1 hl0 e1 sl1 => ?_
  dsimp only
  have d0' := d0
  cases d0' with
  | lst hv ha =>
    rename_i a xs
    have hxs := dpa_len ha
    rw [List.length_map] at hxs
    refine Evl.s_forL (K := K) (Evl.ev_var rfl) (ex_l e1 hv) (fun i σ' H' => ∃ x2, σ' = [some (.ref a), some (.ref l), x2, none, none] ∧ Ex H H' ∧ LS K H' l ((0 :: ((cvs.take i).map fun c => c.cs.map (·.1)).flatten).map fr)) (fun H2 e2 => ⟨none, rfl, e1.trans e2, sl1.ex e2⟩) (fun i σ' H' _ ⟨_, _, e, _⟩ => ex_l e hv) ?_ ?_
    · rintro i x σ' H' hx ⟨x2, rfl, e, hls⟩
      obtain ⟨c, hc, dx⟩ := item_of (enc := cvD) (dpa_ex e ha) hx
      have htk : cvs.take (i + 1) = cvs.take i ++ [c] := by rw [List.take_add_one, hc]; rfl
      have hcm : c ∈ cvs := List.mem_of_getElem? hc
      have hfl := flat_len (cvs := cvs.take i) (n := 300) fun c hc => hcl c (List.mem_of_mem_take hc)
      have hti : (cvs.take i).length ≤ 100 := by rw [List.length_take]; omega
      have hcc := hcl c hcm
      dsimp only [gName]
      refine sd_extend (K := K) (es := (c.cs.filter fun _ => true).map fun p : Pt => fr p.1) hls rfl (evl_lcT (xs := c.cs) (enc := pt) (keep := fun _ => true) (out := fun p : Pt => fr p.1) (evd_cs (evd_var rfl dx)) (by omega) (fun _ => rfl) fun p hp => turn_pair rfl (fun _ _ => rfl) fun y z H3 e3 dy dz => ⟨evb_yes, fun _ => evd_var rfl dy⟩) (tupAll_map to_fr _) (tupAll_map (enc := fun p : Pt => fr p.1) (fun _ => rfl) _) ?_ fun H5 m5 hls5 => ?_
      · rw [List.length_map, List.length_map, filter_true, List.length_cons]
        have : (cvs.take i).length * 300 ≤ 100 * 300 := Nat.mul_le_mul_right _ hti
        omega
      · refine ⟨_, rfl, Em.ex e hl0 m5, ?_⟩
        rw [filter_true] at hls5
        rw [htk, List.map_append, List.flatten_append, ← List.cons_append, List.map_append]
        have e6 : List.map fr (List.map (fun c : Cv => c.cs.map (·.1)) [c]).flatten = c.cs.map fun p => fr p.1 := by
          simp [Function.comp_def]
        rw [e6]
        exact hls5
    · rintro σ' H' ⟨x2, rfl, e, hls⟩
      rw [hxs, List.take_length] at hls
      try dsimp only
      have hmem : ∀ x ∈ (0 :: (cvs.map fun c => c.cs.map (·.1)).flatten), sz x ≤ n := by
        intro x hx
        rcases List.mem_cons.mp hx with rfl | hx
        · rw [sz_zero]; exact hn1
        · obtain ⟨l, hl, hx⟩ := List.mem_flatten.mp hx
          obtain ⟨c, hc, rfl⟩ := List.mem_map.mp hl
          obtain ⟨p, hp, rfl⟩ := List.mem_map.mp hx
          exact hsz c hc p hp
      refine sd_ret (K := K) (evd_call (ead_cons (evd_var rfl hls.dp) ead_nil) (spd_of (0 :: (cvs.map fun c => c.cs.map (·.1)).flatten) ⟨?_, ?_⟩)) fun v H2 e2 dv => q v H2 (e.trans e2) dv
      · have := flat_len hcl
        rw [List.length_cons]
        have : cvs.length * 300 ≤ 100 * 300 := Nat.mul_le_mul_right _ hlen
        omega
      · intro a ha b hb
        have h1 := hmem a ha
        have h2 := hmem b hb
        show sz a + sz b ≤ _
        omega
def preSlopeB (c : Cv) (i : Nat) : Prop := i < c.cs.length ∧ ∃ n, CvSz n c ∧ 4 * n + 2 ≤ 100000000
abbrev spSlopeB (K : PySem.W.Frag) : Sp := SpOf K (α := Cv × Nat) (fun a => [cvD a.1, .int (a.2 : Nat)]) (fun a => preSlopeB a.1 a.2) (fun a => fr (slopeAt a.1 a.2))
theorem ok_slope_behind (M : Md P K mg base) : Kn P w K mg base CX0 "slope_behind" ["one", "at"] 36 (spSlopeB K) := by
  refine kn_mk M.d_slope_behind fun f fd F => okD F sc_slope_behind (fun _ => rfl) fun a cdv A outer s H vs E hr dv hs => ?_
  obtain ⟨c, i⟩ := a
  obtain ⟨v0, v1, rfl, d0, d1⟩ := dpa_two dv
  obtain ⟨hi, n, hc, hn⟩ := hs
  simp only at hi hc
  refine ⟨_, (pss_cons (ps_asg (pv 0) (pg_tup rfl (pgs_cons (pg_name (i := 2) sc_slope_behind.nd rfl (Or.inl rfl)) (pgs_cons (pg_name (i := 3) sc_slope_behind.nd rfl (Or.inl rfl)) pgs_nil)))) (pss_one (ps_ret (pe_ifExp (pt_cmpR (op_eqD hr.units) (pe_op op_add (pv 1) pe_int) (pe_callB call_len_seq (by rfl) M.n_len PySem.boot_len (pa_cons (pv 2) pa_nil)) (nomark _)) (pv 3) (pe_kn (ok_slope_between M) hr (pa_cons (pe_ix ix_tup (pv 2) (pv 1) (fun _ _ => rfl)) (pa_cons (pe_ix ix_tup (pv 2) (pe_op op_add (pv 1) pe_int) (fun _ _ => rfl)) pa_nil))))))), fun Q q => ?_⟩
  cases d1
  refine sd_unp2 (K := K) (d1 := .tuple (c.cs.map pt)) (d2 := fr c.sl) (evd_var rfl d0) fun v2 v3 H1 e1 d2 d3 => ?_
  dsimp only
  have hl : ((c.cs.map pt).length : Nat) = c.cs.length := List.length_map ..
  refine sd_ret (K := K) (d := fr (slopeAt c i)) (evd_if (b := decide (i + 1 = c.cs.length)) (evb_is (evb_test (K := K) (evd_op (evd_op (evd_var rfl (.int _)) evd_int rd_I0) (evd_cb (ead_cons (evd_var rfl d2) ead_nil) rc_lenT) (rd_eqD (shaped_int _) (shaped_int _)))) ?_) (fun hb => ?_) fun hb => ?_) fun v H2 e2 dv => q v H2 (e1.trans e2) dv
  · rw [eqv_int, hl]
    simp only [decide_eq_decide]; omega
  · have hb' : i + 1 = c.cs.length := of_decide_eq_true hb
    have : slopeAt c i = c.sl := by
      unfold slopeAt
      have : c.cs[i + 1]? = none := List.getElem?_eq_none (by omega)
      rw [this]
      split
      · rename_i h; cases h
      · rfl
    rw [this]
    exact evd_var rfl d3
  · have hb' : i + 1 < c.cs.length := by have := of_decide_eq_false hb; omega
    have ha : c.cs[i]? = some c.cs[i] := List.getElem?_eq_getElem hi
    have hb2 : c.cs[i + 1]? = some c.cs[i + 1] := List.getElem?_eq_getElem hb'
    have : slopeAt c i = sb c.cs[i] c.cs[i + 1] := by
      unfold slopeAt
      rw [ha, hb2]
    rw [this]
    refine evd_sb (evd_op (evd_var rfl d2) (evd_var rfl (.int _)) (rd_ixT (i := i) ?_)) (evd_op (evd_var rfl d2) ((evd_op (evd_var rfl (.int _)) evd_int rd_I0).is (x := .int ((i + 1 : Nat) : Int)) rfl) (rd_ixT (i := i + 1) ?_)) ⟨asc_ne hc.asc ha hb2 (by omega), n, hc.pts _ (List.mem_of_getElem? ha), hc.pts _ (List.mem_of_getElem? hb2), hn⟩
    · rw [List.getElem?_map, ha]; rfl
    · rw [List.getElem?_map, hb2]; rfl
theorem evd_slopeB {te tf : TE} {σ : L2.St} {H : Hp} {c : Cv} {i : Nat} (ha : EvD K te σ H (cvD c)) (hb : EvD K tf σ H (.int (i : Nat))) (h : preSlopeB c i) {E : XK} : EvD K (tCall (spSlopeB K) [] E (tCons te (tCons tf tNil))) σ H (fr (slopeAt c i)) :=
  evd_call (ead_cons ha (ead_cons hb ead_nil)) (spd_of (c, i) h)
/-- a level at which a curve is asked -/
def prePay (c : Cv) (x : Rat) : Prop := c.cs.length ≤ 40000 ∧ (∃ p ∈ c.cs, p.1 ≤ x) ∧ ∃ n m, CvSz n c ∧ sz x ≤ m ∧ 6 * n + m + 10 ≤ 100000000
theorem ixLe_lt {c : Cv} {x : Rat} (h : ∃ p ∈ c.cs, p.1 ≤ x) : ixLe c x < c.cs.length ∧ (c.cs.filter fun p => decide (p.1 ≤ x)).length = ixLe c x + 1 := by
  obtain ⟨p, hp, hx⟩ := h
  have h1 : 0 < (c.cs.filter fun p => decide (p.1 ≤ x)).length := by
    apply List.length_pos_of_mem (a := p)
    exact List.mem_filter.mpr ⟨hp, by simpa using hx⟩
  have h2 := List.length_filter_le (fun p : Pt => decide (p.1 ≤ x)) c.cs
  unfold ixLe
  omega
/-- the index of the corner at or ahead of a level -/
theorem evd_ixLe {t0 tl : TE} {σ : L2.St} {H : Hp} {c : Cv} {x : Rat} {j : Nat} (M : Md P K mg base) (hp : prePay c x) (h0 : EvD K t0 σ H (cvD c)) (hw : ∀ y, wipe ((wipe σ [j]).set j (some y)) [j] = wipe σ [j])
    (hj : ∀ y, ((wipe σ [j]).set j (some y))[j]? = some (some y)) (hl : ∀ y H2, Ex H H2 → EvD K tl ((wipe σ [j]).set j (some y)) H2 (fr x)) {E : XK} :
    EvD K (tOp (rI0 fun i j => .int (i - j)) (tCB (fun xs H Q => ∃ p ys, xs = [.ref p] ∧ (SqL K H p ys ∨ SqT K H p ys) ∧ Q (.int ys.length) H) (tCons (tLc (iTup K (tOp (rIxT K) t0 (tC (.int 0)))) (gName j) (tTest (tOp (rI0 fun i j => .bl (decide (i ≤ j))) (tCall (SpOf K (α := Rat × Rat) (fun a => [fr a.1, fr a.2]) (fun a => okSz a.1 a.2) (fun a => .int (cmp a.1 a.2))) [] E (tCons (tOp (rIxT K) (tVar j) (tC (.int 0))) (tCons tl tNil))) (tC (.int 0)))) (tVar j) [j]) tNil)) (tC (.int 1))) σ H (.int (ixLe c x : Nat)) := by
  obtain ⟨hlen, hex, n, m, hc, hx, hn⟩ := hp
  obtain ⟨h1, h2⟩ := ixLe_lt hex
  refine (evd_op (evd_cb (ead_cons (evd_lcT (xs := c.cs) (enc := pt) (keep := fun p => decide (p.1 ≤ x)) (out := pt) (evd_cs h0) (by omega) to_pt fun p hp => turn_name hw fun y H3 e3 dy => ⟨?_, fun _ => evd_var (hj y) dy⟩) ead_nil) rc_lenL) evd_int rd_I0).is ?_
  · refine evb_is (evb_test (K := K) (evd_op (evd_cmp (evd_p1 (evd_var (hj y) dy)) (hl y H3 e3) ?_) evd_int rd_B0)) (cmp_le _ _)
    have := (hc.pts p hp).1
    show sz _ + sz _ ≤ _
    omega
  · rw [List.length_map, h2]
    show PyData.int _ = PyData.int _
    congr 1
    omega
abbrev spPay (K : PySem.W.Frag) : Sp := SpOf K (α := Cv × Rat) (fun a => [cvD a.1, fr a.2]) (fun a => prePay a.1 a.2) (fun a => fr (payAt a.1 a.2))
theorem ok_pay_at (M : Md P K mg base) : Kn P w K mg base CX0 "pay_at" ["one", "level"] 37 (spPay K) := by
  refine kn_mk M.d_pay_at fun f fd F => okD F sc_pay_at (fun _ => rfl) fun a cdv A outer s H vs E hr dv hs => ?_
  obtain ⟨c, x⟩ := a
  obtain ⟨v0, v1, rfl, d0, d1⟩ := dpa_two dv
  have hp : prePay c x := hs
  have d0 : Dp K H v0 (cvD c) := d0
  have d1 : Dp K H v1 (fr x) := d1
  obtain ⟨hlen, hex, n, m, hc, hx, hn⟩ := hs
  simp only at hlen hex hc hx
  obtain ⟨hi, _⟩ := ixLe_lt hex
  refine ⟨_, (pss_cons (ps_set (i := 2) sc_pay_at.nd rfl (.inl rfl) (pe_op op_sub (pe_callB call_len_seq (by rfl) M.n_len PySem.boot_len (pa_cons (pe_lc (own := [("corner", 5)]) (g := (gName 5)) rfl sc_pay_at.nd (pi_tup (pe_ix ix_tup (pv 0) pe_int (fun _ _ => rfl))) (blkOk_by (N := ["one", "level", "at", "begin", "pay", "corner"]) (sc := defScope s_pay_at) (own := [("corner", 5)]) (by decide +kernel)) (fun _ _ _ _ _ => (pg_name (i := 5) sc_pay_at.nd rfl (by first | exact Or.inl rfl | exact Or.inr rfl))) (fun _ _ _ _ _ => pts_one (pt_cmpR op_le (pe_kn (ok_compared M) hr (pa_cons (pe_ix (r := rIxT K) ix_tup (pv 5) pe_int (fun _ _ => rfl)) (pa_cons (pv 1) pa_nil))) pe_int (nomark _))) (fun _ _ _ _ _ => (pv 5))) pa_nil)) pe_int)) (pss_cons (ps_asg (pe_ix ix_tup (pe_ix ix_tup (pv 0) pe_int (fun _ _ => rfl)) (pv 2) (fun _ _ => rfl)) (pg_tup rfl (pgs_cons (pg_name (i := 3) sc_pay_at.nd rfl (Or.inl rfl)) (pgs_cons (pg_name (i := 4) sc_pay_at.nd rfl (Or.inl rfl)) pgs_nil)))) (pss_one (ps_ret (pe_kn (ok_added M) hr (pa_cons (pv 4) (pa_cons (pe_kn (ok_times M) hr (pa_cons (pe_kn (ok_slope_behind M) hr (pa_cons (pv 0) (pa_cons (pv 2) pa_nil))) (pa_cons (pe_kn (ok_lessened M) hr (pa_cons (pv 1) (pa_cons (pv 3) pa_nil))) pa_nil))) pa_nil))))))), fun Q q => ?_⟩
  refine sd_set (K := K) (evd_ixLe M hp (evd_var rfl d0) (fun _ => rfl) (fun _ => rfl) (fun y H2 e2 => evd_var rfl (dp_ex e2 d1))) fun v2 H1 e1 d2 => ?_
  cases d2
  dsimp only
  have hg : c.cs[ixLe c x]? = some (c.cs.getD (ixLe c x) (0, 0)) := by
    rw [List.getD_eq_getElem?_getD, List.getElem?_eq_getElem hi]; rfl
  have hgm := List.mem_of_getElem? hg
  refine sd_unp2 (K := K) (d1 := fr (c.cs.getD (ixLe c x) (0, 0)).1) (d2 := fr (c.cs.getD (ixLe c x) (0, 0)).2) (evd_op (evd_cs (evd_var rfl (dp_ex e1 d0))) (evd_var rfl (.int _)) (rd_ixT (i := ixLe c x) (d := pt (c.cs.getD (ixLe c x) (0, 0))) ?_)) fun v3 v4 H2 e2 d3 d4 => ?_
  · rw [List.getElem?_map, hg]; rfl
  · dsimp only
    have h1 := hc.slope (ixLe c x)
    have h2 := (hc.pts _ hgm).1
    have h3 := (hc.pts _ hgm).2
    have h4 := sz_sub x (c.cs.getD (ixLe c x) (0, 0)).1
    have h5 := sz_mul (slopeAt c (ixLe c x)) (x - (c.cs.getD (ixLe c x) (0, 0)).1)
    refine sd_ret (K := K) (evd_qq (evd_var rfl d4) (evd_qq (evd_slopeB (evd_var rfl (dp_ex (e1.trans e2) d0)) (evd_var rfl (.int _)) ⟨hi, n, hc, by omega⟩) (evd_qq (evd_var rfl (dp_ex (e1.trans e2) d1)) (evd_var rfl d3) ?_) ?_) ?_) fun v H3 e3 dv => q v H3 ((e1.trans e2).trans e3) dv
    · show sz _ + sz _ ≤ _; omega
    · show sz _ + sz _ ≤ _; omega
    · show sz _ + sz _ ≤ _; omega
theorem evd_pay {te tf : TE} {σ : L2.St} {H : Hp} {c : Cv} {x : Rat} (ha : EvD K te σ H (cvD c)) (hb : EvD K tf σ H (fr x)) (h : prePay c x) {E : XK} : EvD K (tCall (spPay K) [] E (tCons te (tCons tf tNil))) σ H (fr (payAt c x)) :=
  evd_call (ead_cons ha (ead_cons hb ead_nil)) (spd_of (c, x) h)
abbrev spRises (K : PySem.W.Frag) : Sp := SpOf K (α := Cv × Rat) (fun a => [cvD a.1, fr a.2]) (fun a => prePay a.1 a.2) (fun a => fr (risesAt a.1 a.2))
theorem ok_rises_at (M : Md P K mg base) : Kn P w K mg base CX0 "rises_at" ["one", "level"] 37 (spRises K) := by
  refine kn_mk M.d_rises_at fun f fd F => okD F sc_rises_at (fun _ => rfl) fun a cdv A outer s H vs E hr dv hs => ?_
  obtain ⟨c, x⟩ := a
  obtain ⟨v0, v1, rfl, d0, d1⟩ := dpa_two dv
  have hp : prePay c x := hs
  have d0 : Dp K H v0 (cvD c) := d0
  have d1 : Dp K H v1 (fr x) := d1
  obtain ⟨hlen, hex, n, m, hc, hx, hn⟩ := hs
  simp only at hlen hex hc hx
  obtain ⟨hi, _⟩ := ixLe_lt hex
  refine ⟨_, (pss_one (ps_ret (pe_kn (ok_slope_behind M) hr (pa_cons (pv 0) (pa_cons (pe_op op_sub (pe_callB call_len_seq (by rfl) M.n_len PySem.boot_len (pa_cons (pe_lc (own := [("corner", 2)]) (g := (gName 2)) rfl sc_rises_at.nd (pi_tup (pe_ix ix_tup (pv 0) pe_int (fun _ _ => rfl))) (blkOk_by (N := ["one", "level", "corner"]) (sc := defScope s_rises_at) (own := [("corner", 2)]) (by decide +kernel)) (fun _ _ _ _ _ => (pg_name (i := 2) sc_rises_at.nd rfl (by first | exact Or.inl rfl | exact Or.inr rfl))) (fun _ _ _ _ _ => pts_one (pt_cmpR op_le (pe_kn (ok_compared M) hr (pa_cons (pe_ix (r := rIxT K) ix_tup (pv 2) pe_int (fun _ _ => rfl)) (pa_cons (pv 1) pa_nil))) pe_int (nomark _))) (fun _ _ _ _ _ => (pv 2))) pa_nil)) pe_int) pa_nil))))), fun Q q => ?_⟩
  refine sd_ret (K := K) (evd_slopeB (evd_var rfl d0) (evd_ixLe M hp (evd_var rfl d0) (fun _ => rfl) (fun _ => rfl) (fun y H2 e2 => evd_var rfl (dp_ex e2 d1))) ⟨hi, n, hc, by omega⟩) fun v H3 e3 dv => q v H3 e3 dv
theorem evd_rises {te tf : TE} {σ : L2.St} {H : Hp} {c : Cv} {x : Rat} (ha : EvD K te σ H (cvD c)) (hb : EvD K tf σ H (fr x)) (h : prePay c x) {E : XK} : EvD K (tCall (spRises K) [] E (tCons te (tCons tf tNil))) σ H (fr (risesAt c x)) :=
  evd_call (ead_cons ha (ead_cons hb ead_nil)) (spd_of (c, x) h)
end
end My
namespace My
open PySem PySem.Spec PyProof.Rows L2
open Evl (Ex ex_l ex_t fresh_back)
section
variable {P : Program} {w : World} {K : PySem.W.Frag} {mg : Str → Option Value} {base : Heap}
abbrev spTotal (K : PySem.W.Frag) : Sp := SpOf K (α := Bool × List Rat) (fun a => [if a.1 then .list (a.2.map fr) else .tuple (a.2.map fr)]) (fun a => okTotal a.2) (fun a => fr a.2.sum)
theorem evd_totalL {te : TE} {σ : L2.St} {H : Hp} {qs : List Rat} (h : EvD K te σ H (.list (qs.map fr))) (ok : okTotal qs) {E : XK} : EvD K (tCall (spTotal K) [] E (tCons te tNil)) σ H (fr qs.sum) :=
  evd_call (ds := [.list (qs.map fr)]) (ead_cons h ead_nil) (spd_of (true, qs) ok)
theorem evd_totalT {te : TE} {σ : L2.St} {H : Hp} {qs : List Rat} (h : EvD K te σ H (.tuple (qs.map fr))) (ok : okTotal qs) {E : XK} : EvD K (tCall (spTotal K) [] E (tCons te tNil)) σ H (fr qs.sum) :=
  evd_call (ds := [.tuple (qs.map fr)]) (ead_cons h ead_nil) (spd_of (false, qs) ok)
theorem evd_curve {te tf : TE} {σ : L2.St} {H : Hp} {cs : List Pt} {sl : Rat} (ha : EvD K te σ H (.list (cs.map pt))) (hb : EvD K tf σ H (fr sl)) (h : preCurve cs) {E : XK} : EvD K (tCall (spCurve K) [] E (tCons te (tCons tf tNil))) σ H (cvD (mkCv cs sl)) :=
  evd_call (ead_cons ha (ead_cons hb ead_nil)) (spd_of (cs, sl) h)
theorem evd_levels {te : TE} {σ : L2.St} {H : Hp} {cvs : List Cv} (h : EvD K te σ H (.list (cvs.map cvD))) (ok : preLevels cvs) {E : XK} : EvD K (tCall (spLevels K) [] E (tCons te tNil)) σ H (.tuple ((levelsOf cvs).map fr)) :=
  evd_call (ead_cons h ead_nil) (spd_of cvs ok)
theorem evd_inOrder {te : TE} {σ : L2.St} {H : Hp} {qs : List Rat} (h : EvD K te σ H (.list (qs.map fr))) (ok : preInOrder qs) {E : XK} : EvD K (tCall (spInOrder K) [] E (tCons te tNil)) σ H (.tuple ((inOrder qs).map fr)) :=
  evd_call (ead_cons h ead_nil) (spd_of qs ok)
theorem EvB.mono {t : TT} {σ : L2.St} {H H' : Hp} {b : Bool} (e : Ex H H') (h : EvB t σ H b) : EvB t σ H' b := fun H1 a Q q => h H1 (e.trans a) Q q
/-- what a sum of curves asks -/
structure preAdd (cvs : List Cv) : Prop where
  ne : cvs ≠ []
  lv : preLevels cvs
  pay : ∀ x ∈ levelsOf cvs, (∀ c ∈ cvs, prePay c x) ∧ okTotal (cvs.map fun c => payAt c x)
  sl : okTotal (cvs.map (·.sl))
  cv : preCurve ((levelsOf cvs).map fun x => (x, (cvs.map fun c => payAt c x).sum))
abbrev spAdd (K : PySem.W.Frag) : Sp := SpOf K (α := List Cv) (fun a => [.list (a.map cvD)]) (fun a => preAdd a) (fun a => cvD (addedUp a))
theorem ok_added_up (M : Md P K mg base) : Kn P w K mg base CX0 "added_up" ["curves"] 38 (spAdd K) := by
  refine kn_mk M.d_added_up fun f fd F => okD F sc_added_up (fun _ => rfl) fun cvs cdv A outer s H vs E hr dv hs => ?_
  obtain ⟨v0, rfl, d0⟩ := dpa_one dv
  have d0 : Dp K H v0 (.list (cvs.map cvD)) := d0
  obtain ⟨hne, hlv, hpay, hsl, hcv⟩ := hs
  refine ⟨_, (pss_cons (ps_if (pt_cmpR (op_eqD hr.units) (pe_callB call_len_seq (by rfl) M.n_len PySem.boot_len (pa_cons (pv 0) pa_nil)) pe_int (nomark _)) (pss_one (ps_ret (pe_kn0 (ok_nothing M) hr))) pss_nil) (pss_cons (ps_setLc (i := 1) (own := [("level", 2)]) (g := (gName 2)) (tt := tYes) rfl sc_added_up.nd rfl rfl (sw_true rfl rfl rfl (by decide +kernel)) (pi_tup (pe_kn (ok_levels_of M) hr (pa_cons (pv 0) pa_nil))) (blkOk_by (N := ["curves", "corners", "level", "one"]) (sc := defScope s_added_up) (own := [("level", 2)]) (by decide +kernel)) (fun _ _ _ _ _ => (pg_name (i := 2) sc_added_up.nd rfl (by first | exact Or.inl rfl | exact Or.inr rfl))) (fun _ _ _ _ _ => pts_nil) (fun _ _ _ _ _ => (pe_tup (pa_cons (pv 2) (pa_cons (pe_kn (ok_total M) hr (pa_cons (pe_lc (own := [("one", 3)]) (g := (gName 3)) (tt := tYes) (wi := iList K _) rfl sc_added_up.nd (pi_list (pv 0)) (blkOk_by (own := [("one", 3)]) (by rfl)) (fun _ _ _ _ _ => (pg_name (i := 3) sc_added_up.nd rfl (by first | exact Or.inl rfl | exact Or.inr rfl))) (fun _ _ _ _ _ => pts_nil) (fun _ _ _ _ _ => (pe_kn (ok_pay_at M) hr (pa_cons (pv 3) (pa_cons (pv 2) pa_nil))))) pa_nil)) pa_nil))))) (pss_one (ps_ret (pe_kn (ok_curve M) hr (pa_cons (pv 1) (pa_cons (pe_kn (ok_total M) hr (pa_cons (pe_lc (own := [("one", 3)]) (g := (gName 3)) (tt := tYes) rfl sc_added_up.nd (pi_list (pv 0)) (blkOk_by (N := ["curves", "corners", "level", "one"]) (sc := defScope s_added_up) (own := [("one", 3)]) (by decide +kernel)) (fun _ _ _ _ _ => (pg_name (i := 3) sc_added_up.nd rfl (by first | exact Or.inl rfl | exact Or.inr rfl))) (fun _ _ _ _ _ => pts_nil) (fun _ _ _ _ _ => (pe_ix (r := rIxT K) ix_tup (pv 3) pe_int (fun _ _ => rfl)))) pa_nil)) pa_nil))))))), fun Q q => ?_⟩
  have hl0 : (cvs.map cvD).length = cvs.length := List.length_map ..
  refine sd_if (b := false) (evb_is (evb_test (K := K) (evd_op (evd_cb (ead_cons (evd_var rfl d0) ead_nil) rc_lenL) evd_int (rd_eqD (shaped_int _) (shaped_int _)))) ?_) (fun h => by cases h) fun _ H1 e1 => ?_
  · rw [eqv_int, hl0]
    have : 0 < cvs.length := List.length_pos_iff.mpr hne
    simp only [decide_eq_false_iff_not]; omega
  dsimp only [tNext]
  have hln := hlv.1
  have hllen : (levelsOf cvs).length ≤ 50000 := by
    have := hcv.2.2.1
    rwa [List.length_map] at this
  refine sd_set (K := K) (d := .list (((levelsOf cvs).map fun x => (x, (cvs.map fun c => payAt c x).sum)).map pt)) ((evd_lcT (xs := levelsOf cvs) (enc := fr) (keep := fun _ => true) (out := fun x => pt (x, (cvs.map fun c => payAt c x).sum)) (evd_levels (evd_var rfl (dp_ex e1 d0)) hlv) hllen (fun _ => rfl) fun x hx => turn_name (fun _ => rfl) fun y H3 e3 dy => ⟨evb_yes, fun _ => ?_⟩).is ?_) fun v1 H2 e2 d1 => ?_
  · refine evd_tup (ead_cons (evd_var rfl dy) (ead_cons (evd_totalL ((evd_lcL (xs := cvs) (enc := cvD) (keep := fun _ => true) (out := fun c => fr (payAt c x)) (evd_var rfl (dp_ex (e1.trans e3) d0)) (by omega) (fun _ => rfl) fun c hc => turn_name (fun _ => rfl) fun z H4 e4 dz => ⟨evb_yes, fun _ => evd_pay (evd_var rfl dz) (evd_var rfl (dp_ex e4 dy)) ((hpay x hx).1 c hc)⟩).is ?_) (hpay x hx).2) ead_nil)) (by simp)
    rw [filter_true, List.map_map]; rfl
  · rw [filter_true, List.map_map]; rfl
  · dsimp only
    refine sd_ret (K := K) (evd_curve (evd_var rfl d1) (evd_totalL ((evd_lcL (xs := cvs) (enc := cvD) (keep := fun _ => true) (out := fun c => fr c.sl) (evd_var rfl (dp_ex (e1.trans e2) d0)) (by omega) (fun _ => rfl) fun c hc => turn_name (fun _ => rfl) fun z H4 e4 dz => ⟨evb_yes, fun _ => evd_sl (evd_var rfl dz)⟩).is ?_) hsl) hcv) fun v H3 e3 dv => q v H3 ((e1.trans e2).trans e3) dv
    rw [filter_true, List.map_map]; rfl
/-- two curves at a level -/
structure prePart (a b : Cv) (x : Rat) : Prop where
  len : a.cs.length ≤ 40000 ∧ b.cs.length ≤ 40000
  fst : (∃ p ∈ a.cs, p.1 ≤ x) ∧ ∃ p ∈ b.cs, p.1 ≤ x
  sz : ∃ n m, CvSz n a ∧ CvSz n b ∧ sz x ≤ m ∧ 12 * n + 2 * m + 20 ≤ 100000000
theorem prePart.pa {a b : Cv} {x : Rat} (h : prePart a b x) : prePay a x := let ⟨n, m, h1, h2, h3, h4⟩ := h.sz; ⟨h.len.1, h.fst.1, n, m, h1, h3, by omega⟩
theorem prePart.pb {a b : Cv} {x : Rat} (h : prePart a b x) : prePay b x := let ⟨n, m, h1, h2, h3, h4⟩ := h.sz; ⟨h.len.2, h.fst.2, n, m, h2, h3, by omega⟩
theorem sz_pay {c : Cv} {x : Rat} {n m : Nat} (hc : CvSz n c) (hx : sz x ≤ m) (hex : ∃ p ∈ c.cs, p.1 ≤ x) : sz (payAt c x) ≤ 6 * n + m + 4 := by
  obtain ⟨hi, _⟩ := ixLe_lt hex
  have hg : c.cs[ixLe c x]? = some (c.cs.getD (ixLe c x) (0, 0)) := by
    rw [List.getD_eq_getElem?_getD, List.getElem?_eq_getElem hi]; rfl
  have hgm := List.mem_of_getElem? hg
  have h1 := hc.slope (ixLe c x)
  have h2 := (hc.pts _ hgm).1
  have h3 := (hc.pts _ hgm).2
  have h4 := sz_sub x (c.cs.getD (ixLe c x) (0, 0)).1
  have h5 := sz_mul (slopeAt c (ixLe c x)) (x - (c.cs.getD (ixLe c x) (0, 0)).1)
  have h6 := sz_add (c.cs.getD (ixLe c x) (0, 0)).2 (slopeAt c (ixLe c x) * (x - (c.cs.getD (ixLe c x) (0, 0)).1))
  unfold payAt
  omega
theorem prePart.ok {a b : Cv} {x : Rat} (h : prePart a b x) : okSz (payAt a x) (payAt b x) ∧ okSz (risesAt a x) (risesAt b x) := by
  obtain ⟨n, m, h1, h2, h3, h4⟩ := h.sz
  have a1 := sz_pay h1 h3 h.fst.1
  have a2 := sz_pay h2 h3 h.fst.2
  have b1 : My.sz (risesAt a x) ≤ 4 * n + 2 := h1.slope _
  have b2 : My.sz (risesAt b x) ≤ 4 * n + 2 := h2.slope _
  unfold okSz
  omega
abbrev spPart (K : PySem.W.Frag) : Sp := SpOf K (α := Cv × Cv × Rat) (fun a => [cvD a.1, cvD a.2.1, fr a.2.2]) (fun a => prePart a.1 a.2.1 a.2.2) (fun a => .tuple [fr (more a.1 a.2.1 a.2.2), fr (steeper a.1 a.2.1 a.2.2)])
theorem ok_parting (M : Md P K mg base) : Kn P w K mg base CX0 "parting" ["one", "other", "level"] 38 (spPart K) := by
  refine kn_mk M.d_parting fun f fd F => okD F sc_parting (fun _ => rfl) fun a cdv A outer s H vs E hr dv hs => ?_
  obtain ⟨a, b, x⟩ := a
  obtain ⟨v0, v1, v2, rfl, d0, d1, d2⟩ := dpa_three dv
  have hs : prePart a b x := hs
  have d0 : Dp K H v0 (cvD a) := d0
  have d1 : Dp K H v1 (cvD b) := d1
  have d2 : Dp K H v2 (fr x) := d2
  refine ⟨_, (pss_cons (ps_set (i := 3) sc_parting.nd rfl (.inl rfl) (pe_kn (ok_lessened M) hr (pa_cons (pe_kn (ok_pay_at M) hr (pa_cons (pv 0) (pa_cons (pv 2) pa_nil))) (pa_cons (pe_kn (ok_pay_at M) hr (pa_cons (pv 1) (pa_cons (pv 2) pa_nil))) pa_nil)))) (pss_one (ps_ret (pe_tup (pa_cons (pv 3) (pa_cons (pe_kn (ok_lessened M) hr (pa_cons (pe_kn (ok_rises_at M) hr (pa_cons (pv 0) (pa_cons (pv 2) pa_nil))) (pa_cons (pe_kn (ok_rises_at M) hr (pa_cons (pv 1) (pa_cons (pv 2) pa_nil))) pa_nil))) pa_nil)))))), fun Q q => ?_⟩
  refine sd_set (K := K) (evd_qq (evd_pay (evd_var rfl d0) (evd_var rfl d2) hs.pa) (evd_pay (evd_var rfl d1) (evd_var rfl d2) hs.pb) hs.ok.1) fun v3 H1 e1 d3 => ?_
  dsimp only
  exact sd_ret (K := K) (evd_tup (ead_cons (evd_var rfl d3) (ead_cons (evd_qq (evd_rises (evd_var rfl (dp_ex e1 d0)) (evd_var rfl (dp_ex e1 d2)) hs.pa) (evd_rises (evd_var rfl (dp_ex e1 d1)) (evd_var rfl (dp_ex e1 d2)) hs.pb) hs.ok.2) ead_nil)) (by simp)) fun v H2 e2 dv => q v H2 (e1.trans e2) dv
theorem evd_part {te tf tg : TE} {σ : L2.St} {H : Hp} {a b : Cv} {x : Rat} (ha : EvD K te σ H (cvD a)) (hb : EvD K tf σ H (cvD b)) (hx : EvD K tg σ H (fr x)) (h : prePart a b x) {E : XK} : EvD K (tCall (spPart K) [] E (tCons te (tCons tf (tCons tg tNil)))) σ H (.tuple [fr (more a b x), fr (steeper a b x)]) :=
  evd_call (ead_cons ha (ead_cons hb (ead_cons hx ead_nil))) (spd_of (a, b, x) h)
end
end My
namespace My
open PySem PySem.Spec PyProof.Rows L2
open Evl (Ex ex_l ex_t fresh_back)
section
variable {K : PySem.W.Frag} {σ : L2.St} {H : Hp} {D : Ends} {te : TE} {ta : TA} {d : PyData} {ds : List PyData} {tu : TS}
theorem et_t {H H' : Hp} {a : Addr} {xs : List V} (e : Et H H') (h : SqT K H a xs) : SqT K H' a xs := by
  rcases h with (h | ⟨o, h⟩) | h
  · exact .inl (.inl (e.tups _ _ h))
  · exact .inl (.inr ⟨o, e.frzs _ _ _ h⟩)
  · exact .inr h
theorem Em.et {l : Addr} {H H' : Hp} {xs : List V} (hl : H l = some (.lst xs)) (m : Em l H H') : Et H H' :=
  ⟨fun a ys h => m a _ (ne_of h hl (by intro z; cases z)) h, fun a o u h => m a _ (ne_of h hl (by intro z; cases z)) h⟩
theorem sd_forE {j k : Nat} (h : EvAs K ta σ H [.tuple ds]) (htd : tupAll ds = true) (Pv : Hp → Nat → L2.St → Hp → Prop) (h0 : ∀ H1, Ex H H1 → Pv H1 0 σ H1) (hl : ∀ H1 i σ' H', Pv H1 i σ' H' → Et H1 H')
    (hs : ∀ H1 i d σ' H', ds[i]? = some d → Pv H1 i σ' H' → ∀ v H2, Ex H' H2 → Dp K H2 v d → tu { D with nx := Pv H1 (i + 1), ct := Pv H1 (i + 1), bk := D.nx } ((σ'.set j (some (.int (i : Nat)))).set k (some v)) H2)
    (hd : ∀ H1 σ' H', Pv H1 ds.length σ' H' → D.nx σ' H') : tFor (iEnumT K ta) (gTup K 2 (gCons (gName j) (gCons (gName k) gNil))) tu D σ H :=
  h H (Ex.refl H) _ fun vs H1 e dv => by
    obtain ⟨v0, rfl, d0⟩ := dpa_one dv
    cases d0 with
    | tup hs0 ha =>
      rename_i a xs
      have hlen := dpa_len ha
      refine ⟨a, xs, rfl, hs0, fun i m σ' H' => m = xs.length - i ∧ i ≤ xs.length ∧ Pv H1 i σ' H', ⟨xs.length, by simp, Nat.zero_le _, h0 H1 e⟩, ?_⟩
      rintro i m σ' H' ⟨rfl, hi, p⟩
      have et := hl H1 i σ' H' p
      have q := et_t et hs0
      by_cases hlt : i < xs.length
      · refine .inr ⟨⟨xs, xs[i], q, by simp [hlt]⟩, Pv H1 (i + 1), fun σ2 H2 p' => ⟨xs.length - (i + 1), by omega, rfl, hlt, p'⟩, fun x H2 y => ?_⟩
        obtain ⟨T, x', rfl, hT, rfl, hx'⟩ := y
        have hx := hx' xs q
        have ha' := dpa_et et htd ha
        obtain ⟨d, hd', dx⟩ := dpa_getV ha' hx
        have eT : Ex H' (upd H' T (.tup [.int (i : Nat), x'])) := Ex.new hT
        exact ⟨T, _, rfl, .inl (.inl upd_same), rfl, _, [x'], rfl, x', [], rfl, rfl, hs H1 i d σ' H' hd' p x' _ eT (dp_ex eT dx)⟩
      · have e2 : i = xs.length := by omega
        subst e2
        exact .inl ⟨⟨xs, q, Nat.le_refl _⟩, hd H1 σ' H' (by rw [← hlen]; exact p)⟩
/-- [out(i) for i, x in enumerate(t) if keep(i)] -/
def Lwi (K : PySem.W.Frag) (H : Hp) (D : Addr) (keep : Nat → Bool) (out : Nat → PyData) (i : Nat) (H' : Hp) : Prop :=
  Ex H H' ∧ ∃ acc, H' D = some (.lst acc) ∧ DpAll K H' acc (((List.range i).filter keep).map out)
theorem evd_lcE {keep : Nat → Bool} {out : Nat → PyData} {tt : TT} {vs : List Nat} {j k : Nat} (h : EvAs K ta σ H [.tuple ds]) (hlen : ds.length ≤ 50000) (ho : ∀ a, tupOnly (out a) = true)
    (hw : ∀ x y, wipe (((wipe σ vs).set j (some x)).set k (some y)) vs = wipe σ vs)
    (step : ∀ i d, ds[i]? = some d → ∀ y H2, Ex H H2 → Dp K H2 y d → EvB tt (((wipe σ vs).set j (some (.int (i : Nat)))).set k (some y)) H2 (keep i) ∧ (keep i = true → EvD K te (((wipe σ vs).set j (some (.int (i : Nat)))).set k (some y)) H2 (out i))) :
    EvD K (tLc (iEnumT K ta) (gTup K 2 (gCons (gName j) (gCons (gName k) gNil))) tt te vs) σ H (.list (((List.range ds.length).filter keep).map out)) := fun H1 e Q q =>
  h H1 e _ fun us H2 e2 dv => by
    obtain ⟨v0, rfl, d0⟩ := dpa_one dv
    cases d0 with
    | tup hs0 ha =>
      rename_i a xs
      have hl := dpa_len ha
      refine ⟨a, xs, rfl, hs0, fun D hD => ⟨fun i m H' => m = xs.length - i ∧ i ≤ xs.length ∧ Lwi K H2 D keep out i H', ⟨xs.length, by simp, Nat.zero_le _, Ex.new hD, [], upd_same, .nil⟩, ?_⟩⟩
      rintro i m H' ⟨rfl, hi, p⟩
      obtain ⟨e3, acc, hA, dA⟩ := p
      have q0 := ex_t e3 hs0
      by_cases hlt : i < xs.length
      · refine .inr ⟨⟨xs, xs[i], q0, by simp [hlt]⟩, Lwi K H2 D keep out (i + 1), fun H' p' => ⟨xs.length - (i + 1), by omega, rfl, hlt, p'⟩, fun x H3 y => ?_⟩
        obtain ⟨T, x', rfl, hT, rfl, hx'⟩ := y
        have hx := hx' xs q0
        obtain ⟨d, hd', dx⟩ := dpa_getV (dpa_ex e3 ha) hx
        have eT : Ex H' (upd H' T (.tup [.int (i : Nat), x'])) := Ex.new hT
        obtain ⟨ht, he⟩ := step i d hd' x' _ (((e.trans e2).trans e3).trans eT) (dp_ex eT dx)
        refine ⟨T, _, rfl, .inl (.inl upd_same), rfl, _, [x'], rfl, x', [], rfl, rfl, hw _ _, ?_⟩
        refine ht _ (Ex.refl _) _ fun H4 e4 => ?_
        have hrange : List.range (i + 1) = List.range i ++ [i] := List.range_succ
        have hA4 := e4 _ _ (eT _ _ hA)
        have dA4 := dpa_ex (eT.trans e4) dA
        cases hk : keep i with
        | true =>
          rw [if_pos rfl]
          refine he hk H4 e4 _ fun y H5 e5 dy => ⟨acc, e5 _ _ hA4, ?_, ?_, acc ++ [y], upd_same, ?_⟩
          · rw [dpa_len dA, List.length_map]
            have h1 := List.length_filter_le keep (List.range i)
            rw [List.length_range] at h1
            exact Evl.sz_lt (by omega)
          · exact Ex.mut (((e3.trans eT).trans e4).trans e5) hD
          · have et : Et H5 (upd H5 D (.lst (acc ++ [y]))) := Et.upd (e5 _ _ hA4)
            rw [hrange, List.filter_append, List.map_append]
            have hf : [i].filter keep = [i] := by simp [hk]
            rw [hf]
            exact dpa_app (dpa_et et (tupAll_map ho _) (dpa_ex e5 dA4)) (.cons (dp_et et (ho i) dy) .nil)
        | false =>
          rw [if_neg Bool.false_ne_true]
          refine ⟨(e3.trans eT).trans e4, acc, hA4, ?_⟩
          rw [hrange, List.filter_append, List.map_append]
          have hf : [i].filter keep = [] := by simp [hk]
          rw [hf]
          simpa using dA4
      · have e5 : i = xs.length := by omega
        subst e5
        refine .inl ⟨⟨xs, q0, Nat.le_refl _⟩, q _ H' (e2.trans e3) (.lst (.inl (.inl hA)) ?_)⟩
        rw [hl] at dA
        exact dA
/-- a, b = [], e -/
theorem sd_parL {i j : Nat} (h : EvD K te σ H d) (k : ∀ p v H1, H p = none → Ex H H1 → LS K H1 p [] → Dp K H1 v d → D.nx ((σ.set i (some (.ref p))).set j (some v)) H1) : tPar i j (tCons (tLst tNil) (tCons te tNil)) D σ H :=
  ⟨Nat.zero_le _, fun p hp => (h.mono (Ex.new (o := .lst []) hp)) _ (Ex.refl _) _ fun v H1 e dv => ⟨.ref p, v, rfl, k p v H1 hp ((Ex.new hp).trans e) (LS.ex e ⟨[], upd_same, .nil⟩) dv⟩⟩
/-- a, b = e, [] -/
theorem sd_parR {i j : Nat} (h : EvD K te σ H d) (k : ∀ v p H1, H p = none → Ex H H1 → LS K H1 p [] → Dp K H1 v d → D.nx ((σ.set i (some v)).set j (some (.ref p))) H1) : tPar i j (tCons te (tCons (tLst tNil) tNil)) D σ H :=
  h H (Ex.refl H) _ fun v H1 e dv => ⟨Nat.zero_le _, fun p hp => ⟨v, .ref p, rfl, k v p _ (fresh_back e hp) (e.trans (Ex.new hp)) ⟨[], upd_same, .nil⟩ (dp_ex (Ex.new hp) dv)⟩⟩
theorem evb_or {t u : TT} {a b : Bool} (h1 : EvB t σ H a) (h2 : a = false → EvB u σ H b) : EvB (tOr t u) σ H (a || b) := fun H1 e Q q => h1 H1 e _ fun H2 e2 => by
  cases a with
  | true =>
    show Q true H2
    exact q H2 e2
  | false =>
    show u σ H2 Q
    exact h2 rfl H2 (e.trans e2) Q fun H3 e3 => q H3 (e2.trans e3)
end
end My
namespace My
open PySem PySem.Spec PyProof.Rows L2
open Evl (Ex ex_l ex_t fresh_back)
theorem fr_absR (q : Rat) : PyData.tuple [.int (q.num.natAbs : Nat), .int ((q.den : Nat) : Int)] = fr (absR q) := by
  obtain ⟨h1, h2⟩ := absR_num q
  show _ = PyData.tuple [.int (absR q).num, .int (((absR q).den : Nat) : Int)]
  rw [h1, h2]
theorem prePart.ofMeet {a b : Cv} (h : preMeet a b) {n m : Nat} (ha : CvSz n a) (hb : CvSz n b) {x : Rat} (h0 : 0 ≤ x) (hx : My.sz x ≤ m) (hn : 12 * n + 2 * m + 20 ≤ 100000000) : prePart a b x := by
  obtain ⟨p, hp, e⟩ := h.za
  obtain ⟨q, hq, e'⟩ := h.zb
  have := h.len
  exact ⟨⟨by omega, by omega⟩, ⟨⟨p, hp, by rw [e]; exact h0⟩, ⟨q, hq, by rw [e']; exact h0⟩⟩, n, m, ha, hb, hx, hn⟩
theorem sz_more {a b : Cv} {x : Rat} (h : prePart a b x) {n m : Nat} (ha : CvSz n a) (hb : CvSz n b) (hx : sz x ≤ m) : sz (more a b x) ≤ 12 * n + 2 * m + 9 ∧ sz (steeper a b x) ≤ 8 * n + 5 := by
  have a1 := sz_pay ha hx h.fst.1
  have a2 := sz_pay hb hx h.fst.2
  have b1 : My.sz (risesAt a x) ≤ 4 * n + 2 := ha.slope _
  have b2 : My.sz (risesAt b x) ≤ 4 * n + 2 := hb.slope _
  have c1 := sz_sub (payAt a x) (payAt b x)
  have c2 := sz_sub (risesAt a x) (risesAt b x)
  unfold more steeper
  omega
section
variable {P : Program} {w : World} {K : PySem.W.Frag} {mg : Str → Option Value} {base : Heap}
abbrev spMeet (K : PySem.W.Frag) : Sp := SpOf K (α := Cv × Cv) (fun a => [cvD a.1, cvD a.2]) (fun a => preMeet a.1 a.2) (fun a => .list ((meetings a.1 a.2).map fr))
theorem preLevels2 {a b : Cv} (h : preMeet a b) : preLevels [a, b] := by
  obtain ⟨n, ha, hb, h1, h2⟩ := h.siz
  have := h.len
  refine ⟨by simp, ?_, n, h1, ?_, by omega⟩
  · intro c hc
    rcases List.mem_cons.mp hc with rfl | hc
    · exact this.1
    · rw [List.mem_singleton.mp hc]; exact this.2
  · intro c hc p hp
    rcases List.mem_cons.mp hc with rfl | hc
    · exact (ha.pts p hp).1
    · rw [List.mem_singleton.mp hc] at hp; exact (hb.pts p hp).1
theorem ok_meetings (M : Md P K mg base) : Kn P w K mg base CX0 "meetings" ["one", "other"] 39 (spMeet K) := by
  refine kn_mk M.d_meetings fun f fd F => okD F sc_meetings (fun _ => rfl) fun a cdv A outer s H vs E hr dv hs => ?_
  obtain ⟨a, b⟩ := a
  obtain ⟨v0, v1, rfl, d0, d1⟩ := dpa_two dv
  have hs : preMeet a b := hs
  have d0 : Dp K H v0 (cvD a) := d0
  have d1 : Dp K H v1 (cvD b) := d1
  obtain ⟨n, ha, hb, hn1, hn⟩ := hs.siz
  refine ⟨_, (pss_cons (ps_par (i := 2) (j := 3) (by rfl) sc_meetings.nd rfl rfl (by decide) rfl rfl (pa_cons (pe_lst pa_nil) (pa_cons (pe_kn (ok_levels_of M) hr (pa_cons (pe_lst (pa_cons (pv 0) (pa_cons (pv 1) pa_nil))) pa_nil)) pa_nil)) (by rfl)) (pss_cons (ps_for PassesOwn.never rfl (pi_enumT (by rfl) M.n_enumerate (pa_cons (pv 3) pa_nil)) (pg_tup rfl (pgs_cons (pg_name (i := 4) sc_meetings.nd rfl (Or.inl rfl)) (pgs_cons (pg_name (i := 5) sc_meetings.nd rfl (Or.inl rfl)) pgs_nil))) (pss_cons (ps_asg (pe_kn (ok_parting M) hr (pa_cons (pv 0) (pa_cons (pv 1) (pa_cons (pv 5) pa_nil)))) (pg_tup rfl (pgs_cons (pg_name (i := 6) sc_meetings.nd rfl (Or.inl rfl)) (pgs_cons (pg_name (i := 7) sc_meetings.nd rfl (Or.inl rfl)) pgs_nil)))) (pss_one (ps_if (pt_cmpR op_lt (pe_op op_mulX (pe_ix ix_tup (pv 6) pe_int (fun _ _ => rfl)) (pe_ix ix_tup (pv 7) pe_int (fun _ _ => rfl))) pe_int (nomark _)) (pss_cons (ps_set (i := 8) sc_meetings.nd rfl (.inl rfl) (pe_kn (ok_added M) hr (pa_cons (pv 5) (pa_cons (pe_kn (ok_over M) hr (pa_cons (pe_tup (pa_cons (pe_callB call_abs (by rfl) M.n_abs (by decide +kernel) (pa_cons (pe_ix ix_tup (pv 6) pe_int (fun _ _ => rfl)) pa_nil)) (pa_cons (pe_ix ix_tup (pv 6) pe_int (fun _ _ => rfl)) pa_nil))) (pa_cons (pe_tup (pa_cons (pe_callB call_abs (by rfl) M.n_abs (by decide +kernel) (pa_cons (pe_ix ix_tup (pv 7) pe_int (fun _ _ => rfl)) pa_nil)) (pa_cons (pe_ix ix_tup (pv 7) pe_int (fun _ _ => rfl)) pa_nil))) pa_nil))) pa_nil)))) (pss_one (ps_if (PW.pt (pw_or (pt_cmpR (op_eqD hr.units) (pe_op op_add (pv 4) pe_int) (pe_callB call_len_seq (by rfl) M.n_len PySem.boot_len (pa_cons (pv 3) pa_nil)) (nomark _)) (pw_or1 (pt_cmpR op_lt (pe_kn (ok_compared M) hr (pa_cons (pv 8) (pa_cons (pe_ix ix_tup (pv 3) (pe_op op_add (pv 4) pe_int) (fun _ _ => rfl)) pa_nil))) pe_int (nomark _))))) (pss_one (ps_expr (pe_bm PySem.F.plainAttrs_list PySem.F.slot_list_append PySem.F.type_list_append mt_append (pv 2) (pa_cons (pv 8) pa_nil)))) pss_nil))) pss_nil)))) (pss_one (ps_ret (pv 2))))), fun Q q => ?_⟩
  refine sd_parL (K := K) (evd_levels (cvs := [a, b]) (evd_lst (ead_cons (evd_var rfl d0) (ead_cons (evd_var rfl d1) ead_nil)) (by simp)) (preLevels2 hs)) fun l v3 H1 hl0 e1 sl1 d3 => ?_
  dsimp only
  have hL : ((levelsOf [a, b]).map fr).length = (levelsOf [a, b]).length := List.length_map ..
  have hLl := levels2_len hs
  have hmono : ∀ {H2 H3 : Hp}, Em l H1 H2 → LS K H1 l [] → Em l H2 H3 → Em l H1 H3 := fun a _ b => a.trans b
  have hH1 : ∃ xs, H1 l = some (.lst xs) := let ⟨xs, h, _⟩ := sl1; ⟨xs, h⟩
  refine sd_forE (ds := (levelsOf [a, b]).map fr) (ead_cons (evd_var rfl d3) ead_nil) (tupAll_map to_fr _)
    (fun Hs i σ' H' => ∃ ms x4 x5 x6 x7 x8, σ' = [some v0, some v1, some (.ref l), some v3, x4, x5, x6, x7, x8] ∧ Ex H1 Hs ∧ Em l Hs H' ∧ LS K H' l (ms.map fr) ∧ ms.length ≤ i ∧ i ≤ 601 ∧ ms ++ meetGo a b ((levelsOf [a, b]).drop i) = meetings a b)
    (fun H2 e2 => ⟨[], none, none, none, none, none, rfl, e2, fun b o _ h => h, sl1.ex e2, Nat.le_refl 0, Nat.zero_le _, by rw [List.drop_zero]; rfl⟩) (fun Hs i σ' H' ⟨ms, _, _, _, _, _, _, es, m, _⟩ => ?_) ?_ ?_
  · obtain ⟨xs, h⟩ := hH1
    exact m.et (es _ _ h)
  · rintro Hs i d σ' H' hd ⟨ms, x4, x5, x6, x7, x8, rfl, es, m, hls, hml, hi, hR⟩ v H2 e2 dv
    rw [List.getElem?_map] at hd
    obtain ⟨x, hx, rfl⟩ : ∃ x, (levelsOf [a, b])[i]? = some x ∧ fr x = d := by
      cases e : (levelsOf [a, b])[i]? with
      | none => rw [e] at hd; cases hd
      | some x => rw [e] at hd; exact ⟨x, rfl, Option.some.inj hd⟩
    obtain ⟨hil, hxe⟩ := List.getElem?_eq_some_iff.mp hx
    have hxm : x ∈ levelsOf [a, b] := List.mem_of_getElem? hx
    obtain ⟨hx0, hxs⟩ := hs.lev ha hb hn1 hxm
    have hpp : prePart a b x := prePart.ofMeet hs ha hb hx0 hxs (by omega)
    obtain ⟨hm1, hm2⟩ := sz_more hpp ha hb hxs
    have hdrop : (levelsOf [a, b]).drop i = x :: (levelsOf [a, b]).drop (i + 1) := by
      rw [List.drop_eq_getElem_cons hil, hxe]
    have hhead : ((levelsOf [a, b]).drop (i + 1)).head? = (levelsOf [a, b])[i + 1]? := by rw [List.head?_drop]
    have em : Em l H1 H2 := ((Em.of es).trans m).trans (Em.of e2)
    have et : Et H1 H2 := by
      obtain ⟨xs, h⟩ := hH1
      exact em.et h
    have hls2 := hls.ex e2
    have D0 : Dp K H2 v0 (cvD a) := dp_et et (to_cv a) (dp_ex e1 d0)
    have D1 : Dp K H2 v1 (cvD b) := dp_et et (to_cv b) (dp_ex e1 d1)
    have D3 : Dp K H2 v3 (.tuple ((levelsOf [a, b]).map fr)) := dp_et et (by show tupAll _ = true; exact tupAll_map to_fr _) d3
    refine sd_unp2 (K := K) (d1 := fr (more a b x)) (d2 := fr (steeper a b x)) (evd_part (evd_var rfl D0) (evd_var rfl D1) (evd_var rfl dv) hpp) fun v6 v7 H3 e3 d6 d7 => ?_
    dsimp only
    have fin : ∀ {σ2 : L2.St} {H4 : Hp} {y4 y5 y6 y7 y8 : Option V}, meetAt a b x (levelsOf [a, b])[i + 1]? = [] → Ex H2 H4 → σ2 = [some v0, some v1, some (.ref l), some v3, y4, y5, y6, y7, y8] →
        ∃ ms x4 x5 x6 x7 x8, σ2 = [some v0, some v1, some (.ref l), some v3, x4, x5, x6, x7, x8] ∧ Ex H1 Hs ∧ Em l Hs H4 ∧ LS K H4 l (ms.map fr) ∧ ms.length ≤ i + 1 ∧ i + 1 ≤ 601 ∧ ms ++ meetGo a b ((levelsOf [a, b]).drop (i + 1)) = meetings a b := fun {σ2 H4 y4 y5 y6 y7 y8} hma e4 hσ =>
      ⟨ms, _, _, _, _, _, hσ, es, (m.trans (Em.of e2)).trans (Em.of e4), hls2.ex e4, by omega, by omega, by rw [← hR, hdrop]; simp only [meetGo, hhead, hma, List.nil_append]⟩
    refine sd_if (b := decide (more a b x * steeper a b x < 0)) (evb_is (evb_test (K := K) (evd_op (evd_op (evd_num (evd_var rfl d6)) (evd_num (evd_var rfl d7)) (rd_I (cmul_nn (by show sz _ + sz _ ≤ _; omega)))) evd_int rd_B0)) ?_) (fun hbb H4 e4 => ?_) (fun hbb H4 e4 => ?_)
    · simp only [decide_eq_decide]; exact num_mul_neg _ _
    · have hneg : more a b x * steeper a b x < 0 := of_decide_eq_true hbb
      have hst : steeper a b x ≠ 0 := by intro z; rw [z] at hneg; grind
      have hsp := absR_pos hst
      have s1 := sz_absR (more a b x)
      have s2 := sz_absR (steeper a b x)
      have s3 := sz_div (absR (more a b x)) (absR (steeper a b x))
      have s4 := sz_add x (absR (more a b x) / absR (steeper a b x))
      try dsimp only
      refine sd_set (K := K) (d := fr (x + absR (more a b x) / absR (steeper a b x))) (evd_qq (evd_var rfl (dp_ex (e3.trans e4) dv)) (evd_qq ((evd_tup (ead_cons (evd_cb (ead_cons (evd_num (evd_var rfl (dp_ex e4 d6))) ead_nil) rc_abs) (ead_cons (evd_den (evd_var rfl (dp_ex e4 d6))) ead_nil)) (by simp)).is (fr_absR _)) ((evd_tup (ead_cons (evd_cb (ead_cons (evd_num (evd_var rfl (dp_ex e4 d7))) ead_nil) rc_abs) (ead_cons (evd_den (evd_var rfl (dp_ex e4 d7))) ead_nil)) (by simp)).is (fr_absR _)) (And.intro (by show sz _ + sz _ ≤ _; omega) (by intro z; rw [z] at hsp; grind))) (by show sz _ + sz _ ≤ _; omega)) fun v8 H5 e5 d8 => ?_
      · dsimp only
        have dat : ∀ H, Dp K H (.int (i : Nat)) (.int (i : Nat)) := fun _ => .int _
        have e25 := (e3.trans e4).trans e5
        -- is it ahead of the next level?
        have hcond : ∃ c : Bool, EvB (tOr (tTest (tOp (rEqD K) (tOp (rI0 fun i j => .int (i + j)) (tVar 4) (tC (.int 1))) (tCB (rLenK K) (tCons (tVar 3) tNil)))) (tTest (tOp (rI0 fun i j => .bl (decide (i < j))) (tCall (SpOf K (α := Rat × Rat) (fun a => [fr a.1, fr a.2]) (fun a => okSz a.1 a.2) (fun a => .int (cmp a.1 a.2))) [] E0 (tCons (tVar 8) (tCons (tOp (rIxT K) (tVar 3) (tOp (rI0 fun i j => .int (i + j)) (tVar 4) (tC (.int 1)))) tNil))) (tC (.int 0)))))
            [some v0, some v1, some (.ref l), some v3, some (.int (i : Nat)), some v, some v6, some v7, some v8] H5 c ∧ meetAt a b x (levelsOf [a, b])[i + 1]? = if c then [x + absR (more a b x) / absR (steeper a b x)] else [] := by
          have ma : meetAt a b x (levelsOf [a, b])[i + 1]? = (match (levelsOf [a, b])[i + 1]? with
              | none => [x + absR (more a b x) / absR (steeper a b x)]
              | some y => if x + absR (more a b x) / absR (steeper a b x) < y then [x + absR (more a b x) / absR (steeper a b x)] else []) := by
            unfold meetAt; rw [if_pos hneg] <;> rfl
          have t1 : EvB (tTest (tOp (rEqD K) (tOp (rI0 fun i j => .int (i + j)) (tVar 4) (tC (.int 1))) (tCB (rLenK K) (tCons (tVar 3) tNil)))) [some v0, some v1, some (.ref l), some v3, some (.int (i : Nat)), some v, some v6, some v7, some v8] H5 (decide (i + 1 = (levelsOf [a, b]).length)) := by
            refine evb_is (evb_test (K := K) (evd_op (evd_op (evd_var rfl (dat _)) evd_int rd_I0) (evd_cb (ead_cons (evd_var rfl (dp_ex e25 D3)) ead_nil) rc_lenT) (rd_eqD (shaped_int _) (shaped_int _)))) ?_
            rw [eqv_int, hL]
            simp only [decide_eq_decide]; omega
          cases hnx : (levelsOf [a, b])[i + 1]? with
          | none =>
            have hlast : i + 1 = (levelsOf [a, b]).length := by have := List.getElem?_eq_none_iff.mp hnx; omega
            refine ⟨true || true, evb_or (evb_is t1 (decide_eq_true hlast)) (fun z => by cases z), ?_⟩
            rw [hnx] at ma; rw [ma]; rfl
          | some y =>
            have hnl : ¬ i + 1 = (levelsOf [a, b]).length := by
              have := (List.getElem?_eq_some_iff.mp hnx).1; omega
            obtain ⟨_, hys⟩ := hs.lev ha hb hn1 (List.mem_of_getElem? hnx)
            refine ⟨false || decide (x + absR (more a b x) / absR (steeper a b x) < y), evb_or (evb_is t1 (decide_eq_false hnl)) (fun _ => evb_is (evb_test (K := K) (evd_op (evd_cmp (evd_var rfl d8) (evd_op (evd_var rfl (dp_ex e25 D3)) ((evd_op (evd_var rfl (dat _)) evd_int rd_I0).is (x := .int ((i + 1 : Nat) : Int)) rfl) (rd_ixT (i := i + 1) (d := fr y) ?_)) ?_) evd_int rd_B0)) (cmp_neg _ _)), ?_⟩
            · rw [List.getElem?_map, hnx]; rfl
            · show sz _ + sz _ ≤ _; omega
            · rw [hnx] at ma; rw [ma]
              simp only [Bool.false_or]
              by_cases hlt : x + absR (more a b x) / absR (steeper a b x) < y <;> simp [hlt]
        obtain ⟨c, hc, hma⟩ := hcond
        refine sd_if (b := c) hc (fun hct H6 e6 => ?_) (fun hcf H6 e6 => ?_)
        · subst hct
          try dsimp only
          refine sd_app (K := K) (ds := ms.map fr) ((hls2.ex e25).ex e6) rfl (evd_var rfl (dp_ex e6 d8)) (tupAll_map to_fr _) (to_fr _) (by rw [List.length_map]; omega) fun H7 m7 hls7 => ?_
          refine ⟨ms ++ [x + absR (more a b x) / absR (steeper a b x)], _, _, _, _, _, rfl, es, ((m.trans (Em.of e2)).trans (Em.of (e25.trans e6))).trans m7, ?_, ?_, by omega, ?_⟩
          · rw [List.map_append]; exact hls7
          · rw [List.length_append]; simp; omega
          · rw [← hR, hdrop]
            simp only [meetGo, hhead, hma, if_pos, List.append_assoc, List.cons_append, List.nil_append]
        · subst hcf
          exact fin (by rw [hma]; rfl) (e25.trans e6) rfl
    · have hneg : ¬ more a b x * steeper a b x < 0 := of_decide_eq_false hbb
      exact fin (by unfold meetAt; rw [if_neg hneg]) (e3.trans e4) rfl
  · rintro Hs σ' H' ⟨ms, x4, x5, x6, x7, x8, rfl, es, m, hls, hml, hi, hR⟩
    rw [hL, List.drop_length] at hR
    simp only [meetGo, List.append_nil] at hR
    subst hR
    have em : Em l H1 H' := (Em.of es).trans m
    try dsimp only
    exact sd_ret (K := K) (evd_var rfl hls.dp) fun v H2 e2 dv => q v H2 ((Em.ex e1 hl0 em).trans e2) dv
theorem evd_meet {te tf : TE} {σ : L2.St} {H : Hp} {a b : Cv} (ha : EvD K te σ H (cvD a)) (hb : EvD K tf σ H (cvD b)) (h : preMeet a b) {E : XK} : EvD K (tCall (spMeet K) [] E (tCons te (tCons tf tNil))) σ H (.list ((meetings a b).map fr)) :=
  evd_call (ead_cons ha (ead_cons hb ead_nil)) (spd_of (a, b) h)
theorem meetGo_mem {a b : Cv} {y : Rat} : ∀ {l : List Rat}, y ∈ meetGo a b l → ∃ x ∈ l, more a b x * steeper a b x < 0 ∧ y = x + absR (more a b x) / absR (steeper a b x)
  | [], h => by simp [meetGo] at h
  | x :: r, h => by
    simp only [meetGo, List.mem_append] at h
    rcases h with h | h
    · refine ⟨x, List.mem_cons_self .., ?_⟩
      unfold meetAt at h
      split at h
      · rename_i hn
        refine ⟨hn, ?_⟩
        dsimp only at h
        split at h
        · exact List.mem_singleton.mp h
        · split at h
          · exact List.mem_singleton.mp h
          · cases h
      · cases h
    · obtain ⟨x', hx, hh⟩ := meetGo_mem h
      exact ⟨x', List.mem_cons_of_mem _ hx, hh⟩
theorem div_nonneg' {a b : Rat} (ha : 0 ≤ a) (hb : 0 < b) : 0 ≤ a / b := by
  rw [Rat.div_def]
  exact Rat.mul_nonneg ha (Rat.le_of_lt (Rat.inv_pos.mpr hb))
/-- the levels of the greater one: not below 0, of bounded size -/
theorem maxLevels_ok {a b : Cv} (h : preMeet a b) {n : Nat} (ha : CvSz n a) (hb : CvSz n b) (hn : 1 ≤ n) (hn2 : 200 * n + 200 ≤ 100000000) {x : Rat} (hx : x ∈ maxLevels a b) : 0 ≤ x ∧ sz x ≤ 23 * n + 16 := by
  unfold maxLevels at hx
  rw [inOrder_mem, List.mem_append] at hx
  rcases hx with hx | hx
  · obtain ⟨h0, h1⟩ := h.lev ha hb hn hx
    exact ⟨h0, by omega⟩
  · obtain ⟨y, hy, hneg, rfl⟩ := meetGo_mem hx
    obtain ⟨h0, h1⟩ := h.lev ha hb hn hy
    have hpp : prePart a b y := prePart.ofMeet h ha hb h0 h1 (by omega)
    obtain ⟨m1, m2⟩ := sz_more hpp ha hb h1
    have hst : steeper a b y ≠ 0 := by intro z; rw [z] at hneg; grind
    have s1 := sz_absR (more a b y)
    have s2 := sz_absR (steeper a b y)
    have s3 := sz_div (absR (more a b y)) (absR (steeper a b y))
    have s4 := sz_add y (absR (more a b y) / absR (steeper a b y))
    have := div_nonneg' (absR_nonneg (more a b y)) (absR_pos hst)
    exact ⟨by grind, by omega⟩
theorem maxLevels_len {a b : Cv} (h : preMeet a b) : (maxLevels a b).length ≤ 1202 := by
  have h1 := inOrder_len (levelsOf [a, b] ++ meetings a b)
  have h2 := levels2_len h
  have h3 := meetGo_len a b (levelsOf [a, b])
  rw [List.length_append] at h1
  unfold maxLevels
  unfold meetings at *
  omega
theorem zero_levels {a b : Cv} : (0 : Rat) ∈ maxLevels a b := by
  unfold maxLevels
  rw [inOrder_mem, List.mem_append]
  left
  unfold levelsOf
  rw [inOrder_mem]
  exact List.mem_cons_self ..
abbrev spGreater (K : PySem.W.Frag) : Sp := SpOf K (α := Cv × Cv) (fun a => [cvD a.1, cvD a.2]) (fun a => preMeet a.1 a.2) (fun a => cvD (greaterOf a.1 a.2))
theorem evd_isMine {te tf : TE} {σ : L2.St} {H : Hp} {a b : Cv} {x : Rat} (ha : EvD K te σ H (fr (more a b x))) (hb : EvD K tf σ H (fr (steeper a b x))) :
    EvD K (tOrV (tOp (rI0 fun i j => .bl (decide (j < i))) (tOp (rIxT K) te (tC (.int 0))) (tC (.int 0))) (tAndV (tOp (rEqD K) (tOp (rIxT K) te (tC (.int 0))) (tC (.int 0))) (tOp (rI0 fun i j => .bl (decide (j < i))) (tOp (rIxT K) tf (tC (.int 0))) (tC (.int 0))))) σ H (.bool (isMine a b x)) := by
  have e1 : decide (0 < (more a b x).num) = decide (0 < more a b x) := by simp only [decide_eq_decide]; exact num_pos_iff _
  have e2 : PyData.eqv (.int (more a b x).num) (.int 0) = decide (more a b x = 0) := by rw [eqv_int]; simp only [decide_eq_decide]; exact Rat.num_eq_zero
  have e3 : decide (0 < (steeper a b x).num) = decide (0 < steeper a b x) := by simp only [decide_eq_decide]; exact num_pos_iff _
  refine (evd_orV (evd_op (evd_num ha) evd_int rd_B0) (fun _ => evd_andV (evd_op (evd_num ha) evd_int (rd_eqD (shaped_int _) (shaped_int _))) fun _ => evd_op (evd_num hb) evd_int rd_B0)).is ?_
  unfold isMine
  rw [e1, e2, e3]
theorem ok_greater_of (M : Md P K mg base) : Kn P w K mg base CX0 "greater_of" ["one", "other"] 40 (spGreater K) := by
  refine kn_mk M.d_greater_of fun f fd F => okD F sc_greater_of (fun _ => rfl) fun a cdv A outer s H vs E hr dv hs => ?_
  obtain ⟨a, b⟩ := a
  obtain ⟨v0, v1, rfl, d0, d1⟩ := dpa_two dv
  have hs : preMeet a b := hs
  have d0 : Dp K H v0 (cvD a) := d0
  have d1 : Dp K H v1 (cvD b) := d1
  obtain ⟨n, ha, hb, hn1, hn⟩ := hs.siz
  refine ⟨_, (pss_cons (ps_set (i := 2) sc_greater_of.nd rfl (.inl rfl) (pe_lst pa_nil)) (pss_cons (ps_for PassesOwn.never rfl (pi_tup (pe_kn (ok_in_order M) hr (pa_cons (pe_op op_catX (pe_callTy call_list_of (by rfl) M.n_list (by decide +kernel) (pa_cons (pe_kn (ok_levels_of M) hr (pa_cons (pe_lst (pa_cons (pv 0) (pa_cons (pv 1) pa_nil))) pa_nil)) pa_nil)) (pe_kn (ok_meetings M) hr (pa_cons (pv 0) (pa_cons (pv 1) pa_nil)))) pa_nil))) (pg_name (i := 3) sc_greater_of.nd rfl (Or.inl rfl)) (pss_cons (ps_par (i := 4) (j := 5) (by rfl) sc_greater_of.nd rfl rfl (by decide) rfl rfl (pa_cons (pe_kn (ok_pay_at M) hr (pa_cons (pv 0) (pa_cons (pv 3) pa_nil))) (pa_cons (pe_kn (ok_pay_at M) hr (pa_cons (pv 1) (pa_cons (pv 3) pa_nil))) pa_nil)) (by rfl)) (pss_one (ps_expr (pe_bm PySem.F.plainAttrs_list PySem.F.slot_list_append PySem.F.type_list_append mt_append (pv 2) (pa_cons (pe_tup (pa_cons (pv 3) (pa_cons (pe_ifExp (pt_cmpR op_gt (pe_kn (ok_compared M) hr (pa_cons (pv 4) (pa_cons (pv 5) pa_nil))) pe_int (nomark _)) (pv 4) (pv 5)) pa_nil))) pa_nil)))))) (pss_cons (ps_asg (pe_kn (ok_parting M) hr (pa_cons (pv 0) (pa_cons (pv 1) (pa_cons (pe_ix ix_tup (pe_ix ix_list (pv 2) (pe_un un_neg pe_int) (fun _ _ => rfl)) pe_int (fun _ _ => rfl)) pa_nil)))) (pg_tup rfl (pgs_cons (pg_name (i := 6) sc_greater_of.nd rfl (Or.inl rfl)) (pgs_cons (pg_name (i := 7) sc_greater_of.nd rfl (Or.inl rfl)) pgs_nil)))) (pss_cons (ps_set (i := 8) sc_greater_of.nd rfl (.inl rfl) (pe_or (pe_cmpR op_gt (pe_ix ix_tup (pv 6) pe_int (fun _ _ => rfl)) pe_int (nomark _)) (pe_one (pe_and (pe_cmpR (op_eqD hr.units) (pe_ix ix_tup (pv 6) pe_int (fun _ _ => rfl)) pe_int (nomark _)) (pe_one (pe_cmpR op_gt (pe_ix ix_tup (pv 7) pe_int (fun _ _ => rfl)) pe_int (nomark _))))))) (pss_one (ps_ret (pe_kn (ok_curve M) hr (pa_cons (pv 2) (pa_cons (pe_ifExp (pt_val (pv 8)) (pe_ix ix_tup (pv 0) pe_int (fun _ _ => rfl)) (pe_ix ix_tup (pv 1) pe_int (fun _ _ => rfl))) pa_nil))))))))), fun Q q => ?_⟩
  refine sd_newL (K := K) (ds := []) ead_nil (by simp) fun l H1 hl0 e1 sl1 => ?_
  dsimp only
  have hML := maxLevels_len hs
  have hio : preInOrder (levelsOf [a, b] ++ meetings a b) := by
    have h2 := levels2_len hs
    have h3 := meetGo_len a b (levelsOf [a, b])
    refine ⟨by rw [List.length_append]; unfold meetings; omega, fun x hx y hy => ?_⟩
    have hx' := (maxLevels_ok hs ha hb hn1 hn (x := x) (by unfold maxLevels; rw [inOrder_mem]; exact hx)).2
    have hy' := (maxLevels_ok hs ha hb hn1 hn (x := y) (by unfold maxLevels; rw [inOrder_mem]; exact hy)).2
    show sz _ + sz _ ≤ _
    omega
  have hpart : ∀ x ∈ maxLevels a b, prePart a b x := fun x hx => by
    obtain ⟨h0, h1⟩ := maxLevels_ok hs ha hb hn1 hn hx
    exact prePart.ofMeet hs ha hb h0 h1 (by omega)
  have hsrc : ∀ H2, Ex H1 H2 → EvD K (tCall (spInOrder K) [] E0 (tCons (tOp (rCatX K) (tCB (rListK K) (tCons (tCall (spLevels K) [] E0 (tCons (tLst (tCons (tVar 0) (tCons (tVar 1) tNil))) tNil)) tNil)) (tCall (spMeet K) [] E0 (tCons (tVar 0) (tCons (tVar 1) tNil)))) tNil)) [some v0, some v1, some (.ref l), none, none, none, none, none, none] H2 (.tuple ((maxLevels a b).map fr)) := fun H2 e2 => by
    have D0 := dp_ex (e1.trans e2) d0
    have D1 := dp_ex (e1.trans e2) d1
    refine evd_inOrder ((evd_op (evd_cb (ead_cons (evd_levels (cvs := [a, b]) (evd_lst (ead_cons (evd_var rfl D0) (ead_cons (evd_var rfl D1) ead_nil)) (by simp)) (preLevels2 hs)) ead_nil) rc_listT) (evd_meet (evd_var rfl D0) (evd_var rfl D1) hs) (rd_catX ?_)).is ?_) hio
    · have h2 := levels2_len hs
      have h3 := meetGo_len a b (levelsOf [a, b])
      rw [List.length_map, List.length_map]; unfold meetings; omega
    · rw [List.map_append]
  -- the loop over a tuple: all that stands at its start but l stays
  have hfor : ∀ (tb : TS) (D : Ends), (∀ Hs i x σ' H', Ex H1 Hs → (maxLevels a b)[i]? = some x → Em l Hs H' → LS K H' l (((maxLevels a b).take i).map fun x => pt (x, mx (payAt a x) (payAt b x))) → (∃ x3 x4 x5 x6 x7 x8, σ' = [some v0, some v1, some (.ref l), x3, x4, x5, x6, x7, x8]) → ∀ v, Dp K H' v (fr x) →
        tb { D with nx := fun σ2 H2 => Em l Hs H2 ∧ LS K H2 l (((maxLevels a b).take (i + 1)).map fun x => pt (x, mx (payAt a x) (payAt b x))) ∧ ∃ x3 x4 x5 x6 x7 x8, σ2 = [some v0, some v1, some (.ref l), x3, x4, x5, x6, x7, x8], ct := fun σ2 H2 => Em l Hs H2 ∧ LS K H2 l (((maxLevels a b).take (i + 1)).map fun x => pt (x, mx (payAt a x) (payAt b x))) ∧ ∃ x3 x4 x5 x6 x7 x8, σ2 = [some v0, some v1, some (.ref l), x3, x4, x5, x6, x7, x8], bk := D.nx } (σ'.set 3 (some v)) H') →
      (∀ Hs σ' H', Ex H1 Hs → Em l Hs H' → LS K H' l ((maxLevels a b).map fun x => pt (x, mx (payAt a x) (payAt b x))) → (∃ x3 x4 x5 x6 x7 x8, σ' = [some v0, some v1, some (.ref l), x3, x4, x5, x6, x7, x8]) → D.nx σ' H') →
      tFor (iTup K (tCall (spInOrder K) [] E0 (tCons (tOp (rCatX K) (tCB (rListK K) (tCons (tCall (spLevels K) [] E0 (tCons (tLst (tCons (tVar 0) (tCons (tVar 1) tNil))) tNil)) tNil)) (tCall (spMeet K) [] E0 (tCons (tVar 0) (tCons (tVar 1) tNil)))) tNil))) (gName 3) tb D [some v0, some v1, some (.ref l), none, none, none, none, none, none] H1 := fun tb D hstep hend => by
    refine hsrc H1 (Ex.refl _) H1 (Ex.refl _) _ fun v Hs es dv => ?_
    cases dv with
    | tup hs0 hal =>
      rename_i t xs
      have hxl := dpa_len hal
      rw [List.length_map] at hxl
      have hlis : ∃ ys, Hs l = some (.lst ys) := let ⟨ys, h, _⟩ := sl1.ex es; ⟨ys, h⟩
      refine ⟨t, rfl, ⟨xs, hs0⟩, for_tup (K := K) (xs := xs) (fun i σ' H' => Em l Hs H' ∧ LS K H' l (((maxLevels a b).take i).map fun x => pt (x, mx (payAt a x) (payAt b x))) ∧ ∃ x3 x4 x5 x6 x7 x8, σ' = [some v0, some v1, some (.ref l), x3, x4, x5, x6, x7, x8]) ⟨fun b o _ h => h, sl1.ex es, _, _, _, _, _, _, rfl⟩ (fun i σ' H' _ p => ?_) ?_ ?_⟩
      · obtain ⟨ys, h⟩ := hlis
        exact et_t (p.1.et h) hs0
      · rintro i x σ' H' hx ⟨m, hls, hσ⟩
        obtain ⟨ys, h⟩ := hlis
        obtain ⟨y, hy, dy⟩ := item_of (enc := fr) (dpa_et (m.et h) (tupAll_map to_fr _) hal) hx
        exact hstep Hs i y σ' H' es hy m hls hσ x dy
      · rintro σ' H' ⟨m, hls, hσ⟩
        rw [hxl, List.take_length] at hls
        exact hend Hs σ' H' es m hls hσ
  refine hfor _ _ ?_ ?_
  · rintro Hs i x σ' H' es hx m hls ⟨x3, x4, x5, x6, x7, x8, rfl⟩ v dv
    have hxm : x ∈ maxLevels a b := List.mem_of_getElem? hx
    have hpp := hpart x hxm
    have htk : (maxLevels a b).take (i + 1) = (maxLevels a b).take i ++ [x] := by rw [List.take_add_one, hx]; rfl
    have hil := (List.getElem?_eq_some_iff.mp hx).1
    have et : Et H1 H' := by
      obtain ⟨ys, h, _⟩ := sl1
      exact ((Em.of es).trans m).et h
    have D0 : Dp K H' v0 (cvD a) := dp_et et (to_cv a) (dp_ex e1 d0)
    have D1 : Dp K H' v1 (cvD b) := dp_et et (to_cv b) (dp_ex e1 d1)
    refine sd_par (K := K) (ead_cons (evd_pay (evd_var rfl D0) (evd_var rfl dv) hpp.pa) (ead_cons (evd_pay (evd_var rfl D1) (evd_var rfl dv) hpp.pb) ead_nil)) fun v4 v5 H2 e2 d4 d5 => ?_
    dsimp only
    refine sd_app (K := K) (ds := ((maxLevels a b).take i).map fun x => pt (x, mx (payAt a x) (payAt b x))) (d := pt (x, mx (payAt a x) (payAt b x))) (hls.ex e2) rfl (evd_tup (ead_cons (evd_var rfl (dp_ex e2 dv)) (ead_cons (evd_if (b := decide (payAt b x < payAt a x)) (evb_is (evb_test (K := K) (evd_op (evd_cmp (evd_var rfl d4) (evd_var rfl d5) hpp.ok.1) evd_int rd_B0)) (cmp_pos _ _)) (fun h => ?_) (fun h => ?_)) ead_nil)) (by simp)) (tupAll_map (fun _ => rfl) _) rfl ?_ fun H3 m3 hls3 => ?_
    · have h' : payAt b x < payAt a x := of_decide_eq_true h
      have : mx (payAt a x) (payAt b x) = payAt a x := if_pos h'
      show EvD K _ _ _ (fr (mx _ _))
      rw [this]; exact evd_var rfl d4
    · have h' : ¬ payAt b x < payAt a x := of_decide_eq_false h
      have : mx (payAt a x) (payAt b x) = payAt b x := if_neg h'
      show EvD K _ _ _ (fr (mx _ _))
      rw [this]; exact evd_var rfl d5
    · rw [List.length_map, List.length_take]; omega
    · refine ⟨(m.trans (Em.of e2)).trans m3, ?_, _, _, _, _, _, _, rfl⟩
      rw [htk, List.map_append]; exact hls3
  · rintro Hs σ' H' es m hls ⟨x3, x4, x5, x6, x7, x8, rfl⟩
    have hmd : (((maxLevels a b).map fun x => pt (x, mx (payAt a x) (payAt b x)))) = (maxCorners a b).map pt := by
      unfold maxCorners; rw [List.map_map]; rfl
    rw [hmd] at hls
    have em : Em l H1 H' := (Em.of es).trans m
    have et : Et H1 H' := by
      obtain ⟨ys, h, _⟩ := sl1
      exact em.et h
    have D0 : Dp K H' v0 (cvD a) := dp_et et (to_cv a) (dp_ex e1 d0)
    have D1 : Dp K H' v1 (cvD b) := dp_et et (to_cv b) (dp_ex e1 d1)
    have hne : maxLevels a b ≠ [] := List.ne_nil_of_mem zero_levels
    have hlast : (maxLevels a b)[(maxLevels a b).length - 1]? = some ((maxLevels a b).getLastD 0) := by
      rw [← List.getLast?_eq_getElem?, List.getLast?_eq_getLast hne, List.getLastD_eq_getLast?, List.getLast?_eq_getLast hne]; rfl
    have hlm : (maxLevels a b).getLastD 0 ∈ maxLevels a b := List.mem_of_getElem? hlast
    have hpp := hpart _ hlm
    have hcl : ((maxCorners a b).map pt)[((maxCorners a b).map pt).length - 1]? = some (pt ((maxLevels a b).getLastD 0, mx (payAt a ((maxLevels a b).getLastD 0)) (payAt b ((maxLevels a b).getLastD 0)))) := by
      rw [← hmd, List.length_map, List.getElem?_map, hlast]; rfl
    try dsimp only
    refine sd_unp2 (K := K) (d1 := fr (more a b ((maxLevels a b).getLastD 0))) (d2 := fr (steeper a b ((maxLevels a b).getLastD 0))) (evd_part (evd_var rfl D0) (evd_var rfl D1) (evd_p1 (a := ((maxLevels a b).getLastD 0, mx (payAt a ((maxLevels a b).getLastD 0)) (payAt b ((maxLevels a b).getLastD 0)))) (evd_op (evd_var rfl hls.dp) (evd_un evd_int ru_neg) (rd_ixL1 hcl))) hpp) fun v6 v7 H3 e3 d6 d7 => ?_
    dsimp only
    refine sd_set (K := K) (evd_isMine (evd_var rfl d6) (evd_var rfl d7)) fun v8 H4 e4 d8 => ?_
    dsimp only
    have e34 := e3.trans e4
    have hcur : preCurve (maxCorners a b) := by
      refine ⟨?_, asc_map (inOrder_rise _) _, by unfold maxCorners; rw [List.length_map]; omega, 29 * n + 20, ?_, by omega⟩
      · unfold maxCorners; intro z; exact hne (List.map_eq_nil_iff.mp z)
      · intro p hp
        unfold maxCorners at hp
        obtain ⟨x, hx, rfl⟩ := List.mem_map.mp hp
        obtain ⟨h0, h1⟩ := maxLevels_ok hs ha hb hn1 hn hx
        have p1 := sz_pay ha h1 (hpart x hx).fst.1
        have p2 := sz_pay hb h1 (hpart x hx).fst.2
        refine ⟨by show sz x ≤ _; omega, ?_⟩
        show sz (mx _ _) ≤ _
        unfold mx
        split <;> omega
    refine sd_ret (K := K) (evd_curve (evd_var rfl (hls.ex e34).dp) (evd_if (b := isMine a b ((maxLevels a b).getLastD 0)) (fun H5 e5 Q q => ?_) (fun h => ?_) (fun h => ?_)) hcur) fun v H5 e5 dv => q v H5 ((Em.ex e1 hl0 em).trans (e34.trans e5)) dv
    · exact (evb_B (K := K) (evd_var rfl d8)) H5 e5 Q q
    · rw [if_pos h]; exact evd_sl (evd_var rfl (dp_ex e34 D0))
    · rw [if_neg (by rw [h]; decide)]; exact evd_sl (evd_var rfl (dp_ex e34 D1))
end
end My
namespace My
open PySem PySem.Spec PyProof.Rows L2
open Evl (Ex ex_l ex_t fresh_back)
section
variable {P : Program} {w : World} {K : PySem.W.Frag} {mg : Str → Option Value} {base : Heap}
theorem evd_greater {te tf : TE} {σ : L2.St} {H : Hp} {a b : Cv} (ha : EvD K te σ H (cvD a)) (hb : EvD K tf σ H (cvD b)) (h : preMeet a b) {E : XK} : EvD K (tCall (spGreater K) [] E (tCons te (tCons tf tNil))) σ H (cvD (greaterOf a b)) :=
  evd_call (ead_cons ha (ead_cons hb ead_nil)) (spd_of (a, b) h)
abbrev spGreatest (K : PySem.W.Frag) : Sp := SpOf K (α := Cv × Cv) (fun a => [.list [cvD a.1, cvD a.2]]) (fun a => preMeet cv0 a.1 ∧ preMeet (greaterOf cv0 a.1) a.2) (fun a => cvD (greaterOf (greaterOf cv0 a.1) a.2))
theorem ok_greatest (M : Md P K mg base) : Kn P w K mg base CX0 "greatest" ["curves"] 41 (spGreatest K) := by
  refine kn_mk M.d_greatest fun f fd F => okD F sc_greatest (fun _ => rfl) fun a cdv A outer s H vs E hr dv hs => ?_
  obtain ⟨a, b⟩ := a
  obtain ⟨v0, rfl, d0⟩ := dpa_one dv
  obtain ⟨h1, h2⟩ : preMeet cv0 a ∧ preMeet (greaterOf cv0 a) b := hs
  refine ⟨_, (pss_cons (ps_set (i := 1) sc_greatest.nd rfl (.inl rfl) (pe_kn0 (ok_nothing M) hr)) (pss_cons (ps_for PassesOwn.never rfl (pi_list (pv 0)) (pg_name (i := 2) sc_greatest.nd rfl (Or.inl rfl)) (pss_one (ps_set (i := 1) sc_greatest.nd rfl (.inl rfl) (pe_kn (ok_greater_of M) hr (pa_cons (pv 1) (pa_cons (pv 2) pa_nil)))))) (pss_one (ps_ret (pv 1))))), fun Q q => ?_⟩
  refine sd_set (K := K) (evd_call ead_nil (spd_of () trivial)) fun v1 H1 e1 d1 => ?_
  have d0 : Dp K H v0 (.list ([a, b].map cvD)) := d0
  cases d0 with
  | lst hl ha =>
    rename_i l xs
    have hlen := dpa_len ha
    refine Evl.s_forL (K := K) (Evl.ev_var rfl) (ex_l e1 hl) (fun i σ' H' => ∃ v x, σ' = [some (.ref l), some v, x] ∧ Ex H1 H' ∧ Dp K H' v (cvD (match i with | 0 => cv0 | 1 => greaterOf cv0 a | _ => greaterOf (greaterOf cv0 a) b))) (fun H2 e2 => ⟨v1, none, rfl, e2, dp_ex e2 d1⟩) (fun i σ' H' _ ⟨v, x, _, e, _⟩ => ex_l (e1.trans e) hl) ?_ ?_
    · rintro i x σ' H' hx ⟨v, y, rfl, e, dv⟩
      obtain ⟨c, hc, dx⟩ := item_of (enc := cvD) (dpa_ex (e1.trans e) ha) hx
      have hi : i = 0 ∨ i = 1 := by
        have := (List.getElem?_eq_some_iff.mp hc).1
        simp at this
        omega
      dsimp only [gName]
      rcases hi with rfl | rfl
      · have hc' : a = c := by simpa using hc
        subst hc'
        exact sd_set (K := K) (evd_greater (evd_var rfl dv) (evd_var rfl dx) h1) fun v2 H3 e3 d3 => ⟨v2, some x, rfl, e.trans e3, d3⟩
      · have hc' : b = c := by simpa using hc
        subst hc'
        exact sd_set (K := K) (evd_greater (evd_var rfl dv) (evd_var rfl dx) h2) fun v2 H3 e3 d3 => ⟨v2, some x, rfl, e.trans e3, d3⟩
    · rintro σ' H' ⟨v, x, rfl, e, dv⟩
      have hl2 : xs.length = 2 := by rw [hlen]; rfl
      rw [hl2] at dv
      try dsimp only
      exact sd_ret (K := K) (evd_var rfl dv) fun v2 H3 e3 d3 => q v2 H3 ((e1.trans e).trans e3) d3
def optD : Option Rat → PyData
  | none => .none
  | some q => fr q
def preReached (c : Cv) (y : Rat) : Prop := c.cs.length ≤ 40000 ∧ ∃ n m, CvSz n c ∧ sz y ≤ m ∧ 6 * n + m + 10 ≤ 100000000
abbrev spReached (K : PySem.W.Frag) : Sp := SpOf K (α := Cv × Rat) (fun a => [cvD a.1, fr a.2]) (fun a => preReached a.1 a.2) (fun a => optD (reached a.1 a.2))
theorem shaped_ints (is : List Nat) : SeqAt.shaped (.list (is.map fun i => PyData.int (i : Nat))) = true := by
  have h1 : ∀ is : List Nat, PyData.canLayAll0 (is.map fun i => PyData.int (i : Nat)) = true := by
    intro qs
    induction qs with
    | nil => simp [PyData.canLayAll0]
    | cons a l ih => simp [PyData.canLayAll0, PyData.canLay0, ih]
  have h2 : ∀ is : List Nat, PyData.depthAll (is.map fun i => PyData.int (i : Nat)) = 0 := by
    intro qs
    induction qs with
    | nil => simp [PyData.depthAll]
    | cons a l ih => simp [PyData.depthAll, PyData.depth, ih]
  have h3 : PyData.depth (.list (is.map fun i => PyData.int (i : Nat))) ≤ 64 := by
    simp only [PyData.depth, h2]; omega
  simp only [SeqAt.shaped, PyData.canLay0, h1, Bool.true_and, decide_eq_true_eq]
  exact h3
theorem eqv_nil (ds : List PyData) : PyData.eqv (.list ds) (.list []) = ds.isEmpty := by
  cases ds <;> simp [PyData.eqv, PyData.eqvAll]
theorem ok_reached (M : Md P K mg base) : Kn P w K mg base CX0 "reached" ["one", "pay"] 37 (spReached K) := by
  refine kn_mk M.d_reached fun f fd F => okD F sc_reached (fun _ => rfl) fun a cdv A outer s H vs E hr dv hs => ?_
  obtain ⟨c, y⟩ := a
  obtain ⟨v0, v1, rfl, d0, d1⟩ := dpa_two dv
  obtain ⟨hlen, n, m, hc, hy, hn⟩ : preReached c y := hs
  have d0 : Dp K H v0 (cvD c) := d0
  have d1 : Dp K H v1 (fr y) := d1
  refine ⟨_, (pss_cons (ps_setLc (i := 2) (own := [("at", 6), ("corner", 7)]) (g := (gTup K 2 (gCons (gName 6) (gCons (gName 7) gNil)))) rfl sc_reached.nd rfl rfl (sw_true rfl rfl rfl (by decide +kernel)) (pi_enumT (by rfl) M.n_enumerate (pa_cons (pe_ix ix_tup (pv 0) pe_int (fun _ _ => rfl)) pa_nil)) (blkOk_by (N := ["one", "pay", "ahead", "level", "paid", "slope", "at", "corner"]) (sc := defScope s_reached) (own := [("at", 6), ("corner", 7)]) (by decide +kernel)) (fun _ _ _ _ _ => (pg_tup rfl (pgs_cons (pg_name (i := 6) sc_reached.nd rfl (by first | exact Or.inl rfl | exact Or.inr rfl)) (pgs_cons (pg_name (i := 7) sc_reached.nd rfl (by first | exact Or.inl rfl | exact Or.inr rfl)) pgs_nil)))) (fun _ _ _ _ _ => pts_one (pt_cmpR op_lt (pe_kn (ok_compared M) hr (pa_cons (pe_ix (r := rIxT K) ix_tup (pv 7) pe_int (fun _ _ => rfl)) (pa_cons (pv 1) pa_nil))) pe_int (nomark _))) (fun _ _ _ _ _ => (pv 6))) (pss_cons (ps_if (pt_cmpR (op_eqD hr.units) (pv 2) (pe_lst pa_nil) (nomark _)) (pss_one (ps_ret (pe_cst M.g_NOUGHT))) pss_nil) (pss_cons (ps_asg (pe_ix ix_tup (pe_ix ix_tup (pv 0) pe_int (fun _ _ => rfl)) (pe_ix ix_list (pv 2) (pe_un un_neg pe_int) (fun _ _ => rfl)) (fun _ _ => rfl)) (pg_tup rfl (pgs_cons (pg_name (i := 3) sc_reached.nd rfl (Or.inl rfl)) (pgs_cons (pg_name (i := 4) sc_reached.nd rfl (Or.inl rfl)) pgs_nil)))) (pss_cons (ps_set (i := 5) sc_reached.nd rfl (.inl rfl) (pe_kn (ok_slope_behind M) hr (pa_cons (pv 0) (pa_cons (pe_ix ix_list (pv 2) (pe_un un_neg pe_int) (fun _ _ => rfl)) pa_nil)))) (pss_one (ps_ret (pe_ifExp (pt_cmpR (op_eqD hr.units) (pv 5) (pe_cst M.g_NOUGHT) (nomark _)) pe_non (pe_kn (ok_added M) hr (pa_cons (pv 3) (pa_cons (pe_kn (ok_over M) hr (pa_cons (pe_kn (ok_lessened M) hr (pa_cons (pv 1) (pa_cons (pv 4) pa_nil))) (pa_cons (pv 5) pa_nil))) pa_nil)))))))))), fun Q q => ?_⟩
  have hml : (c.cs.map pt).length = c.cs.length := List.length_map ..
  have hget : ∀ {i : Nat}, i < c.cs.length → c.cs[i]? = some (c.cs.getD i (0, 0)) := fun hi => by
    rw [List.getD_eq_getElem?_getD, List.getElem?_eq_getElem hi]; rfl
  refine sd_set (K := K) (d := .list ((belowIx c y).map fun i => PyData.int (i : Nat))) ((evd_lcE (ds := c.cs.map pt) (keep := fun i => decide ((c.cs.getD i (0, 0)).2 < y)) (out := fun i => PyData.int (i : Nat)) (ead_cons (evd_cs (evd_var rfl d0)) ead_nil) (by omega) (fun _ => rfl) (fun _ _ => rfl) fun i d hd z H2 e2 dz => ⟨?_, fun _ => evd_var rfl (.int _)⟩).is ?_) fun v2 H1 e1 d2 => ?_
  · rw [List.getElem?_map] at hd
    obtain ⟨p, hp, rfl⟩ : ∃ x, c.cs[i]? = some x ∧ pt x = d := by
      cases e : c.cs[i]? with
      | none => rw [e] at hd; cases hd
      | some x => rw [e] at hd; exact ⟨x, rfl, Option.some.inj hd⟩
    have hpe : c.cs.getD i (0, 0) = p := by
      rw [List.getD_eq_getElem?_getD, hp]; rfl
    rw [hpe]
    refine evb_is (evb_test (K := K) (evd_op (evd_cmp (evd_p2 (evd_var rfl dz)) (evd_var rfl (dp_ex e2 d1)) ?_) evd_int rd_B0)) (cmp_neg _ _)
    have := (hc.pts p (List.mem_of_getElem? hp)).2
    show sz _ + sz _ ≤ _
    omega
  · rw [hml]; rfl
  · dsimp only
    refine sd_if (b := decide (belowIx c y = [])) (evb_is (evb_test (K := K) (evd_op (evd_var rfl d2) (evd_lst ead_nil (by simp)) (rd_eqD (shaped_ints _) (by decide)))) ?_) (fun hb H2 e2 => ?_) (fun hb H2 e2 => ?_)
    · rw [eqv_nil, List.isEmpty_map]
      cases belowIx c y <;> simp
    · have hb' : belowIx c y = [] := of_decide_eq_true hb
      have hr0 : reached c y = some 0 := by unfold reached; rw [if_pos hb']
      try dsimp only
      refine sd_ret (K := K) (evd_cst M.g_NOUGHT) fun v H3 e3 dv => q v H3 ((e1.trans e2).trans e3) ?_
      show Dp K H3 v (optD (reached c y))
      rw [hr0]; exact dv
    · have hb' : ¬ belowIx c y = [] := of_decide_eq_false hb
      have hlast : (belowIx c y)[(belowIx c y).length - 1]? = some ((belowIx c y).getLastD 0) := by
        rw [← List.getLast?_eq_getElem?, List.getLast?_eq_getLast hb', List.getLastD_eq_getLast?, List.getLast?_eq_getLast hb']; rfl
      generalize hii : (belowIx c y).getLastD 0 = i at *
      have him : i ∈ belowIx c y := List.mem_of_getElem? hlast
      have hi : i < c.cs.length := by
        unfold belowIx at him
        have := (List.mem_filter.mp him).1
        simpa using this
      have hll : ((belowIx c y).map fun i => PyData.int (i : Nat))[((belowIx c y).map fun i => PyData.int (i : Nat)).length - 1]? = some (.int (i : Nat)) := by
        rw [List.length_map, List.getElem?_map, hlast]; rfl
      have hgm := List.mem_of_getElem? (hget hi)
      have s1 := (hc.pts _ hgm).1
      have s2 := (hc.pts _ hgm).2
      have s3 := hc.slope i
      have s4 := sz_sub y (c.cs.getD i (0, 0)).2
      have s5 := sz_div (y - (c.cs.getD i (0, 0)).2) (slopeAt c i)
      dsimp only [tNext]
      refine sd_unp2 (K := K) (d1 := fr (c.cs.getD i (0, 0)).1) (d2 := fr (c.cs.getD i (0, 0)).2) (evd_op (evd_cs (evd_var rfl (dp_ex (e1.trans e2) d0))) (evd_op (evd_var rfl (dp_ex e2 d2)) (evd_un evd_int ru_neg) (rd_ixL1 hll)) (rd_ixT (i := i) (d := pt (c.cs.getD i (0, 0))) ?_)) fun v3 v4 H3 e3 d3 d4 => ?_
      · rw [List.getElem?_map, hget hi]; rfl
      · dsimp only
        refine sd_set (K := K) (evd_slopeB (i := i) (evd_var rfl (dp_ex ((e1.trans e2).trans e3) d0)) (evd_op (evd_var rfl (dp_ex (e2.trans e3) d2)) (evd_un evd_int ru_neg) (rd_ixL1 hll)) ⟨hi, n, hc, by omega⟩) fun v5 H4 e4 d5 => ?_
        dsimp only
        have hre : reached c y = if slopeAt c i = 0 then none else some ((c.cs.getD i (0, 0)).1 + (y - (c.cs.getD i (0, 0)).2) / slopeAt c i) := by
          unfold reached; rw [if_neg hb', hii]
        refine sd_ret (K := K) (d := optD (reached c y)) ?_ fun v H5 e5 dv => q v H5 ((((e1.trans e2).trans e3).trans e4).trans e5) dv
        refine evd_if (b := decide (slopeAt c i = 0)) (evb_is (evb_test (K := K) (evd_op (evd_var rfl d5) (evd_cst M.g_NOUGHT) (rd_eqD (shaped_fr _) (shaped_fr _)))) (eqv_fr _ _)) (fun h => ?_) (fun h => ?_)
        · have h' : slopeAt c i = 0 := of_decide_eq_true h
          rw [hre, if_pos h']
          exact evd_non
        · have h' : ¬ slopeAt c i = 0 := of_decide_eq_false h
          rw [hre, if_neg h']
          exact evd_qq (evd_var rfl (dp_ex e4 d3)) (evd_qq (evd_qq (evd_var rfl (dp_ex (((e1.trans e2).trans e3).trans e4) d1)) (evd_var rfl (dp_ex e4 d4)) (by show sz _ + sz _ ≤ _; omega)) (evd_var rfl d5) ⟨by show sz _ + sz _ ≤ _; omega, h'⟩) (by show sz _ + sz _ ≤ _; omega)
theorem evd_reached {te tf : TE} {σ : L2.St} {H : Hp} {c : Cv} {y : Rat} (ha : EvD K te σ H (cvD c)) (hb : EvD K tf σ H (fr y)) (h : preReached c y) {E : XK} : EvD K (tCall (spReached K) [] E (tCons te (tCons tf tNil))) σ H (optD (reached c y)) :=
  evd_call (ead_cons ha (ead_cons hb ead_nil)) (spd_of (c, y) h)
theorem ok_level_for (M : Md P K mg base) : Kn P w K mg base CX0 "level_for" ["one", "pay"] 38 (spReached K) := by
  refine kn_mk M.d_level_for fun f fd F => okD F sc_level_for (fun _ => rfl) fun a cdv A outer s H vs E hr dv hs => ?_
  obtain ⟨c, y⟩ := a
  obtain ⟨v0, v1, rfl, d0, d1⟩ := dpa_two dv
  refine ⟨_, (pss_one (ps_ret (pe_kn (ok_reached M) hr (pa_cons (pv 0) (pa_cons (pv 1) pa_nil))))), fun Q q => ?_⟩
  exact sd_ret (K := K) (evd_reached (evd_var rfl d0) (evd_var rfl d1) hs) fun v H1 e1 dv => q v H1 e1 dv
def preScaled (c : Cv) (f : Rat) : Prop := (∀ p ∈ c.cs, okSz p.2 f) ∧ okSz c.sl f ∧ preCurve (c.cs.map fun p => (p.1, p.2 * f))
abbrev spScaled (K : PySem.W.Frag) : Sp := SpOf K (α := Cv × Rat) (fun a => [cvD a.1, fr a.2]) (fun a => preScaled a.1 a.2) (fun a => cvD (scaled a.1 a.2))
theorem ok_scaled (M : Md P K mg base) : Kn P w K mg base CX0 "scaled" ["one", "factor"] 37 (spScaled K) := by
  refine kn_mk M.d_scaled fun f fd F => okD F sc_scaled (fun _ => rfl) fun a cdv A outer s H vs E hr dv hs => ?_
  obtain ⟨c, y⟩ := a
  obtain ⟨v0, v1, rfl, d0, d1⟩ := dpa_two dv
  obtain ⟨h1, h2, h3⟩ : preScaled c y := hs
  have d0 : Dp K H v0 (cvD c) := d0
  have d1 : Dp K H v1 (fr y) := d1
  refine ⟨_, (pss_one (ps_ret (pe_kn (ok_curve M) hr (pa_cons (pe_lc (own := [("level", 2), ("pay", 3)]) (g := (gTup K 2 (gCons (gName 2) (gCons (gName 3) gNil)))) (tt := tYes) rfl sc_scaled.nd (pi_tup (pe_ix ix_tup (pv 0) pe_int (fun _ _ => rfl))) (blkOk_by (N := ["one", "factor", "level", "pay"]) (sc := defScope s_scaled) (own := [("level", 2), ("pay", 3)]) (by decide +kernel)) (fun _ _ _ _ _ => (pg_tup rfl (pgs_cons (pg_name (i := 2) sc_scaled.nd rfl (by first | exact Or.inl rfl | exact Or.inr rfl)) (pgs_cons (pg_name (i := 3) sc_scaled.nd rfl (by first | exact Or.inl rfl | exact Or.inr rfl)) pgs_nil)))) (fun _ _ _ _ _ => pts_nil) (fun _ _ _ _ _ => (pe_tup (pa_cons (pv 2) (pa_cons (pe_kn (ok_times M) hr (pa_cons (pv 3) (pa_cons (pv 1) pa_nil))) pa_nil))))) (pa_cons (pe_kn (ok_times M) hr (pa_cons (pe_ix ix_tup (pv 0) pe_int (fun _ _ => rfl)) (pa_cons (pv 1) pa_nil))) pa_nil))))), fun Q q => ?_⟩
  have hl : c.cs.length ≤ 50000 := by have := h3.2.2.1; rwa [List.length_map] at this
  refine sd_ret (K := K) (evd_curve (cs := c.cs.map fun p => (p.1, p.2 * y)) ((evd_lcT (xs := c.cs) (enc := pt) (keep := fun _ => true) (out := fun p : Pt => pt (p.1, p.2 * y)) (evd_cs (evd_var rfl d0)) hl (fun _ => rfl) fun p hp => turn_pair rfl (fun _ _ => rfl) fun z u H3 e3 dz du => ⟨evb_yes, fun _ => evd_tup (ead_cons (evd_var rfl dz) (ead_cons (evd_qq (evd_var rfl du) (evd_var rfl (dp_ex e3 d1)) (h1 p hp)) ead_nil)) (by simp)⟩).is ?_) (evd_qq (evd_sl (evd_var rfl d0)) (evd_var rfl d1) h2) h3) fun v H1 e1 dv => q v H1 e1 dv
  rw [filter_true, List.map_map]; rfl
end
end My
namespace My
open PySem PySem.Spec PyProof.Rows L2
open Evl (Ex ex_l ex_t fresh_back)
def thD : Th → PyData
  | .shares c => .tuple [.str "shares", fr c]
  | .note amt cap disc => .tuple [.str "note", fr amt, optD cap, optD disc]
  | .kept c old => .tuple [.str "kept", fr c, fr old]
  | .weighed c old thn => .tuple [.str "weighed", fr c, fr old, fr thn]
theorem to_opt (o : Option Rat) : tupOnly (optD o) = true := by cases o <;> rfl
theorem to_th (t : Th) : tupOnly (thD t) = true := by
  cases t with
  | note a c d => simp [thD, tupOnly, tupAll, to_opt]
  | _ => rfl
theorem eqv_str (a b : Str) : PyData.eqv (.str a) (.str b) = decide (a = b) := by
  simp only [PyData.eqv]
  by_cases h : a = b <;> simp [h]
section
variable {P : Program} {w : World} {K : PySem.W.Frag} {mg : Str → Option Value} {base : Heap}
/-- x == 'word', both written -/
theorem evb_word {te : TE} {σ : L2.St} {H : Hp} {a b : Str} (h : EvD K te σ H (.str a)) (sa : SeqAt.shaped (.str a) = true := by decide +kernel) (sb : SeqAt.shaped (.str b) = true := by decide +kernel) : EvB (tTest (tOp (rEqD K) te (tC (.str b)))) σ H (decide (a = b)) :=
  evb_is (evb_test (K := K) (evd_op h evd_str (rd_eqD sa sb))) (eqv_str a b)
theorem evd_greatest_of {ta tb : TE} {σ : L2.St} {H : Hp} {a b : Rat} (ha : EvD K ta σ H (fr a)) (hb : EvD K tb σ H (fr b)) (h : okSz a a ∧ okSz a b) {E : XK} :
    EvD K (tCall (SpOf K (α := Rat × Rat) (fun a => [.list [fr a.1, fr a.2]]) (fun a => okSz a.1 a.1 ∧ okSz a.1 a.2) (fun a => fr (rmax a.1 a.2))) [] E (tCons (tLst (tCons ta (tCons tb tNil))) tNil)) σ H (fr (rmax a b)) :=
  evd_call (ead_cons (evd_lst (ead_cons ha (ead_cons hb ead_nil)) (by simp)) ead_nil) (spd_of (a, b) h)
theorem sd_unp4 {te : TE} {σ : L2.St} {H : Hp} {D : Ends} {i j k l : Nat} {d1 d2 d3 d4 : PyData} (h : EvD K te σ H (.tuple [d1, d2, d3, d4])) (q : ∀ v w u x H1, Ex H H1 → Dp K H1 v d1 → Dp K H1 w d2 → Dp K H1 u d3 → Dp K H1 x d4 → D.nx ((((σ.set i (some v)).set j (some w)).set k (some u)).set l (some x)) H1) :
    tAsg te (gTup K 4 (gCons (gName i) (gCons (gName j) (gCons (gName k) (gCons (gName l) gNil))))) D σ H := h H (Ex.refl H) _ fun v H1 e dv => by
  cases dv with
  | tup hs ha =>
    cases ha with
    | cons h1 ha =>
      obtain ⟨b, c, d, rfl, h2, h3, h4⟩ := dpa_three ha
      exact ⟨_, _, rfl, hs, rfl, _, [b, c, d], rfl, b, [c, d], rfl, c, [d], rfl, d, [], rfl, rfl, q _ b c d H1 e h1 h2 h3 h4⟩
theorem isNo_opt (o : Option Rat) : isNo (optD o) = o.isNone := by cases o <;> rfl
theorem isNo_fr (q : Rat) : isNo (fr q) = false := rfl
/-- discount if discount is not None else ZERO -/
theorem evd_disc {te t0 : TE} {σ : L2.St} {H : Hp} {o : Option Rat} (h : EvD K te σ H (optD o)) (h0 : EvD K t0 σ H (fr 0)) :
    EvD K (tIf (tTest (tOp (fun x y H Q => y = .non ∧ Q (.bl (!decide (x = .non))) H) te (tC .non))) te t0) σ H (fr (o.getD 0)) := by
  refine evd_if (evb_test (K := K) (evd_op h evd_non rd_notN)) (fun hb => ?_) (fun hb => ?_)
  · rw [isNo_opt] at hb
    cases o with
    | none => simp at hb
    | some e => exact h
  · rw [isNo_opt] at hb
    cases o with
    | none => exact h0
    | some e => simp at hb
abbrev spNote (K : PySem.W.Frag) : Sp := SpOf K (α := Rat × Option Rat × Option Rat × Rat) (fun a => [thD (.note a.1 a.2.1 a.2.2.1), fr a.2.2.2]) (fun a => preThing (.note a.1 a.2.1 a.2.2.1) a.2.2.2 0) (fun a => fr (noteW a.1 a.2.1 a.2.2.1 a.2.2.2))
theorem ok_note_worth (M : Md P K mg base) : Kn P w K mg base CX0 "note_worth" ["thing", "price"] 36 (spNote K) := by
  refine kn_mk M.d_note_worth fun f fd F => okD F sc_note_worth (fun _ => rfl) fun a cdv A outer s H vs E hr dv hs => ?_
  obtain ⟨amt, cap, disc, p⟩ := a
  obtain ⟨v0, v1, rfl, d0, d1⟩ := dpa_two dv
  obtain ⟨⟨h1, h2, h3⟩, _, n, m, hn, ⟨z1, z2, z3⟩, _, hp, hnm⟩ : preThing (.note amt cap disc) p 0 := hs
  replace d0 : Dp K H v0 (.tuple [.str "note", fr amt, optD cap, optD disc]) := d0
  replace d1 : Dp K H v1 (fr p) := d1
  refine ⟨_, (pss_cons (ps_asg (pv 0) (pg_tup rfl (pgs_cons (pg_name (i := 2) sc_note_worth.nd rfl (Or.inl rfl)) (pgs_cons (pg_name (i := 3) sc_note_worth.nd rfl (Or.inl rfl)) (pgs_cons (pg_name (i := 4) sc_note_worth.nd rfl (Or.inl rfl)) (pgs_cons (pg_name (i := 5) sc_note_worth.nd rfl (Or.inl rfl)) pgs_nil)))))) (pss_cons (ps_set (i := 6) sc_note_worth.nd rfl (.inl rfl) (pe_kn (ok_over M) hr (pa_cons (pv 3) (pa_cons (pe_kn (ok_lessened M) hr (pa_cons (pe_cst M.g_ONE) (pa_cons (pe_ifExp (pt_cmpR op_notN (pv 5) pe_non (nomark _)) (pv 5) (pe_cst M.g_ZERO)) pa_nil))) pa_nil)))) (pss_one (ps_ret (pe_ifExp (pt_cmpR op_isN (pv 4) pe_non (nomark _)) (pv 6) (pe_kn (ok_greatest_of M) hr (pa_cons (pe_lst (pa_cons (pv 6) (pa_cons (pe_kn (ok_over M) hr (pa_cons (pe_kn (ok_times M) hr (pa_cons (pv 1) (pa_cons (pv 3) pa_nil))) (pa_cons (pv 4) pa_nil))) pa_nil))) pa_nil))))))), fun Q q => ?_⟩
  replace q : ∀ v H', Ex H H' → Dp K H' v (fr (noteW amt cap disc p)) → Q v H' := q
  obtain ⟨l1, l2⟩ := disc_lt h3
  have s1 := sz_disc hn z3
  have s2 := sz_sub 1 (disc.getD 0)
  rw [sz_one] at s2
  have s3 := sz_div amt (1 - disc.getD 0)
  refine sd_unp4 (K := K) (evd_var rfl d0) fun v2 v3 v4 v5 H1 e1 d2 d3 d4 d5 => ?_
  dsimp only
  refine sd_set (K := K) (evd_qq (evd_var rfl d3) (evd_qq (evd_cst M.g_ONE) (evd_disc (evd_var rfl d5) (evd_cst M.g_ZERO)) (by show sz _ + sz _ ≤ _; rw [sz_one]; omega)) (And.intro (by show sz _ + sz _ ≤ _; omega) (by grind))) fun v6 H2 e2 d6 => ?_
  dsimp only
  refine sd_ret (K := K) (d := fr (noteW amt cap disc p)) ?_ fun v H3 e3 dv => q v H3 ((e1.trans e2).trans e3) dv
  refine evd_if (evb_test (K := K) (evd_op (evd_var rfl (dp_ex e2 d4)) evd_non rd_isN)) (fun hb => ?_) (fun hb => ?_)
  · rw [isNo_opt] at hb
    cases cap with
    | none => exact evd_var rfl d6
    | some k => simp at hb
  · rw [isNo_opt] at hb
    cases cap with
    | none => simp at hb
    | some k =>
      have s4 := z2 k rfl
      have s5 := sz_mul p amt
      have s6 := sz_div (p * amt) k
      have k0 : k ≠ 0 := by have := h2 k rfl; grind
      exact evd_greatest_of (evd_var rfl d6) (evd_qq (evd_qq (evd_var rfl (dp_ex (e1.trans e2) d1)) (evd_var rfl (dp_ex e2 d3)) (by show sz _ + sz _ ≤ _; omega)) (evd_var rfl (dp_ex e2 d4)) ⟨by show sz _ + sz _ ≤ _; omega, k0⟩) ⟨by show sz _ + sz _ ≤ _; omega, by show sz _ + sz _ ≤ _; omega⟩
theorem cmp_ge (a b : Rat) : decide (0 ≤ cmp a b) = decide (b ≤ a) := by
  unfold cmp
  by_cases h : a < b
  · have : ¬ b ≤ a := by grind
    simp [h, this]
  · have : b ≤ a := by grind
    by_cases h2 : b < a <;> simp [h, h2, this]
abbrev spWeighed (K : PySem.W.Frag) : Sp := SpOf K (α := Rat × Rat × Rat × Rat × Rat) (fun a => [thD (.weighed a.1 a.2.1 a.2.2.1), fr a.2.2.2.1, fr a.2.2.2.2]) (fun a => preThing (.weighed a.1 a.2.1 a.2.2.1) a.2.2.2.1 a.2.2.2.2) (fun a => fr (weighedW a.1 a.2.1 a.2.2.1 a.2.2.2.1 a.2.2.2.2))
theorem pos_den {thn old money : Rat} (h1 : 0 < thn) (h2 : 0 < old) (h3 : 0 ≤ money) : thn * old + money ≠ 0 := by
  have := Rat.mul_pos h1 h2
  grind
theorem ok_weighed_worth (M : Md P K mg base) : Kn P w K mg base CX0 "weighed_worth" ["thing", "price", "money"] 36 (spWeighed K) := by
  refine kn_mk M.d_weighed_worth fun f fd F => okD F sc_weighed_worth (fun _ => rfl) fun a cdv A outer s H vs E hr dv hs => ?_
  obtain ⟨c, old, thn, p, money⟩ := a
  obtain ⟨v0, v1, v2, rfl, d0, d1, d2⟩ := dpa_three dv
  obtain ⟨⟨h1, h2, h3⟩, hm, n, m, hn, ⟨z1, z2, z3⟩, zm, hp, hnm⟩ : preThing (.weighed c old thn) p money := hs
  replace d0 : Dp K H v0 (.tuple [.str "weighed", fr c, fr old, fr thn]) := d0
  replace d1 : Dp K H v1 (fr p) := d1
  replace d2 : Dp K H v2 (fr money) := d2
  refine ⟨_, (pss_cons (ps_asg (pv 0) (pg_tup rfl (pgs_cons (pg_name (i := 3) sc_weighed_worth.nd rfl (Or.inl rfl)) (pgs_cons (pg_name (i := 4) sc_weighed_worth.nd rfl (Or.inl rfl)) (pgs_cons (pg_name (i := 5) sc_weighed_worth.nd rfl (Or.inl rfl)) (pgs_cons (pg_name (i := 6) sc_weighed_worth.nd rfl (Or.inl rfl)) pgs_nil)))))) (pss_cons (ps_if (pt_cmpR op_ge (pe_kn (ok_compared M) hr (pa_cons (pv 1) (pa_cons (pv 5) pa_nil))) pe_int (nomark _)) (pss_one (ps_ret (pe_kn (ok_times M) hr (pa_cons (pv 1) (pa_cons (pv 4) pa_nil))))) pss_nil) (pss_cons (ps_set (i := 7) sc_weighed_worth.nd rfl (.inl rfl) (pe_kn (ok_over M) hr (pa_cons (pe_kn (ok_added M) hr (pa_cons (pe_kn (ok_times M) hr (pa_cons (pv 6) (pa_cons (pv 1) pa_nil))) (pa_cons (pv 2) pa_nil))) (pa_cons (pe_kn (ok_added M) hr (pa_cons (pe_kn (ok_times M) hr (pa_cons (pv 6) (pa_cons (pv 5) pa_nil))) (pa_cons (pv 2) pa_nil))) pa_nil)))) (pss_one (ps_ret (pe_kn (ok_times M) hr (pa_cons (pe_kn (ok_times M) hr (pa_cons (pv 4) (pa_cons (pv 5) pa_nil))) (pa_cons (pv 7) pa_nil)))))))), fun Q q => ?_⟩
  replace q : ∀ v H', Ex H H' → Dp K H' v (fr (weighedW c old thn p money)) → Q v H' := q
  have a1 := sz_mul p c
  have a2 := sz_mul thn p
  have a3 := sz_add (thn * p) money
  have a4 := sz_mul thn old
  have a5 := sz_add (thn * old) money
  have a6 := sz_div (thn * p + money) (thn * old + money)
  have a7 := sz_mul c old
  refine sd_unp4 (K := K) (evd_var rfl d0) fun v3 v4 v5 v6 H1 e1 d3 d4 d5 d6 => ?_
  dsimp only
  refine sd_if (b := decide (old ≤ p)) (evb_is (evb_test (K := K) (evd_op (evd_cmp (evd_var rfl (dp_ex e1 d1)) (evd_var rfl d5) (by show sz _ + sz _ ≤ _; omega)) evd_int rd_B0)) (cmp_ge _ _)) (fun hb H2 e2 => ?_) (fun hb H2 e2 => ?_)
  · have hb' : old ≤ p := of_decide_eq_true hb
    have hw : weighedW c old thn p money = p * c := if_pos hb'
    rw [hw] at q
    try dsimp only
    exact sd_ret (K := K) (evd_qq (evd_var rfl (dp_ex (e1.trans e2) d1)) (evd_var rfl (dp_ex e2 d4)) (by show sz _ + sz _ ≤ _; omega)) fun v H3 e3 dv => q v H3 ((e1.trans e2).trans e3) dv
  · have hb' : ¬ old ≤ p := of_decide_eq_false hb
    have hw : weighedW c old thn p money = c * old * ((thn * p + money) / (thn * old + money)) := if_neg hb'
    rw [hw] at q
    dsimp only [tNext]
    have D1 := dp_ex (e1.trans e2) d1
    have D2 := dp_ex (e1.trans e2) d2
    refine sd_set (K := K) (evd_qq (evd_qq (evd_qq (evd_var rfl (dp_ex e2 d6)) (evd_var rfl D1) (by show sz _ + sz _ ≤ _; omega)) (evd_var rfl D2) (by show sz _ + sz _ ≤ _; omega)) (evd_qq (evd_qq (evd_var rfl (dp_ex e2 d6)) (evd_var rfl (dp_ex e2 d5)) (by show sz _ + sz _ ≤ _; omega)) (evd_var rfl D2) (by show sz _ + sz _ ≤ _; omega)) (And.intro (by show sz _ + sz _ ≤ _; omega) (pos_den h3 h2 hm))) fun v7 H3 e3 d7 => ?_
    dsimp only
    exact sd_ret (K := K) (evd_qq (evd_qq (evd_var rfl (dp_ex (e2.trans e3) d4)) (evd_var rfl (dp_ex (e2.trans e3) d5)) (by show sz _ + sz _ ≤ _; omega)) (evd_var rfl d7) (by show sz _ + sz _ ≤ _; omega)) fun v H4 e4 dv => q v H4 (((e1.trans e2).trans e3).trans e4) dv
theorem evd_weighed {ta tb tc : TE} {σ : L2.St} {H : Hp} {c old thn p money : Rat} (ha : EvD K ta σ H (thD (.weighed c old thn))) (hb : EvD K tb σ H (fr p)) (hc : EvD K tc σ H (fr money)) (h : preThing (.weighed c old thn) p money) {E : XK} :
    EvD K (tCall (spWeighed K) [] E (tCons ta (tCons tb (tCons tc tNil)))) σ H (fr (weighedW c old thn p money)) :=
  evd_call (ead_cons ha (ead_cons hb (ead_cons hc ead_nil))) (spd_of (c, old, thn, p, money) h)
abbrev spThing (K : PySem.W.Frag) : Sp := SpOf K (α := Th × Rat × Rat) (fun a => [thD a.1, fr a.2.1, fr a.2.2]) (fun a => preThing a.1 a.2.1 a.2.2) (fun a => fr (thingW a.1 a.2.1 a.2.2))
theorem ok_thing_worth (M : Md P K mg base) : Kn P w K mg base CX0 "thing_worth" ["thing", "price", "money"] 37 (spThing K) := by
  refine kn_mk M.d_thing_worth fun f fd F => okD F sc_thing_worth (fun _ => rfl) fun a cdv A outer s H vs E hr dv hs => ?_
  obtain ⟨t, p, money⟩ := a
  obtain ⟨v0, v1, v2, rfl, d0, d1, d2⟩ := dpa_three dv
  replace hs : preThing t p money := hs
  obtain ⟨hok, hm, n, m, hn, zt, zm, hp, hnm⟩ := id hs
  replace d0 : Dp K H v0 (thD t) := d0
  replace d1 : Dp K H v1 (fr p) := d1
  replace d2 : Dp K H v2 (fr money) := d2
  refine ⟨_, (pss_cons (ps_if (pt_cmpR (op_eqD hr.units) (pe_ix ix_tup (pv 0) pe_int (fun _ _ => rfl)) pe_str (nomark _)) (pss_one (ps_ret (pe_kn (ok_note_worth M) hr (pa_cons (pv 0) (pa_cons (pv 1) pa_nil))))) pss_nil) (pss_cons (ps_if (pt_cmpR (op_eqD hr.units) (pe_ix ix_tup (pv 0) pe_int (fun _ _ => rfl)) pe_str (nomark _)) (pss_one (ps_ret (pe_kn (ok_weighed_worth M) hr (pa_cons (pv 0) (pa_cons (pv 1) (pa_cons (pv 2) pa_nil)))))) pss_nil) (pss_one (ps_ret (pe_kn (ok_times M) hr (pa_cons (pe_ix ix_tup (pv 0) pe_int (fun _ _ => rfl)) (pa_cons (pe_ifExp (pt_cmpR (op_eqD hr.units) (pe_ix ix_tup (pv 0) pe_int (fun _ _ => rfl)) pe_str (nomark _)) (pv 1) (pe_kn (ok_greatest_of M) hr (pa_cons (pe_lst (pa_cons (pv 1) (pa_cons (pe_ix ix_tup (pv 0) pe_int (fun _ _ => rfl)) pa_nil))) pa_nil))) pa_nil))))))), fun Q q => ?_⟩
  replace q : ∀ v H', Ex H H' → Dp K H' v (fr (thingW t p money)) → Q v H' := q
  -- the word is written
  have h0 : ∀ (wd : Str) (tl : List PyData), thD t = .tuple (.str wd :: tl) → ∀ H1, Ex H H1 → EvD K (tOp (rIxT K) (tVar 0) (tC (.int 0))) [some v0, some v1, some v2] H1 (.str wd) := fun wd tl e H1 e1 => evd_op (evd_var rfl (dp_ex e1 (e ▸ d0))) evd_int (rd_ixT (i := 0) rfl)
  cases t with
  | note amt cap disc =>
    refine sd_if (evb_word (h0 "note" _ rfl H (Ex.refl H))) (fun hb H1 e1 => ?_) (fun hb _ _ => absurd hb (by decide +kernel))
    try dsimp only
    refine sd_ret (K := K) (evd_call (ead_cons (evd_var rfl (dp_ex e1 d0)) (ead_cons (evd_var rfl (dp_ex e1 d1)) ead_nil)) (spd_of (amt, cap, disc, p) ⟨hok, by grind, n, m, hn, zt, by rw [sz_zero]; exact hn, hp, hnm⟩)) fun v H2 e2 dv => q v H2 (e1.trans e2) dv
  | weighed c old thn =>
    refine sd_if (evb_word (h0 "weighed" _ rfl H (Ex.refl H))) (fun hb _ _ => absurd hb (by decide +kernel)) (fun hb H1 e1 => ?_)
    dsimp only [tNext]
    refine sd_if (evb_word (h0 "weighed" _ rfl H1 e1)) (fun hb H2 e2 => ?_) (fun hb _ _ => absurd hb (by decide +kernel))
    try dsimp only
    exact sd_ret (K := K) (evd_weighed (evd_var rfl (dp_ex (e1.trans e2) d0)) (evd_var rfl (dp_ex (e1.trans e2) d1)) (evd_var rfl (dp_ex (e1.trans e2) d2)) hs) fun v H3 e3 dv => q v H3 ((e1.trans e2).trans e3) dv
  | shares c =>
    have zc : sz c ≤ n := zt
    refine sd_if (evb_word (h0 "shares" _ rfl H (Ex.refl H))) (fun hb _ _ => absurd hb (by decide +kernel)) (fun hb H1 e1 => ?_)
    dsimp only [tNext]
    refine sd_if (evb_word (h0 "shares" _ rfl H1 e1)) (fun hb _ _ => absurd hb (by decide +kernel)) (fun hb H2 e2 => ?_)
    dsimp only [tNext]
    have e12 := e1.trans e2
    exact sd_ret (K := K) (evd_qq (evd_op (evd_var rfl (dp_ex e12 d0)) evd_int (rd_ixT (i := 1) rfl)) (evd_if (evb_word (h0 "shares" _ rfl H2 e12)) (fun _ => evd_var rfl (dp_ex e12 d1)) (fun hb => absurd hb (by decide +kernel))) (by show sz _ + sz _ ≤ _; omega)) fun v H3 e3 dv => q v H3 (e12.trans e3) dv
  | kept c old =>
    obtain ⟨zc, zo⟩ : sz c ≤ n ∧ sz old ≤ n := zt
    have z3 := sz_rmax (a := p) (b := old) (n := m + n) (by omega) (by omega)
    refine sd_if (evb_word (h0 "kept" _ rfl H (Ex.refl H))) (fun hb _ _ => absurd hb (by decide +kernel)) (fun hb H1 e1 => ?_)
    dsimp only [tNext]
    refine sd_if (evb_word (h0 "kept" _ rfl H1 e1)) (fun hb _ _ => absurd hb (by decide +kernel)) (fun hb H2 e2 => ?_)
    dsimp only [tNext]
    have e12 := e1.trans e2
    exact sd_ret (K := K) (evd_qq (evd_op (evd_var rfl (dp_ex e12 d0)) evd_int (rd_ixT (i := 1) rfl)) (evd_if (evb_word (h0 "kept" _ rfl H2 e12)) (fun hb => absurd hb (by decide +kernel)) (fun _ => evd_greatest_of (evd_var rfl (dp_ex e12 d1)) (evd_op (evd_var rfl (dp_ex e12 d0)) evd_int (rd_ixT (i := 2) rfl)) ⟨by show sz _ + sz _ ≤ _; omega, by show sz _ + sz _ ≤ _; omega⟩)) (by show sz _ + sz _ ≤ _; omega)) fun v H3 e3 dv => q v H3 (e12.trans e3) dv
end
end My
namespace My
open PySem PySem.Spec PyProof.Rows L2
open Evl (Ex ex_l ex_t fresh_back)
def dealD (d : Deal) : PyData := .tuple [fr d.worth, fr d.money, .tuple (d.things.map thD), .tuple [fr d.count, fr d.part]]
theorem to_deal (d : Deal) : tupOnly (dealD d) = true := by
  have := tupAll_map (enc := thD) to_th d.things
  simp [dealD, tupOnly, tupAll, this]
def prePool (d : Deal) (p s : Rat) : Prop := d.part ≠ 1 ∧ ∃ n m k, sz d.money ≤ n ∧ sz d.part ≤ n ∧ sz d.count ≤ n ∧ sz p ≤ m ∧ sz s ≤ k ∧ k + 8 * n + 2 * m + 20 ≤ 100000000
structure preWorths (d : Deal) (p : Rat) : Prop where
  things : ∀ t ∈ d.things, preThing t p d.money
  len : d.things.length ≤ 100
  tot : okTotal (thingWs d p)
  pool : prePool d p (thingWs d p).sum
section
variable {P : Program} {w : World} {K : PySem.W.Frag} {mg : Str → Option Value} {base : Heap}
theorem evd_thing {ta tb tc : TE} {σ : L2.St} {H : Hp} {t : Th} {p money : Rat} (ha : EvD K ta σ H (thD t)) (hb : EvD K tb σ H (fr p)) (hc : EvD K tc σ H (fr money)) (h : preThing t p money) {E : XK} :
    EvD K (tCall (spThing K) [] E (tCons ta (tCons tb (tCons tc tNil)))) σ H (fr (thingW t p money)) :=
  evd_call (ead_cons ha (ead_cons hb (ead_cons hc ead_nil))) (spd_of (t, p, money) h)
theorem evd_deal {te : TE} {σ : L2.St} {H : Hp} {d : Deal} (h : EvD K te σ H (dealD d)) :
    EvD K (tOp (rIxT K) te (tC (.int 0))) σ H (fr d.worth) ∧ EvD K (tOp (rIxT K) te (tC (.int 1))) σ H (fr d.money) ∧ EvD K (tOp (rIxT K) te (tC (.int 2))) σ H (.tuple (d.things.map thD)) ∧ EvD K (tOp (rIxT K) te (tC (.int 3))) σ H (.tuple [fr d.count, fr d.part]) :=
  ⟨evd_op h evd_int (rd_ixT (i := 0) rfl), evd_op h evd_int (rd_ixT (i := 1) rfl), evd_op h evd_int (rd_ixT (i := 2) rfl), evd_op h evd_int (rd_ixT (i := 3) rfl)⟩
abbrev spPool (K : PySem.W.Frag) : Sp := SpOf K (α := Deal × Rat × Rat) (fun a => [dealD a.1, fr a.2.1, fr a.2.2]) (fun a => prePool a.1 a.2.1 a.2.2) (fun a => fr (poolW a.1 a.2.1 a.2.2))
theorem ok_pool_worth (M : Md P K mg base) : Kn P w K mg base CX0 "pool_worth" ["deal", "price", "things"] 36 (spPool K) := by
  refine kn_mk M.d_pool_worth fun f fd F => okD F sc_pool_worth (fun _ => rfl) fun a cdv A outer s H vs E hr dv hs => ?_
  obtain ⟨d, p, u⟩ := a
  obtain ⟨v0, v1, v2, rfl, d0, d1, d2⟩ := dpa_three dv
  obtain ⟨h1, n, m, k, z1, z2, z3, zp, zu, hn⟩ : prePool d p u := hs
  replace d0 : Dp K H v0 (dealD d) := d0
  replace d1 : Dp K H v1 (fr p) := d1
  replace d2 : Dp K H v2 (fr u) := d2
  refine ⟨_, (pss_cons (ps_asg (pe_ix ix_tup (pv 0) pe_int (fun _ _ => rfl)) (pg_tup rfl (pgs_cons (pg_name (i := 3) sc_pool_worth.nd rfl (Or.inl rfl)) (pgs_cons (pg_name (i := 4) sc_pool_worth.nd rfl (Or.inl rfl)) pgs_nil)))) (pss_cons (ps_set (i := 5) sc_pool_worth.nd rfl (.inl rfl) (pe_kn (ok_over M) hr (pa_cons (pe_kn (ok_times M) hr (pa_cons (pv 4) (pa_cons (pe_kn (ok_added M) hr (pa_cons (pv 2) (pa_cons (pe_ix ix_tup (pv 0) pe_int (fun _ _ => rfl)) pa_nil))) pa_nil))) (pa_cons (pe_kn (ok_lessened M) hr (pa_cons (pe_cst M.g_ONE) (pa_cons (pv 4) pa_nil))) pa_nil)))) (pss_one (ps_ret (pe_kn (ok_greatest_of M) hr (pa_cons (pe_lst (pa_cons (pe_kn (ok_times M) hr (pa_cons (pv 1) (pa_cons (pv 3) pa_nil))) (pa_cons (pv 5) pa_nil))) pa_nil)))))), fun Q q => ?_⟩
  have a1 := sz_add u d.money
  have a2 := sz_mul d.part (u + d.money)
  have a3 := sz_sub 1 d.part
  rw [sz_one] at a3
  have a4 := sz_div (d.part * (u + d.money)) (1 - d.part)
  have a5 := sz_mul p d.count
  refine sd_unp2 (K := K) (evd_deal (evd_var rfl d0)).2.2.2 fun v3 v4 H1 e1 d3 d4 => ?_
  dsimp only
  refine sd_set (K := K) (evd_qq (evd_qq (evd_var rfl d4) (evd_qq (evd_var rfl (dp_ex e1 d2)) (evd_deal (evd_var rfl (dp_ex e1 d0))).2.1 (by show sz _ + sz _ ≤ _; omega)) (by show sz _ + sz _ ≤ _; omega)) (evd_qq (evd_cst M.g_ONE) (evd_var rfl d4) (by show sz _ + sz _ ≤ _; rw [sz_one]; omega)) (And.intro (by show sz _ + sz _ ≤ _; omega) (by grind))) fun v5 H2 e2 d5 => ?_
  dsimp only
  exact sd_ret (K := K) (evd_greatest_of (evd_qq (evd_var rfl (dp_ex (e1.trans e2) d1)) (evd_var rfl (dp_ex e2 d3)) (by show sz _ + sz _ ≤ _; omega)) (evd_var rfl d5) ⟨by show sz _ + sz _ ≤ _; omega, by show sz _ + sz _ ≤ _; omega⟩) fun v H3 e3 dv => q v H3 ((e1.trans e2).trans e3) dv
abbrev spWorths (K : PySem.W.Frag) : Sp := SpOf K (α := Deal × Rat) (fun a => [dealD a.1, fr a.2]) (fun a => preWorths a.1 a.2) (fun a => .tuple ((worthsAt a.1 a.2).map fr))
theorem ok_worths_at (M : Md P K mg base) : Kn P w K mg base CX0 "worths_at" ["deal", "price"] 38 (spWorths K) := by
  refine kn_mk M.d_worths_at fun f fd F => okD F sc_worths_at (fun _ => rfl) fun a cdv A outer s H vs E hr dv hs => ?_
  obtain ⟨d, p⟩ := a
  obtain ⟨v0, v1, rfl, d0, d1⟩ := dpa_two dv
  obtain ⟨ht, hlen, htot, hpool⟩ : preWorths d p := hs
  replace d0 : Dp K H v0 (dealD d) := d0
  replace d1 : Dp K H v1 (fr p) := d1
  refine ⟨_, (pss_cons (ps_setLc (i := 2) (own := [("thing", 3)]) (g := (gName 3)) (tt := tYes) rfl sc_worths_at.nd rfl rfl (sw_true rfl rfl rfl (by decide +kernel)) (pi_tup (pe_ix ix_tup (pv 0) pe_int (fun _ _ => rfl))) (blkOk_by (N := ["deal", "price", "found", "thing"]) (sc := defScope s_worths_at) (own := [("thing", 3)]) (by decide +kernel)) (fun _ _ _ _ _ => (pg_name (i := 3) sc_worths_at.nd rfl (by first | exact Or.inl rfl | exact Or.inr rfl))) (fun _ _ _ _ _ => pts_nil) (fun _ _ _ _ _ => (pe_kn (ok_thing_worth M) hr (pa_cons (pv 3) (pa_cons (pv 1) (pa_cons (pe_ix (r := rIxT K) ix_tup (pv 0) pe_int (fun _ _ => rfl)) pa_nil)))))) (pss_one (ps_ret (pe_callTy call_tuple_of (by rfl) M.n_tuple (by decide +kernel) (pa_cons (pe_lst (StX.pa_star (pv 2) (pa_cons (pe_kn (ok_pool_worth M) hr (pa_cons (pv 0) (pa_cons (pv 1) (pa_cons (pe_kn (ok_total M) hr (pa_cons (pv 2) pa_nil)) pa_nil)))) pa_nil))) pa_nil))))), fun Q q => ?_⟩
  refine sd_set (K := K) (d := .list ((thingWs d p).map fr)) ((evd_lcT (xs := d.things) (enc := thD) (keep := fun _ => true) (out := fun t => fr (thingW t p d.money)) (evd_deal (evd_var rfl d0)).2.2.1 (by omega) (fun _ => rfl) fun t htm => turn_name (fun _ => rfl) fun y H3 e3 dy => ⟨evb_yes, fun _ => evd_thing (evd_var rfl dy) (evd_var rfl (dp_ex e3 d1)) (evd_deal (evd_var rfl (dp_ex e3 d0))).2.1 (ht t htm)⟩).is ?_) fun v2 H1 e1 d2 => ?_
  · rw [filter_true]; unfold thingWs; rw [List.map_map]; rfl
  · dsimp only
    refine sd_ret (K := K) (d := .tuple ((worthsAt d p).map fr)) ((evd_cb (ead_cons (evd_lst (ead_starL (evd_var rfl d2) (ead_cons (evd_call (ead_cons (evd_var rfl (dp_ex e1 d0)) (ead_cons (evd_var rfl (dp_ex e1 d1)) (ead_cons (evd_totalL (evd_var rfl d2) htot) ead_nil))) (spd_of (d, p, (thingWs d p).sum) hpool)) ead_nil)) ?_) ead_nil) rc_tupL).is ?_) fun v H2 e2 dv => q v H2 (e1.trans e2) dv
    · rw [List.length_append, List.length_map]; unfold thingWs; rw [List.length_map]; simp; omega
    · unfold worthsAt; rw [List.map_append]; rfl
theorem evd_worths {ta tb : TE} {σ : L2.St} {H : Hp} {d : Deal} {p : Rat} (ha : EvD K ta σ H (dealD d)) (hb : EvD K tb σ H (fr p)) (h : preWorths d p) {E : XK} : EvD K (tCall (spWorths K) [] E (tCons ta (tCons tb tNil))) σ H (.tuple ((worthsAt d p).map fr)) :=
  evd_call (ead_cons ha (ead_cons hb ead_nil)) (spd_of (d, p) h)
abbrev spWorth (K : PySem.W.Frag) : Sp := SpOf K (α := Deal × Rat) (fun a => [dealD a.1, fr a.2]) (fun a => preWorths a.1 a.2 ∧ okTotal (worthsAt a.1 a.2)) (fun a => fr (worthAt a.1 a.2))
theorem ok_worth_at (M : Md P K mg base) : Kn P w K mg base CX0 "worth_at" ["deal", "price"] 39 (spWorth K) := by
  refine kn_mk M.d_worth_at fun f fd F => okD F sc_worth_at (fun _ => rfl) fun a cdv A outer s H vs E hr dv hs => ?_
  obtain ⟨d, p⟩ := a
  obtain ⟨v0, v1, rfl, d0, d1⟩ := dpa_two dv
  obtain ⟨h1, h2⟩ : preWorths d p ∧ okTotal (worthsAt d p) := hs
  refine ⟨_, (pss_one (ps_ret (pe_kn (ok_total M) hr (pa_cons (pe_kn (ok_worths_at M) hr (pa_cons (pv 0) (pa_cons (pv 1) pa_nil))) pa_nil)))), fun Q q => ?_⟩
  exact sd_ret (K := K) (evd_totalT (evd_worths (evd_var rfl d0) (evd_var rfl d1) h1) h2) fun v H1 e1 dv => q v H1 e1 dv
theorem evd_worth {ta tb : TE} {σ : L2.St} {H : Hp} {d : Deal} {p : Rat} (ha : EvD K ta σ H (dealD d)) (hb : EvD K tb σ H (fr p)) (h : preWorths d p ∧ okTotal (worthsAt d p)) {E : XK} : EvD K (tCall (spWorth K) [] E (tCons ta (tCons tb tNil))) σ H (fr (worthAt d p)) :=
  evd_call (ead_cons ha (ead_cons hb ead_nil)) (spd_of (d, p) h)
structure preThC (t : Th) (money : Rat) : Prop where
  ok : ThOk t
  mon : 0 ≤ money
  siz : ∃ n, 1 ≤ n ∧ ThSz n t ∧ sz money ≤ n ∧ 40 * n + 100 ≤ 100000000
theorem preCurve1 : preCurve [(0, 0)] := ⟨by simp, List.pairwise_singleton _ _, by simp, 1, fun p hp => by
  rw [List.mem_singleton.mp hp]; exact ⟨by rw [sz_zero]; omega, by rw [sz_zero]; omega⟩, by omega⟩
theorem preCurve2 {l y : Rat} (hl : 0 < l) {n : Nat} (h1 : sz l ≤ n) (h2 : sz y ≤ n) (hn : 4 * n + 2 ≤ 100000000) : preCurve [(0, 0), (l, y)] := by
  have := sz_pos l
  refine ⟨by simp, ?_, by simp, n, fun p hp => ?_, hn⟩
  · refine List.pairwise_cons.mpr ⟨fun q hq => ?_, List.pairwise_singleton _ _⟩
    rw [List.mem_singleton.mp hq]; exact hl
  · rcases List.mem_cons.mp hp with rfl | hp
    · exact ⟨by rw [sz_zero]; omega, by rw [sz_zero]; omega⟩
    · rw [List.mem_singleton.mp hp]; exact ⟨h1, h2⟩
abbrev spThC (K : PySem.W.Frag) : Sp := SpOf K (α := Th × Rat) (fun a => [thD a.1, fr a.2]) (fun a => preThC a.1 a.2) (fun a => cvD (thingCv a.1 a.2))
theorem ok_thing_curve (M : Md P K mg base) : Kn P w K mg base CX0 "thing_curve" ["thing", "money"] 38 (spThC K) := by
  refine kn_mk M.d_thing_curve fun f fd F => okD F sc_thing_curve (fun _ => rfl) fun a cdv A outer s H vs E hr dv hs => ?_
  obtain ⟨t, money⟩ := a
  obtain ⟨v0, v1, rfl, d0, d1⟩ := dpa_two dv
  replace hs : preThC t money := hs
  obtain ⟨hok, hm, n, hn, zt, zm, hnm⟩ := hs
  replace d0 : Dp K H v0 (thD t) := d0
  replace d1 : Dp K H v1 (fr money) := d1
  refine ⟨_, (pss_cons (ps_set (i := 2) sc_thing_curve.nd rfl (.inl rfl) (pe_tup (pa_cons (pe_cst M.g_ZERO) (pa_cons (pe_cst M.g_ZERO) pa_nil)))) (pss_cons (ps_if (pt_cmpR (op_eqD hr.units) (pe_ix ix_tup (pv 0) pe_int (fun _ _ => rfl)) pe_str (nomark _)) (pss_one (ps_ret (pe_kn (ok_curve M) hr (pa_cons (pe_lst (pa_cons (pv 2) pa_nil)) (pa_cons (pe_ix ix_tup (pv 0) pe_int (fun _ _ => rfl)) pa_nil))))) pss_nil) (pss_cons (ps_if (pt_cmpR (op_eqD hr.units) (pe_ix ix_tup (pv 0) pe_int (fun _ _ => rfl)) pe_str (nomark _)) (pss_one (ps_ret (pe_kn (ok_curve M) hr (pa_cons (pe_lst (pa_cons (pv 2) (pa_cons (pe_tup (pa_cons (pe_ix ix_tup (pv 0) pe_int (fun _ _ => rfl)) (pa_cons (pe_cst M.g_ZERO) pa_nil))) pa_nil))) (pa_cons (pe_ix ix_tup (pv 0) pe_int (fun _ _ => rfl)) pa_nil))))) pss_nil) (pss_cons (ps_if (pt_cmpR (op_eqD hr.units) (pe_ix ix_tup (pv 0) pe_int (fun _ _ => rfl)) pe_str (nomark _)) (pss_cons (ps_asg (pv 0) (pg_tup rfl (pgs_cons (pg_name (i := 3) sc_thing_curve.nd rfl (Or.inl rfl)) (pgs_cons (pg_name (i := 4) sc_thing_curve.nd rfl (Or.inl rfl)) (pgs_cons (pg_name (i := 5) sc_thing_curve.nd rfl (Or.inl rfl)) (pgs_cons (pg_name (i := 6) sc_thing_curve.nd rfl (Or.inl rfl)) pgs_nil)))))) (pss_cons (ps_if (pt_cmpR op_isN (pv 5) pe_non (nomark _)) (pss_one (ps_ret (pe_kn0 (ok_nothing M) hr))) pss_nil) (pss_cons (ps_set (i := 7) sc_thing_curve.nd rfl (.inl rfl) (pe_kn (ok_over M) hr (pa_cons (pv 5) (pa_cons (pe_kn (ok_lessened M) hr (pa_cons (pe_cst M.g_ONE) (pa_cons (pe_ifExp (pt_cmpR op_notN (pv 6) pe_non (nomark _)) (pv 6) (pe_cst M.g_ZERO)) pa_nil))) pa_nil)))) (pss_one (ps_ret (pe_kn (ok_curve M) hr (pa_cons (pe_lst (pa_cons (pv 2) (pa_cons (pe_tup (pa_cons (pv 7) (pa_cons (pe_cst M.g_ZERO) pa_nil))) pa_nil))) (pa_cons (pe_kn (ok_over M) hr (pa_cons (pv 4) (pa_cons (pv 5) pa_nil))) pa_nil)))))))) pss_nil) (pss_cons (ps_asg (pv 0) (pg_tup rfl (pgs_cons (pg_name (i := 3) sc_thing_curve.nd rfl (Or.inl rfl)) (pgs_cons (pg_name (i := 8) sc_thing_curve.nd rfl (Or.inl rfl)) (pgs_cons (pg_name (i := 9) sc_thing_curve.nd rfl (Or.inl rfl)) (pgs_cons (pg_name (i := 10) sc_thing_curve.nd rfl (Or.inl rfl)) pgs_nil)))))) (pss_cons (ps_set (i := 11) sc_thing_curve.nd rfl (.inl rfl) (pe_kn (ok_lessened M) hr (pa_cons (pe_kn (ok_times M) hr (pa_cons (pv 8) (pa_cons (pv 9) pa_nil))) (pa_cons (pe_kn (ok_weighed_worth M) hr (pa_cons (pv 0) (pa_cons (pe_cst M.g_ZERO) (pa_cons (pv 1) pa_nil)))) pa_nil)))) (pss_one (ps_ret (pe_kn (ok_curve M) hr (pa_cons (pe_lst (pa_cons (pv 2) (pa_cons (pe_tup (pa_cons (pv 9) (pa_cons (pv 11) pa_nil))) pa_nil))) (pa_cons (pv 8) pa_nil))))))))))), fun Q q => ?_⟩
  replace q : ∀ v H', Ex H H' → Dp K H' v (cvD (thingCv t money)) → Q v H' := q
  refine sd_set (K := K) (d := pt (0, 0)) (evd_tup (ead_cons (evd_cst M.g_ZERO) (ead_cons (evd_cst M.g_ZERO) ead_nil)) (by simp)) fun v2 H1 e1 d2 => ?_
  dsimp only
  have h0 : ∀ (wd : Str) (tl : List PyData), thD t = .tuple (.str wd :: tl) → ∀ H2, Ex H H2 → EvD K (tOp (rIxT K) (tVar 0) (tC (.int 0))) [some v0, some v1, some v2, none, none, none, none, none, none, none, none, none] H2 (.str wd) := fun wd tl e H1 e1 => evd_op (evd_var rfl (dp_ex e1 (e ▸ d0))) evd_int (rd_ixT (i := 0) rfl)
  cases t with
  | shares c =>
    refine sd_if (evb_word (h0 "shares" _ rfl H1 e1)) (fun hb H2 e2 => ?_) (fun hb _ _ => absurd hb (by decide +kernel))
    try dsimp only
    exact sd_ret (K := K) (evd_curve (cs := [(0, 0)]) (evd_lst (ead_cons (evd_var rfl (dp_ex e2 d2)) ead_nil) (by simp)) (evd_op (evd_var rfl (dp_ex (e1.trans e2) d0)) evd_int (rd_ixT (i := 1) rfl)) preCurve1) fun v H3 e3 dv => q v H3 ((e1.trans e2).trans e3) dv
  | kept c old =>
    obtain ⟨zc, zo⟩ : sz c ≤ n ∧ sz old ≤ n := zt
    refine sd_if (evb_word (h0 "kept" _ rfl H1 e1)) (fun hb _ _ => absurd hb (by decide +kernel)) (fun hb H2 e2 => ?_)
    dsimp only [tNext]
    refine sd_if (evb_word (h0 "kept" _ rfl H2 (e1.trans e2))) (fun hb H3 e3 => ?_) (fun hb _ _ => absurd hb (by decide +kernel))
    try dsimp only
    have e13 := (e1.trans e2).trans e3
    exact sd_ret (K := K) (evd_curve (cs := [(0, 0), (old, 0)]) (evd_lst (ead_cons (evd_var rfl (dp_ex (e2.trans e3) d2)) (ead_cons (evd_tup (ead_cons (evd_op (evd_var rfl (dp_ex e13 d0)) evd_int (rd_ixT (i := 2) rfl)) (ead_cons (evd_cst M.g_ZERO) ead_nil)) (by simp)) ead_nil)) (by simp)) (evd_op (evd_var rfl (dp_ex e13 d0)) evd_int (rd_ixT (i := 1) rfl)) (preCurve2 hok.2 (n := n) zo (by rw [sz_zero]; exact hn) (by omega))) fun v H4 e4 dv => q v H4 (e13.trans e4) dv
  | note amt cap disc =>
    obtain ⟨z1, z2, z3⟩ : sz amt ≤ n ∧ OptSz n cap ∧ OptSz n disc := zt
    obtain ⟨k1, k2, k3⟩ : 0 < amt ∧ (∀ k, cap = some k → 0 < k) ∧ ∀ e, disc = some e → 0 ≤ e ∧ e < 1 := hok
    replace d0 : Dp K H v0 (.tuple [.str "note", fr amt, optD cap, optD disc]) := d0
    obtain ⟨l1, l2⟩ := disc_lt k3
    have s1 := sz_disc hn z3
    have s2 := sz_sub 1 (disc.getD 0)
    rw [sz_one] at s2
    refine sd_if (evb_word (h0 "note" _ rfl H1 e1)) (fun hb _ _ => absurd hb (by decide +kernel)) (fun hb H2 e2 => ?_)
    dsimp only [tNext]
    refine sd_if (evb_word (h0 "note" _ rfl H2 (e1.trans e2))) (fun hb _ _ => absurd hb (by decide +kernel)) (fun hb H3 e3 => ?_)
    dsimp only [tNext]
    refine sd_if (evb_word (h0 "note" _ rfl H3 ((e1.trans e2).trans e3))) (fun hb H4 e4 => ?_) (fun hb _ _ => absurd hb (by decide +kernel))
    try dsimp only
    have e14 := ((e1.trans e2).trans e3).trans e4
    refine sd_unp4 (K := K) (evd_var rfl (dp_ex e14 d0)) fun v3 v4 v5 v6 H5 e5 d3 d4 d5 d6 => ?_
    dsimp only
    refine sd_if (b := isNo (optD cap)) (evb_test (K := K) (evd_op (evd_var rfl d5) evd_non rd_isN)) (fun hb H6 e6 => ?_) (fun hb H6 e6 => ?_)
    · rw [isNo_opt] at hb
      cases cap with
      | some k => simp at hb
      | none =>
        try dsimp only
        exact sd_ret (K := K) (evd_call ead_nil (spd_of () trivial)) fun v H7 e7 dv => q v H7 (((e14.trans e5).trans e6).trans e7) dv
    · rw [isNo_opt] at hb
      cases cap with
      | none => simp at hb
      | some k =>
        have kp := k2 k rfl
        have s4 := z2 k rfl
        have s5 := sz_div k (1 - disc.getD 0)
        dsimp only [tNext]
        refine sd_set (K := K) (evd_qq (evd_var rfl (dp_ex e6 d5)) (evd_qq (evd_cst M.g_ONE) (evd_disc (evd_var rfl (dp_ex e6 d6)) (evd_cst M.g_ZERO)) (by show sz _ + sz _ ≤ _; rw [sz_one]; omega)) (And.intro (by show sz _ + sz _ ≤ _; omega) (by grind))) fun v7 H7 e7 d7 => ?_
        dsimp only
        have tpos : 0 < k / (1 - disc.getD 0) := by
          rw [Rat.div_def]
          exact Rat.mul_pos kp (Rat.inv_pos.mpr (by grind))
        have k0 : k ≠ 0 := by grind
        exact sd_ret (K := K) (evd_curve (cs := [(0, 0), (k / (1 - disc.getD 0), 0)]) (evd_lst (ead_cons (evd_var rfl (dp_ex ((((e2.trans e3).trans e4).trans e5).trans (e6.trans e7)) d2)) (ead_cons (evd_tup (ead_cons (evd_var rfl d7) (ead_cons (evd_cst M.g_ZERO) ead_nil)) (by simp)) ead_nil)) (by simp)) (evd_qq (evd_var rfl (dp_ex (e6.trans e7) d4)) (evd_var rfl (dp_ex (e6.trans e7) d5)) ⟨by show sz _ + sz _ ≤ _; omega, k0⟩) (preCurve2 tpos (n := 2 * n + 2) (by omega) (by rw [sz_zero]; omega) (by omega))) fun v H8 e8 dv => q v H8 ((((e14.trans e5).trans e6).trans e7).trans e8) dv
  | weighed c old thn =>
    have zt' := zt
    obtain ⟨z1, z2, z3⟩ : sz c ≤ n ∧ sz old ≤ n ∧ sz thn ≤ n := zt
    replace d0 : Dp K H v0 (.tuple [.str "weighed", fr c, fr old, fr thn]) := d0
    refine sd_if (evb_word (h0 "weighed" _ rfl H1 e1)) (fun hb _ _ => absurd hb (by decide +kernel)) (fun hb H2 e2 => ?_)
    dsimp only [tNext]
    refine sd_if (evb_word (h0 "weighed" _ rfl H2 (e1.trans e2))) (fun hb _ _ => absurd hb (by decide +kernel)) (fun hb H3 e3 => ?_)
    dsimp only [tNext]
    refine sd_if (evb_word (h0 "weighed" _ rfl H3 ((e1.trans e2).trans e3))) (fun hb _ _ => absurd hb (by decide +kernel)) (fun hb H4 e4 => ?_)
    dsimp only [tNext]
    have e14 := ((e1.trans e2).trans e3).trans e4
    have s1 := sz_mul c old
    have s2 : sz (weighedW c old thn 0 money) ≤ 7 * n + 1 + 4 := sz_thingW (t := .weighed c old thn) hn zt' zm (by rw [sz_zero]; omega)
    have s3 := sz_sub (c * old) (weighedW c old thn 0 money)
    refine sd_unp4 (K := K) (evd_var rfl (dp_ex e14 d0)) fun v3 v4 v5 v6 H5 e5 d3 d4 d5 d6 => ?_
    dsimp only
    refine sd_set (K := K) (evd_qq (evd_qq (evd_var rfl d4) (evd_var rfl d5) (by show sz _ + sz _ ≤ _; omega)) (evd_weighed (evd_var rfl (dp_ex (e14.trans e5) d0)) (evd_cst M.g_ZERO) (evd_var rfl (dp_ex (e14.trans e5) d1)) ⟨hok, hm, n, 1, hn, zt', zm, by rw [sz_zero]; omega, by omega⟩) (by show sz _ + sz _ ≤ _; omega)) fun v7 H6 e6 d7 => ?_
    dsimp only
    exact sd_ret (K := K) (evd_curve (cs := [(0, 0), (old, c * old - weighedW c old thn 0 money)]) (evd_lst (ead_cons (evd_var rfl (dp_ex (((e2.trans e3).trans e4).trans (e5.trans e6)) d2)) (ead_cons (evd_tup (ead_cons (evd_var rfl (dp_ex e6 d5)) (ead_cons (evd_var rfl d7) ead_nil)) (by simp)) ead_nil)) (by simp)) (evd_var rfl (dp_ex e6 d4)) (preCurve2 hok.2.1 (n := 9 * n + 10) (by omega) (by omega) (by omega))) fun v H7 e7 dv => q v H7 (((e14.trans e5).trans e6).trans e7) dv
theorem evd_thC {ta tb : TE} {σ : L2.St} {H : Hp} {t : Th} {money : Rat} (ha : EvD K ta σ H (thD t)) (hb : EvD K tb σ H (fr money)) (h : preThC t money) {E : XK} : EvD K (tCall (spThC K) [] E (tCons ta (tCons tb tNil))) σ H (cvD (thingCv t money)) :=
  evd_call (ead_cons ha (ead_cons hb ead_nil)) (spd_of (t, money) h)
end
end My
namespace My
open PySem PySem.Spec PyProof.Rows L2
open Evl (Ex ex_l ex_t fresh_back)
structure preLow (c : Cv) (g : Rat) : Prop where
  re : preReached c g
  cut : ∀ l, reached c g = some l → (∀ p ∈ c.cs, okSz p.1 l ∧ okSz p.2 g) ∧ preCurve (lowerCs c g l)
section
variable {P : Program} {w : World} {K : PySem.W.Frag} {mg : Str → Option Value} {base : Heap}
theorem evd_level {te tf : TE} {σ : L2.St} {H : Hp} {c : Cv} {y : Rat} (ha : EvD K te σ H (cvD c)) (hb : EvD K tf σ H (fr y)) (h : preReached c y) {E : XK} : EvD K (tCall (spReached K) [] E (tCons te (tCons tf tNil))) σ H (optD (reached c y)) :=
  evd_call (ead_cons ha (ead_cons hb ead_nil)) (spd_of (c, y) h)
theorem pe_cstB {K : PySem.W.Frag} {mg : Str → Option Value} {X : Cx} {x : Str} {d : PyData} {pos : Pos} (h : CstT K mg x d) (hm : X.mg = mg := by rfl) (hg : Gl X x := by rfl) (hd : (x == ("__debug__" : Str)) = false := by decide) : PE X (.Name x pos) (tC (.ref h.choose)) :=
  pe_glob (v := .ref h.choose) hg (hm ▸ h.choose_spec.1) rfl hd
abbrev spLow (K : PySem.W.Frag) : Sp := SpOf K (α := Cv × Rat) (fun a => [cvD a.1, fr a.2]) (fun a => preLow a.1 a.2) (fun a => cvD (lowered a.1 a.2))
theorem ok_lowered (M : Md P K mg base) : Kn P w K mg base CX0 "lowered" ["one", "gap"] 39 (spLow K) := by
  refine kn_mk M.d_lowered fun f fd F => okD F sc_lowered (fun _ => rfl) fun a cdv A outer s H vs E hr dv hs => ?_
  obtain ⟨c, g⟩ := a
  obtain ⟨v0, v1, rfl, d0, d1⟩ := dpa_two dv
  obtain ⟨hre, hcut⟩ : preLow c g := hs
  replace d0 : Dp K H v0 (cvD c) := d0
  replace d1 : Dp K H v1 (fr g) := d1
  refine ⟨_, (pss_cons (ps_set (i := 2) sc_lowered.nd rfl (.inr rfl) (pe_kn (ok_level_for M) hr (pa_cons (pv 0) (pa_cons (pv 1) pa_nil)))) (pss_cons (ps_if (pt_cmpR op_isN (pv 2) pe_non (nomark _)) (pss_one (ps_ret (pe_kn0 (ok_nothing M) hr))) pss_nil) (pss_cons (ps_setLc (i := 3) (own := [("at", 5), ("pay", 6)]) (g := (gTup K 2 (gCons (gName 5) (gCons (gName 6) gNil)))) rfl sc_lowered.nd rfl rfl (sw_true rfl rfl rfl (by decide +kernel)) (pi_tup (pe_ix ix_tup (pv 0) pe_int (fun _ _ => rfl))) (blkOk_by (N := ["one", "gap", "level", "later", "first", "at", "pay"]) (sc := defScope s_lowered) (own := [("at", 5), ("pay", 6)]) (by decide +kernel)) (fun _ _ _ _ _ => (pg_tup rfl (pgs_cons (pg_name (i := 5) sc_lowered.nd rfl (by first | exact Or.inl rfl | exact Or.inr rfl)) (pgs_cons (pg_name (i := 6) sc_lowered.nd rfl (by first | exact Or.inl rfl | exact Or.inr rfl)) pgs_nil)))) (fun _ _ _ _ _ => pts_one (pt_cmpR op_gt (pe_kn (ok_compared M) hr (pa_cons (pv 5) (pa_cons (pv 2) pa_nil))) pe_int (nomark _))) (fun _ _ _ _ _ => (pe_tup (pa_cons (pv 5) (pa_cons (pe_kn (ok_lessened M) hr (pa_cons (pv 6) (pa_cons (pv 1) pa_nil))) pa_nil))))) (pss_cons (ps_set (i := 4) sc_lowered.nd rfl (.inl rfl) (pe_ifExp (pt_cmpR op_gt (pe_ix ix_tup (pv 2) pe_int (fun _ _ => rfl)) pe_int (nomark _)) (pe_lst (pa_cons (pe_tup (pa_cons (pe_cst M.g_ZERO) (pa_cons (pe_cst M.g_ZERO) pa_nil))) (pa_cons (pe_tup (pa_cons (pv 2) (pa_cons (pe_cst M.g_ZERO) pa_nil))) pa_nil))) (pe_lst (pa_cons (pe_tup (pa_cons (pe_cst M.g_ZERO) (pa_cons (pe_cst M.g_ZERO) pa_nil))) pa_nil)))) (pss_one (ps_ret (pe_kn (ok_curve M) hr (pa_cons (pe_op op_catX (pv 4) (pv 3)) (pa_cons (pe_ix ix_tup (pv 0) pe_int (fun _ _ => rfl)) pa_nil))))))))), fun Q q => ?_⟩
  replace q : ∀ v H', Ex H H' → Dp K H' v (cvD (lowered c g)) → Q v H' := q
  refine sd_set (K := K) (evd_level (evd_var rfl d0) (evd_var rfl d1) hre) fun v2 H1 e1 d2 => ?_
  dsimp only
  refine sd_if (b := (reached c g).isNone) (evb_is (evb_test (K := K) (evd_op (evd_var rfl d2) evd_non rd_isN)) (isNo_opt _)) (fun hb H2 e2 => ?_) (fun hb H2 e2 => ?_)
  · have h0 : reached c g = none := Option.isNone_iff_eq_none.mp hb
    have hl : lowered c g = cv0 := by unfold lowered; rw [h0]
    rw [hl] at q
    try dsimp only
    exact sd_ret (K := K) (evd_call ead_nil (spd_of () trivial)) fun v H3 e3 dv => q v H3 ((e1.trans e2).trans e3) dv
  · obtain ⟨l, hl⟩ : ∃ l, reached c g = some l := by
      cases h : reached c g with
      | none => rw [h] at hb; simp at hb
      | some l => exact ⟨l, rfl⟩
    have hlow : lowered c g = mkCv (lowerCs c g l) c.sl := by unfold lowered; rw [hl]
    rw [hlow] at q
    rw [hl] at d2
    replace d2 : Dp K H1 v2 (fr l) := d2
    obtain ⟨hsz, hcv⟩ := hcut l hl
    have hlen : c.cs.length ≤ 40000 := hre.1
    dsimp only [tNext]
    refine sd_set (K := K) (d := .list (((c.cs.filter fun p => decide (l < p.1)).map fun p => ((p.1, p.2 - g) : Pt)).map pt)) ((evd_lcT (xs := c.cs) (enc := pt) (keep := fun p => decide (l < p.1)) (out := fun p : Pt => pt (p.1, p.2 - g)) (evd_cs (evd_var rfl (dp_ex (e1.trans e2) d0))) (by omega) (fun _ => rfl) fun p hp => turn_pair rfl (fun _ _ => rfl) fun z u H3 e3 dz du =>
      ⟨evb_is (evb_test (K := K) (evd_op (evd_cmp (evd_var rfl dz) (evd_var rfl (dp_ex (e2.trans e3) d2)) (hsz p hp).1) evd_int rd_B0)) (cmp_pos _ _), fun _ => evd_tup (ead_cons (evd_var rfl dz) (ead_cons (evd_qq (evd_var rfl du) (evd_var rfl (dp_ex ((e1.trans e2).trans e3) d1)) (hsz p hp).2) ead_nil)) (by simp)⟩).is ?_) fun v3 H3 e3 d3 => ?_
    · rw [List.map_map]; rfl
    · dsimp only
      refine sd_set (K := K) (d := .list ((if 0 < l then [(0, 0), (l, 0)] else [(0, 0)] : List Pt).map pt)) (evd_if (b := decide (0 < l)) (evb_is (evb_test (K := K) (evd_op (evd_op (evd_var rfl (dp_ex (e2.trans e3) d2)) evd_int (rd_ixT (i := 0) rfl)) evd_int rd_B0)) ?_) (fun h => ?_) (fun h => ?_)) fun v4 H4 e4 d4 => ?_
      · exact decide_eq_decide.mpr (num_pos_iff l)
      · rw [if_pos (of_decide_eq_true h)]
        exact evd_lst (ead_cons (evd_tup (ead_cons (evd_cst M.g_ZERO) (ead_cons (evd_cst M.g_ZERO) ead_nil)) (by simp)) (ead_cons (evd_tup (ead_cons (evd_var rfl (dp_ex (e2.trans e3) d2)) (ead_cons (evd_cst M.g_ZERO) ead_nil)) (by simp)) ead_nil)) (by simp)
      · rw [if_neg (of_decide_eq_false h)]
        exact evd_lst (ead_cons (evd_tup (ead_cons (evd_cst M.g_ZERO) (ead_cons (evd_cst M.g_ZERO) ead_nil)) (by simp)) ead_nil) (by simp)
      · dsimp only
        refine sd_ret (K := K) (evd_curve (cs := lowerCs c g l) ((evd_op (evd_var rfl d4) (evd_var rfl (dp_ex e4 d3)) (rd_catX ?_)).is ?_) (evd_sl (evd_var rfl (dp_ex (((e1.trans e2).trans e3).trans e4) d0))) hcv) fun v H5 e5 dv => q v H5 ((((e1.trans e2).trans e3).trans e4).trans e5) dv
        · rw [List.length_map, List.length_map, List.length_map]
          have := List.length_filter_le (fun p : Pt => decide (l < p.1)) c.cs
          split <;> simp <;> omega
        · unfold lowerCs; rw [List.map_append]
theorem evd_low {te tf : TE} {σ : L2.St} {H : Hp} {c : Cv} {y : Rat} (ha : EvD K te σ H (cvD c)) (hb : EvD K tf σ H (fr y)) (h : preLow c y) {E : XK} : EvD K (tCall (spLow K) [] E (tCons te (tCons tf tNil))) σ H (cvD (lowered c y)) :=
  evd_call (ead_cons ha (ead_cons hb ead_nil)) (spd_of (c, y) h)
/-- what the curve of a deal asks -/
structure preWC (d : Deal) : Prop where
  part : d.part ≠ 1
  psz : okSz 1 d.part ∧ okSz 1 (1 - d.part)
  len : d.things.length ≤ 100
  tc : ∀ t ∈ d.things, preThC t d.money
  add1 : preAdd (d.things.map fun t => thingCv t d.money)
  sc : preScaled (thingsCv d) (1 / (1 - d.part))
  w0 : preWorths d 0 ∧ okTotal (worthsAt d 0)
  gap : d.count ≠ 0 → okSz (worthAt d 0) (thingWs d 0).sum
  add2 : d.count ≠ 0 → preAdd [thingsCv d, mkCv [(0, 0)] d.count]
  low : d.count ≠ 0 → preLow (bareCv d) (gapOf d)
  great : d.count ≠ 0 → preMeet cv0 (filledCv d) ∧ preMeet (greaterOf cv0 (filledCv d)) (lowered (bareCv d) (gapOf d))
abbrev spWC (K : PySem.W.Frag) : Sp := SpOf K (α := Deal) (fun a => [dealD a]) (fun a => preWC a) (fun a => cvD (worthCv a))
theorem num_zero (q : Rat) : decide (q.num = 0) = decide (q = 0) := by
  by_cases h : q = 0
  · subst h; rfl
  · have : q.num ≠ 0 := fun e => h (Rat.num_eq_zero.mp e)
    simp [h, this]
theorem ok_worth_curve (M : Md P K mg base) : Kn P w K mg base CX0 "worth_curve" ["deal"] 45 (spWC K) := by
  refine kn_mk M.d_worth_curve fun f fd F => okD F sc_worth_curve (fun _ => rfl) fun a cdv A outer s H vs E hr dv hs => ?_
  obtain ⟨v0, rfl, d0⟩ := dpa_one dv
  obtain ⟨hpt, ⟨hp1, hp2⟩, hlen, htc, hadd1, hsc, hw0, hgap, hadd2, hlow, hgr⟩ : preWC a := hs
  replace d0 : Dp K H v0 (dealD a) := d0
  refine ⟨_, (pss_cons (ps_asg (pe_ix ix_tup (pv 0) pe_int (fun _ _ => rfl)) (pg_tup rfl (pgs_cons (pg_name (i := 1) sc_worth_curve.nd rfl (Or.inl rfl)) (pgs_cons (pg_name (i := 2) sc_worth_curve.nd rfl (Or.inl rfl)) pgs_nil)))) (pss_cons (ps_set (i := 3) sc_worth_curve.nd rfl (.inl rfl) (pe_kn (ok_added_up M) hr (pa_cons (pe_lc (own := [("thing", 7)]) (g := (gName 7)) (tt := tYes) rfl sc_worth_curve.nd (pi_tup (pe_ix ix_tup (pv 0) pe_int (fun _ _ => rfl))) (blkOk_by (N := ["deal", "count", "part", "things", "filled", "bare", "gap", "thing"]) (sc := defScope s_worth_curve) (own := [("thing", 7)]) (by decide +kernel)) (fun _ _ _ _ _ => (pg_name (i := 7) sc_worth_curve.nd rfl (by first | exact Or.inl rfl | exact Or.inr rfl))) (fun _ _ _ _ _ => pts_nil) (fun _ _ _ _ _ => (pe_kn (ok_thing_curve M) hr (pa_cons (pv 7) (pa_cons (pe_ix (r := rIxT K) ix_tup (pv 0) pe_int (fun _ _ => rfl)) pa_nil))))) pa_nil))) (pss_cons (ps_set (i := 4) sc_worth_curve.nd rfl (.inl rfl) (pe_kn (ok_scaled M) hr (pa_cons (pv 3) (pa_cons (pe_kn (ok_over M) hr (pa_cons (pe_cst M.g_ONE) (pa_cons (pe_kn (ok_lessened M) hr (pa_cons (pe_cst M.g_ONE) (pa_cons (pv 2) pa_nil))) pa_nil))) pa_nil)))) (pss_cons (ps_if (pt_cmpR (op_eqD hr.units) (pe_ix ix_tup (pv 1) pe_int (fun _ _ => rfl)) pe_int (nomark _)) (pss_one (ps_ret (pv 4))) pss_nil) (pss_cons (ps_set (i := 5) sc_worth_curve.nd rfl (.inl rfl) (pe_kn (ok_total M) hr (pa_cons (pe_lc (own := [("thing", 7)]) (g := (gName 7)) (tt := tYes) rfl sc_worth_curve.nd (pi_tup (pe_ix ix_tup (pv 0) pe_int (fun _ _ => rfl))) (blkOk_by (N := ["deal", "count", "part", "things", "filled", "bare", "gap", "thing"]) (sc := defScope s_worth_curve) (own := [("thing", 7)]) (by decide +kernel)) (fun _ _ _ _ _ => (pg_name (i := 7) sc_worth_curve.nd rfl (by first | exact Or.inl rfl | exact Or.inr rfl))) (fun _ _ _ _ _ => pts_nil) (fun _ _ _ _ _ => (pe_kn (ok_thing_worth M) hr (pa_cons (pv 7) (pa_cons (pe_cstB M.g_ZERO) (pa_cons (pe_ix (r := rIxT K) ix_tup (pv 0) pe_int (fun _ _ => rfl)) pa_nil)))))) pa_nil))) (pss_cons (ps_set (i := 6) sc_worth_curve.nd rfl (.inl rfl) (pe_kn (ok_lessened M) hr (pa_cons (pe_kn (ok_worth_at M) hr (pa_cons (pv 0) (pa_cons (pe_cst M.g_ZERO) pa_nil))) (pa_cons (pv 5) pa_nil)))) (pss_one (ps_ret (pe_kn (ok_greatest M) hr (pa_cons (pe_lst (pa_cons (pv 4) (pa_cons (pe_kn (ok_lowered M) hr (pa_cons (pe_kn (ok_added_up M) hr (pa_cons (pe_lst (pa_cons (pv 3) (pa_cons (pe_kn (ok_curve M) hr (pa_cons (pe_lst (pa_cons (pe_tup (pa_cons (pe_cst M.g_ZERO) (pa_cons (pe_cst M.g_ZERO) pa_nil))) pa_nil)) (pa_cons (pv 1) pa_nil))) pa_nil))) pa_nil)) (pa_cons (pv 6) pa_nil))) pa_nil))) pa_nil)))))))))), fun Q q => ?_⟩
  replace q : ∀ v H', Ex H H' → Dp K H' v (cvD (worthCv a)) → Q v H' := q
  refine sd_unp2 (K := K) (evd_deal (evd_var rfl d0)).2.2.2 fun v1 v2 H1 e1 d1 d2 => ?_
  dsimp only
  refine sd_set (K := K) (d := cvD (thingsCv a)) (evd_call (ead_cons ((evd_lcT (xs := a.things) (enc := thD) (keep := fun _ => true) (out := fun t => cvD (thingCv t a.money)) (evd_deal (evd_var rfl (dp_ex e1 d0))).2.2.1 (by omega) (fun _ => to_cv _) fun t htm => turn_name (fun _ => rfl) fun y H3 e3 dy => ⟨evb_yes, fun _ => evd_thC (evd_var rfl dy) (evd_deal (evd_var rfl (dp_ex (e1.trans e3) d0))).2.1 (htc t htm)⟩).is ?_) ead_nil) (spd_of (a.things.map fun t => thingCv t a.money) hadd1)) fun v3 H2 e2 d3 => ?_
  · rw [filter_true, List.map_map]; rfl
  dsimp only
  refine sd_set (K := K) (d := cvD (filledCv a)) (evd_call (ead_cons (evd_var rfl d3) (ead_cons (evd_qq (evd_cst M.g_ONE) (evd_qq (evd_cst M.g_ONE) (evd_var rfl (dp_ex e2 d2)) hp1) (And.intro hp2 (by grind))) ead_nil)) (spd_of (thingsCv a, 1 / (1 - a.part)) hsc)) fun v4 H3 e3 d4 => ?_
  dsimp only
  refine sd_if (b := decide (a.count = 0)) (evb_is (evb_test (K := K) (evd_op (evd_op (evd_var rfl (dp_ex (e2.trans e3) d1)) evd_int (rd_ixT (i := 0) rfl)) evd_int (rd_eqD (shaped_int _) (shaped_int _)))) ?_) (fun hb H4 e4 => ?_) (fun hb H4 e4 => ?_)
  · rw [eqv_int]; exact num_zero _
  · have hw : worthCv a = filledCv a := by unfold worthCv; rw [if_pos (of_decide_eq_true hb)]
    rw [hw] at q
    try dsimp only
    exact sd_ret (K := K) (evd_var rfl (dp_ex e4 d4)) fun v H5 e5 dv => q v H5 (((((e1.trans e2).trans e3).trans e4)).trans e5) dv
  · have h0 : a.count ≠ 0 := of_decide_eq_false hb
    have hw : worthCv a = greaterOf (greaterOf cv0 (filledCv a)) (lowered (bareCv a) (gapOf a)) := by unfold worthCv; rw [if_neg h0]
    rw [hw] at q
    dsimp only [tNext]
    have e14 := ((e1.trans e2).trans e3).trans e4
    refine sd_set (K := K) (d := fr (thingWs a 0).sum) (evd_totalL ((evd_lcT (xs := a.things) (enc := thD) (keep := fun _ => true) (out := fun t => fr (thingW t 0 a.money)) (evd_deal (evd_var rfl (dp_ex e14 d0))).2.2.1 (by omega) (fun _ => rfl) fun t htm => turn_name (fun _ => rfl) fun y H3 e3 dy => ⟨evb_yes, fun _ => evd_thing (evd_var rfl dy) (evd_cst M.g_ZERO) (evd_deal (evd_var rfl (dp_ex (e14.trans e3) d0))).2.1 (hw0.1.things t htm)⟩).is ?_) hw0.1.tot) fun v5 H5 e5 d5 => ?_
    · rw [filter_true]; unfold thingWs; rw [List.map_map]; rfl
    dsimp only
    refine sd_set (K := K) (d := fr (gapOf a)) (evd_qq (evd_worth (evd_var rfl (dp_ex (e14.trans e5) d0)) (evd_cst M.g_ZERO) hw0) (evd_var rfl d5) (hgap h0)) fun v6 H6 e6 d6 => ?_
    dsimp only
    have e46 := (e4.trans e5).trans e6
    exact sd_ret (K := K) (evd_call (ead_cons (evd_lst (ead_cons (evd_var rfl (dp_ex e46 d4)) (ead_cons (evd_low (evd_call (ead_cons (evd_lst (ead_cons (evd_var rfl (dp_ex (e3.trans e46) d3)) (ead_cons (evd_curve (cs := [(0, 0)]) (evd_lst (ead_cons (evd_tup (ead_cons (evd_cst M.g_ZERO) (ead_cons (evd_cst M.g_ZERO) ead_nil)) (by simp)) ead_nil) (by simp)) (evd_var rfl (dp_ex ((e2.trans e3).trans e46) d1)) preCurve1) ead_nil)) (by simp)) ead_nil) (spd_of [thingsCv a, mkCv [(0, 0)] a.count] (hadd2 h0))) (evd_var rfl d6) (hlow h0)) ead_nil)) (by simp)) ead_nil) (spd_of (filledCv a, lowered (bareCv a) (gapOf a)) (hgr h0))) fun v H7 e7 dv => q v H7 (((e14.trans e5).trans e6).trans e7) dv
end
end My
namespace My
open PySem PySem.Spec PyProof.Rows L2
open Evl (Ex ex_l ex_t fresh_back)
def npS : Stmt := match topS 2 with
  | .ClassDef _ _ _ body _ _ _ _ _ _ _ => body.headD (.Pass ⟨0, 0, 0, 0⟩)
  | _ => .Pass ⟨0, 0, 0, 0⟩
theorem sc_np : FnScope ["self"] ["self"] (defScope npS) := ⟨rfl, rfl, rfl, by decide +kernel, rfl, by decide +kernel, by decide +kernel⟩
/-- what the top says of SoldError, at S, of NoPrice, at C, of its __init__, at fI -/
structure NpT (K : PySem.W.Frag) (mg : Str → Option Value) (S C fI : Addr) : Prop where
  T : OexC K C
  gS : mg "SoldError" = some (.ref S)
  gC : mg "NoPrice" = some (.ref C)
  sga : PySem.W.specialIn K (.ref S) "__getattribute__" = some (some (.builtin "type.__getattribute__"))
  srd : PySem.W.readsIn K S (.type "type") = true
  sfi : PySem.W.findCls K (.ref S) (.type "type") "__init__" = some (.val (.builtin "ValueError.__init__"))
  iC : PySem.W.findIn K (.ref C) "__init__" = some (some (.ref fI))
  tI : PySem.W.typeIn K (.ref fI) = some (.type "function")
  te : PySem.W.exmOne K (.ref C) (.ref C) = some true
  fn : ∃ fd, Fun K "__init__" "NoPrice.__init__" npS fI fd
section
variable {X : Cx} {o e : Expr} {es : List Expr} {to te : TE} {ta : TA} {f : Str} {p p' p1 p2 pos : Pos} {S C fI : Addr}
theorem pe_soldinit {pl : Sem Bool} (N : NpT X.K X.mg S C fI) (hg : Gl X "SoldError") (ha : PA X (e :: es) ta)
    (hc : eval (.Call (.Attribute (.Name "SoldError" p1) "__init__" p2) (e :: es) [] pos) X.env = (do
      let ov ← eval (.Name "SoldError" p1) X.env
      standAt p2.atName
      let (f, first) ← holding [ov] (getMethod ov "__init__" pl)
      callWith pos f first (backTo pos (starEach (e :: es) X.env)) (backToKw pos (keywordEach [] X.env))) := by rfl)
    (he : starEach (e :: es) X.env = (false, eval e X.env) :: starEach es X.env := by rfl) (hpl : (backTo pos (starEach es X.env)).any (·.1) = false := by rfl) :
    PE X (.Call (.Attribute (.Name "SoldError" p1) "__init__" p2) (e :: es) [] pos) (tVeI X.K ta) := by
  refine ⟨fun pins s σ H Q I h => ?_⟩
  refine PySem.W.methodCall_KW (ld_glob I hg N.gS ?_ (by decide)) hc
  refine PySem.W.method_cls I.kIn N.sga (PySem.W.cls_value I.kIn N.srd N.sfi (by decide +kernel) ?_)
  show wpAny _ _ (callWith pos (Value.builtin "ValueError.__init__") [] (backTo pos (starEach (e :: es) X.env)) []) _ _ _
  refine PyProof.Rows.callWith_method1 (thn (ha.run pos pins _ σ H _ (I.tok _) h) fun us s1 ⟨vs, H1, I1, r1, a, C, ws, ev, hl, T, ea, q⟩ => ?_) he hpl
  subst ev
  cases r1 with
  | @cons _ u0 _ ur ra rw' =>
    obtain rfl : u0 = Value.ref a := ra
    have hlen : ur.length ≤ sizeLine := by
      rw [← Paired.length rw', sizeLine_eq]
      omega
    exact oinit_ok T I1 ea hlen fun s' J => ⟨.non, H1, J, rfl, q⟩
/-- the end of C(): the exception is let go; it has no dict -/
theorem mk_endN {pins : List (Addr × Obj)} {σ : L2.St} {H1 : Hp} {Q : XK} {hp hp2 h2 : Heap} {g1 g2 : Array GenState} {d1 d2 : Drawn} {t1 t2 : Nat} {os1 os2 : OsState} {a C : Addr} (T : Raises X (.ref C)) (I1 : Inv X pins σ H1 ⟨hp, g1, d1, t1, os1⟩)
    (ha : hp.objs.size ≤ a) (k : ∀ b o, hp.get? b = some o → hp2.get? b = some o) (un : Un (frs X.stack) [] (upd H1 a (exo a C none)) (upd H1 a (exo a C none)) hp2 h2) (hok : HOk X.prog X.w (upd H1 a (exo a C none)) h2) (ho : os2 = os1) (hb : AllBare g2)
    (q : Q (.ref C) none H1) : MkP X pins σ Q (.ref a) ⟨h2, g2, d2, t2, os2⟩ := by
  obtain ⟨t0, hoe⟩ := exo_at (C := C) (d := none) hok upd_same
  have hn : H1 a = none := I1.hok.fresh ha
  obtain ⟨G, g1', g2'⟩ := restrict h2 fun b => decide (b ≠ a)
  have gk : ∀ b, b ≠ a → G.get? b = h2.get? b := fun b hb => g1' b (decide_eq_true hb)
  have ge : G.get? a = none := g2' a (by simp)
  have nha : ∀ {b : Addr} {o : Obj}, hp.get? b = some o → b ≠ a := fun {b o} z => Nat.ne_of_lt (Nat.lt_of_lt_of_le (Heap.lt_size z) ha)
  have up : ∀ {b : Addr}, b ≠ a → H1 b = none → upd H1 a (exo a C none) b = none := fun {b} hb n => by rw [upd_ne hb]; exact n
  have U : Un (frs X.stack) [] H1 H1 hp G := {
    keep := fun b o z n hf hx => by
      rw [gk b (nha z)]
      exact un.keep b o (k b o z) (up (nha z) n) hf hx
    slot := fun b o z n hf hx => by
      rw [gk b (nha z)]
      exact un.slot b o (k b o z) (up (nha z) n) hf hx
    free := fun b o z n hx => n
    there := fun b o z hx => by
      rw [gk b (nha z)]
      exact un.there b o (k b o z) hx
    tups := fun b xs z => z
    frzs := fun b o v z => z
    tbls := fun b ps z => ⟨#[], by rw [z]; simp⟩ }
  have hok3 : HOk X.prog X.w H1 G := fun b o z => by
    have hba : b ≠ a := fun e => by rw [e, hn] at z; cases z
    have z2 : upd H1 a (exo a C none) b = some o := by rw [upd_ne hba]; exact z
    exact (hok b o z2).stay (fun c v hc y => by
        have hca : c ≠ a := by
          rcases hc with hc | hc
          · rw [hc]
            exact hba
          · exact at_ne upd_same hc exo_own
        rw [gk c hca]
        exact y)
      (fun c hc => by rw [upd_ne (at_ne upd_same hc exo_own)] at hc; exact hc) (fun c xs hc => by rw [upd_ne (at_ne upd_same hc exo_tup)] at hc; exact hc)
  have J : Inv X pins σ H1 ⟨G, g2, d2, t2, os2⟩ := I1.call' (ch := []) ho U hok3 hb (fun b z => absurd z (by simp))
  refine ⟨a, _, _, ⟨G, g2, d2, t2, os2⟩, _, .ref C, none, rfl, J, fun b o z => ?_, ge, hoe, ⟨rfl, rfl⟩, rfl, rfl, hn, rfl, hb, T, q⟩
  by_cases hba : b = a
  · have z' : G.get? b = some o := z
    rw [hba, ge] at z'
    cases z'
  · exact (gk b hba).symm.trans z
/-- NoPrice.__init__(self) -/
def spNpI (K : PySem.W.Frag) : Sp := fun vs H Q _ => ∃ a C : Addr, vs = [.ref a] ∧ OexC K C ∧ H a = some (exo a C none) ∧ Q .non H
end
section
variable {P : Program} {w : World} {K : PySem.W.Frag} {mg : Str → Option Value} {base : Heap} {S C fI : Addr}
theorem ok_npI (N : NpT K mg S C fI) {fd : FuncData} (F : Fun K "__init__" "NoPrice.__init__" npS fI fd) : FnOk P w K mg base CX0 2 fI fd ["self"] (spNpI K) := by
  refine F.ok sc_np (fun vs H Q E h => ?_) (fun cdv A outer s H vs Q E hr h => ?_)
  · obtain ⟨a, C, rfl, _⟩ := h; rfl
  · refine ⟨_, pss_one (ps_expr (pe_soldinit N rfl (pa_cons (pv 0) pa_nil))), ?_⟩
    obtain ⟨a, C', rfl, T, ea, q⟩ := h
    exact ⟨_, rfl, a, C', [], rfl, by simp, T, ea, q⟩
end
section
variable {X : Cx} {p pos pos2 : Pos} {S C fI : Addr} {k : Nat}
def tMkNp (C : Addr) : L2.St → Hp → XK → Prop := fun _ H Q => Q (.ref C) none H
theorem pmk_np (N : NpT X.K X.mg S C fI) (hr : Room 3 X.A) (hg : Gl X "NoPrice") : PMk X (.Call (.Name "NoPrice" p) [] [] pos) (tMkNp C) := by
  intro pins s σ H Q I h
  obtain ⟨nm, q, Nn, bs, bm, sn, sub, ab, col, dd, k0, k1, k2, k3, k5, hC, hbm⟩ := N.T.cls
  obtain ⟨fd, F⟩ := N.fn
  have b1 : Binds X.K fd ["self"] [] := F.binds fun _ _ _ _ _ _ us hl => match us, hl with | [_], _ => rfl
  refine wpAny_Call_Name_kw (ld_glob I hg N.gC ?_ (by decide))
  refine PySem.W.callWith_K0 I.kIn N.T.kC ?_
  show wpAny _ _ (call (.ref C) []) _ _ _
  obtain ⟨hp, g, dr, tk, os⟩ := s
  have hsz : hp.objs.size ≤ hp.objs.size + 1 := Nat.le_succ _
  have hn : H (hp.objs.size + 1) = none := I.hok.fresh hsz
  have kk : ∀ b o, hp.get? b = some o → ((hp.push (PySem.W.kdv_tup [])).push (PySem.HandSPX.excO C hp.objs.size)).get? b = some o := fun b o e => Heap.get?_push_of_some _ (Heap.get?_push_of_some _ e)
  have hget : ((hp.push (PySem.W.kdv_tup [])).push (PySem.HandSPX.excO C hp.objs.size)).get? (hp.objs.size + 1) = some (PySem.HandSPX.excO C hp.objs.size) := by heap_get
  have I2 : Inv X pins σ (upd H (hp.objs.size + 1) (exo (hp.objs.size + 1) C none)) ⟨(hp.push (PySem.W.kdv_tup [])).push (PySem.HandSPX.excO C hp.objs.size), g, dr, tk, os⟩ :=
    I.laid (t' := tk) (a := hp.objs.size + 1) (o := exo (hp.objs.size + 1) C none) (h' := (hp.push (PySem.W.kdv_tup [])).push (PySem.HandSPX.excO C hp.objs.size)) kk hsz (exo_ok hget)
  have r2 : Vals [V.ref (hp.objs.size + 1)] [Value.ref (hp.objs.size + 1)] := .cons rfl .nil
  refine wpAny_call (PySem.HandSPX.call_own PySem.F.excBase_ValueError (fun Y => PySem.HandSPX.refsVE_contains Y bm hbm) (I.kIn _ _ hC) (PySem.W.looks_findIn I.kIn N.iC) (fun self => PySem.W.bind_fn I.kIn self N.tI) (by rw [sizeLine_eq]; exact (by decide : 0 ≤ 16777216))
    (codeAny_mono ((ok_npI (P := X.prog) (w := X.w) (base := X.base) N F).run _ X.stack _ _ ⟨[Value.ref (hp.objs.size + 1)], []⟩ [Value.ref (hp.objs.size + 1)] _ (fun v H2 => v = .non ∧ H2 = upd H (hp.objs.size + 1) (exo (hp.objs.size + 1) C none)) (fun _ _ _ => False) (hr.make C [] []) (I2.env0.make C [] []) (b1 _ [Value.ref (hp.objs.size + 1)] I2.kIn rfl) r2 ⟨_, C, rfl, N.T, upd_same, rfl, rfl⟩) fun r s' hq' => ?_))
  cases r with
  | error er => exact (show False from hq').elim
  | ok fl =>
    cases fl with
    | ret u =>
      obtain ⟨v, H2, os2, bare2, un2, hok2, rv, ev, e2⟩ := hq'
      subst ev
      subst e2
      obtain ⟨h2, g2, d2, t2, os'⟩ := s'
      exact ⟨rv, mk_endN (raises_own N.T.exC N.T.tyC) I hsz kk un2 hok2 os2 bare2 h⟩
    | next => exact False.elim hq'
    | brk => exact False.elim hq'
    | cont => exact False.elim hq'
/-- raise NoPrice() -/
def tRaiseNp (C : Addr) (W : WX) : TS := fun _ σ H => W (.ref C) none σ H
theorem ps_raiseNp {W : WX} (hc : X.calm = true) (N : NpT X.K X.mg S C fI) (hr : Room 3 X.A) (tk : Takes X W) (hg : Gl X "NoPrice" := by rfl) : PS X (.Raise (some (.Call (.Name "NoPrice" p) [] [] pos)) none pos2) (tRaiseNp C W) := ps_raise hc tk (pmk_np N hr hg)
end
end My
namespace My
open PySem PySem.Spec PyProof.Rows L2
open Evl (Ex ex_l ex_t fresh_back)
def cutD (xs : List PyData) (lo hi : Option Int) : List PyData := (xs.drop (HT.sIx xs.length 0 lo)).take (HT.sIx xs.length xs.length hi - HT.sIx xs.length 0 lo)
section
variable {K : PySem.W.Frag} {σ : L2.St} {H : Hp} {D : Ends} {te ta tb : TE} {tl th : TO} {d : PyData} {ds : List PyData} {lo hi : Option Int}
theorem evo_none : EvOp tNoPart σ H none := fun H1 _ Q q => q H1 (Ex.refl H1)
theorem evo_some {i : Int} (h : EvD K te σ H (.int i)) : EvOp (tPart te) σ H (some i) := fun H1 e Q q => h H1 e _ fun v H2 e2 dv => by
  cases dv
  exact ⟨i, rfl, q H2 e2⟩
theorem evd_sliceL (h : EvD K te σ H (.list ds)) (h1 : EvOp tl σ H lo) (h2 : EvOp th σ H hi) : EvD K (tSl (rSlL K) te tl th) σ H (.list (cutD ds lo hi)) := fun H1 e Q q =>
  h H1 e _ fun v H2 e2 dv => h1 H2 (e.trans e2) _ fun H3 e3 => h2 H3 ((e.trans e2).trans e3) _ fun H4 e4 => by
    cases dv with
    | lst hs ha =>
      rename_i a xs
      have hl := dpa_len ha
      refine ⟨a, xs, rfl, ex_l (e3.trans e4) hs, fun p hp => q _ _ ((e2.trans (e3.trans e4)).trans (Ex.new hp)) (.lst (.inl (.inl upd_same)) ?_)⟩
      unfold cutV cutD
      rw [hl]
      exact dpa_takeN _ (dpa_dropN _ (dpa_ex ((e3.trans e4).trans (Ex.new hp)) ha))
theorem evd_sliceT (h : EvD K te σ H (.tuple ds)) (h1 : EvOp tl σ H lo) (h2 : EvOp th σ H hi) (hw : ¬ (HT.sIx ds.length 0 lo = 0 ∧ HT.sIx ds.length ds.length hi = ds.length)) : EvD K (tSl (rSlT K) te tl th) σ H (.tuple (cutD ds lo hi)) := fun H1 e Q q =>
  h H1 e _ fun v H2 e2 dv => h1 H2 (e.trans e2) _ fun H3 e3 => h2 H3 ((e.trans e2).trans e3) _ fun H4 e4 => by
    cases dv with
    | tup hs ha =>
      rename_i a xs
      have hl := dpa_len ha
      refine ⟨a, xs, rfl, ex_t (e3.trans e4) hs, by rw [hl]; exact hw, fun p hp => q _ _ ((e2.trans (e3.trans e4)).trans (Ex.new hp)) (.tup (.inl (.inl upd_same)) ?_)⟩
      unfold cutV cutD
      rw [hl]
      exact dpa_takeN _ (dpa_dropN _ (dpa_ex ((e3.trans e4).trans (Ex.new hp)) ha))
/-- evaluation ends in an exception that is wished -/
def EvT (te : TE) (σ : L2.St) (H : Hp) : Prop := ∀ H1, Ex H H1 → ∀ Q : VK, te σ H1 Q
def EvAT (ta : TA) (σ : L2.St) (H : Hp) : Prop := ∀ H1, Ex H H1 → ∀ Q, ta σ H1 Q
/-- a promise: a value, or an own error of the class at C -/
def SpX (K : PySem.W.Frag) (C : Addr) {α : Type} (ds : α → List PyData) (pre : α → Prop) (out : α → Option PyData) : Sp := fun vs H Q E => ∃ a, DpAll K H vs (ds a) ∧ pre a ∧
  (out a = none → ∀ H', Ex H H' → E (.ref C) none H') ∧ (∀ z, out a = some z → ∀ v H', Ex H H' → Dp K H' v z → Q v H')
variable {C : Addr} {α : Type} {fds : α → List PyData} {pre : α → Prop} {out : α → Option PyData} {t : TA} {E : L2.St → XK}
theorem evd_callX {z : PyData} (a : α) (h : EvAs K t σ H (fds a)) (hp : pre a) (ho : out a = some z) : EvD K (tCallS (SpX K C fds pre out) E t) σ H z := fun H1 e Q q =>
  h H1 e _ fun vs H2 e2 dv => ⟨a, dv, hp, (fun hn => by rw [ho] at hn; cases hn), (fun z' hz v H3 e3 dz => by
    rw [ho] at hz
    cases hz
    exact q v H3 (e2.trans e3) dz)⟩
theorem evt_callX (a : α) (h : EvAs K t σ H (fds a)) (hp : pre a) (ho : out a = none) (hE : ∀ H', Ex H H' → E σ (.ref C) none H') : EvT (tCallS (SpX K C fds pre out) E t) σ H := fun H1 e Q =>
  h H1 e _ fun vs H2 e2 dv => ⟨a, dv, hp, fun _ H3 e3 => hE H3 ((e.trans e2).trans e3), (fun z hz => by rw [ho] at hz; cases hz)⟩
theorem eat_here {tr : TA} (h : EvT ta σ H) : EvAT (tCons ta tr) σ H := fun H1 e Q => h H1 e _
theorem eat_next {tr : TA} (h : EvD K ta σ H d) (hr : EvAT tr σ H) : EvAT (tCons ta tr) σ H := fun H1 e Q => h H1 e _ fun v H2 e2 _ => hr H2 (e.trans e2) _
theorem evt_call {sp : Sp} {dvs : List V} {E0 : XK} (h : EvAT t σ H) : EvT (tCall sp dvs E0 t) σ H := fun H1 e Q => h H1 e _
theorem evt_tup (h : EvAT t σ H) : EvT (tTup t) σ H := fun H1 e Q => h H1 e _
theorem st_asg {g : TG} (h : EvT te σ H) : tAsg te g D σ H := h H (Ex.refl H) _
theorem st_ret (h : EvT te σ H) : tRet te D σ H := h H (Ex.refl H) _
end
section
variable {X : Cx} {e : Expr} {es : List Expr} {t : TA} {x : Str} {p pos : Pos} {ps : List Str} {k j : Nat} {sp : Sp} {W : WX}
theorem pe_knX (F : Kn X.prog X.w X.K X.mg X.base (L2.CX X.prog X.w) x ps k sp) (hr : Room j X.A) (tk : Takes X W) (ha : PA X (e :: es) t) (hk : k ≤ j := by decide) (hg : Gl X x := by rfl) (hd : (x == ("__debug__" : Str)) = false := by decide)
    (hs : starEach (e :: es) X.env = (false, eval e X.env) :: starEach es X.env := by rfl) (hpl : (backTo pos (starEach es X.env)).any (·.1) = false := by rfl) : PE X (.Call (.Name x p) (e :: es) [] pos) (tCallS sp (WE W) t) := by
  obtain ⟨f, fd, g, kp, b, F⟩ := F
  exact pe_callS F (hr.mono hk) hg g kp b (fun σ => passAt tk σ) ha hd hs hpl
end
/-- a def that may raise, by its promise on data -/
theorem okDX {P : Program} {w : World} {K : PySem.W.Frag} {mg : Str → Option Value} {base : Heap} {x qual : Str} {st : Stmt} {f C : Addr} {fd : FuncData} {N ps : List Str} {k : Nat} {α : Type} {ds : α → List PyData} {pre : α → Prop} {out : α → Option PyData}
    (F : Fun K x qual st f fd) (S : FnScope N ps (defScope st)) (hl : ∀ a, (ds a).length = ps.length)
    (hbody : ∀ (a : α) (cdv : Value) (A : Around) (outer : List Env) (s : Shared) (H : Hp) (vs : List V) (E : XK), Room k (A.deeper (envOfC qual (defScope st) s.heap.objs.size f cdv)) → DpAll K H vs (ds a) → pre a →
      ∃ t, PSs (cxOf (L2.CX P w) P w K mg base N qual (defScope st) f cdv A outer s H E) (defBody st) t ∧ ∀ Q : VK, (out a = none → ∀ H', Ex H H' → E (.ref C) none H') → (∀ z, out a = some z → ∀ v H', Ex H H' → Dp K H' v z → Q v H') → t { nx := fun _ H' => Q .non H', rt := Q } (start N vs) H) :
    FnOk P w K mg base (L2.CX P w) (k + 1) f fd ps (SpX K C ds pre out) := by
  refine F.okX S (fun vs H Q E h => ?_) (fun cdv A outer s H vs Q E hr h => ?_)
  · obtain ⟨a, dv, _, _⟩ := h
    rw [dpa_len dv, hl]
  · obtain ⟨a, dv, hp, q1, q2⟩ := h
    obtain ⟨t, h1, h2⟩ := hbody a cdv A outer s H vs E hr dv hp
    exact ⟨t, h1, h2 Q q1 q2⟩
end My
namespace My
open PySem PySem.Spec PyProof.Rows L2
open Evl (Ex ex_l ex_t fresh_back)
structure prePrice (d : Deal) : Prop where
  wc : preWC d
  dif : okSz d.worth (worthAt d 0)
  re : 0 < riseOf d → preReached (worthCv d) (riseOf d)
def outPrice (d : Deal) : Option PyData := if 0 < riseOf d then some (optD (priceOf d)) else none
structure preCounts (d : Deal) (p : Rat) : Prop where
  w : preWorths d p
  ne : p ≠ 0
  sz : ∀ x ∈ worthsAt d p ++ [d.money], okSz x p
structure preBehind (d : Deal) : Prop where
  pr : prePrice d
  co : 0 < riseOf d → ∃ P, priceOf d = some P ∧ preCounts d P
def thsD (ts : List Th) : PyData := .tuple (ts.map thD)
def outBehind (d : Deal) : Option PyData := if 0 < riseOf d then some (thsD ((behindCounts d ((priceOf d).getD 0)).map .shares)) else none
section
variable {P : Program} {w : World} {K : PySem.W.Frag} {mg : Str → Option Value} {base : Heap} {S C fI : Addr}
abbrev spPrice (K : PySem.W.Frag) (C : Addr) : Sp := SpX K C (α := Deal) (fun d => [dealD d]) prePrice outPrice
theorem ok_price_of (M : Md P K mg base) (N : NpT K mg S C fI) : Kn P w K mg base (L2.CX P w) "price_of" ["deal"] 46 (spPrice K C) := by
  refine kn_mk M.d_price_of fun f fd F => okDX F sc_price_of (fun _ => rfl) fun d cdv A outer s H vs E hr dv hs => ?_
  obtain ⟨v0, rfl, d0⟩ := dpa_one dv
  obtain ⟨hwc, hdif, hre⟩ := hs
  refine ⟨_, (pss_cons (ps_set (i := 1) sc_price_of.nd rfl (.inl rfl) (pe_kn (ok_lessened M) hr (pa_cons (pe_ix ix_tup (pv 0) pe_int (fun _ _ => rfl)) (pa_cons (pe_kn (ok_worth_at M) hr (pa_cons (pv 0) (pa_cons (pe_cst M.g_ZERO) pa_nil))) pa_nil)))) (pss_cons (ps_if (pt_cmpR op_le (pe_ix ix_tup (pv 1) pe_int (fun _ _ => rfl)) pe_int (nomark _)) (pss_one (ps_raiseNp rfl N (hr.mono (by decide)) (takes_of rfl rfl rfl rfl))) pss_nil) (pss_one (ps_ret (pe_kn (ok_level_for M) hr (pa_cons (pe_kn (ok_worth_curve M) hr (pa_cons (pv 0) pa_nil)) (pa_cons (pv 1) pa_nil))))))), fun Q q1 q2 => ?_⟩
  refine sd_set (K := K) (d := fr (riseOf d)) (evd_qq (evd_deal (evd_var rfl d0)).1 (evd_worth (evd_var rfl d0) (evd_cst M.g_ZERO) hwc.w0) hdif) fun v1 H1 e1 d1 => ?_
  dsimp only
  refine sd_if (b := !decide (0 < riseOf d)) (evb_is (evb_test (K := K) (evd_op (evd_op (evd_var rfl d1) evd_int (rd_ixT (i := 0) rfl)) evd_int rd_B0)) ?_) (fun hb H2 e2 => ?_) (fun hb H2 e2 => ?_)
  · have := num_pos_iff (riseOf d)
    by_cases h : 0 < riseOf d
    · have h1 := this.mpr h
      simp [h]; omega
    · have h1 : ¬ 0 < (riseOf d).num := fun z => h (this.mp z)
      simp [h]; omega
  · have h0 : ¬ 0 < riseOf d := by simpa using hb
    exact q1 (if_neg h0) H2 (e1.trans e2)
  · have h0 : 0 < riseOf d := by simpa using hb
    dsimp only [tNext]
    exact sd_ret (K := K) (evd_level (evd_call (ead_cons (evd_var rfl (dp_ex (e1.trans e2) d0)) ead_nil) (spd_of d hwc)) (evd_var rfl (dp_ex e2 d1)) (hre h0)) fun v H3 e3 dv => q2 _ (if_pos h0) v H3 ((e1.trans e2).trans e3) dv
abbrev spCounts (K : PySem.W.Frag) : Sp := SpOf K (α := Deal × Rat) (fun a => [dealD a.1, fr a.2]) (fun a => preCounts a.1 a.2) (fun a => .tuple ((countsAt a.1 a.2).map fr))
theorem ok_counts_at (M : Md P K mg base) : Kn P w K mg base CX0 "counts_at" ["deal", "price"] 40 (spCounts K) := by
  refine kn_mk M.d_counts_at fun f fd F => okD F sc_counts_at (fun _ => rfl) fun a cdv A outer s H vs E hr dv hs => ?_
  obtain ⟨d, p⟩ := a
  obtain ⟨v0, v1, rfl, d0, d1⟩ := dpa_two dv
  obtain ⟨hw, hne, hsz⟩ : preCounts d p := hs
  replace d0 : Dp K H v0 (dealD d) := d0
  replace d1 : Dp K H v1 (fr p) := d1
  refine ⟨_, (pss_one (ps_ret (pe_callTy call_tuple_of (by rfl) M.n_tuple (by decide +kernel) (pa_cons (pe_lc (own := [("worth", 2)]) (g := (gName 2)) (tt := tYes) rfl sc_counts_at.nd (pi_tup (pe_tup (StX.pa_star (pe_kn (ok_worths_at M) hr (pa_cons (pv 0) (pa_cons (pv 1) pa_nil))) (pa_cons (pe_ix ix_tup (pv 0) pe_int (fun _ _ => rfl)) pa_nil)))) (blkOk_by (N := ["deal", "price", "worth"]) (sc := defScope s_counts_at) (own := [("worth", 2)]) (by decide +kernel)) (fun _ _ _ _ _ => (pg_name (i := 2) sc_counts_at.nd rfl (by first | exact Or.inl rfl | exact Or.inr rfl))) (fun _ _ _ _ _ => pts_nil) (fun _ _ _ _ _ => (pe_kn (ok_over M) hr (pa_cons (pv 2) (pa_cons (pv 1) pa_nil))))) pa_nil)))), fun Q q => ?_⟩
  have hlen : (worthsAt d p ++ [d.money]).length ≤ 50000 := by
    have := hw.len
    unfold worthsAt thingWs
    simp; omega
  refine sd_ret (K := K) (d := .tuple ((countsAt d p).map fr)) ((evd_cb (ead_cons (evd_lcT (xs := worthsAt d p ++ [d.money]) (enc := fr) (keep := fun _ => true) (out := fun x => fr (x / p)) ((evd_tup (ead_starT (evd_worths (evd_var rfl d0) (evd_var rfl d1) hw) (ead_cons (evd_deal (evd_var rfl d0)).2.1 ead_nil)) ?_).is ?_) hlen (fun _ => rfl) fun x hx => turn_name (fun _ => rfl) fun y H3 e3 dy => ⟨evb_yes, fun _ => evd_qq (evd_var rfl dy) (evd_var rfl (dp_ex e3 d1)) (And.intro (hsz x hx) hne)⟩) ead_nil) rc_tupL).is ?_) fun v H1 e1 dv => q v H1 e1 dv
  · rw [List.length_append, List.length_map] at *
    have : ([d.money] : List Rat).length = 1 := rfl
    have : ([fr d.money] : List PyData).length = 1 := rfl
    omega
  · rw [List.map_append]; rfl
  · rw [filter_true]; unfold countsAt; rw [List.map_map]; rfl
theorem ok_things_behind (M : Md P K mg base) (N : NpT K mg S C fI) : Kn P w K mg base (L2.CX P w) "things_behind" ["deal"] 48 (SpX K C (α := Deal) (fun d => [dealD d]) preBehind outBehind) := by
  refine kn_mk M.d_things_behind fun f fd F => okDX F sc_things_behind (fun _ => rfl) fun d cdv A outer s H vs E hr dv hs => ?_
  obtain ⟨v0, rfl, d0⟩ := dpa_one dv
  obtain ⟨hpr, hco⟩ := hs
  refine ⟨_, (pss_cons (ps_set (i := 1) sc_things_behind.nd rfl (.inl rfl) (pe_kn (ok_counts_at M) hr (pa_cons (pv 0) (pa_cons (pe_knX (ok_price_of M N) hr (takes_of rfl rfl rfl rfl) (pa_cons (pv 0) pa_nil)) pa_nil)))) (pss_cons (ps_set (i := 2) sc_things_behind.nd rfl (.inl rfl) (pe_lst (StX.pa_star (pe_slice sl_tup (pv 1) po_none (po_some (pe_callB call_len_seq (by rfl) M.n_len PySem.boot_len (pa_cons (pe_ix ix_tup (pv 0) pe_int (fun _ _ => rfl)) pa_nil)))) (pa_cons (pe_ix ix_tup (pv 1) (pe_un un_neg pe_int) (fun _ _ => rfl)) pa_nil)))) (pss_one (ps_ret (pe_callTy call_tuple_of (by rfl) M.n_tuple (by decide +kernel) (pa_cons (pe_lc (own := [("count", 3)]) (g := (gName 3)) rfl sc_things_behind.nd (pi_list (pv 2)) (blkOk_by (N := ["deal", "counts", "kept", "count"]) (sc := defScope s_things_behind) (own := [("count", 3)]) (by decide +kernel)) (fun _ _ _ _ _ => (pg_name (i := 3) sc_things_behind.nd rfl (by first | exact Or.inl rfl | exact Or.inr rfl))) (fun _ _ _ _ _ => pts_one (pt_cmpR op_gt (pe_ix (r := rIxT K) ix_tup (pv 3) pe_int (fun _ _ => rfl)) pe_int (nomark _))) (fun _ _ _ _ _ => (pe_tup (pa_cons pe_str (pa_cons (pv 3) pa_nil))))) pa_nil)))))), fun Q q1 q2 => ?_⟩
  by_cases h0 : 0 < riseOf d
  · obtain ⟨p, hp, hc⟩ := hco h0
    have ho : outPrice d = some (fr p) := by unfold outPrice; rw [if_pos h0, hp]; rfl
    have hb : outBehind d = some (thsD ((behindCounts d p).map .shares)) := by unfold outBehind; rw [if_pos h0, hp]; rfl
    have hn : d.things.length ≤ 100 := hc.w.len
    have hcl : ((countsAt d p).map fr).length = d.things.length + 2 := by
      rw [List.length_map]; unfold countsAt worthsAt thingWs; simp
    refine sd_set (K := K) (d := .tuple ((countsAt d p).map fr)) (evd_call (ead_cons (evd_var rfl d0) (ead_cons (evd_callX d (ead_cons (evd_var rfl d0) ead_nil) hpr ho) ead_nil)) (spd_of (d, p) hc)) fun v1 H1 e1 d1 => ?_
    dsimp only
    have hL : (d.things.map thD).length = d.things.length := List.length_map ..
    have hw : (keptCounts d p).length ≤ 50000 := by unfold keptCounts thingWs; simp; omega
    refine sd_set (K := K) (d := .list ((keptCounts d p).map fr)) ((evd_lst (ead_starT (evd_sliceT (evd_var rfl d1) evo_none (evo_some (evd_cb (ead_cons (evd_deal (evd_var rfl (dp_ex e1 d0))).2.2.1 ead_nil) rc_lenT)) ?_) (ead_cons (evd_op (evd_var rfl d1) (evd_un evd_int ru_neg) (rd_ixT1 (d := fr (d.money / p)) ?_)) ead_nil)) ?_).is ?_) fun v2 H2 e2 d2 => ?_
    · rw [hL, hcl, HT.sIx_nat]; omega
    · rw [hcl]; unfold countsAt worthsAt thingWs; simp
    · unfold cutD
      rw [List.length_append, List.length_take]
      have : ([fr (d.money / p)] : List PyData).length = 1 := rfl
      rw [hL, HT.sIx_nat, HT.sIx_none, hcl]
      omega
    · congr 1
      unfold cutD
      rw [hL, hcl, HT.sIx_nat, HT.sIx_none, List.drop_zero, Nat.sub_zero, Nat.min_eq_left (by omega)]
      unfold keptCounts countsAt worthsAt
      have : (thingWs d p).length = d.things.length := by unfold thingWs; simp
      simp only [List.map_append, List.append_assoc]
      rw [List.take_append_of_le_length (by simp; omega), List.take_of_length_le (by simp; omega)]
      rfl
    dsimp only
    refine sd_ret (K := K) (d := thsD ((behindCounts d p).map .shares)) ((evd_cb (ead_cons (evd_lcL (xs := keptCounts d p) (enc := fr) (keep := fun x => decide (0 < x)) (out := fun x => thD (.shares x)) (evd_var rfl d2) hw (fun _ => rfl) fun x hx => turn_name (fun _ => rfl) fun y H3 e3 dy => ⟨evb_is (evb_test (K := K) (evd_op (evd_op (evd_var rfl dy) evd_int (rd_ixT (i := 0) rfl)) evd_int rd_B0)) (decide_eq_decide.mpr (num_pos_iff x)), fun _ => evd_tup (ead_cons evd_str (ead_cons (evd_var rfl dy) ead_nil)) (by simp)⟩) ead_nil) rc_tupL).is ?_) fun v3 H3 e3 d3 => q2 _ hb v3 H3 ((e1.trans e2).trans e3) d3
    unfold thsD behindCounts
    rw [List.map_map]; rfl
  · have ho : outPrice d = none := if_neg h0
    have hb : outBehind d = none := if_neg h0
    exact st_asg (evt_call (eat_next (evd_var rfl d0) (eat_here (evt_callX d (ead_cons (evd_var rfl d0) ead_nil) hpr ho fun H' e' => q1 hb H' e'))))
end
end My
namespace My
open PySem PySem.Spec PyProof.Rows L2
open Evl (Ex ex_l ex_t fresh_back)
theorem lred_num {n d : Int} (h : d ≠ 0) : (if d < 0 then (-n).fdiv ((n.natAbs.gcd d.natAbs : Nat) : Int) else n.fdiv ((n.natAbs.gcd d.natAbs : Nat) : Int)) = (Rat.divInt n d).num := by
  rw [← red_num h]
  have g0 : 0 < n.natAbs.gcd d.natAbs := Nat.gcd_pos_of_pos_right _ (by omega)
  obtain ⟨k, hk⟩ := shared_dvd_left n d
  rw [fdiv_exact (shared_ne h) k hk]
  unfold shared at hk
  split
  · rename_i hd
    rw [if_neg (by omega)] at hk
    refine fdiv_exact (by omega) k ?_
    rw [Int.zero_sub, Int.mul_neg] at hk
    omega
  · rename_i hd
    rw [if_pos (by omega)] at hk
    exact fdiv_exact (by omega) k hk
theorem lred_den {n d : Int} (h : d ≠ 0) : (if d < 0 then (-d).fdiv ((n.natAbs.gcd d.natAbs : Nat) : Int) else d.fdiv ((n.natAbs.gcd d.natAbs : Nat) : Int)) = ((Rat.divInt n d).den : Int) := by
  rw [← red_den h]
  have g0 : 0 < n.natAbs.gcd d.natAbs := Nat.gcd_pos_of_pos_right _ (by omega)
  obtain ⟨k, hk⟩ := shared_dvd_right n d
  rw [fdiv_exact (shared_ne h) k hk]
  unfold shared at hk
  split
  · rename_i hd
    rw [if_neg (by omega)] at hk
    refine fdiv_exact (by omega) k ?_
    rw [Int.zero_sub, Int.mul_neg] at hk
    omega
  · rename_i hd
    rw [if_pos (by omega)] at hk
    exact fdiv_exact (by omega) k hk
section
variable {P : Program} {w : World} {K : PySem.W.Frag} {mg : Str → Option Value} {base : Heap}
theorem ok_l_common (M : Md P K mg base) : Kn P w K mg base CX0 "_law_common" ["_law_one", "_law_other"] 1
    (SpOf K (α := Int × Int) (fun a => [.int a.1, .int a.2]) (fun _ => True) (fun a => .int (a.1.natAbs.gcd a.2.natAbs : Nat))) := by
  refine kn_mk M.d_l_common fun f fd F => okD F sc_l_common (fun _ => rfl) fun a cdv A outer s H vs E hr dv _ => ?_
  obtain ⟨x, y⟩ := a
  obtain ⟨v0, v1, rfl, d0, d1⟩ := dpa_two dv
  cases d0; cases d1
  refine ⟨_, (pss_cons (ps_par (i := 0) (j := 1) (by rfl) sc_l_common.nd rfl rfl (by decide) rfl rfl (pa_cons (pe_callB call_abs (by rfl) M.n_abs (by decide +kernel) (pa_cons (pv 0) pa_nil)) (pa_cons (pe_callB call_abs (by rfl) M.n_abs (by decide +kernel) (pa_cons (pv 1) pa_nil)) pa_nil)) (by rfl)) (pss_cons (ps_while PassesOwn.never (pt_cmpR op_gt (pv 1) pe_int (nomark _)) (pss_one (ps_par (i := 0) (j := 1) (by rfl) sc_l_common.nd rfl rfl (by decide) rfl rfl (pa_cons (pv 1) (pa_cons (pe_op op_modN (pe_callTy call_int1 (by rfl) M.n_int (by decide +kernel) (pa_cons (pv 0) pa_nil)) (pv 1)) pa_nil)) (by rfl)))) (pss_one (ps_ret (pv 0))))), fun Q q => ?_⟩
  refine sd_par (K := K) (ead_cons (evd_cb (ead_cons (evd_var rfl (.int _)) ead_nil) rc_abs) (ead_cons (evd_cb (ead_cons (evd_var rfl (.int _)) ead_nil) rc_abs) ead_nil)) fun v w H1 e1 dv dw => ?_
  cases dv; cases dw
  dsimp only
  refine Evl.s_while (fun m σ' H' => ∃ a b : Nat, σ' = [some (.int a), some (.int b)] ∧ Ex H H' ∧ b = m ∧ a.gcd b = x.natAbs.gcd y.natAbs) y.natAbs ⟨x.natAbs, y.natAbs, rfl, e1, rfl, rfl⟩ ?_
  rintro m σ' H' ⟨a, b, rfl, e, rfl, hg⟩
  refine ⟨decide ((b : Int) > 0), ?_, fun hb H1 e1 => ?_, fun hb H1 e1 => ?_⟩
  · exact fun H2 e2 Q q => (evb_test (K := K) (evd_op (K := K) (evd_var rfl (.int _)) evd_int rd_B0)) H2 e2 Q q
  · have hb0 : b ≠ 0 := by
      intro z; subst z; simp at hb
    refine ⟨fun σ2 H2 => ∃ a' b' : Nat, σ2 = [some (.int a'), some (.int b')] ∧ Ex H H2 ∧ b' < b ∧ a'.gcd b' = x.natAbs.gcd y.natAbs, ?_, ?_⟩
    · rintro σ2 H2 ⟨a', b', rfl, e2, hl, hg'⟩
      exact ⟨b', hl, a', b', rfl, e2, rfl, hg'⟩
    · refine sd_par (K := K) (ead_cons (evd_var rfl (.int _)) (ead_cons (evd_op (evd_cb (ead_cons (evd_var rfl (.int _)) ead_nil) rc_int) (evd_var rfl (.int _)) (rd_I (by omega))) ead_nil)) fun v w H2 e2 dv dw => ?_
      cases dv; cases dw
      exact ⟨b, a % b, by rw [fmod_nat]; rfl, (e.trans e1).trans e2, Nat.mod_lt _ (by omega), by rw [gcd_step a b hb0]; exact hg⟩
  · have hb0 : b = 0 := by
      have := of_decide_eq_false hb
      omega
    subst hb0
    refine sd_ret (K := K) (evd_var rfl (.int _)) fun v H2 e2 dv => q v H2 ((e.trans e1).trans e2) ?_
    rw [Nat.gcd_zero_right] at hg
    rw [hg] at dv
    exact dv
theorem ok_l_reduced (M : Md P K mg base) : Kn P w K mg base CX0 "_law_reduced" ["_law_n", "_law_d"] 33
    (SpOf K (α := Int × Int) (fun a => [.int a.1, .int a.2]) (fun a => a.2 ≠ 0) (fun a => fr (Rat.divInt a.1 a.2))) := by
  refine kn_mk M.d_l_reduced fun f fd F => okD F sc_l_reduced (fun _ => rfl) fun a cdv A outer s H vs E hr dv hd => ?_
  obtain ⟨n, d⟩ := a
  obtain ⟨v0, v1, rfl, d0, d1⟩ := dpa_two dv
  cases d0; cases d1
  refine ⟨_, (pss_cons (ps_set (i := 2) sc_l_reduced.nd rfl (.inl rfl) (pe_callB (call_max2 rfl) (by rfl) M.n_max (by decide +kernel) (pa_cons pe_int (pa_cons (pe_kn (ok_l_common M) hr (pa_cons (pv 0) (pa_cons (pv 1) pa_nil))) pa_nil)))) (pss_cons (ps_if (pt_cmpR op_lt (pv 1) pe_int (nomark _)) (pss_one (ps_ret (pe_tup (pa_cons (pe_op (op_fdivX (BodyCx.of M rfl rfl) hr (by decide)) (pe_un un_neg (pv 0)) (pv 2)) (pa_cons (pe_op (op_fdivX (BodyCx.of M rfl rfl) hr (by decide)) (pe_un un_neg (pv 1)) (pv 2)) pa_nil))))) pss_nil) (pss_one (ps_ret (pe_tup (pa_cons (pe_op (op_fdivX (BodyCx.of M rfl rfl) hr (by decide)) (pv 0) (pv 2)) (pa_cons (pe_op (op_fdivX (BodyCx.of M rfl rfl) hr (by decide)) (pv 1) (pv 2)) pa_nil))))))), fun Q q => ?_⟩
  have hd0 : d ≠ 0 := hd
  replace q : ∀ v H', Ex H H' → Dp K H' v (fr (Rat.divInt n d)) → Q v H' := q
  have g0 : 0 < n.natAbs.gcd d.natAbs := Nat.gcd_pos_of_pos_right _ (by omega)
  have hn := lred_num (n := n) hd0
  have hde := lred_den (n := n) hd0
  refine sd_set (K := K) (d := .int ((n.natAbs.gcd d.natAbs : Nat) : Int)) ((evd_cb (ead_cons evd_int (ead_cons (evd_call (ead_cons (evd_var rfl (.int _)) (ead_cons (evd_var rfl (.int _)) ead_nil)) (spd_of (n, d) trivial)) ead_nil)) rc_max2).is ?_) fun v H1 e1 dv => ?_
  · congr 1
    show (if ((n.natAbs.gcd d.natAbs : Nat) : Int) > 1 then ((n.natAbs.gcd d.natAbs : Nat) : Int) else 1) = ((n.natAbs.gcd d.natAbs : Nat) : Int)
    split <;> omega
  cases dv
  dsimp only
  refine sd_if (b := decide (d < 0)) (evb_test (K := K) (evd_op (evd_var rfl (.int _)) evd_int rd_B0)) (fun h H2 e2 => ?_) (fun h H2 e2 => ?_)
  · have h' : d < 0 := of_decide_eq_true h
    rw [if_pos h'] at hn hde
    try dsimp only
    refine sd_ret (K := K) (evd_tup (ead_cons (evd_op (evd_un (evd_var rfl (.int _)) ru_neg) (evd_var rfl (.int _)) (rd_I (by omega))) (ead_cons (evd_op (evd_un (evd_var rfl (.int _)) ru_neg) (evd_var rfl (.int _)) (rd_I (by omega))) ead_nil)) (by simp)) fun v H3 e3 dv => q v H3 ((e1.trans e2).trans e3) ?_
    rw [hn, hde] at dv
    exact dv
  · have h' : ¬ d < 0 := of_decide_eq_false h
    rw [if_neg h'] at hn hde
    dsimp only [tNext]
    refine sd_ret (K := K) (evd_tup (ead_cons (evd_op (evd_var rfl (.int _)) (evd_var rfl (.int _)) (rd_I (by omega))) (ead_cons (evd_op (evd_var rfl (.int _)) (evd_var rfl (.int _)) (rd_I (by omega))) ead_nil)) (by simp)) fun v H3 e3 dv => q v H3 ((e1.trans e2).trans e3) ?_
    rw [hn, hde] at dv
    exact dv
theorem ok_l_added (M : Md P K mg base) : Kn P w K mg base CX0 "_law_added" ["_law_one", "_law_other"] 34 (spQQ K okSz (· + ·)) := by
  refine kn_mk M.d_l_added fun f fd F => okD F sc_l_added (fun _ => rfl) fun a cdv A outer s H vs E hr dv hs => ?_
  obtain ⟨a, b⟩ := a
  obtain ⟨v0, v1, rfl, d0, d1⟩ := dpa_two dv
  refine ⟨_, (pss_one (ps_ret (pe_kn (ok_l_reduced M) hr (pa_cons (pe_op op_add (pe_op op_mulX (pe_ix ix_tup (pv 0) pe_int (fun _ _ => rfl)) (pe_ix ix_tup (pv 1) pe_int (fun _ _ => rfl))) (pe_op op_mulX (pe_ix ix_tup (pv 1) pe_int (fun _ _ => rfl)) (pe_ix ix_tup (pv 0) pe_int (fun _ _ => rfl)))) (pa_cons (pe_op op_mulX (pe_ix ix_tup (pv 0) pe_int (fun _ _ => rfl)) (pe_ix ix_tup (pv 1) pe_int (fun _ _ => rfl))) pa_nil))))), fun Q q => ?_⟩
  have hs : okSz a b := hs
  refine sd_ret (K := K) ?_ fun v H1 e1 dv => q v H1 e1 dv
  refine (evd_call (ead_cons (evd_op (evd_op (evd_num (evd_var rfl d0)) (evd_den (evd_var rfl d1)) (rd_I (cmul_nd hs))) (evd_op (evd_num (evd_var rfl d1)) (evd_den (evd_var rfl d0)) (rd_I (cmul_nd hs.symm))) rd_I0) (ead_cons (evd_op (evd_den (evd_var rfl d0)) (evd_den (evd_var rfl d1)) (rd_I (cmul_dd hs))) ead_nil)) (spd_of (_, _) ?_)).is ?_
  · exact Int.mul_ne_zero (den_ne a) (den_ne b)
  · show fr _ = fr _
    rw [divInt_add]
theorem ok_l_lessened (M : Md P K mg base) : Kn P w K mg base CX0 "_law_lessened" ["_law_one", "_law_other"] 34 (spQQ K okSz (· - ·)) := by
  refine kn_mk M.d_l_lessened fun f fd F => okD F sc_l_lessened (fun _ => rfl) fun a cdv A outer s H vs E hr dv hs => ?_
  obtain ⟨a, b⟩ := a
  obtain ⟨v0, v1, rfl, d0, d1⟩ := dpa_two dv
  refine ⟨_, (pss_one (ps_ret (pe_kn (ok_l_reduced M) hr (pa_cons (pe_op op_sub (pe_op op_mulX (pe_ix ix_tup (pv 0) pe_int (fun _ _ => rfl)) (pe_ix ix_tup (pv 1) pe_int (fun _ _ => rfl))) (pe_op op_mulX (pe_ix ix_tup (pv 1) pe_int (fun _ _ => rfl)) (pe_ix ix_tup (pv 0) pe_int (fun _ _ => rfl)))) (pa_cons (pe_op op_mulX (pe_ix ix_tup (pv 0) pe_int (fun _ _ => rfl)) (pe_ix ix_tup (pv 1) pe_int (fun _ _ => rfl))) pa_nil))))), fun Q q => ?_⟩
  have hs : okSz a b := hs
  refine sd_ret (K := K) ?_ fun v H1 e1 dv => q v H1 e1 dv
  refine (evd_call (ead_cons (evd_op (evd_op (evd_num (evd_var rfl d0)) (evd_den (evd_var rfl d1)) (rd_I (cmul_nd hs))) (evd_op (evd_num (evd_var rfl d1)) (evd_den (evd_var rfl d0)) (rd_I (cmul_nd hs.symm))) rd_I0) (ead_cons (evd_op (evd_den (evd_var rfl d0)) (evd_den (evd_var rfl d1)) (rd_I (cmul_dd hs))) ead_nil)) (spd_of (_, _) ?_)).is ?_
  · exact Int.mul_ne_zero (den_ne a) (den_ne b)
  · show fr _ = fr _
    rw [divInt_sub]
theorem ok_l_multiplied (M : Md P K mg base) : Kn P w K mg base CX0 "_law_multiplied" ["_law_one", "_law_other"] 34 (spQQ K okSz (· * ·)) := by
  refine kn_mk M.d_l_multiplied fun f fd F => okD F sc_l_multiplied (fun _ => rfl) fun a cdv A outer s H vs E hr dv hs => ?_
  obtain ⟨a, b⟩ := a
  obtain ⟨v0, v1, rfl, d0, d1⟩ := dpa_two dv
  refine ⟨_, (pss_one (ps_ret (pe_kn (ok_l_reduced M) hr (pa_cons (pe_op op_mulX (pe_ix ix_tup (pv 0) pe_int (fun _ _ => rfl)) (pe_ix ix_tup (pv 1) pe_int (fun _ _ => rfl))) (pa_cons (pe_op op_mulX (pe_ix ix_tup (pv 0) pe_int (fun _ _ => rfl)) (pe_ix ix_tup (pv 1) pe_int (fun _ _ => rfl))) pa_nil))))), fun Q q => ?_⟩
  have hs : okSz a b := hs
  refine sd_ret (K := K) ?_ fun v H1 e1 dv => q v H1 e1 dv
  refine (evd_call (ead_cons (evd_op (evd_num (evd_var rfl d0)) (evd_num (evd_var rfl d1)) (rd_I (cmul_nn hs))) (ead_cons (evd_op (evd_den (evd_var rfl d0)) (evd_den (evd_var rfl d1)) (rd_I (cmul_dd hs))) ead_nil)) (spd_of (_, _) ?_)).is ?_
  · exact Int.mul_ne_zero (den_ne a) (den_ne b)
  · show fr _ = fr _
    rw [divInt_mul]
theorem ok_l_divided (M : Md P K mg base) : Kn P w K mg base CX0 "_law_divided" ["_law_one", "_law_other"] 34 (spQQ K (fun a b => okSz a b ∧ b ≠ 0) (· / ·)) := by
  refine kn_mk M.d_l_divided fun f fd F => okD F sc_l_divided (fun _ => rfl) fun a cdv A outer s H vs E hr dv hs => ?_
  obtain ⟨a, b⟩ := a
  obtain ⟨v0, v1, rfl, d0, d1⟩ := dpa_two dv
  refine ⟨_, (pss_one (ps_ret (pe_kn (ok_l_reduced M) hr (pa_cons (pe_op op_mulX (pe_ix ix_tup (pv 0) pe_int (fun _ _ => rfl)) (pe_ix ix_tup (pv 1) pe_int (fun _ _ => rfl))) (pa_cons (pe_op op_mulX (pe_ix ix_tup (pv 0) pe_int (fun _ _ => rfl)) (pe_ix ix_tup (pv 1) pe_int (fun _ _ => rfl))) pa_nil))))), fun Q q => ?_⟩
  obtain ⟨hs, hb⟩ : okSz a b ∧ b ≠ 0 := hs
  refine sd_ret (K := K) ?_ fun v H1 e1 dv => q v H1 e1 dv
  refine (evd_call (ead_cons (evd_op (evd_num (evd_var rfl d0)) (evd_den (evd_var rfl d1)) (rd_I (cmul_nd hs))) (ead_cons (evd_op (evd_den (evd_var rfl d0)) (evd_num (evd_var rfl d1)) (rd_I (cmul_dn hs))) ead_nil)) (spd_of (_, _) ?_)).is ?_
  · exact Int.mul_ne_zero (den_ne a) (num_ne hb)
  · show fr _ = fr _
    rw [divInt_div]
abbrev spBelow (K : PySem.W.Frag) : Sp := SpOf K (α := Rat × Rat) (fun a => [fr a.1, fr a.2]) (fun a => okSz a.1 a.2) (fun a => .bool (decide (a.1 < a.2)))
theorem ok_l_is_below (M : Md P K mg base) : Kn P w K mg base CX0 "_law_is_below" ["_law_one", "_law_other"] 3 (spBelow K) := by
  refine kn_mk M.d_l_is_below fun f fd F => okD F sc_l_is_below (fun _ => rfl) fun a cdv A outer s H vs E hr dv hs => ?_
  obtain ⟨a, b⟩ := a
  obtain ⟨v0, v1, rfl, d0, d1⟩ := dpa_two dv
  have hs : okSz a b := hs
  refine ⟨_, (pss_one (ps_ret (pe_cmpR op_lt (pe_op op_mulX (pe_ix ix_tup (pv 0) pe_int (fun _ _ => rfl)) (pe_ix ix_tup (pv 1) pe_int (fun _ _ => rfl))) (pe_op op_mulX (pe_ix ix_tup (pv 1) pe_int (fun _ _ => rfl)) (pe_ix ix_tup (pv 0) pe_int (fun _ _ => rfl))) (nomark _)))), fun Q q => ?_⟩
  replace q : ∀ v H', Ex H H' → Dp K H' v (.bool (decide (a < b))) → Q v H' := q
  refine sd_ret (K := K) ((evd_op (evd_op (evd_num (evd_var rfl d0)) (evd_den (evd_var rfl d1)) (rd_I (cmul_nd hs))) (evd_op (evd_num (evd_var rfl d1)) (evd_den (evd_var rfl d0)) (rd_I (cmul_nd hs.symm))) rd_B0).is ?_) fun v H1 e1 dv => q v H1 e1 dv
  show PyData.bool _ = PyData.bool _
  congr 1
  exact decide_eq_decide.mpr (cmp_lt a b)
theorem evb_below {ta tb : TE} {σ : L2.St} {H : Hp} {a b : Rat} (ha : EvD K ta σ H (fr a)) (hb : EvD K tb σ H (fr b)) (h : okSz a b) {E : XK} :
    EvB (tTest (tCall (spBelow K) [] E (tCons ta (tCons tb tNil)))) σ H (decide (a < b)) :=
  evb_test (K := K) (evd_call (ead_cons ha (ead_cons hb ead_nil)) (spd_of (a, b) h))
abbrev spLGr (K : PySem.W.Frag) : Sp := spQQ K okSz rmax
theorem ok_l_greater (M : Md P K mg base) : Kn P w K mg base CX0 "_law_greater" ["_law_one", "_law_other"] 4 (spLGr K) := by
  refine kn_mk M.d_l_greater fun f fd F => okD F sc_l_greater (fun _ => rfl) fun a cdv A outer s H vs E hr dv hs => ?_
  obtain ⟨a, b⟩ := a
  obtain ⟨v0, v1, rfl, d0, d1⟩ := dpa_two dv
  have hs : okSz a b := hs
  refine ⟨_, (pss_one (ps_ret (pe_ifExp (pt_val (pe_kn (ok_l_is_below M) hr (pa_cons (pv 0) (pa_cons (pv 1) pa_nil)))) (pv 1) (pv 0)))), fun Q q => ?_⟩
  refine sd_ret (K := K) (d := fr (rmax a b)) (evd_if (evb_below (evd_var rfl d0) (evd_var rfl d1) hs) (fun h => ?_) (fun h => ?_)) fun v H1 e1 dv => q v H1 e1 dv
  · have e : rmax a b = b := if_pos (of_decide_eq_true h)
    rw [e]; exact evd_var rfl d1
  · have e : rmax a b = a := if_neg (of_decide_eq_false h)
    rw [e]; exact evd_var rfl d0
theorem ok_l_total (M : Md P K mg base) : Kn P w K mg base CX0 "_law_total" ["_law_fractions"] 35 (spTotal K) := by
  refine kn_mk M.d_l_total fun f fd F => okD F sc_l_total (fun _ => rfl) fun a cdv A outer s H vs E hr dv hs => ?_
  obtain ⟨b, qs⟩ := a
  obtain ⟨v0, rfl, d0⟩ := dpa_one dv
  have hs : okTotal qs := hs
  cases b with
  | true =>
    have d0 : Dp K H v0 (.list (qs.map fr)) := d0
    refine ⟨_, (pss_cons (ps_set (i := 1) sc_l_total.nd rfl (.inl rfl) (pe_tup (pa_cons pe_int (pa_cons pe_int pa_nil)))) (pss_cons (ps_for PassesOwn.never rfl (pi_list (pv 0)) (pg_name (i := 2) sc_l_total.nd rfl (Or.inl rfl)) (pss_one (ps_set (i := 1) sc_l_total.nd rfl (.inl rfl) (pe_kn (ok_l_added M) hr (pa_cons (pv 1) (pa_cons (pv 2) pa_nil)))))) (pss_one (ps_ret (pv 1))))), fun Q q => ?_⟩
    refine sd_set (K := K) (d := fr 0) (evd_tup (ead_cons evd_int (ead_cons evd_int ead_nil)) (by simp)) fun v1 H1 e1 d1 => ?_
    cases d0 with
    | lst hl ha =>
      rename_i l xs
      have hlen := dpa_len ha
      refine Evl.s_forL (K := K) (Evl.ev_var rfl) (ex_l e1 hl) (fun i σ' H' => ∃ v x, σ' = [some (.ref l), some v, x] ∧ Ex H1 H' ∧ Dp K H' v (fr (qs.take i).sum)) (fun H2 e2 => ⟨v1, none, rfl, e2, dp_ex e2 d1⟩) ?_ ?_ ?_
      · rintro i σ' H' _ ⟨v, x, rfl, e, _⟩
        exact ex_l (e1.trans e) hl
      · rintro i x σ' H' hx ⟨v, y, rfl, e, dv⟩
        obtain ⟨p, hp, dx⟩ := fr_item (dpa_ex (e1.trans e) ha) hx
        show tAsg _ _ _ _ _
        refine sd_set (K := K) (evd_qq (evd_var rfl dv) (evd_var rfl dx) (hs i p hp)) fun v2 H3 e3 d3 => ⟨v2, some x, rfl, e.trans e3, ?_⟩
        rw [sum_take_succ hp]; exact d3
      · rintro σ' H' ⟨v, x, rfl, e, dv⟩
        rw [hlen, List.length_map, List.take_length] at dv
        exact sd_ret (K := K) (evd_var rfl dv) fun v2 H3 e3 d3 => q v2 H3 ((e1.trans e).trans e3) d3
  | false =>
    have d0 : Dp K H v0 (.tuple (qs.map fr)) := d0
    refine ⟨_, (pss_cons (ps_set (i := 1) sc_l_total.nd rfl (.inl rfl) (pe_tup (pa_cons pe_int (pa_cons pe_int pa_nil)))) (pss_cons (ps_for PassesOwn.never rfl (pi_tup (pv 0)) (pg_name (i := 2) sc_l_total.nd rfl (Or.inl rfl)) (pss_one (ps_set (i := 1) sc_l_total.nd rfl (.inl rfl) (pe_kn (ok_l_added M) hr (pa_cons (pv 1) (pa_cons (pv 2) pa_nil)))))) (pss_one (ps_ret (pv 1))))), fun Q q => ?_⟩
    refine sd_set (K := K) (d := fr 0) (evd_tup (ead_cons evd_int (ead_cons evd_int ead_nil)) (by simp)) fun v1 H1 e1 d1 => ?_
    cases d0 with
    | tup hl ha =>
      rename_i l xs
      have hlen := dpa_len ha
      refine Evl.s_forT (K := K) (Evl.ev_var rfl) (ex_t e1 hl) (fun i σ' H' => ∃ v x, σ' = [some (.ref l), some v, x] ∧ Ex H1 H' ∧ Dp K H' v (fr (qs.take i).sum)) (fun H2 e2 => ⟨v1, none, rfl, e2, dp_ex e2 d1⟩) ?_ ?_ ?_
      · rintro i σ' H' _ ⟨v, x, rfl, e, _⟩
        exact ex_t (e1.trans e) hl
      · rintro i x σ' H' hx ⟨v, y, rfl, e, dv⟩
        obtain ⟨p, hp, dx⟩ := fr_item (dpa_ex (e1.trans e) ha) hx
        show tAsg _ _ _ _ _
        refine sd_set (K := K) (evd_qq (evd_var rfl dv) (evd_var rfl dx) (hs i p hp)) fun v2 H3 e3 d3 => ⟨v2, some x, rfl, e.trans e3, ?_⟩
        rw [sum_take_succ hp]; exact d3
      · rintro σ' H' ⟨v, x, rfl, e, dv⟩
        rw [hlen, List.length_map, List.take_length] at dv
        exact sd_ret (K := K) (evd_var rfl dv) fun v2 H3 e3 d3 => q v2 H3 ((e1.trans e).trans e3) d3
end
end My
namespace My
open PySem PySem.Spec PyProof.Rows L2
open Evl (Ex ex_l ex_t fresh_back)
section
variable {P : Program} {w : World} {K : PySem.W.Frag} {mg : Str → Option Value} {base : Heap}
theorem evd_lgr {ta tb : TE} {σ : L2.St} {H : Hp} {a b : Rat} (ha : EvD K ta σ H (fr a)) (hb : EvD K tb σ H (fr b)) (h : okSz a b) {E : XK} :
    EvD K (tCall (spLGr K) [] E (tCons ta (tCons tb tNil))) σ H (fr (rmax a b)) := evd_call (ead_cons ha (ead_cons hb ead_nil)) (spd_of (a, b) h)
theorem evd_q01 {σ : L2.St} {H : Hp} : EvD K (tTup (tCons (tC (.int 0)) (tCons (tC (.int 1)) tNil))) σ H (fr 0) := evd_tup (ead_cons evd_int (ead_cons evd_int ead_nil)) (by simp)
theorem evd_q11 {σ : L2.St} {H : Hp} : EvD K (tTup (tCons (tC (.int 1)) (tCons (tC (.int 1)) tNil))) σ H (fr 1) := evd_tup (ead_cons evd_int (ead_cons evd_int ead_nil)) (by simp)
/-- discount if it is not None else (0, 1), the thing asked twice -/
theorem evd_optOr {te te2 t0 : TE} {σ : L2.St} {H : Hp} {o : Option Rat} (h : EvD K te σ H (optD o)) (h2 : EvD K te2 σ H (optD o)) (h0 : EvD K t0 σ H (fr 0)) :
    EvD K (tIf (tTest (tOp (fun x y H Q => y = .non ∧ Q (.bl (!decide (x = .non))) H) te (tC .non))) te2 t0) σ H (fr (o.getD 0)) := by
  refine evd_if (evb_test (K := K) (evd_op h evd_non rd_notN)) (fun hb => ?_) (fun hb => ?_)
  · rw [isNo_opt] at hb
    cases o with
    | none => simp at hb
    | some e => exact h2
  · rw [isNo_opt] at hb
    cases o with
    | none => exact h0
    | some e => simp at hb
abbrev spLW (K : PySem.W.Frag) : Sp := SpOf K (α := Th × Rat × Rat) (fun a => [thD a.1, fr a.2.2, fr a.2.1]) (fun a => preThing a.1 a.2.1 a.2.2) (fun a => fr (thingW a.1 a.2.1 a.2.2))
theorem ok_l_worth_of (M : Md P K mg base) : Kn P w K mg base CX0 "_law_worth_of" ["_law_thing_here", "_law_money", "_law_price"] 36 (spLW K) := by
  refine kn_mk M.d_l_worth_of fun f fd F => okD F sc_l_worth_of (fun _ => rfl) fun a cdv A outer s H vs E hr dv hs => ?_
  obtain ⟨t, p, money⟩ := a
  obtain ⟨v0, v1, v2, rfl, d0, d1, d2⟩ := dpa_three dv
  replace hs : preThing t p money := hs
  obtain ⟨hok, hm, n, m, hn, zt, zm, hp, hnm⟩ := id hs
  replace d0 : Dp K H v0 (thD t) := d0
  replace d1 : Dp K H v1 (fr money) := d1
  replace d2 : Dp K H v2 (fr p) := d2
  refine ⟨_, (pss_cons (ps_if (pt_cmpR (op_eqD hr.units) (pe_ix ix_tup (pv 0) pe_int (fun _ _ => rfl)) pe_str (nomark _)) (pss_one (ps_ret (pe_kn (ok_l_multiplied M) hr (pa_cons (pv 2) (pa_cons (pe_ix ix_tup (pv 0) pe_int (fun _ _ => rfl)) pa_nil))))) pss_nil) (pss_cons (ps_if (pt_cmpR (op_eqD hr.units) (pe_ix ix_tup (pv 0) pe_int (fun _ _ => rfl)) pe_str (nomark _)) (pss_cons (ps_set (i := 3) sc_l_worth_of.nd rfl (.inl rfl) (pe_kn (ok_l_lessened M) hr (pa_cons (pe_tup (pa_cons pe_int (pa_cons pe_int pa_nil))) (pa_cons (pe_ifExp (pt_cmpR op_notN (pe_ix ix_tup (pv 0) pe_int (fun _ _ => rfl)) pe_non (nomark _)) (pe_ix ix_tup (pv 0) pe_int (fun _ _ => rfl)) (pe_tup (pa_cons pe_int (pa_cons pe_int pa_nil)))) pa_nil)))) (pss_cons (ps_set (i := 4) sc_l_worth_of.nd rfl (.inl rfl) (pe_kn (ok_l_divided M) hr (pa_cons (pe_ix ix_tup (pv 0) pe_int (fun _ _ => rfl)) (pa_cons (pv 3) pa_nil)))) (pss_one (ps_ret (pe_ifExp (pt_cmpR op_isN (pe_ix ix_tup (pv 0) pe_int (fun _ _ => rfl)) pe_non (nomark _)) (pv 4) (pe_kn (ok_l_greater M) hr (pa_cons (pv 4) (pa_cons (pe_kn (ok_l_divided M) hr (pa_cons (pe_kn (ok_l_multiplied M) hr (pa_cons (pv 2) (pa_cons (pe_ix ix_tup (pv 0) pe_int (fun _ _ => rfl)) pa_nil))) (pa_cons (pe_ix ix_tup (pv 0) pe_int (fun _ _ => rfl)) pa_nil))) pa_nil)))))))) pss_nil) (pss_cons (ps_if (pt_cmpR (op_eqD hr.units) (pe_ix ix_tup (pv 0) pe_int (fun _ _ => rfl)) pe_str (nomark _)) (pss_one (ps_ret (pe_kn (ok_l_multiplied M) hr (pa_cons (pe_ix ix_tup (pv 0) pe_int (fun _ _ => rfl)) (pa_cons (pe_kn (ok_l_greater M) hr (pa_cons (pv 2) (pa_cons (pe_ix ix_tup (pv 0) pe_int (fun _ _ => rfl)) pa_nil))) pa_nil))))) pss_nil) (pss_cons (ps_if (pt_not (pt_val (pe_kn (ok_l_is_below M) hr (pa_cons (pv 2) (pa_cons (pe_ix ix_tup (pv 0) pe_int (fun _ _ => rfl)) pa_nil))))) (pss_one (ps_ret (pe_kn (ok_l_multiplied M) hr (pa_cons (pv 2) (pa_cons (pe_ix ix_tup (pv 0) pe_int (fun _ _ => rfl)) pa_nil))))) pss_nil) (pss_cons (ps_set (i := 5) sc_l_worth_of.nd rfl (.inl rfl) (pe_kn (ok_l_divided M) hr (pa_cons (pe_kn (ok_l_added M) hr (pa_cons (pe_kn (ok_l_multiplied M) hr (pa_cons (pe_ix ix_tup (pv 0) pe_int (fun _ _ => rfl)) (pa_cons (pv 2) pa_nil))) (pa_cons (pv 1) pa_nil))) (pa_cons (pe_kn (ok_l_added M) hr (pa_cons (pe_kn (ok_l_multiplied M) hr (pa_cons (pe_ix ix_tup (pv 0) pe_int (fun _ _ => rfl)) (pa_cons (pe_ix ix_tup (pv 0) pe_int (fun _ _ => rfl)) pa_nil))) (pa_cons (pv 1) pa_nil))) pa_nil)))) (pss_one (ps_ret (pe_kn (ok_l_multiplied M) hr (pa_cons (pe_kn (ok_l_multiplied M) hr (pa_cons (pe_ix ix_tup (pv 0) pe_int (fun _ _ => rfl)) (pa_cons (pe_ix ix_tup (pv 0) pe_int (fun _ _ => rfl)) pa_nil))) (pa_cons (pv 5) pa_nil)))))))))), fun Q q => ?_⟩
  replace q : ∀ v H', Ex H H' → Dp K H' v (fr (thingW t p money)) → Q v H' := q
  have h0 : ∀ (wd : Str) (tl : List PyData), thD t = .tuple (.str wd :: tl) → ∀ H1, Ex H H1 → EvD K (tOp (rIxT K) (tVar 0) (tC (.int 0))) [some v0, some v1, some v2, none, none, none] H1 (.str wd) := fun wd tl e H1 e1 => evd_op (evd_var rfl (dp_ex e1 (e ▸ d0))) evd_int (rd_ixT (i := 0) rfl)
  cases t with
  | shares c =>
    have zc : sz c ≤ n := zt
    refine sd_if (evb_word (h0 "shares" _ rfl H (Ex.refl H))) (fun hb H1 e1 => ?_) (fun hb _ _ => absurd hb (by decide +kernel))
    try dsimp only
    have e : thingW (.shares c) p money = p * c := Rat.mul_comm c p
    rw [e] at q
    exact sd_ret (K := K) (evd_qq (evd_var rfl (dp_ex e1 d2)) (evd_op (evd_var rfl (dp_ex e1 d0)) evd_int (rd_ixT (i := 1) rfl)) (by show sz _ + sz _ ≤ _; omega)) fun v H3 e3 dv => q v H3 (e1.trans e3) dv
  | note amt cap disc =>
    obtain ⟨z1, z2, z3⟩ : sz amt ≤ n ∧ OptSz n cap ∧ OptSz n disc := zt
    obtain ⟨k1, k2, k3⟩ : 0 < amt ∧ (∀ k, cap = some k → 0 < k) ∧ ∀ e, disc = some e → 0 ≤ e ∧ e < 1 := hok
    obtain ⟨l1, l2⟩ := disc_lt k3
    have s1 := sz_disc hn z3
    have s2 := sz_sub 1 (disc.getD 0)
    rw [sz_one] at s2
    have s3 := sz_div amt (1 - disc.getD 0)
    have s5 := sz_mul p amt
    refine sd_if (evb_word (h0 "note" _ rfl H (Ex.refl H))) (fun hb _ _ => absurd hb (by decide +kernel)) (fun hb H1 e1 => ?_)
    dsimp only [tNext]
    refine sd_if (evb_word (h0 "note" _ rfl H1 e1)) (fun hb H2 e2 => ?_) (fun hb _ _ => absurd hb (by decide +kernel))
    try dsimp only
    replace d0 : Dp K H v0 (.tuple [.str "note", fr amt, optD cap, optD disc]) := d0
    have e12 := e1.trans e2
    refine sd_set (K := K) (evd_qq evd_q11 (evd_optOr (evd_op (evd_var rfl (dp_ex e12 d0)) evd_int (rd_ixT (i := 3) rfl)) (evd_op (evd_var rfl (dp_ex e12 d0)) evd_int (rd_ixT (i := 3) rfl)) evd_q01) (by show sz _ + sz _ ≤ _; rw [sz_one]; omega)) fun v3 H3 e3 d3 => ?_
    dsimp only
    refine sd_set (K := K) (evd_qq (evd_op (evd_var rfl (dp_ex (e12.trans e3) d0)) evd_int (rd_ixT (i := 1) rfl)) (evd_var rfl d3) (And.intro (by show sz _ + sz _ ≤ _; omega) (by grind))) fun v4 H4 e4 d4 => ?_
    dsimp only
    have e14 := (e12.trans e3).trans e4
    refine sd_ret (K := K) (d := fr (noteW amt cap disc p)) ?_ fun v H5 e5 dv => q v H5 (e14.trans e5) dv
    refine evd_if (evb_test (K := K) (evd_op (evd_op (evd_var rfl (dp_ex e14 d0)) evd_int (rd_ixT (i := 2) rfl)) evd_non rd_isN)) (fun hb => ?_) (fun hb => ?_)
    · rw [isNo_opt] at hb
      cases cap with
      | none => exact evd_var rfl d4
      | some k => simp at hb
    · rw [isNo_opt] at hb
      cases cap with
      | none => simp at hb
      | some k =>
        have s4 := z2 k rfl
        have s6 := sz_div (p * amt) k
        have k0 : k ≠ 0 := by have := k2 k rfl; grind
        exact evd_lgr (evd_var rfl d4) (evd_qq (evd_qq (evd_var rfl (dp_ex e14 d2)) (evd_op (evd_var rfl (dp_ex e14 d0)) evd_int (rd_ixT (i := 1) rfl)) (by show sz _ + sz _ ≤ _; omega)) (evd_op (evd_var rfl (dp_ex e14 d0)) evd_int (rd_ixT (i := 2) (d := fr k) rfl)) ⟨by show sz _ + sz _ ≤ _; omega, k0⟩) (by show sz _ + sz _ ≤ _; omega)
  | kept c old =>
    obtain ⟨zc, zo⟩ : sz c ≤ n ∧ sz old ≤ n := zt
    have z3 := sz_rmax (a := p) (b := old) (n := m + n) (by omega) (by omega)
    refine sd_if (evb_word (h0 "kept" _ rfl H (Ex.refl H))) (fun hb _ _ => absurd hb (by decide +kernel)) (fun hb H1 e1 => ?_)
    dsimp only [tNext]
    refine sd_if (evb_word (h0 "kept" _ rfl H1 e1)) (fun hb _ _ => absurd hb (by decide +kernel)) (fun hb H2 e2 => ?_)
    dsimp only [tNext]
    have e12 := e1.trans e2
    refine sd_if (evb_word (h0 "kept" _ rfl H2 e12)) (fun hb H3 e3 => ?_) (fun hb _ _ => absurd hb (by decide +kernel))
    try dsimp only
    have e13 := e12.trans e3
    exact sd_ret (K := K) (evd_qq (evd_op (evd_var rfl (dp_ex e13 d0)) evd_int (rd_ixT (i := 1) rfl)) (evd_lgr (evd_var rfl (dp_ex e13 d2)) (evd_op (evd_var rfl (dp_ex e13 d0)) evd_int (rd_ixT (i := 2) rfl)) (by show sz _ + sz _ ≤ _; omega)) (by show sz _ + sz _ ≤ _; omega)) fun v H4 e4 dv => q v H4 (e13.trans e4) dv
  | weighed c old thn =>
    obtain ⟨z1, z2, z3⟩ : sz c ≤ n ∧ sz old ≤ n ∧ sz thn ≤ n := zt
    obtain ⟨h1, h2, h3⟩ : 0 < c ∧ 0 < old ∧ 0 < thn := hok
    have a1 := sz_mul p c
    have a2 := sz_mul thn p
    have a3 := sz_add (thn * p) money
    have a4 := sz_mul thn old
    have a5 := sz_add (thn * old) money
    have a6 := sz_div (thn * p + money) (thn * old + money)
    have a7 := sz_mul c old
    replace d0 : Dp K H v0 (.tuple [.str "weighed", fr c, fr old, fr thn]) := d0
    replace q : ∀ v H', Ex H H' → Dp K H' v (fr (weighedW c old thn p money)) → Q v H' := q
    refine sd_if (evb_word (h0 "weighed" _ rfl H (Ex.refl H))) (fun hb _ _ => absurd hb (by decide +kernel)) (fun hb H1 e1 => ?_)
    dsimp only [tNext]
    refine sd_if (evb_word (h0 "weighed" _ rfl H1 e1)) (fun hb _ _ => absurd hb (by decide +kernel)) (fun hb H2 e2 => ?_)
    dsimp only [tNext]
    have e12 := e1.trans e2
    refine sd_if (evb_word (h0 "weighed" _ rfl H2 e12)) (fun hb _ _ => absurd hb (by decide +kernel)) (fun hb H3 e3 => ?_)
    dsimp only [tNext]
    have e13 := e12.trans e3
    refine sd_if (evb_not (evb_below (evd_var rfl (dp_ex e13 d2)) (evd_op (evd_var rfl (dp_ex e13 d0)) evd_int (rd_ixT (i := 2) rfl)) (by show sz _ + sz _ ≤ _; omega))) (fun hb H4 e4 => ?_) (fun hb H4 e4 => ?_)
    · have hb' : old ≤ p := by
        have : ¬ p < old := by simpa using hb
        grind
      have hw : weighedW c old thn p money = p * c := if_pos hb'
      rw [hw] at q
      try dsimp only
      have e14 := e13.trans e4
      exact sd_ret (K := K) (evd_qq (evd_var rfl (dp_ex e14 d2)) (evd_op (evd_var rfl (dp_ex e14 d0)) evd_int (rd_ixT (i := 1) rfl)) (by show sz _ + sz _ ≤ _; omega)) fun v H5 e5 dv => q v H5 (e14.trans e5) dv
    · have hb' : ¬ old ≤ p := by
        have : p < old := by simpa using hb
        grind
      have hw : weighedW c old thn p money = c * old * ((thn * p + money) / (thn * old + money)) := if_neg hb'
      rw [hw] at q
      dsimp only [tNext]
      have e14 := e13.trans e4
      have x : ∀ {i : Nat} {d : PyData} {σ : L2.St} {H' : Hp}, σ[0]? = some (some v0) → Ex H H' → ([.str "weighed", fr c, fr old, fr thn] : List PyData)[i]? = some d → EvD K (tOp (rIxT K) (tVar 0) (tC (.int (i : Nat)))) σ H' d := fun h e h2 => evd_op (evd_var h (dp_ex e d0)) evd_int (rd_ixT h2)
      refine sd_set (K := K) (evd_qq (evd_qq (evd_qq (x (i := 3) rfl e14 rfl) (evd_var rfl (dp_ex e14 d2)) (by show sz _ + sz _ ≤ _; omega)) (evd_var rfl (dp_ex e14 d1)) (by show sz _ + sz _ ≤ _; omega)) (evd_qq (evd_qq (x (i := 3) rfl e14 rfl) (x (i := 2) rfl e14 rfl) (by show sz _ + sz _ ≤ _; omega)) (evd_var rfl (dp_ex e14 d1)) (by show sz _ + sz _ ≤ _; omega)) (And.intro (by show sz _ + sz _ ≤ _; omega) (pos_den h3 h2 hm))) fun v5 H5 e5 d5 => ?_
      dsimp only
      have e15 := e14.trans e5
      exact sd_ret (K := K) (evd_qq (evd_qq (x (i := 1) rfl e15 rfl) (x (i := 2) rfl e15 rfl) (by show sz _ + sz _ ≤ _; omega)) (evd_var rfl d5) (by show sz _ + sz _ ≤ _; omega)) fun v H6 e6 dv => q v H6 (e15.trans e6) dv
/-- a, b, c, (d, e) = x -/
theorem sd_unpN {D : Ends} {te : TE} {σ : L2.St} {H : Hp} {i j k l m : Nat} {d1 d2 d3 d4 d5 : PyData} (h : EvD K te σ H (.tuple [d1, d2, d3, .tuple [d4, d5]])) (q : ∀ v w u x y H1, Ex H H1 → Dp K H1 v d1 → Dp K H1 w d2 → Dp K H1 u d3 → Dp K H1 x d4 → Dp K H1 y d5 → D.nx (((((σ.set i (some v)).set j (some w)).set k (some u)).set l (some x)).set m (some y)) H1) :
    tAsg te (gTup K 4 (gCons (gName i) (gCons (gName j) (gCons (gName k) (gCons (gTup K 2 (gCons (gName l) (gCons (gName m) gNil))) gNil))))) D σ H := h H (Ex.refl H) _ fun v H1 e dv => by
  cases dv with
  | tup hs ha =>
    cases ha with
    | cons h1 ha =>
      obtain ⟨b, c, d, rfl, h2, h3, h4⟩ := dpa_three ha
      cases h4 with
      | tup hs4 ha4 =>
        obtain ⟨x, y, rfl, h5, h6⟩ := dpa_two ha4
        exact ⟨_, _, rfl, hs, rfl, _, _, rfl, b, _, rfl, c, _, rfl, _, [], rfl, ⟨_, _, rfl, hs4, rfl, x, [y], rfl, y, [], rfl, rfl, rfl, q _ b c x y H1 e h1 h2 h3 h5 h6⟩⟩
theorem ok_l_worths (M : Md P K mg base) : Kn P w K mg base CX0 "_law_worths" ["_law_deal_here", "_law_price"] 38 (spWorths K) := by
  refine kn_mk M.d_l_worths fun f fd F => okD F sc_l_worths (fun _ => rfl) fun a cdv A outer s H vs E hr dv hs => ?_
  obtain ⟨d, p⟩ := a
  obtain ⟨v0, v1, rfl, d0, d1⟩ := dpa_two dv
  obtain ⟨ht, hlen, htot, hpool⟩ : preWorths d p := hs
  obtain ⟨h1, n, m, k, z1, z2, z3, zp, zu, hn⟩ := hpool
  replace d0 : Dp K H v0 (dealD d) := d0
  replace d1 : Dp K H v1 (fr p) := d1
  refine ⟨_, (pss_cons (ps_asg (pv 0) (pg_tup rfl (pgs_cons (pg_name (i := 2) sc_l_worths.nd rfl (Or.inl rfl)) (pgs_cons (pg_name (i := 3) sc_l_worths.nd rfl (Or.inr rfl)) (pgs_cons (pg_name (i := 4) sc_l_worths.nd rfl (Or.inl rfl)) (pgs_cons (pg_tup rfl (pgs_cons (pg_name (i := 5) sc_l_worths.nd rfl (Or.inl rfl)) (pgs_cons (pg_name (i := 6) sc_l_worths.nd rfl (Or.inl rfl)) pgs_nil))) pgs_nil)))))) (pss_cons (ps_setLc (i := 7) (own := [("_law_thing_here", 9)]) (g := (gName 9)) (tt := tYes) rfl sc_l_worths.nd rfl rfl (sw_true rfl rfl rfl (by decide +kernel)) (pi_tup (pv 4)) (blkOk_by (N := ["_law_deal_here", "_law_price", "_law_worth", "_law_money", "_law_things", "_law_count", "_law_part", "_law_found", "_law_filled", "_law_thing_here"]) (sc := defScope s_l_worths) (own := [("_law_thing_here", 9)]) (by decide +kernel)) (fun _ _ _ _ _ => (pg_name (i := 9) sc_l_worths.nd rfl (by first | exact Or.inl rfl | exact Or.inr rfl))) (fun _ _ _ _ _ => pts_nil) (fun _ _ _ _ _ => (pe_kn (ok_l_worth_of M) hr (pa_cons (pv 9) (pa_cons (pv 3) (pa_cons (pv 1) pa_nil)))))) (pss_cons (ps_set (i := 8) sc_l_worths.nd rfl (.inl rfl) (pe_kn (ok_l_divided M) hr (pa_cons (pe_kn (ok_l_multiplied M) hr (pa_cons (pv 6) (pa_cons (pe_kn (ok_l_added M) hr (pa_cons (pe_kn (ok_l_total M) hr (pa_cons (pv 7) pa_nil)) (pa_cons (pv 3) pa_nil))) pa_nil))) (pa_cons (pe_kn (ok_l_lessened M) hr (pa_cons (pe_tup (pa_cons pe_int (pa_cons pe_int pa_nil))) (pa_cons (pv 6) pa_nil))) pa_nil)))) (pss_one (ps_ret (pe_callTy call_tuple_of (by rfl) M.n_tuple (by decide +kernel) (pa_cons (pe_op op_catX (pv 7) (pe_lst (pa_cons (pe_kn (ok_l_greater M) hr (pa_cons (pe_kn (ok_l_multiplied M) hr (pa_cons (pv 1) (pa_cons (pv 5) pa_nil))) (pa_cons (pv 8) pa_nil))) pa_nil))) pa_nil))))))), fun Q q => ?_⟩
  have a1 := sz_add (thingWs d p).sum d.money
  have a2 := sz_mul d.part ((thingWs d p).sum + d.money)
  have a3 := sz_sub 1 d.part
  rw [sz_one] at a3
  have a4 := sz_div (d.part * ((thingWs d p).sum + d.money)) (1 - d.part)
  have a5 := sz_mul p d.count
  refine sd_unpN (evd_var rfl d0) fun v2 v3 v4 v5 v6 H1 e1 d2 d3 d4 d5 d6 => ?_
  dsimp only
  refine sd_set (K := K) (d := .list ((thingWs d p).map fr)) ((evd_lcT (xs := d.things) (enc := thD) (keep := fun _ => true) (out := fun t => fr (thingW t p d.money)) (evd_var rfl d4) (by omega) (fun _ => rfl) fun t htm => turn_name (fun _ => rfl) fun y H3 e3 dy => ⟨evb_yes, fun _ => evd_call (ead_cons (evd_var rfl dy) (ead_cons (evd_var rfl (dp_ex e3 d3)) (ead_cons (evd_var rfl (dp_ex (e1.trans e3) d1)) ead_nil))) (spd_of (t, p, d.money) (ht t htm))⟩).is ?_) fun v7 H2 e2 d7 => ?_
  · rw [filter_true]; unfold thingWs; rw [List.map_map]; rfl
  dsimp only
  refine sd_set (K := K) (evd_qq (evd_qq (evd_var rfl (dp_ex e2 d6)) (evd_qq (evd_totalL (evd_var rfl d7) htot) (evd_var rfl (dp_ex e2 d3)) (by show sz _ + sz _ ≤ _; omega)) (by show sz _ + sz _ ≤ _; omega)) (evd_qq evd_q11 (evd_var rfl (dp_ex e2 d6)) (by show sz _ + sz _ ≤ _; rw [sz_one]; omega)) (And.intro (by show sz _ + sz _ ≤ _; omega) (by grind))) fun v8 H3 e3 d8 => ?_
  dsimp only
  refine sd_ret (K := K) (d := .tuple ((worthsAt d p).map fr)) ((evd_cb (ead_cons (evd_op (evd_var rfl (dp_ex e3 d7)) (evd_lst (ead_cons (evd_lgr (evd_qq (evd_var rfl (dp_ex ((e1.trans e2).trans e3) d1)) (evd_var rfl (dp_ex (e2.trans e3) d5)) (by show sz _ + sz _ ≤ _; omega)) (evd_var rfl d8) (by show sz _ + sz _ ≤ _; omega)) ead_nil) (by simp)) (rd_catX ?_)) ead_nil) rc_tupL).is ?_) fun v H4 e4 dv => q v H4 (((e1.trans e2).trans e3).trans e4) dv
  · rw [List.length_map]; unfold thingWs; simp; omega
  · unfold worthsAt; rw [List.map_append]; rfl
end
end My
namespace My
open PySem PySem.Spec PyProof.Rows L2
open Evl (Ex ex_l ex_t fresh_back)
theorem cpow12 : CPow 10 12 := by unfold CPow; decide
theorem div_pos_iff {x p : Rat} (hp : 0 < p) : 0 < x / p ↔ 0 < x := by
  rw [Rat.div_def]
  have hi := Rat.inv_pos.mpr hp
  constructor
  · intro h
    have := Rat.mul_pos h hp
    rw [Rat.mul_assoc, Rat.inv_mul_cancel _ (by grind), Rat.mul_one] at this
    exact this
  · intro h; exact Rat.mul_pos h hi
/-- the law looks at the worths, the program at the counts -/
theorem behind_eq {d : Deal} {p : Rat} (hp : 0 < p) : behindCounts d p = ((thingWs d p ++ [d.money]).filter fun x => decide (0 < x)).map fun x => x / p := by
  unfold behindCounts keptCounts
  rw [List.filter_map]
  congr 1
  refine List.filter_congr fun x _ => ?_
  exact decide_eq_decide.mpr (div_pos_iff hp)
def isShort (q : Rat) : Bool := decide (q.num.natAbs < 1000000000000) && decide (q.den < 1000000000000)
/-- what the law itself says stands behind a round, and the pool's count -/
def lawBehind (d : Deal) (p : Rat) : PyData := .tuple [thsD ((behindCounts d p).map .shares), fr (poolW d p (thingWs d p).sum / p)]
section
variable {K : PySem.W.Frag} {σ : L2.St} {H : Hp} {D : Ends} {te ta tb : TE} {d : PyData} {ds es : List PyData} {tu : TS}
theorem evl_cat (ha : EvD K ta σ H (.list ds)) (hb : EvD K tb σ H (.list es)) (hl : ds.length + es.length ≤ 100000) : EvLD K (tOp (rCatX K) ta tb) σ H (ds ++ es) := fun H1 e Q q =>
  ha H1 e _ fun v H2 e2 dx => hb H2 (e.trans e2) _ fun w H3 e3 dy => by
    have dx := dp_ex e3 dx
    cases dx with
    | lst hs ha =>
      cases dy with
      | lst hs2 ha2 =>
        refine ⟨_, _, _, _, rfl, rfl, hs, hs2, by rw [dpa_len ha, dpa_len ha2]; exact Evl.sz_of hl, fun p hp => q _ _ (fresh_back (e2.trans e3) hp) ((e2.trans e3).trans (Ex.new hp)) ⟨_, upd_same, dpa_ex (Ex.new hp) (dpa_app ha ha2)⟩⟩
theorem sd_forNew {j : Nat} (h : EvLD K te σ H ds) (htd : tupAll ds = true) (Pv : Hp → Nat → L2.St → Hp → Prop) (h0 : ∀ H1, Ex H H1 → Pv H1 0 σ H1)
    (hl : ∀ H1 i σ' H', Ex H H1 → Pv H1 i σ' H' → Et H1 H' ∧ ∀ p xs, H p = none → H1 p = some (.lst xs) → H' p = some (.lst xs))
    (hs : ∀ H1 i d σ' H', Ex H H1 → ds[i]? = some d → Pv H1 i σ' H' → ∀ v, Dp K H' v d → tu { D with nx := Pv H1 (i + 1), ct := Pv H1 (i + 1), bk := D.nx } (σ'.set j (some v)) H')
    (hd : ∀ H1 σ' H', Ex H H1 → Pv H1 ds.length σ' H' → D.nx σ' H') : tFor (iList K te) (gName j) tu D σ H :=
  h H (Ex.refl H) _ fun p H1 hp e ⟨xs, hx, da⟩ => ⟨p, rfl, ⟨xs, .inl (.inl hx)⟩, for_list (Pv H1) (h0 H1 e) (fun i σ' H' _ pv => .inl (.inl ((hl H1 i σ' H' e pv).2 p xs hp hx)))
    (fun i x σ' H' hi pv => by
      obtain ⟨d, hd', dx⟩ := dpa_getV (dpa_et (hl H1 i σ' H' e pv).1 htd da) hi
      exact hs H1 i d σ' H' e hd' pv x dx)
    (fun σ' H' pv => hd H1 σ' H' e (by rw [← dpa_len da]; exact pv))⟩
theorem item_map {α : Type} {enc : α → PyData} {qs : List α} {i : Nat} {d : PyData} (h : (qs.map enc)[i]? = some d) : ∃ q, qs[i]? = some q ∧ d = enc q := by
  rw [List.getElem?_map] at h
  cases e : qs[i]? with
  | none => rw [e] at h; cases h
  | some q => rw [e] at h; exact ⟨q, rfl, (Option.some.inj h).symm⟩
theorem Em.ett {l : Addr} {H H' : Hp} {xs : List V} (hl : H l = some (.lst xs)) (m : Em l H H') : Et H H' := Em.et hl m
end
section
variable {P : Program} {w : World} {K : PySem.W.Frag} {mg : Str → Option Value} {base : Heap}
theorem ok_l_is_short (M : Md P K mg base) : Kn P w K mg base CX0 "_law_is_short" ["_law_one"] 3 (SpOf K (α := Rat) (fun a => [fr a]) (fun _ => True) (fun a => .bool (isShort a))) := by
  refine kn_mk M.d_l_is_short fun f fd F => okD F sc_l_is_short (fun _ => rfl) fun q0 cdv A outer s H vs E hr dv hs => ?_
  obtain ⟨v0, rfl, d0⟩ := dpa_one dv
  refine ⟨_, (pss_one (ps_ret (pe_and (pe_cmpR op_lt (pe_callB call_abs (by rfl) M.n_abs (by decide +kernel) (pa_cons (pe_ix ix_tup (pv 0) pe_int (fun _ _ => rfl)) pa_nil)) (pe_op op_pow pe_int pe_int) (nomark _)) (pe_one (pe_cmpR op_lt (pe_ix ix_tup (pv 0) pe_int (fun _ _ => rfl)) (pe_op op_pow pe_int pe_int) (nomark _)))))), fun Q q => ?_⟩
  refine sd_ret (K := K) (d := .bool (isShort q0)) ((evd_andV (evd_op (evd_cb (ead_cons (evd_num (evd_var rfl d0)) ead_nil) rc_abs) (evd_op (evd_int (i := 10)) (evd_int (i := 12)) (rd_I cpow12)) rd_B0) (fun _ => evd_op (evd_den (evd_var rfl d0)) (evd_op (evd_int (i := 10)) (evd_int (i := 12)) (rd_I cpow12)) rd_B0)).is ?_) fun v H1 e1 dv => q v H1 e1 dv
  unfold isShort
  show PyData.bool (decide (((q0.num.natAbs : Nat) : Int) < 10 ^ (12 : Int).toNat) && decide (((q0.den : Nat) : Int) < 10 ^ (12 : Int).toNat)) = _
  have e : (10 : Int) ^ (12 : Int).toNat = 1000000000000 := by decide +kernel
  rw [e]
  have h1 : decide (((q0.num.natAbs : Nat) : Int) < 1000000000000) = decide (q0.num.natAbs < 1000000000000) := decide_eq_decide.mpr (by omega)
  have h2 : decide (((q0.den : Nat) : Int) < 1000000000000) = decide (q0.den < 1000000000000) := decide_eq_decide.mpr (by omega)
  rw [h1, h2]
structure preLB (d : Deal) (p : Rat) : Prop where
  w : preWorths d p
  pos : 0 < p
  sz : ∀ x ∈ worthsAt d p ++ [d.money], okSz x p
theorem ok_l_behind (M : Md P K mg base) : Kn P w K mg base CX0 "_law_behind" ["_law_deal_here", "_law_price"] 40
    (SpOf K (α := Deal × Rat) (fun a => [dealD a.1, fr a.2]) (fun a => preLB a.1 a.2) (fun a => lawBehind a.1 a.2)) := by
  refine kn_mk M.d_l_behind fun f fd F => okD F sc_l_behind (fun _ => rfl) fun a cdv A outer s H vs E hr dv hs => ?_
  obtain ⟨d, p⟩ := a
  obtain ⟨v0, v1, rfl, d0, d1⟩ := dpa_two dv
  obtain ⟨hw, hpos, hsz⟩ : preLB d p := hs
  have hne : p ≠ 0 := by grind
  replace d0 : Dp K H v0 (dealD d) := d0
  replace d1 : Dp K H v1 (fr p) := d1
  refine ⟨_, (pss_cons (ps_par (i := 2) (j := 3) (by rfl) sc_l_behind.nd rfl rfl (by decide) rfl rfl (pa_cons (pe_kn (ok_l_worths M) hr (pa_cons (pv 0) (pa_cons (pv 1) pa_nil))) (pa_cons (pe_lst pa_nil) pa_nil)) (by rfl)) (pss_cons (ps_for PassesOwn.never rfl (pi_list (pe_op op_catX (pe_callTy call_list_of (by rfl) M.n_list (by decide +kernel) (pa_cons (pe_slice sl_tup (pv 2) po_none (po_some (pe_un un_neg pe_int))) pa_nil)) (pe_lst (pa_cons (pe_ix ix_tup (pv 0) pe_int (fun _ _ => rfl)) pa_nil)))) (pg_name (i := 4) sc_l_behind.nd rfl (Or.inl rfl)) (pss_one (ps_if (pt_cmpR op_gt (pe_ix ix_tup (pv 4) pe_int (fun _ _ => rfl)) pe_int (nomark _)) (pss_one (ps_expr (pe_bm PySem.F.plainAttrs_list PySem.F.slot_list_append PySem.F.type_list_append mt_append (pv 3) (pa_cons (pe_tup (pa_cons pe_str (pa_cons (pe_kn (ok_l_divided M) hr (pa_cons (pv 4) (pa_cons (pv 1) pa_nil))) pa_nil))) pa_nil)))) pss_nil))) (pss_one (ps_ret (pe_tup (pa_cons (pe_callTy call_tuple_of (by rfl) M.n_tuple (by decide +kernel) (pa_cons (pv 3) pa_nil)) (pa_cons (pe_kn (ok_l_divided M) hr (pa_cons (pe_ix ix_tup (pv 2) (pe_un un_neg pe_int) (fun _ _ => rfl)) (pa_cons (pv 1) pa_nil))) pa_nil))))))), fun Q q => ?_⟩
  replace q : ∀ v H', Ex H H' → Dp K H' v (lawBehind d p) → Q v H' := q
  have hn : d.things.length ≤ 100 := hw.len
  have hthl : (thingWs d p).length = d.things.length := by unfold thingWs; simp
  have hwl : (worthsAt d p).length = d.things.length + 1 := by unfold worthsAt; simp [hthl]
  refine sd_parR (d := .tuple ((worthsAt d p).map fr)) (evd_worths (evd_var rfl d0) (evd_var rfl d1) hw) fun v2 l H1 hl0 e1 hls d2 => ?_
  dsimp only
  have hcut : cutD ((worthsAt d p).map fr) none (some (-1)) = (thingWs d p).map fr := by
    unfold cutD
    rw [HT.sIx_none, List.drop_zero, Nat.sub_zero, List.length_map, hwl]
    have e : HT.sIx (d.things.length + 1) (d.things.length + 1) (some (-1)) = d.things.length := by
      show (if (-1 : Int) < 0 then (-1 + ((d.things.length + 1 : Nat) : Int)).toNat else min (-1 : Int).toNat (d.things.length + 1)) = d.things.length
      rw [if_pos (by decide)]; omega
    rw [e]
    unfold worthsAt
    rw [List.map_append, List.take_append_of_le_length (by simp [hthl]), List.take_of_length_le (by simp [hthl])]
  have hsz2 : ∀ x ∈ thingWs d p ++ [d.money], okSz x p := fun x hx => hsz x (by
    unfold worthsAt
    rcases List.mem_append.mp hx with h | h
    · exact List.mem_append_left _ (List.mem_append_left _ h)
    · exact List.mem_append_right _ h)
  have hpsz : okSz (poolW d p (thingWs d p).sum) p := hsz _ (by unfold worthsAt; simp)
  refine sd_forNew (ds := (thingWs d p ++ [d.money]).map fr) (j := 4) (h := ?_) (htd := tupAll_map to_fr _)
    (fun H2 i σ' H' => ∃ x, σ' = [some v0, some v1, some v2, some (.ref l), x] ∧ Em l H2 H' ∧ LS K H' l ((((((thingWs d p ++ [d.money]).take i).filter fun x => decide (0 < x)).map fun x => thD (.shares (x / p))))))
    (fun H2 e2 => ⟨none, rfl, Em.of (Ex.refl _), hls.ex e2⟩) (fun H2 i σ' H' e2 ⟨x, _, m, _⟩ => ?_) (fun H2 i dd σ' H' e2 hi ⟨x, hσ, m, hl'⟩ v dvv => ?_) (fun H2 σ' H' e2 ⟨x, hσ, m, hl'⟩ => ?_)
  · rw [List.map_append, ← hcut]
    refine evl_cat (evd_cb (ead_cons (evd_sliceT (evd_var rfl d2) evo_none (evo_some (K := K) (evd_un evd_int ru_neg)) ?_) ead_nil) rc_listT) (evd_lst (ead_cons (evd_deal (evd_var rfl (dp_ex e1 d0))).2.1 ead_nil) (by simp)) ?_
    · rw [List.length_map, hwl]
      show ¬ (_ ∧ (if (-1 : Int) < 0 then (-1 + ((d.things.length + 1 : Nat) : Int)).toNat else min (-1 : Int).toNat (d.things.length + 1)) = d.things.length + 1)
      rw [if_pos (by decide)]; omega
    · rw [hcut, List.length_map, hthl]; simp; omega
  · obtain ⟨xs, hx, _⟩ := hls.ex e2
    refine ⟨Em.et hx m, fun b ys hb h2 => m b _ (fun z => ?_) h2⟩
    obtain ⟨zs, hz, _⟩ := hls
    rw [z, hz] at hb; cases hb
  · subst hσ
    obtain ⟨x0, hx0, rfl⟩ := item_map hi
    have hx0m := List.mem_of_getElem? hx0
    obtain ⟨zs, hz, _⟩ := hls.ex e2
    have et := Em.et hz m
    have D1 : Dp K H' v1 (fr p) := dp_et et (to_fr p) (dp_ex (e1.trans e2) d1)
    have htk : (thingWs d p ++ [d.money]).take (i + 1) = (thingWs d p ++ [d.money]).take i ++ [x0] := by rw [List.take_add_one, hx0]; rfl
    have hlen : (((thingWs d p ++ [d.money]).take i).filter fun x => decide (0 < x)).length ≤ 200 := by
      have h1 := List.length_filter_le (fun x : Rat => decide (0 < x)) ((thingWs d p ++ [d.money]).take i)
      have h2 := List.length_take_le' i (thingWs d p ++ [d.money])
      rw [List.length_append, hthl] at h2
      have : ([d.money] : List Rat).length = 1 := rfl
      omega
    refine sd_if (b := decide (0 < x0)) (evb_is (evb_test (K := K) (evd_op (evd_num (evd_var rfl dvv)) evd_int rd_B0)) (decide_eq_decide.mpr (num_pos_iff x0))) (fun hb H3 e3 => ?_) (fun hb H3 e3 => ?_)
    · refine sd_app (K := K) (d := thD (.shares (x0 / p))) (hl'.ex e3) rfl (evd_tup (ead_cons evd_str (ead_cons (evd_qq (evd_var rfl (dp_ex e3 dvv)) (evd_var rfl (dp_ex e3 D1)) (And.intro (hsz2 x0 hx0m) hne)) ead_nil)) (by simp)) (tupAll_map (fun x : Rat => to_th (.shares (x / p))) _) (to_th _) (by rw [List.length_map]; omega) fun H4 m4 hls4 => ?_
      refine ⟨_, rfl, (m.trans (Em.of e3)).trans m4, ?_⟩
      rw [htk, List.filter_append, List.map_append]
      have hf : [x0].filter (fun x : Rat => decide (0 < x)) = [x0] := by simp [of_decide_eq_true hb]
      rw [hf]
      exact hls4
    · refine ⟨_, rfl, m.trans (Em.of e3), ?_⟩
      rw [htk, List.filter_append, List.map_append]
      have hf : [x0].filter (fun x : Rat => decide (0 < x)) = [] := by simp [of_decide_eq_false hb]
      rw [hf]
      simpa using hl'.ex e3
  · subst hσ
    rw [List.length_map, List.take_length] at hl'
    obtain ⟨zs, hz, _⟩ := hls.ex e2
    have et := Em.et hz m
    have D1 : Dp K H' v1 (fr p) := dp_et et (to_fr p) (dp_ex (e1.trans e2) d1)
    have D2 : Dp K H' v2 (.tuple ((worthsAt d p).map fr)) := dp_et et (by simp only [tupOnly]; exact tupAll_map to_fr _) (dp_ex e2 d2)
    have e0 : Ex H H' := Em.ex (Ex.trans e1 e2) hl0 m
    refine sd_ret (K := K) (d := lawBehind d p) ((evd_tup (ead_cons (evd_cb (ead_cons (evd_var rfl hl'.dp) ead_nil) rc_tupL) (ead_cons (evd_qq (evd_op (evd_var rfl D2) (evd_un evd_int ru_neg) (rd_ixT1 (d := fr (poolW d p (thingWs d p).sum)) ?_)) (evd_var rfl D1) (And.intro hpsz hne)) ead_nil)) (by simp)).is ?_) fun v H3 e3 dv => q v H3 (e0.trans e3) dv
    · unfold worthsAt; simp
    · unfold lawBehind
      rw [behind_eq hpos]
      unfold thsD
      rw [List.map_map, List.map_map]; rfl
end
end My
namespace My
structure SzDeal (d : Deal) : Prop where
  ok : DealOk d
  len : d.things.length ≤ 16
  th : ∀ t ∈ d.things, (∃ c, t = .shares c ∧ sz c ≤ 11000) ∨ ThSz 45 t
  money : sz d.money ≤ 45
  worth : sz d.worth ≤ 45
  count : sz d.count ≤ 11000
  part : sz d.part ≤ 8
theorem sz_sum {b : Nat} : ∀ {l : List Rat}, (∀ x ∈ l, sz x ≤ b) → sz l.sum ≤ l.length * (b + 1) + 1
  | [], _ => by rw [List.sum_nil, sz_zero]; simp
  | a :: t, h => by
    have h1 := h a List.mem_cons_self
    have h2 := sz_sum fun x hx => h x (List.mem_cons_of_mem _ hx)
    have h3 := sz_add a t.sum
    rw [List.sum_cons, List.length_cons, Nat.add_mul, Nat.one_mul]
    omega
theorem okTotal_of {b k : Nat} {l : List Rat} (h : ∀ x ∈ l, sz x ≤ b) (hl : l.length ≤ k) (hb : k * (b + 1) + 1 + b ≤ 100000000) : okTotal l := fun i q hq => by
  have h1 := h q (List.mem_of_getElem? hq)
  have h2 := sz_sum (l := l.take i) fun x hx => h x (List.mem_of_mem_take hx)
  have h3 : (l.take i).length ≤ k := Nat.le_trans (by rw [List.length_take]; omega) hl
  have h4 : (l.take i).length * (b + 1) ≤ k * (b + 1) := Nat.mul_le_mul_right _ h3
  unfold okSz
  omega
theorem sz_sum_le {b k : Nat} {l : List Rat} (h : ∀ x ∈ l, sz x ≤ b) (hl : l.length ≤ k) : sz l.sum ≤ k * (b + 1) + 1 := by
  have h2 := sz_sum h
  have h4 : l.length * (b + 1) ≤ k * (b + 1) := Nat.mul_le_mul_right _ hl
  omega
theorem prune_mem {sl : Rat} {p : Pt} : ∀ {t : List Pt} {k : Pt}, p ∈ prune sl k t → p ∈ t
  | [], _, h => by simp [prune] at h
  | a :: t, k, h => by
    rw [prune] at h
    split at h
    · exact List.mem_cons_of_mem _ (prune_mem h)
    · rcases List.mem_cons.mp h with rfl | h
      · exact List.mem_cons_self
      · exact List.mem_cons_of_mem _ (prune_mem h)
theorem prune_len {sl : Rat} : ∀ (t : List Pt) (k : Pt), (prune sl k t).length ≤ t.length
  | [], _ => by simp [prune]
  | a :: t, k => by
    rw [prune]
    split
    · have := prune_len (sl := sl) t k; rw [List.length_cons]; omega
    · have := prune_len (sl := sl) t a; rw [List.length_cons, List.length_cons]; omega
theorem mkCv_mem {cs : List Pt} {sl : Rat} {p : Pt} (h : p ∈ (mkCv cs sl).cs) : p ∈ cs := by
  cases cs with
  | nil => simp [mkCv] at h
  | cons a t =>
    rcases List.mem_cons.mp h with rfl | h
    · exact List.mem_cons_self
    · exact List.mem_cons_of_mem _ (prune_mem h)
theorem mkCv_len (cs : List Pt) (sl : Rat) : (mkCv cs sl).cs.length ≤ cs.length := by
  cases cs with
  | nil => simp [mkCv]
  | cons a t =>
    have := prune_len (sl := sl) t a
    show (a :: prune sl a t).length ≤ _
    rw [List.length_cons, List.length_cons]; omega
theorem mkCv_sl (cs : List Pt) (sl : Rat) : (mkCv cs sl).sl = sl := by
  cases cs <;> rfl
theorem cvsz_of {c : Cv} {f : Rat → Rat} {n : Nat} (h : Fits c f) (hp : ∀ p ∈ c.cs, sz p.1 ≤ n ∧ sz p.2 ≤ n) (hs : sz c.sl ≤ 4 * n + 2) : CvSz n c := by
  obtain ⟨p, r, e, _⟩ := h.zero
  exact ⟨by rw [e]; simp, h.seg.asc, hp, hs⟩
section
variable {d : Deal}
theorem SzDeal.thing (h : SzDeal d) {t : Th} (ht : t ∈ d.things) {p : Rat} {m : Nat} (hp : sz p ≤ m) : sz (thingW t p d.money) ≤ 11400 + m := by
  rcases h.th t ht with ⟨c, rfl, hc⟩ | hs
  · have := sz_mul c p
    show sz (c * p) ≤ _
    omega
  · have := sz_thingW (n := 45) (by decide) hs h.money hp
    omega
theorem SzDeal.sum (h : SzDeal d) {p : Rat} {m : Nat} (hp : sz p ≤ m) : sz (thingWs d p).sum ≤ 16 * (11401 + m) + 1 := by
  refine Nat.le_trans (sz_sum_le (b := 11400 + m) (k := 16) (fun x hx => ?_) ?_) (by omega)
  · obtain ⟨t, ht, rfl⟩ := List.mem_map.mp hx
    exact h.thing ht hp
  · unfold thingWs; rw [List.length_map]; exact h.len
theorem SzDeal.pool (h : SzDeal d) {p : Rat} {m : Nat} (hp : sz p ≤ m) : sz (poolW d p (thingWs d p).sum) ≤ 16 * (11401 + m) + m + 11100 := by
  have h1 := h.sum hp
  have h2 := sz_add (thingWs d p).sum d.money
  have h3 := sz_mul d.part ((thingWs d p).sum + d.money)
  have h4 := sz_sub 1 d.part
  rw [sz_one] at h4
  have h5 := sz_div (d.part * ((thingWs d p).sum + d.money)) (1 - d.part)
  have h6 := sz_mul p d.count
  have := h.money; have := h.part; have := h.count
  exact sz_rmax (by omega) (by omega)
theorem SzDeal.preTh (h : SzDeal d) {t : Th} (ht : t ∈ d.things) {p : Rat} {m : Nat} (hp : sz p ≤ m) (hm : m ≤ 1000000) : preThing t p d.money := by
  refine ⟨h.ok.things t ht, h.ok.money, 11000, m, by decide, ?_, by have := h.money; omega, hp, by omega⟩
  rcases h.th t ht with ⟨c, rfl, hc⟩ | hs
  · exact hc
  · cases t with
    | shares c => have : sz c ≤ 45 := hs; show sz c ≤ 11000; omega
    | kept c old => obtain ⟨a, b⟩ : sz c ≤ 45 ∧ sz old ≤ 45 := hs; exact ⟨by omega, by omega⟩
    | weighed c old thn => obtain ⟨a, b, e⟩ : sz c ≤ 45 ∧ sz old ≤ 45 ∧ sz thn ≤ 45 := hs; exact ⟨by omega, by omega, by omega⟩
    | note amt cap disc =>
      obtain ⟨a, b, e⟩ : sz amt ≤ 45 ∧ OptSz 45 cap ∧ OptSz 45 disc := hs
      exact ⟨by omega, fun q hq => by have := b q hq; omega, fun q hq => by have := e q hq; omega⟩
theorem SzDeal.worths (h : SzDeal d) {p : Rat} {m : Nat} (hp : sz p ≤ m) (hm : m ≤ 1000000) : ∀ x ∈ worthsAt d p ++ [d.money], sz x ≤ 18000000 := fun x hx => by
  unfold worthsAt at hx
  rcases List.mem_append.mp hx with hx | hx
  · rcases List.mem_append.mp hx with hx | hx
    · obtain ⟨t, ht, rfl⟩ := List.mem_map.mp hx
      have := h.thing ht hp; omega
    · rw [List.mem_singleton.mp hx]
      have := h.pool hp; omega
  · rw [List.mem_singleton.mp hx]
    have := h.money; omega
theorem SzDeal.worths' (h : SzDeal d) {p : Rat} {m : Nat} (hp : sz p ≤ m) (hm : m ≤ 20000) : ∀ x ∈ worthsAt d p, sz x ≤ 600000 := fun x hx => by
  unfold worthsAt at hx
  rcases List.mem_append.mp hx with hx | hx
  · obtain ⟨t, ht, rfl⟩ := List.mem_map.mp hx
    have := h.thing ht hp; omega
  · rw [List.mem_singleton.mp hx]
    have := h.pool hp; omega
theorem SzDeal.preW (h : SzDeal d) {p : Rat} {m : Nat} (hp : sz p ≤ m) (hm : m ≤ 20000) : preWorths d p ∧ okTotal (worthsAt d p) := by
  have hl : (thingWs d p).length ≤ 16 := by unfold thingWs; rw [List.length_map]; exact h.len
  have hs := h.sum hp
  have := h.part; have := h.money; have := h.count
  refine ⟨⟨fun t ht => h.preTh ht hp (by omega), by have := h.len; omega, okTotal_of (b := 11400 + m) (k := 16) (fun x hx => ?_) hl (by omega), ⟨by have := h.ok.part.2; grind, 11000, m, 16 * (11401 + m) + 1, by omega, by omega, by omega, hp, hs, by omega⟩⟩, okTotal_of (b := 600000) (k := 17) (h.worths' hp hm) ?_ (by omega)⟩
  · obtain ⟨t, ht, rfl⟩ := List.mem_map.mp hx
    exact h.thing ht hp
  · unfold worthsAt; rw [List.length_append]; simpa using hl
theorem SzDeal.worth0 (h : SzDeal d) {p : Rat} {m : Nat} (hp : sz p ≤ m) (hm : m ≤ 20000) : sz (worthAt d p) ≤ 12000000 := by
  rw [worthAt_eq]
  have h1 := h.sum hp
  have h2 := h.pool hp
  have h3 := sz_add (thingWs d p).sum (poolW d p (thingWs d p).sum)
  omega
theorem SzDeal.preC (h : SzDeal d) {t : Th} (ht : t ∈ d.things) : preThC t d.money := by
  obtain ⟨h1, h2, n, m, h3, h4, h5, h6, h7⟩ := h.preTh ht (p := 0) (m := 1) (by rw [sz_zero]; omega) (by omega)
  refine ⟨h1, h2, 11000, by decide, ?_, by have := h.money; omega, by omega⟩
  rcases h.th t ht with ⟨c, rfl, hc⟩ | hs
  · exact hc
  · cases t with
    | shares c => have : sz c ≤ 45 := hs; show sz c ≤ 11000; omega
    | kept c old => obtain ⟨a, b⟩ : sz c ≤ 45 ∧ sz old ≤ 45 := hs; exact ⟨by omega, by omega⟩
    | weighed c old thn => obtain ⟨a, b, e⟩ : sz c ≤ 45 ∧ sz old ≤ 45 ∧ sz thn ≤ 45 := hs; exact ⟨by omega, by omega, by omega⟩
    | note amt cap disc =>
      obtain ⟨a, b, e⟩ : sz amt ≤ 45 ∧ OptSz 45 cap ∧ OptSz 45 disc := hs
      exact ⟨by omega, fun q hq => by have := b q hq; omega, fun q hq => by have := e q hq; omega⟩
/-- a thing's curve: two corners at most, at small levels -/
theorem SzDeal.curve (h : SzDeal d) {t : Th} (ht : t ∈ d.things) : (thingCv t d.money).cs.length ≤ 2 ∧ (∀ p ∈ (thingCv t d.money).cs, sz p.1 ≤ 100 ∧ sz p.2 ≤ 11000) ∧ sz (thingCv t d.money).sl ≤ 11000 := by
  have one : ∀ {c : Rat}, sz c ≤ 11000 → (mkCv [(0, 0)] c).cs.length ≤ 2 ∧ (∀ p ∈ (mkCv [(0, 0)] c).cs, sz p.1 ≤ 100 ∧ sz p.2 ≤ 11000) ∧ sz (mkCv [(0, 0)] c).sl ≤ 11000 := fun {c} hc => by
    refine ⟨Nat.le_trans (mkCv_len _ _) (by simp), fun p hp => ?_, by rw [mkCv_sl]; exact hc⟩
    rw [List.mem_singleton.mp (mkCv_mem hp)]
    exact ⟨by rw [sz_zero]; omega, by rw [sz_zero]; omega⟩
  have two : ∀ {l y c : Rat}, sz l ≤ 100 → sz y ≤ 11000 → sz c ≤ 11000 → (mkCv [(0, 0), (l, y)] c).cs.length ≤ 2 ∧ (∀ p ∈ (mkCv [(0, 0), (l, y)] c).cs, sz p.1 ≤ 100 ∧ sz p.2 ≤ 11000) ∧ sz (mkCv [(0, 0), (l, y)] c).sl ≤ 11000 := fun {l y c} hl hy hc => by
    refine ⟨Nat.le_trans (mkCv_len _ _) (by simp), fun p hp => ?_, by rw [mkCv_sl]; exact hc⟩
    rcases List.mem_cons.mp (mkCv_mem hp) with rfl | hp
    · exact ⟨by rw [sz_zero]; omega, by rw [sz_zero]; omega⟩
    · rw [List.mem_singleton.mp hp]; exact ⟨hl, hy⟩
  have hm := h.money
  rcases h.th t ht with ⟨c, rfl, hc⟩ | hs
  · exact one hc
  · cases t with
    | shares c => have : sz c ≤ 45 := hs; exact one (by omega)
    | kept c old =>
      obtain ⟨a, b⟩ : sz c ≤ 45 ∧ sz old ≤ 45 := hs
      exact two (by omega) (by rw [sz_zero]; omega) (by omega)
    | weighed c old thn =>
      have hs' := hs
      obtain ⟨a, b, e⟩ : sz c ≤ 45 ∧ sz old ≤ 45 ∧ sz thn ≤ 45 := hs
      have h1 := sz_mul c old
      have h2 : sz (weighedW c old thn 0 d.money) ≤ 7 * 45 + 1 + 4 := sz_thingW (t := .weighed c old thn) (by decide) hs' hm (by rw [sz_zero]; omega)
      have h3 := sz_sub (c * old) (weighedW c old thn 0 d.money)
      exact two (by omega) (by omega) (by omega)
    | note amt cap disc =>
      obtain ⟨a, b, e⟩ : sz amt ≤ 45 ∧ OptSz 45 cap ∧ OptSz 45 disc := hs
      have h1 := sz_disc (by decide) e
      have h2 := sz_sub 1 (disc.getD 0)
      rw [sz_one] at h2
      cases cap with
      | none =>
        refine ⟨by show [((0 : Rat), (0 : Rat))].length ≤ 2; decide, fun p hp => ?_, by show sz 0 ≤ _; rw [sz_zero]; omega⟩
        rw [List.mem_singleton.mp hp]
        exact ⟨by rw [sz_zero]; omega, by rw [sz_zero]; omega⟩
      | some k =>
        have hk := b k rfl
        have h3 := sz_div k (1 - disc.getD 0)
        have h4 := sz_div amt k
        exact two (by omega) (by rw [sz_zero]; omega) (by omega)
/-- what a thing rises by to a small level -/
theorem SzDeal.rise (h : SzDeal d) {t : Th} (ht : t ∈ d.things) {p : Rat} (hp : sz p ≤ 100) : sz (thingW t p d.money - thingW t 0 d.money) ≤ 11101 := by
  rcases h.th t ht with ⟨c, rfl, hc⟩ | hs
  · have h1 := sz_mul c p
    show sz (c * p - c * 0) ≤ _
    rw [show c * p - c * 0 = c * p by grind]
    omega
  · have h1 := sz_thingW (n := 45) (by decide) hs h.money hp
    have h2 := sz_thingW (n := 45) (p := 0) (m := 1) (by decide) hs h.money (by rw [sz_zero]; omega)
    have h3 := sz_sub (thingW t p d.money) (thingW t 0 d.money)
    omega
theorem SzDeal.riseSum (h : SzDeal d) {p : Rat} (hp : sz p ≤ 100) : sz ((thingWs d p).sum - (thingWs d 0).sum) ≤ 177633 := by
  have e : (thingWs d p).sum - (thingWs d 0).sum = (d.things.map fun t => thingW t p d.money - thingW t 0 d.money).sum := (sum_sub_map _).symm
  rw [e]
  refine Nat.le_trans (sz_sum_le (b := 11101) (k := 16) (fun x hx => ?_) (by rw [List.length_map]; exact h.len)) (by decide)
  obtain ⟨t, ht, rfl⟩ := List.mem_map.mp hx
  exact h.rise ht hp
theorem levels_len (cvs : List Cv) {k n : Nat} (h1 : cvs.length ≤ k) (h2 : ∀ c ∈ cvs, c.cs.length ≤ n) : (levelsOf cvs).length ≤ 1 + k * n := by
  have h3 := inOrder_len (0 :: (cvs.map fun c => c.cs.map (·.1)).flatten)
  have h4 := flat_len h2
  have h5 : cvs.length * n ≤ k * n := Nat.mul_le_mul_right _ h1
  unfold levelsOf
  rw [List.length_cons] at h3
  omega
theorem levels_sz {cvs : List Cv} {n : Nat} (hn : 1 ≤ n) (h : ∀ c ∈ cvs, ∀ p ∈ c.cs, sz p.1 ≤ n) : ∀ x ∈ levelsOf cvs, sz x ≤ n := fun x hx => by
  rcases levels_of_mem hx with rfl | ⟨c, hc, p, hp, rfl⟩
  · rw [sz_zero]; exact hn
  · exact h c hc p hp
/-- a sum of curves: its corners -/
theorem added_mem {cvs : List Cv} {p : Pt} (h : p ∈ (addedUp cvs).cs) : p.1 ∈ levelsOf cvs := by
  obtain ⟨x, hx, rfl⟩ := List.mem_map.mp (mkCv_mem h)
  exact hx
theorem added_len (cvs : List Cv) : (addedUp cvs).cs.length ≤ (levelsOf cvs).length := by
  have := mkCv_len ((levelsOf cvs).map fun x => ((x, (cvs.map fun c => payAt c x).sum) : Pt)) (cvs.map (·.sl)).sum
  rw [List.length_map] at this
  exact this
theorem preCurve_of {cvs : List Cv} {n : Nat} (f : Rat → Rat) (h1 : (levelsOf cvs).length ≤ 50000) (h2 : ∀ x ∈ levelsOf cvs, sz x ≤ n ∧ sz (f x) ≤ n) (hn : 4 * n + 2 ≤ 100000000) : preCurve ((levelsOf cvs).map fun x => (x, f x)) := by
  have hne : levelsOf cvs ≠ [] := List.ne_nil_of_mem (levels_zero cvs)
  refine ⟨by simpa using hne, asc_map (inOrder_rise _) f, by rw [List.length_map]; exact h1, n, fun p hp => ?_, hn⟩
  obtain ⟨x, hx, rfl⟩ := List.mem_map.mp hp
  exact h2 x hx
end
end My
namespace My
section
variable {d : Deal}
abbrev tcs (d : Deal) : List Cv := d.things.map fun t => thingCv t d.money
theorem SzDeal.tcLev (h : SzDeal d) : ∀ x ∈ levelsOf (tcs d), 0 ≤ x ∧ sz x ≤ 100 := fun x hx => by
  refine ⟨?_, levels_sz (by decide) (fun c hc p hp => ?_) x hx⟩
  · rcases levels_of_mem hx with rfl | ⟨c, hc, p, hp, rfl⟩
    · grind
    · obtain ⟨t, ht, rfl⟩ := List.mem_map.mp hc
      exact (thingCv_fits (h.ok.things t ht) h.ok.money).nonneg p hp
  · obtain ⟨t, ht, rfl⟩ := List.mem_map.mp hc
    exact ((h.curve ht).2.1 p hp).1
theorem SzDeal.tcLen (h : SzDeal d) : (levelsOf (tcs d)).length ≤ 33 :=
  levels_len (k := 16) (n := 2) _ (by rw [List.length_map]; exact h.len) fun c hc => by
    obtain ⟨t, ht, rfl⟩ := List.mem_map.mp hc
    exact (h.curve ht).1
theorem SzDeal.tcPay (h : SzDeal d) {x : Rat} (hx : 0 ≤ x) : ((tcs d).map fun c => payAt c x) = d.things.map fun t => thingW t x d.money - thingW t 0 d.money := by
  rw [List.map_map]
  exact List.map_congr_left fun t ht => (thingCv_fits (h.ok.things t ht) h.ok.money).pay hx
theorem SzDeal.tcSum (h : SzDeal d) {x : Rat} (hx : 0 ≤ x) : ((tcs d).map fun c => payAt c x).sum = (thingWs d x).sum - (thingWs d 0).sum := by
  rw [h.tcPay hx, sum_sub_map]; rfl
theorem SzDeal.tcCv (h : SzDeal d) {t : Th} (ht : t ∈ d.things) : CvSz 11000 (thingCv t d.money) :=
  cvsz_of (thingCv_fits (h.ok.things t ht) h.ok.money) (fun p hp => ⟨by have := ((h.curve ht).2.1 p hp).1; omega, ((h.curve ht).2.1 p hp).2⟩) (by have := (h.curve ht).2.2; omega)
theorem SzDeal.add1 (h : SzDeal d) : preAdd (tcs d) where
  ne := by
    obtain ⟨c, _, hm⟩ := h.ok.some
    exact List.ne_nil_of_mem (List.mem_map_of_mem hm)
  lv := ⟨by rw [List.length_map]; have := h.len; omega, fun c hc => by
      obtain ⟨t, ht, rfl⟩ := List.mem_map.mp hc
      have := (h.curve ht).1; omega, 100, by decide, fun c hc p hp => by
      obtain ⟨t, ht, rfl⟩ := List.mem_map.mp hc
      exact ((h.curve ht).2.1 p hp).1, by decide⟩
  pay x hx := by
    obtain ⟨h0, h1⟩ := h.tcLev x hx
    refine ⟨fun c hc => ?_, ?_⟩
    · obtain ⟨t, ht, rfl⟩ := List.mem_map.mp hc
      obtain ⟨p, hp, e⟩ := (thingCv_fits (h.ok.things t ht) h.ok.money).at0
      exact ⟨by have := (h.curve ht).1; omega, ⟨p, hp, by rw [e]; exact h0⟩, 11000, 100, h.tcCv ht, h1, by decide⟩
    · rw [h.tcPay h0]
      refine okTotal_of (b := 11101) (k := 16) (fun y hy => ?_) (by rw [List.length_map]; exact h.len) (by decide)
      obtain ⟨t, ht, rfl⟩ := List.mem_map.mp hy
      exact h.rise ht h1
  sl := okTotal_of (b := 11000) (k := 16) (fun y hy => by
      rw [List.map_map] at hy
      obtain ⟨t, ht, rfl⟩ := List.mem_map.mp hy
      exact (h.curve ht).2.2) (by rw [List.length_map, List.length_map]; exact h.len) (by decide)
  cv := by
    refine preCurve_of (n := 177633) (fun x => ((tcs d).map fun c => payAt c x).sum) (by have := h.tcLen; omega) (fun x hx => ?_) (by decide)
    obtain ⟨h0, h1⟩ := h.tcLev x hx
    refine ⟨by omega, ?_⟩
    rw [h.tcSum h0]
    exact h.riseSum h1
theorem SzDeal.thingsMem (h : SzDeal d) : ∀ p ∈ (thingsCv d).cs, 0 ≤ p.1 ∧ sz p.1 ≤ 100 ∧ sz p.2 ≤ 177633 := fun p hp => by
  obtain ⟨h0, h1⟩ := h.tcLev p.1 (added_mem hp)
  refine ⟨h0, h1, ?_⟩
  rw [(thingsCv_fits h.ok).seg.on p hp]
  exact h.riseSum h1
theorem SzDeal.thingsLen (h : SzDeal d) : (thingsCv d).cs.length ≤ 33 := Nat.le_trans (added_len _) h.tcLen
theorem SzDeal.thingsSl (h : SzDeal d) : sz (thingsCv d).sl ≤ 176017 := by
  have e : (thingsCv d).sl = ((tcs d).map (·.sl)).sum := mkCv_sl _ _
  rw [e]
  refine Nat.le_trans (sz_sum_le (b := 11000) (k := 16) (fun y hy => ?_) (by rw [List.length_map, List.length_map]; exact h.len)) (by decide)
  rw [List.map_map] at hy
  obtain ⟨t, ht, rfl⟩ := List.mem_map.mp hy
  exact (h.curve ht).2.2
theorem SzDeal.kappa (h : SzDeal d) : sz (1 / (1 - d.part)) ≤ 11 := by
  have h1 := sz_sub 1 d.part
  have h2 := sz_div 1 (1 - d.part)
  rw [sz_one] at h1 h2
  have := h.part
  omega
theorem SzDeal.filledMem (h : SzDeal d) : ∀ p ∈ (filledCv d).cs, 0 ≤ p.1 ∧ sz p.1 ≤ 100 ∧ sz p.2 ≤ 177644 := fun p hp => by
  obtain ⟨q, hq, rfl⟩ := List.mem_map.mp (mkCv_mem hp)
  obtain ⟨h0, h1, h2⟩ := h.thingsMem q hq
  have := sz_mul q.2 (1 / (1 - d.part))
  have := h.kappa
  exact ⟨h0, h1, by show sz (q.2 * (1 / (1 - d.part))) ≤ _; omega⟩
theorem SzDeal.filledLen (h : SzDeal d) : (filledCv d).cs.length ≤ 33 := by
  refine Nat.le_trans (mkCv_len _ _) ?_
  rw [List.length_map]; exact h.thingsLen
theorem SzDeal.filledSl (h : SzDeal d) : sz (filledCv d).sl ≤ 176028 := by
  have e : (filledCv d).sl = (thingsCv d).sl * (1 / (1 - d.part)) := mkCv_sl _ _
  rw [e]
  have := sz_mul (thingsCv d).sl (1 / (1 - d.part))
  have := h.kappa; have := h.thingsSl
  omega
theorem SzDeal.filledCv' (h : SzDeal d) : CvSz 177644 (filledCv d) := cvsz_of (filledCv_fits h.ok) (fun p hp => by obtain ⟨_, a, b⟩ := h.filledMem p hp; omega) (by have := h.filledSl; omega)
theorem SzDeal.preSc (h : SzDeal d) : preScaled (thingsCv d) (1 / (1 - d.part)) := by
  have hk := h.kappa
  refine ⟨fun p hp => ?_, ?_, ?_⟩
  · obtain ⟨_, _, a⟩ := h.thingsMem p hp
    unfold okSz; omega
  · have := h.thingsSl
    unfold okSz; omega
  · obtain ⟨q, r, e, _⟩ := (thingsCv_fits h.ok).zero
    refine ⟨by rw [e]; simp, ?_, by rw [List.length_map]; have := h.thingsLen; omega, 177644, fun p hp => ?_, by decide⟩
    · have := (thingsCv_fits h.ok).seg.asc
      unfold Asc at this ⊢
      rw [List.pairwise_map]
      exact this
    · obtain ⟨q, hq, rfl⟩ := List.mem_map.mp hp
      obtain ⟨_, a, b⟩ := h.thingsMem q hq
      have := sz_mul q.2 (1 / (1 - d.part))
      exact ⟨by show sz q.1 ≤ _; omega, by show sz (q.2 * (1 / (1 - d.part))) ≤ _; omega⟩
theorem SzDeal.sum0 (h : SzDeal d) : sz (thingWs d 0).sum ≤ 5200 := by
  refine Nat.le_trans (sz_sum_le (b := 320) (k := 16) (fun x hx => ?_) (by unfold thingWs; rw [List.length_map]; exact h.len)) (by decide)
  obtain ⟨t, ht, rfl⟩ := List.mem_map.mp hx
  rcases h.th t ht with ⟨c, rfl, hc⟩ | hs
  · show sz (c * 0) ≤ _
    rw [Rat.mul_zero, sz_zero]; omega
  · have := sz_thingW (n := 45) (p := 0) (m := 1) (by decide) hs h.money (by rw [sz_zero]; omega)
    omega
theorem SzDeal.gap (h : SzDeal d) : sz (gapOf d) ≤ 5300 := by
  rw [gap_eq h.ok, (pool0 h.ok).1]
  have h1 := h.sum0
  have h2 := sz_add (thingWs d 0).sum d.money
  have h3 := sz_mul d.part ((thingWs d 0).sum + d.money)
  have h4 := sz_sub 1 d.part
  rw [sz_one] at h4
  have h5 := sz_div (d.part * ((thingWs d 0).sum + d.money)) (1 - d.part)
  have := h.part; have := h.money
  omega
abbrev line (d : Deal) : Cv := mkCv [(0, 0)] d.count
theorem SzDeal.twoLev (h : SzDeal d) : ∀ x ∈ levelsOf [thingsCv d, line d], 0 ≤ x ∧ sz x ≤ 100 := fun x hx => by
  have key : ∀ c ∈ [thingsCv d, line d], ∀ p ∈ c.cs, 0 ≤ p.1 ∧ sz p.1 ≤ 100 := fun c hc p hp => by
    simp only [List.mem_cons, List.not_mem_nil, or_false] at hc
    rcases hc with rfl | rfl
    · obtain ⟨a, b, _⟩ := h.thingsMem p hp
      exact ⟨a, b⟩
    · rw [List.mem_singleton.mp (mkCv_mem hp)]
      exact ⟨by show (0 : Rat) ≤ 0; grind, by show sz 0 ≤ 100; rw [sz_zero]; omega⟩
  refine ⟨?_, levels_sz (by decide) (fun c hc p hp => (key c hc p hp).2) x hx⟩
  rcases levels_of_mem hx with rfl | ⟨c, hc, p, hp, rfl⟩
  · grind
  · exact (key c hc p hp).1
theorem SzDeal.twoLen (h : SzDeal d) : (levelsOf [thingsCv d, line d]).length ≤ 67 :=
  levels_len (k := 2) (n := 33) _ (by simp) fun c hc => by
    simp only [List.mem_cons, List.not_mem_nil, or_false] at hc
    rcases hc with rfl | rfl
    · exact h.thingsLen
    · exact Nat.le_trans (mkCv_len _ _) (by simp)
theorem SzDeal.bareF (h : SzDeal d) {x : Rat} (h0 : 0 ≤ x) (h1 : sz x ≤ 100) : sz (payAt (thingsCv d) x) ≤ 177633 ∧ sz (payAt (line d) x) ≤ 11100 ∧ sz (([thingsCv d, line d].map fun c => payAt c x).sum) ≤ 188740 ∧ ([thingsCv d, line d].map fun c => payAt c x).sum = ((thingWs d x).sum - (thingWs d 0).sum) + d.count * x := by
  have e1 := (thingsCv_fits h.ok).pay h0
  have e2 := (fits_line d.count).pay h0
  have h2 := h.riseSum h1
  have h3 := sz_mul d.count x
  have h4 := sz_add ((thingWs d x).sum - (thingWs d 0).sum) (d.count * x)
  have := h.count
  have e3 : ([thingsCv d, line d].map fun c => payAt c x).sum = ((thingWs d x).sum - (thingWs d 0).sum) + d.count * x := by
    simp only [List.map_cons, List.map_nil, List.sum_cons, List.sum_nil]
    rw [e1, e2]; grind
  rw [e3, e1, e2]
  exact ⟨h2, by omega, by omega, rfl⟩
theorem SzDeal.thingsCv' (h : SzDeal d) : CvSz 177633 (thingsCv d) := cvsz_of (thingsCv_fits h.ok) (fun p hp => by obtain ⟨_, a, b⟩ := h.thingsMem p hp; omega) (by have := h.thingsSl; omega)
theorem SzDeal.lineCv (h : SzDeal d) : CvSz 11000 (line d) := cvsz_of (fits_line d.count) (fun p hp => by
  rw [List.mem_singleton.mp (mkCv_mem hp)]
  exact ⟨by show sz 0 ≤ _; rw [sz_zero]; omega, by show sz 0 ≤ _; rw [sz_zero]; omega⟩) (by rw [mkCv_sl]; have := h.count; omega)
theorem SzDeal.add2 (h : SzDeal d) : preAdd [thingsCv d, line d] where
  ne := by simp
  lv := ⟨by simp, fun c hc => by
      simp only [List.mem_cons, List.not_mem_nil, or_false] at hc
      rcases hc with rfl | rfl
      · have := h.thingsLen; omega
      · exact Nat.le_trans (mkCv_len _ _) (by simp), 100, by decide, fun c hc p hp => (h.twoLev _ (levels_mem hc hp)).2, by decide⟩
  pay x hx := by
    obtain ⟨h0, h1⟩ := h.twoLev x hx
    obtain ⟨b1, b2, b3, b4⟩ := h.bareF h0 h1
    refine ⟨fun c hc => ?_, ?_⟩
    · simp only [List.mem_cons, List.not_mem_nil, or_false] at hc
      rcases hc with rfl | rfl
      · obtain ⟨p, hp, e⟩ := (thingsCv_fits h.ok).at0
        exact ⟨by have := h.thingsLen; omega, ⟨p, hp, by rw [e]; exact h0⟩, 177633, 100, h.thingsCv', h1, by decide⟩
      · obtain ⟨p, hp, e⟩ := (fits_line d.count).at0
        exact ⟨Nat.le_trans (mkCv_len _ _) (by simp), ⟨p, hp, by rw [e]; exact h0⟩, 11000, 100, h.lineCv, h1, by decide⟩
    · refine okTotal_of (b := 177633) (k := 2) (fun y hy => ?_) (by simp) (by decide)
      simp only [List.map_cons, List.map_nil, List.mem_cons, List.not_mem_nil, or_false] at hy
      rcases hy with rfl | rfl
      · exact b1
      · omega
  sl := okTotal_of (b := 176017) (k := 2) (fun y hy => by
      simp only [List.map_cons, List.map_nil, List.mem_cons, List.not_mem_nil, or_false] at hy
      rcases hy with rfl | rfl
      · exact h.thingsSl
      · rw [mkCv_sl]; have := h.count; omega) (by simp) (by decide)
  cv := by
    refine preCurve_of (n := 188740) (fun x => ([thingsCv d, line d].map fun c => payAt c x).sum) (by have := h.twoLen; omega) (fun x hx => ?_) (by decide)
    obtain ⟨h0, h1⟩ := h.twoLev x hx
    exact ⟨by omega, (h.bareF h0 h1).2.2.1⟩
theorem SzDeal.bareMem (h : SzDeal d) : ∀ p ∈ (bareCv d).cs, 0 ≤ p.1 ∧ sz p.1 ≤ 100 ∧ sz p.2 ≤ 188740 := fun p hp => by
  obtain ⟨h0, h1⟩ := h.twoLev p.1 (added_mem hp)
  refine ⟨h0, h1, ?_⟩
  have e := (bareCv_fits h.ok).seg.on p hp
  have := (h.bareF h0 h1).2.2
  rw [e, ← this.2]; exact this.1
theorem SzDeal.bareLen (h : SzDeal d) : (bareCv d).cs.length ≤ 67 := Nat.le_trans (added_len _) h.twoLen
theorem SzDeal.bareSl (h : SzDeal d) : sz (bareCv d).sl ≤ 187100 := by
  have e : (bareCv d).sl = ([thingsCv d, line d].map (·.sl)).sum := mkCv_sl _ _
  rw [e]
  simp only [List.map_cons, List.map_nil, List.sum_cons, List.sum_nil]
  rw [mkCv_sl, Rat.add_zero]
  have := sz_add (thingsCv d).sl d.count
  have := h.thingsSl; have := h.count
  omega
theorem SzDeal.bareCv' (h : SzDeal d) : CvSz 188740 (bareCv d) := cvsz_of (bareCv_fits h.ok) (fun p hp => by obtain ⟨_, a, b⟩ := h.bareMem p hp; omega) (by have := h.bareSl; omega)
end
end My
namespace My
theorem weighed_lin {c old thn m p : Rat} (h : ¬ old ≤ p) : weighedW c old thn p m = c * old * (m * (1 / (thn * old + m))) + c * old * (thn * (1 / (thn * old + m))) * p := by
  unfold weighedW
  rw [if_neg h, div_eq_mul1 (thn * p + m)]; grind
theorem lin_small {t : Th} {m p : Rat} (hok : ThOk t) (hm : 0 ≤ m) (hs : ThSz 45 t) (hz : sz m ≤ 45) : ∃ al be, thingW t p m = al + be * p ∧ 0 ≤ al ∧ 0 ≤ be ∧ sz al ≤ 400 ∧ sz be ≤ 400 ∧ ∀ c, t = .shares c → be = c := by
  cases t with
  | shares c =>
    have h1 : 0 < c := hok
    have h2 : sz c ≤ 45 := hs
    exact ⟨0, c, by show c * p = 0 + c * p; grind, by grind, by grind, by rw [sz_zero]; omega, by omega, fun c' e => by cases e; rfl⟩
  | kept c old =>
    obtain ⟨h1, h2⟩ : 0 < c ∧ 0 < old := hok
    obtain ⟨h3, h4⟩ : sz c ≤ 45 ∧ sz old ≤ 45 := hs
    have h5 := sz_mul c old
    by_cases hp : p ≤ old
    · exact ⟨c * old, 0, by show c * rmax p old = _; rw [rmax_ge hp]; grind, mul_nn (by grind) (by grind), by grind, by omega, by rw [sz_zero]; omega, fun c' e => by cases e⟩
    · exact ⟨0, c, by show c * rmax p old = _; rw [rmax_le (by grind)]; grind, by grind, by grind, by rw [sz_zero]; omega, by omega, fun c' e => by cases e⟩
  | note amt cap disc =>
    obtain ⟨h1, h2, h3⟩ : 0 < amt ∧ (∀ k, cap = some k → 0 < k) ∧ ∀ e, disc = some e → 0 ≤ e ∧ e < 1 := hok
    obtain ⟨z1, z2, z3⟩ : sz amt ≤ 45 ∧ OptSz 45 cap ∧ OptSz 45 disc := hs
    obtain ⟨l1, l2⟩ := disc_lt h3
    have s1 := sz_disc (by decide) z3
    have s2 := sz_sub 1 (disc.getD 0)
    rw [sz_one] at s2
    have s3 := sz_div amt (1 - disc.getD 0)
    have hb : 0 ≤ amt / (1 - disc.getD 0) := div_nn (by grind) (by grind)
    cases cap with
    | none => exact ⟨amt / (1 - disc.getD 0), 0, by show amt / (1 - disc.getD 0) = _; grind, hb, by grind, by omega, by rw [sz_zero]; omega, fun c' e => by cases e⟩
    | some k =>
      have hk := h2 k rfl
      have s4 := z2 k rfl
      have s5 := sz_div amt k
      have e1 : p * amt / k = amt / k * p := by rw [div_eq_mul1, div_eq_mul1 amt]; grind
      by_cases hp : p * amt / k ≤ amt / (1 - disc.getD 0)
      · exact ⟨amt / (1 - disc.getD 0), 0, by show rmax _ (p * amt / k) = _; rw [rmax_le hp]; grind, hb, by grind, by omega, by rw [sz_zero]; omega, fun c' e => by cases e⟩
      · exact ⟨0, amt / k, by show rmax _ (p * amt / k) = _; rw [rmax_ge (by grind), e1]; grind, by grind, div_nn (by grind) (by grind), by rw [sz_zero]; omega, by omega, fun c' e => by cases e⟩
  | weighed c old thn =>
    obtain ⟨h1, h2, h3⟩ : 0 < c ∧ 0 < old ∧ 0 < thn := hok
    obtain ⟨z1, z2, z3⟩ : sz c ≤ 45 ∧ sz old ≤ 45 ∧ sz thn ≤ 45 := hs
    by_cases hp : old ≤ p
    · exact ⟨0, c, by show weighedW c old thn p m = _; unfold weighedW; rw [if_pos hp]; grind, by grind, by grind, by rw [sz_zero]; omega, by omega, fun c' e => by cases e⟩
    · have hq : 0 < thn * old + m := by have := Rat.mul_pos h3 h2; grind
      have hw := one_div_pos hq
      have a1 := sz_mul thn old
      have a2 := sz_add (thn * old) m
      have a3 := sz_div 1 (thn * old + m)
      rw [sz_one] at a3
      have a4 := sz_mul c old
      have a5 := sz_mul m (1 / (thn * old + m))
      have a6 := sz_mul (c * old) (m * (1 / (thn * old + m)))
      have a7 := sz_mul thn (1 / (thn * old + m))
      have a8 := sz_mul (c * old) (thn * (1 / (thn * old + m)))
      have n1 : 0 ≤ c * old := mul_nn (by grind) (by grind)
      exact ⟨_, _, weighed_lin hp, mul_nn n1 (mul_nn hm (by grind)), mul_nn n1 (mul_nn (by grind) (by grind)), by omega, by omega, fun c' e => by cases e⟩
theorem lin_list {m p : Rat} (hm : 0 ≤ m) (hz : sz m ≤ 45) : ∀ {ts : List Th}, (∀ t ∈ ts, ThOk t) → (∀ t ∈ ts, (∃ c, t = .shares c ∧ sz c ≤ 11000) ∨ ThSz 45 t) →
    ∃ A B, (ts.map fun t => thingW t p m).sum = A + B * p ∧ 0 ≤ A ∧ 0 ≤ B ∧ sz A ≤ ts.length * 401 + 1 ∧ sz B ≤ ts.length * 11001 + 1 ∧ ((∃ c, 0 < c ∧ Th.shares c ∈ ts) → 0 < B)
  | [], _, _ => ⟨0, 0, by simp; grind, by grind, by grind, by rw [sz_zero]; omega, by rw [sz_zero]; omega, fun ⟨c, _, h⟩ => by simp at h⟩
  | t :: ts, hok, hs => by
    obtain ⟨A, B, e, hA, hB, zA, zB, hp⟩ := lin_list (p := p) hm hz (fun u hu => hok u (List.mem_cons_of_mem _ hu)) fun u hu => hs u (List.mem_cons_of_mem _ hu)
    obtain ⟨al, be, e1, h1, h2, z1, z2, h3⟩ : ∃ al be, thingW t p m = al + be * p ∧ 0 ≤ al ∧ 0 ≤ be ∧ sz al ≤ 400 ∧ sz be ≤ 11000 ∧ ∀ c, t = .shares c → be = c := by
      rcases hs t List.mem_cons_self with ⟨c, rfl, hc⟩ | hsm
      · have h1 : 0 < c := hok _ List.mem_cons_self
        exact ⟨0, c, by show c * p = 0 + c * p; grind, by grind, by grind, by rw [sz_zero]; omega, hc, fun c' e => by cases e; rfl⟩
      · obtain ⟨al, be, a, b, c, d', e', f⟩ := lin_small (p := p) (hok t List.mem_cons_self) hm hsm hz
        exact ⟨al, be, a, b, c, d', by omega, f⟩
    have a1 := sz_add al A
    have a2 := sz_add be B
    refine ⟨al + A, be + B, by simp only [List.map_cons, List.sum_cons]; rw [e, e1]; grind, by grind, by grind, by rw [List.length_cons, Nat.add_mul]; omega, by rw [List.length_cons, Nat.add_mul]; omega, fun ⟨c, hc, hm'⟩ => ?_⟩
    rcases List.mem_cons.mp hm' with e2 | hm'
    · have := h3 c e2.symm; grind
    · have := hp ⟨c, hc, hm'⟩; grind
section
variable {d : Deal}
theorem SzDeal.lin (h : SzDeal d) (p : Rat) : ∃ A B, (thingWs d p).sum = A + B * p ∧ 0 ≤ A ∧ 0 < B ∧ sz A ≤ 6417 ∧ sz B ≤ 176017 := by
  obtain ⟨A, B, e, hA, hB, zA, zB, hp⟩ := lin_list (p := p) h.ok.money h.money h.ok.things h.th
  have hl := h.len
  have h1 : d.things.length * 401 ≤ 16 * 401 := Nat.mul_le_mul_right _ hl
  have h2 : d.things.length * 11001 ≤ 16 * 11001 := Nat.mul_le_mul_right _ hl
  exact ⟨A, B, e, hA, hp h.ok.some, by omega, by omega⟩
theorem SzDeal.level (h : SzDeal d) : ∃ l, reached (bareCv d) (gapOf d) = some l ∧ 0 ≤ l ∧ ((thingWs d l).sum - (thingWs d 0).sum) + d.count * l = gapOf d ∧ sz l ≤ 204000 := by
  obtain ⟨l, e, hl, hf, _⟩ := cut_level h.ok
  refine ⟨l, e, hl, hf, ?_⟩
  obtain ⟨A, B, e1, hA, hB, zA, zB⟩ := h.lin l
  rw [e1] at hf
  have hBc : 0 < B + d.count := by have := h.ok.count; grind
  have el : l = (gapOf d + (thingWs d 0).sum - A) / (B + d.count) := by
    have e2 := inv_mul1 (q := B + d.count) (by grind)
    rw [div_eq_mul1]
    generalize 1 / (B + d.count) = w at *
    have e3 : gapOf d + (thingWs d 0).sum - A = l * (B + d.count) := by grind
    rw [e3, Rat.mul_assoc, e2, Rat.mul_one]
  rw [el]
  have s1 := sz_add (gapOf d) (thingWs d 0).sum
  have s2 := sz_sub (gapOf d + (thingWs d 0).sum) A
  have s3 := sz_add B d.count
  have s4 := sz_div (gapOf d + (thingWs d 0).sum - A) (B + d.count)
  have := h.gap; have := h.sum0; have := h.count
  omega
theorem SzDeal.lowMem (h : SzDeal d) {l : Rat} (hl : sz l ≤ 204000) : ∀ p ∈ lowerCs (bareCv d) (gapOf d) l, sz p.1 ≤ 204000 ∧ sz p.2 ≤ 204000 := fun p hp => by
  unfold lowerCs at hp
  have z0 : sz (0 : Rat) ≤ 204000 := by rw [sz_zero]; omega
  rcases List.mem_append.mp hp with hp | hp
  · split at hp
    · rcases List.mem_cons.mp hp with rfl | hp
      · exact ⟨z0, z0⟩
      · rw [List.mem_singleton.mp hp]; exact ⟨hl, z0⟩
    · rw [List.mem_singleton.mp hp]; exact ⟨z0, z0⟩
  · obtain ⟨q, hq, rfl⟩ := List.mem_map.mp hp
    obtain ⟨_, a, b⟩ := h.bareMem q (List.mem_filter.mp hq).1
    have := sz_sub q.2 (gapOf d)
    have := h.gap
    exact ⟨by show sz q.1 ≤ _; omega, by show sz (q.2 - gapOf d) ≤ _; omega⟩
theorem lowerCs_len (c : Cv) (g l : Rat) : (lowerCs c g l).length ≤ 2 + c.cs.length := by
  unfold lowerCs
  rw [List.length_append, List.length_map]
  have := List.length_filter_le (fun p : Pt => decide (l < p.1)) c.cs
  split <;> simp <;> omega
theorem SzDeal.preL (h : SzDeal d) : preLow (bareCv d) (gapOf d) := by
  obtain ⟨l, e, hl, hf, hz⟩ := h.level
  refine ⟨⟨by have := h.bareLen; omega, 188740, 5300, h.bareCv', h.gap, by decide⟩, fun l' e' => ?_⟩
  rw [e] at e'
  cases e'
  obtain ⟨h1, r, h2⟩ := lowerCs_seg (bareCv_fits h.ok) hl hf
  refine ⟨fun p hp => ?_, by rw [h2]; simp, h1.asc, ?_, 204000, h.lowMem hz, by decide⟩
  · obtain ⟨_, a, b⟩ := h.bareMem p hp
    have := h.gap
    unfold okSz; omega
  · have := lowerCs_len (bareCv d) (gapOf d) l
    have := h.bareLen
    omega
theorem SzDeal.lowCv (h : SzDeal d) : CvSz 204000 (lowered (bareCv d) (gapOf d)) ∧ (lowered (bareCv d) (gapOf d)).cs.length ≤ 69 := by
  obtain ⟨l, e, hl, hf, hz⟩ := h.level
  have hlow : lowered (bareCv d) (gapOf d) = mkCv (lowerCs (bareCv d) (gapOf d) l) (bareCv d).sl := by unfold lowered; rw [e]
  rw [hlow]
  refine ⟨?_, ?_⟩
  · rw [← hlow]
    refine cvsz_of (lowered_fits h.ok) (fun p hp => ?_) ?_
    · rw [hlow] at hp
      exact h.lowMem hz p (mkCv_mem hp)
    · rw [hlow, mkCv_sl]
      have := h.bareSl; omega
  · have := mkCv_len (lowerCs (bareCv d) (gapOf d) l) (bareCv d).sl
    have := lowerCs_len (bareCv d) (gapOf d) l
    have := h.bareLen
    omega
theorem next_level (l : List Pt) (x : Rat) : ∃ y, x < y ∧ ∀ q ∈ l, q.1 ≤ x ∨ y ≤ q.1 := by
  induction l with
  | nil => exact ⟨x + 1, by grind, by simp⟩
  | cons a t ih =>
    obtain ⟨y, h1, h2⟩ := ih
    by_cases ha : x < a.1 ∧ a.1 < y
    · refine ⟨a.1, ha.1, fun q hq => ?_⟩
      rcases List.mem_cons.mp hq with rfl | hq
      · right; grind
      · rcases h2 q hq with h | h
        · exact .inl h
        · right; grind
    · refine ⟨y, h1, fun q hq => ?_⟩
      rcases List.mem_cons.mp hq with rfl | hq
      · by_cases hh : q.1 ≤ x
        · exact .inl hh
        · right; grind
      · exact h2 q hq
theorem Fits.rises_nn {c : Cv} {f : Rat → Rat} (h : Fits c f) (hm : ∀ x y, 0 ≤ x → x ≤ y → f x ≤ f y) {x : Rat} (hx : 0 ≤ x) : 0 ≤ risesAt c x := by
  obtain ⟨y, h1, h2⟩ := next_level c.cs x
  have h3 := h.rises hx h1 h2 y (by grind) (by grind)
  have h4 := hm x y hx (by grind)
  by_cases hr : 0 ≤ risesAt c x
  · exact hr
  · have := Rat.mul_lt_mul_of_pos_right (show risesAt c x < 0 by grind) (show 0 < y - x by grind)
    grind
theorem rises_cv0 (x : Rat) : risesAt cv0 x = 0 := by
  unfold risesAt slopeAt cv0
  split
  · rename_i h1 h2
    have : ixLe ⟨[(0, 0)], 0⟩ x + 1 < 1 := (List.getElem?_eq_some_iff.mp h2).1
    omega
  · rfl
theorem SzDeal.filled_mono (h : SzDeal d) : ∀ x y, 0 ≤ x → x ≤ y → ((thingWs d x).sum - (thingWs d 0).sum) * (1 / (1 - d.part)) ≤ ((thingWs d y).sum - (thingWs d 0).sum) * (1 / (1 - d.part)) := fun x y hx hxy => by
  have h1 := h.ok.mono hx hxy
  have h2 := one_div_pos (show 0 < 1 - d.part by have := h.ok.part.2; grind)
  exact Rat.mul_le_mul_of_nonneg_right (by grind) (by grind)
theorem SzDeal.noMeet (h : SzDeal d) {z : Rat} (hz : z ∈ meetings cv0 (filledCv d)) : False := by
  obtain ⟨x, hx, h1, _⟩ := meetGo_of hz
  have hx0 : 0 ≤ x := by
    rcases levels_of_mem hx with rfl | ⟨c, hc, p, hp, rfl⟩
    · grind
    · simp only [List.mem_cons, List.not_mem_nil, or_false] at hc
      rcases hc with rfl | rfl
      · exact fits_cv0.nonneg p hp
      · exact (filledCv_fits h.ok).nonneg p hp
  have e1 : more cv0 (filledCv d) x ≤ 0 := by
    unfold more
    rw [fits_cv0.pay hx0, (filledCv_fits h.ok).pay hx0]
    have := h.filled_mono 0 x (by grind) hx0
    grind
  have e2 : steeper cv0 (filledCv d) x ≤ 0 := by
    unfold steeper
    rw [rises_cv0]
    have := (filledCv_fits h.ok).rises_nn h.filled_mono hx0
    grind
  have := mul_nn (show 0 ≤ -more cv0 (filledCv d) x by grind) (show 0 ≤ -steeper cv0 (filledCv d) x by grind)
  grind
theorem greater_mem {a b : Cv} {p : Pt} (h : p ∈ (greaterOf a b).cs) : p.1 ∈ maxLevels a b ∧ p.2 = mx (payAt a p.1) (payAt b p.1) := by
  obtain ⟨x, hx, rfl⟩ := List.mem_map.mp (mkCv_mem h)
  exact ⟨hx, rfl⟩
theorem greater_sl (a b : Cv) : (greaterOf a b).sl = a.sl ∨ (greaterOf a b).sl = b.sl := by
  unfold greaterOf
  rw [mkCv_sl]
  split
  · exact .inl rfl
  · exact .inr rfl
theorem greater_len {a b : Cv} {n : Nat} (h : (levelsOf [a, b]).length ≤ n) : (greaterOf a b).cs.length ≤ 2 * n := by
  have h1 : (greaterOf a b).cs.length ≤ (maxLevels a b).length := by
    have := mkCv_len (maxCorners a b) (if isMine a b ((maxLevels a b).getLastD 0) then a.sl else b.sl)
    unfold maxCorners at this
    rw [List.length_map] at this
    exact this
  have h2 := inOrder_len (levelsOf [a, b] ++ meetings a b)
  rw [List.length_append] at h2
  have h3 : (meetings a b).length ≤ (levelsOf [a, b]).length := meetGo_len a b _
  unfold maxLevels at h1
  omega
theorem SzDeal.g0Lev (h : SzDeal d) : (levelsOf [cv0, filledCv d]).length ≤ 67 :=
  levels_len (k := 2) (n := 33) _ (by simp) fun c hc => by
    simp only [List.mem_cons, List.not_mem_nil, or_false] at hc
    rcases hc with rfl | rfl
    · show [((0 : Rat), (0 : Rat))].length ≤ 33; decide
    · exact h.filledLen
theorem SzDeal.g0Cv (h : SzDeal d) : CvSz 204000 (greaterOf cv0 (filledCv d)) ∧ (greaterOf cv0 (filledCv d)).cs.length ≤ 134 := by
  have hf := fits_greater fits_cv0 (filledCv_fits h.ok)
  refine ⟨cvsz_of hf (fun p hp => ?_) ?_, greater_len h.g0Lev⟩
  · obtain ⟨h1, h2⟩ := greater_mem hp
    have h0 := hf.nonneg p hp
    have hl : p.1 ∈ levelsOf [cv0, filledCv d] := by
      rcases maxLevels_mem.mp h1 with h3 | h3
      · exact h3
      · exact (h.noMeet h3).elim
    have hz : sz p.1 ≤ 100 := levels_sz (by decide) (fun c hc q hq => by
      simp only [List.mem_cons, List.not_mem_nil, or_false] at hc
      rcases hc with rfl | rfl
      · rw [List.mem_singleton.mp hq]; show sz 0 ≤ 100; rw [sz_zero]; omega
      · exact (h.filledMem q hq).2.1) _ hl
    refine ⟨by omega, ?_⟩
    rw [h2, fits_cv0.pay h0, (filledCv_fits h.ok).pay h0]
    have e1 := sz_mul ((thingWs d p.1).sum - (thingWs d 0).sum) (1 / (1 - d.part))
    have e2 := h.riseSum hz
    have e3 := h.kappa
    unfold mx
    split
    · rw [sz_zero]; omega
    · omega
  · have := h.filledSl
    rcases greater_sl cv0 (filledCv d) with e | e
    · rw [e]; show sz 0 ≤ _; rw [sz_zero]; omega
    · rw [e]; omega
theorem SzDeal.meet0 (h : SzDeal d) : preMeet cv0 (filledCv d) where
  len := ⟨by show [((0 : Rat), (0 : Rat))].length ≤ 300; decide, by have := h.filledLen; omega⟩
  za := fits_cv0.at0
  zb := (filledCv_fits h.ok).at0
  na := fits_cv0.nonneg
  nb := (filledCv_fits h.ok).nonneg
  siz := ⟨177644, cvsz_of fits_cv0 (fun p hp => by
    rw [List.mem_singleton.mp hp]
    exact ⟨by show sz 0 ≤ _; rw [sz_zero]; omega, by show sz 0 ≤ _; rw [sz_zero]; omega⟩) (by show sz 0 ≤ _; rw [sz_zero]; omega), h.filledCv', by decide, by decide⟩
theorem SzDeal.meet1 (h : SzDeal d) : preMeet (greaterOf cv0 (filledCv d)) (lowered (bareCv d) (gapOf d)) where
  len := ⟨by have := h.g0Cv.2; omega, by have := h.lowCv.2; omega⟩
  za := (fits_greater fits_cv0 (filledCv_fits h.ok)).at0
  zb := (lowered_fits h.ok).at0
  na := (fits_greater fits_cv0 (filledCv_fits h.ok)).nonneg
  nb := (lowered_fits h.ok).nonneg
  siz := ⟨204000, h.g0Cv.1, h.lowCv.1, by decide, by decide⟩
/-- sizes of the greater of two -/
theorem greater_sz {a b : Cv} {f : Rat → Rat} {n : Nat} (hf : Fits (greaterOf a b) f) (h : preMeet a b) (ha : CvSz n a) (hb : CvSz n b) (hn : 1 ≤ n) (hb2 : 12 * n + 2 * n + 20 ≤ 100000000) : CvSz (29 * n + 19) (greaterOf a b) := by
  refine cvsz_of hf (fun p hp => ?_) ?_
  · obtain ⟨h1, h2⟩ := greater_mem hp
    have h0 := hf.nonneg p hp
    have hz : sz p.1 ≤ 23 * n + 15 := by
      rcases maxLevels_mem.mp h1 with h3 | h3
      · have := (h.lev ha hb hn h3).2; omega
      · obtain ⟨x, hx, _, e⟩ := meetGo_of h3
        obtain ⟨hx0, hxz⟩ := h.lev ha hb hn hx
        obtain ⟨g1, g2⟩ := sz_more (prePart.ofMeet h ha hb hx0 hxz hb2) ha hb hxz
        rw [e]
        have g3 := sz_div (absR (more a b x)) (absR (steeper a b x))
        rw [sz_absR, sz_absR] at g3
        have g4 := sz_add x (absR (more a b x) / absR (steeper a b x))
        omega
    refine ⟨by omega, ?_⟩
    obtain ⟨q, hq, eq⟩ := h.za
    obtain ⟨r, hr, er⟩ := h.zb
    have p1 := sz_pay ha hz ⟨q, hq, by rw [eq]; exact h0⟩
    have p2 := sz_pay hb hz ⟨r, hr, by rw [er]; exact h0⟩
    rw [h2]
    unfold mx
    split <;> omega
  · have := ha.sl; have := hb.sl
    rcases greater_sl a b with e | e <;> rw [e] <;> omega
theorem SzDeal.preP (h : SzDeal d) : prePrice d := by
  have z0 : sz (0 : Rat) ≤ 1 := by rw [sz_zero]; omega
  have hw0 := h.preW (p := 0) (m := 1) z0 (by decide)
  have hs0 := h.sum0
  have hwz := h.worth0 (p := 0) (m := 1) z0 (by decide)
  have hp := h.part
  have hp1 := sz_sub 1 d.part
  rw [sz_one] at hp1
  refine ⟨⟨by have := h.ok.part.2; grind, ⟨by unfold okSz; rw [sz_one]; omega, by unfold okSz; rw [sz_one]; omega⟩, by have := h.len; omega, fun t ht => h.preC ht, h.add1, h.preSc, hw0, fun _ => by unfold okSz; omega, fun _ => h.add2, fun _ => h.preL, fun _ => ⟨h.meet0, h.meet1⟩⟩, by unfold okSz; have := h.worth; omega, fun _ => ?_⟩
  have hr : sz (riseOf d) ≤ 12000046 := by
    unfold riseOf
    have := sz_sub d.worth (worthAt d 0)
    have := h.worth
    omega
  unfold worthCv
  split
  · exact ⟨by have := h.filledLen; omega, 177644, 12000046, h.filledCv', hr, by decide⟩
  · have hl := levels2_len h.meet1
    refine ⟨by have := greater_len hl; omega, 29 * 204000 + 19, 12000046, greater_sz (fits_greater (fits_greater fits_cv0 (filledCv_fits h.ok)) (lowered_fits h.ok)) h.meet1 h.g0Cv.1 h.lowCv.1 (by decide) (by decide), hr, by decide⟩
theorem SzDeal.preB (h : SzDeal d) (hP : ∀ P, priceOf d = some P → sz P ≤ 11000) : preBehind d := by
  refine ⟨h.preP, fun hr => ?_⟩
  obtain ⟨P, e, h1, _⟩ := price_right h.ok hr
  have hz := hP P e
  refine ⟨P, e, (h.preW hz (by decide)).1, by grind, fun x hx => ?_⟩
  have := h.worths hz (by decide) x hx
  unfold okSz; omega
end
end My
namespace My
open PySem PySem.Spec PyProof.Rows L2
open Evl (Ex ex_l ex_t fresh_back)
abbrev intD (k : Nat) : PyData := .int (k : Nat)
/-- the bag at a: at most n have been drawn -/
def BagS (K : PySem.W.Frag) (H : Hp) (a : Addr) (n : Nat) : Prop := ∃ (x0 x1 x2 : Nat) (v3 : V) (cs : List Nat), H a = some (.lst [.int x0, .int x1, .int x2, v3]) ∧ x1 < 2147483648 ∧ x2 ≤ n ∧ cs.length ≤ 100 ∧ Dp K H v3 (.list (cs.map intD))
section
variable {K : PySem.W.Frag} {H H' : Hp} {a : Addr} {n m : Nat}
theorem BagS.mono (h : BagS K H a n) (hm : n ≤ m) : BagS K H a m := let ⟨x0, x1, x2, v3, cs, e, h1, h2, hc, h3⟩ := h; ⟨x0, x1, x2, v3, cs, e, h1, by omega, hc, h3⟩
theorem BagS.ex (e : Ex H H') (h : BagS K H a n) : BagS K H' a n := let ⟨x0, x1, x2, v3, cs, e1, h1, h2, hc, h3⟩ := h; ⟨x0, x1, x2, v3, cs, e _ _ e1, h1, h2, hc, dp_ex e h3⟩
theorem BagS.lst (h : BagS K H a n) : ∃ xs, H a = some (.lst xs) := let ⟨_, _, _, _, _, e, _⟩ := h; ⟨_, e⟩
theorem BagS.et (h : BagS K H a n) (m : Em a H H') : Et H H' := let ⟨xs, e⟩ := h.lst; Em.et e m
theorem tupAll_int (cs : List Nat) : tupAll (cs.map intD) = true := tupAll_map (enc := intD) (fun _ => rfl) cs
/-- the cells stay when the bag is written -/
theorem cells_em {x0 x1 x2 : Nat} {v3 : V} {cs : List Nat} (e : H a = some (.lst [.int x0, .int x1, .int x2, v3])) (h3 : Dp K H v3 (.list (cs.map intD))) (m : Em a H H') : Dp K H' v3 (.list (cs.map intD)) := by
  have et : Et H H' := Em.et e m
  cases h3 with
  | lst hs da =>
    rename_i b xs
    refine .lst ?_ (dpa_et et (tupAll_int cs) da)
    rcases hs with (hs | ⟨o, hs⟩) | hs
    · refine .inl (.inl (m b _ (fun eb => ?_) hs))
      rw [eb, e] at hs
      cases hs
      obtain ⟨d, hd, dx⟩ := dpa_getV (i := 3) da rfl
      obtain ⟨k, _, rfl⟩ := item_map hd
      cases dx
    · refine .inl (.inr ⟨o, m b _ (fun eb => ?_) hs⟩)
      rw [eb, e] at hs
      cases hs
    · exact .inr hs
/-- a list at b, other than the bag -/
theorem ls_em {b : Addr} {ds : List PyData} (et : Et H H') (m : Em a H H') (hb : b ≠ a) (td : tupAll ds = true) (h : LS K H b ds) : LS K H' b ds := let ⟨xs, e, da⟩ := h; ⟨xs, m b _ hb e, dpa_et et td da⟩
/-- all but the bag stays, and its cells stay the same list -/
structure Bm (a : Addr) (H H' : Hp) : Prop where
  em : Em a H H'
  cell : ∀ xs, H a = some (.lst xs) → ∃ ys, H' a = some (.lst ys) ∧ ys[3]? = xs[3]?
theorem Bm.of (e : Ex H H') : Bm a H H' := ⟨Em.of e, fun xs h => ⟨xs, e _ _ h, rfl⟩⟩
theorem Bm.trans {H1 H2 : Hp} (x : Bm a H H1) (y : Bm a H1 H2) : Bm a H H2 := ⟨x.em.trans y.em, fun xs h => let ⟨ys, h1, e1⟩ := x.cell xs h; let ⟨zs, h2, e2⟩ := y.cell ys h1; ⟨zs, h2, e2.trans e1⟩⟩
theorem Bm.upd {xs ys : List V} (h : H a = some (.lst xs)) (e : ys[3]? = xs[3]?) : Bm a H (upd H a (.lst ys)) := ⟨Em.upd, fun zs hz => ⟨ys, upd_same, by rw [h] at hz; cases hz; exact e⟩⟩
/-- the numbers of a bag -/
def BagN (H : Hp) (a : Addr) (n : Nat) : Prop := ∃ (x0 x1 x2 : Nat) (v3 : V), H a = some (.lst [.int x0, .int x1, .int x2, v3]) ∧ x1 < 2147483648 ∧ x2 ≤ n
theorem BagS.nums (h : BagS K H a n) : BagN H a n := let ⟨x0, x1, x2, v3, cs, e, h1, h2, _, _⟩ := h; ⟨x0, x1, x2, v3, e, h1, h2⟩
theorem bag_back (h : BagS K H a n) (m1 : Bm a H H') (hn : BagN H' a m) : BagS K H' a m := by
  obtain ⟨x0, x1, x2, v3, cs, e, h1, h2, hc, h3⟩ := h
  obtain ⟨y0, y1, y2, w3, e', g1, g2⟩ := hn
  obtain ⟨ys, hy, h4⟩ := m1.cell _ e
  rw [e'] at hy
  cases hy
  have hw : w3 = v3 := Option.some.inj h4
  subst hw
  exact ⟨y0, y1, y2, w3, cs, e', g1, g2, hc, cells_em e h3 m1.em⟩
def SpBag (K : PySem.W.Frag) (k : Nat) {α : Type} (ds : α → List PyData) (pre : α → Prop) (P : α → PyData → Prop) : Sp := fun vs H Q _ => ∃ (a : Addr) (x : α) (n : Nat) (ws : List V), vs = .ref a :: ws ∧ DpAll K H ws (ds x) ∧ pre x ∧ BagS K H a n ∧ n + k ≤ 1000000 ∧
  ∀ v d H', P x d → tupOnly d = true → Bm a H H' → BagS K H' a (n + k) → Dp K H' v d → Q v H'
/-- .. of a list -/
def SpBagL (K : PySem.W.Frag) (kk : List PyData → Nat) (pre : List PyData → Prop) (P : List PyData → V → Hp → Prop) : Sp := fun vs H Q _ => ∃ (a b : Addr) (ds : List PyData) (n : Nat), vs = [.ref a, .ref b] ∧ b ≠ a ∧ LS K H b ds ∧ tupAll ds = true ∧ pre ds ∧ BagS K H a n ∧ n + kk ds ≤ 1000000 ∧
  ∀ v H', P ds v H' → Bm a H H' → BagS K H' a (n + kk ds) → Q v H'
/-- evaluation that draws k times -/
def EvN (K : PySem.W.Frag) (a : Addr) (te : TE) (σ : L2.St) (H : Hp) (k : Nat) (P : PyData → Prop) : Prop := ∀ H1 n, Bm a H H1 → BagS K H1 a n → n + k ≤ 1000000 → ∀ Q : VK, (∀ v d H2, P d → tupOnly d = true → Bm a H1 H2 → BagS K H2 a (n + k) → Dp K H2 v d → Q v H2) → te σ H1 Q
def EvNs (K : PySem.W.Frag) (a : Addr) (ta : TA) (σ : L2.St) (H : Hp) (k : Nat) (P : List PyData → Prop) : Prop := ∀ H1 n, Bm a H H1 → BagS K H1 a n → n + k ≤ 1000000 → ∀ Q : List V → Hp → Prop, (∀ vs ds H2, P ds → tupAll ds = true → Bm a H1 H2 → BagS K H2 a (n + k) → DpAll K H2 vs ds → Q vs H2) → ta σ H1 Q
variable {σ : L2.St} {te : TE} {ta tr : TA} {k j : Nat} {P : PyData → Prop} {d : PyData} {Ps : List PyData → Prop} {D : Ends}
theorem EvN.em (h : EvN K a te σ H k P) (m : Bm a H H') : EvN K a te σ H' k P := fun H1 n m1 b hn Q q => h H1 n (m.trans m1) b hn Q q
theorem EvN.wk {P' : PyData → Prop} (h : EvN K a te σ H k P) (hp : ∀ d, P d → P' d) : EvN K a te σ H k P' := fun H1 n m1 b hn Q q => h H1 n m1 b hn Q fun v d H2 p => q v d H2 (hp d p)
/-- what does not draw -/
theorem evn_of (h : ∀ H1, Bm a H H1 → EvD K te σ H1 d) (t : tupOnly d = true) : EvN K a te σ H 0 (fun x => x = d) := fun H1 n m b _ Q q => h H1 m H1 (Ex.refl H1) Q fun v H2 e dv => q v d H2 rfl t (Bm.of e) (b.ex e) dv
theorem evn_int {i : Int} : EvN K a (tC (.int i)) σ H 0 (fun x => x = .int i) := evn_of (fun _ _ => evd_int) rfl
theorem evn_str {i : Str} : EvN K a (tC (.str i)) σ H 0 (fun x => x = .str i) := evn_of (fun _ _ => evd_str) rfl
theorem evn_non : EvN K a (tC .non) σ H 0 (fun x => x = .none) := evn_of (fun _ _ => evd_non) rfl
theorem evns_nil : EvNs K a tNil σ H 0 (fun ds => ds = []) := fun H1 n _ b _ Q q => q [] [] H1 rfl rfl (Bm.of (Ex.refl _)) b .nil
theorem evns_cons (h : EvN K a te σ H k P) (hr : EvNs K a tr σ H j Ps) : EvNs K a (tCons te tr) σ H (k + j) (fun ds => ∃ d ds', ds = d :: ds' ∧ P d ∧ Ps ds') := fun H1 n m b hn Q q =>
  h H1 n m b (by omega) _ fun v d H2 pd td m2 b2 dv => hr H2 (n + k) (m.trans m2) b2 (by omega) _ fun vs ds H3 pds tds m3 b3 dvs =>
    q (v :: vs) (d :: ds) H3 ⟨d, ds, rfl, pd, pds⟩ (by simp only [tupAll, td, tds, Bool.and_self]) (m2.trans m3) (by rw [← Nat.add_assoc]; exact b3) (.cons (dp_et (b2.et m3.em) td dv) dvs)
theorem evn_tup (h : EvNs K a ta σ H k Ps) (hl : ∀ ds, Ps ds → ds.length ≤ 1000) : EvN K a (tTup ta) σ H k (fun d => ∃ ds, d = .tuple ds ∧ Ps ds) := fun H1 n m b hn Q q =>
  h H1 n m b hn _ fun vs ds H2 p t m2 b2 dv => ⟨by rw [dpa_len dv]; exact Evl.sz_of (by have := hl ds p; omega), fun pa hp => q (.ref pa) (.tuple ds) _ ⟨ds, rfl, p⟩ t (m2.trans (Bm.of (Ex.new hp))) (b2.ex (Ex.new hp)) (.tup (.inl (.inl upd_same)) (dpa_ex (Ex.new hp) dv))⟩
/-- a call of what draws -/
theorem evn_callB {i : Nat} {α : Type} {ds : α → List PyData} {pre : α → Prop} {Pa : α → PyData → Prop} {E : XK} (hi : σ[i]? = some (some (.ref a))) (hr : EvNs K a tr σ H j Ps) (hp : ∀ es, Ps es → ∃ x, es = ds x ∧ pre x ∧ ∀ d, Pa x d → P d) :
    EvN K a (tCall (SpBag K k ds pre Pa) [] E (tCons (tVar i) tr)) σ H (j + k) P := fun H1 n m b hn Q q =>
  ⟨.ref a, hi, hr H1 n m b (by omega) _ fun vs es H2 pes tes m2 b2 dv => by
    obtain ⟨x, rfl, hx, hP⟩ := hp es pes
    show SpBag K k ds pre Pa (_ ++ []) H2 Q E
    rw [List.append_nil]
    exact ⟨a, x, n + j, vs, rfl, dv, hx, b2, by omega, fun v d H3 pd td m3 b3 dd => q v d H3 (hP d pd) td (m2.trans m3) (by rw [← Nat.add_assoc]; exact b3) dd⟩⟩
/-- a call of a def that does not draw -/
theorem evn_callD {α : Type} {ds : α → List PyData} {pre : α → Prop} {out : α → PyData} {E : XK} (hr : EvNs K a tr σ H j Ps) (ht : ∀ x, tupOnly (out x) = true) (hp : ∀ es, Ps es → ∃ x, es = ds x ∧ pre x ∧ P (out x)) : EvN K a (tCall (SpOf K ds pre out) [] E tr) σ H j P := fun H1 n m b hn Q q =>
  hr H1 n m b hn _ fun vs es H2 pes tes m2 b2 dv => by
    obtain ⟨x, rfl, hx, hP⟩ := hp es pes
    show SpOf K ds pre out (vs ++ []) H2 Q E
    rw [List.append_nil]
    exact ⟨x, dv, hx, fun v H3 e3 dz => q v (out x) H3 hP (ht x) (m2.trans (Bm.of e3)) (b2.ex e3) dz⟩
/-- _law_some(bag, [..]) -/
theorem evn_callL {i : Nat} {kk : List PyData → Nat} {pre : List PyData → Prop} {Pa : List PyData → V → Hp → Prop} {E : XK} (hi : σ[i]? = some (some (.ref a))) (hr : EvNs K a tr σ H j Ps) (hl : ∀ es, Ps es → es.length ≤ 1000) (hk : ∀ es, kk es = k)
    (hp : ∀ es, Ps es → tupAll es = true → pre es ∧ ∀ v H, Pa es v H → ∃ d, P d ∧ tupOnly d = true ∧ Dp K H v d) :
    EvN K a (tCall (SpBagL K kk pre Pa) [] E (tCons (tVar i) (tCons (tLst tr) tNil))) σ H (j + k) P := fun H1 n m b hn Q q =>
  ⟨.ref a, hi, hr H1 n m b (by omega) _ fun vs es H2 pes tes m2 b2 dv => ⟨by rw [dpa_len dv]; exact Evl.sz_of (by have := hl es pes; omega), fun p hp' => by
    obtain ⟨hpre, hP⟩ := hp es pes tes
    have hne : p ≠ a := fun e => by
      obtain ⟨xs, ex⟩ := b2.lst
      rw [e, ex] at hp'; cases hp'
    show SpBagL K kk pre Pa (_ ++ []) _ Q E
    rw [List.append_nil]
    have en : Ex H2 (upd H2 p (.lst vs)) := Ex.new hp'
    refine ⟨a, p, es, n + j, rfl, hne, ⟨vs, upd_same, dpa_ex en dv⟩, tes, hpre, b2.ex en, by rw [hk]; omega, fun v H3 pv m3 b3 => ?_⟩
    obtain ⟨d, pd, td, dd⟩ := hP v H3 pv
    rw [hk] at b3
    exact q v d H3 pd td ((m2.trans (Bm.of en)).trans m3) (by rw [← Nat.add_assoc]; exact b3) dd⟩⟩
theorem sn_set {i : Nat} {n : Nat} (h : EvN K a te σ H k P) (b : BagS K H a n) (hn : n + k ≤ 1000000) (q : ∀ v d H1, P d → tupOnly d = true → Bm a H H1 → BagS K H1 a (n + k) → Dp K H1 v d → D.nx (σ.set i (some v)) H1) : tAsg te (gName i) D σ H :=
  h H n (Bm.of (Ex.refl H)) b hn _ q
theorem sn_ret {n : Nat} (h : EvN K a te σ H k P) (b : BagS K H a n) (hn : n + k ≤ 1000000) (q : ∀ v d H1, P d → tupOnly d = true → Bm a H H1 → BagS K H1 a (n + k) → Dp K H1 v d → D.rt v H1) : tRet te D σ H :=
  h H n (Bm.of (Ex.refl H)) b hn _ q
theorem sn_par {i l n : Nat} {ta : TA} (h : EvNs K a ta σ H k Ps) (hP : ∀ ds, Ps ds → ∃ d e, ds = [d, e]) (b : BagS K H a n) (hn : n + k ≤ 1000000) (q : ∀ v w d e H1, Ps [d, e] → tupOnly d = true → tupOnly e = true → Bm a H H1 → BagS K H1 a (n + k) → Dp K H1 v d → Dp K H1 w e → D.nx ((σ.set i (some v)).set l (some w)) H1) : tPar i l ta D σ H :=
  h H n (Bm.of (Ex.refl H)) b hn _ fun vs ds H1 p t m b1 dv => by
    obtain ⟨d, e, rfl⟩ := hP ds p
    obtain ⟨v, w, rfl, d1, d2⟩ := dpa_two dv
    simp only [tupAll, Bool.and_eq_true] at t
    exact ⟨v, w, rfl, q v w d e H1 p t.1 t.2.1 m b1 d1 d2⟩
theorem evd_bag {l i : Nat} {vs : List V} {v : V} {d : PyData} (hi : σ[l]? = some (some (.ref a))) (hb : H a = some (.lst vs)) (hv : vs[i]? = some v) (hd : Dp K H v d) : EvD K (tOp (rIxL K) (tVar l) (tC (.int (i : Nat)))) σ H d := fun H1 e Q q =>
  ⟨.ref a, hi, a, vs, (i : Nat), v, rfl, rfl, .inl (.inl (e _ _ hb)), atI_nat hv, q v H1 (Ex.refl _) (dp_ex e hd)⟩
theorem ixN_nat {n i : Nat} (h : i < n) : ixN n (i : Nat) = some i := by
  unfold ixN
  simp [h]
/-- bag[i] = e -/
theorem sd_bagSet {l i : Nat} {vs : List V} (hi : σ[l]? = some (some (.ref a))) (hb : H a = some (.lst vs)) (hl : i < vs.length) (h : EvD K te σ H d) (q : ∀ v H1, Ex H H1 → Dp K H1 v d → D.nx σ (upd H1 a (.lst (vs.set i v)))) : tAsg te (gSub (tVar l) (tC (.int (i : Nat))) rSetL) D σ H :=
  h H (Ex.refl H) _ fun v H1 e dv => ⟨.ref a, hi, a, vs, (i : Nat), i, rfl, rfl, e _ _ hb, ixN_nat hl, q v H1 e dv⟩
end
section
variable {X : Cx}
/-- xs[i] of a list, i not below zero -/
theorem get_list : PGet X (fun x y H Q => ∃ p xs v, ∃ i : Nat, x = .ref p ∧ y = .int i ∧ SqL X.K H p xs ∧ xs[i]? = some v ∧ Q v H) := by
  intro pins s σ H o i ov iv Q I ro ri h
  obtain ⟨p, xs, v, k, rfl, rfl, hq, he, q⟩ := h
  cases ro
  obtain ⟨t, rfl⟩ := ri
  obtain ⟨its, r, pl, hz⟩ := I.list hq
  obtain ⟨w, ew, rw'⟩ := r.get he
  have hl := r.length
  have hn := line63
  have hk : k < xs.length := (List.getElem?_eq_some_iff.mp he).1
  exact wpAny_getItem_list pl.isList (by omega) (by omega) (by rw [Int.toNat_natCast]; simpa using ew) ⟨v, H, I, rw', q⟩
end
section
variable {K : PySem.W.Frag} {σ : L2.St} {H : Hp} {a : Addr} {D : Ends}
/-- bag[i] += 1 -/
theorem sd_bagInc {l i : Nat} {vs : List V} {x : Int} (hi : σ[l]? = some (some (.ref a))) (hb : H a = some (.lst vs)) (hv : vs[i]? = some (.int x)) (q : D.nx σ (upd H a (.lst (vs.set i (.int (x + 1)))))) :
    tAugS (tVar l) (tC (.int (i : Nat))) (tC (.int 1)) (fun x y H Q => ∃ p xs v, ∃ i : Nat, x = .ref p ∧ y = .int i ∧ SqL K H p xs ∧ xs[i]? = some v ∧ Q v H) (ipI fun i j => i + j) rSetL D σ H :=
  ⟨.ref a, hi, a, vs, .int x, i, rfl, rfl, .inl (.inl hb), hv, x, 1, rfl, rfl, a, vs, (i : Nat), i, rfl, rfl, hb, ixN_nat (List.getElem?_eq_some_iff.mp hv).1, q⟩
end
end My
namespace My
open PySem PySem.Spec PyProof.Rows L2
open Evl (Ex ex_l ex_t fresh_back)
theorem okB {P : Program} {w : World} {K : PySem.W.Frag} {mg : Str → Option Value} {base : Heap} {x qual : Str} {st : Stmt} {f : Addr} {fd : FuncData} {N ps : List Str} {k kk : Nat} {α : Type} {ds : α → List PyData} {pre : α → Prop} {Pa : α → PyData → Prop}
    (F : Fun K x qual st f fd) (S : FnScope N ps (defScope st)) (hl : ∀ y, (ds y).length + 1 = ps.length)
    (hbody : ∀ (a : Addr) (y : α) (n : Nat) (cdv : Value) (A : Around) (outer : List Env) (s : Shared) (H : Hp) (ws : List V) (E : XK), Room k (A.deeper (envOfC qual (defScope st) s.heap.objs.size f cdv)) → DpAll K H ws (ds y) → pre y → BagS K H a n → n + kk ≤ 1000000 →
      ∃ t, PSs (cxOf CX0 P w K mg base N qual (defScope st) f cdv A outer s H E).nox (defBody st) t ∧ ∀ Q : VK, (∀ v d H', Pa y d → tupOnly d = true → Bm a H H' → BagS K H' a (n + kk) → Dp K H' v d → Q v H') → t { nx := fun _ H' => Q .non H', rt := Q } (start N (.ref a :: ws)) H) :
    FnOk P w K mg base CX0 (k + 1) f fd ps (SpBag K kk ds pre Pa) := by
  refine F.ok S (fun vs H Q E h => ?_) (fun cdv A outer s H vs Q E hr h => ?_)
  · obtain ⟨a, y, n, ws, rfl, dv, _, _⟩ := h
    rw [List.length_cons, dpa_len dv, hl]
  · obtain ⟨a, y, n, ws, rfl, dv, hp, hb, hn, q⟩ := h
    obtain ⟨t, h1, h2⟩ := hbody a y n cdv A outer s H ws E hr dv hp hb hn
    exact ⟨t, h1, h2 Q q⟩
theorem okBL {P : Program} {w : World} {K : PySem.W.Frag} {mg : Str → Option Value} {base : Heap} {x qual : Str} {st : Stmt} {f : Addr} {fd : FuncData} {N ps : List Str} {k : Nat} {kk : List PyData → Nat} {pre : List PyData → Prop} {Pa : List PyData → V → Hp → Prop}
    (F : Fun K x qual st f fd) (S : FnScope N ps (defScope st)) (hl : 2 = ps.length)
    (hbody : ∀ (a b : Addr) (ds : List PyData) (n : Nat) (cdv : Value) (A : Around) (outer : List Env) (s : Shared) (H : Hp) (E : XK), Room k (A.deeper (envOfC qual (defScope st) s.heap.objs.size f cdv)) → b ≠ a → LS K H b ds → tupAll ds = true → pre ds → BagS K H a n → n + kk ds ≤ 1000000 →
      ∃ t, PSs (cxOf CX0 P w K mg base N qual (defScope st) f cdv A outer s H E).nox (defBody st) t ∧ ∀ Q : VK, (∀ v H', Pa ds v H' → Bm a H H' → BagS K H' a (n + kk ds) → Q v H') → t { nx := fun _ H' => Q .non H', rt := Q } (start N [.ref a, .ref b]) H) :
    FnOk P w K mg base CX0 (k + 1) f fd ps (SpBagL K kk pre Pa) := by
  refine F.ok S (fun vs H Q E h => ?_) (fun cdv A outer s H vs Q E hr h => ?_)
  · obtain ⟨a, b, ds, n, rfl, _⟩ := h
    exact hl
  · obtain ⟨a, b, ds, n, rfl, hne, hls, htd, hp, hb, hn, q⟩ := h
    obtain ⟨t, h1, h2⟩ := hbody a b ds n cdv A outer s H E hr hne hls htd hp hb hn
    exact ⟨t, h1, h2 Q q⟩
theorem fmod_natI {x m : Nat} : ((x : Int)).fmod (m : Int) = ((x % m : Nat) : Int) := fmod_nat x m
theorem cpow18 : CPow 10 18 := by unfold CPow; decide
theorem cmul_small {i j : Nat} (hi : i < 2 ^ 200) (hj : j < 2 ^ 200) : CMulX (i : Int) (j : Int) := by
  unfold CMulX
  rw [Int.natAbs_natCast, Int.natAbs_natCast]
  have h : ∀ x : Nat, x < 2 ^ 200 → x.log2 < 201 := fun x hx => by
    by_cases h0 : x = 0
    · subst h0; simp
    · exact Nat.lt_of_lt_of_le ((Nat.log2_lt h0).mpr hx) (by decide)
  have := h i hi
  have := h j hj
  omega
theorem sd_seqR {a b : TS} {D : Ends} {σ : L2.St} {H : Hp} (I : L2.St → Hp → Prop) (hr : ∀ σ' H', I σ' H' → b D σ' H') (ha : ∀ D' : Ends, D'.rt = D.rt → (∀ σ' H', I σ' H' → D'.nx σ' H') → a D' σ H) : tSeq a b D σ H := ha { D with nx := b D } rfl hr
section
variable {P : Program} {w : World} {K : PySem.W.Frag} {mg : Str → Option Value} {base : Heap}
abbrev spTake (K : PySem.W.Frag) : Sp := SpBag K 1 (α := Nat) (fun m => [.int (m : Nat)]) (fun m => 0 < m) (fun m d => ∃ j, j < m ∧ d = .int (j : Nat))
theorem ok_l_take (M : Md P K mg base) : Kn P w K mg base CX0 "_law_take" ["_law_bag_here", "_law_many"] 33 (spTake K) := by
  refine kn_mk M.d_l_take fun f fd F => okB F sc_l_take (fun _ => rfl) fun a m n cdv A outer s H ws E hr dv hm hbag hn => ?_
  obtain ⟨v1, rfl, d1⟩ := dpa_one dv
  cases d1
  refine ⟨_, (pss_cons (ps_if (pt_cmpR (op_eqD hr.units) (pe_ix ix_list (pv 0) pe_int (fun _ _ => rfl)) pe_int (nomark _)) (pss_cons (ps_set (i := 2) sc_l_take.nd rfl (.inl rfl) (pe_ix ix_list (pe_op op_catX (pe_slice sl_list (pe_ix ix_list (pv 0) pe_int (fun _ _ => rfl)) (po_some (pe_ix ix_list (pv 0) pe_int (fun _ _ => rfl))) po_none) (pe_lst (pa_cons pe_int pa_nil))) pe_int (fun _ _ => rfl))) (pss_cons (ps_augS (pv 0) pe_int get_list pe_int ip_add set_list) (pss_cons (ps_if (pt_cmpR op_ge (pv 2) (pe_op op_pow pe_int pe_int) (nomark _)) (pss_one (ps_asg (pv 2) (pg_sub (pv 0) pe_int set_list))) pss_nil) (pss_cons (ps_set (i := 3) sc_l_take.nd rfl (.inl rfl) (pe_op op_add (pe_op op_add (pe_op op_mulX (pe_ix ix_list (pv 0) pe_int (fun _ _ => rfl)) pe_int) (pe_op op_modN (pe_callTy call_int1 (by rfl) M.n_int (by decide +kernel) (pa_cons (pv 2) pa_nil)) pe_int)) (pe_op op_mulX pe_int (pe_ix ix_list (pv 0) pe_int (fun _ _ => rfl))))) (pss_one (ps_asg (pe_op op_modN (pe_callTy call_int1 (by rfl) M.n_int (by decide +kernel) (pa_cons (pv 3) pa_nil)) pe_int) (pg_sub (pv 0) pe_int set_list))))))) pss_nil) (pss_cons (ps_if (pt_cmpR op_gt (pe_ix ix_list (pv 0) pe_int (fun _ _ => rfl)) pe_int (nomark _)) (pss_cons (ps_set (i := 4) sc_l_take.nd rfl (.inl rfl) (pe_op op_modN (pe_callTy call_int1 (by rfl) M.n_int (by decide +kernel) (pa_cons (pe_ix ix_list (pv 0) pe_int (fun _ _ => rfl)) pa_nil)) (pv 1))) (pss_cons (ps_asg (pe_op (op_fdivX (BodyCx.of M rfl rfl) hr (by decide)) (pe_callTy call_int1 (by rfl) M.n_int (by decide +kernel) (pa_cons (pe_ix ix_list (pv 0) pe_int (fun _ _ => rfl)) pa_nil)) (pv 1)) (pg_sub (pv 0) pe_int set_list)) (pss_one (ps_ret (pv 4))))) pss_nil) (pss_cons (ps_set (i := 5) sc_l_take.nd rfl (.inl rfl) (pe_op op_modN (pe_callTy call_int1 (by rfl) M.n_int (by decide +kernel) (pa_cons (pe_op op_mulX (pe_op op_add (pe_ix ix_list (pv 0) pe_int (fun _ _ => rfl)) pe_int) pe_int) pa_nil)) pe_int)) (pss_cons (ps_set (i := 6) sc_l_take.nd rfl (.inl rfl) (pe_op op_modN (pe_callTy call_int1 (by rfl) M.n_int (by decide +kernel) (pa_cons (pe_op op_mulX (pe_op op_modN (pe_callTy call_int1 (by rfl) M.n_int (by decide +kernel) (pa_cons (pe_op op_mulX (pv 5) (pv 5)) pa_nil)) pe_int) pe_int) pa_nil)) pe_int)) (pss_one (ps_ret (pe_op op_modN (pe_callTy call_int1 (by rfl) M.n_int (by decide +kernel) (pa_cons (pe_op (op_fdivX (BodyCx.of M rfl rfl) hr (by decide)) (pv 6) pe_int) pa_nil)) (pv 1)))))))), fun Q q => ?_⟩
  replace q : ∀ (j : Nat) H', j < m → Bm a H H' → BagS K H' a (n + 1) → Q (.int (j : Nat)) H' := fun j H' hj em b => q _ _ H' ⟨j, hj, rfl⟩ rfl em b (.int _)
  have hm0 : (m : Int) ≠ 0 := by have : 0 < m := hm; omega
  have hmp : 0 < m := hm
  refine sd_seqR (fun σ' H' => (∃ x y u z t : Option V, σ' = [some (.ref a), some (.int m), x, y, u, z, t]) ∧ Bm a H H' ∧ BagS K H' a (n + 1)) ?_ ?_
  · rintro σ H' ⟨⟨x, y, u, z, t, rfl⟩, em, ⟨x0, x1, x2, v3, cs, hb, h1, h2, hc, h3⟩⟩
    refine sd_if (b := decide (x0 > 0)) (evb_is (evb_test (K := K) (evd_op (evd_bag (i := 0) rfl hb rfl (.int _)) evd_int rd_B0)) (by show decide (((x0 : Nat) : Int) > 0) = decide (x0 > 0); exact decide_eq_decide.mpr (by omega))) (fun hh H1 e1 => ?_) (fun hh H1 e1 => ?_)
    · try dsimp only
      refine sd_set (K := K) (d := .int ((x0 % m : Nat) : Int)) ((evd_op (evd_cb (ead_cons (evd_bag (i := 0) rfl (e1 _ _ hb) rfl (.int _)) ead_nil) rc_int) (evd_var rfl (.int _)) (rd_I hm0)).is (by rw [fmod_nat])) fun v H2 e2 dv => ?_
      cases dv
      dsimp only
      refine sd_bagSet (K := K) (i := 0) (d := .int ((x0 / m : Nat) : Int)) rfl ((e1.trans e2) _ _ hb) (by simp) ((evd_op (evd_cb (ead_cons (evd_bag (i := 0) rfl ((e1.trans e2) _ _ hb) rfl (.int _)) ead_nil) rc_int) (evd_var rfl (.int _)) (rd_I hm0)).is ?_) fun v H3 e3 dv => ?_
      · rw [Int.fdiv_eq_ediv_of_nonneg _ (by omega)]; rfl
      · cases dv
        have e13 := (e1.trans e2).trans e3
        refine sd_ret (K := K) (d := .int ((x0 % m : Nat) : Int)) (evd_var rfl (.int _)) fun v H4 e4 dv => ?_
        cases dv
        show Q _ _
        refine q _ H4 (Nat.mod_lt _ hmp) (((em.trans (Bm.of e13)).trans (Bm.upd (ys := [.int (x0 / m : Nat), .int x1, .int x2, v3]) (e13 _ _ hb) rfl)).trans (Bm.of e4)) ?_
        refine BagS.ex e4 ⟨x0 / m, x1, x2, v3, cs, upd_same, h1, h2, hc, cells_em (e13 _ _ hb) (dp_ex e13 h3) Em.upd⟩
    · dsimp only [tNext]
      refine sd_set (K := K) (d := .int ((((x1 + 1) * 39373) % 1000000007 : Nat) : Int)) (EvD.is (evd_op (evd_cb (ead_cons (evd_op (evd_op (evd_bag (i := 1) rfl (e1 _ _ hb) rfl (.int _)) evd_int rd_I0) evd_int (rd_I ?_)) ead_nil) rc_int) evd_int (rd_I (show (1000000007 : Int) ≠ 0 by decide))) ?_) fun v H2 e2 dv => ?_
      · exact cmul_small (i := x1 + 1) (j := 39373) (Nat.lt_of_lt_of_le (by omega : x1 + 1 < 2 ^ 40) (Nat.pow_le_pow_right (by decide) (by decide))) (Nat.lt_of_lt_of_le (by decide : 39373 < 2 ^ 40) (Nat.pow_le_pow_right (by decide) (by decide)))
      · exact congrArg PyData.int (fmod_nat ((x1 + 1) * 39373) 1000000007)
      · cases dv
        dsimp only
        have hg : ∀ x : Nat, x % 1000000007 < 2 ^ 200 := fun x => Nat.lt_of_lt_of_le (Nat.lt_trans (Nat.mod_lt x (by decide)) (by decide : 1000000007 < 2 ^ 40)) (Nat.pow_le_pow_right (by decide) (by decide))
        have hg2 : ∀ x : Nat, x % 998244353 < 2 ^ 200 := fun x => Nat.lt_of_lt_of_le (Nat.lt_trans (Nat.mod_lt x (by decide)) (by decide : 998244353 < 2 ^ 40)) (Nat.pow_le_pow_right (by decide) (by decide))
        generalize hxx : ((x1 + 1) * 39373) % 1000000007 = bg
        have hbg : bg < 2 ^ 200 := by rw [← hxx]; exact hg _
        refine sd_set (K := K) (d := .int ((((bg * bg) % 998244353 * 30011) % 998244353 : Nat) : Int)) (EvD.is (evd_op (evd_cb (ead_cons (evd_op (EvD.is (evd_op (evd_cb (ead_cons (evd_op (evd_var rfl (.int _)) (evd_var rfl (.int _)) (rd_I (cmul_small hbg hbg))) ead_nil) rc_int) evd_int (rd_I (show (998244353 : Int) ≠ 0 by decide))) (congrArg PyData.int (fmod_nat (bg * bg) 998244353))) evd_int (rd_I (cmul_small (j := 30011) (hg2 _) ?_))) ead_nil) rc_int) evd_int (rd_I (show (998244353 : Int) ≠ 0 by decide))) ?_) fun v H3 e3 dv => ?_
        · exact Nat.lt_of_lt_of_le (by decide : 30011 < 2 ^ 40) (Nat.pow_le_pow_right (by decide) (by decide))
        · exact congrArg PyData.int (fmod_nat ((bg * bg) % 998244353 * 30011) 998244353)
        · cases dv
          dsimp only
          generalize ((bg * bg) % 998244353 * 30011) % 998244353 = sc
          refine sd_ret (K := K) (d := .int ((sc / 7 % m : Nat) : Int)) (EvD.is (evd_op (evd_cb (ead_cons (EvD.is (x := .int ((sc / 7 : Nat) : Int)) (evd_op (evd_var rfl (.int _)) evd_int (rd_I (show (7 : Int) ≠ 0 by decide))) ?_) ead_nil) rc_int) (evd_var rfl (.int _)) (rd_I hm0)) (by rw [fmod_nat])) fun v H4 e4 dv => ?_
          · rw [Int.fdiv_eq_ediv_of_nonneg _ (by omega)]; rfl
          · cases dv
            show Q _ _
            have e14 := ((e1.trans e2).trans e3).trans e4
            exact q _ H4 (Nat.mod_lt _ hmp) (em.trans (Bm.of e14)) (BagS.ex e14 ⟨x0, x1, x2, v3, cs, hb, h1, h2, hc, h3⟩)
  · intro D' hD hN
    obtain ⟨x0, x1, x2, v3, cs, hb, h1, h2, hc, h3⟩ := hbag
    refine sd_if (b := decide (x0 = 0)) (evb_is (evb_test (K := K) (evd_op (evd_bag (i := 0) rfl hb rfl (.int _)) evd_int (rd_eqD (shaped_int _) (shaped_int _)))) (by rw [eqv_int]; exact decide_eq_decide.mpr (by omega))) (fun hh H1 e1 => ?_) (fun hh H1 e1 => ?_)
    · have hcell : ∃ k : Nat, (cutD (cs.map intD) (some ((x2 : Nat) : Int)) none ++ [.int 0])[0]? = some (intD k) := by
        cases hc : cutD (cs.map intD) (some ((x2 : Nat) : Int)) none with
        | nil => exact ⟨0, rfl⟩
        | cons d l =>
          have hm1 : d ∈ cs.map intD := by
            have : d ∈ cutD (cs.map intD) (some ((x2 : Nat) : Int)) none := by rw [hc]; exact List.mem_cons_self
            exact List.mem_of_mem_drop (List.mem_of_mem_take this)
          obtain ⟨k, _, rfl⟩ := List.mem_map.mp hm1
          exact ⟨k, rfl⟩
      obtain ⟨k, hk⟩ := hcell
      have hlen : (cutD (cs.map intD) (some ((x2 : Nat) : Int)) none).length + 1 ≤ 100000 := by
        unfold cutD
        rw [List.length_take, List.length_drop, List.length_map]
        omega
      refine sd_set (K := K) (d := intD k) (evd_op (evd_op (evd_sliceL (evd_bag (i := 3) rfl (e1 _ _ hb) rfl (dp_ex e1 h3)) (evo_some (K := K) (evd_bag (i := 2) rfl (e1 _ _ hb) rfl (.int _))) evo_none) (evd_lst (ead_cons evd_int ead_nil) (by simp)) (rd_catX hlen)) evd_int (rd_ixL (i := 0) hk)) fun v H2 e2 dv => ?_
      cases dv
      dsimp only
      have hb2 := (e1.trans e2) _ _ hb
      refine sd_bagInc (K := K) (i := 2) rfl hb2 rfl ?_
      dsimp only
      have et2 : Dp K H2 v3 (.list (cs.map intD)) := dp_ex (e1.trans e2) h3
      have em3 : Bm a H (upd H2 a (.lst [.int x0, .int x1, .int ((x2 : Int) + 1), v3])) := (Bm.of (e1.trans e2)).trans (Bm.upd (ys := [.int x0, .int x1, .int ((x2 : Int) + 1), v3]) hb2 rfl)
      have ev : ((x2 : Nat) : Int) + 1 = ((x2 + 1 : Nat) : Int) := by omega
      rw [ev] at em3 ⊢
      refine sd_seqR (fun σ' H' => σ' = [some (.ref a), some (.int m), some (.int k), none, none, none, none] ∧ Bm a H H' ∧ ∃ y0 : Nat, H' a = some (.lst [.int y0, .int x1, .int ((x2 + 1 : Nat) : Int), v3])) ?_ ?_
      · rintro σ' H' ⟨rfl, em, y0, hb4⟩
        have D3 : Dp K H' v3 (.list (cs.map intD)) := cells_em hb h3 em.em
        have hx2 : x2 + 1 ≤ 1000001 := by omega
        refine sd_set (K := K) (d := intD (x1 * 48271 + k % 2147483647 + 7919 * (x2 + 1))) (EvD.is (evd_op (evd_op (evd_op (evd_bag (i := 1) rfl hb4 rfl (.int _)) evd_int (rd_I (cmul_small (i := x1) (j := 48271) ?_ ?_))) (EvD.is (evd_op (evd_cb (ead_cons (evd_var rfl (.int _)) ead_nil) rc_int) evd_int (rd_I (show (2147483647 : Int) ≠ 0 by decide))) (congrArg PyData.int (fmod_nat k 2147483647))) rd_I0) (evd_op evd_int (evd_bag (i := 2) rfl hb4 rfl (.int _)) (rd_I (cmul_small (i := 7919) (j := x2 + 1) ?_ ?_))) rd_I0) ?_) fun v H5 e5 dv => ?_
        · exact Nat.lt_of_lt_of_le (by omega : x1 < 2 ^ 40) (Nat.pow_le_pow_right (by decide) (by decide))
        · exact Nat.lt_of_lt_of_le (by decide : 48271 < 2 ^ 40) (Nat.pow_le_pow_right (by decide) (by decide))
        · exact Nat.lt_of_lt_of_le (by decide : 7919 < 2 ^ 40) (Nat.pow_le_pow_right (by decide) (by decide))
        · exact Nat.lt_of_lt_of_le (by omega : x2 + 1 < 2 ^ 40) (Nat.pow_le_pow_right (by decide) (by decide))
        · exact congrArg PyData.int (by omega)
        · cases dv
          dsimp only
          generalize x1 * 48271 + k % 2147483647 + 7919 * (x2 + 1) = st
          refine sd_bagSet (K := K) (i := 1) (d := intD (st % 2147483647)) rfl (e5 _ _ hb4) (by simp) (EvD.is (evd_op (evd_cb (ead_cons (evd_var rfl (.int _)) ead_nil) rc_int) evd_int (rd_I (show (2147483647 : Int) ≠ 0 by decide))) (congrArg PyData.int (fmod_nat st 2147483647))) fun v H6 e6 dv => ?_
          cases dv
          refine hN _ _ ⟨⟨_, _, _, _, _, rfl⟩, (em.trans (Bm.of (e5.trans e6))).trans (Bm.upd (ys := [.int y0, .int (st % 2147483647 : Nat), .int ((x2 + 1 : Nat) : Int), v3]) ((e5.trans e6) _ _ hb4) rfl), ⟨y0, st % 2147483647, x2 + 1, v3, cs, upd_same, ?_, by omega, hc, cells_em ((e5.trans e6) _ _ hb4) (dp_ex (e5.trans e6) D3) Em.upd⟩⟩
          exact Nat.lt_trans (Nat.mod_lt _ (by decide)) (by decide)
      · intro D2 hD2 hN2
        refine sd_if (b := decide (((k : Nat) : Int) ≥ 10 ^ (18 : Int).toNat)) (evb_test (K := K) (evd_op (evd_var rfl (.int _)) (evd_op (evd_int (i := 10)) (evd_int (i := 18)) (rd_I cpow18)) rd_B0)) (fun hh H5 e5 => ?_) (fun hh H5 e5 => ?_)
        · refine sd_bagSet (K := K) (i := 0) (d := intD k) rfl (e5 _ _ upd_same) (by simp) (evd_var rfl (.int _)) fun v H6 e6 dv => ?_
          cases dv
          exact hN2 _ _ ⟨rfl, (em3.trans (Bm.of (e5.trans e6))).trans (Bm.upd (ys := [.int k, .int x1, .int ((x2 + 1 : Nat) : Int), v3]) ((e5.trans e6) _ _ upd_same) rfl), k, upd_same⟩
        · exact hN2 _ _ ⟨rfl, em3.trans (Bm.of e5), x0, e5 _ _ upd_same⟩
    · exact hN _ _ ⟨⟨_, _, _, _, _, rfl⟩, Bm.of e1, BagS.ex e1 ⟨x0, x1, x2, v3, cs, hb, h1, by omega, hc, h3⟩⟩
end
end My
namespace My
open PySem PySem.Spec PyProof.Rows L2
open Evl (Ex ex_l ex_t fresh_back)
def NumOk (q : Rat) : Prop := 0 < q ∧ q.num.natAbs * q.den < 1000000000000 ∧ q.den ≤ 1000
def DiscOk (q : Rat) : Prop := 0 ≤ q ∧ q < 1 ∧ q.den ≤ 100
def DrawnTh : Th → Prop
  | .shares c => NumOk c
  | .note amt cap disc => NumOk amt ∧ (∀ k, cap = some k → NumOk k) ∧ ∀ e, disc = some e → DiscOk e
  | .kept c old => NumOk c ∧ NumOk old
  | .weighed c old thn => NumOk c ∧ NumOk old ∧ NumOk thn
def Num0 (q : Rat) : Prop := q = 0 ∨ NumOk q
structure DrawnDeal (d : Deal) : Prop where
  worth : NumOk d.worth
  money : Num0 d.money
  things : ∀ t ∈ d.things, DrawnTh t
  len : d.things.length ≤ 6
  some : ∃ c, 0 < c ∧ Th.shares c ∈ d.things
  count : Num0 d.count
  part : DiscOk d.part
section
variable {K : PySem.W.Frag} {H H' H2 : Hp} {a l : Addr} {n n0 k j : Nat} {σ : L2.St} {D : Ends} {te : TE} {P : PyData → Prop}
theorem bag_upd {o : HO} (b0 : BagS K H a n0) (hl : H l = none) (m : Bm a H H2) (b : BagN H2 a n) : Bm a H (upd H2 l o) ∧ BagS K (upd H2 l o) a n := by
  have ne : a ≠ l := fun e => by
    obtain ⟨xs, h⟩ := b0.lst
    rw [e, hl] at h; cases h
  have m2 : Bm a H (upd H2 l o) := ⟨fun b u hb h => by rw [upd_ne (ne_of_none h hl)]; exact m.em b u hb h, fun xs h => by
    obtain ⟨ys, h1, h2⟩ := m.cell xs h
    exact ⟨ys, by rw [upd_ne ne]; exact h1, h2⟩⟩
  refine ⟨m2, bag_back b0 m2 ?_⟩
  obtain ⟨x0, x1, x2, v3, e, h1, h2⟩ := b
  exact ⟨x0, x1, x2, v3, by rw [upd_ne ne]; exact e, h1, h2⟩
theorem EvN.le (h : EvN K a te σ H k P) (hk : k ≤ j) : EvN K a te σ H j P := fun H1 n m b hn Q q => h H1 n m b (by omega) Q fun v d H2 p t m2 b2 => q v d H2 p t m2 (b2.mono (by omega))
/-- xs.append(e), e draws -/
theorem sn_app {i : Nat} {ds : List PyData} (b0 : BagS K H a n0) (hl : H l = none) (m0 : Bm a H H') (b : BagS K H' a n) (hn : n + k ≤ 1000000) (hls : LS K H' l ds) (hi : σ[i]? = some (some (.ref l))) (h : EvN K a te σ H' k P) (td : tupAll ds = true) (hz : ds.length ≤ 90000)
    (q : ∀ d H1, P d → tupOnly d = true → Bm a H H1 → BagS K H1 a (n + k) → LS K H1 l (ds ++ [d]) → D.nx σ H1) :
    tDrop (tBM K "list" rAppend (tVar i) (tCons te tNil)) D σ H' := by
  obtain ⟨xs, hA, dA⟩ := id hls
  have ne : l ≠ a := fun e => by
    obtain ⟨xs, h⟩ := b0.lst
    rw [← e, hl] at h; cases h
  refine ⟨.ref l, hi, .inl ⟨rfl, _, .inl (.inl hA)⟩, ?_⟩
  refine h H' n (Bm.of (Ex.refl _)) b hn _ fun v d H1 pd tv m1 b1 dv => ?_
  have et := b.et m1.em
  refine ⟨l, xs, v, rfl, rfl, m1.em _ _ ne hA, Evl.sz_lt (by rw [dpa_len dA]; omega), ?_⟩
  obtain ⟨m2, b2⟩ := bag_upd (o := .lst (xs ++ [v])) b0 hl (m0.trans m1) b1.nums
  exact q d _ pd tv m2 b2 (ls_app (m1.em _ _ ne hA) (dpa_et et td dA) td tv dv)
end
theorem sd_retNewL {K : PySem.W.Frag} {ta : TA} {σ : L2.St} {H : Hp} {D : Ends} {ds : List PyData} (h : EvAs K ta σ H ds) (hl : ds.length ≤ 1000) (k : ∀ p H1 vs, H1 p = none → Ex H H1 → DpAll K H1 vs ds → D.rt (.ref p) (upd H1 p (.lst vs))) : tRet (tLst ta) D σ H :=
  h H (Ex.refl H) _ fun vs H1 e dv => ⟨by rw [dpa_len dv]; exact Evl.sz_of (by omega), fun p hp => k p H1 vs hp e dv⟩
section
variable {P : Program} {w : World} {K : PySem.W.Frag} {mg : Str → Option Value} {base : Heap}
abbrev spSome (K : PySem.W.Frag) : Sp := SpBagL K (fun _ => 1) (fun ds => ds ≠ [] ∧ ds.length ≤ 1000) (fun ds v H => ∃ d ∈ ds, Dp K H v d)
theorem evn_take {a : Addr} {te : TE} {σ : L2.St} {H : Hp} {i m : Nat} {E : XK} (hi : σ[i]? = some (some (.ref a))) (h : ∀ H1, Bm a H H1 → EvD K te σ H1 (.int (m : Nat))) (hm : 0 < m) : EvN K a (tCall (spTake K) [] E (tCons (tVar i) (tCons te tNil))) σ H 1 (fun d => ∃ j, j < m ∧ d = .int (j : Nat)) :=
  evn_callB hi (evns_cons (evn_of h rfl) evns_nil) fun es he => by
    obtain ⟨d, ds', rfl, rfl, rfl⟩ := he
    exact ⟨m, rfl, hm, fun d hd => hd⟩
theorem ok_l_some (M : Md P K mg base) : Kn P w K mg base CX0 "_law_some" ["_law_bag_here", "_law_things"] 34 (spSome K) := by
  refine kn_mk M.d_l_some fun f fd F => okBL F sc_l_some rfl fun a b ds n cdv A outer s H E hr hne hls htd hp hb hn => ?_
  obtain ⟨hd0, hd1⟩ := hp
  refine ⟨_, (pss_one (ps_ret (pe_ix ix_list (pv 1) (pe_kn (ok_l_take M) hr (pa_cons (pv 0) (pa_cons (pe_callB call_len_seq (by rfl) M.n_len PySem.boot_len (pa_cons (pv 1) pa_nil)) pa_nil))) (fun _ _ => rfl)))), fun Q q => ?_⟩
  have hlen : 0 < ds.length := List.length_pos_iff.mpr hd0
  have hN := evn_take (K := K) (a := a) (te := tCB (rLenK K) (tCons (tVar 1) tNil)) (σ := [some (.ref a), some (.ref b)]) (H := H) (i := 0) (m := ds.length) (E := E0) rfl (fun H1 m1 => evd_cb (ead_cons (evd_var rfl (ls_em (hb.et m1.em) m1.em hne htd hls).dp) ead_nil) rc_lenL) hlen
  refine ⟨.ref b, rfl, hN H n (Bm.of (Ex.refl _)) hb hn _ fun v d H2 pd td m2 b2 dv => ?_⟩
  obtain ⟨j, hj, rfl⟩ := pd
  cases dv
  obtain ⟨xs, hx, da⟩ := ls_em (hb.et m2.em) m2.em hne htd hls
  obtain ⟨v, hv, dv⟩ := dpa_get da (List.getElem?_eq_getElem hj)
  exact ⟨b, xs, (j : Nat), v, rfl, rfl, .inl (.inl hx), atI_nat hv, q v H2 ⟨_, List.getElem_mem hj, dv⟩ m2 b2⟩
abbrev spMixed (K : PySem.W.Frag) : Sp := SpBagL K (fun ds => ds.length) (fun ds => ds.length ≤ 1000) (fun ds v H => ∃ es, Dp K H v (.list es) ∧ es.length = ds.length ∧ (∀ e ∈ es, e ∈ ds) ∧ ∀ e ∈ ds, e ∈ es)
theorem ok_l_mixed (M : Md P K mg base) : Kn P w K mg base CX0 "_law_mixed" ["_law_bag_here", "_law_things"] 34 (spMixed K) := by
  refine kn_mk M.d_l_mixed fun f fd F => okBL F sc_l_mixed rfl fun a b ds n cdv A outer s H E hr hne hls htd hp hb hn => ?_
  have hp : ds.length ≤ 1000 := hp
  refine ⟨_, (pss_cons (ps_set (i := 2) sc_l_mixed.nd rfl (.inl rfl) (pe_lst pa_nil)) (pss_cons (ps_for PassesOwn.never rfl (pi_list (pv 1)) (pg_name (i := 3) sc_l_mixed.nd rfl (Or.inl rfl)) (pss_one (ps_expr (pe_bm PySem.F.plainAttrs_list PySem.F.slot_list_insert PySem.F.type_list_insert mt_insert (pv 2) (pa_cons (pe_kn (ok_l_take M) hr (pa_cons (pv 0) (pa_cons (pe_op op_add (pe_callB call_len_seq (by rfl) M.n_len PySem.boot_len (pa_cons (pv 2) pa_nil)) pe_int) pa_nil))) (pa_cons (pv 3) pa_nil)))))) (pss_one (ps_ret (pv 2))))), fun Q q => ?_⟩
  refine sd_newL (K := K) (ds := []) ead_nil (by simp) fun l H1 hl0 e1 sl1 => ?_
  dsimp only
  have nla : l ≠ a := fun e => by
    obtain ⟨xs, h⟩ := hb.lst
    rw [← e, hl0] at h; cases h
  obtain ⟨xs, hx, da⟩ := id hls
  have hxl := dpa_len da
  have nlb : b ≠ l := ne_of_none hx hl0
  refine Evl.s_forL (K := K) (a := b) (xs := xs) (Evl.ev_var rfl) (.inl (.inl (e1 _ _ hx))) (fun i σ' H' => ∃ x, σ' = [some (.ref a), some (.ref b), some (.ref l), x] ∧ Bm a H H' ∧ BagS K H' a (n + i) ∧ ∃ es, LS K H' l es ∧ es.length = i ∧ i ≤ ds.length ∧ (∀ e ∈ es, e ∈ ds) ∧ tupAll es = true ∧ ∀ e ∈ ds.take i, e ∈ es)
    (fun H2 e2 => ⟨none, rfl, Bm.of (e1.trans e2), hb.ex (e1.trans e2), [], sl1.ex e2, rfl, Nat.zero_le _, by simp, rfl, by simp⟩) (fun i σ' H' _ ⟨_, _, m, _⟩ => .inl (.inl (m.em _ _ hne hx))) ?_ ?_
  · rintro i x σ' H' hxi ⟨y, rfl, m, bi, es, hes, hel, hil, hin, tes, hcov⟩
    have hi1 : i < ds.length := by
      have := (List.getElem?_eq_some_iff.mp hxi).1
      omega
    obtain ⟨d, hd, dx⟩ := dpa_getV (dpa_et (hb.et m.em) htd da) hxi
    have hdm := List.mem_of_getElem? hd
    have td : tupOnly d = true := by
      have : ∀ (ds : List PyData), tupAll ds = true → ∀ d ∈ ds, tupOnly d = true := by
        intro ds
        induction ds with
        | nil => simp
        | cons z l ih =>
          intro h d hd
          simp only [tupAll, Bool.and_eq_true] at h
          rcases List.mem_cons.mp hd with rfl | hd
          · exact h.1
          · exact ih h.2 d hd
      exact this ds htd d hdm
    have hN := evn_take (K := K) (a := a) (te := tOp (rI0 fun i j => .int (i + j)) (tCB (rLenK K) (tCons (tVar 2) tNil)) (tC (.int 1))) (σ := [some (.ref a), some (.ref b), some (.ref l), some x]) (H := H') (i := 0) (m := es.length + 1) (E := E0) rfl (fun H1 m1 => evd_op (evd_cb (ead_cons (evd_var rfl (ls_em (bi.et m1.em) m1.em nla tes hes).dp) ead_nil) rc_lenL) evd_int rd_I0) (by omega)
    obtain ⟨ys, hA, dA⟩ := id hes
    refine ⟨.ref l, rfl, .inl ⟨rfl, _, .inl (.inl hA)⟩, ?_⟩
    refine hN H' (n + i) (Bm.of (Ex.refl _)) bi (by omega) _ fun v d2 H2 pd _ m2 b2 dv => ?_
    obtain ⟨j, hj, rfl⟩ := pd
    cases dv
    have et := bi.et m2.em
    refine ⟨x, rfl, l, ys, (j : Nat), x, rfl, rfl, m2.em _ _ nla hA, Evl.sz_lt (by rw [dpa_len dA]; omega), by omega, by omega, ?_⟩
    obtain ⟨m3, b3⟩ := bag_upd (o := .lst (ys.take j ++ [x] ++ ys.drop j)) hb hl0 (m.trans m2) b2.nums
    have et2 := Et.upd (o := .lst (ys.take j ++ [x] ++ ys.drop j)) (m2.em _ _ nla hA)
    refine ⟨_, rfl, m3, b3, es.take j ++ [d] ++ es.drop j, ⟨_, upd_same, ?_⟩, ?_, hi1, ?_, ?_, ?_⟩
    · have d0 := dpa_et et2 tes (dpa_et et tes dA)
      exact dpa_app (dpa_app (dpa_takeN j d0) (.cons (dp_et et2 td (dp_et et td dx)) .nil)) (dpa_dropN j d0)
    · simp only [List.length_append, List.length_take, List.length_drop, List.length_singleton]; omega
    · intro e he
      rcases List.mem_append.mp he with he | he
      · rcases List.mem_append.mp he with he | he
        · exact hin e (List.mem_of_mem_take he)
        · rw [List.mem_singleton.mp he]; exact hdm
      · exact hin e (List.mem_of_mem_drop he)
    · have hap : ∀ (x y : List PyData), tupAll x = true → tupAll y = true → tupAll (x ++ y) = true := by
        intro x
        induction x with
        | nil => intro y _ h; exact h
        | cons z l ih => intro y h1 h2; simp only [tupAll, List.cons_append, Bool.and_eq_true] at h1 ⊢; exact ⟨h1.1, ih y h1.2 h2⟩
      have htk : ∀ (x : List PyData) (j : Nat), tupAll x = true → tupAll (x.take j) = true ∧ tupAll (x.drop j) = true := by
        intro x
        induction x with
        | nil => intro j _; simp [tupAll]
        | cons z l ih =>
          intro j h
          cases j with
          | zero => exact ⟨rfl, h⟩
          | succ j =>
            simp only [tupAll, Bool.and_eq_true] at h
            refine ⟨?_, (ih j h.2).2⟩
            rw [List.take_succ_cons]
            simp only [tupAll, h.1, (ih j h.2).1, Bool.and_self]
      exact hap _ _ (hap _ _ (htk es j tes).1 (by simp [tupAll, td])) (htk es j tes).2
    · intro e he
      rw [List.take_add_one, hd] at he
      rcases List.mem_append.mp he with he | he
      · have h1 := hcov e he
        rw [← List.take_append_drop j es] at h1
        rcases List.mem_append.mp h1 with h1 | h1
        · exact List.mem_append_left _ (List.mem_append_left _ h1)
        · exact List.mem_append_right _ h1
      · have : e = d := by simpa using he
        rw [this]
        exact List.mem_append_left _ (List.mem_append_right _ (List.mem_singleton.mpr rfl))
  · rintro σ' H' ⟨x, rfl, m, bi, es, hes, hel, hil, hin, tes, hcov⟩
    rw [hxl] at bi hel
    exact sd_ret (K := K) (d := .list es) (evd_var rfl hes.dp) fun v H2 e2 dv => q v H2 ⟨es, dv, hel, hin, fun e he => hcov e (by rw [List.take_of_length_le (by omega)]; exact he)⟩ (m.trans (Bm.of e2)) (bi.ex e2)
/-- the bag, new -/
theorem ok_l_bag (M : Md P K mg base) : Kn P w K mg base CX0 "_law_bag" ["_law_script"] 3 (fun vs H Q _ => ∃ (s : Addr) (ns : List Int), vs = [.ref s] ∧ SqL K H s (ns.map V.int) ∧ ns.length ≤ 63 ∧ ∀ a H', H a = none → Ex H H' → BagS K H' a 0 → Q (.ref a) H') := by
  refine kn_mk M.d_l_bag fun f fd F => F.ok sc_l_bag (fun vs H Q E h => ?_) (fun cdv A outer s H vs Q E hr h => ?_)
  · obtain ⟨s, ns, rfl, _⟩ := h; rfl
  · obtain ⟨s0, ns, rfl, hs, hn, q⟩ := h
    refine ⟨_, (pss_one (ps_ret (pe_lst (pa_cons pe_int (pa_cons pe_int (pa_cons pe_int (pa_cons (pe_lc (own := [("_law_cell", 1)]) (g := (gName 1)) (tt := tYes) rfl sc_l_bag.nd (pi_list (pe_slice sl_list (pv 0) po_none (po_some pe_int))) (blkOk_by (N := ["_law_script", "_law_cell"]) (sc := defScope s_l_bag) (own := [("_law_cell", 1)]) (by decide +kernel)) (fun _ _ _ _ _ => (pg_name (i := 1) sc_l_bag.nd rfl (by first | exact Or.inl rfl | exact Or.inr rfl))) (fun _ _ _ _ _ => pts_nil) (fun _ _ _ _ _ => (pe_callB call_abs (by rfl) M.n_abs (by decide +kernel) (pa_cons (pv 1) pa_nil)))) pa_nil))))))), ?_⟩
    have hd : Dp K H (.ref s0) (.list (ns.map PyData.int)) := .lst hs (by
      have : ∀ ns : List Int, DpAll K H (ns.map V.int) (ns.map PyData.int) := by
        intro ns
        induction ns with
        | nil => exact .nil
        | cons z l ih => exact .cons (.int z) ih
      exact this ns)
    have hcut : cutD (ns.map PyData.int) none (some 63) = (ns.take 63).map PyData.int := by
      unfold cutD
      rw [HT.sIx_none, List.drop_zero, Nat.sub_zero]
      have e : HT.sIx (ns.map PyData.int).length (ns.map PyData.int).length (some ((63 : Nat) : Int)) = ns.length := by
        rw [HT.sIx_nat, List.length_map]; omega
      show List.take (HT.sIx (ns.map PyData.int).length (ns.map PyData.int).length (some ((63 : Nat) : Int))) _ = _
      rw [e, List.take_of_length_le (by simp), List.take_of_length_le (by omega)]
    have hev := evd_lcL (K := K) (H := H) (σ := [some (.ref s0), none]) (xs := ns.take 63) (enc := PyData.int) (keep := fun _ => true) (out := fun i : Int => intD i.natAbs) (t0 := tSl (rSlL K) (tVar 0) tNoPart (tPart (tC (.int 63)))) (g := gName 1) (tt := tYes) (te := tCB (fun xs H Q => ∃ i, xs = [.int i] ∧ Q (.int (if i < 0 then -i else i)) H) (tCons (tVar 1) tNil)) (vs := [1])
      ((evd_sliceL (evd_var rfl hd) evo_none (evo_some (K := K) evd_int)).is (by rw [hcut])) (by simp; omega) (fun _ => rfl) fun t htm => turn_name (fun _ => rfl) fun y H3 e3 dy => ⟨evb_yes, fun _ => evd_cb (ead_cons (evd_var rfl dy) ead_nil) rc_abs⟩
    refine sd_retNewL (K := K) (ead_cons evd_int (ead_cons evd_int (ead_cons evd_int (ead_cons hev ead_nil)))) (by simp) fun p H1 vs hp e1 dv => ?_
    cases dv with
    | cons d0 dv => cases dv with
      | cons d1 dv => cases dv with
        | cons d2 dv =>
          obtain ⟨v3, rfl, d3⟩ := dpa_one dv
          cases d0; cases d1; cases d2
          refine q p _ (fresh_back e1 hp) (e1.trans (Ex.new hp)) ⟨0, 1234567891, 0, v3, (ns.take 63).map Int.natAbs, upd_same, by decide, Nat.le_refl _, by simp; omega, ?_⟩
          have d4 := dp_ex (Ex.new (o := .lst [V.int ((0 : Nat) : Int), .int ((1234567891 : Nat) : Int), .int ((0 : Nat) : Int), v3]) hp) d3
          rw [filter_true] at d4
          rw [List.map_map]
          exact d4
end
end My
namespace My
open PySem PySem.Spec PyProof.Rows L2
open Evl (Ex ex_l ex_t fresh_back)
section
variable {K : PySem.W.Frag} {H H' : Hp} {a : Addr} {n k j i : Nat} {σ : L2.St} {D : Ends} {te ta tb : TE} {tr : TA} {P P1 P2 : PyData → Prop} {r : R2} {E : XK}
theorem evn_op (ha : EvN K a ta σ H k P1) (hb : EvN K a tb σ H j P2) (hr : ∀ x y, P1 x → P2 y → ∃ z, RD K r x y z ∧ tupOnly z = true ∧ P z) : EvN K a (tOp r ta tb) σ H (k + j) P := fun H1 n m b hn Q q =>
  ha H1 n m b (by omega) _ fun v d H2 p1 t1 m2 b2 dv => hb H2 (n + k) (m.trans m2) b2 (by omega) _ fun w e H3 p2 t2 m3 b3 dw => by
    obtain ⟨z, hz, tz, pz⟩ := hr d e p1 p2
    exact hz v w H3 (dp_et (b2.et m3.em) t1 dv) dw Q fun x H4 e4 dx => q x z H4 pz tz ((m2.trans m3).trans (Bm.of e4)) (by rw [← Nat.add_assoc]; exact b3.ex e4) dx
theorem evna_nil : EvNs K a tNil σ H 0 (fun ds => ds.length = 0 ∧ ∀ d ∈ ds, P d) := fun H1 n _ b _ Q q => q [] [] H1 ⟨rfl, by simp⟩ rfl (Bm.of (Ex.refl _)) b .nil
theorem evna_cons {m : Nat} (h : EvN K a te σ H k P) (hr : EvNs K a tr σ H j (fun ds => ds.length = m ∧ ∀ d ∈ ds, P d)) : EvNs K a (tCons te tr) σ H (k + j) (fun ds => ds.length = m + 1 ∧ ∀ d ∈ ds, P d) := fun H1 n m1 b hn Q q =>
  evns_cons h hr H1 n m1 b hn Q fun vs ds H2 p => by
    obtain ⟨d, ds', rfl, pd, hl, hall⟩ := p
    refine q vs _ H2 ⟨by rw [List.length_cons, hl], fun e he => ?_⟩
    rcases List.mem_cons.mp he with rfl | he
    · exact pd
    · exact hall e he
theorem tup_mem : ∀ {ds : List PyData}, tupAll ds = true → ∀ d ∈ ds, tupOnly d = true := by
  intro ds
  induction ds with
  | nil => simp
  | cons z l ih =>
    intro h d hd
    simp only [tupAll, Bool.and_eq_true] at h
    rcases List.mem_cons.mp hd with rfl | hd
    · exact h.1
    · exact ih h.2 d hd
/-- _law_some(bag, [e, ..]) -/
theorem evn_some {m : Nat} (hi : σ[i]? = some (some (.ref a))) (hr : EvNs K a tr σ H j (fun ds => ds.length = m + 1 ∧ ∀ d ∈ ds, P d)) (hm : m ≤ 900) : EvN K a (tCall (spSome K) [] E (tCons (tVar i) (tCons (tLst tr) tNil))) σ H (j + 1) P :=
  evn_callL hi hr (fun es h => by omega) (fun _ => rfl) fun es h t => ⟨⟨fun e => by rw [e] at h; simp at h, by omega⟩, fun v H hv => by
    obtain ⟨d, hd, dd⟩ := hv
    exact ⟨d, h.2 d hd, tup_mem t d hd, dd⟩⟩
def NumD (d : PyData) : Prop := ∃ q, NumOk q ∧ d = fr q
def Num0D (d : PyData) : Prop := ∃ q, Num0 q ∧ d = fr q
def DiscD (d : PyData) : Prop := ∃ q, DiscOk q ∧ d = fr q
theorem evn_q (x : Int) (y : Nat) (hy : y ≠ 0) (hc : x.natAbs.Coprime y) (hP : P (fr ⟨x, y, hy, hc⟩)) : EvN K a (tTup (tCons (tC (.int x)) (tCons (tC (.int (y : Nat))) tNil))) σ H 0 P :=
  (evn_of (d := .tuple [.int x, .int (y : Nat)]) (fun _ _ => evd_tup (ead_cons evd_int (ead_cons evd_int ead_nil)) (by simp)) rfl).wk fun d hd => by rw [hd]; exact hP
end
theorem pos_mk {x : Int} {y : Nat} {hy : y ≠ 0} {hc : x.natAbs.Coprime y} (h : 0 < x) : (0 : Rat) < ⟨x, y, hy, hc⟩ := (num_pos_iff _).mp h
section
variable {P : Program} {w : World} {K : PySem.W.Frag} {mg : Str → Option Value} {base : Heap}
abbrev spNum (K : PySem.W.Frag) : Sp := SpBag K 3 (α := Nat) (fun m => [.int (m : Nat)]) (fun m => 0 < m ∧ m ≤ 200) (fun _ d => NumD d)
theorem evn_num {a : Addr} {σ : L2.St} {H : Hp} {i m : Nat} {E : XK} (hi : σ[i]? = some (some (.ref a))) (hm : 0 < m ∧ m ≤ 200) : EvN K a (tCall (spNum K) [] E (tCons (tVar i) (tCons (tC (.int (m : Nat))) tNil))) σ H 3 NumD :=
  evn_callB hi (evns_cons evn_int evns_nil) fun es he => by
    obtain ⟨d, ds', rfl, rfl, rfl⟩ := he
    exact ⟨m, rfl, hm, fun d hd => hd⟩
theorem ok_l_number (M : Md P K mg base) : Kn P w K mg base CX0 "_law_number" ["_law_bag_here", "_law_most"] 35 (spNum K) := by
  refine kn_mk M.d_l_number fun f fd F => okB F sc_l_number (fun _ => rfl) fun a m n cdv A outer s H ws E hr dv hm hbag hn => ?_
  obtain ⟨v1, rfl, d1⟩ := dpa_one dv
  cases d1
  obtain ⟨hm0, hm1⟩ := hm
  refine ⟨_, (pss_cons (ps_set (i := 2) sc_l_number.nd rfl (.inl rfl) (pe_kn (ok_l_take M) hr (pa_cons (pv 0) (pa_cons pe_int pa_nil)))) (pss_cons (ps_if (pt_cmpR (op_eqD hr.units) (pv 2) pe_int (nomark _)) (pss_one (ps_ret (pe_kn (ok_l_reduced M) hr (pa_cons (pe_op op_add pe_int (pe_kn (ok_l_take M) hr (pa_cons (pv 0) (pa_cons (pe_op op_mulX pe_int (pv 1)) pa_nil)))) (pa_cons (pe_kn (ok_l_some M) hr (pa_cons (pv 0) (pa_cons (pe_lst (pa_cons pe_int (pa_cons pe_int (pa_cons pe_int pa_nil)))) pa_nil))) pa_nil))))) pss_nil) (pss_cons (ps_if (pt_cmpR (op_eqD hr.units) (pv 2) pe_int (nomark _)) (pss_one (ps_ret (pe_kn (ok_l_some M) hr (pa_cons (pv 0) (pa_cons (pe_lst (pa_cons (pe_tup (pa_cons pe_int (pa_cons pe_int pa_nil))) (pa_cons (pe_tup (pa_cons pe_int (pa_cons pe_int pa_nil))) (pa_cons (pe_tup (pa_cons pe_int (pa_cons pe_int pa_nil))) (pa_cons (pe_tup (pa_cons pe_int (pa_cons pe_int pa_nil))) (pa_cons (pe_tup (pa_cons pe_int (pa_cons pe_int pa_nil))) pa_nil)))))) pa_nil))))) pss_nil) (pss_one (ps_ret (pe_tup (pa_cons (pe_op op_add pe_int (pe_kn (ok_l_take M) hr (pa_cons (pv 0) (pa_cons (pv 1) pa_nil)))) (pa_cons pe_int pa_nil)))))))), fun Q q => ?_⟩
  refine sn_set (evn_take rfl (fun H1 m1 => evd_int (i := ((12 : Nat) : Int))) (by decide)) hbag (by omega) fun v d H1 pd _ m1 b1 dv => ?_
  obtain ⟨j, hj, rfl⟩ := pd
  cases dv
  dsimp only
  refine sd_if (b := decide (((j : Nat) : Int) = 0)) (evb_is (evb_test (K := K) (evd_op (evd_var rfl (.int _)) evd_int (rd_eqD (shaped_int _) (shaped_int _)))) (eqv_int _ _)) (fun hh H2 e2 => ?_) (fun hh H2 e2 => ?_)
  · try dsimp only
    refine sn_ret (P := NumD) (k := 2) (evn_callD (K := K) (j := 2) (evns_cons (evn_op (k := 0) (j := 1) (P := fun d => ∃ x : Nat, x ≤ 600 ∧ 1 ≤ x ∧ d = .int (x : Nat)) evn_int (evn_take (m := 3 * m) rfl (fun H3 m3 => (evd_op evd_int (evd_var rfl (.int _)) (rd_I ?_)).is ?_) (by omega)) fun x y hx hy => ?_)
      (evns_cons (evn_some (P := fun d => ∃ x : Nat, (2 ≤ x ∧ x ≤ 7) ∧ d = .int (x : Nat)) rfl (evna_cons (evn_int.wk fun d hd => ⟨2, by omega, hd⟩) (evna_cons (evn_int.wk fun d hd => ⟨3, by omega, hd⟩) (evna_cons (evn_int.wk fun d hd => ⟨7, by omega, hd⟩) evna_nil))) (by decide)) evns_nil)) (fun _ => rfl) fun es he => ?_) (b1.ex e2) (by omega) fun v d H3 pd td m3 b3 dd => q v d H3 pd td ((m1.trans (Bm.of e2)).trans m3) b3 dd
    · exact cmul_small (i := 3) (j := m) (by decide) (Nat.lt_of_lt_of_le (by omega : m < 2 ^ 8) (Nat.pow_le_pow_right (by decide) (by decide)))
    · exact congrArg PyData.int (by omega)
    · obtain ⟨j2, hj2, rfl⟩ := hy
      subst hx
      exact ⟨_, rd_I0, rfl, 1 + j2, by omega, by omega, congrArg PyData.int (by omega)⟩
    · obtain ⟨d1, ds1, rfl, ⟨x, hx1, hx2, rfl⟩, d2, ds2, rfl, ⟨y, hy, rfl⟩, rfl⟩ := he
      have hy0 : ((y : Nat) : Int) ≠ 0 := by omega
      refine ⟨(x, y), rfl, hy0, Rat.divInt x y, ⟨?_, ?_, ?_⟩, rfl⟩
      · have h1 : (0 : Rat) < (x : Rat) := by exact_mod_cast (by omega : 0 < x)
        have h2 : (0 : Rat) < (y : Rat) := by exact_mod_cast (by omega : 0 < y)
        rw [Rat.divInt_eq_div, Rat.div_def]
        exact Rat.mul_pos h1 (Rat.inv_pos.mpr h2)
      · have h1 := natAbs_divInt_le (x : Int) (y : Int)
        have h2 := den_divInt_le (n := (x : Int)) hy0
        rw [Int.natAbs_natCast] at h1 h2
        have h3 : (Rat.divInt x y).num.natAbs * (Rat.divInt x y).den ≤ 600 * 7 := Nat.mul_le_mul (by omega) (by omega)
        omega
      · have h2 := den_divInt_le (n := (x : Int)) hy0
        rw [Int.natAbs_natCast] at h2
        omega
  · dsimp only [tNext]
    refine sd_if (b := decide (((j : Nat) : Int) = 1)) (evb_is (evb_test (K := K) (evd_op (evd_var rfl (.int _)) evd_int (rd_eqD (shaped_int _) (shaped_int _)))) (eqv_int _ _)) (fun hh H3 e3 => ?_) (fun hh H3 e3 => ?_)
    · try dsimp only
      refine sn_ret (P := NumD) (k := 1) (evn_some rfl (evna_cons (evn_q 1000 1 (by decide) (by decide) ⟨_, ⟨pos_mk (by decide), by decide, by decide⟩, rfl⟩) (evna_cons (evn_q 1 1000 (by decide) (by decide) ⟨_, ⟨pos_mk (by decide), by decide, by decide⟩, rfl⟩) (evna_cons (evn_q 999999999999 1 (by decide) (by decide) ⟨_, ⟨pos_mk (by decide), by decide, by decide⟩, rfl⟩) (evna_cons (evn_q 1 12 (by decide) (by decide) ⟨_, ⟨pos_mk (by decide), by decide, by decide⟩, rfl⟩) (evna_cons (evn_q 12345 67 (by decide) (by decide) ⟨_, ⟨pos_mk (by decide), by decide, by decide⟩, rfl⟩) evna_nil))))) (by decide)) ((b1.ex e2).ex e3) (by omega) fun v d H4 pd td m4 b4 dd => q v d H4 pd td (((m1.trans (Bm.of e2)).trans (Bm.of e3)).trans m4) (b4.mono (by omega)) dd
    · dsimp only [tNext]
      refine sn_ret (P := NumD) (k := 1) ((evn_tup (K := K) (k := 1) (evns_cons (evn_op (k := 0) (j := 1) (P := fun d => ∃ x : Nat, x ≤ 600 ∧ 1 ≤ x ∧ d = .int (x : Nat)) evn_int (evn_take (m := m) rfl (fun H3 m3 => evd_var rfl (.int _)) (by omega)) fun x y hx hy => ?_) (evns_cons evn_int evns_nil)) (fun ds hd => ?_)).wk fun d hd => ?_) ((b1.ex e2).ex e3) (by omega) fun v d H4 pd td m4 b4 dd => q v d H4 pd td (((m1.trans (Bm.of e2)).trans (Bm.of e3)).trans m4) (b4.mono (by omega)) dd
      · obtain ⟨j2, hj2, rfl⟩ := hy
        subst hx
        exact ⟨_, rd_I0, rfl, 1 + j2, by omega, by omega, congrArg PyData.int (by omega)⟩
      · obtain ⟨d1, ds1, rfl, _, d2, ds2, rfl, _, rfl⟩ := hd
        simp
      · obtain ⟨ds, rfl, d1, ds1, rfl, ⟨x, hx1, hx2, rfl⟩, d2, ds2, rfl, rfl, rfl⟩ := hd
        refine ⟨⟨(x : Int), 1, by decide, Nat.coprime_one_right _⟩, ⟨pos_mk (by omega), ?_, (by show 1 ≤ 1000; decide)⟩, rfl⟩
        show (x : Int).natAbs * 1 < _
        omega
def CapD (d : PyData) : Prop := ∃ o : Option Rat, (∀ k, o = some k → NumOk k) ∧ d = optD o
def DiD (d : PyData) : Prop := ∃ o : Option Rat, (∀ k, o = some k → DiscOk k) ∧ d = optD o
theorem numOk_cap {d : PyData} (h : NumD d) : CapD d := let ⟨q, h1, h2⟩ := h; ⟨some q, fun k e => by cases e; exact h1, h2⟩
theorem discOk_mk {x : Int} {y : Nat} {hy : y ≠ 0} {hc : x.natAbs.Coprime y} (h0 : 0 ≤ x) (h1 : x < y) (h2 : y ≤ 100) : DiscOk ⟨x, y, hy, hc⟩ :=
  ⟨Rat.num_nonneg.mp h0, (by
    rw [Rat.lt_iff]
    show x * ((1 : Nat) : Int) < 1 * ((y : Nat) : Int)
    omega), h2⟩
theorem evn_di {a : Addr} {σ : L2.St} {H : Hp} (x : Int) (y : Nat) (hy : y ≠ 0) (hc : x.natAbs.Coprime y) (h0 : 0 ≤ x) (h1 : x < y) (h2 : y ≤ 100) : EvN K a (tTup (tCons (tC (.int x)) (tCons (tC (.int (y : Nat))) tNil))) σ H 0 DiD :=
  evn_q x y hy hc ⟨some ⟨x, y, hy, hc⟩, fun k e => by cases e; exact discOk_mk h0 h1 h2, rfl⟩
def ThD (d : PyData) : Prop := ∃ t, DrawnTh t ∧ d = thD t
abbrev spThing0 (K : PySem.W.Frag) : Sp := SpBag K 12 (α := Unit) (fun _ => []) (fun _ => True) (fun _ d => ThD d)
theorem ok_l_thing (M : Md P K mg base) : Kn P w K mg base CX0 "_law_thing" ["_law_bag_here"] 36 (spThing0 K) := by
  refine kn_mk M.d_l_thing fun f fd F => okB F sc_l_thing (fun _ => rfl) fun a _ n cdv A outer s H ws E hr dv hm hbag hn => ?_
  have hw : ws = [] := by cases dv; rfl
  subst hw
  refine ⟨_, (pss_cons (ps_set (i := 1) sc_l_thing.nd rfl (.inl rfl) (pe_kn (ok_l_take M) hr (pa_cons (pv 0) (pa_cons pe_int pa_nil)))) (pss_cons (ps_if (pt_cmpR op_lt (pv 1) pe_int (nomark _)) (pss_one (ps_ret (pe_tup (pa_cons pe_str (pa_cons (pe_kn (ok_l_number M) hr (pa_cons (pv 0) (pa_cons pe_int pa_nil))) pa_nil))))) pss_nil) (pss_cons (ps_if (pt_cmpR op_lt (pv 1) pe_int (nomark _)) (pss_cons (ps_par (i := 2) (j := 3) (by rfl) sc_l_thing.nd rfl rfl (by decide) rfl rfl (pa_cons (pe_kn (ok_l_some M) hr (pa_cons (pv 0) (pa_cons (pe_lst (pa_cons pe_non (pa_cons (pe_kn (ok_l_number M) hr (pa_cons (pv 0) (pa_cons pe_int pa_nil))) pa_nil))) pa_nil))) (pa_cons (pe_kn (ok_l_some M) hr (pa_cons (pv 0) (pa_cons (pe_lst (pa_cons pe_non (pa_cons (pe_tup (pa_cons pe_int (pa_cons pe_int pa_nil))) (pa_cons (pe_tup (pa_cons pe_int (pa_cons pe_int pa_nil))) (pa_cons (pe_tup (pa_cons pe_int (pa_cons pe_int pa_nil))) (pa_cons (pe_tup (pa_cons pe_int (pa_cons pe_int pa_nil))) pa_nil)))))) pa_nil))) pa_nil)) (by rfl)) (pss_one (ps_ret (pe_tup (pa_cons pe_str (pa_cons (pe_kn (ok_l_number M) hr (pa_cons (pv 0) (pa_cons pe_int pa_nil))) (pa_cons (pv 2) (pa_cons (pv 3) pa_nil)))))))) pss_nil) (pss_cons (ps_if (pt_cmpR (op_eqD hr.units) (pv 1) pe_int (nomark _)) (pss_one (ps_ret (pe_tup (pa_cons pe_str (pa_cons (pe_kn (ok_l_number M) hr (pa_cons (pv 0) (pa_cons pe_int pa_nil))) (pa_cons (pe_kn (ok_l_number M) hr (pa_cons (pv 0) (pa_cons pe_int pa_nil))) pa_nil)))))) pss_nil) (pss_one (ps_ret (pe_tup (pa_cons pe_str (pa_cons (pe_kn (ok_l_number M) hr (pa_cons (pv 0) (pa_cons pe_int pa_nil))) (pa_cons (pe_kn (ok_l_number M) hr (pa_cons (pv 0) (pa_cons pe_int pa_nil))) (pa_cons (pe_kn (ok_l_number M) hr (pa_cons (pv 0) (pa_cons pe_int pa_nil))) pa_nil))))))))))), fun Q q => ?_⟩
  replace q : ∀ v d H' k, k ≤ 12 → ThD d → tupOnly d = true → Bm a H H' → BagS K H' a (n + k) → Dp K H' v d → Q v H' := fun v d H' k hk h1 h2 h3 h4 h5 => q v d H' h1 h2 h3 (h4.mono (by omega)) h5
  refine sn_set (evn_take rfl (fun H1 m1 => evd_int (i := ((7 : Nat) : Int))) (by decide)) hbag (by omega) fun v d H1 pd _ m1 b1 dv => ?_
  obtain ⟨j, hj, rfl⟩ := pd
  cases dv
  dsimp only
  refine sd_if (b := decide (((j : Nat) : Int) < 2)) (evb_test (K := K) (evd_op (evd_var rfl (.int _)) evd_int rd_B0)) (fun hh H2 e2 => ?_) (fun hh H2 e2 => ?_)
  · try dsimp only
    refine sn_ret (P := ThD) (k := 3) ((evn_tup (K := K) (k := 3) (evns_cons evn_str (evns_cons (evn_num (m := 20) rfl (by decide)) evns_nil)) (fun ds hd => ?_)).wk fun d hd => ?_) (b1.ex e2) (by omega) fun v d H4 pd td m4 b4 dd => q v d H4 4 (by omega) pd td ((m1.trans (Bm.of e2)).trans m4) (b4.mono (by omega)) dd
    · obtain ⟨d1, ds1, rfl, _, d2, ds2, rfl, _, rfl⟩ := hd
      simp
    · obtain ⟨ds, rfl, d1, ds1, rfl, rfl, d2, ds2, rfl, ⟨x, hx, rfl⟩, rfl⟩ := hd
      exact ⟨.shares x, hx, rfl⟩
  · dsimp only [tNext]
    refine sd_if (b := decide (((j : Nat) : Int) < 4)) (evb_test (K := K) (evd_op (evd_var rfl (.int _)) evd_int rd_B0)) (fun hh H3 e3 => ?_) (fun hh H3 e3 => ?_)
    · try dsimp only
      refine sn_par (K := K) (k := 5) (evns_cons (k := 4) (j := 1) (evn_some (P := CapD) (j := 3) rfl (evna_cons (evn_non.wk fun d hd => ⟨none, by simp, hd⟩) (evna_cons ((evn_num (m := 8) rfl (by decide)).wk fun d hd => numOk_cap hd) evna_nil)) (by decide))
        (evns_cons (k := 1) (j := 0) (evn_some (P := DiD) (j := 0) rfl (evna_cons (evn_non.wk fun d hd => ⟨none, by simp, hd⟩) (evna_cons (evn_di 0 1 (by decide) (by decide) (by decide) (by decide) (by decide)) (evna_cons (evn_di 1 5 (by decide) (by decide) (by decide) (by decide) (by decide)) (evna_cons (evn_di 1 2 (by decide) (by decide) (by decide) (by decide) (by decide)) (evna_cons (evn_di 99 100 (by decide) (by decide) (by decide) (by decide) (by decide)) evna_nil))))) (by decide)) evns_nil)) (fun ds hd => ?_) ((b1.ex e2).ex e3) (by omega) fun v w d e H4 pd td te m4 b4 dv dw => ?_
      · obtain ⟨d1, ds1, rfl, _, d2, ds2, rfl, _, rfl⟩ := hd
        exact ⟨_, _, rfl⟩
      · obtain ⟨d1, ds1, e1, hc, d2, ds2, e2', hd, e3'⟩ := pd
        cases e1; cases e2'
        dsimp only
        refine sn_ret (P := ThD) (k := 3) ((evn_tup (K := K) (k := 3) (evns_cons (k := 0) (j := 3) evn_str (evns_cons (k := 3) (j := 0) (evn_num (m := 20) rfl (by decide)) (evns_cons (k := 0) (j := 0) (evn_of (d := d) (fun H5 m5 => evd_var rfl (dp_et (b4.et m5.em) td dv)) td) (evns_cons (k := 0) (j := 0) (evn_of (d := e) (fun H5 m5 => evd_var rfl (dp_et (b4.et m5.em) te dw)) te) evns_nil)))) (fun ds hd => ?_)).wk fun d' hd' => ?_) b4 (by omega) fun v d H5 pd td m5 b5 dd => q v d H5 12 (by omega) pd td ((((m1.trans (Bm.of e2)).trans (Bm.of e3)).trans m4).trans m5) (b5.mono (by omega)) dd
        · obtain ⟨d1, ds1, rfl, _, d2, ds2, rfl, _, d3, ds3, rfl, _, d4, ds4, rfl, _, rfl⟩ := hd
          simp
        · obtain ⟨ds, rfl, d1, ds1, rfl, rfl, d2, ds2, rfl, ⟨x, hx, rfl⟩, d3, ds3, rfl, rfl, d4, ds4, rfl, rfl, rfl⟩ := hd'
          obtain ⟨c, hc1, rfl⟩ := hc
          obtain ⟨o, ho1, rfl⟩ := hd
          exact ⟨.note x c o, ⟨hx, hc1, ho1⟩, rfl⟩
    · dsimp only [tNext]
      refine sd_if (b := decide (((j : Nat) : Int) = 4)) (evb_is (evb_test (K := K) (evd_op (evd_var rfl (.int _)) evd_int (rd_eqD (shaped_int _) (shaped_int _)))) (eqv_int _ _)) (fun hh H4 e4 => ?_) (fun hh H4 e4 => ?_)
      · try dsimp only
        refine sn_ret (P := ThD) (k := 6) ((evn_tup (K := K) (k := 6) (evns_cons (k := 0) (j := 6) evn_str (evns_cons (k := 3) (j := 3) (evn_num (m := 9) rfl (by decide)) (evns_cons (k := 3) (j := 0) (evn_num (m := 6) rfl (by decide)) evns_nil))) (fun ds hd => ?_)).wk fun d hd => ?_) (((b1.ex e2).ex e3).ex e4) (by omega) fun v d H5 pd td m5 b5 dd => q v d H5 12 (by omega) pd td ((((m1.trans (Bm.of e2)).trans (Bm.of e3)).trans (Bm.of e4)).trans m5) (b5.mono (by omega)) dd
        · obtain ⟨d1, ds1, rfl, _, d2, ds2, rfl, _, d3, ds3, rfl, _, rfl⟩ := hd
          simp
        · obtain ⟨ds, rfl, d1, ds1, rfl, rfl, d2, ds2, rfl, ⟨x, hx, rfl⟩, d3, ds3, rfl, ⟨y, hy, rfl⟩, rfl⟩ := hd
          exact ⟨.kept x y, ⟨hx, hy⟩, rfl⟩
      · dsimp only [tNext]
        refine sn_ret (P := ThD) (k := 9) ((evn_tup (K := K) (k := 9) (evns_cons (k := 0) (j := 9) evn_str (evns_cons (k := 3) (j := 6) (evn_num (m := 9) rfl (by decide)) (evns_cons (k := 3) (j := 3) (evn_num (m := 6) rfl (by decide)) (evns_cons (k := 3) (j := 0) (evn_num (m := 30) rfl (by decide)) evns_nil)))) (fun ds hd => ?_)).wk fun d hd => ?_) (((b1.ex e2).ex e3).ex e4) (by omega) fun v d H5 pd td m5 b5 dd => q v d H5 12 (by omega) pd td ((((m1.trans (Bm.of e2)).trans (Bm.of e3)).trans (Bm.of e4)).trans m5) (b5.mono (by omega)) dd
        · obtain ⟨d1, ds1, rfl, _, d2, ds2, rfl, _, d3, ds3, rfl, _, d4, ds4, rfl, _, rfl⟩ := hd
          simp
        · obtain ⟨ds, rfl, d1, ds1, rfl, rfl, d2, ds2, rfl, ⟨x, hx, rfl⟩, d3, ds3, rfl, ⟨y, hy, rfl⟩, d4, ds4, rfl, ⟨z, hz, rfl⟩, rfl⟩ := hd
          exact ⟨.weighed x y z, ⟨hx, hy, hz⟩, rfl⟩
end
end My
namespace My
open PySem PySem.Spec PyProof.Rows L2
open Evl (Ex ex_l ex_t fresh_back)
theorem thD_tup {d : PyData} (h : ThD d) : tupOnly d = true := let ⟨t, _, e⟩ := h; e ▸ to_th t
theorem thD_all : ∀ {ds : List PyData}, (∀ d ∈ ds, ThD d) → tupAll ds = true := by
  intro ds
  induction ds with
  | nil => intro _; rfl
  | cons d l ih => intro h; simp only [tupAll, thD_tup (h d List.mem_cons_self), ih fun e he => h e (List.mem_cons_of_mem _ he), Bool.and_self]
theorem things_of : ∀ {ds : List PyData}, (∀ d ∈ ds, ThD d) → ∃ ts : List Th, ds = ts.map thD ∧ (∀ t ∈ ts, DrawnTh t) ∧ ts.length = ds.length := by
  intro ds
  induction ds with
  | nil => intro _; exact ⟨[], rfl, by simp, rfl⟩
  | cons d l ih =>
    intro h
    obtain ⟨ts, h1, h2, h3⟩ := ih fun e he => h e (List.mem_cons_of_mem _ he)
    obtain ⟨t, ht, rfl⟩ := h d List.mem_cons_self
    refine ⟨t :: ts, by rw [List.map_cons, h1], fun x hx => ?_, by simp [h3]⟩
    rcases List.mem_cons.mp hx with rfl | hx
    · exact ht
    · exact h2 x hx
theorem Bm.fresh {K : PySem.W.Frag} {a l : Addr} {H H' : Hp} {n : Nat} (b : BagS K H a n) (m : Bm a H H') (h : H' l = none) : H l = none := by
  cases e : H l with
  | none => rfl
  | some o =>
    by_cases hl : l = a
    · subst hl
      obtain ⟨xs, hx⟩ := b.lst
      obtain ⟨ys, hy, _⟩ := m.cell xs hx
      rw [hy] at h; cases h
    · have := m.em l o hl e
      rw [this] at h; cases h
theorem fresh_ne {K : PySem.W.Frag} {a l : Addr} {H : Hp} {n : Nat} (b : BagS K H a n) (h : H l = none) : l ≠ a := fun e => by
  obtain ⟨xs, hx⟩ := b.lst
  rw [← e, h] at hx; cases hx
theorem eva_int1 {K : PySem.W.Frag} {ta : TA} {σ : L2.St} {H : Hp} {i : Int} (h : EvAs K ta σ H [.int i]) : Evl.EvA ta σ H [.int i] := fun H1 e Q q => h H1 e _ fun vs H2 e2 dv => by
  obtain ⟨v, rfl, h1⟩ := dpa_one dv
  cases h1
  exact q H2 e2
theorem EvNs.cast0 {K : PySem.W.Frag} {a : Addr} {ta : TA} {σ : L2.St} {H : Hp} {k : Nat} {Ps : List PyData → Prop} (h : EvNs K a ta σ H (0 + (k + 0)) Ps) : EvNs K a ta σ H k Ps := by
  rw [Nat.zero_add] at h; exact h
section
variable {P : Program} {w : World} {K : PySem.W.Frag} {mg : Str → Option Value} {base : Heap}
/-- xs = [e, ..], e draws -/
theorem sn_newL {a : Addr} {σ : L2.St} {H : Hp} {D : Ends} {i n k : Nat} {tr : TA} {Ps : List PyData → Prop} (h : EvNs K a tr σ H k Ps) (hl : ∀ ds, Ps ds → ds.length ≤ 1000) (b : BagS K H a n) (hn : n + k ≤ 1000000)
    (q : ∀ l ds H1, Ps ds → tupAll ds = true → H l = none → Bm a H H1 → BagS K H1 a (n + k) → LS K H1 l ds → D.nx (σ.set i (some (.ref l))) H1) : tAsg (tLst tr) (gName i) D σ H :=
  h H n (Bm.of (Ex.refl H)) b hn _ fun vs ds H1 p t m b1 dv => ⟨by rw [dpa_len dv]; exact Evl.sz_of (by have := hl ds p; omega), fun l hp => q l ds _ p t (m.fresh b hp) (m.trans (Bm.of (Ex.new hp))) (b1.ex (Ex.new hp)) ⟨vs, upd_same, dpa_ex (Ex.new hp) dv⟩⟩
theorem evn_thing {a : Addr} {σ : L2.St} {H : Hp} {i : Nat} {E : XK} (hi : σ[i]? = some (some (.ref a))) : EvN K a (tCall (spThing0 K) [] E (tCons (tVar i) tNil)) σ H 12 ThD :=
  evn_callB (j := 0) hi evns_nil fun es he => ⟨(), he, trivial, fun d hd => hd⟩
/-- tuple(_law_mixed(bag, things)) -/
theorem evn_mixed {a l : Addr} {σ : L2.St} {H : Hp} {i j n0 : Nat} {E : XK} {ds : List PyData} (b0 : BagS K H a n0) (hi : σ[i]? = some (some (.ref a))) (hj : σ[j]? = some (some (.ref l))) (hne : l ≠ a) (hls : LS K H l ds) (hd : ∀ d ∈ ds, ThD d) (hlen : ds.length ≤ 1000) :
    EvN K a (tCB (rTupK K) (tCons (tCall (spMixed K) [] E (tCons (tVar i) (tCons (tVar j) tNil))) tNil)) σ H ds.length (fun d => ∃ es, d = .tuple es ∧ es.length = ds.length ∧ (∀ e ∈ es, ThD e) ∧ ∀ e ∈ ds, e ∈ es) := fun H1 n m b hn Q q => by
  have td := thD_all hd
  refine ⟨.ref a, hi, .ref l, hj, a, l, ds, n, rfl, hne, ls_em (b0.et m.em) m.em hne td hls, td, hlen, b, hn, fun v H2 hv m2 b2 => ?_⟩
  obtain ⟨es, dv, hl, hin, hcov⟩ := hv
  have he : ∀ e ∈ es, ThD e := fun e h => hd e (hin e h)
  cases dv with
  | lst hs ha =>
    refine ⟨_, _, rfl, .inl ⟨hs, fun p hp => q (.ref p) (.tuple es) _ ⟨es, rfl, hl, he, hcov⟩ ?_ (m2.trans (Bm.of (Ex.new hp))) (b2.ex (Ex.new hp)) (.tup (.inl (.inl upd_same)) (dpa_ex (Ex.new hp) ha))⟩⟩
    simp only [tupOnly]; exact thD_all he
def ShareD (d : PyData) : Prop := ∃ c, NumOk c ∧ d = thD (.shares c)
theorem ShareD.th {d : PyData} (h : ShareD d) : ThD d := let ⟨c, h1, h2⟩ := h; ⟨.shares c, h1, h2⟩
theorem share_of {ts : List Th} (hts : ∀ t ∈ ts, DrawnTh t) {d : PyData} (h : ShareD d) (hm : d ∈ ts.map thD) : ∃ c, 0 < c ∧ Th.shares c ∈ ts := by
  obtain ⟨c, _, rfl⟩ := h
  obtain ⟨t, ht, e⟩ := List.mem_map.mp hm
  cases t with
  | shares c' => exact ⟨c', (hts _ ht).1, ht⟩
  | note a b c' => simp [thD] at e
  | kept a b => simp [thD] at e
  | weighed a b c' => simp [thD] at e
def DealDD (d : PyData) : Prop := ∃ dl : Deal, DrawnDeal dl ∧ d = dealD dl
theorem num0_of {d : PyData} (h : NumD d) : Num0D d := let ⟨q, h1, h2⟩ := h; ⟨q, .inr h1, h2⟩
theorem num0_zero : Num0D (fr ⟨0, 1, by decide, by decide⟩) := ⟨_, .inl rfl, rfl⟩
theorem evn_disc1 {a : Addr} {σ : L2.St} {H : Hp} (x : Int) (y : Nat) (hy : y ≠ 0) (hc : x.natAbs.Coprime y) (h0 : 0 ≤ x) (h1 : x < y) (h2 : y ≤ 100) : EvN K a (tTup (tCons (tC (.int x)) (tCons (tC (.int (y : Nat))) tNil))) σ H 0 DiscD :=
  evn_q x y hy hc ⟨⟨x, y, hy, hc⟩, discOk_mk h0 h1 h2, rfl⟩
theorem ok_l_deal (M : Md P K mg base) : Kn P w K mg base CX0 "_law_deal" ["_law_bag_here"] 37 (SpBag K 100 (α := Unit) (fun _ => []) (fun _ => True) (fun _ d => DealDD d)) := by
  refine kn_mk M.d_l_deal fun f fd F => okB F sc_l_deal (fun _ => rfl) fun a _ n cdv A outer s H ws E hr dv hm hbag hn => ?_
  have hw : ws = [] := by cases dv; rfl
  subst hw
  refine ⟨_, (pss_cons (ps_set (i := 1) sc_l_deal.nd rfl (.inl rfl) (pe_kn (ok_l_some M) hr (pa_cons (pv 0) (pa_cons (pe_lst (pa_cons pe_int (pa_cons pe_int (pa_cons pe_int (pa_cons pe_int pa_nil))))) pa_nil)))) (pss_cons (ps_set (i := 2) sc_l_deal.nd rfl (.inl rfl) (pe_lst (pa_cons (pe_tup (pa_cons pe_str (pa_cons (pe_kn (ok_l_number M) hr (pa_cons (pv 0) (pa_cons pe_int pa_nil))) pa_nil))) pa_nil))) (pss_cons (ps_for PassesOwn.never rfl (pi_range1 (by rfl) M.n_range (pa_cons (pv 1) pa_nil)) (pg_name (i := 3) sc_l_deal.nd rfl (Or.inl rfl)) (pss_one (ps_expr (pe_bm PySem.F.plainAttrs_list PySem.F.slot_list_append PySem.F.type_list_append mt_append (pv 2) (pa_cons (pe_kn (ok_l_thing M) hr (pa_cons (pv 0) pa_nil)) pa_nil))))) (pss_cons (ps_set (i := 4) sc_l_deal.nd rfl (.inl rfl) (pe_tup (pa_cons (pe_kn (ok_l_some M) hr (pa_cons (pv 0) (pa_cons (pe_lst (pa_cons (pe_tup (pa_cons pe_int (pa_cons pe_int pa_nil))) (pa_cons (pe_kn (ok_l_number M) hr (pa_cons (pv 0) (pa_cons pe_int pa_nil))) (pa_cons (pe_tup (pa_cons pe_int (pa_cons pe_int pa_nil))) pa_nil)))) pa_nil))) (pa_cons (pe_kn (ok_l_some M) hr (pa_cons (pv 0) (pa_cons (pe_lst (pa_cons (pe_tup (pa_cons pe_int (pa_cons pe_int pa_nil))) (pa_cons (pe_tup (pa_cons pe_int (pa_cons pe_int pa_nil))) (pa_cons (pe_tup (pa_cons pe_int (pa_cons pe_int pa_nil))) (pa_cons (pe_tup (pa_cons pe_int (pa_cons pe_int pa_nil))) (pa_cons (pe_tup (pa_cons pe_int (pa_cons pe_int pa_nil))) pa_nil)))))) pa_nil))) pa_nil)))) (pss_cons (ps_set (i := 5) sc_l_deal.nd rfl (.inl rfl) (pe_kn (ok_l_some M) hr (pa_cons (pv 0) (pa_cons (pe_lst (pa_cons (pe_tup (pa_cons pe_int (pa_cons pe_int pa_nil))) (pa_cons (pe_kn (ok_l_number M) hr (pa_cons (pv 0) (pa_cons pe_int pa_nil))) (pa_cons (pe_kn (ok_l_number M) hr (pa_cons (pv 0) (pa_cons pe_int pa_nil))) pa_nil)))) pa_nil)))) (pss_one (ps_ret (pe_tup (pa_cons (pe_kn (ok_l_some M) hr (pa_cons (pv 0) (pa_cons (pe_lst (pa_cons (pe_kn (ok_l_number M) hr (pa_cons (pv 0) (pa_cons pe_int pa_nil))) (pa_cons (pe_kn (ok_l_number M) hr (pa_cons (pv 0) (pa_cons pe_int pa_nil))) pa_nil))) pa_nil))) (pa_cons (pv 5) (pa_cons (pe_callTy call_tuple_of (by rfl) M.n_tuple (by decide +kernel) (pa_cons (pe_kn (ok_l_mixed M) hr (pa_cons (pv 0) (pa_cons (pv 2) pa_nil))) pa_nil)) (pa_cons (pv 4) pa_nil)))))))))))), fun Q q => ?_⟩
  refine sn_set (k := 1) (evn_some (j := 0) (P := fun d => ∃ x : Nat, (1 ≤ x ∧ x ≤ 5) ∧ d = .int (x : Nat)) rfl (evna_cons (evn_int.wk fun d hd => ⟨3, by omega, hd⟩) (evna_cons (evn_int.wk fun d hd => ⟨2, by omega, hd⟩) (evna_cons (evn_int.wk fun d hd => ⟨5, by omega, hd⟩) (evna_cons (evn_int.wk fun d hd => ⟨1, by omega, hd⟩) evna_nil)))) (by decide)) hbag (by omega) fun v d H1 pd _ m1 b1 dv => ?_
  obtain ⟨c, hc, rfl⟩ := pd
  cases dv
  dsimp only
  refine sn_newL (K := K) (k := 3) (evns_cons (k := 3) (j := 0) ((evn_tup (K := K) (k := 3) (evns_cons (k := 0) (j := 3) evn_str (evns_cons (k := 3) (j := 0) (evn_num (m := 20) rfl (by decide)) evns_nil)) (fun ds hd => ?_)).wk (P' := ShareD) fun d hd => ?_) evns_nil) (fun ds hd => ?_) b1 (by omega) fun l ds H2 pd td hl1 m2 b2 hls => ?_
  · obtain ⟨d1, ds1, rfl, _, d2, ds2, rfl, _, rfl⟩ := hd
    simp
  · obtain ⟨ds, rfl, d1, ds1, rfl, rfl, d2, ds2, rfl, ⟨x, hx, rfl⟩, rfl⟩ := hd
    exact ⟨x, hx, rfl⟩
  · obtain ⟨d1, ds1, rfl, _, rfl⟩ := hd
    simp
  obtain ⟨d1, ds1, rfl, hd1, rfl⟩ := pd
  dsimp only
  have nla : l ≠ a := fresh_ne b1 hl1
  refine Evl.s_forR1 (eva_int1 (K := K) (ead_cons (evd_var rfl (.int _)) ead_nil)) (n := (c : Nat)) (by omega) (fun i σ' H' => ∃ x, σ' = [some (.ref a), some (.int c), some (.ref l), x, none, none] ∧ Bm a H1 H' ∧ BagS K H' a (n + 1 + 3 + 12 * i) ∧ ∃ ds, LS K H' l ds ∧ ds.length = i + 1 ∧ (∀ d ∈ ds, ThD d) ∧ d1 ∈ ds)
    (fun H3 e3 => ⟨none, rfl, m2.trans (Bm.of e3), b2.ex e3, [d1], hls.ex e3, rfl, fun d hd => by rw [List.mem_singleton.mp hd]; exact hd1.th, List.mem_singleton.mpr rfl⟩) ?_ ?_
  · rintro i σ' H' hi ⟨x, rfl, m3, b3, ds, hds, hlen, hth, hsh⟩
    refine sn_app (K := K) (k := 12) b1 hl1 m3 b3 (by omega) hds rfl (evn_thing rfl) (thD_all hth) (by omega) fun d H4 pd _ m4 b4 hls4 => ?_
    refine ⟨_, rfl, m4, b4.mono (by omega), _, hls4, by simp [hlen], fun e he => ?_, List.mem_append_left _ hsh⟩
    rcases List.mem_append.mp he with he | he
    · exact hth e he
    · rw [List.mem_singleton.mp he]; exact pd
  · rintro σ' H' ⟨x, rfl, m3, b3, ds, hds, hlen, hth, hsh⟩
    rw [Int.toNat_natCast] at b3 hlen
    try dsimp only
    refine sn_set (k := 5) (P := fun d => ∃ q r, Num0 q ∧ DiscOk r ∧ d = .tuple [fr q, fr r]) ((evn_tup (K := K) (k := 5) (evns_cons (k := 4) (j := 1) (evn_some (j := 3) (P := Num0D) rfl (evna_cons (evn_q 0 1 (by decide) (by decide) num0_zero) (evna_cons ((evn_num (m := 5) rfl (by decide)).wk fun d hd => num0_of hd) (evna_cons (evn_q 3 1 (by decide) (by decide) (num0_of ⟨_, ⟨pos_mk (by decide), by decide, by decide⟩, rfl⟩)) evna_nil))) (by decide)) (evns_cons (k := 1) (j := 0) (evn_some (j := 0) (P := DiscD) rfl (evna_cons (evn_disc1 0 1 (by decide) (by decide) (by decide) (by decide) (by decide)) (evna_cons (evn_disc1 1 10 (by decide) (by decide) (by decide) (by decide) (by decide)) (evna_cons (evn_disc1 1 4 (by decide) (by decide) (by decide) (by decide) (by decide)) (evna_cons (evn_disc1 1 2 (by decide) (by decide) (by decide) (by decide) (by decide)) (evna_cons (evn_disc1 9 10 (by decide) (by decide) (by decide) (by decide) (by decide)) evna_nil))))) (by decide)) evns_nil)) (fun ds hd => ?_)).wk fun d hd => ?_) b3 (by omega) fun v d H4 pd td4 m4 b4 dv4 => ?_
    · obtain ⟨d1, ds1, rfl, _, d2, ds2, rfl, _, rfl⟩ := hd
      simp
    · obtain ⟨ds, rfl, d1, ds1, rfl, ⟨x, hx, rfl⟩, d2, ds2, rfl, ⟨y, hy, rfl⟩, rfl⟩ := hd
      exact ⟨x, y, hx, hy, rfl⟩
    obtain ⟨cnt, prt, hcnt, hprt, rfl⟩ := pd
    try dsimp only
    refine sn_set (k := 7) (P := Num0D) (evn_some (j := 6) rfl (evna_cons (evn_q 0 1 (by decide) (by decide) num0_zero) (evna_cons ((evn_num (m := 30) rfl (by decide)).wk fun d hd => num0_of hd) (evna_cons ((evn_num (m := 30) rfl (by decide)).wk fun d hd => num0_of hd) evna_nil))) (by decide)) b4 (by omega) fun v5 d5 H5 pd5 td5 m5 b5 dv5 => ?_
    obtain ⟨mon, hmon, rfl⟩ := pd5
    try dsimp only
    have hds5 := ls_em ((b3.et m4.em).trans (b4.et m5.em)) (m4.em.trans m5.em) nla (thD_all hth) hds
    have D4 := dp_et (b4.et m5.em) td4 dv4
    refine sn_ret (P := DealDD) (k := 7 + ds.length) ((evn_tup (K := K) (k := 7 + ds.length) (evns_cons (k := 7) (j := ds.length) (evn_some (j := 6) (P := NumD) rfl (evna_cons (evn_num (m := 60) rfl (by decide)) (evna_cons (evn_num (m := 200) rfl (by decide)) evna_nil)) (by decide)) ((evns_cons (k := 0) (j := ds.length + 0) (evn_of (d := fr mon) (fun H6 m6 => evd_var rfl (dp_et (b5.et m6.em) td5 dv5)) td5) (evns_cons (k := ds.length) (j := 0) (evn_mixed b5 rfl rfl nla hds5 hth (by omega)) (evns_cons (k := 0) (j := 0) (evn_of (d := .tuple [fr cnt, fr prt]) (fun H6 m6 => evd_var rfl (dp_et (b5.et m6.em) td4 D4)) td4) evns_nil))).cast0)) (fun ds hd => ?_)).wk fun d hd => ?_) b5 (by omega) fun v6 d6 H6 pd6 td6 m6 b6 dv6 => q v6 d6 H6 pd6 td6 ((((m1.trans m3).trans m4).trans m5).trans m6) (b6.mono (by omega)) dv6
    · obtain ⟨d1, ds1, rfl, _, d2, ds2, rfl, _, d3, ds3, rfl, _, d4, ds4, rfl, _, rfl⟩ := hd
      simp
    · obtain ⟨ds, rfl, d1, ds1, rfl, ⟨wth, hwth, rfl⟩, d2, ds2, rfl, rfl, d3, ds3, rfl, ⟨es, rfl, hes1, hes2, hes3⟩, d4, ds4, rfl, rfl, rfl⟩ := hd
      obtain ⟨ts, rfl, hts, htl⟩ := things_of hes2
      exact ⟨⟨wth, mon, ts, cnt, prt⟩, ⟨hwth, hmon, hts, by show ts.length ≤ 6; omega, share_of hts hd1 (hes3 _ hsh), hcnt, hprt⟩, rfl⟩
end
end My
namespace My
open PySem PySem.Spec PyProof.Rows L2
open Evl (Ex ex_l ex_t fresh_back)
theorem pow_repr : 2 ^ 14284 ≤ 10 ^ 4300 := by decide +kernel
mutual
/-- tuples, texts and ints of few digits -/
def shw : PyData → Prop
  | .int i => i.natAbs.log2 < 14284
  | .str _ => True
  | .tuple ds => shwAll ds
  | _ => False
def shwAll : List PyData → Prop
  | [] => True
  | d :: ds => shw d ∧ shwAll ds
end
section
variable {prog : Program} {w : World} {h₀ : Heap}
theorem lt_digits {a : Int} (h : a.natAbs.log2 < 14284) : a.natAbs < 10 ^ 4300 := Nat.lt_of_lt_of_le (PyProof.Rows.lt_of_log2 h) pow_repr
theorem call_int_reprB {A : Around} {E : Value → Shared → Prop} {s : Shared} {a : Int} {t : Tok} {Q : Value → Shared → Prop} (hn : s.heap.NoDigits) (hlt : a.natAbs < 10 ^ 4300) (h1 : Q (.str (toString a) s.toks) { s with toks := s.toks + 1 }) :
    wpAny (model prog w) A (call (.builtin "int.__repr__") [.int a t]) Q E s := by
  refine wpAny_call_entry F.slot_int_repr (typeIs_int s a t) F.entry_int_repr ?_ (F.args_int_repr_1 _)
  unfold Builtin.«int.__repr__»
  show wpAny _ _ (do let r ← Builtin.overDigitLimit? a; _) _ _ s
  refine wpAny_bind (PyProof.Rows.overDigitLimit_any hn (fun hlt => ?_) (fun hge => absurd hlt (Nat.not_lt.mpr hge)))
  exact wpAny_bind (wpAny_mkStr (wpAny_pure ⟨_, rfl, h1⟩) (int_text_fits10 hlt))
theorem pyReprObj_intB {A : Around} {E : Value → Shared → Prop} {s : Shared} {a : Int} {t : Tok} {Q : Value → Shared → Prop} (hn : s.heap.NoDigits) (hlt : a.natAbs < 10 ^ 4300) (h1 : Q (.str (toString a) s.toks) { s with toks := s.toks + 1 }) :
    wpAny (model prog w) A (pyReprObj (.int a t)) Q E s := by
  unfold pyReprObj
  have hv : [Value.int a t].any Value.onHeap = false := rfl
  simp only [cRoomFor, hv, Bool.false_eq_true, if_false, pure_bind]
  refine wpAny_bind (wpAny_specialOf (name := Str.ofString "__repr__") (typeIs_int s a t) F.slot_int_repr.lookup ?_)
  refine wpAny_bind (m := callSpecialIfBound? (.int a t) (Str.ofString "__repr__")) (wpAny_callSpecialIfBound?_slot (name := Str.ofString "__repr__") (typeIs_int s a t) F.slot_int_repr (call_int_reprB hn hlt ?_))
  first
    | exact wpAny_bind (wpAny_isInstance (T := "str") (b := true) rfl isSubtype_str_str (wpAny_pure h1))
    | exact ⟨_, rfl, wpAny_bind (wpAny_isInstance (T := "str") (b := true) rfl isSubtype_str_str (wpAny_pure h1))⟩
theorem reprK_int {as : List Addr} {d : Nat} {a : Int} (t : Tok) (hn : h₀.NoDigits) (ha : a.natAbs.log2 < 14284) : ReprK prog w as h₀ d (.int a t) (toString a) := fun base hb A g E s Q hg hcl hu hk hQ => by
  have hn' : base ≤ sizeLine := by omega
  rw [pyReprUnder_leaf (v := .int a t) hn' (fun _ e => nomatch e)]
  unfold pyRepr
  exact wpAny_bind (pyReprObj_intB (hn.keeps hk) (lt_digits ha) (wpAny_pure (hQ s.heap _ fun _ _ e => e)))
mutual
theorem reprK_shw (hn : h₀.NoDigits) : ∀ {v : Value} {d : PyData} {as : List Addr}, Reads h₀ v d as → shw d → d.shown.length ≤ sizeLine → ∃ bs, ReadAtMost h₀ d.depth bs ∧ ReprK prog w bs h₀ d.depth v d.shown
  | _, _, _, .none, hs, _ => absurd hs (by simp [shw])
  | _, _, _, .bool b, hs, _ => absurd hs (by simp [shw])
  | _, _, _, .int i t, hs, _ => ⟨[], (fun _ h => nomatch h), by simp only [PyData.shown]; exact reprK_int t hn (by simpa [shw] using hs)⟩
  | _, _, _, .str x t, _, hz => ⟨[], (fun _ h => nomatch h), by simp only [PyData.shown]; exact .of_is (ReprIs.str x t (by simpa only [PyData.shown] using hz)) _ _ _⟩
  | _, _, _, .list _ _ _ _, hs, _ => absurd hs (by simp [shw])
  | _, _, _, .tuple (a := a) (xs := xs) h1 h2 h3 h4, hs, hz => by
    have hz' : (tupleText (PyData.shownAll xs)).length ≤ sizeLine := by simpa only [PyData.shown] using hz
    obtain ⟨bs, hb, hk⟩ := reprK_all hn h4 (by simpa [shw] using hs) (fun t ht => Nat.le_trans (tupleText_mem_le ht) hz')
    have r : Reads h₀ (.ref a) (.tuple xs) _ := .tuple h1 h2 h3 h4
    have hna : a ∉ bs := not_mem_of_deeper r (by simp only [PyData.depth]; omega) hb
    refine ⟨a :: bs, ReadAtMost.cons r (by simp only [PyData.depth]; omega) hb, ?_⟩
    simp only [PyData.depth, PyData.shown]
    exact ReprK.tuple h1 h2 h3 hna hk
  | _, _, _, .dict _ _ _ _ _, hs, _ => absurd hs (by simp [shw])
theorem reprK_all (hn : h₀.NoDigits) : ∀ {vs : List Value} {ds : List PyData} {as : List Addr}, ReadsAll h₀ vs ds as → shwAll ds → (∀ t ∈ PyData.shownAll ds, t.length ≤ sizeLine) →
    ∃ bs, ReadAtMost h₀ (PyData.depthAll ds) bs ∧ ReprAllK prog w bs h₀ (PyData.depthAll ds) vs (PyData.shownAll ds)
  | _, _, _, .nil, _, _ => ⟨[], (fun _ h => nomatch h), by simp only [PyData.shownAll]; exact .nil⟩
  | _, _, _, .cons (d := d) (ds := ds) r rs, hs, hz => by
    have hs' : shw d ∧ shwAll ds := by simpa [shwAll] using hs
    obtain ⟨b1, hb1, k1⟩ := reprK_shw hn r hs'.1 (hz _ (by simp only [PyData.shownAll]; exact List.mem_cons_self ..))
    obtain ⟨b2, hb2, k2⟩ := reprK_all hn rs hs'.2 (fun t ht => hz t (by simp only [PyData.shownAll]; exact List.mem_cons_of_mem _ ht))
    refine ⟨b1 ++ b2, ?_, ?_⟩
    · intro b hm
      simp only [PyData.depthAll]
      rcases List.mem_append.mp hm with hm | hm
      · obtain ⟨d', as', r', hd'⟩ := hb1 b hm
        exact ⟨d', as', r', Nat.le_trans hd' (Nat.le_max_left _ _)⟩
      · obtain ⟨d', as', r', hd'⟩ := hb2 b hm
        exact ⟨d', as', r', Nat.le_trans hd' (Nat.le_max_right _ _)⟩
    · simp only [PyData.depthAll, PyData.shownAll]
      exact .cons ((k1.more fun b hb => List.mem_append_left _ hb).level_le (Nat.le_max_left _ _)) (k2.more_le (fun b hb => List.mem_append_right _ hb) (Nat.le_max_right _ _))
end
/-- repr(t), t a tuple -/
theorem repr_tupB {a : Addr} {ds : List PyData} {as : List Addr} {A : Around} {E : Value → Shared → Prop} {s : Shared} {Q : Value → Shared → Prop} (hn : h₀.NoDigits) (r : Reads h₀ (.ref a) (.tuple ds) as) (hs : shwAll ds) (hg : A.guards = some []) (hu : A.units + ((PyData.tuple ds).depth + 1) < cLine) (hk0 : ∀ b o, h₀.get? b = some o → s.heap.get? b = some o)
    (hQ : ∀ h' u tk, (∀ b o, s.heap.get? b = some o → h'.get? b = some o) → Q (.str (PyData.tuple ds).shown u) { s with heap := h', toks := tk }) (hsz : (PyData.tuple ds).shown.length ≤ sizeLine) : wpAny (model prog w) A (call (.builtin "repr") [.ref a]) Q E s := by
  cases r with
  | tuple h1 h2 h3 h4 =>
    rename_i o vs n
    have hz' : (tupleText (PyData.shownAll ds)).length ≤ sizeLine := by simpa only [PyData.shown] using hsz
    obtain ⟨bs, hb, hk⟩ := reprK_all (prog := prog) (w := w) hn h4 hs (fun t ht => Nat.le_trans (tupleText_mem_le ht) hz')
    have hna : a ∉ bs := not_mem_of_deeper (.tuple h1 h2 h3 h4) (by simp only [PyData.depth]; omega) hb
    simp only [PyData.depth] at hu
    simp only [PyData.shown] at hQ
    refine call_repr_slot (by omega) ⟨o, hk0 _ _ h1, h2⟩ F.slot_tuple_repr (call_tuple_reprK h1 h2 h3 hna hk hg (fun b _ => Clear.nil b) ?_ hk0 (fun h' u tk hk => ⟨_, _, rfl, hQ h' u tk hk⟩) hz')
    show A.units + 1 + _ < cLine
    omega
end
/-- repr of a tuple -/
def rReprT (K : PySem.W.Frag) : List V → Hp → VK → Prop := fun xs H Q => ∃ v ds, xs = [v] ∧ Dp K H v (.tuple ds) ∧ shwAll ds ∧ (PyData.tuple ds).depth ≤ 60 ∧ (PyData.tuple ds).shown.length ≤ sizeLine ∧ Q (.str (PyData.tuple ds).shown) H
theorem call_reprX {X : Cx} {k : Nat} (B : Base X.base) (hg : X.A.guards = some []) (hr : Room k X.A) : CallR X (.builtin "repr") (rReprT X.K) := by
  intro pins s σ H xs us Q I r h
  obtain ⟨v, ds, rfl, dv, hs, hd, hz, q⟩ := h
  obtain ⟨u, rfl, ru⟩ := vals1 r
  obtain ⟨as, rd⟩ := Dp.reads I (.tuple ds) v u dv ru
  cases dv with
  | tup hs' ha =>
    obtain rfl : u = Value.ref _ := ru
    have hn : s.heap.NoDigits := (B.keeps I.bk).digits
    refine repr_tupB hn rd hs hg (by have := hr.un; omega) (fun _ _ e => e) (fun h' u tk hk => ⟨.str (PyData.tuple ds).shown, H, I.kept (t' := tk) hk, ⟨_, rfl⟩, q⟩) hz
end My
namespace My
open PySem PySem.Spec PyProof.Rows L2
open Evl (Ex ex_l ex_t fresh_back)
/-- a promise that asks that nothing is being written out -/
structure FnG (P : Program) (w : World) (K : PySem.W.Frag) (mg : Str → Option Value) (base : Heap) (k : Nat) (f : Addr) (fd : FuncData) (ps : List Str) (sp : Sp) : Prop where
  len : ∀ vs H Q E, sp vs H Q E → vs.length = ps.length
  run : ∀ (A : Around) (outer : List Env) (s : Shared) (H : Hp) (args : Args) (us : List Value) (vs : List V) (Q : VK) (E : XK), A.guards = some [] → Room k A → Env0 P w K mg base A outer s H → BindsTo s fd args (ps.zip us) → Vals vs us → sp vs H Q E →
    codeAny (model P w) A (.call (.ref f) args) (CR CX0 outer P w H s Q E) s
def KnG (P : Program) (w : World) (K : PySem.W.Frag) (mg : Str → Option Value) (base : Heap) (x : Str) (ps : List Str) (k : Nat) (sp : Sp) : Prop :=
  ∃ f fd, mg x = some (.ref f) ∧ PySem.W.keepIn K (.ref f) = true ∧ Binds K fd ps [] ∧ FnG P w K mg base k f fd ps sp
section
variable {X : Cx} {e : Expr} {es : List Expr} {t : TA} {x : Str} {p pos : Pos} {ps : List Str} {k j : Nat} {sp : Sp} {E : XK}
theorem run_fnG {pins : List (Addr × Obj)} {σ : L2.St} {H : Hp} {s : Shared} {Q : VK} {us : List Value} {vs : List V} {f : Addr} {fd : FuncData} (hgd : X.A.guards = some []) (F : FnG X.prog X.w X.K X.mg X.base k f fd ps sp) (hr : Room k X.A) (hb : Binds X.K fd ps [])
    (I : Inv X pins σ H s) (r : Vals vs us) (h : sp vs H Q E) : wpAny (model X.prog X.w) X.A (call (.ref f) us) (EP X pins σ Q) X.xe s := by
  have hl : us.length = ps.length := by rw [← r.length]; exact F.len _ _ _ _ h
  have b := hb s us I.kIn (by rw [List.append_nil]; exact hl)
  rw [List.append_nil] at b
  refine wpAny_call (codeAny_mono (F.run X.A X.stack s H ⟨us, []⟩ us vs Q E hgd hr I.env0 b r h) fun r s' hq => ?_)
  cases r with
  | error e => exact (show False from hq).elim
  | ok fl =>
    cases fl with
    | ret u => exact I.after hq
    | next => exact False.elim hq
    | brk => exact False.elim hq
    | cont => exact False.elim hq
theorem pe_knG (F : KnG X.prog X.w X.K X.mg X.base x ps k sp) (hgd : X.A.guards = some []) (hr : Room j X.A) (ha : PA X (e :: es) t) (hk : k ≤ j := by decide) (hg : Gl X x := by rfl) (hd : (x == ("__debug__" : Str)) = false := by decide)
    (hs : starEach (e :: es) X.env = (false, eval e X.env) :: starEach es X.env := by rfl) (hpl : (backTo pos (starEach es X.env)).any (·.1) = false := by rfl) : PE X (.Call (.Name x p) (e :: es) [] pos) (tCall sp [] E0 t) := by
  obtain ⟨f, fd, g, kp, b, F⟩ := F
  refine ⟨fun pins s σ H Q I h => ?_⟩
  refine wpAny_Call_Name_kw (ld_glob I hg g ?_ hd)
  refine PySem.W.callWith_K (h₀ := X.base) I.ok.mod.kin kp (thn (ha.run pos pins s σ H _ I h) fun us s1 ⟨vs, H1, I1, r, q⟩ => ⟨I1.kIn, ?_⟩) hs hpl
  have q : sp (vs ++ []) H1 Q E0 := q
  rw [List.append_nil] at q
  exact run_fnG hgd F (hr.mono hk) b I1 r q
end
mutual
theorem eqv_shw : ∀ d : PyData, shw d → PyData.eqv d d = true
  | .int i, _ => by simp [PyData.eqv]
  | .str x, _ => by simp [PyData.eqv]
  | .tuple ds, h => by
    have := eqv_all ds (by simpa [shw] using h)
    simpa [PyData.eqv] using this
  | .none, h => by simp [shw] at h
  | .bool _, h => by simp [shw] at h
  | .list _, h => by simp [shw] at h
  | .dict _, h => by simp [shw] at h
theorem eqv_all : ∀ ds : List PyData, shwAll ds → PyData.eqvAll ds ds = true
  | [], _ => by simp [PyData.eqvAll]
  | d :: ds, h => by
    have h' : shw d ∧ shwAll ds := by simpa [shwAll] using h
    simp [PyData.eqvAll, eqv_shw d h'.1, eqv_all ds h'.2]
end
/-- what may be asked to be alike -/
structure AlikeOk (ds : List PyData) : Prop where
  shw : shwAll ds
  dep : (PyData.tuple ds).depth ≤ 60
  len : (PyData.tuple ds).shown.length ≤ sizeLine
  lay : PyData.canLay0 (.tuple ds) = true
theorem AlikeOk.shaped {ds : List PyData} (h : AlikeOk ds) : SeqAt.shaped (.tuple ds) = true := by
  simp only [SeqAt.shaped, h.lay, Bool.true_and, decide_eq_true_eq]
  have := h.dep
  omega
section
variable {P : Program} {w : World} {K : PySem.W.Frag} {mg : Str → Option Value} {base : Heap}
theorem rc_repr {ds : List PyData} (h : AlikeOk ds) : RC K (rReprT K) [.tuple ds] (.str (PyData.tuple ds).shown) := fun vs H dv Q q => by
  obtain ⟨v, rfl, hv⟩ := dpa_one dv
  exact ⟨v, ds, rfl, hv, h.shw, h.dep, h.len, q _ H (Ex.refl H) (.str _)⟩
abbrev spAlike (K : PySem.W.Frag) : Sp := SpOf K (α := List PyData) (fun ds => [.tuple ds, .tuple ds]) AlikeOk (fun _ => .bool true)
theorem ok_l_alike (M : Md P K mg base) : KnG P w K mg base "_law_alike" ["_law_found", "_law_due"] 3 (spAlike K) := by
  obtain ⟨f, fd, F, g, b⟩ := M.d_l_alike
  refine ⟨f, fd, g, F.kp, b, ?_⟩
  obtain ⟨oc, od, kV, doc, pm, an, cdv, ct, osl, rfl, lk, hcd⟩ := F.ex
  refine ⟨fun vs H Q E h => ?_, fun A outer s H args us vs Q E hgd0 hr0 e0 hb r hsp => ?_⟩
  · obtain ⟨ds, dv, _⟩ := h
    rw [dpa_len dv]; rfl
  · have hvl : vs.length = 2 := by
      obtain ⟨ds, dv, _⟩ := hsp
      rw [dpa_len dv]; rfl
    refine LamX.run_ofS (N := ["_law_found", "_law_due"]) (k := 2) lk hcd sc_l_alike hr0 e0 hb r hvl fun hr => ?_
    obtain ⟨ds, dv, hok, q⟩ := hsp
    obtain ⟨v0, v1, rfl, d0, d1⟩ := dpa_two dv
    have hgd : (A.deeper (envOfC ("_law_alike" : Str) (defScope s_l_alike) s.heap.objs.size f cdv)).guards = some [] := hgd0
    refine ⟨_, (pss_one (ps_ret (pe_and (pe_cmpR (op_eqD hr.units) (pv 0) (pv 1) (nomark _)) (pe_one (pe_cmpR op_eq (pe_callB (call_reprX M.base hgd hr) (by rfl) M.n_repr (by decide +kernel) (pa_cons (pv 0) pa_nil)) (pe_callB (call_reprX M.base hgd hr) (by rfl) M.n_repr (by decide +kernel) (pa_cons (pv 1) pa_nil)) (nomark _)))))), ?_⟩
    have he := eqv_all ds hok.shw
    refine sd_ret (K := K) (d := .bool (true && true)) (evd_andV ((evd_op (evd_var rfl d0) (evd_var rfl d1) (rd_eqD hok.shaped hok.shaped)).is ?_) fun _ => (evd_op (evd_cb (ead_cons (evd_var rfl d0) ead_nil) (rc_repr hok)) (evd_cb (ead_cons (evd_var rfl d1) ead_nil) (rc_repr hok)) rd_eqS).is ?_) fun v H1 e1 dv => q v H1 e1 dv
    · show PyData.bool _ = _
      simp [PyData.eqv, he]
    · show PyData.bool _ = _
      simp [PyData.eqv]
end
end My
namespace My
open PySem PySem.Spec PyProof.Rows L2
open Evl (Ex ex_l ex_t fresh_back)
open LamX (ExtN TabS Tabs GivesTo CodeO)
section
variable {K : PySem.W.Frag} {H H' : Hp}
theorem exn_of (e : Ex H H') : ExtN H H' := ExtN.of e
theorem sqt_n {a : Addr} {xs : List V} (e : ExtN H H') (h : SqT K H a xs) : SqT K H' a xs := by
  rcases h with (h | ⟨o, h⟩) | h
  · exact .inl (.inl (e _ _ h (by intro _ z; cases z)))
  · exact .inl (.inr ⟨o, e _ _ h (by intro _ z; cases z)⟩)
  · exact .inr h
theorem sql_n {a : Addr} {xs : List V} (e : ExtN H H') (h : SqL K H a xs) : SqL K H' a xs := by
  rcases h with (h | ⟨o, h⟩) | h
  · exact .inl (.inl (e _ _ h (by intro _ z; cases z)))
  · exact .inl (.inr ⟨o, e _ _ h (by intro _ z; cases z)⟩)
  · exact .inr h
mutual
theorem dp_n (e : ExtN H H') : ∀ {d : PyData} {v : V}, Dp K H v d → Dp K H' v d
  | .none, _, h => by cases h; exact .non
  | .bool _, _, h => by cases h; exact .bl _
  | .int _, _, h => by cases h; exact .int _
  | .str _, _, h => by cases h; exact .str _
  | .list _, _, h => by
    cases h with
    | lst hs ha => exact .lst (sql_n e hs) (dpa_n e ha)
  | .tuple _, _, h => by
    cases h with
    | tup hs ha => exact .tup (sqt_n e hs) (dpa_n e ha)
  | .dict _, _, h => by cases h
theorem dpa_n (e : ExtN H H') : ∀ {ds : List PyData} {vs : List V}, DpAll K H vs ds → DpAll K H' vs ds
  | [], _, h => by cases h; exact .nil
  | _ :: _, _, h => by
    cases h with
    | cons h1 h2 => exact .cons (dp_n e h1) (dpa_n e h2)
end
theorem BagS.n {a : Addr} {n : Nat} (e : ExtN H H') (h : BagS K H a n) : BagS K H' a n := let ⟨x0, x1, x2, v3, cs, e1, h1, h2, hc, h3⟩ := h; ⟨x0, x1, x2, v3, cs, e _ _ e1 (by intro _ z; cases z), h1, h2, hc, dp_n e h3⟩
theorem tabs_bm {a : Addr} {n : Nat} {T : List (Addr × Str)} (b : BagS K H a n) (m : Bm a H H') (t : Tabs T H) : Tabs T H' := fun p hp => by
  obtain ⟨xs, hx⟩ := b.lst
  obtain ⟨ps, h1, h2, h3⟩ := t p hp
  have k : ∀ {c : Addr} {o : HO}, H c = some o → o ≠ .lst xs → c ≠ a := fun {c o} h ne e => by
    rw [e, hx] at h
    exact ne (Option.some.inj h).symm
  refine ⟨ps, m.em _ _ (k h1 (by intro z; cases z)) h1, h2, fun pos cv hc => ?_⟩
  obtain ⟨c, e1, e2⟩ := h3 pos cv hc
  exact ⟨c, e1, m.em _ _ (k e2 (by
    intro z
    have z' : HO.ext _ = HO.lst xs := z
    cases z')) e2⟩
end
/-- ("told", v), or ("no price",) -/
def TTt (K : PySem.W.Frag) (CS : Addr) : (XK → Hp → VK → Prop) → Hp → VK → Prop := fun tl H Q =>
  tl (fun cls _ H' => ∃ b, PySem.W.exmOne K cls (.ref CS) = some b ∧ (b = true → ∀ p, H' p = none → Q (.ref p) (upd H' p (.tup [.str "no price"]))) ∧ (b = false → False)) H
    (fun v H1 => ([.str "told", v] : List V).length ≤ sizeLine ∧ ∀ p, H1 p = none → Q (.ref p) (upd H1 p (.tup [.str "told", v])))
theorem price_heard_gives {X : Cx} {g S C fI : Addr} {cdg : Value} {q : Str} (N : NpT X.K X.mg S C fI) : GivesTo X ["_law_act"] "_law_price_heard" (defScope s_l_price_heard) g cdg (defBody s_l_price_heard) "_law_act" q (TTt X.K C) := by
  intro f c' s H Q tl act hc h
  refine ⟨_, pss_one (ps_try_only (X := (cxOf C8.CX0 X.prog X.w X.K X.mg X.base ["_law_act"] "_law_price_heard" (defScope s_l_price_heard) g cdg X.A X.stack s H C8.E0).nox) (c := .ref C)
      (tb := fun W D σ H => ∃ Ech : XK, (∀ cls d σ' H', Ech cls d H' → W cls d σ' H') ∧ σ[0]? = some (some (.ref f)) ∧ H c' = some (CodeO c' q) ∧ tl Ech H (fun v H1 => ([.str "told", v] : List V).length ≤ sizeLine ∧ ∀ p, H1 p = none → D.rt (.ref p) (upd H1 p (.tup [.str "told", v]))))
      rfl rfl ⟨rfl, by decide, .inl N.gC⟩ takes0 (fun W pn xe tk _ => ?_) (fun a oe cls d pn _ _ => pss_one (ps_ret (pe_tup (pa_cons pe_str pa_nil))))), ?_⟩
  · refine ⟨fun pins s' σ H' D I h' => ?_⟩
    obtain ⟨Ech, hW, h1, h2, h3⟩ := h'
    have hp := fun p1 p2 => act W pn xe Ech p1 p2 tk hW
    refine (pss_one (ps_ret (pe_tup (pa_cons pe_str (pa_cons (hp _ _) pa_nil))))).run pins s' σ H' D I ?_
    exact ⟨h1, h2, h3⟩
  · refine ⟨fun cls _ H' => ∃ b, PySem.W.exmOne X.K cls (.ref C) = some b ∧ (b = true → ∀ p, H' p = none → Q (.ref p) (upd H' p (.tup [.str "no price"]))) ∧ (b = false → False), fun cls d σ' H' ⟨b, e1, e2, e3⟩ => ⟨b, e1, fun hb a _ => ⟨by decide, fun p hp => e2 hb p hp⟩, fun hb => e3 hb⟩, rfl, hc, h⟩
end My
namespace My
open PySem PySem.Spec PyProof.Rows L2
open Evl (Ex ex_l ex_t fresh_back)
open LamX (ExtN TabS Tabs GivesTo CodeO TabB)
abbrev spBeh (K : PySem.W.Frag) (C : Addr) : Sp := SpX K C (α := Deal) (fun d => [dealD d]) preBehind outBehind
section
variable {X : Cx} {e : Expr} {es : List Expr} {t : TA} {x : Str} {p pos : Pos} {ps : List Str} {k j : Nat} {sp : Sp}
/-- a def that may raise, where it does not -/
theorem pe_knL (F : Kn X.prog X.w X.K X.mg X.base (L2.CX X.prog X.w) x ps k sp) (hr : Room j X.A) (ha : PA X (e :: es) t) (hk : k ≤ j := by decide) (hg : Gl X x := by rfl) (hd : (x == ("__debug__" : Str)) = false := by decide)
    (hs : starEach (e :: es) X.env = (false, eval e X.env) :: starEach es X.env := by rfl) (hpl : (backTo pos (starEach es X.env)).any (·.1) = false := by rfl) : PE X (.Call (.Name x p) (e :: es) [] pos) (tCall sp [] E0 t) := by
  obtain ⟨f, fd, g, kp, b, F⟩ := F
  exact pe_call F (hr.mono hk) hg g kp b .nil passL ha (hdb := hd) (he := hs) (hpl := hpl)
end
theorem evd_callX0 {K : PySem.W.Frag} {C : Addr} {α : Type} {fds : α → List PyData} {pre : α → Prop} {out : α → Option PyData} {t : TA} {σ : L2.St} {H : Hp} {E : XK} {z : PyData} (a : α) (h : EvAs K t σ H (fds a)) (hp : pre a) (ho : out a = some z) : EvD K (tCall (SpX K C fds pre out) [] E t) σ H z := fun H1 e Q q =>
  h H1 e _ fun vs H2 e2 dv => by
    show SpX K C fds pre out (vs ++ []) H2 Q E
    rw [List.append_nil]
    exact ⟨a, dv, hp, (fun hn => by rw [ho] at hn; cases hn), (fun z' hz v H3 e3 dz => by
      rw [ho] at hz
      cases hz
      exact q v H3 (e2.trans e3) dz)⟩
structure RoundOk (d : Deal) (P : Rat) : Prop where
  pos : 0 < P
  ws : preWorths d P
  tot : okTotal (worthsAt d P)
  eq : (worthsAt d P).sum = d.worth
  lb : preLB d P
  al : AlikeOk (((behindCounts d P).map .shares).map thD)
  wm : okSz d.worth d.money
  npr : isShort (d.worth + d.money) = true → prePrice (wholeDeal d P)
  nri : 0 < riseOf (wholeDeal d P)
  neq : priceOf (wholeDeal d P) = some P
  alP : AlikeOk [.int P.num, .int ((P.den : Nat) : Int)]
/-- how the worth goes on -/
def NextWorth (whole w : Rat) : Prop := w = 77 ∨ (isShort w = true ∧ ∃ f : Rat, (f = 2 ∨ f = 1 ∨ f = 3 / 2 ∨ f = 9 / 10 ∨ f = 5) ∧ w = whole * f)
structure Rounds (Ready : Nat → Deal → Prop) : Prop where
  zero : ∀ d, DrawnDeal d → Ready 0 d
  behind : ∀ i d, i < 4 → Ready i d → preBehind d
  told : ∀ i d, i < 4 → Ready i d → 0 < riseOf d → ∃ P, priceOf d = some P ∧ RoundOk d P
  next : ∀ i d P w m p more, i < 4 → Ready i d → 0 < riseOf d → priceOf d = some P → isShort (d.worth + d.money) = true → NextWorth (d.worth + d.money) w → Num0 m → DiscOk p → (∀ t ∈ more, DrawnTh t) → more.length ≤ 2 →
    Ready (i + 1) ⟨w, m, (behindCounts d P).map .shares ++ more, poolW d P (thingWs d P).sum / P, p⟩
theorem okSz_short {q f : Rat} (h : isShort q = true) (hf : sz f ≤ 100) : okSz q f := by
  unfold isShort at h
  simp only [Bool.and_eq_true, decide_eq_true_eq] at h
  have : sz q ≤ 40 := sz_of_lt (by decide) (by omega) (by omega)
  unfold okSz
  omega
section
variable {K : PySem.W.Frag} {a : Addr} {σ : L2.St} {H : Hp} {D : Ends}
/-- xs = [e for k in range(m)], m and e drawn -/
theorem sn_lcR {i j m k1 k2 n : Nat} {te1 te : TE} {P : PyData → Prop} (h1 : EvN K a te1 σ H k1 (fun d => ∃ x : Nat, x < m ∧ d = .int (x : Nat))) (hm : m ≤ 1000) (b : BagS K H a n) (hn : n + k1 + m * k2 ≤ 1000000) (hw : ∀ x, wipe ((wipe σ [j]).set j (some x)) [j] = wipe σ [j])
    (h2 : ∀ x H1, Bm a H H1 → EvN K a te ((wipe σ [j]).set j (some x)) H1 k2 P)
    (q : ∀ l ds H1, H l = none → Bm a H H1 → BagS K H1 a (n + k1 + m * k2) → LS K H1 l ds → ds.length < m → (∀ d ∈ ds, P d) → tupAll ds = true → D.nx (σ.set i (some (.ref l))) H1) :
    tAsg (tLc (iRng1 (tCons te1 tNil)) (gName j) tYes te [j]) (gName i) D σ H :=
  h1 H n (Bm.of (Ex.refl H)) b (by omega) _ fun v d H1 pd td m1 b1 dv => by
    obtain ⟨x, hx, rfl⟩ := pd
    cases dv
    refine ⟨(x : Nat), rfl, by omega, by omega, fun l hl1 => ?_⟩
    have hl : H l = none := m1.fresh b hl1
    refine lc_range (lo := 0) (n := (((x : Nat) : Int)).toNat) (fun i' H' => Bm a H H' ∧ BagS K H' a (n + k1 + i' * k2) ∧ i' ≤ x ∧ ∃ ds, LS K H' l ds ∧ ds.length = i' ∧ (∀ d ∈ ds, P d) ∧ tupAll ds = true) ⟨m1.trans (Bm.of (Ex.new hl1)), (b1.ex (Ex.new hl1)).mono (by omega), Nat.zero_le _, [], ⟨[], upd_same, .nil⟩, rfl, by simp, rfl⟩ ?_ ?_
    · rintro i' H' hi ⟨m2, b2, hix, ds, hls, hdl, hP, tds⟩
      rw [Int.toNat_natCast] at hi
      refine ⟨hw _, ?_⟩
      dsimp only [tYes]
      rw [if_pos rfl]
      have hk : i' * k2 + k2 ≤ m * k2 := by
        have : (i' + 1) * k2 ≤ m * k2 := Nat.mul_le_mul_right _ (by omega)
        rw [Nat.add_mul, Nat.one_mul] at this
        exact this
      refine h2 _ H' m2 H' (n + k1 + i' * k2) (Bm.of (Ex.refl _)) b2 (by omega) _ fun y d H4 pd td m4 b4 dy => ?_
      have nla : l ≠ a := fresh_ne b hl
      obtain ⟨acc, hA, dA⟩ := ls_em (b2.et m4.em) m4.em nla tds hls
      have hal := dpa_len dA
      obtain ⟨m5, b5⟩ := bag_upd (o := .lst (acc ++ [y])) b hl (m2.trans m4) b4.nums
      refine ⟨acc, hA, Evl.sz_lt (by omega), m5, b5.mono (by rw [Nat.add_mul, Nat.one_mul]; omega), by omega, ds ++ [d], ls_app hA dA tds td dy, by simp [hdl], fun e he => ?_, ?_⟩
      · rcases List.mem_append.mp he with he | he
        · exact hP e he
        · rw [List.mem_singleton.mp he]; exact pd
      · have hap : ∀ (x : List PyData), tupAll x = true → tupAll (x ++ [d]) = true := by
          intro x
          induction x with
          | nil => intro _; simp [tupAll, td]
          | cons z l ih => intro h; simp only [tupAll, List.cons_append, Bool.and_eq_true] at h ⊢; exact ⟨h.1, ih h.2⟩
        exact hap ds tds
    · rintro H' ⟨m2, b2, _, ds, hls, hdl, hP, tds⟩
      rw [Int.toNat_natCast] at b2 hdl
      refine q l ds H' hl m2 (b2.mono ?_) hls (by omega) hP tds
      have : x * k2 ≤ m * k2 := Nat.mul_le_mul_right _ (by omega)
      omega
end
end My
namespace My
open PySem PySem.Spec PyProof.Rows L2
open Evl (Ex ex_l ex_t fresh_back)
open LamX (ExtN TabS Tabs GivesTo CodeO TabB)
abbrev lawN : List Str := ["_law_script", "_law_bag_here", "_law_deal_here", "_law_turn", "_law_told", "_law_price", "_law_things", "_law_count", "_law_whole", "_law_more", "_law_part", "_law_worth", "_law_k"]
abbrev lawCx (P : Program) (w : World) (K : PySem.W.Frag) (mg : Str → Option Value) (base : Heap) (f ct : Addr) (A : Around) (outer : List Env) (s : Shared) (H : Hp) : Cx := (cxOf CX0 P w K mg base lawN "law" (defScope s_law) f (.ref ct) A outer s H E0).nox
theorem EvNs.wk {K : PySem.W.Frag} {a : Addr} {ta : TA} {σ : L2.St} {H : Hp} {k : Nat} {Ps Ps' : List PyData → Prop} (h : EvNs K a ta σ H k Ps) (hp : ∀ ds, Ps ds → Ps' ds) : EvNs K a ta σ H k Ps' := fun H1 n m1 b hn Q q => h H1 n m1 b hn Q fun v d H2 p => q v d H2 (hp d p)
theorem sz_fc {f : Rat} (h : f = 2 ∨ f = 1 ∨ f = 3 / 2 ∨ f = 9 / 10 ∨ f = 5) : sz f ≤ 100 := by
  rcases h with rfl | rfl | rfl | rfl | rfl <;> decide +kernel
section
variable {P : Program} {w : World} {K : PySem.W.Frag} {mg : Str → Option Value} {base : Heap} {S C fI : Addr}
theorem law_body {Ready : Nat → Deal → Prop} (R : Rounds Ready) (M : Md P K mg base) (N : NpT K mg S C fI) {A : Around} {outer : List Env} {s : Shared} {H : Hp} {f ct Pt s0 : Addr} {ns : List Int} {Q : VK}
    (hgd : (A.deeper (envOfC ("law" : Str) (defScope s_law) s.heap.objs.size f (.ref ct))).guards = some []) (hr : Room 55 (A.deeper (envOfC ("law" : Str) (defScope s_law) s.heap.objs.size f (.ref ct))))
    (TB : TabB base mg ct Pt) (hs0 : SqL K H s0 (ns.map V.int)) (hns : ns.length ≤ 63) (hP : H Pt = some (.tbl #[])) (q : ∀ v H', Dp K H' v (.bool true) → Q v H') :
    ∃ t, PSs (lawCx P w K mg base f ct A outer s H) (defBody s_law) t ∧ t { nx := fun _ H' => Q .non H', rt := Q } (start lawN [.ref s0]) H := by
  obtain ⟨gf, gfd, FPH, gPH, bPH⟩ := M.d_l_price_heard
  obtain ⟨oc, od, kV, doc, pm, an, cdg, ctg, osl, rfl, lkPH, hcPH⟩ := FPH.ex
  refine ⟨_, (pss_cons (ps_set (i := 1) sc_law.nd rfl (.inr rfl) (pe_kn (ok_l_bag M) hr (pa_cons (pv 0) pa_nil))) (pss_cons (ps_set (i := 2) sc_law.nd rfl (.inr rfl) (pe_kn (ok_l_deal M) hr (pa_cons (pv 1) pa_nil))) (pss_cons (ps_for PassesOwn.never rfl (pi_range1 (by rfl) M.n_range (pa_cons pe_int pa_nil)) (pg_name (i := 3) sc_law.nd rfl (Or.inl rfl)) (pss_cons (ps_set (i := 4) sc_law.nd rfl (.inl rfl) (LamX.pe_lamcall (T := [(Pt, (lawCx P w K mg base f ct A outer s H).env.qual ++ "<lambda>")]) (TT := TTt K C) (a := "_law_act") (t := fun E => tCallS (spPrice K C) (WE fun cls d _ H => E cls d H) (tCons (tVar 2) tNil)) (by rfl) gPH FPH.kp lkPH hcPH bPH sc_l_price_heard rfl (.inl rfl) (price_heard_gives N) TB rfl (List.mem_singleton.mpr rfl) (fun p hp _ => congrArg Prod.snd (List.mem_singleton.mp hp)) (k := 49) (hr.mono (by decide)) (LamX.lamS_by (show LamX.lamSB (defScope s_law) _ = true by decide +kernel)) (by rfl) (fun _ _ _ _ _ => by rfl) (fun A outer s H E f c2 hr2 => pe_knX (ok_price_of M N) hr2 (takes_of rfl rfl rfl rfl) (pa_cons (pv 2) pa_nil)))) (pss_cons (ps_if (pt_cmpR (op_neD hr.units) (pe_ix ix_tup (pv 4) pe_int (fun _ _ => rfl)) pe_str (nomark _)) (pss_one (ps_ret (pe_cmpR (op_eqD hr.units) (LamX.pe_lamcall (T := [(Pt, (lawCx P w K mg base f ct A outer s H).env.qual ++ "<lambda>")]) (TT := TTt K C) (a := "_law_act") (t := fun E => tCallS (spBeh K C) (WE fun cls d _ H => E cls d H) (tCons (tVar 2) tNil)) (by rfl) gPH FPH.kp lkPH hcPH bPH sc_l_price_heard rfl (.inl rfl) (price_heard_gives N) TB rfl (List.mem_singleton.mpr rfl) (fun p hp _ => congrArg Prod.snd (List.mem_singleton.mp hp)) (k := 49) (hr.mono (by decide)) (LamX.lamS_by (show LamX.lamSB (defScope s_law) _ = true by decide +kernel)) (by rfl) (fun _ _ _ _ _ => by rfl) (fun A outer s H E f c2 hr2 => pe_knX (ok_things_behind M N) hr2 (takes_of rfl rfl rfl rfl) (pa_cons (pv 2) pa_nil))) (pe_tup (pa_cons pe_str pa_nil)) (nomark _)))) pss_nil) (pss_cons (ps_set (i := 5) sc_law.nd rfl (.inl rfl) (pe_ix ix_tup (pv 4) pe_int (fun _ _ => rfl))) (pss_cons (ps_if (pt_cmpR (op_neD hr.units) (pe_kn (ok_l_total M) hr (pa_cons (pe_kn (ok_l_worths M) hr (pa_cons (pv 2) (pa_cons (pv 5) pa_nil))) pa_nil)) (pe_ix ix_tup (pv 2) pe_int (fun _ _ => rfl)) (nomark _)) (pss_one (ps_ret pe_bl)) pss_nil) (pss_cons (ps_asg (pe_kn (ok_l_behind M) hr (pa_cons (pv 2) (pa_cons (pv 5) pa_nil))) (pg_tup rfl (pgs_cons (pg_name (i := 6) sc_law.nd rfl (Or.inl rfl)) (pgs_cons (pg_name (i := 7) sc_law.nd rfl (Or.inl rfl)) pgs_nil)))) (pss_cons (ps_if (pt_not (pt_val (pe_knG (ok_l_alike M) hgd hr (pa_cons (pe_knL (ok_things_behind M N) hr (pa_cons (pv 2) pa_nil)) (pa_cons (pv 6) pa_nil))))) (pss_one (ps_ret pe_bl)) pss_nil) (pss_cons (ps_set (i := 8) sc_law.nd rfl (.inl rfl) (pe_kn (ok_l_added M) hr (pa_cons (pe_ix ix_tup (pv 2) pe_int (fun _ _ => rfl)) (pa_cons (pe_ix ix_tup (pv 2) pe_int (fun _ _ => rfl)) pa_nil)))) (pss_cons (ps_if (pt_not (pt_val (pe_kn (ok_l_is_short M) hr (pa_cons (pv 8) pa_nil)))) (pss_one (ps_ret pe_bl)) pss_nil) (pss_cons (ps_if (pt_not (pt_val (pe_knG (ok_l_alike M) hgd hr (pa_cons (pe_knL (ok_price_of M N) hr (pa_cons (pe_tup (pa_cons (pv 8) (pa_cons (pe_tup (pa_cons pe_int (pa_cons pe_int pa_nil))) (pa_cons (pv 6) (pa_cons (pe_tup (pa_cons (pv 7) (pa_cons (pe_tup (pa_cons pe_int (pa_cons pe_int pa_nil))) pa_nil))) pa_nil))))) pa_nil)) (pa_cons (pv 5) pa_nil))))) (pss_one (ps_ret pe_bl)) pss_nil) (pss_cons (ps_setLc (i := 9) (own := [("_law_k", 12)]) (g := (gName 12)) (tt := tYes) rfl sc_law.nd rfl rfl (sw_true rfl rfl rfl (by decide +kernel)) (pi_range1 (by rfl) M.n_range (pa_cons (pe_kn (ok_l_take M) hr (pa_cons (pv 1) (pa_cons pe_int pa_nil))) pa_nil)) (blkOk_by (N := ["_law_script", "_law_bag_here", "_law_deal_here", "_law_turn", "_law_told", "_law_price", "_law_things", "_law_count", "_law_whole", "_law_more", "_law_part", "_law_worth", "_law_k"]) (sc := defScope s_law) (own := [("_law_k", 12)]) (by decide +kernel)) (fun _ _ _ _ _ => (pg_name (i := 12) sc_law.nd rfl (by first | exact Or.inl rfl | exact Or.inr rfl))) (fun _ _ _ _ _ => pts_nil) (fun _ _ _ _ _ => (pe_kn (ok_l_thing M) hr (pa_cons (pv 1) pa_nil)))) (pss_cons (ps_set (i := 10) sc_law.nd rfl (.inl rfl) (pe_kn (ok_l_some M) hr (pa_cons (pv 1) (pa_cons (pe_lst (pa_cons (pe_tup (pa_cons pe_int (pa_cons pe_int pa_nil))) (pa_cons (pe_tup (pa_cons pe_int (pa_cons pe_int pa_nil))) (pa_cons (pe_tup (pa_cons pe_int (pa_cons pe_int pa_nil))) pa_nil)))) pa_nil)))) (pss_cons (ps_set (i := 11) sc_law.nd rfl (.inl rfl) (pe_kn (ok_l_multiplied M) hr (pa_cons (pv 8) (pa_cons (pe_kn (ok_l_some M) hr (pa_cons (pv 1) (pa_cons (pe_lst (pa_cons (pe_tup (pa_cons pe_int (pa_cons pe_int pa_nil))) (pa_cons (pe_tup (pa_cons pe_int (pa_cons pe_int pa_nil))) (pa_cons (pe_tup (pa_cons pe_int (pa_cons pe_int pa_nil))) (pa_cons (pe_tup (pa_cons pe_int (pa_cons pe_int pa_nil))) (pa_cons (pe_tup (pa_cons pe_int (pa_cons pe_int pa_nil))) pa_nil)))))) pa_nil))) pa_nil)))) (pss_cons (ps_set (i := 11) sc_law.nd rfl (.inl rfl) (pe_ifExp (pt_val (pe_kn (ok_l_is_short M) hr (pa_cons (pv 11) pa_nil))) (pv 11) (pe_tup (pa_cons pe_int (pa_cons pe_int pa_nil))))) (pss_one (ps_set (i := 2) sc_law.nd rfl (.inr rfl) (pe_tup (pa_cons (pv 11) (pa_cons (pe_kn (ok_l_some M) hr (pa_cons (pv 1) (pa_cons (pe_lst (pa_cons (pe_tup (pa_cons pe_int (pa_cons pe_int pa_nil))) (pa_cons (pe_kn (ok_l_number M) hr (pa_cons (pv 1) (pa_cons pe_int pa_nil))) pa_nil))) pa_nil))) (pa_cons (pe_callTy call_tuple_of (by rfl) M.n_tuple (by decide +kernel) (pa_cons (pe_op op_catX (pe_callTy call_list_of (by rfl) M.n_list (by decide +kernel) (pa_cons (pv 6) pa_nil)) (pv 9)) pa_nil)) (pa_cons (pe_tup (pa_cons (pv 7) (pa_cons (pv 10) pa_nil))) pa_nil))))))))))))))))))))) (pss_one (ps_ret pe_bl))))), ?_⟩
  -- the bag
  refine ⟨.ref s0, rfl, s0, ns, rfl, hs0, hns, fun a H1 hfa e1 hb => ?_⟩
  try dsimp only
  have ht1 : Tabs [(Pt, (lawCx P w K mg base f ct A outer s H).env.qual ++ "<lambda>")] H1 := fun p hp => by
    rw [List.mem_singleton.mp hp]
    exact TabS.nil (e1 _ _ hP)
  generalize hTT : [(Pt, (lawCx P w K mg base f ct A outer s H).env.qual ++ "<lambda>")] = TT at ht1 ⊢
  -- the deal
  refine sn_set (K := K) (k := 100) (P := DealDD) (evn_callB (j := 0) rfl evns_nil fun es he => ⟨(), he, trivial, fun d hd => hd⟩) hb (by omega) fun v2 d H2 pd td m2 b2 D2 => ?_
  obtain ⟨dl0, hdr, rfl⟩ := pd
  try dsimp only
  have ht2 := tabs_bm hb m2 ht1
  refine Evl.s_forR1 (eva_int1 (K := K) (i := 4) (ead_cons evd_int ead_nil)) (by omega) (fun i σ' H' => ∃ (dl : Deal) (v2 : V) (x3 x4 x5 x6 x7 x8 x9 x10 x11 : Option V), σ' = [some (.ref s0), some (.ref a), some v2, x3, x4, x5, x6, x7, x8, x9, x10, x11, none] ∧ Tabs TT H' ∧ BagS K H' a (100 + 100 * i) ∧ Dp K H' v2 (dealD dl) ∧ Ready i dl)
    (fun H3 e3 => ⟨dl0, v2, none, none, none, none, none, none, none, none, none, rfl, ht2.ext e3, (b2.ex e3).mono (by omega), dp_ex e3 D2, R.zero dl0 hdr⟩) ?_ ?_
  · rintro i σ' H' hi ⟨dl, v2, x3, x4, x5, x6, x7, x8, x9, x10, x11, rfl, htb, hbg, D2, hrd⟩
    have hi4 : i < 4 := by omega
    have hbeh := R.behind i dl hi4 hrd
    -- told = _law_price_heard(lambda: price_of(deal))
    refine ⟨htb, fun H2 eN ht2 => ?_⟩
    have hbg2 := hbg.n eN
    have D22 := dp_n eN D2
    refine ⟨v2, rfl, dl, .cons D22 .nil, hbeh.pr, fun hnone H3 e3 => ⟨true, N.te, fun _ p hp => ?_, fun hf => by cases hf⟩, fun z hz v H3 e3 dz => ⟨by show (2 : Nat) ≤ sizeLine; decide, fun p hp => ?_⟩⟩
    · -- no price
      have h0 : ¬ 0 < riseOf dl := fun h => by unfold outPrice at hnone; rw [if_pos h] at hnone; cases hnone
      have en : Ex H3 (upd H3 p (.tup [.str "no price"])) := Ex.new hp
      have Dt : Dp K (upd H3 p (.tup [.str "no price"])) (.ref p) (.tuple [.str "no price"]) := .tup (.inl (.inl upd_same)) (.cons (.str _) .nil)
      have D23 := dp_ex (e3.trans en) D22
      have ht3 := ht2.ext (e3.trans en)
      generalize upd H3 p (.tup [.str "no price"]) = H4 at Dt D23 ht3
      try dsimp only
      refine sd_if (b := true) (evb_is (evb_test (K := K) (evd_op (evd_op (evd_var rfl Dt) evd_int (rd_ixT (i := 0) rfl)) (evd_str (s := "told")) (rd_neD (by decide +kernel) (by decide +kernel)))) (by decide +kernel)) (fun _ H5 e5 => ?_) (fun hb _ _ => by cases hb)
      refine ⟨ht3.ext e5, fun H6 eN6 ht6 => ?_⟩
      refine ⟨v2, rfl, dl, .cons (dp_n eN6 (dp_ex e5 D23)) .nil, hbeh, fun _ H7 e7 => ⟨true, N.te, fun _ p2 hp2 => ?_, fun hf => by cases hf⟩, fun z hz => ?_⟩
      · have Dt2 : Dp K (upd H7 p2 (.tup [.str "no price"])) (.ref p2) (.tuple [.str "no price"]) := .tup (.inl (.inl upd_same)) (.cons (.str _) .nil)
        refine (evd_tup (K := K) (ead_cons (evd_str (s := "no price")) ead_nil) (by simp)) _ (Ex.refl _) _ fun y H8 e8 dy => ?_
        refine rd_eqD (K := K) (by decide +kernel) (by decide +kernel) _ y H8 (dp_ex e8 Dt2) dy _ fun v H9 e9 dv => q v H9 ?_
        have e : PyData.eqv (.tuple [.str "no price"]) (.tuple [.str "no price"]) = true := by decide +kernel
        rw [e] at dv
        exact dv
      · unfold outBehind at hz
        rw [if_neg h0] at hz; cases hz
    · -- a price
      have h0 : 0 < riseOf dl := by
        unfold outPrice at hz
        by_cases h : 0 < riseOf dl
        · exact h
        · rw [if_neg h] at hz; cases hz
      obtain ⟨Pr, hPr, hok⟩ := R.told i dl hi4 hrd h0
      have hz' : z = fr Pr := by
        unfold outPrice at hz
        rw [if_pos h0, hPr] at hz
        exact (Option.some.inj hz).symm
      subst hz'
      have hob : outBehind dl = some (thsD ((behindCounts dl Pr).map .shares)) := by unfold outBehind; rw [if_pos h0, hPr]; rfl
      have en : Ex H3 (upd H3 p (.tup [.str "told", v])) := Ex.new hp
      have Dt : Dp K (upd H3 p (.tup [.str "told", v])) (.ref p) (.tuple [.str "told", fr Pr]) := .tup (.inl (.inl upd_same)) (.cons (.str _) (.cons (dp_ex en dz) .nil))
      have D23 := dp_ex (e3.trans en) D22
      have ht3 := ht2.ext (e3.trans en)
      have hbg3 := hbg2.ex (e3.trans en)
      generalize upd H3 p (.tup [.str "told", v]) = H4 at Dt D23 ht3 hbg3
      try dsimp only
      refine sd_if (b := false) (evb_is (evb_test (K := K) (evd_op (evd_op (evd_var rfl Dt) evd_int (rd_ixT (i := 0) rfl)) (evd_str (s := "told")) (rd_neD (by decide +kernel) (by decide +kernel)))) (by decide +kernel)) (fun hb _ _ => by cases hb) (fun _ H5 e5 => ?_)
      dsimp only [tNext]
      refine sd_set (K := K) (evd_op (evd_var rfl (dp_ex e5 Dt)) evd_int (rd_ixT (i := 1) rfl)) fun v5 H6 e6 D5 => ?_
      try dsimp only
      have D26 := dp_ex (e5.trans e6) D23
      refine sd_if (b := false) (evb_is (evb_test (K := K) (evd_op (evd_totalT (evd_worths (evd_var rfl D26) (evd_var rfl D5) hok.ws) hok.tot) (evd_deal (evd_var rfl D26)).1 (rd_neD (shaped_fr _) (shaped_fr _)))) (by rw [eqv_fr, hok.eq]; simp)) (fun hb _ _ => by cases hb) (fun _ H7 e7 => ?_)
      dsimp only [tNext]
      refine sd_unp2 (K := K) (d1 := thsD ((behindCounts dl Pr).map .shares)) (d2 := fr (poolW dl Pr (thingWs dl Pr).sum / Pr)) (evd_call (ead_cons (evd_var rfl (dp_ex e7 D26)) (ead_cons (evd_var rfl (dp_ex e7 D5)) ead_nil)) (spd_of (dl, Pr) hok.lb)) fun v6 v7 H8 e8 D6 D7 => ?_
      try dsimp only
      have D28 := dp_ex (e7.trans e8) D26
      have D58 := dp_ex (e7.trans e8) D5
      refine sd_if (b := false) (evb_not (a := true) (evb_test (K := K) (evd_call (ead_cons (evd_callX0 dl (ead_cons (evd_var rfl D28) ead_nil) hbeh hob) (ead_cons (evd_var rfl D6) ead_nil)) (spd_of (((behindCounts dl Pr).map .shares).map thD) hok.al)))) (fun hb _ _ => by cases hb) (fun _ H9 e9 => ?_)
      dsimp only [tNext]
      refine sd_set (K := K) (evd_qq (evd_deal (evd_var rfl (dp_ex e9 D28))).1 (evd_deal (evd_var rfl (dp_ex e9 D28))).2.1 hok.wm) fun v8 H10 e10 D8 => ?_
      try dsimp only
      refine sd_if (b := !isShort (dl.worth + dl.money)) (evb_not (evb_test (K := K) (evd_call (ead_cons (evd_var rfl D8) ead_nil) (spd_of (dl.worth + dl.money) trivial)))) (fun hb H11 e11 => ?_) (fun hb H11 e11 => ?_)
      · exact sd_ret (K := K) (d := .bool true) (evd_c fun _ => .bl true) fun v H12 _ dv => q v H12 dv
      · have hsh : isShort (dl.worth + dl.money) = true := by simpa using hb
        dsimp only [tNext]
        have E11 := (e9.trans e10).trans e11
        have D6' := dp_ex E11 D6
        have D7' := dp_ex E11 D7
        have D5' := dp_ex E11 D58
        have D8' := dp_ex e11 D8
        refine sd_if (b := false) (evb_not (a := true) (evb_test (K := K) (evd_call (ead_cons (evd_callX0 (wholeDeal dl Pr) (z := fr Pr) (ead_cons (evd_tup (ead_cons (evd_var rfl D8') (ead_cons evd_q01 (ead_cons (evd_var rfl D6') (ead_cons (evd_tup (ead_cons (evd_var rfl D7') (ead_cons evd_q01 ead_nil)) (by simp)) ead_nil)))) (by simp)) ead_nil) (hok.npr hsh) ?_) (ead_cons (evd_var rfl D5') ead_nil)) (spd_of [PyData.int Pr.num, PyData.int ((Pr.den : Nat) : Int)] hok.alP)))) (fun hb _ _ => by cases hb) (fun _ H12 e12 => ?_)
        · unfold outPrice
          rw [if_pos hok.nri, hok.neq]; rfl
        dsimp only [tNext]
        have E12 : Ex H4 H12 := ((((e5.trans e6).trans e7).trans e8).trans E11).trans e12
        have hbg12 := hbg3.ex E12
        have ht12 := ht3.ext E12
        have D6 := dp_ex e12 D6'
        have D7 := dp_ex e12 D7'
        have D8 := dp_ex e12 D8'
        -- more
        refine sn_lcR (m := 3) (k1 := 1) (k2 := 12) (P := ThD) (evn_take (m := 3) rfl (fun _ _ => evd_int) (by decide)) (by decide) hbg12 (by omega) (fun _ => rfl) (fun x H13 m13 => evn_thing rfl) fun l ds H13 hl m13 b13 hls hlen hths tds => ?_
        try dsimp only
        have et13 := hbg12.et m13.em
        have nla : l ≠ a := fresh_ne hbg12 hl
        -- part
        refine sn_set (K := K) (k := 1) (P := DiscD) (evn_some (j := 0) rfl (evna_cons (evn_disc1 0 1 (by decide) (by decide) (by decide) (by decide) (by decide)) (evna_cons (evn_disc1 1 10 (by decide) (by decide) (by decide) (by decide) (by decide)) (evna_cons (evn_disc1 1 5 (by decide) (by decide) (by decide) (by decide) (by decide)) evna_nil))) (by decide)) b13 (by omega) fun v10 d10 H14 pd10 td10 m14 b14 D10 => ?_
        obtain ⟨pt', hpt, rfl⟩ := pd10
        try dsimp only
        have et14 := et13.trans (b13.et m14.em)
        -- worth
        refine sn_set (K := K) (k := 1) (P := fun d => ∃ fc : Rat, (fc = 2 ∨ fc = 1 ∨ fc = 3 / 2 ∨ fc = 9 / 10 ∨ fc = 5) ∧ d = fr ((dl.worth + dl.money) * fc)) (evn_callD (j := 1) (evns_cons (k := 0) (j := 1) (evn_of (d := fr (dl.worth + dl.money)) (fun H15 m15 => evd_var rfl (dp_et (et14.trans (b14.et m15.em)) rfl D8)) rfl)
          (evns_cons (k := 1) (j := 0) (evn_some (j := 0) (P := fun d => ∃ fc : Rat, (fc = 2 ∨ fc = 1 ∨ fc = 3 / 2 ∨ fc = 9 / 10 ∨ fc = 5) ∧ d = fr fc) rfl (evna_cons (evn_q 2 1 (by decide) (by decide) ⟨2, by simp, rfl⟩) (evna_cons (evn_q 1 1 (by decide) (by decide) ⟨1, by simp, rfl⟩) (evna_cons (evn_q 3 2 (by decide) (by decide) ⟨3 / 2, by simp, congrArg fr (by decide +kernel)⟩) (evna_cons (evn_q 9 10 (by decide) (by decide) ⟨9 / 10, by simp, congrArg fr (by decide +kernel)⟩) (evna_cons (evn_q 5 1 (by decide) (by decide) ⟨5, by simp, rfl⟩) evna_nil))))) (by decide)) evns_nil)) (fun _ => rfl) fun es he => ?_) b14 (by omega) fun v11 d11 H15 pd11 td11 m15 b15 D11 => ?_
        · obtain ⟨d1, ds1, rfl, rfl, d2, ds2, rfl, ⟨fc, hfc, rfl⟩, rfl⟩ := he
          exact ⟨(dl.worth + dl.money, fc), rfl, okSz_short hsh (sz_fc hfc), fc, hfc, rfl⟩
        obtain ⟨fc, hfc, rfl⟩ := pd11
        try dsimp only
        have et15 := et14.trans (b14.et m15.em)
        refine sd_set (K := K) (d := fr (if isShort ((dl.worth + dl.money) * fc) = true then (dl.worth + dl.money) * fc else 77)) (evd_if (b := isShort ((dl.worth + dl.money) * fc)) (evb_test (K := K) (evd_call (ead_cons (evd_var rfl D11) ead_nil) (spd_of ((dl.worth + dl.money) * fc) trivial))) (fun h => by rw [if_pos h]; exact evd_var rfl D11) (fun h => by rw [if_neg (by rw [h]; simp)]; exact evd_tup (ead_cons evd_int (ead_cons evd_int ead_nil)) (by simp))) fun v11' H16 e16 D11' => ?_
        try dsimp only
        have b16 := b15.ex e16
        have et16 := et15.trans (Et.of e16)
        have ls16 : LS K H16 l ds := (ls_em (b14.et m15.em) m15.em nla tds (ls_em (b13.et m14.em) m14.em nla tds hls)).ex e16
        have Dp10 : Dp K H16 v10 (fr pt') := dp_ex e16 (dp_et (b14.et m15.em) td10 D10)
        generalize hww : (if isShort ((dl.worth + dl.money) * fc) = true then (dl.worth + dl.money) * fc else 77) = ww at D11'
        have hnw : NextWorth (dl.worth + dl.money) ww := by
          rw [← hww]
          by_cases h : isShort ((dl.worth + dl.money) * fc) = true
          · rw [if_pos h]; exact .inr ⟨h, fc, hfc, rfl⟩
          · rw [if_neg h]; exact .inl rfl
        obtain ⟨ts, hts, htd, htl⟩ := things_of hths
        have tdth : tupOnly (thsD ((behindCounts dl Pr).map .shares)) = true := by
          unfold thsD
          simp only [tupOnly]
          exact tupAll_map to_th _
        have hcl : (behindCounts dl Pr).length ≤ 101 := by
          have h1 := hok.ws.len
          unfold behindCounts keptCounts
          have h2 := List.length_filter_le (fun x : Rat => decide (0 < x)) ((thingWs dl Pr ++ [dl.money]).map fun x => x / Pr)
          rw [List.length_map, List.length_append] at h2
          have h3 : (thingWs dl Pr).length = dl.things.length := by unfold thingWs; simp
          have h4 : ([dl.money] : List Rat).length = 1 := rfl
          omega
        -- the next deal
        refine sn_set (K := K) (k := 5) (P := fun d => ∃ mm, Num0 mm ∧ d = dealD ⟨ww, mm, (behindCounts dl Pr).map .shares ++ ts, poolW dl Pr (thingWs dl Pr).sum / Pr, pt'⟩) ((evn_tup (K := K) (k := 5) (Ps := fun ds' => ∃ mm, Num0 mm ∧ ds' = [fr ww, fr mm, thsD ((behindCounts dl Pr).map .shares ++ ts), .tuple [fr (poolW dl Pr (thingWs dl Pr).sum / Pr), fr pt']]) (EvNs.wk (evns_cons (k := 0) (j := 5) (evn_of (d := fr ww) (fun H17 m17 => evd_var rfl (dp_et (b16.et m17.em) rfl D11')) rfl)
          (evns_cons (k := 5) (j := 0) ((evn_some (j := 3) (P := Num0D) rfl (evna_cons (evn_q 0 1 (by decide) (by decide) num0_zero) (evna_cons ((evn_num (m := 30) rfl (by decide)).wk fun d hd => num0_of hd) evna_nil)) (by decide)).le (by decide))
          (evns_cons (k := 0) (j := 0) (evn_of (d := thsD ((behindCounts dl Pr).map .shares ++ ts)) (fun H17 m17 => (evd_cb (ead_cons (evd_op (evd_cb (ead_cons (evd_var rfl (dp_et (et16.trans (b16.et m17.em)) tdth D6)) ead_nil) rc_listT) (evd_var rfl (ls_em (b16.et m17.em) m17.em nla tds ls16).dp) (rd_catX (by rw [List.length_map, List.length_map]; omega))) ead_nil) rc_tupL).is (by rw [hts]; unfold thsD; rw [List.map_append])) (by unfold thsD; simp only [tupOnly]; exact tupAll_map to_th _))
          (evns_cons (k := 0) (j := 0) (evn_of (d := .tuple [fr (poolW dl Pr (thingWs dl Pr).sum / Pr), fr pt']) (fun H17 m17 => evd_tup (ead_cons (evd_var rfl (dp_et (et16.trans (b16.et m17.em)) rfl D7)) (ead_cons (evd_var rfl (dp_et (b16.et m17.em) rfl Dp10)) ead_nil)) (by simp)) rfl) evns_nil)))) fun ds' hd => ?_) (fun ds' hd => ?_)).wk fun d hd => ?_) b16 (by omega) fun v2' d2' H17 pd2 td2 m17 b17 D2' => ?_
        · obtain ⟨d1, ds1, rfl, rfl, d2, ds2, rfl, ⟨mm, hmm, rfl⟩, d3, ds3, rfl, rfl, d4, ds4, rfl, rfl, rfl⟩ := hd
          exact ⟨mm, hmm, rfl⟩
        · obtain ⟨mm, hmm, rfl⟩ := hd
          simp
        · obtain ⟨ds', rfl, mm, hmm, rfl⟩ := hd
          exact ⟨mm, hmm, rfl⟩
        · obtain ⟨mm, hmm, rfl⟩ := pd2
          refine ⟨_, v2', _, _, _, _, _, _, _, _, _, rfl, ?_, b17.mono (by omega), D2', R.next i dl Pr ww mm pt' ts hi4 hrd h0 hPr hsh hnw hmm hpt htd (by omega)⟩
          exact tabs_bm b16 m17 ((tabs_bm b14 m15 (tabs_bm b13 m14 (tabs_bm hbg12 m13 ht12))).ext e16)
  · rintro σ' H' ⟨dl, v2, x3, x4, x5, x6, x7, x8, x9, x10, x11, rfl, htb, hbg, D2, hrd⟩
    try dsimp only
    refine sd_ret (K := K) (d := .bool true) (evd_c fun _ => .bl true) fun v H12 _ dv => ?_
    exact q v H12 dv
end
end My
namespace My
open PySem PySem.Spec PyProof.Rows L2
open LamX (TabB)
theorem law_callP {P : Program} {w : World} {K : PySem.W.Frag} {mg mb : Str → Option Value} {fa a ct Pt : Addr} {s₁ : Shared} {vs : List Value} {ns : List Int}
    (KX : K.In s₁.heap) (hns : s₁.heap.Ns mainGlobals mg) (hb : s₁.heap.Ns builtinsNs mb) (hbb : ∀ x : Str, x ≠ "__name__" → mb x = bootBuiltins x) (hlim : s₁.heap.NoLimit) (B : Base s₁.heap) (hg : s₁.gens = #[])
    (hT : s₁.heap.get? Pt = some { cls := .none, data := .fields #[] }) (nT : K.lookup Pt = none) (hC : PySem.W.CodeHd s₁.heap ct Pt)
    (hbm : ∃ (bm : Addr) (ob : Obj), mg "__builtins__" = some (.ref bm) ∧ bm ≠ builtinsNs ∧ s₁.heap.get? bm = some ob ∧ ob.cls = .type "module" ∧ ob.dict = some builtinsNs ∧ ob.data = .plain)
    (ha : s₁.heap.get? a = some { cls := .type "list", data := .seq vs.toArray }) (hi : IntsAre vs ns) (hl : ns.length ≤ sizeLine)
    (F : ∀ (base : Heap) (H : Hp), K.In base → base.Ns mainGlobals mg → TabB base mg ct Pt → Base base → Env0 P w K mg base callerA [] s₁ H → H Pt = some (.tbl #[]) → SqL K H a (ns.map V.int) →
      codeAny (model P w) callerA (.call (.ref fa) ⟨[.ref a], []⟩) (CR CX0 [] P w H s₁ (fun v _ => v = .bl true) E0) s₁) :
    codeAny (model P w) callerA (.call (.ref fa) ⟨[.ref a], []⟩) (fun r s' => r = .ok (.ret (.bool true)) ∧ OldK s₁.heap s'.heap ∧ s'.os = s₁.os ∧ AllBare s'.gens) s₁ := by
  have rv := vals_ints hi
  have naP : a ≠ Pt := fun e => by
    rw [e, hT] at ha
    cases ha
  -- what is tracked: the table, and the script where it is none of the module's own
  obtain ⟨H, hP, hS, hcase⟩ : ∃ H : Hp, H Pt = some (.tbl #[]) ∧ SqL K H a (ns.map V.int) ∧ ∀ b u, H b = some u → (b = Pt ∧ u = .tbl #[]) ∨ (b = a ∧ K.lookup a = none ∧ u = .frz { cls := .type "list", data := .seq vs.toArray } (.lst (ns.map V.int))) := by
    cases hk : K.lookup a with
    | some o =>
      refine ⟨fun b => if b = Pt then some (.tbl #[]) else none, if_pos rfl, ?_, fun b u h => ?_⟩
      · have e := KX a o hk
        rw [ha] at e
        cases e
        exact .inr ⟨_, vs.toArray, _, hk, rfl, rfl, rfl, by rw [List.size_toArray, hi.length]; exact hl, by simpa using rv⟩
      · by_cases hbP : b = Pt
        · have h' := (if_pos hbP).symm.trans h
          exact .inl ⟨hbP, (Option.some.inj h').symm⟩
        · have h' := (if_neg hbP).symm.trans h
          cases h'
    | none =>
      refine ⟨fun b => if b = Pt then some (.tbl #[]) else if b = a then some (.frz { cls := .type "list", data := .seq vs.toArray } (.lst (ns.map V.int))) else none, if_pos rfl, .inl (.inr ⟨_, (if_neg naP).trans (if_pos rfl)⟩), fun b u h => ?_⟩
      by_cases hbP : b = Pt
      · have h' := (if_pos hbP).symm.trans h
        exact .inl ⟨hbP, (Option.some.inj h').symm⟩
      · have h' := (if_neg hbP).symm.trans h
        by_cases hba : b = a
        · have h2 := (if_pos hba).symm.trans h'
          exact .inr ⟨hba, rfl, (Option.some.inj h2).symm⟩
        · have h2 := (if_neg hba).symm.trans h'
          cases h2
  -- what is not tracked
  have free : ∀ {b : Addr} {o : Obj}, s₁.heap.get? b = some o → (∀ xs n, o.data ≠ .seq xs n) → o.data ≠ .fields #[] → H b = none := fun {b o} e h1 h2 => by
    cases q : H b with
    | none => rfl
    | some u =>
      rcases hcase b u q with ⟨rfl, _⟩ | ⟨rfl, _⟩
      · rw [hT] at e
        cases e
        exact (h2 rfl).elim
      · rw [ha] at e
        cases e
        exact (h1 _ _ rfl).elim
  have keepD : ∀ {b : Addr} {o : Obj} {es : Array DictEntry} {ep : Nat}, s₁.heap.get? b = some o → o.data = .dict es ep → (hidT s₁.heap H).get? b = some o := fun {b o es ep} e d => hidT_get e (free e (fun xs n z => by rw [d] at z; cases z) (fun z => by rw [d] at z; cases z))
  have nsH : ∀ {b : Addr} {m : Str → Option Value}, s₁.heap.Ns b m → (hidT s₁.heap H).Ns b m := fun {b m} ⟨o, es, ep, e, d, r⟩ => ⟨o, es, ep, keepD e d, d, r⟩
  have hK : K.In (hidT s₁.heap H) := fun b o e => hidT_get (KX b o e) (by
    cases q : H b with
    | none => rfl
    | some u =>
      rcases hcase b u q with ⟨rfl, _⟩ | ⟨rfl, hn, _⟩
      · rw [nT] at e; cases e
      · rw [hn] at e; cases e)
  have plain : ∀ {b : Addr} {o : Obj}, s₁.heap.get? b = some o → o.data = .plain → (hidT s₁.heap H).get? b = some o := fun {b o} e d => hidT_get e (free e (fun xs n z => by rw [d] at z; cases z) (fun z => by rw [d] at z; cases z))
  have hM : L2.Mod K mg (hidT s₁.heap H) := ⟨hK, nsH hns, ⟨mb, nsH hb, hbb⟩, let ⟨mc, h1, h2⟩ := hlim; ⟨mc, nsH h1, h2⟩⟩
  have hTB : TabB (hidT s₁.heap H) mg ct Pt := by
    refine ⟨?_, ?_, fun z => ?_⟩
    · obtain ⟨o, us, file, tf, flags, tg, inF, text, tt, e1, r1, r2, r3, r⟩ := hC
      refine ⟨o, us, file, tf, flags, tg, inF, text, tt, hidT_get e1 (free e1 (fun xs n z => by rw [r2] at z; cases z) (fun z => ?_)), r1, r2, r3, r⟩
      rw [r2] at z
      cases z
      simp at r3
    · obtain ⟨bm, ob, b1, b2, b3, b4, b5, b6⟩ := hbm
      refine ⟨bm, ob, b1, b2, fun q => ?_, fun q => ?_, plain b3 b6, b4, b5, b6⟩
      · obtain ⟨o, es, ep, e, hd, _⟩ := hns
        rw [q, e] at b3
        cases b3
        rw [hd] at b6
        cases b6
      · rw [q, hT] at b3
        cases b3
        cases b6
    · obtain ⟨o, es, ep, e, hd, _⟩ := hns
      rw [z, hT] at e
      cases e
      cases hd
  have hB : Base (hidT s₁.heap H) := by
    obtain ⟨⟨⟨mc, s1, s2, s3⟩, ⟨mm, m1, m2⟩, ⟨mb', i1, i2⟩, ⟨mg', bm, ob, g1, g2, g3, g4, g5⟩⟩, ⟨md, d1, d2⟩⟩ := B
    refine ⟨⟨⟨mc, nsH s1, s2, s3⟩, ⟨mm, nsH m1, m2⟩, ⟨mb', nsH i1, i2⟩, ?_⟩, ⟨md, nsH d1, d2⟩⟩
    obtain ⟨bm2, ob2, b1, b2, b3, b4, b5, b6⟩ := hbm
    exact ⟨mg, bm2, ob2, nsH hns, b1, plain b3 b6, b4, b5⟩
  have hok : HOk P w H s₁.heap := fun b u h => by
    rcases hcase b u h with ⟨rfl, rfl⟩ | ⟨rfl, _, rfl⟩
    · exact hT
    · exact ⟨ha, by rw [List.length_map]; exact hl, vs, _, rv, ha⟩
  have e0 : Env0 P w K mg (hidT s₁.heap H) callerA [] s₁ H := ⟨rfl, hM, fun b o e => of_hidT e, Nat.le_of_eq (hidT_size _ _), trivial, fun b hb => absurd (show b ∈ ([] : List Addr) from hb) (by simp), hok, .of_eq hg⟩
  refine codeAny_mono (F _ H hK (nsH hns) hTB hB e0 hP hS) fun r s' h => ?_
  cases r with
  | error e => exact (show False from h).elim
  | ok fl =>
    cases fl with
    | next => exact False.elim h
    | brk => exact False.elim h
    | cont => exact False.elim h
    | ret u =>
      obtain ⟨v, H', os, bare, un, hok', r', q⟩ := h
      have q' : v = .bl true := q
      subst q'
      obtain rfl : u = Value.bool true := r'
      have kept : ∀ b o, b ≠ Pt → s₁.heap.get? b = some o → s'.heap.get? b = some o := fun b o nb e => by
        cases z : H b with
        | none => exact un.keep b o e z (by intro y; exact absurd (show b ∈ ([] : List Addr) from y) (by simp)) (by simp)
        | some u =>
          rcases hcase b u z with ⟨y, _⟩ | ⟨rfl, _, rfl⟩
          · exact absurd y nb
          · obtain ⟨e2, _⟩ := hok' _ _ (un.frzs _ _ _ z)
            rw [ha] at e
            cases e
            exact e2
      obtain ⟨more, z⟩ := un.tbls Pt #[] hP
      have hm : s'.heap.get? Pt = some { cls := .none, data := .fields (#[] ++ more) } := hok' Pt _ z
      refine ⟨rfl, ⟨fun b o e => ?_, fun b o e => ?_⟩, os, bare⟩
      · by_cases hbP : b = Pt
        · subst hbP
          rw [hT] at e
          cases e
          exact .inr (.inl ⟨(hC.tab hT).isCodeTable, rfl, #[], more, rfl, hm⟩)
        · exact .inl (kept b o hbP e)
      · by_cases hbP : b = Pt
        · rw [hbP]; exact ⟨_, hm⟩
        · exact ⟨o, kept b o hbP e⟩
end My
namespace My
open PySem PySem.Spec PyProof.Rows L2
open LamX (TabB)
structure Fx (P : Program) (K : PySem.W.Frag) (mg : Str → Option Value) : Prop where
  tree : P.given.tree = none
  n_abs : mg "abs" = none
  n_int : mg "int" = none
  n_len : mg "len" = none
  n_tuple : mg "tuple" = none
  n_list : mg "list" = none
  n_range : mg "range" = none
  n_enumerate : mg "enumerate" = none
  n_max : mg "max" = none
  n_repr : mg "repr" = none
  g_NOUGHT : CstT K mg "NOUGHT" (fr 0)
  g_ZERO : CstT K mg "ZERO" (fr 0)
  g_ONE : CstT K mg "ONE" (fr 1)
  d_common_divisor : DefT K mg "common_divisor" s_common_divisor ["one", "other"]
  d_reduced : DefT K mg "reduced" s_reduced ["n", "d"]
  d_added : DefT K mg "added" s_added ["one", "other"]
  d_lessened : DefT K mg "lessened" s_lessened ["one", "other"]
  d_times : DefT K mg "times" s_times ["one", "other"]
  d_over : DefT K mg "over" s_over ["one", "other"]
  d_compared : DefT K mg "compared" s_compared ["one", "other"]
  d_greatest_of : DefT K mg "greatest_of" s_greatest_of ["fractions"]
  d_total : DefT K mg "total" s_total ["fractions"]
  d_slope_between : DefT K mg "slope_between" s_slope_between ["one", "other"]
  d_curve : DefT K mg "curve" s_curve ["corners", "slope"]
  d_nothing : DefT K mg "nothing" s_nothing []
  d_in_order : DefT K mg "in_order" s_in_order ["fractions"]
  d_levels_of : DefT K mg "levels_of" s_levels_of ["curves"]
  d_slope_behind : DefT K mg "slope_behind" s_slope_behind ["one", "at"]
  d_pay_at : DefT K mg "pay_at" s_pay_at ["one", "level"]
  d_rises_at : DefT K mg "rises_at" s_rises_at ["one", "level"]
  d_added_up : DefT K mg "added_up" s_added_up ["curves"]
  d_parting : DefT K mg "parting" s_parting ["one", "other", "level"]
  d_meetings : DefT K mg "meetings" s_meetings ["one", "other"]
  d_greater_of : DefT K mg "greater_of" s_greater_of ["one", "other"]
  d_greatest : DefT K mg "greatest" s_greatest ["curves"]
  d_reached : DefT K mg "reached" s_reached ["one", "pay"]
  d_scaled : DefT K mg "scaled" s_scaled ["one", "factor"]
  d_level_for : DefT K mg "level_for" s_level_for ["one", "pay"]
  d_note_worth : DefT K mg "note_worth" s_note_worth ["thing", "price"]
  d_weighed_worth : DefT K mg "weighed_worth" s_weighed_worth ["thing", "price", "money"]
  d_thing_worth : DefT K mg "thing_worth" s_thing_worth ["thing", "price", "money"]
  d_pool_worth : DefT K mg "pool_worth" s_pool_worth ["deal", "price", "things"]
  d_worths_at : DefT K mg "worths_at" s_worths_at ["deal", "price"]
  d_worth_at : DefT K mg "worth_at" s_worth_at ["deal", "price"]
  d_thing_curve : DefT K mg "thing_curve" s_thing_curve ["thing", "money"]
  d_lowered : DefT K mg "lowered" s_lowered ["one", "gap"]
  d_worth_curve : DefT K mg "worth_curve" s_worth_curve ["deal"]
  d_price_of : DefT K mg "price_of" s_price_of ["deal"]
  d_counts_at : DefT K mg "counts_at" s_counts_at ["deal", "price"]
  d_things_behind : DefT K mg "things_behind" s_things_behind ["deal"]
  d_l_bag : DefT K mg "_law_bag" s_l_bag ["_law_script"]
  d_l_take : DefT K mg "_law_take" s_l_take ["_law_bag_here", "_law_many"]
  d_l_some : DefT K mg "_law_some" s_l_some ["_law_bag_here", "_law_things"]
  d_l_mixed : DefT K mg "_law_mixed" s_l_mixed ["_law_bag_here", "_law_things"]
  d_l_alike : DefT K mg "_law_alike" s_l_alike ["_law_found", "_law_due"]
  d_l_common : DefT K mg "_law_common" s_l_common ["_law_one", "_law_other"]
  d_l_reduced : DefT K mg "_law_reduced" s_l_reduced ["_law_n", "_law_d"]
  d_l_added : DefT K mg "_law_added" s_l_added ["_law_one", "_law_other"]
  d_l_lessened : DefT K mg "_law_lessened" s_l_lessened ["_law_one", "_law_other"]
  d_l_multiplied : DefT K mg "_law_multiplied" s_l_multiplied ["_law_one", "_law_other"]
  d_l_divided : DefT K mg "_law_divided" s_l_divided ["_law_one", "_law_other"]
  d_l_is_below : DefT K mg "_law_is_below" s_l_is_below ["_law_one", "_law_other"]
  d_l_greater : DefT K mg "_law_greater" s_l_greater ["_law_one", "_law_other"]
  d_l_total : DefT K mg "_law_total" s_l_total ["_law_fractions"]
  d_l_number : DefT K mg "_law_number" s_l_number ["_law_bag_here", "_law_most"]
  d_l_deal : DefT K mg "_law_deal" s_l_deal ["_law_bag_here"]
  d_l_thing : DefT K mg "_law_thing" s_l_thing ["_law_bag_here"]
  d_l_worth_of : DefT K mg "_law_worth_of" s_l_worth_of ["_law_thing_here", "_law_money", "_law_price"]
  d_l_worths : DefT K mg "_law_worths" s_l_worths ["_law_deal_here", "_law_price"]
  d_l_price_heard : DefT K mg "_law_price_heard" s_l_price_heard ["_law_act"]
  d_l_is_short : DefT K mg "_law_is_short" s_l_is_short ["_law_one"]
  d_l_behind : DefT K mg "_law_behind" s_l_behind ["_law_deal_here", "_law_price"]
theorem Fx.md {P : Program} {K : PySem.W.Frag} {mg : Str → Option Value} {base : Heap} (F : Fx P K mg) (B : Base base) : Md P K mg base where
  base := B
  tree := F.tree
  n_abs := F.n_abs
  n_int := F.n_int
  n_len := F.n_len
  n_tuple := F.n_tuple
  n_list := F.n_list
  n_range := F.n_range
  n_enumerate := F.n_enumerate
  n_max := F.n_max
  n_repr := F.n_repr
  g_NOUGHT := F.g_NOUGHT
  g_ZERO := F.g_ZERO
  g_ONE := F.g_ONE
  d_common_divisor := F.d_common_divisor
  d_reduced := F.d_reduced
  d_added := F.d_added
  d_lessened := F.d_lessened
  d_times := F.d_times
  d_over := F.d_over
  d_compared := F.d_compared
  d_greatest_of := F.d_greatest_of
  d_total := F.d_total
  d_slope_between := F.d_slope_between
  d_curve := F.d_curve
  d_nothing := F.d_nothing
  d_in_order := F.d_in_order
  d_levels_of := F.d_levels_of
  d_slope_behind := F.d_slope_behind
  d_pay_at := F.d_pay_at
  d_rises_at := F.d_rises_at
  d_added_up := F.d_added_up
  d_parting := F.d_parting
  d_meetings := F.d_meetings
  d_greater_of := F.d_greater_of
  d_greatest := F.d_greatest
  d_reached := F.d_reached
  d_scaled := F.d_scaled
  d_level_for := F.d_level_for
  d_note_worth := F.d_note_worth
  d_weighed_worth := F.d_weighed_worth
  d_thing_worth := F.d_thing_worth
  d_pool_worth := F.d_pool_worth
  d_worths_at := F.d_worths_at
  d_worth_at := F.d_worth_at
  d_thing_curve := F.d_thing_curve
  d_lowered := F.d_lowered
  d_worth_curve := F.d_worth_curve
  d_price_of := F.d_price_of
  d_counts_at := F.d_counts_at
  d_things_behind := F.d_things_behind
  d_l_bag := F.d_l_bag
  d_l_take := F.d_l_take
  d_l_some := F.d_l_some
  d_l_mixed := F.d_l_mixed
  d_l_alike := F.d_l_alike
  d_l_common := F.d_l_common
  d_l_reduced := F.d_l_reduced
  d_l_added := F.d_l_added
  d_l_lessened := F.d_l_lessened
  d_l_multiplied := F.d_l_multiplied
  d_l_divided := F.d_l_divided
  d_l_is_below := F.d_l_is_below
  d_l_greater := F.d_l_greater
  d_l_total := F.d_l_total
  d_l_number := F.d_l_number
  d_l_deal := F.d_l_deal
  d_l_thing := F.d_l_thing
  d_l_worth_of := F.d_l_worth_of
  d_l_worths := F.d_l_worths
  d_l_price_heard := F.d_l_price_heard
  d_l_is_short := F.d_l_is_short
  d_l_behind := F.d_l_behind
theorem dt_mk {K : PySem.W.Frag} {mg : Str → Option Value} {h : Heap} {x : Str} {st : Stmt} {ps : List Str} {f : Addr} {oc : Value} {od an : Option Addr} {osl : Array (Option Value)} {kV doc pm cdv ct : Value} (X : K.In h) (G : h.Ns mainGlobals mg)
    (a : PySem.W.nsIn K mainGlobals x = some (some (.ref f))) (l : K.lookup f = some ⟨oc, od, .func (PySem.W.fnOf x x (defArgs st) (defBody st) (defScope st) .none kV doc pm an cdv ct), osl⟩) (c : PySem.W.codeIn K cdv x = true) (k : PySem.W.keepIn K (.ref f) = true)
    (hb : ∀ (kV doc pm : Value) (an : Option Addr) (cdv ct : Value) (us : List Value), us.length = ps.length → bindArgs (PySem.W.fnOf x x (defArgs st) (defBody st) (defScope st) .none kV doc pm an cdv ct) ⟨us, []⟩ = pure (ps.zip us)) : DefT K mg x st ps :=
  ⟨f, _, fun_mk (st := st) l c k, PySem.W.mg_of X G a, (fun_mk (st := st) l c k).binds hb⟩
theorem no_mk {K : PySem.W.Frag} {mg : Str → Option Value} {h : Heap} {x : Str} (X : K.In h) (G : h.Ns mainGlobals mg) (a : PySem.W.nsIn K mainGlobals x = some none) : mg x = none := PySem.W.mg_none_of X G a
theorem cst_mk {K : PySem.W.Frag} {mg : Str → Option Value} {h : Heap} {x : Str} {a : Addr} {od : Option Addr} {i j : Int} {t u : Tok} {n : Nat} {sl : Array (Option Value)} (X : K.In h) (G : h.Ns mainGlobals mg)
    (e : PySem.W.nsIn K mainGlobals x = some (some (.ref a))) (l : K.lookup a = some ⟨.type "tuple", od, .seq #[.int i t, .int j u] n, sl⟩) : CstT K mg x (.tuple [.int i, .int j]) :=
  ⟨a, PySem.W.mg_of X G e, fun H => .tup (xs := [.int i, .int j]) (.inr ⟨_, _, _, l, rfl, rfl, (by show (2 : Nat) ≤ sizeLine; decide), .cons ⟨t, rfl⟩ (.cons ⟨u, rfl⟩ .nil)⟩) (.cons (.int i) (.cons (.int j) .nil))⟩
theorem np_mk {K : PySem.W.Frag} {mg : Str → Option Value} {h : Heap} (X : K.In h) (G : h.Ns mainGlobals mg) {S C fI N : Addr} {nm q : Str} {bs bm : List Value} {sn : List Str} {sub : List Value} {ab : Bool} {col : Option Bool} {dd : Option Addr} {m0 m1 m2 m3 m5 : Option Value} {oc : Value} {od an : Option Addr} {osl : Array (Option Value)} {kV doc pm cdv ct : Value}
    (aS : PySem.W.nsIn K mainGlobals "SoldError" = some (some (.ref S))) (aC : PySem.W.nsIn K mainGlobals "NoPrice" = some (some (.ref C)))
    (xL : K.lookup C = some (excClassObj nm q C N bs bm true sn sub ab col dd m0 m1 m2 m3 m5 "ValueError.__new__")) (hbm : PySem.HandSPX.refsVE bm = true)
    (sa : PySem.W.findIn K (.ref C) "__setattr__" = some (some (.builtin "object.__setattr__"))) (eC : PySem.W.subIn K (.ref C) (.type "BaseException") = some true) (tC : PySem.W.typeIn K (.ref C) = some (.type "type")) (kC : PySem.W.keepIn K (.ref C) = true)
    (iC : PySem.W.isClsIn K C = true) (sC : PySem.W.subIn K (.ref C) (.ref C) = some true)
    (sga : PySem.W.specialIn K (.ref S) "__getattribute__" = some (some (.builtin "type.__getattribute__"))) (srd : PySem.W.readsIn K S (.type "type") = true) (sfi : PySem.W.findCls K (.ref S) (.type "type") "__init__" = some (.val (.builtin "ValueError.__init__")))
    (a1 : PySem.W.findIn K (.ref C) "__init__" = some (some (.ref fI))) (t1 : PySem.W.typeIn K (.ref fI) = some (.type "function"))
    (l1 : K.lookup fI = some ⟨oc, od, .func (PySem.W.fnOf "__init__" "NoPrice.__init__" (defArgs npS) (defBody npS) (defScope npS) .none kV doc pm an cdv ct), osl⟩) (c1 : PySem.W.codeIn K cdv "NoPrice.__init__" = true) (k1 : PySem.W.keepIn K (.ref fI) = true) : ∃ S C fI, NpT K mg S C fI := by
  have e1 : (PySem.W.subIn K (.ref C) (.type "BaseException") == some true) = true := by rw [eC] <;> rfl
  have e2 : ((PySem.W.clsIn K C).isSome && PySem.W.typeIn K (.ref C) == some (.type "type")) = true := by
    have h2' : (PySem.W.clsIn K C).isSome = true := iC
    rw [h2', tC] <;> rfl
  have te : PySem.W.exmOne K (.ref C) (.ref C) = some true := by
    show (if (PySem.W.subIn K (.ref C) (.type "BaseException") == some true) = true then (if ((PySem.W.clsIn K C).isSome && PySem.W.typeIn K (.ref C) == some (.type "type")) = true then PySem.W.subIn K (.ref C) (.ref C) else none) else none) = some true
    rw [if_pos e1, if_pos e2]
    exact sC
  exact ⟨S, C, fI, ⟨⟨nm, q, N, bs, bm, sn, sub, ab, col, dd, m0, m1, m2, m3, m5, xL, hbm⟩, sa, eC, tC, kC⟩, PySem.W.mg_of X G aS, PySem.W.mg_of X G aC, sga, srd, sfi, a1, t1, te, ⟨_, fun_mk (st := npS) l1 c1 k1⟩⟩
/-- the law's own def, and its table -/
structure LawT (K : PySem.W.Frag) (mg : Str → Option Value) : Prop where
  ex : ∃ (fa ct Pt : Addr) (oc : Value) (od an : Option Addr) (osl : Array (Option Value)) (kV doc pm ctt : Value), mg "law" = some (.ref fa) ∧
    K.lookup fa = some ⟨oc, od, .func (PySem.W.fnOf "law" "law" (defArgs s_law) (defBody s_law) (defScope s_law) .none kV doc pm an (.ref ct) ctt), osl⟩ ∧ PySem.W.codeIn K (.ref ct) "law" = true ∧ PySem.W.tabIn K "law" = some (ct, Pt) ∧ K.lookup Pt = none
theorem law_mk {K : PySem.W.Frag} {mg : Str → Option Value} {h : Heap} (X : K.In h) (G : h.Ns mainGlobals mg) {fa ct Pt : Addr} {oc e : Value} {od an dd : Option Addr} {osl sl : Array (Option Value)} {vs : Array Value} {kV doc pm ctt : Value}
    (a : PySem.W.nsIn K mainGlobals "law" = some (some (.ref fa))) (l : K.lookup fa = some ⟨oc, od, .func (PySem.W.fnOf "law" "law" (defArgs s_law) (defBody s_law) (defScope s_law) .none kV doc pm an (.ref ct) ctt), osl⟩) (c : PySem.W.codeIn K (.ref ct) "law" = true)
    (l2 : K.lookup ct = some ⟨e, dd, .fields vs, sl⟩) (hv : vs[11]? = some (.ref Pt)) (n : K.lookup Pt = none) : LawT K mg :=
  ⟨fa, ct, Pt, oc, od, an, osl, kV, doc, pm, ctt, PySem.W.mg_of X G a, l, c, by
    unfold PySem.W.tabIn
    rw [a]
    dsimp only
    rw [l]
    dsimp only [PySem.W.fnOf]
    rw [l2]
    dsimp only
    rw [hv], n⟩
theorem walk_law {Ready : Nat → Deal → Prop} (R : Rounds Ready) {l : PySem.W.OpenLaw} {q : Program} {loose : List Str} {XP : (Str → Option Value) → Heap → Prop} {YP : World → Heap → Prop} {d d' : DefRec} {K : Params → PySem.W.Frag}
    (hn : l.most = some 63) (hdf : d.params.defaults = []) (hname : d.name = "law") (hseer : importsNone q = true) (hrec : (recsOf q).find? (fun e => e.name == ("law" : Str)) = some d') (hY : ∀ (w : World) (h : Heap), YP w h → (K w.params).In h)
    (F : ∀ (w : World) (mg : Str → Option Value) (h : Heap), YP w h → (K w.params).In h → h.Ns mainGlobals mg → Fx l.prog (K w.params) mg ∧ (∃ S C fI, NpT (K w.params) mg S C fI) ∧ LawT (K w.params) mg) :
    PySem.W.WalkO q loose XP YP l.row.toRowW d [] (fun f vs => PySem.call f vs) := by
  refine Att.attach_call hn hdf fun w s₀ s₁ mg mb fa o pm cd doc a vs ns G Y ho hd hcd hmg hobj hints hlen hg => ?_
  have KX := hY w _ Y
  obtain ⟨fx, ⟨S, C, fI, N⟩, ⟨fa', ct, Pt, oc, od, an, osl, kV, doc', pm', ctt, gl, lk, hcl, htab, nT⟩⟩ := F w mg _ Y KX G.T.g
  rw [hname, gl] at hmg
  cases hmg
  obtain ⟨hC, hT⟩ := PySem.W.tab_of G.T KX hrec htab
  have hB : Base s₁.heap := ⟨G.T.seer hseer, G.T.nodigits⟩
  refine law_callP KX G.T.g G.T.b G.T.builtins G.T.nolimit hB hg hT nT hC G.T.bmain hobj hints (Nat.le_trans hlen (by decide)) fun base H hK hns TB hBb e0 hP hS => ?_
  refine LamX.run_ofS (N := lawN) (ps := ["_law_script"]) (us := [.ref a]) (vs := [.ref a]) (k := 55) lk hcl sc_law ⟨rfl, by decide, by decide⟩ e0 (.of_eq rfl) (.cons rfl .nil) rfl fun hr => ?_
  obtain ⟨t, ht, hq⟩ := law_body (s := s₁) (Q := fun v _ => v = .bl true) R (fx.md hBb) N (A := callerA) rfl hr TB hS hlen hP (fun v H' dv => by cases dv; rfl)
  exact ⟨t, ht.nox, hq⟩
end My
namespace My
/-- q is z over E -/
def Fr (q : Rat) (z E : Nat) : Prop := 0 < E ∧ q * (E : Rat) = (z : Rat)
section
variable {a b q x : Rat} {y z E F X Y : Nat}
theorem nat_pos {E : Nat} (h : 0 < E) : (0 : Rat) < (E : Rat) := by exact_mod_cast h
theorem nat_nn (E : Nat) : (0 : Rat) ≤ (E : Rat) := by exact_mod_cast Nat.zero_le E
theorem Fr.scale (h : Fr a z E) (hF : 0 < F) : Fr a (z * F) (E * F) :=
  ⟨Nat.mul_pos h.1 hF, by rw [Rat.natCast_mul, Rat.natCast_mul, ← h.2]; grind⟩
theorem Fr.scaleL (h : Fr a z E) (hF : 0 < F) : Fr a (F * z) (F * E) := by
  rw [Nat.mul_comm F, Nat.mul_comm F]; exact h.scale hF
theorem Fr.add (h : Fr a z E) (k : Fr b y E) : Fr (a + b) (z + y) E :=
  ⟨h.1, by rw [Rat.natCast_add, ← h.2, ← k.2]; grind⟩
theorem Fr.mul (h : Fr a z E) (k : Fr b y F) : Fr (a * b) (z * y) (E * F) :=
  ⟨Nat.mul_pos h.1 k.1, by rw [Rat.natCast_mul, Rat.natCast_mul, ← h.2, ← k.2]; grind⟩
theorem Fr.le (h : Fr a z E) (k : Fr b y E) (hab : a ≤ b) : z ≤ y := by
  have h1 := Rat.mul_le_mul_of_nonneg_right hab (nat_nn E)
  rw [h.2, k.2] at h1
  exact_mod_cast h1
theorem Fr.sub (h : Fr a z E) (k : Fr b y E) (hab : b ≤ a) : Fr (a - b) (z - y) E := by
  have hle := k.le h hab
  refine ⟨h.1, ?_⟩
  have e : ((z - y : Nat) : Rat) + (y : Rat) = (z : Rat) := by rw [← Rat.natCast_add, Nat.sub_add_cancel hle]
  have := h.2; have := k.2
  grind
theorem Fr.pos (h : Fr a z E) (ha : 0 < a) : 0 < z := by
  have := Rat.mul_pos ha (nat_pos h.1)
  rw [h.2] at this
  exact_mod_cast this
theorem Fr.nn (h : Fr a z E) : 0 ≤ a := by
  have h1 := nat_pos h.1
  have h2 := nat_nn z
  rw [← h.2] at h2
  by_cases hh : 0 ≤ a
  · exact hh
  · have := Rat.mul_lt_mul_of_pos_right (show a < 0 by grind) h1
    grind
theorem Fr.inv (h : Fr a z E) (ha : 0 < a) : Fr (1 / a) E z := by
  refine ⟨h.pos ha, ?_⟩
  have e := inv_mul1 (q := a) (by grind)
  rw [← h.2]; grind
/-- a price: what is left over what goes with it -/
theorem Fr.quot (hx : Fr x X F) (hb : Fr b Y F) (hb0 : 0 < b) {P : Rat} (e : P * b = x) : Fr P X Y := by
  refine ⟨hb.pos hb0, ?_⟩
  rw [← hb.2, ← hx.2, ← e]; grind
theorem fr_one {E : Nat} (h : 0 < E) : Fr 1 E E := ⟨h, by grind⟩
theorem fr_zero {E : Nat} (h : 0 < E) : Fr 0 0 E := ⟨h, by simp⟩
theorem Fr.divInt (h : Fr a z E) : a = Rat.divInt (z : Int) (E : Int) := by
  rw [Rat.divInt_eq_div]
  have e := inv_mul1 (q := ((E : Int) : Rat)) (by have := nat_pos h.1; rw [Rat.intCast_natCast]; grind)
  have := h.2
  rw [Rat.intCast_natCast] at *
  rw [div_eq_mul1, Rat.intCast_natCast, ← this, Rat.mul_assoc, e, Rat.mul_one]
theorem Fr.num_le (h : Fr a z E) : a.num.natAbs ≤ z := by
  rw [h.divInt]
  have := natAbs_divInt_le (z : Int) (E : Int)
  simpa using this
theorem Fr.den_le (h : Fr a z E) : a.den ≤ E := by
  rw [h.divInt]
  have := den_divInt_le (n := (z : Int)) (d := (E : Int)) (by have := h.1; omega)
  simpa using this
theorem Fr.sz {k : Nat} (h : Fr a z E) (hk : 0 < k) (h1 : z < 2 ^ k) (h2 : E < 2 ^ k) : sz a ≤ k :=
  sz_of_lt hk (Nat.lt_of_le_of_lt h.num_le h1) (Nat.lt_of_le_of_lt h.den_le h2)
theorem fr_self (h : 0 ≤ q) : Fr q q.num.natAbs q.den := by
  refine ⟨q.den_pos, ?_⟩
  have e : q = Rat.divInt q.num (q.den : Int) := (Rat.num_divInt_den q).symm
  rw [Rat.divInt_eq_div] at e
  have e1 := inv_mul1 (q := ((q.den : Int) : Rat)) (by have := nat_pos q.den_pos; rw [Rat.intCast_natCast]; grind)
  rw [div_eq_mul1] at e
  have hn : ((q.num.natAbs : Nat) : Int) = q.num := Int.natAbs_of_nonneg ((Rat.num_nonneg).mpr h)
  have hc : ((q.num.natAbs : Nat) : Rat) = (q.num : Rat) := by rw [← Rat.intCast_natCast, hn]
  rw [hc]
  rw [Rat.intCast_natCast] at e e1
  generalize hA : (q.num : Rat) = A at *
  generalize hB : ((q.den : Nat) : Rat) = B at *
  rw [e, Rat.mul_assoc]
  rw [Rat.mul_comm B] at e1
  rw [e1, Rat.mul_one]
end
end My
namespace My
theorem plt {a i j : Nat} (h : a < 2 ^ i) (hij : i ≤ j) : a < 2 ^ j := Nat.lt_of_lt_of_le h (Nat.pow_le_pow_right (by decide) hij)
section
variable {q : Rat}
theorem fr_short (h : 0 ≤ q) (h1 : q.num.natAbs < 1000000000000) (h2 : q.den < 1000000000000) : ∃ n d, Fr q n d ∧ n < 2 ^ 40 ∧ d < 2 ^ 40 :=
  ⟨_, _, fr_self h, by omega, by omega⟩
theorem fr_num (h : NumOk q) : ∃ n d, Fr q n d ∧ 0 < n ∧ n < 2 ^ 40 ∧ d < 2 ^ 10 := by
  obtain ⟨h0, h1, h2⟩ := h
  have hf := fr_self (q := q) (by grind)
  have hd := q.den_pos
  have h3 : q.num.natAbs * 1 ≤ q.num.natAbs * q.den := Nat.mul_le_mul_left _ hd
  exact ⟨_, _, hf, hf.pos h0, by omega, by omega⟩
theorem fr_num0 (h : Num0 q) : ∃ n d, Fr q n d ∧ n < 2 ^ 40 ∧ d < 2 ^ 10 := by
  rcases h with rfl | h
  · exact ⟨0, 1, fr_zero (by decide), by decide, by decide⟩
  · obtain ⟨n, d, a, _, b, c⟩ := fr_num h
    exact ⟨n, d, a, b, c⟩
theorem fr_disc (h : DiscOk q) : ∃ n d, Fr q n d ∧ n < d ∧ d < 2 ^ 7 ∧ Fr (1 - q) (d - n) d := by
  obtain ⟨h0, h1, h2⟩ := h
  have hf := fr_self h0
  have h4 := (fr_one q.den_pos).sub hf (by grind)
  have h5 := h4.pos (by grind)
  exact ⟨_, _, hf, by omega, by omega, h4⟩
/-- a drawn thing's worth: what stays, what goes with the price, over one ground -/
structure LinOf (α β : Rat) (a b δ : Nat) : Prop where
  al : Fr α a δ
  be : Fr β b δ
  g : δ < 2 ^ 140
  az : a < 2 ^ 190
  bz : b < 2 ^ 190
  le : b ≤ δ * 2 ^ 50
theorem lin_al {α : Rat} {a δ : Nat} (h : Fr α a δ) (h1 : δ < 2 ^ 140) (h2 : a < 2 ^ 190) : LinOf α 0 a 0 δ := ⟨h, fr_zero h.1, h1, h2, by decide, Nat.zero_le _⟩
theorem lin_be {β : Rat} {b δ : Nat} (h : Fr β b δ) (h1 : δ < 2 ^ 140) (h2 : b < 2 ^ 50) : LinOf 0 β 0 b δ := ⟨fr_zero h.1, h, h1, by decide, plt h2 (by decide), by have := h.1; have : 1 * 2 ^ 50 ≤ δ * 2 ^ 50 := Nat.mul_le_mul_right _ this; omega⟩
theorem draw_lin {t : Th} {m : Rat} (p : Rat) (ht : DrawnTh t) (hm : Num0 m) : ∃ α β a b δ, thingW t p m = α + β * p ∧ LinOf α β a b δ ∧ ∀ c, t = .shares c → β = c := by
  cases t with
  | shares c =>
    obtain ⟨n, d, h1, h2, h3, h4⟩ := fr_num (show NumOk c from ht)
    exact ⟨0, c, _, _, _, by show c * p = 0 + c * p; grind, lin_be h1 (plt h4 (by decide)) (plt h3 (by decide)), fun c' e => by cases e; rfl⟩
  | kept c old =>
    obtain ⟨hc, ho⟩ : NumOk c ∧ NumOk old := ht
    obtain ⟨n, d, h1, h2, h3, h4⟩ := fr_num hc
    obtain ⟨n', d', k1, k2, k3, k4⟩ := fr_num ho
    by_cases hp : p ≤ old
    · exact ⟨c * old, 0, _, _, _, by show c * rmax p old = _; rw [rmax_ge hp]; grind, lin_al (h1.mul k1) (plt (mul_lt_pow h4 k4) (by decide)) (plt (mul_lt_pow h3 k3) (by decide)), fun c' e => by cases e⟩
    · exact ⟨0, c, _, _, _, by show c * rmax p old = _; rw [rmax_le (by grind)]; grind, lin_be h1 (plt h4 (by decide)) (plt h3 (by decide)), fun c' e => by cases e⟩
  | note amt cap disc =>
    obtain ⟨ha, hk, he⟩ : NumOk amt ∧ (∀ k, cap = some k → NumOk k) ∧ ∀ e, disc = some e → DiscOk e := ht
    obtain ⟨n, d, h1, h2, h3, h4⟩ := fr_num ha
    have hd : DiscOk (disc.getD 0) := by
      cases disc with
      | none => show DiscOk 0; exact ⟨by grind, by grind, by decide⟩
      | some e => exact he e rfl
    obtain ⟨en, ed, e1, e2, e3, e4⟩ := fr_disc hd
    have hpos : 0 < 1 - disc.getD 0 := by have := hd.2.1; grind
    have hbare : Fr (amt / (1 - disc.getD 0)) (n * ed) (d * (ed - en)) := by rw [div_eq_mul1]; exact h1.mul (e4.inv hpos)
    have hl : LinOf (amt / (1 - disc.getD 0)) 0 (n * ed) 0 (d * (ed - en)) := lin_al hbare (plt (mul_lt_pow h4 (show ed - en < 2 ^ 7 by omega)) (by decide)) (plt (mul_lt_pow h3 e3) (by decide))
    cases cap with
    | none => exact ⟨_, _, _, _, _, by show amt / (1 - disc.getD 0) = amt / (1 - disc.getD 0) + 0 * p; grind, hl, fun c' e => by cases e⟩
    | some k =>
      obtain ⟨kn, kd, k1, k2, k3, k4⟩ := fr_num (hk k rfl)
      have e1 : p * amt / k = amt / k * p := by rw [div_eq_mul1, div_eq_mul1 amt]; grind
      by_cases hp : p * amt / k ≤ amt / (1 - disc.getD 0)
      · exact ⟨_, _, _, _, _, by show rmax _ (p * amt / k) = amt / (1 - disc.getD 0) + 0 * p; rw [rmax_le hp]; grind, hl, fun c' e => by cases e⟩
      · have hb : Fr (amt / k) (n * kd) (d * kn) := by rw [div_eq_mul1]; exact h1.mul (k1.inv (hk k rfl).1)
        exact ⟨0, amt / k, _, _, _, by show rmax _ (p * amt / k) = _; rw [rmax_ge (by grind), e1]; grind, lin_be hb (plt (mul_lt_pow h4 k3) (by decide)) (plt (mul_lt_pow h3 k4) (by decide)), fun c' e => by cases e⟩
  | weighed c old thn =>
    obtain ⟨hc, ho, hn⟩ : NumOk c ∧ NumOk old ∧ NumOk thn := ht
    obtain ⟨cn, cd, c1, c2, c3, c4⟩ := fr_num hc
    by_cases hp : old ≤ p
    · exact ⟨0, c, _, _, _, by show weighedW c old thn p m = _; unfold weighedW; rw [if_pos hp]; grind, lin_be c1 (plt c4 (by decide)) (plt c3 (by decide)), fun c' e => by cases e⟩
    · obtain ⟨on, od, o1, o2, o3, o4⟩ := fr_num ho
      obtain ⟨tn, td, t1, t2, t3, t4⟩ := fr_num hn
      obtain ⟨mn, md, m1, m3, m4⟩ := fr_num0 hm
      have m0 := m1.nn
      have hq : 0 < thn * old + m := by have := Rat.mul_pos hn.1 ho.1; grind
      have hsum : Fr (thn * old + m) (tn * on * md + td * od * mn) (td * od * md) := ((t1.mul o1).scale m1.1).add (m1.scaleL (t1.mul o1).1)
      have hw := hsum.inv hq
      have hN : td * od * md < 2 ^ 30 := plt (mul_lt_pow (mul_lt_pow t4 o4) m4) (by decide)
      have hn1 : tn * on * md < 2 ^ 90 := plt (mul_lt_pow (mul_lt_pow t3 o3) m4) (by decide)
      have hn2 : td * od * mn < 2 ^ 60 := plt (mul_lt_pow (mul_lt_pow t4 o4) m3) (by decide)
      have hn3 : tn * on * md + td * od * mn < 2 ^ 91 := by omega
      have hA := ((c1.mul o1).mul (m1.mul hw)).scale t1.1
      have hB := ((c1.mul o1).mul (t1.mul hw)).scale m1.1
      have eg : cd * od * (td * (tn * on * md + td * od * mn)) * md = cd * od * (md * (tn * on * md + td * od * mn)) * td := by
        generalize tn * on * md + td * od * mn = S
        ac_rfl
      rw [eg] at hB
      refine ⟨_, _, _, _, _, weighed_lin hp, ⟨hA, hB, ?_, ?_, ?_, ?_⟩, fun c' e => by cases e⟩
      · exact plt (mul_lt_pow (mul_lt_pow (mul_lt_pow c4 o4) (mul_lt_pow m4 hn3)) t4) (by decide)
      · exact plt (mul_lt_pow (mul_lt_pow (mul_lt_pow c3 o3) (mul_lt_pow m3 hN)) t4) (by decide)
      · exact plt (mul_lt_pow (mul_lt_pow (mul_lt_pow c3 o3) (mul_lt_pow t3 hN)) m4) (by decide)
      · have q1 : cn * on * (tn * (td * od * md)) * md = cn * (od * md * td * (tn * on * md)) := by ac_rfl
        have q2 : cd * od * (md * (tn * on * md + td * od * mn)) * td = cd * (od * md * td * (tn * on * md + td * od * mn)) := by
          generalize tn * on * md + td * od * mn = S
          ac_rfl
        rw [q1, q2]
        have r1 : od * md * td * (tn * on * md) ≤ od * md * td * (tn * on * md + td * od * mn) := Nat.mul_le_mul_left _ (Nat.le_add_right _ _)
        have r2 : 1 * (od * md * td * (tn * on * md + td * od * mn)) ≤ cd * (od * md * td * (tn * on * md + td * od * mn)) := Nat.mul_le_mul_right _ c1.1
        have r3 : cn * (od * md * td * (tn * on * md)) ≤ 2 ^ 50 * (cd * (od * md * td * (tn * on * md + td * od * mn))) := Nat.mul_le_mul (by omega) (by omega)
        rw [Nat.mul_comm (2 ^ 50)] at r3
        exact r3
theorem draw_list {m : Rat} (p : Rat) (hm : Num0 m) : ∀ {ts : List Th}, (∀ t ∈ ts, DrawnTh t) → ∃ α β a b δ, (ts.map fun t => thingW t p m).sum = α + β * p ∧ Fr α a δ ∧ Fr β b δ ∧ δ ≤ 2 ^ (140 * ts.length) ∧ b ≤ δ * (ts.length * 2 ^ 50) ∧ ((∃ c, 0 < c ∧ Th.shares c ∈ ts) → 0 < β) ∧
    ∀ t ∈ ts, ∃ α β a b, thingW t p m = α + β * p ∧ Fr α a δ ∧ Fr β b δ
  | [], _ => ⟨0, 0, 0, 0, 1, by simp; grind, fr_zero (by decide), fr_zero (by decide), by simp, by omega, fun ⟨c, _, h⟩ => by simp at h, by simp⟩
  | t :: ts, h => by
    obtain ⟨α, β, a, b, δ, e, h1, h2, h3, h4, h5, h6⟩ := draw_list p hm (ts := ts) fun u hu => h u (List.mem_cons_of_mem _ hu)
    obtain ⟨α', β', a', b', δ', e', L, hs⟩ := draw_lin p (h t List.mem_cons_self) hm
    refine ⟨α' + α, β' + β, _, _, _, ?_, (L.al.scale h1.1).add (h1.scaleL L.al.1), (L.be.scale h1.1).add (h2.scaleL L.al.1), ?_, ?_, ?_, ?_⟩
    · simp only [List.map_cons, List.sum_cons]; rw [e, e']; grind
    · rw [List.length_cons, Nat.mul_add, Nat.mul_one, Nat.pow_add, Nat.mul_comm]
      exact Nat.mul_le_mul h3 (Nat.le_of_lt L.g)
    · rw [List.length_cons, Nat.add_mul, Nat.mul_add]
      have q1 : b' * δ ≤ δ' * 2 ^ 50 * δ := Nat.mul_le_mul_right _ L.le
      have q2 : δ' * b ≤ δ' * (δ * (ts.length * 2 ^ 50)) := Nat.mul_le_mul_left _ h4
      have q3 : δ' * 2 ^ 50 * δ = δ' * δ * (1 * 2 ^ 50) := by rw [Nat.one_mul]; ac_rfl
      have q4 : δ' * (δ * (ts.length * 2 ^ 50)) = δ' * δ * (ts.length * 2 ^ 50) := by ac_rfl
      omega
    · rintro ⟨c, hc, hm'⟩
      have n1 := h2.nn
      have n2 := L.be.nn
      rcases List.mem_cons.mp hm' with e2 | hm'
      · have := hs c e2.symm; grind
      · have := h5 ⟨c, hc, hm'⟩; grind
    · intro u hu
      rcases List.mem_cons.mp hu with rfl | hu
      · exact ⟨_, _, _, _, e', L.al.scale h1.1, L.be.scale h1.1⟩
      · obtain ⟨α2, β2, a2, b2, g1, g2, g3⟩ := h6 u hu
        exact ⟨_, _, _, _, g1, g2.scaleL L.al.1, g3.scaleL L.al.1⟩
end
end My
namespace My
theorem mul_le_pow {a b i j : Nat} (h1 : a ≤ 2 ^ i) (h2 : b ≤ 2 ^ j) : a * b ≤ 2 ^ (i + j) := by rw [Nat.pow_add]; exact Nat.mul_le_mul h1 h2
/-- q is whole over E -/
def On (E : Nat) (q : Rat) : Prop := ∃ z, Fr q z E
section
variable {E F : Nat} {q x u α c β P : Rat}
theorem On.up (h : On E q) (hF : 0 < F) : On (E * F) q := let ⟨_, k⟩ := h; ⟨_, k.scale hF⟩
theorem On.eq (h : On E q) (e : E = F) : On F q := e ▸ h
theorem on_sum (hE : 0 < E) : ∀ {l : List Rat}, (∀ x ∈ l, On E x) → On E l.sum
  | [], _ => ⟨0, fr_zero hE⟩
  | a :: t, h => by
    obtain ⟨z, hz⟩ := on_sum hE (l := t) fun x hx => h x (List.mem_cons_of_mem _ hx)
    obtain ⟨y, hy⟩ := h a List.mem_cons_self
    exact ⟨_, by rw [List.sum_cons]; exact hy.add hz⟩
theorem price_fr {U W A Δ Z B : Nat} (hu : Fr u U W) (ha : Fr α A Δ) (hc : Fr c Z E) (hb : Fr β B Δ) (e : P * (c + β) = u - α) (hP : 0 < P) (h0 : 0 < c + β) : Fr P ((U * Δ - W * A) * E) (W * (Z * Δ + E * B)) := by
  have h1 := Rat.mul_pos hP h0
  have hx := ((hu.scale ha.1).sub (ha.scaleL hu.1) (by grind)).scale hc.1
  have hy := ((hc.scale ha.1).add (hb.scaleL hc.1)).scaleL hu.1
  rw [show W * (E * Δ) = W * Δ * E by ac_rfl] at hy
  exact hx.quot hy h0 e
theorem sum_ge {l : List Rat} (h : ∀ x ∈ l, 0 ≤ x) : ∀ x ∈ l, x ≤ l.sum := by
  induction l with
  | nil => simp
  | cons a t ih =>
    intro x hx
    have h1 := sum_nonneg fun x hx => h x (List.mem_cons_of_mem _ hx)
    have h2 := h a List.mem_cons_self
    rw [List.sum_cons]
    rcases List.mem_cons.mp hx with rfl | hx
    · grind
    · have := ih (fun x hx => h x (List.mem_cons_of_mem _ hx)) x hx
      grind
end
/-- a deal as the rounds make it: sizes -/
structure RI (s r b : Nat) (d : Deal) (bigs : List Rat) (smalls : List Th) (E : Nat) : Prop where
  things : d.things = bigs.map .shares ++ smalls
  pos : ∀ c ∈ bigs, 0 < c
  fr : ∀ c ∈ bigs, On E c
  cnt : On E d.count
  tot : ∃ Z, Fr (bigs.sum + d.count) Z E ∧ E + Z ≤ 2 ^ s
  small : ∀ t ∈ smalls, DrawnTh t
  sl : smalls.length ≤ r
  bl : bigs.length ≤ b
  money : Num0 d.money
  part : DiscOk d.part
  wn : d.worth.num.natAbs < 1000000000000
  wd : d.worth.den < 1000000000000
  some : ∃ c, 0 < c ∧ Th.shares c ∈ d.things
theorem DrawnTh.ok {t : Th} (h : DrawnTh t) : ThOk t := by
  cases t with
  | shares c => exact (show NumOk c from h).1
  | note amt cap disc =>
    obtain ⟨ha, hk, he⟩ : NumOk amt ∧ (∀ k, cap = Option.some k → NumOk k) ∧ ∀ e, disc = Option.some e → DiscOk e := h
    exact ⟨ha.1, fun k e => (hk k e).1, fun e g => ⟨(he e g).1, (he e g).2.1⟩⟩
  | kept c old =>
    obtain ⟨a, b⟩ : NumOk c ∧ NumOk old := h
    exact ⟨a.1, b.1⟩
  | weighed c old thn =>
    obtain ⟨a, b, e⟩ : NumOk c ∧ NumOk old ∧ NumOk thn := h
    exact ⟨a.1, b.1, e.1⟩
theorem numOk_sz {q : Rat} (h : NumOk q) : sz q ≤ 40 := by
  obtain ⟨n, d, h1, _, h2, h3⟩ := fr_num h
  exact h1.sz (by decide) h2 (plt h3 (by decide))
theorem num0_sz {q : Rat} (h : Num0 q) : sz q ≤ 40 := by
  rcases h with rfl | h
  · rw [sz_zero]; omega
  · exact numOk_sz h
theorem disc_sz {q : Rat} (h : DiscOk q) : sz q ≤ 7 := by
  obtain ⟨n, d, h1, h2, h3, _⟩ := fr_disc h
  exact h1.sz (by decide) (by omega) h3
theorem DrawnTh.sz {t : Th} (h : DrawnTh t) : ThSz 45 t := by
  cases t with
  | shares c => have := numOk_sz (show NumOk c from h); show My.sz c ≤ 45; omega
  | note amt cap disc =>
    obtain ⟨ha, hk, he⟩ : NumOk amt ∧ (∀ k, cap = Option.some k → NumOk k) ∧ ∀ e, disc = Option.some e → DiscOk e := h
    refine ⟨by have := numOk_sz ha; omega, fun k e => by have := numOk_sz (hk k e); omega, fun e g => by have := disc_sz (he e g); omega⟩
  | kept c old =>
    obtain ⟨a, b⟩ : NumOk c ∧ NumOk old := h
    exact ⟨by have := numOk_sz a; omega, by have := numOk_sz b; omega⟩
  | weighed c old thn =>
    obtain ⟨a, b, e⟩ : NumOk c ∧ NumOk old ∧ NumOk thn := h
    exact ⟨by have := numOk_sz a; omega, by have := numOk_sz b; omega, by have := numOk_sz e; omega⟩
section
variable {s r b E : Nat} {d : Deal} {bigs : List Rat} {smalls : List Th} {P : Rat}
theorem num0_nn {q : Rat} (h : Num0 q) : 0 ≤ q := by
  rcases h with rfl | h
  · grind
  · have := h.1; grind
theorem RI.ok (h : RI s r b d bigs smalls E) : DealOk d where
  things t ht := by
    rw [h.things] at ht
    rcases List.mem_append.mp ht with ht | ht
    · obtain ⟨c, hc, rfl⟩ := List.mem_map.mp ht
      exact h.pos c hc
    · exact (h.small t ht).ok
  money := num0_nn h.money
  count := let ⟨_, k⟩ := h.cnt; k.nn
  part := ⟨h.part.1, h.part.2.1⟩
  some := h.some
theorem RI.big (h : RI s r b d bigs smalls E) : ∀ c ∈ d.count :: bigs, sz c ≤ s + 1 := fun c hc => by
  obtain ⟨Z, h1, h2⟩ := h.tot
  have n1 := h.ok.count
  have n2 := sum_nonneg fun x hx => (show 0 ≤ x by have := h.pos x hx; grind)
  have key : On E c ∧ c ≤ bigs.sum + d.count := by
    rcases List.mem_cons.mp hc with rfl | hc
    · exact ⟨h.cnt, by grind⟩
    · have := sum_ge (fun x hx => (show 0 ≤ x by have := h.pos x hx; grind)) c hc
      exact ⟨h.fr c hc, by grind⟩
  obtain ⟨⟨z, hz⟩, hle⟩ := key
  have h3 := hz.le h1 hle
  have h4 : 2 ^ (s + 1) = 2 ^ s * 2 := Nat.pow_succ ..
  have h5 := Nat.two_pow_pos s
  exact hz.sz (by omega) (by omega) (by omega)
theorem RI.szDeal (h : RI s r b d bigs smalls E) (hs : s + 1 ≤ 11000) (hl : b + r ≤ 16) : SzDeal d where
  ok := h.ok
  len := by
    rw [h.things, List.length_append, List.length_map]
    have := h.sl; have := h.bl; omega
  th t ht := by
    rw [h.things] at ht
    rcases List.mem_append.mp ht with ht | ht
    · obtain ⟨c, hc, rfl⟩ := List.mem_map.mp ht
      exact .inl ⟨c, rfl, by have := h.big c (List.mem_cons_of_mem _ hc); omega⟩
    · exact .inr (h.small t ht).sz
  money := by have := num0_sz h.money; omega
  worth := by
    have := h.wn; have := h.wd
    exact sz_of_lt (by decide) (by omega) (by omega)
  count := by have := h.big d.count List.mem_cons_self; omega
  part := by have := disc_sz h.part; omega
/-- the sum of the things' worths -/
theorem RI.sum (h : RI s r b d bigs smalls E) (P : Rat) : (thingWs d P).sum = bigs.sum * P + (smalls.map fun t => thingW t P d.money).sum := by
  unfold thingWs
  rw [h.things, List.map_append, List.sum_append, List.map_map, ← sum_map_mul]
  rfl
/-- what the pool is, in its two ways -/
theorem pool_two (ho : DealOk d) (hw : worthAt d P = d.worth) : (poolW d P (thingWs d P).sum = P * d.count ∧ (thingWs d P).sum + P * d.count = d.worth) ∨
    (poolW d P (thingWs d P).sum = d.part * (d.worth + d.money) ∧ (thingWs d P).sum = d.worth * (1 - d.part) - d.part * d.money) := by
  rw [worthAt_eq] at hw
  by_cases hc : d.part * ((thingWs d P).sum + d.money) / (1 - d.part) ≤ P * d.count
  · have e : poolW d P (thingWs d P).sum = P * d.count := by unfold poolW; rw [rmax_le hc]
    exact .inl ⟨e, by rw [← e]; exact hw⟩
  · have e : poolW d P (thingWs d P).sum = d.part * ((thingWs d P).sum + d.money) / (1 - d.part) := by unfold poolW; rw [rmax_ge (by grind)]
    have e1 := inv_mul1 (q := 1 - d.part) (by have := ho.part.2; grind)
    rw [div_eq_mul1] at e
    generalize 1 / (1 - d.part) = k at *
    generalize poolW d P (thingWs d P).sum = pl at *
    generalize (thingWs d P).sum = T at *
    have h1 : pl * (1 - d.part) = d.part * (T + d.money) := by rw [e]; grind
    refine .inr ⟨by grind, by grind⟩
end
end My
namespace My
section
variable {s r b E : Nat} {d : Deal} {bigs : List Rat} {smalls : List Th} {P : Rat}
/-- where the counts lie: each kind -/
theorem kept_cases (h : RI s r b d bigs smalls E) (hP : 0 < P) {x : Rat} (hx : x ∈ behindCounts d P) : x ∈ bigs ∨ (∃ t ∈ smalls, x = thingW t P d.money * (1 / P)) ∨ x = d.money * (1 / P) := by
  unfold behindCounts keptCounts at hx
  obtain ⟨y, hy, rfl⟩ := List.mem_map.mp (List.mem_filter.mp hx).1
  have e1 := inv_mul1 (q := P) (by grind)
  rw [div_eq_mul1]
  rcases List.mem_append.mp hy with hy | hy
  · obtain ⟨t, ht, rfl⟩ := List.mem_map.mp hy
    rw [h.things] at ht
    rcases List.mem_append.mp ht with ht | ht
    · obtain ⟨c, hc, rfl⟩ := List.mem_map.mp ht
      refine .inl ?_
      rw [show thingW (.shares c) P d.money * (1 / P) = c by show c * P * (1 / P) = c; rw [Rat.mul_assoc, e1, Rat.mul_one]]
      exact hc
    · exact .inr (.inl ⟨t, ht, rfl⟩)
  · rw [List.mem_singleton.mp hy]; exact .inr (.inr rfl)
/-- the price over a known ground; the counts behind over another -/
theorem RI.price (h : RI s r b d bigs smalls E) (hr : r ≤ 6) (hP : 0 < P) (hw : worthAt d P = d.worth) (hw0 : 0 < d.worth) :
    ∃ X Y, Fr P X Y ∧ X < 2 ^ (s + 140 * r + 111) ∧ Y < 2 ^ (s + 140 * r + 111) ∧
    ∃ E', (∀ x ∈ behindCounts d P, On E' x) ∧ On E' (poolW d P (thingWs d P).sum / P) ∧ ∃ Z, Fr ((d.worth + d.money) * (1 / P)) Z E' ∧ E' + Z ≤ 2 ^ (s + 140 * r + (s + 140 * r + 111) + 99) := by
  obtain ⟨wn, wd, hwf, hwn, hwd⟩ := fr_short (q := d.worth) (by grind) h.wn h.wd
  obtain ⟨mn, md, hmf, hmn, hmd⟩ := fr_num0 h.money
  obtain ⟨pn, pd, hpf, hpl, hpd, hp1⟩ := fr_disc h.part
  obtain ⟨α, β, A, B, Δ, el, hA, hB, hΔ, hBl, hβ, hmem⟩ := draw_list P h.money h.small
  obtain ⟨Z, hZ, hZs⟩ := h.tot
  have hE := hZ.1
  have ho := h.ok
  have hcn := ho.count
  have hbn := sum_nonneg fun x hx => (show 0 ≤ x by have := h.pos x hx; grind)
  obtain ⟨Zb, hZb⟩ := on_sum hE h.fr
  have hZle : Zb ≤ Z := hZb.le hZ (by grind)
  have hb0 : 0 < bigs.sum + β := by
    have n1 := hB.nn
    obtain ⟨c, hc, hm⟩ := h.some
    rw [h.things] at hm
    rcases List.mem_append.mp hm with hm | hm
    · obtain ⟨c', hc', _⟩ := List.mem_map.mp hm
      have := sum_ge (fun x hx => (show 0 ≤ x by have := h.pos x hx; grind)) c' hc'
      have := h.pos c' hc'
      grind
    · have := hβ ⟨c, hc, hm⟩; grind
  have hT := h.sum P
  rw [el] at hT
  -- one ground for both ways
  have key : ∃ u c U Z', Fr u U (wd * md * pd) ∧ U ≤ wn * md * pd ∧ Fr c Z' E ∧ Z' ≤ Z ∧ P * (c + β) = u - α ∧ 0 < c + β := by
    have hu1 := (hwf.scale hmf.1).scale hpf.1
    rcases pool_two ho hw with ⟨e1, e2⟩ | ⟨e1, e2⟩
    · exact ⟨d.worth, bigs.sum + d.count, _, _, hu1, Nat.le_refl _, hZ, Nat.le_refl _, by grind, by grind⟩
    · have g1 := (hwf.mul hp1).scale hmf.1
      have g2 := (hpf.mul hmf).scaleL hwf.1
      rw [show wd * pd * md = wd * md * pd by ac_rfl] at g1
      rw [show wd * (pd * md) = wd * md * pd by ac_rfl] at g2
      have e3 : P * (bigs.sum + β) = d.worth * (1 - d.part) - d.part * d.money - α := by grind
      have e4 := Rat.mul_pos hP hb0
      have n2 := hA.nn
      refine ⟨_, bigs.sum, _, _, g1.sub g2 (by grind), ?_, hZb, hZle, e3, hb0⟩
      have q1 : wn * (pd - pn) * md ≤ wn * pd * md := Nat.mul_le_mul_right _ (Nat.mul_le_mul_left _ (Nat.sub_le _ _))
      rw [show wn * pd * md = wn * md * pd by ac_rfl] at q1
      omega
  obtain ⟨u, c, U, Z', hu, hU, hc, hZ', ep, hcb⟩ := key
  have hPf := price_fr hu hA hc hB ep hP hcb
  generalize hWW : wd * md * pd = W at *
  have hW : W < 2 ^ 57 := by rw [← hWW]; exact plt (mul_lt_pow (mul_lt_pow hwd hmd) hpd) (by decide)
  have hU57 : U < 2 ^ 57 := Nat.lt_of_le_of_lt hU (plt (mul_lt_pow (mul_lt_pow hwn hmd) hpd) (by decide))
  have hEs : E ≤ 2 ^ s := by omega
  have hΔr : Δ ≤ 2 ^ (140 * r) := Nat.le_trans hΔ (Nat.pow_le_pow_right (by decide) (Nat.mul_le_mul_left _ h.sl))
  have hX : (U * Δ - W * A) * E < 2 ^ (s + 140 * r + 111) := by
    have q1 : (U * Δ - W * A) * E ≤ U * Δ * E := Nat.mul_le_mul_right _ (Nat.sub_le _ _)
    have q2 : U * Δ * E ≤ 2 ^ (57 + 140 * r + s) := mul_le_pow (mul_le_pow (Nat.le_of_lt hU57) hΔr) hEs
    have q3 : 2 ^ (57 + 140 * r + s) < 2 ^ (s + 140 * r + 111) := Nat.pow_lt_pow_right (by decide) (by omega)
    omega
  have hY : W * (Z' * Δ + E * B) < 2 ^ (s + 140 * r + 111) := by
    have q0 : B ≤ Δ * (6 * 2 ^ 50) := Nat.le_trans hBl (Nat.mul_le_mul_left _ (Nat.mul_le_mul_right _ (Nat.le_trans h.sl hr)))
    have q1 : E * B ≤ E * (6 * 2 ^ 50) * Δ := by
      have := Nat.mul_le_mul_left E q0
      rw [show E * (Δ * (6 * 2 ^ 50)) = E * (6 * 2 ^ 50) * Δ by ac_rfl] at this
      exact this
    have q2 : Z' * Δ + E * B ≤ (Z' + E * (6 * 2 ^ 50)) * Δ := by rw [Nat.add_mul]; omega
    have q3 : Z' + E * (6 * 2 ^ 50) ≤ 2 ^ (s + 53) := by
      rw [Nat.pow_add]
      omega
    have q4 : (Z' + E * (6 * 2 ^ 50)) * Δ ≤ 2 ^ (s + 53 + 140 * r) := mul_le_pow q3 hΔr
    have q5 : W * (Z' * Δ + E * B) ≤ 2 ^ (57 + (s + 53 + 140 * r)) := mul_le_pow (Nat.le_of_lt hW) (Nat.le_trans q2 q4)
    have q6 : 2 ^ (57 + (s + 53 + 140 * r)) < 2 ^ (s + 140 * r + 111) := Nat.pow_lt_pow_right (by decide) (by omega)
    omega
  generalize (U * Δ - W * A) * E = X at *
  generalize W * (Z' * Δ + E * B) = Y at *
  refine ⟨X, Y, hPf, hX, hY, E * Δ * W * X, ?_, ?_, ?_⟩
  · intro x hx
    have hi := hPf.inv hP
    have hX0 := hPf.pos hP
    have hWp : 0 < W := hu.1
    have e1 := inv_mul1 (q := P) (by grind)
    rcases kept_cases h hP hx with hx | ⟨t, ht, rfl⟩ | rfl
    · exact ((h.fr x hx).up (Nat.mul_pos (Nat.mul_pos hA.1 hWp) hX0)).eq (by ac_rfl)
    · obtain ⟨al, be, a, b', g1, g2, g3⟩ := hmem t ht
      have k1 : On (Δ * X) (al * (1 / P) + be) := ⟨_, (g2.mul hi).add (g3.scale hX0)⟩
      have e2 : thingW t P d.money * (1 / P) = al * (1 / P) + be := by rw [g1]; grind
      rw [e2]
      exact (k1.up (Nat.mul_pos hE hWp)).eq (by ac_rfl)
    · have k1 : On (md * X) (d.money * (1 / P)) := ⟨_, hmf.mul hi⟩
      exact (k1.up (Nat.mul_pos (Nat.mul_pos hE hA.1) (Nat.mul_pos hwf.1 hpf.1))).eq (by rw [← hWW]; ac_rfl)
  · have hi := hPf.inv hP
    have hX0 := hPf.pos hP
    have hWp : 0 < W := hu.1
    have e1 := inv_mul1 (q := P) (by grind)
    rw [div_eq_mul1]
    rcases pool_two ho hw with ⟨e2, _⟩ | ⟨e2, _⟩
    · rw [e2, show P * d.count * (1 / P) = d.count by grind]
      exact (h.cnt.up (Nat.mul_pos (Nat.mul_pos hA.1 hWp) hX0)).eq (by ac_rfl)
    · rw [e2]
      have k1 : On (pd * (wd * md) * X) (d.part * (d.worth + d.money) * (1 / P)) := ⟨_, (hpf.mul ((hwf.scale hmf.1).add (hmf.scaleL hwf.1))).mul hi⟩
      exact (k1.up (Nat.mul_pos hE hA.1)).eq (by rw [← hWW]; ac_rfl)
  · have hi := hPf.inv hP
    have hX0 := hPf.pos hP
    have k1 := ((((hwf.scale hmf.1).add (hmf.scaleL hwf.1))).mul hi).scale (Nat.mul_pos (Nat.mul_pos hE hA.1) hpf.1)
    rw [show wd * md * X * (E * Δ * pd) = E * Δ * W * X by rw [← hWW]; ac_rfl] at k1
    refine ⟨_, k1, ?_⟩
    have q1 : wn * md < 2 ^ 50 := plt (mul_lt_pow hwn hmd) (by decide)
    have q2 : wd * mn < 2 ^ 80 := plt (mul_lt_pow hwd hmn) (by decide)
    have q3 : wn * md + wd * mn ≤ 2 ^ 81 := by omega
    have q4 : (wn * md + wd * mn) * Y * (E * Δ * pd) ≤ 2 ^ (81 + (s + 140 * r + 111) + (s + 140 * r + 7)) := mul_le_pow (mul_le_pow q3 (Nat.le_of_lt hY)) (mul_le_pow (mul_le_pow hEs hΔr) (Nat.le_of_lt hpd))
    have q5 : E * Δ * W * X ≤ 2 ^ (s + 140 * r + 57 + (s + 140 * r + 111)) := mul_le_pow (mul_le_pow (mul_le_pow hEs hΔr) (Nat.le_of_lt hW)) (Nat.le_of_lt hX)
    have q6 : 2 ^ (81 + (s + 140 * r + 111) + (s + 140 * r + 7)) ≤ 2 ^ (s + 140 * r + (s + 140 * r + 111) + 98) := Nat.pow_le_pow_right (by decide) (by omega)
    have q7 : 2 ^ (s + 140 * r + 57 + (s + 140 * r + 111)) ≤ 2 ^ (s + 140 * r + (s + 140 * r + 111) + 98) := Nat.pow_le_pow_right (by decide) (by omega)
    have q8 : 2 ^ (s + 140 * r + (s + 140 * r + 111) + 99) = 2 ^ (s + 140 * r + (s + 140 * r + 111) + 98) * 2 := Nat.pow_succ ..
    omega
/-- each count by itself -/
theorem RI.counts (h : RI s r b d bigs smalls E) (hP : 0 < P) (hw : worthAt d P = d.worth) {X Y p : Nat} (hPf : Fr P X Y) (hX : X < 2 ^ p) (hY : Y < 2 ^ p) (hp : 0 < p) : ∀ x ∈ (poolW d P (thingWs d P).sum / P) :: behindCounts d P, sz x ≤ max (s + 1) (p + 191) := fun x hx => by
  have hi := hPf.inv hP
  have hX0 := hPf.pos hP
  have hzP : sz P ≤ p := hPf.sz hp hX hY
  have hzi : sz (1 / P) ≤ p := hi.sz hp hY hX
  have hm := num0_sz h.money
  have hpt := disc_sz h.part
  have hww : sz d.worth ≤ 40 := by
    have := h.wn; have := h.wd
    exact sz_of_lt (by decide) (by omega) (by omega)
  have e1 := inv_mul1 (q := P) (by grind)
  rcases List.mem_cons.mp hx with rfl | hx
  · rw [div_eq_mul1]
    rcases pool_two h.ok hw with ⟨e2, _⟩ | ⟨e2, _⟩
    · rw [e2, show P * d.count * (1 / P) = d.count by grind]
      have := h.big d.count List.mem_cons_self
      omega
    · rw [e2]
      have a1 := sz_add d.worth d.money
      have a2 := sz_mul d.part (d.worth + d.money)
      have a3 := sz_mul (d.part * (d.worth + d.money)) (1 / P)
      omega
  · rcases kept_cases h hP hx with hx | ⟨t, ht, rfl⟩ | rfl
    · have := h.big x (List.mem_cons_of_mem _ hx)
      omega
    · obtain ⟨al, be, a, b', δ, g1, L, _⟩ := draw_lin P (h.small t ht) h.money
      have e2 : thingW t P d.money * (1 / P) = al * (1 / P) + be := by rw [g1]; grind
      have k1 := (L.al.mul hi).add (L.be.scale hX0)
      rw [e2]
      have z1 := mul_lt_pow L.az hY
      have z2 := mul_lt_pow L.bz hX
      have z3 : 2 ^ (p + 191) = 2 ^ (190 + p) * 2 := by rw [← Nat.pow_succ]; congr 1; omega
      have := k1.sz (k := p + 191) (by omega) (by omega) (plt (mul_lt_pow L.g hX) (by omega))
      omega
    · have a1 := sz_mul d.money (1 / P)
      omega
end
end My
namespace My
open PySem PySem.Spec
def sI : Nat → Nat
  | 0 => 41
  | 1 => 1972
  | 2 => 4714
  | 3 => 10198
  | _ => 21166
def rI : Nat → Nat
  | 0 => 6
  | _ => 2
def bI : Nat → Nat
  | 0 => 0
  | 1 => 7
  | 2 => 10
  | 3 => 13
  | _ => 16
def ReadyI (i : Nat) (d : Deal) : Prop := ∃ bigs smalls E, RI (sI i) (rI i) (bI i) d bigs smalls E
theorem steps {i : Nat} (hi : i < 4) : sI i + 1 ≤ 11000 ∧ bI i + rI i ≤ 16 ∧ rI i ≤ 6 ∧ sI i + 140 * rI i + (sI i + 140 * rI i + 111) + 99 = sI (i + 1) ∧ bI i + rI i + 1 = bI (i + 1) ∧ rI (i + 1) = 2 ∧ sI i + 140 * rI i + 111 ≤ 10589 := by
  rcases (show i = 0 ∨ i = 1 ∨ i = 2 ∨ i = 3 by omega) with rfl | rfl | rfl | rfl <;> simp [sI, rI, bI]
theorem ready_zero {d : Deal} (h : DrawnDeal d) : ReadyI 0 d := by
  obtain ⟨n, e, h1, h2, h3⟩ := fr_num0 h.count
  refine ⟨[], d.things, e, ?_⟩
  exact {
    things := rfl
    pos := by simp
    fr := by simp
    cnt := ⟨n, h1⟩
    tot := ⟨n, by rw [List.sum_nil, show (0 : Rat) + d.count = d.count by grind]; exact h1, by show e + n ≤ 2 ^ 41; omega⟩
    small := h.things
    sl := h.len
    bl := by simp
    money := h.money
    part := h.part
    wn := by
      have := h.worth.2.1
      have := Nat.le_mul_of_pos_right d.worth.num.natAbs d.worth.den_pos
      omega
    wd := by have := h.worth.2.2; omega
    some := h.some }
section
variable {i : Nat} {d : Deal} {P : Rat}
theorem ReadyI.sd (h : ReadyI i d) (hi : i < 4) : SzDeal d := let ⟨_, _, _, r⟩ := h; r.szDeal (steps hi).1 (steps hi).2.1
/-- the price of a round: it is there, right, and short -/
theorem ReadyI.told (h : ReadyI i d) (hi : i < 4) (hr : 0 < riseOf d) : ∃ P, priceOf d = some P ∧ 0 < P ∧ worthAt d P = d.worth ∧ sz P ≤ 10589 ∧ ∀ x ∈ (poolW d P (thingWs d P).sum / P) :: behindCounts d P, sz x ≤ 11000 := by
  obtain ⟨bigs, smalls, E, R⟩ := h
  obtain ⟨s1, s2, s3, s4, s5, s6, s7⟩ := steps hi
  obtain ⟨P, e, hP, hw⟩ := price_right R.ok hr
  obtain ⟨X, Y, hf, hX, hY, _⟩ := R.price s3 hP hw (worth_pos R.ok hr)
  refine ⟨P, e, hP, hw, ?_, fun x hx => ?_⟩
  · have := hf.sz (by omega) hX hY
    omega
  · have := R.counts hP hw hf hX hY (by omega) x hx
    omega
theorem ReadyI.next (h : ReadyI i d) (hi : i < 4) (hr : 0 < riseOf d) (hp : priceOf d = some P) {w m p : Rat} {more : List Th} (hs : isShort (d.worth + d.money) = true) (hw : NextWorth (d.worth + d.money) w) (hm : Num0 m) (hpt : DiscOk p) (hmo : ∀ t ∈ more, DrawnTh t) (hl : more.length ≤ 2) :
    ReadyI (i + 1) ⟨w, m, (behindCounts d P).map .shares ++ more, poolW d P (thingWs d P).sum / P, p⟩ := by
  obtain ⟨bigs, smalls, E, R⟩ := h
  obtain ⟨s1, s2, s3, s4, s5, s6, s7⟩ := steps hi
  obtain ⟨P', e, hP, hwr⟩ := price_right R.ok hr
  rw [hp] at e
  cases e
  obtain ⟨X, Y, hf, hX, hY, E', c1, c2, Z, c3, c4⟩ := R.price s3 hP hwr (worth_pos R.ok hr)
  have hsum : (behindCounts d P).sum + poolW d P (thingWs d P).sum / P = (d.worth + d.money) * (1 / P) := by
    rw [behind_sum R.ok hP, div_eq_mul1, ← hwr, worthAt_eq]; grind
  refine ⟨behindCounts d P, more, E', ?_⟩
  exact {
    things := rfl
    pos := fun c hc => behind_pos hc
    fr := c1
    cnt := c2
    tot := ⟨Z, by show Fr ((behindCounts d P).sum + poolW d P (thingWs d P).sum / P) Z E'; rw [hsum]; exact c3, by rw [← s4]; exact c4⟩
    small := hmo
    sl := by rw [s6]; exact hl
    bl := by
      have h1 : (behindCounts d P).length ≤ (keptCounts d P).length := List.length_filter_le ..
      have h2 : (keptCounts d P).length = d.things.length + 1 := by unfold keptCounts thingWs; simp
      have h3 : d.things.length = bigs.length + smalls.length := by rw [R.things]; simp
      have := R.bl; have := R.sl
      omega
    money := hm
    part := hpt
    wn := by
      show w.num.natAbs < _
      rcases hw with rfl | ⟨h1, _⟩
      · decide
      · unfold isShort at h1
        simp only [Bool.and_eq_true, decide_eq_true_eq] at h1
        exact h1.1
    wd := by
      show w.den < _
      rcases hw with rfl | ⟨h1, _⟩
      · decide
      · unfold isShort at h1
        simp only [Bool.and_eq_true, decide_eq_true_eq] at h1
        exact h1.2
    some := by
      obtain ⟨c, hc, hm⟩ := shares_behind R.ok hP
      exact ⟨c, hc, List.mem_append_left _ (List.mem_map_of_mem hm)⟩ }
theorem ReadyI.behind (h : ReadyI i d) (hi : i < 4) : preBehind d := by
  have S := h.sd hi
  refine ⟨S.preP, fun hr => ?_⟩
  obtain ⟨P, e, hP, hw, hz, _⟩ := h.told hi hr
  refine ⟨P, e, (S.preW hz (by decide)).1, by grind, fun x hx => ?_⟩
  have := S.worths hz (by decide) x hx
  unfold okSz; omega
theorem whole_sz (h : ReadyI i d) (hi : i < 4) (hr : 0 < riseOf d) (hp : priceOf d = some P) (hs : isShort (d.worth + d.money) = true) : SzDeal (wholeDeal d P) := by
  have S := h.sd hi
  obtain ⟨P', e, hP, hw, hz, hc⟩ := h.told hi hr
  rw [hp] at e
  cases e
  obtain ⟨bigs, smalls, E, R⟩ := h
  obtain ⟨s1, s2, s3, s4, s5, s6, s7⟩ := steps hi
  exact {
    ok := wholeDeal_ok S.ok hP
    len := by
      show ((behindCounts d P).map Th.shares).length ≤ 16
      rw [List.length_map]
      have h1 : (behindCounts d P).length ≤ (keptCounts d P).length := List.length_filter_le ..
      have h2 : (keptCounts d P).length = d.things.length + 1 := by unfold keptCounts thingWs; simp
      have h3 : d.things.length = bigs.length + smalls.length := by rw [R.things]; simp
      have := R.bl; have := R.sl
      have h4 : bI (i + 1) ≤ 16 := by rcases (show i = 0 ∨ i = 1 ∨ i = 2 ∨ i = 3 by omega) with rfl | rfl | rfl | rfl <;> simp [bI]
      omega
    th := fun t ht => by
      obtain ⟨c, hcm, rfl⟩ := List.mem_map.mp ht
      exact .inl ⟨c, rfl, hc c (List.mem_cons_of_mem _ hcm)⟩
    money := by show sz 0 ≤ 45; rw [sz_zero]; omega
    worth := by
      show sz (d.worth + d.money) ≤ 45
      unfold isShort at hs
      simp only [Bool.and_eq_true, decide_eq_true_eq] at hs
      have : sz (d.worth + d.money) ≤ 40 := sz_of_lt (by decide) (by omega) (by omega)
      omega
    count := hc _ List.mem_cons_self
    part := by show sz 0 ≤ 8; rw [sz_zero]; omega }
end
end My
namespace My
open PySem PySem.Spec PyProof.Rows L2
theorem tup_len {ts : List Str} (h : ts ≠ []) : (tupleText ts).length ≤ piled ts + 1 := by
  have h1 := join_length_add ts h
  unfold tupleText
  rw [strLen_append, strLen_append]
  have e1 : ((("(" : String) : Str)).length = 1 := rfl
  have e3 : (((if ts.length == 1 then ",)" else ")" : String) : Str)).length ≤ 2 := by split <;> decide
  omega
theorem shown_int_len {a : Int} (h : a.natAbs.log2 < 14284) : (PyData.int a).shown.length ≤ 4301 := by
  have e := int_text_length_le10 (k := 4300) (by decide) (lt_digits h)
  simp only [PyData.shown]
  rw [PySem.ofString_length]; exact e
theorem shown_two {a b : Int} (h : a.natAbs.log2 < 14284) (k : b.natAbs.log2 < 14284) : (PyData.tuple [.int a, .int b]).shown.length ≤ 8607 := by
  have e1 := shown_int_len h
  have e2 := shown_int_len k
  have e3 : (PyData.tuple [.int a, .int b]).shown = tupleText [(PyData.int a).shown, (PyData.int b).shown] := by simp only [PyData.shown, PyData.shownAll]
  rw [e3]
  have e4 := tup_len (ts := [(PyData.int a).shown, (PyData.int b).shown]) (by simp)
  rw [piled_cons, piled_cons, piled_nil] at e4
  omega
theorem shown_share {c : Rat} (h : sz c ≤ 11000) : (thD (.shares c)).shown.length ≤ 8700 := by
  have hn : c.num.natAbs.log2 < 14284 ∧ c.den.log2 < 14284 := by unfold sz at h; omega
  have e1 := shown_two (a := c.num) (b := ((c.den : Nat) : Int)) hn.1 (by rw [Int.natAbs_natCast]; exact hn.2)
  have e3 : (thD (.shares c)).shown = tupleText [(PyData.str "shares").shown, (fr c).shown] := by simp only [thD, PyData.shown, PyData.shownAll]
  rw [e3]
  have e4 := tup_len (ts := [(PyData.str "shares").shown, (fr c).shown]) (by simp)
  rw [piled_cons, piled_cons, piled_nil] at e4
  have e5 : (PyData.str "shares").shown.length ≤ 20 := by decide +kernel
  have e6 : (fr c).shown.length ≤ 8607 := e1
  omega
theorem alike_two {a b : Int} (h : a.natAbs.log2 < 14284) (k : b.natAbs.log2 < 14284) : AlikeOk [.int a, .int b] where
  shw := by simp only [shwAll, My.shw]; exact ⟨h, k, trivial⟩
  dep := by simp [PyData.depth, PyData.depthAll]
  len := by have := shown_two h k; rw [show sizeLine = 16777216 from rfl]; omega
  lay := by simp [PyData.canLay0, PyData.canLayAll0]
theorem shares_shown : ∀ {l : List Rat}, (∀ c ∈ l, sz c ≤ 11000) → piled (PyData.shownAll ((l.map Th.shares).map thD)) ≤ l.length * 8702 ∧ shwAll ((l.map Th.shares).map thD) ∧ PyData.depthAll ((l.map Th.shares).map thD) ≤ 2 ∧ PyData.canLayAll0 ((l.map Th.shares).map thD) = true
  | [], _ => by simp [PyData.shownAll, piled, shwAll, PyData.depthAll, PyData.canLayAll0]
  | c :: l, h => by
    obtain ⟨h1, h2, h3, h4⟩ := shares_shown (l := l) fun x hx => h x (List.mem_cons_of_mem _ hx)
    have hc := h c List.mem_cons_self
    have hn : c.num.natAbs.log2 < 14284 ∧ c.den.log2 < 14284 := by unfold sz at hc; omega
    have e1 := shown_share hc
    refine ⟨?_, ?_, ?_, ?_⟩
    · simp only [List.map_cons, PyData.shownAll]
      rw [piled_cons, List.length_cons, Nat.add_mul]
      omega
    · simp only [List.map_cons, shwAll]
      refine ⟨?_, h2⟩
      simp only [thD, My.shw, shwAll]
      exact ⟨trivial, ⟨hn.1, by rw [Int.natAbs_natCast]; exact hn.2, trivial⟩, trivial⟩
    · simp only [List.map_cons, PyData.depthAll]
      have : (thD (.shares c)).depth = 2 := by simp [thD, PyData.depth, PyData.depthAll]
      omega
    · simp only [List.map_cons, PyData.canLayAll0, h4, Bool.and_true]
      have e : PyData.strOk (Str.ofString "shares") = true := by decide +kernel
      simp [thD, PyData.canLay0, PyData.canLayAll0, e]
theorem alike_shares {l : List Rat} (h : ∀ c ∈ l, sz c ≤ 11000) (hl : l.length ≤ 16) (hne : l ≠ []) : AlikeOk ((l.map Th.shares).map thD) := by
  obtain ⟨h1, h2, h3, h4⟩ := shares_shown h
  refine ⟨h2, by simp only [PyData.depth]; omega, ?_, by simp only [PyData.canLay0]; exact h4⟩
  have e : (PyData.tuple ((l.map Th.shares).map thD)).shown = tupleText (PyData.shownAll ((l.map Th.shares).map thD)) := by simp only [PyData.shown]
  rw [e]
  have e2 := tup_len (ts := PyData.shownAll ((l.map Th.shares).map thD)) (by
    cases l with
    | nil => exact absurd rfl hne
    | cons a t => simp [PyData.shownAll])
  have e3 : l.length * 8702 ≤ 16 * 8702 := Nat.mul_le_mul_right _ hl
  rw [show sizeLine = 16777216 from rfl]
  omega
theorem rounds_are : Rounds ReadyI where
  zero _ h := ready_zero h
  behind _ _ hi h := h.behind hi
  told i d hi h hr := by
    have S := h.sd hi
    obtain ⟨P, e, hP, hw, hz, hc⟩ := h.told hi hr
    have hW := S.preW hz (by decide)
    have hwp := whole_price S.ok hr hP hw
    have hsP : P.num.natAbs.log2 < 14284 ∧ P.den.log2 < 14284 := by unfold sz at hz; omega
    have hlen : (behindCounts d P).length ≤ 16 := by
      obtain ⟨bigs, smalls, E, R⟩ := h
      have h1 : (behindCounts d P).length ≤ (keptCounts d P).length := List.length_filter_le ..
      have h2 : (keptCounts d P).length = d.things.length + 1 := by unfold keptCounts thingWs; simp
      have h3 : d.things.length = bigs.length + smalls.length := by rw [R.things]; simp
      have := R.bl; have := R.sl
      obtain ⟨s1, s2, s3, s4, s5, s6, s7⟩ := steps hi
      have h4 : bI (i + 1) ≤ 16 := by rcases (show i = 0 ∨ i = 1 ∨ i = 2 ∨ i = 3 by omega) with rfl | rfl | rfl | rfl <;> simp [bI]
      omega
    refine ⟨P, e, ?_⟩
    exact {
      pos := hP
      ws := hW.1
      tot := hW.2
      eq := hw
      lb := ⟨hW.1, hP, fun x hx => by
        have := S.worths hz (by decide) x hx
        unfold okSz; omega⟩
      al := by
        refine alike_shares (fun c hcm => hc c (List.mem_cons_of_mem _ hcm)) hlen ?_
        obtain ⟨c, _, hm⟩ := shares_behind S.ok hP
        exact List.ne_nil_of_mem hm
      wm := by have := S.worth; have := S.money; unfold okSz; omega
      npr := fun hs => (whole_sz h hi hr e hs).preP
      nri := hwp.1
      neq := hwp.2
      alP := alike_two hsP.1 (by rw [Int.natAbs_natCast]; exact hsP.2) }
  next i d P w m p more hi h hr hp hs hw hm hpt hmo hl := h.next hi hr hp hs hw hm hpt hmo hl
end My
open PySem PySem.W PyProof.Rows
set_option maxRecDepth 100000 in
set_option maxHeartbeats 0 in
theorem PySem.Challenge.cw_soldwhole_k53_whole_round_behind_round_holds : PySem.Challenge.rw_soldwhole_k53_whole_round_behind_round.Holds := by
  w_on; o_law; k_head; (case hw => w_witness2)
  k_fill
  refine My.walk_law My.rounds_are (l := PySem.Challenge.rw_soldwhole_k53_whole_round_behind_round) rfl rfl rfl (by decide +kernel) (by rfl) (fun w h Y => PySem.W.km_in_of Y) ?F
  case F =>
    intro w mg h Y KX G
    refine ⟨?fx, ?np, ?lw⟩
    case np =>
      refine' My.np_mk KX G ?aS ?aC ?xL ?hbm ?sa ?eC ?tC ?kC ?iC ?sC ?sga ?srd ?sfi ?a1 ?t1 ?l1 ?c1 ?k1
      (case aS => k_is); (case aC => k_is); (case xL => k_is); (case hbm => decide +kernel); (case sa => k_is); (case eC => k_is); (case tC => k_is); (case kC => k_is); (case iC => k_is); (case sC => first | rfl | k_is)
      (case sga => k_is); (case srd => k_is); (case sfi => k_is); (case a1 => k_is); (case t1 => k_is); (case l1 => k_is); (case c1 => k_is); (case k1 => k_is)
    case lw =>
      refine' My.law_mk KX G ?a ?l ?c ?l2 ?hv ?n
      (case a => k_is); (case l => k_is); (case c => k_is); (case l2 => k_is); (case hv => rfl); (case n => rfl)
    case fx =>
      refine My.Fx.mk ?tree ?n_abs ?n_int ?n_len ?n_tuple ?n_list ?n_range ?n_enumerate ?n_max ?n_repr ?g_NOUGHT ?g_ZERO ?g_ONE ?d_common_divisor ?d_reduced ?d_added ?d_lessened ?d_times ?d_over ?d_compared ?d_greatest_of ?d_total ?d_slope_between ?d_curve ?d_nothing ?d_in_order ?d_levels_of ?d_slope_behind ?d_pay_at ?d_rises_at ?d_added_up ?d_parting ?d_meetings ?d_greater_of ?d_greatest ?d_reached ?d_scaled ?d_level_for ?d_note_worth ?d_weighed_worth ?d_thing_worth ?d_pool_worth ?d_worths_at ?d_worth_at ?d_thing_curve ?d_lowered ?d_worth_curve ?d_price_of ?d_counts_at ?d_things_behind ?d_l_bag ?d_l_take ?d_l_some ?d_l_mixed ?d_l_alike ?d_l_common ?d_l_reduced ?d_l_added ?d_l_lessened ?d_l_multiplied ?d_l_divided ?d_l_is_below ?d_l_greater ?d_l_total ?d_l_number ?d_l_deal ?d_l_thing ?d_l_worth_of ?d_l_worths ?d_l_price_heard ?d_l_is_short ?d_l_behind
      (case tree => rfl)
      (case n_abs => exact My.no_mk KX G (by k_is))
      (case n_int => exact My.no_mk KX G (by k_is))
      (case n_len => exact My.no_mk KX G (by k_is))
      (case n_tuple => exact My.no_mk KX G (by k_is))
      (case n_list => exact My.no_mk KX G (by k_is))
      (case n_range => exact My.no_mk KX G (by k_is))
      (case n_enumerate => exact My.no_mk KX G (by k_is))
      (case n_max => exact My.no_mk KX G (by k_is))
      (case n_repr => exact My.no_mk KX G (by k_is))
      (case g_NOUGHT => refine' My.cst_mk KX G ?e ?l; (case e => k_is); (case l => k_is))
      (case g_ZERO => refine' My.cst_mk KX G ?e ?l; (case e => k_is); (case l => k_is))
      (case g_ONE => refine' My.cst_mk KX G ?e ?l; (case e => k_is); (case l => k_is))
      (case d_common_divisor => refine' My.dt_mk (st := My.s_common_divisor) (ps := ["one", "other"]) KX G ?a ?l ?c ?k ?b; (case a => k_is); (case l => k_is); (case c => k_is); (case k => k_is); (case b => (intro _ _ _ _ _ _ us hl; match us, hl with | [_, _], _ => rfl)))
      (case d_reduced => refine' My.dt_mk (st := My.s_reduced) (ps := ["n", "d"]) KX G ?a ?l ?c ?k ?b; (case a => k_is); (case l => k_is); (case c => k_is); (case k => k_is); (case b => (intro _ _ _ _ _ _ us hl; match us, hl with | [_, _], _ => rfl)))
      (case d_added => refine' My.dt_mk (st := My.s_added) (ps := ["one", "other"]) KX G ?a ?l ?c ?k ?b; (case a => k_is); (case l => k_is); (case c => k_is); (case k => k_is); (case b => (intro _ _ _ _ _ _ us hl; match us, hl with | [_, _], _ => rfl)))
      (case d_lessened => refine' My.dt_mk (st := My.s_lessened) (ps := ["one", "other"]) KX G ?a ?l ?c ?k ?b; (case a => k_is); (case l => k_is); (case c => k_is); (case k => k_is); (case b => (intro _ _ _ _ _ _ us hl; match us, hl with | [_, _], _ => rfl)))
      (case d_times => refine' My.dt_mk (st := My.s_times) (ps := ["one", "other"]) KX G ?a ?l ?c ?k ?b; (case a => k_is); (case l => k_is); (case c => k_is); (case k => k_is); (case b => (intro _ _ _ _ _ _ us hl; match us, hl with | [_, _], _ => rfl)))
      (case d_over => refine' My.dt_mk (st := My.s_over) (ps := ["one", "other"]) KX G ?a ?l ?c ?k ?b; (case a => k_is); (case l => k_is); (case c => k_is); (case k => k_is); (case b => (intro _ _ _ _ _ _ us hl; match us, hl with | [_, _], _ => rfl)))
      (case d_compared => refine' My.dt_mk (st := My.s_compared) (ps := ["one", "other"]) KX G ?a ?l ?c ?k ?b; (case a => k_is); (case l => k_is); (case c => k_is); (case k => k_is); (case b => (intro _ _ _ _ _ _ us hl; match us, hl with | [_, _], _ => rfl)))
      (case d_greatest_of => refine' My.dt_mk (st := My.s_greatest_of) (ps := ["fractions"]) KX G ?a ?l ?c ?k ?b; (case a => k_is); (case l => k_is); (case c => k_is); (case k => k_is); (case b => (intro _ _ _ _ _ _ us hl; match us, hl with | [_], _ => rfl)))
      (case d_total => refine' My.dt_mk (st := My.s_total) (ps := ["fractions"]) KX G ?a ?l ?c ?k ?b; (case a => k_is); (case l => k_is); (case c => k_is); (case k => k_is); (case b => (intro _ _ _ _ _ _ us hl; match us, hl with | [_], _ => rfl)))
      (case d_slope_between => refine' My.dt_mk (st := My.s_slope_between) (ps := ["one", "other"]) KX G ?a ?l ?c ?k ?b; (case a => k_is); (case l => k_is); (case c => k_is); (case k => k_is); (case b => (intro _ _ _ _ _ _ us hl; match us, hl with | [_, _], _ => rfl)))
      (case d_curve => refine' My.dt_mk (st := My.s_curve) (ps := ["corners", "slope"]) KX G ?a ?l ?c ?k ?b; (case a => k_is); (case l => k_is); (case c => k_is); (case k => k_is); (case b => (intro _ _ _ _ _ _ us hl; match us, hl with | [_, _], _ => rfl)))
      (case d_nothing => refine' My.dt_mk (st := My.s_nothing) (ps := []) KX G ?a ?l ?c ?k ?b; (case a => k_is); (case l => k_is); (case c => k_is); (case k => k_is); (case b => (intro _ _ _ _ _ _ us hl; match us, hl with | [], _ => rfl)))
      (case d_in_order => refine' My.dt_mk (st := My.s_in_order) (ps := ["fractions"]) KX G ?a ?l ?c ?k ?b; (case a => k_is); (case l => k_is); (case c => k_is); (case k => k_is); (case b => (intro _ _ _ _ _ _ us hl; match us, hl with | [_], _ => rfl)))
      (case d_levels_of => refine' My.dt_mk (st := My.s_levels_of) (ps := ["curves"]) KX G ?a ?l ?c ?k ?b; (case a => k_is); (case l => k_is); (case c => k_is); (case k => k_is); (case b => (intro _ _ _ _ _ _ us hl; match us, hl with | [_], _ => rfl)))
      (case d_slope_behind => refine' My.dt_mk (st := My.s_slope_behind) (ps := ["one", "at"]) KX G ?a ?l ?c ?k ?b; (case a => k_is); (case l => k_is); (case c => k_is); (case k => k_is); (case b => (intro _ _ _ _ _ _ us hl; match us, hl with | [_, _], _ => rfl)))
      (case d_pay_at => refine' My.dt_mk (st := My.s_pay_at) (ps := ["one", "level"]) KX G ?a ?l ?c ?k ?b; (case a => k_is); (case l => k_is); (case c => k_is); (case k => k_is); (case b => (intro _ _ _ _ _ _ us hl; match us, hl with | [_, _], _ => rfl)))
      (case d_rises_at => refine' My.dt_mk (st := My.s_rises_at) (ps := ["one", "level"]) KX G ?a ?l ?c ?k ?b; (case a => k_is); (case l => k_is); (case c => k_is); (case k => k_is); (case b => (intro _ _ _ _ _ _ us hl; match us, hl with | [_, _], _ => rfl)))
      (case d_added_up => refine' My.dt_mk (st := My.s_added_up) (ps := ["curves"]) KX G ?a ?l ?c ?k ?b; (case a => k_is); (case l => k_is); (case c => k_is); (case k => k_is); (case b => (intro _ _ _ _ _ _ us hl; match us, hl with | [_], _ => rfl)))
      (case d_parting => refine' My.dt_mk (st := My.s_parting) (ps := ["one", "other", "level"]) KX G ?a ?l ?c ?k ?b; (case a => k_is); (case l => k_is); (case c => k_is); (case k => k_is); (case b => (intro _ _ _ _ _ _ us hl; match us, hl with | [_, _, _], _ => rfl)))
      (case d_meetings => refine' My.dt_mk (st := My.s_meetings) (ps := ["one", "other"]) KX G ?a ?l ?c ?k ?b; (case a => k_is); (case l => k_is); (case c => k_is); (case k => k_is); (case b => (intro _ _ _ _ _ _ us hl; match us, hl with | [_, _], _ => rfl)))
      (case d_greater_of => refine' My.dt_mk (st := My.s_greater_of) (ps := ["one", "other"]) KX G ?a ?l ?c ?k ?b; (case a => k_is); (case l => k_is); (case c => k_is); (case k => k_is); (case b => (intro _ _ _ _ _ _ us hl; match us, hl with | [_, _], _ => rfl)))
      (case d_greatest => refine' My.dt_mk (st := My.s_greatest) (ps := ["curves"]) KX G ?a ?l ?c ?k ?b; (case a => k_is); (case l => k_is); (case c => k_is); (case k => k_is); (case b => (intro _ _ _ _ _ _ us hl; match us, hl with | [_], _ => rfl)))
      (case d_reached => refine' My.dt_mk (st := My.s_reached) (ps := ["one", "pay"]) KX G ?a ?l ?c ?k ?b; (case a => k_is); (case l => k_is); (case c => k_is); (case k => k_is); (case b => (intro _ _ _ _ _ _ us hl; match us, hl with | [_, _], _ => rfl)))
      (case d_scaled => refine' My.dt_mk (st := My.s_scaled) (ps := ["one", "factor"]) KX G ?a ?l ?c ?k ?b; (case a => k_is); (case l => k_is); (case c => k_is); (case k => k_is); (case b => (intro _ _ _ _ _ _ us hl; match us, hl with | [_, _], _ => rfl)))
      (case d_level_for => refine' My.dt_mk (st := My.s_level_for) (ps := ["one", "pay"]) KX G ?a ?l ?c ?k ?b; (case a => k_is); (case l => k_is); (case c => k_is); (case k => k_is); (case b => (intro _ _ _ _ _ _ us hl; match us, hl with | [_, _], _ => rfl)))
      (case d_note_worth => refine' My.dt_mk (st := My.s_note_worth) (ps := ["thing", "price"]) KX G ?a ?l ?c ?k ?b; (case a => k_is); (case l => k_is); (case c => k_is); (case k => k_is); (case b => (intro _ _ _ _ _ _ us hl; match us, hl with | [_, _], _ => rfl)))
      (case d_weighed_worth => refine' My.dt_mk (st := My.s_weighed_worth) (ps := ["thing", "price", "money"]) KX G ?a ?l ?c ?k ?b; (case a => k_is); (case l => k_is); (case c => k_is); (case k => k_is); (case b => (intro _ _ _ _ _ _ us hl; match us, hl with | [_, _, _], _ => rfl)))
      (case d_thing_worth => refine' My.dt_mk (st := My.s_thing_worth) (ps := ["thing", "price", "money"]) KX G ?a ?l ?c ?k ?b; (case a => k_is); (case l => k_is); (case c => k_is); (case k => k_is); (case b => (intro _ _ _ _ _ _ us hl; match us, hl with | [_, _, _], _ => rfl)))
      (case d_pool_worth => refine' My.dt_mk (st := My.s_pool_worth) (ps := ["deal", "price", "things"]) KX G ?a ?l ?c ?k ?b; (case a => k_is); (case l => k_is); (case c => k_is); (case k => k_is); (case b => (intro _ _ _ _ _ _ us hl; match us, hl with | [_, _, _], _ => rfl)))
      (case d_worths_at => refine' My.dt_mk (st := My.s_worths_at) (ps := ["deal", "price"]) KX G ?a ?l ?c ?k ?b; (case a => k_is); (case l => k_is); (case c => k_is); (case k => k_is); (case b => (intro _ _ _ _ _ _ us hl; match us, hl with | [_, _], _ => rfl)))
      (case d_worth_at => refine' My.dt_mk (st := My.s_worth_at) (ps := ["deal", "price"]) KX G ?a ?l ?c ?k ?b; (case a => k_is); (case l => k_is); (case c => k_is); (case k => k_is); (case b => (intro _ _ _ _ _ _ us hl; match us, hl with | [_, _], _ => rfl)))
      (case d_thing_curve => refine' My.dt_mk (st := My.s_thing_curve) (ps := ["thing", "money"]) KX G ?a ?l ?c ?k ?b; (case a => k_is); (case l => k_is); (case c => k_is); (case k => k_is); (case b => (intro _ _ _ _ _ _ us hl; match us, hl with | [_, _], _ => rfl)))
      (case d_lowered => refine' My.dt_mk (st := My.s_lowered) (ps := ["one", "gap"]) KX G ?a ?l ?c ?k ?b; (case a => k_is); (case l => k_is); (case c => k_is); (case k => k_is); (case b => (intro _ _ _ _ _ _ us hl; match us, hl with | [_, _], _ => rfl)))
      (case d_worth_curve => refine' My.dt_mk (st := My.s_worth_curve) (ps := ["deal"]) KX G ?a ?l ?c ?k ?b; (case a => k_is); (case l => k_is); (case c => k_is); (case k => k_is); (case b => (intro _ _ _ _ _ _ us hl; match us, hl with | [_], _ => rfl)))
      (case d_price_of => refine' My.dt_mk (st := My.s_price_of) (ps := ["deal"]) KX G ?a ?l ?c ?k ?b; (case a => k_is); (case l => k_is); (case c => k_is); (case k => k_is); (case b => (intro _ _ _ _ _ _ us hl; match us, hl with | [_], _ => rfl)))
      (case d_counts_at => refine' My.dt_mk (st := My.s_counts_at) (ps := ["deal", "price"]) KX G ?a ?l ?c ?k ?b; (case a => k_is); (case l => k_is); (case c => k_is); (case k => k_is); (case b => (intro _ _ _ _ _ _ us hl; match us, hl with | [_, _], _ => rfl)))
      (case d_things_behind => refine' My.dt_mk (st := My.s_things_behind) (ps := ["deal"]) KX G ?a ?l ?c ?k ?b; (case a => k_is); (case l => k_is); (case c => k_is); (case k => k_is); (case b => (intro _ _ _ _ _ _ us hl; match us, hl with | [_], _ => rfl)))
      (case d_l_bag => refine' My.dt_mk (st := My.s_l_bag) (ps := ["_law_script"]) KX G ?a ?l ?c ?k ?b; (case a => k_is); (case l => k_is); (case c => k_is); (case k => k_is); (case b => (intro _ _ _ _ _ _ us hl; match us, hl with | [_], _ => rfl)))
      (case d_l_take => refine' My.dt_mk (st := My.s_l_take) (ps := ["_law_bag_here", "_law_many"]) KX G ?a ?l ?c ?k ?b; (case a => k_is); (case l => k_is); (case c => k_is); (case k => k_is); (case b => (intro _ _ _ _ _ _ us hl; match us, hl with | [_, _], _ => rfl)))
      (case d_l_some => refine' My.dt_mk (st := My.s_l_some) (ps := ["_law_bag_here", "_law_things"]) KX G ?a ?l ?c ?k ?b; (case a => k_is); (case l => k_is); (case c => k_is); (case k => k_is); (case b => (intro _ _ _ _ _ _ us hl; match us, hl with | [_, _], _ => rfl)))
      (case d_l_mixed => refine' My.dt_mk (st := My.s_l_mixed) (ps := ["_law_bag_here", "_law_things"]) KX G ?a ?l ?c ?k ?b; (case a => k_is); (case l => k_is); (case c => k_is); (case k => k_is); (case b => (intro _ _ _ _ _ _ us hl; match us, hl with | [_, _], _ => rfl)))
      (case d_l_alike => refine' My.dt_mk (st := My.s_l_alike) (ps := ["_law_found", "_law_due"]) KX G ?a ?l ?c ?k ?b; (case a => k_is); (case l => k_is); (case c => k_is); (case k => k_is); (case b => (intro _ _ _ _ _ _ us hl; match us, hl with | [_, _], _ => rfl)))
      (case d_l_common => refine' My.dt_mk (st := My.s_l_common) (ps := ["_law_one", "_law_other"]) KX G ?a ?l ?c ?k ?b; (case a => k_is); (case l => k_is); (case c => k_is); (case k => k_is); (case b => (intro _ _ _ _ _ _ us hl; match us, hl with | [_, _], _ => rfl)))
      (case d_l_reduced => refine' My.dt_mk (st := My.s_l_reduced) (ps := ["_law_n", "_law_d"]) KX G ?a ?l ?c ?k ?b; (case a => k_is); (case l => k_is); (case c => k_is); (case k => k_is); (case b => (intro _ _ _ _ _ _ us hl; match us, hl with | [_, _], _ => rfl)))
      (case d_l_added => refine' My.dt_mk (st := My.s_l_added) (ps := ["_law_one", "_law_other"]) KX G ?a ?l ?c ?k ?b; (case a => k_is); (case l => k_is); (case c => k_is); (case k => k_is); (case b => (intro _ _ _ _ _ _ us hl; match us, hl with | [_, _], _ => rfl)))
      (case d_l_lessened => refine' My.dt_mk (st := My.s_l_lessened) (ps := ["_law_one", "_law_other"]) KX G ?a ?l ?c ?k ?b; (case a => k_is); (case l => k_is); (case c => k_is); (case k => k_is); (case b => (intro _ _ _ _ _ _ us hl; match us, hl with | [_, _], _ => rfl)))
      (case d_l_multiplied => refine' My.dt_mk (st := My.s_l_multiplied) (ps := ["_law_one", "_law_other"]) KX G ?a ?l ?c ?k ?b; (case a => k_is); (case l => k_is); (case c => k_is); (case k => k_is); (case b => (intro _ _ _ _ _ _ us hl; match us, hl with | [_, _], _ => rfl)))
      (case d_l_divided => refine' My.dt_mk (st := My.s_l_divided) (ps := ["_law_one", "_law_other"]) KX G ?a ?l ?c ?k ?b; (case a => k_is); (case l => k_is); (case c => k_is); (case k => k_is); (case b => (intro _ _ _ _ _ _ us hl; match us, hl with | [_, _], _ => rfl)))
      (case d_l_is_below => refine' My.dt_mk (st := My.s_l_is_below) (ps := ["_law_one", "_law_other"]) KX G ?a ?l ?c ?k ?b; (case a => k_is); (case l => k_is); (case c => k_is); (case k => k_is); (case b => (intro _ _ _ _ _ _ us hl; match us, hl with | [_, _], _ => rfl)))
      (case d_l_greater => refine' My.dt_mk (st := My.s_l_greater) (ps := ["_law_one", "_law_other"]) KX G ?a ?l ?c ?k ?b; (case a => k_is); (case l => k_is); (case c => k_is); (case k => k_is); (case b => (intro _ _ _ _ _ _ us hl; match us, hl with | [_, _], _ => rfl)))
      (case d_l_total => refine' My.dt_mk (st := My.s_l_total) (ps := ["_law_fractions"]) KX G ?a ?l ?c ?k ?b; (case a => k_is); (case l => k_is); (case c => k_is); (case k => k_is); (case b => (intro _ _ _ _ _ _ us hl; match us, hl with | [_], _ => rfl)))
      (case d_l_number => refine' My.dt_mk (st := My.s_l_number) (ps := ["_law_bag_here", "_law_most"]) KX G ?a ?l ?c ?k ?b; (case a => k_is); (case l => k_is); (case c => k_is); (case k => k_is); (case b => (intro _ _ _ _ _ _ us hl; match us, hl with | [_, _], _ => rfl)))
      (case d_l_deal => refine' My.dt_mk (st := My.s_l_deal) (ps := ["_law_bag_here"]) KX G ?a ?l ?c ?k ?b; (case a => k_is); (case l => k_is); (case c => k_is); (case k => k_is); (case b => (intro _ _ _ _ _ _ us hl; match us, hl with | [_], _ => rfl)))
      (case d_l_thing => refine' My.dt_mk (st := My.s_l_thing) (ps := ["_law_bag_here"]) KX G ?a ?l ?c ?k ?b; (case a => k_is); (case l => k_is); (case c => k_is); (case k => k_is); (case b => (intro _ _ _ _ _ _ us hl; match us, hl with | [_], _ => rfl)))
      (case d_l_worth_of => refine' My.dt_mk (st := My.s_l_worth_of) (ps := ["_law_thing_here", "_law_money", "_law_price"]) KX G ?a ?l ?c ?k ?b; (case a => k_is); (case l => k_is); (case c => k_is); (case k => k_is); (case b => (intro _ _ _ _ _ _ us hl; match us, hl with | [_, _, _], _ => rfl)))
      (case d_l_worths => refine' My.dt_mk (st := My.s_l_worths) (ps := ["_law_deal_here", "_law_price"]) KX G ?a ?l ?c ?k ?b; (case a => k_is); (case l => k_is); (case c => k_is); (case k => k_is); (case b => (intro _ _ _ _ _ _ us hl; match us, hl with | [_, _], _ => rfl)))
      (case d_l_price_heard => refine' My.dt_mk (st := My.s_l_price_heard) (ps := ["_law_act"]) KX G ?a ?l ?c ?k ?b; (case a => k_is); (case l => k_is); (case c => k_is); (case k => k_is); (case b => (intro _ _ _ _ _ _ us hl; match us, hl with | [_], _ => rfl)))
      (case d_l_is_short => refine' My.dt_mk (st := My.s_l_is_short) (ps := ["_law_one"]) KX G ?a ?l ?c ?k ?b; (case a => k_is); (case l => k_is); (case c => k_is); (case k => k_is); (case b => (intro _ _ _ _ _ _ us hl; match us, hl with | [_], _ => rfl)))
      (case d_l_behind => refine' My.dt_mk (st := My.s_l_behind) (ps := ["_law_deal_here", "_law_price"]) KX G ?a ?l ?c ?k ?b; (case a => k_is); (case l => k_is); (case c => k_is); (case k => k_is); (case b => (intro _ _ _ _ _ _ us hl; match us, hl with | [_, _], _ => rfl)))
