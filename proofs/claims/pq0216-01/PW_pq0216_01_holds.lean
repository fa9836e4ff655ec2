import PyProof.Rows.All
import Wide.All
import OpenK.AllK
import Wide.FinOn
import PySem.Challenge.RW_pq0216_01
set_option Elab.async false
set_option compiler.extract_closed false
set_option genInjectivity false
set_option genSizeOf false
set_option linter.all false

section
/-! the part Spec -/
/-! what the defs give back, as plain functions on lists of ints -/
namespace Mine
noncomputable def trim : List Int → List Int
  | [] => []
  | x :: xs => if trim xs = [] ∧ x = 0 then [] else x :: trim xs
noncomputable def lead (p : List Int) : Int := p.getD (p.length - 1) 0
noncomputable def addR (a b : List Int) : List Int := (List.range (max a.length b.length)).map fun i => a.getD i 0 + b.getD i 0
noncomputable def zadd (a b : List Int) : List Int := trim (addR a b)
noncomputable def neg (a : List Int) : List Int := a.map fun x => -x
noncomputable def zsub (a b : List Int) : List Int := zadd a (neg b)
noncomputable def zscale (p : List Int) (k : Int) : List Int := if k = 0 then [] else p.map fun x => x * k
noncomputable def zraise (p : List Int) (m : Nat) : List Int := if p = [] then [] else List.replicate m 0 ++ p
noncomputable def gcdAll (xs : List Int) : Int := xs.foldl (fun g x => (Int.gcd g x : Int)) 0
noncomputable def zdiv (p : List Int) (k : Int) : List Int := p.map fun x => x.fdiv k
noncomputable def zprim (p : List Int) : List Int := if p = [] then [] else zdiv p (if lead p > 0 then gcdAll p else - gcdAll p)
noncomputable def derR (p : List Int) : List Int := (List.range p.length).map fun i => p.getD i 0 * (i : Int)
noncomputable def zder (p : List Int) : List Int := (derR p).drop 1
noncomputable def mulRow (b : List Int) (one : Nat) (left : Int) : Nat → List Int → List Int
  | 0, found => found
  | j + 1, found => let f := mulRow b one left j found; f.set (one + j) (f.getD (one + j) 0 + left * b.getD j 0)
noncomputable def mulL (a b : List Int) (skip : Bool) : Nat → List Int → List Int
  | 0, found => found
  | i + 1, found => let f := mulL a b skip i found; if skip = true ∧ a.getD i 0 = 0 then f else mulRow b i (a.getD i 0) b.length f
noncomputable def zmul (a b : List Int) : List Int := if a = [] ∨ b = [] then [] else mulL a b true a.length (List.replicate (a.length + b.length - 1) 0)
noncomputable def times (a b : List Int) : List Int := mulL a b false a.length (List.replicate (a.length + b.length - 1) 0)
noncomputable def exLoop (b : List Int) : Nat → List Int → List Int → Option (List Int)
  | 0, _, _ => none
  | n + 1, rest, found =>
    if b.length ≤ rest.length then
      if (lead rest).fmod (lead b) ≠ 0 then none
      else exLoop b n (zsub rest (zraise (zscale b ((lead rest).fdiv (lead b))) (rest.length - b.length))) (found.set (rest.length - b.length) ((lead rest).fdiv (lead b)))
    else if rest = [] then some (trim found) else none
noncomputable def zexact (a b : List Int) : Option (List Int) := exLoop b (a.length + 1) a (List.replicate (a.length + 1 - b.length) 0)
/-- rest, found, left -/
noncomputable def psLoop (b : List Int) : Nat → List Int → List Int → Nat → List Int × List Int × Nat
  | 0, rest, found, left => (rest, found, left)
  | n + 1, rest, found, left =>
    if b.length ≤ rest.length then
      psLoop b n (zsub (zscale rest (lead b)) (zraise (zscale b (lead rest)) (rest.length - b.length)))
        (zsub (zscale found (lead b)) (zraise [-(lead rest)] (rest.length - b.length))) (left - 1)
    else (rest, found, left)
noncomputable def psEnd (a b : List Int) : List Int × List Int × Nat := psLoop b (a.length + 1) a [] (a.length + 1 - b.length)
noncomputable def prem (a b : List Int) : List Int := zscale (psEnd a b).1 (lead b ^ (psEnd a b).2.2)
noncomputable def nextH (front : Int) (step : Nat) (height : Int) : Int := if step = 0 then height else (front ^ step).fdiv (height ^ (step - 1))
noncomputable def srLoop : Nat → List Int → List Int → Int → Int → List Int
  | 0, _, b, _, _ => b
  | n + 1, a, b, front, height =>
    if 1 < b.length then
      if prem a b = [] then b
      else srLoop n b (zdiv (prem a b) (front * height ^ (a.length - b.length))) (lead b) (nextH (lead b) (a.length - b.length) height)
    else b
noncomputable def srLast (a b : List Int) : List Int := if a.length < b.length then srLoop (a.length + 1) b a 1 1 else srLoop (b.length + 1) a b 1 1
noncomputable def zgcd (a b : List Int) : List Int :=
  if a = [] ∨ b = [] then let only := if a = [] then b else a; zscale (zprim only) (gcdAll only)
  else let last := srLast (zprim a) (zprim b); if 1 < last.length then zscale (zprim last) (Int.gcd (gcdAll a) (gcdAll b)) else [(Int.gcd (gcdAll a) (gcdAll b) : Int)]
/-- far below the size that the model weighs -/
noncomputable def Small (x : Int) : Prop := ∃ n, n ≤ 67108864 ∧ x.natAbs < 2 ^ n
noncomputable def Bd (p : List Int) : Prop := ∀ x ∈ p, Small x
/-- what the walk of an exact division asks of the numbers on its way -/
noncomputable def exOk (b : List Int) : Nat → List Int → Prop
  | 0, _ => True
  | n + 1, rest => b.length ≤ rest.length → Small ((lead rest).fdiv (lead b)) ∧ exOk b n (zsub rest (zraise (zscale b ((lead rest).fdiv (lead b))) (rest.length - b.length)))
/-- the same of a pseudo division -/
noncomputable def psOk (b : List Int) : Nat → List Int → List Int → Nat → Prop
  | 0, _, _, _ => True
  | n + 1, rest, found, left => Bd rest ∧ Bd found ∧ (b.length ≤ rest.length →
      psOk b n (zsub (zscale rest (lead b)) (zraise (zscale b (lead rest)) (rest.length - b.length)))
        (zsub (zscale found (lead b)) (zraise [-(lead rest)] (rest.length - b.length))) (left - 1))
noncomputable def PowOk (x : Int) (n : Nat) : Prop := ∃ k, x.natAbs < 2 ^ k ∧ k * (n + 1) < 67108864
noncomputable def srOk : Nat → List Int → List Int → Int → Int → Prop
  | 0, _, _, _, _ => True
  | n + 1, a, b, front, height => 1 < b.length → Bd b ∧ psOk b (a.length + 1) a [] (a.length + 1 - b.length) ∧ PowOk (lead b) a.length ∧
      (prem a b ≠ [] → Small front ∧ PowOk height a.length ∧ front ≠ 0 ∧ height ≠ 0 ∧ srOk n b (zdiv (prem a b) (front * height ^ (a.length - b.length))) (lead b) (nextH (lead b) (a.length - b.length) height))
noncomputable def gcOk (a b : List Int) : Prop :=
  a ≠ [] ∧ gcdAll a ≠ 0 ∧ (b = [] → Bd (zprim a) ∧ Small (gcdAll a)) ∧
  (b ≠ [] → gcdAll b ≠ 0 ∧ b.length ≤ a.length ∧ srOk (b.length + 1) (zprim a) (zprim b) 1 1 ∧
    (1 < (srLast (zprim a) (zprim b)).length → gcdAll (srLast (zprim a) (zprim b)) ≠ 0 ∧ Bd (zprim (srLast (zprim a) (zprim b))) ∧ Small (Int.gcd (gcdAll a) (gcdAll b))))
/-! small facts on naturals -/
theorem nb1 {a b : Nat} (h : b ≤ a) : a - 1 - (a - b) = b - 1 := by rw [Nat.sub_sub, Nat.add_comm, ← Nat.sub_sub, Nat.sub_sub_self h]
theorem nb2 {a b m n : Nat} (h1 : a = m + 1) (h2 : b = n + 1 + 1) : a - b = m - (n + 1) := by rw [h1, h2, Nat.add_sub_add_right]
theorem nb3 {k p x : Nat} (h : k + p = x) : x - k = p := by rw [← h, Nat.add_sub_cancel_left]
theorem nb4 {n : Nat} (h : 0 < n) : n = n - 1 + 1 := (Nat.sub_add_cancel h).symm
theorem nb5 {a n : Nat} (h : a < n) : n = n - 1 + 1 := (Nat.sub_add_cancel (Nat.lt_of_le_of_lt (Nat.zero_le a) h)).symm
theorem nb6 {r p : Nat} (h : 0 < p) : r ≤ r + p - 1 := Nat.le_sub_one_of_lt (Nat.lt_add_of_pos_right h)
theorem nb7 {a b : Nat} (h1 : 0 < b) (h : a - 1 < a - b) : False := Nat.not_lt.mpr (Nat.sub_le_sub_left h1 a) h
theorem nb8 {x y : Nat} (h0 : 0 < y) (h : x ≤ y - 1) : x < y := Nat.lt_of_le_of_lt h (Nat.sub_lt h0 Nat.one_pos)
theorem nb9 {x y z : Nat} (h : x ≤ y - 1) (h1 : y ≤ z) : x ≤ z := Nat.le_trans h (Nat.le_trans (Nat.sub_le _ _) h1)
theorem nb10 {n i c : Nat} (h1 : c ≤ n + 1) (h2 : n ≤ i) (h3 : ¬ i = n) : c ≤ i := Nat.le_trans h1 (Nat.lt_of_le_of_ne h2 (Ne.symm h3))
theorem nb11 {m n d : Nat} (h : m = n + d) : m - n = d := by rw [h, Nat.add_sub_cancel_left]
theorem nb12 {a b n : Nat} (h1 : a < b) (h2 : b < n + 1) : a < n := Nat.lt_of_lt_of_le h1 (Nat.le_of_lt_succ h2)
theorem nb13 {m n d : Nat} (h : m = n + d + 1) : m - n = d + 1 := by rw [h, Nat.add_assoc, Nat.add_sub_cancel_left]
theorem nb14 {x y l b : Nat} (h : x + 1 ≤ l + b) (h1 : y < x) : y + 1 ≤ l - 1 + b := by omega
theorem nb15 {a b n : Nat} (h : b = n + 1) (h1 : 1 < b) : n = n - 1 + 1 := by subst h; exact nb4 (Nat.lt_of_succ_lt_succ h1)
theorem nb16 {a b c : Nat} (h : a < b) (h1 : b ≤ c) (h2 : c = c) : a < c := Nat.lt_of_lt_of_le h h1
theorem nb17 {x y : Nat} (h : y ≤ x) (h0 : 0 < y) (hn : ¬ x = x - 1 + 1) : False := hn (nb4 (Nat.lt_of_lt_of_le h0 h))
end Mine
end

section
/-! the part SpecLem -/
namespace Mine
theorem gcd_step (x y : Int) (hy : 0 ≤ y) : (Int.gcd y (x.fmod y) : Int) = Int.gcd x y := by
  rw [Int.fmod_eq_emod_of_nonneg _ hy, Int.emod_def, Int.gcd_sub_mul_left_right, Int.gcd_comm]
theorem gcd_abs (a b : Int) : (Int.gcd (if a < 0 then -a else a) (if b < 0 then -b else b) : Int) = Int.gcd a b := by
  split <;> split <;> simp
theorem fmod_lt (x y : Int) (h0 : 0 ≤ y) (hy : y ≠ 0) : 0 ≤ x.fmod y ∧ x.fmod y < y :=
  ⟨Int.fmod_nonneg_of_pos x (by omega), Int.fmod_lt_of_pos x (by omega)⟩
theorem gcd_zero_r (x : Int) (hx : 0 ≤ x) : (Int.gcd x 0 : Int) = x := by
  rw [Int.gcd_zero_right]; lia
theorem trim_take (xs : List Int) (k : Nat) (hk : k < xs.length) (h0 : xs.getD k 0 = 0) : trim (xs.take (k + 1)) = trim (xs.take k) := by
  induction xs generalizing k with
  | nil => simp at hk
  | cons x xs ih =>
    cases k with
    | zero => simp at h0; subst h0; simp [trim]
    | succ k =>
      simp only [List.take_succ_cons, trim]
      rw [ih k (by simpa using hk) (by simpa using h0)]
theorem trim_stop (xs : List Int) (h : xs = [] ∨ xs.getD (xs.length - 1) 0 ≠ 0) : trim xs = xs := by
  induction xs with
  | nil => rfl
  | cons x xs ih =>
    simp only [trim]
    cases xs with
    | nil => simp at h; simp [trim, h]
    | cons y ys =>
      rw [ih (.inr (by simpa using h))]
      simp
theorem trim_dec (xs : List Int) (k : Nat) (h0 : 0 < (k : Int)) (hk : k ≤ xs.length) (h : xs.getD ((k : Int) - 1).toNat 0 = 0) : trim (xs.take (k - 1)) = trim (xs.take k) := by
  obtain ⟨j, rfl⟩ : ∃ j, k = j + 1 := ⟨k - 1, by omega⟩
  have e : (((j + 1 : Nat) : Int) - 1).toNat = j := by simp
  rw [e] at h
  exact (trim_take xs j (by assumption) h).symm
theorem trim_end (xs : List Int) (k : Nat) (hk : k ≤ xs.length) (ht : trim (xs.take k) = trim xs) (h : ¬ 0 < (k : Int) ∨ xs.getD ((k : Int) - 1).toNat 0 ≠ 0) : xs.take ((k : Int)).toNat = trim xs := by
  rw [Int.toNat_natCast, ← ht]
  refine (trim_stop _ ?_).symm
  rcases h with h | h
  · left; have : k = 0 := by omega
    subst this; rfl
  · by_cases h0 : k = 0
    · left; subst h0; rfl
    right
    have e : ((k : Int) - 1).toNat = k - 1 := by simp
    rw [e] at h
    rw [List.length_take, Nat.min_eq_left hk]
    simpa [List.getD_eq_getElem?_getD, List.getElem?_take, show k - 1 < k by exact Nat.sub_lt (Nat.pos_of_ne_zero ‹_›) Nat.one_pos] using h
theorem trim_len_le (l : List Int) : ∀ (k : Nat), (∀ i, k ≤ i → l.getD i 0 = 0) → (trim l).length ≤ k := by
  induction l with
  | nil => intro k _; simp [trim]
  | cons x xs ih =>
    intro k h
    simp only [trim]
    cases k with
    | zero =>
      have h1 := ih 0 (fun i _ => by simpa using h (i + 1) (Nat.zero_le _))
      have h2 : trim xs = [] := List.length_eq_zero_iff.mp (Nat.le_zero.mp h1)
      have h3 : x = 0 := by simpa using h 0 (Nat.le_refl _)
      rw [if_pos ⟨h2, h3⟩]; simp
    | succ k =>
      have h1 := ih k (fun i hi => by simpa using h (i + 1) (Nat.succ_le_succ hi))
      split
      · simp
      · simpa using h1
theorem addR_getD (a b : List Int) (i : Nat) : (addR a b).getD i 0 = a.getD i 0 + b.getD i 0 := by
  unfold addR
  by_cases h : i < max a.length b.length
  · simp [List.getD_eq_getElem?_getD, h]
  · have h1 : a.length ≤ i := by exact Nat.le_trans (Nat.le_max_left _ _) (Nat.not_lt.mp ‹_›)
    have h2 : b.length ≤ i := by exact Nat.le_trans (Nat.le_max_right _ _) (Nat.not_lt.mp ‹_›)
    simp [List.getD_eq_getElem?_getD, List.getElem?_eq_none h1, List.getElem?_eq_none h2, h]
theorem neg_getD (a : List Int) (i : Nat) : (neg a).getD i 0 = - a.getD i 0 := by
  unfold neg
  simp only [List.getD_eq_getElem?_getD, List.getElem?_map]
  cases a[i]? <;> simp
theorem zsub_len_le (u c : List Int) (n : Nat) (hu : u.length ≤ n + 1) (hc : c.length ≤ n + 1) (h : u.getD n 0 = c.getD n 0) : (zsub u c).length ≤ n := by
  unfold zsub zadd
  refine trim_len_le _ n fun i hi => ?_
  rw [addR_getD, neg_getD]
  by_cases e : i = n
  · subst e; lia
  · have h1 : u.length ≤ i := by exact nb10 ‹_› ‹_› ‹_›
    have h2 : c.length ≤ i := by exact nb10 ‹_› ‹_› ‹_›
    simp [List.getD_eq_getElem?_getD, List.getElem?_eq_none h1, List.getElem?_eq_none h2]
theorem zscale_getD (p : List Int) (k : Int) (i : Nat) : (zscale p k).getD i 0 = p.getD i 0 * k := by
  unfold zscale
  split
  · rename_i h; subst h; simp
  · simp only [List.getD_eq_getElem?_getD, List.getElem?_map]
    cases p[i]? <;> simp
theorem zscale_len (p : List Int) (k : Int) : (zscale p k).length ≤ p.length := by
  unfold zscale; split <;> simp
theorem zraise_len (p : List Int) (m : Nat) : (zraise p m).length ≤ m + p.length := by
  unfold zraise; split <;> simp
theorem zraise_getD (p : List Int) (m i : Nat) : (zraise p m).getD i 0 = if i < m then 0 else p.getD (i - m) 0 := by
  unfold zraise
  split
  · rename_i h; subst h; simp
  · simp only [List.getD_eq_getElem?_getD, List.getElem?_append, List.length_replicate]
    split
    · rename_i h; simp [h]
    · rfl
theorem ex_len {rest b : List Int} (hb : 0 < b.length) (hl : b.length ≤ rest.length) (h0 : lead b ≠ 0) (hm : (lead rest).fmod (lead b) = 0) :
    (zsub rest (zraise (zscale b ((lead rest).fdiv (lead b))) (rest.length - b.length))).length < rest.length := by
  have hq : (lead rest).fdiv (lead b) * lead b = lead rest := by
    have := Int.mul_fdiv_add_fmod (lead rest) (lead b)
    rw [hm, Int.mul_comm] at this; omega
  have := zsub_len_le rest (zraise (zscale b ((lead rest).fdiv (lead b))) (rest.length - b.length)) (rest.length - 1) (by omega)
    (by have h1 := zraise_len (zscale b ((lead rest).fdiv (lead b))) (rest.length - b.length); have h2 := zscale_len b ((lead rest).fdiv (lead b)); omega)
    (by
      rw [zraise_getD, if_neg (by omega), zscale_getD]
      have e : rest.length - 1 - (rest.length - b.length) = b.length - 1 := by exact nb1 ‹_›
      rw [e]
      show lead rest = lead b * _
      rw [Int.mul_comm]; exact hq.symm)
  omega
theorem ps_len {rest b : List Int} (hb : 0 < b.length) (hl : b.length ≤ rest.length) :
    (zsub (zscale rest (lead b)) (zraise (zscale b (lead rest)) (rest.length - b.length))).length < rest.length := by
  have := zsub_len_le (zscale rest (lead b)) (zraise (zscale b (lead rest)) (rest.length - b.length)) (rest.length - 1)
    (by have := zscale_len rest (lead b); omega)
    (by have h1 := zraise_len (zscale b (lead rest)) (rest.length - b.length); have h2 := zscale_len b (lead rest); omega)
    (by
      rw [zraise_getD, if_neg (by omega), zscale_getD, zscale_getD]
      have e : rest.length - 1 - (rest.length - b.length) = b.length - 1 := by exact nb1 ‹_›
      rw [e]
      show lead rest * lead b = lead b * lead rest
      rw [Int.mul_comm])
  omega
theorem lead_eq (xs : List Int) : xs.getD (-1 + (xs.length : Int)).toNat 0 = lead xs := by
  unfold lead; congr 1; omega
theorem ex_none {ys rest found q : List Int} {n : Nat} (h : exLoop ys (n + 1) rest found = some q) (hl : ys.length ≤ rest.length) : (lead rest).fmod (lead ys) = 0 := by
  unfold exLoop at h
  rw [if_pos hl] at h
  by_cases e : (lead rest).fmod (lead ys) = 0
  · exact e
  · rw [if_pos e] at h; cases h
theorem ex_step {ys rest found q : List Int} {n : Nat} (h : exLoop ys (n + 1) rest found = some q) (hl : ys.length ≤ rest.length) :
    exLoop ys n (zsub rest (zraise (zscale ys ((lead rest).fdiv (lead ys))) (rest.length - ys.length))) (found.set (rest.length - ys.length) ((lead rest).fdiv (lead ys))) = some q := by
  have e := ex_none h hl
  unfold exLoop at h
  rw [if_pos hl, if_neg (by simp [e])] at h
  exact h
theorem ex_end {ys rest found q : List Int} {n : Nat} (h : exLoop ys (n + 1) rest found = some q) (hl : ¬ ys.length ≤ rest.length) : rest = [] ∧ q = trim found := by
  unfold exLoop at h
  rw [if_neg hl] at h
  by_cases e : rest = []
  · rw [if_pos e] at h; exact ⟨e, (Option.some.inj h).symm⟩
  · rw [if_neg e] at h; cases h
theorem zsub_len_max (u c : List Int) : (zsub u c).length ≤ max u.length c.length := by
  unfold zsub zadd
  refine trim_len_le _ _ fun i hi => ?_
  rw [addR_getD, neg_getD]
  have h1 : u.length ≤ i := by exact Nat.le_trans (Nat.le_max_left _ _) ‹_›
  have h2 : c.length ≤ i := by exact Nat.le_trans (Nat.le_max_right _ _) ‹_›
  simp [List.getD_eq_getElem?_getD, List.getElem?_eq_none h1, List.getElem?_eq_none h2]
theorem small_pow {x : Int} {l n : Nat} (h : ∃ k, x.natAbs < 2 ^ k ∧ k * n < 67108864) (hl : l ≤ n) : Small (x ^ l) := by
  obtain ⟨k, hk, hn⟩ := h
  refine ⟨k * l + 1, ?_, ?_⟩
  · have := Nat.mul_le_mul_left k hl
    exact Nat.lt_of_le_of_lt (by assumption) (by assumption)
  · rw [Int.natAbs_pow]
    have h1 : x.natAbs ^ l ≤ (2 ^ k) ^ l := Nat.pow_le_pow_left (Nat.le_of_lt hk) l
    rw [← Nat.pow_mul] at h1
    have h2 : 2 ^ (k * l) < 2 ^ (k * l + 1) := Nat.pow_lt_pow_right (by decide) (Nat.lt_succ_self _)
    exact Nat.lt_of_le_of_lt (by assumption) (by assumption)
theorem lead_mem {p : List Int} (h : 0 < p.length) : lead p ∈ p := by
  unfold lead
  have h2 : p.length - 1 < p.length := by exact Nat.sub_lt (by assumption) (by decide)
  simp [List.getD_eq_getElem?_getD, h2]
theorem ps_step {ys rest found : List Int} {n left : Nat} (hl : ys.length ≤ rest.length) :
    psLoop ys (n + 1) rest found left = psLoop ys n (zsub (zscale rest (lead ys)) (zraise (zscale ys (lead rest)) (rest.length - ys.length)))
        (zsub (zscale found (lead ys)) (zraise [-(lead rest)] (rest.length - ys.length))) (left - 1) := by
  rw [psLoop, if_pos hl]
theorem ps_end {ys rest found : List Int} {n left : Nat} (hl : ¬ ys.length ≤ rest.length) : psLoop ys (n + 1) rest found left = (rest, found, left) := by
  rw [psLoop, if_neg hl]
theorem ps_done {ys : List Int} (hy : 0 < ys.length) : ∀ (n : Nat) (rest found : List Int) (left : Nat), rest.length < n → (psLoop ys n rest found left).1.length < ys.length
  | 0, _, _, _, h => absurd h (Nat.not_lt_zero _)
  | n + 1, rest, found, left, h => by
    by_cases hl : ys.length ≤ rest.length
    · rw [ps_step hl]
      exact ps_done hy n _ _ _ (by have := ps_len hy hl; exact nb12 ‹_› ‹_›)
    · rw [ps_end hl]; show rest.length < ys.length; exact Nat.not_le.mp (by assumption)
theorem prem_len {a b : List Int} (hb : 0 < b.length) : (prem a b).length < b.length := by
  unfold prem
  have h1 := zscale_len (psEnd a b).1 (lead b ^ (psEnd a b).2.2)
  have h2 : (psEnd a b).1.length < b.length := ps_done hb _ _ _ _ (Nat.lt_succ_self _)
  exact Nat.lt_of_le_of_lt (by assumption) (by assumption)
theorem zdiv_len (p : List Int) (k : Int) : (zdiv p k).length = p.length := by unfold zdiv; simp
theorem zprim_len (p : List Int) : (zprim p).length = p.length := by
  unfold zprim; split
  · rename_i h; rw [h]
  · rw [zdiv_len]
theorem zgcd_nil {a : List Int} (ha : a ≠ []) : zgcd a [] = zscale (zprim a) (gcdAll a) := by
  unfold zgcd; simp [ha]
theorem zgcd_long {a b : List Int} (ha : a ≠ []) (hb : b ≠ []) (h : 1 < (srLast (zprim a) (zprim b)).length) : zgcd a b = zscale (zprim (srLast (zprim a) (zprim b))) (Int.gcd (gcdAll a) (gcdAll b)) := by
  unfold zgcd; simp [ha, hb, h]
theorem zgcd_short {a b : List Int} (ha : a ≠ []) (hb : b ≠ []) (h : ¬ 1 < (srLast (zprim a) (zprim b)).length) : zgcd a b = [(Int.gcd (gcdAll a) (gcdAll b) : Int)] := by
  unfold zgcd; simp [ha, hb, h]
end Mine
end

section
/-! the part M1 -/
/-! polynomials as lists of ints, by their values -/
namespace Mine
noncomputable def ev : List Int → Int → Int
  | [], _ => 0
  | c :: p, x => c + x * ev p x
noncomputable def dv : List Int → Int → Int
  | [], _ => 0
  | _ :: p, x => ev p x + x * dv p x
theorem ev_congr {p q : List Int} (h : ∀ i, p.getD i 0 = q.getD i 0) (x : Int) : ev p x = ev q x ∧ dv p x = dv q x := by
  induction p generalizing q with
  | nil =>
    induction q with
    | nil => exact ⟨rfl, rfl⟩
    | cons d q ih =>
      have h0 : 0 = d := by simpa using h 0
      have ih := ih (fun i => by simpa using h (i + 1))
      simp only [ev, dv] at ih ⊢
      rw [← ih.1, ← ih.2, ← h0]; simp
  | cons c p ih =>
    cases q with
    | nil =>
      have h0 : c = 0 := by simpa using h 0
      have ih := @ih [] (fun i => by simpa using h (i + 1))
      simp only [ev, dv] at ih ⊢
      rw [ih.1, ih.2, h0]; simp
    | cons d q =>
      have h0 : c = d := by simpa using h 0
      have ih := @ih q (fun i => by simpa using h (i + 1))
      simp only [ev, dv] at ih ⊢
      rw [ih.1, ih.2, h0]; exact ⟨rfl, rfl⟩
theorem trim_getD (p : List Int) : ∀ i, (trim p).getD i 0 = p.getD i 0 := by
  induction p with
  | nil => intro i; rfl
  | cons c p ih =>
    intro i
    unfold trim
    split
    · rename_i h
      have h2 : ∀ j, p.getD j 0 = 0 := fun j => by rw [← ih j, h.1]; simp
      cases i with
      | zero => simp [h.2]
      | succ i => simpa using (h2 i).symm
    · cases i with
      | zero => simp
      | succ i => simpa using ih i
theorem ev_trim (p : List Int) (x : Int) : ev (trim p) x = ev p x := (ev_congr (trim_getD p) x).1
/-- the plain sum -/
noncomputable def sumL : List Int → List Int → List Int
  | [], q => q
  | p, [] => p
  | c :: p, d :: q => (c + d) :: sumL p q
theorem sumL_getD : ∀ (p q : List Int) (i : Nat), (sumL p q).getD i 0 = p.getD i 0 + q.getD i 0
  | [], q, i => by simp [sumL]
  | c :: p, [], i => by simp [sumL]
  | c :: p, d :: q, 0 => by simp [sumL]
  | c :: p, d :: q, i + 1 => by simpa [sumL] using sumL_getD p q i
theorem ev_sumL : ∀ (p q : List Int) (x : Int), ev (sumL p q) x = ev p x + ev q x ∧ dv (sumL p q) x = dv p x + dv q x
  | [], q, x => by simp [sumL, ev, dv]
  | c :: p, [], x => by simp [sumL, ev, dv]
  | c :: p, d :: q, x => by
    have h := ev_sumL p q x
    simp only [sumL, ev, dv, h.1, h.2]
    constructor <;> grind
theorem ev_addR (p q : List Int) (x : Int) : ev (addR p q) x = ev p x + ev q x ∧ dv (addR p q) x = dv p x + dv q x := by
  have h := ev_congr (p := addR p q) (q := sumL p q) (fun i => by rw [addR_getD, sumL_getD]) x
  rw [h.1, h.2]; exact ev_sumL p q x
theorem ev_zadd (p q : List Int) (x : Int) : ev (zadd p q) x = ev p x + ev q x := by
  unfold zadd; rw [ev_trim]; exact (ev_addR p q x).1
theorem ev_map_mul (k : Int) : ∀ (p : List Int) (x : Int), ev (p.map fun y => y * k) x = ev p x * k ∧ dv (p.map fun y => y * k) x = dv p x * k
  | [], x => by simp [ev, dv]
  | c :: p, x => by
    have h := ev_map_mul k p x
    simp only [List.map_cons, ev, dv, h.1, h.2]
    constructor <;> grind
theorem ev_zscale (p : List Int) (k x : Int) : ev (zscale p k) x = ev p x * k := by
  unfold zscale
  split
  · rename_i h; simp [h, ev]
  · exact (ev_map_mul k p x).1
theorem neg_map (p : List Int) : neg p = p.map fun y => y * (-1) := by
  unfold neg; congr 1; funext y; simp
theorem ev_neg (p : List Int) (x : Int) : ev (neg p) x = - ev p x := by rw [neg_map, (ev_map_mul _ p x).1]; simp
theorem ev_zsub (p q : List Int) (x : Int) : ev (zsub p q) x = ev p x - ev q x := by
  unfold zsub; rw [ev_zadd, ev_neg]; rfl
theorem ev_rep : ∀ (m : Nat) (p : List Int) (x : Int), ev (List.replicate m 0 ++ p) x = x ^ m * ev p x
  | 0, p, x => by simp
  | m + 1, p, x => by
    rw [List.replicate_succ, List.cons_append, ev, ev_rep m p x, Int.pow_succ]; grind
theorem ev_zraise (p : List Int) (m : Nat) (x : Int) : ev (zraise p m) x = x ^ m * ev p x := by
  unfold zraise
  split
  · rename_i h; simp [h, ev]
  · exact ev_rep m p x
/-- the plain product -/
noncomputable def mulP : List Int → List Int → List Int
  | [], _ => []
  | c :: p, q => sumL (q.map fun y => y * c) (0 :: mulP p q)
theorem ev_mulP : ∀ (p q : List Int) (x : Int), ev (mulP p q) x = ev p x * ev q x ∧ dv (mulP p q) x = dv p x * ev q x + ev p x * dv q x
  | [], q, x => by simp [mulP, ev, dv]
  | c :: p, q, x => by
    have h := ev_mulP p q x
    have h1 := ev_sumL (q.map fun y => y * c) (0 :: mulP p q) x
    have h2 := ev_map_mul c q x
    simp only [mulP, h1.1, h1.2, h2.1, h2.2, ev, dv, h.1, h.2]
    constructor <;> grind
/-- a list all of whose values away from 0 are 0 is all zeros -/
theorem ev_zero {p : List Int} (h : ∀ x, x ≠ 0 → ev p x = 0) : ∀ i, p.getD i 0 = 0 := by
  induction p with
  | nil => intro i; simp
  | cons c p ih =>
    have hc : c = 0 := by
      have h1 := h (c.natAbs + 1) (by lia)
      simp only [ev] at h1
      have h2 : ((c.natAbs : Int) + 1) ∣ c := ⟨- ev p (c.natAbs + 1), by grind⟩
      have h3 := Int.natAbs_dvd_natAbs.mpr h2
      have h4 : ((c.natAbs : Int) + 1).natAbs = c.natAbs + 1 := by rfl
      rw [h4] at h3
      by_cases e : c.natAbs = 0
      · omega
      · have := Nat.le_of_dvd (by exact Nat.pos_of_ne_zero (by assumption)) h3; lia
    have h2 := ih (fun x hx => by
      have h1 := h x hx
      simp only [ev] at h1
      rw [hc, Int.zero_add] at h1
      exact (Int.mul_eq_zero.mp h1).resolve_left hx)
    intro i
    cases i with
    | zero => simpa using hc
    | succ i => simpa using h2 i
theorem ev_ext {p q : List Int} (h : ∀ x, x ≠ 0 → ev p x = ev q x) : ∀ i, p.getD i 0 = q.getD i 0 := by
  intro i
  have := ev_zero (p := zsub p q) (fun x hx => by rw [ev_zsub, h x hx]; simp) i
  unfold zsub zadd at this
  rw [trim_getD, addR_getD, neg_getD] at this
  lia
/-- trimmed -/
noncomputable def Tr (p : List Int) : Prop := p = [] ∨ lead p ≠ 0
theorem tr_trim (p : List Int) : Tr (trim p) := by
  induction p with
  | nil => exact .inl rfl
  | cons c p ih =>
    unfold trim
    split
    · exact .inl rfl
    · rename_i h
      right
      unfold lead
      rcases ih with e | e
      · rw [e] at h ⊢
        simp at h
        simpa using h
      · unfold lead at e
        cases ht : trim p with
        | nil => rw [ht] at e; simp at e
        | cons d r => rw [ht] at e; simpa using e
theorem tr_ext {p q : List Int} (hp : Tr p) (hq : Tr q) (h : ∀ i, p.getD i 0 = q.getD i 0) : p = q := by
  have len : ∀ {p q : List Int}, Tr p → (∀ i, p.getD i 0 = q.getD i 0) → p.length ≤ q.length := fun {p q} hp h => by
    rcases hp with e | e
    · simp [e]
    · rcases Nat.lt_or_ge q.length p.length with h1 | h1
      · unfold lead at e
        rw [h, List.getD_eq_getElem?_getD, List.getElem?_eq_none (by exact Nat.le_sub_one_of_lt ‹_›)] at e
        exact absurd rfl e
      · exact h1
  have h1 := len hp h
  have h2 := len hq (fun i => (h i).symm)
  refine List.ext_getElem (by lia) fun i hi hi' => ?_
  have := h i
  simpa [List.getD_eq_getElem?_getD, hi, hi'] using this
theorem tr_ev {p q : List Int} (hp : Tr p) (hq : Tr q) (h : ∀ x, x ≠ 0 → ev p x = ev q x) : p = q := tr_ext hp hq (ev_ext h)
theorem tr_zsub (p q : List Int) : Tr (zsub p q) := tr_trim _
theorem lead_map {f : Int → Int} (hf : f 0 = 0) (p : List Int) : lead (p.map f) = f (lead p) := by
  unfold lead
  rw [List.length_map]
  simp only [List.getD_eq_getElem?_getD, List.getElem?_map]
  cases p[p.length - 1]? <;> simp [hf]
theorem tr_zscale {p : List Int} (h : Tr p) (k : Int) : Tr (zscale p k) := by
  unfold zscale
  split
  · exact .inl rfl
  · rename_i hk
    rcases h with e | e
    · left; simp [e]
    · right
      rw [lead_map (by simp)]
      exact Int.mul_ne_zero e hk
theorem tr_neg {p : List Int} (h : Tr p) : Tr (neg p) := by
  unfold neg
  rcases h with e | e
  · left; simp [e]
  · right; rw [lead_map (by simp)]; lia
theorem lead_append (r p : List Int) (h : p ≠ []) : lead (r ++ p) = lead p := by
  unfold lead
  have : 0 < p.length := List.length_pos_iff.mpr h
  simp only [List.getD_eq_getElem?_getD, List.length_append]
  rw [List.getElem?_append_right (by exact nb6 ‹_›)]
  congr 2; lia
end Mine
end

section
/-! the part M2 -/
/-! determinants by rows of coefficients; the subresultants -/
namespace Mine
abbrev Cf := Nat → Int
noncomputable def ex (c : Nat) : (List Cf → Int) → List Cf → Int
  | _, [] => 0
  | f, r :: rs => r c * f rs - ex c (fun l => f (r :: l)) rs
theorem ex_lin (c : Nat) (u : Int) : ∀ (rs : List Cf) (f g : List Cf → Int), ex c (fun l => u * f l + g l) rs = u * ex c f rs + ex c g rs
  | [], _, _ => by simp [ex]
  | r :: rs, f, g => by
    simp only [ex]
    rw [ex_lin c u rs (fun l => f (r :: l)) (fun l => g (r :: l))]
    grind
theorem ex_neg (c : Nat) : ∀ (rs : List Cf) (f : List Cf → Int), ex c (fun l => - f l) rs = - ex c f rs
  | [], _ => by simp [ex]
  | r :: rs, f => by
    simp only [ex]
    rw [ex_neg c rs (fun l => f (r :: l))]
    grind
noncomputable def Alt (f : List Cf → Int) : Prop := ∀ pre r s post, f (pre ++ r :: s :: post) = - f (pre ++ s :: r :: post)
noncomputable def Lin (f : List Cf → Int) : Prop := ∀ pre (u : Int) (r s : Cf) post, f (pre ++ (fun i => u * r i + s i) :: post) = u * f (pre ++ r :: post) + f (pre ++ s :: post)
theorem Alt.ex (c : Nat) {f : List Cf → Int} (h : Alt f) : Alt (ex c f) := by
  intro pre
  induction pre generalizing f with
  | nil =>
    intro r s post
    have e : (fun l => f (r :: s :: l)) = fun l => - f (s :: r :: l) := by funext l; exact h [] r s l
    simp only [List.nil_append, Mine.ex]
    rw [e, ex_neg]
    grind
  | cons x pre ih =>
    intro r s post
    simp only [List.cons_append, Mine.ex]
    rw [h pre r s post, ih (f := fun l => f (x :: l)) (fun p r s q => h (x :: p) r s q) r s post]
    grind
theorem Lin.ex (c : Nat) {f : List Cf → Int} (h : Lin f) : Lin (ex c f) := by
  intro pre
  induction pre generalizing f with
  | nil =>
    intro u r s post
    have e : (fun l => f ((fun i => u * r i + s i) :: l)) = fun l => u * f (r :: l) + f (s :: l) := by funext l; exact h [] u r s l
    simp only [List.nil_append, Mine.ex]
    rw [e, ex_lin]
    grind
  | cons x pre ih =>
    intro u r s post
    simp only [List.cons_append, Mine.ex]
    rw [h pre u r s post, ih (f := fun l => f (x :: l)) (fun p u r s q => h (x :: p) u r s q) u r s post]
    grind
noncomputable def baseF (j : Nat) : List Cf → Int
  | [r] => r j
  | _ => 0
theorem alt_base (j : Nat) : Alt (baseF j) := by
  intro pre r s post
  cases pre with
  | nil => simp [baseF]
  | cons x pre => cases pre <;> simp [baseF]
theorem lin_base (j : Nat) : Lin (baseF j) := by
  intro pre u r s post
  cases pre with
  | nil => cases post <;> simp [baseF]
  | cons x pre => cases pre <;> simp [baseF]
noncomputable def DP : List Nat → Nat → List Cf → Int
  | [], j => baseF j
  | c :: cs, j => ex c (DP cs j)
theorem alt_DP (j : Nat) : ∀ cs, Alt (DP cs j)
  | [] => alt_base j
  | c :: cs => (alt_DP j cs).ex c
theorem lin_DP (j : Nat) : ∀ cs, Lin (DP cs j)
  | [] => lin_base j
  | c :: cs => (lin_DP j cs).ex c
section
variable {f : List Cf → Int}
theorem Lin.zero (h : Lin f) (pre post : List Cf) : f (pre ++ (fun _ => 0) :: post) = 0 := by
  have := h pre 1 (fun _ => 0) (fun _ => 0) post
  simp only [Int.mul_zero, Int.add_zero] at this
  grind
theorem Lin.scale (h : Lin f) (pre post : List Cf) (u : Int) (r : Cf) : f (pre ++ (fun i => u * r i) :: post) = u * f (pre ++ r :: post) := by
  have := h pre u r (fun _ => 0) post
  simp only [Int.add_zero] at this
  rw [this, h.zero]; simp
theorem Alt.move (h : Alt f) (r : Cf) (post : List Cf) : ∀ (mid pre : List Cf), f (pre ++ r :: (mid ++ post)) = (-1) ^ mid.length * f (pre ++ (mid ++ r :: post))
  | [], pre => by simp
  | m :: mid, pre => by
    have := h.move r post mid (pre ++ [m])
    simp only [List.append_assoc, List.cons_append, List.nil_append] at this
    simp only [List.cons_append, List.length_cons]
    rw [h, this, Int.pow_succ]
    grind
theorem Alt.same (h : Alt f) (pre post : List Cf) (r : Cf) (hr : r ∈ post) : f (pre ++ r :: post) = 0 := by
  obtain ⟨mid, q, rfl⟩ := List.append_of_mem hr
  rw [h.move]
  have e := h (pre ++ mid) r r q
  simp only [List.append_assoc] at e
  have : f (pre ++ (mid ++ r :: r :: q)) = 0 := by lia
  rw [this]; simp
theorem Alt.blocks (h : Alt f) (Y : List Cf) : ∀ (X pre : List Cf), f (pre ++ (X ++ Y)) = (-1) ^ (X.length * Y.length) * f (pre ++ (Y ++ X))
  | [], pre => by simp
  | x :: X, pre => by
    have h1 := h.blocks Y X (pre ++ [x])
    simp only [List.append_assoc, List.cons_append, List.nil_append] at h1
    simp only [List.cons_append, List.length_cons]
    rw [h1, h.move x X Y pre, Nat.succ_mul, Int.pow_add]
    grind
end
noncomputable def sumN (g : Nat → Int) : Nat → Int
  | 0 => 0
  | n + 1 => sumN g n + g n
theorem add_rows {f : List Cf → Int} (hl : Lin f) (ha : Alt f) (pre post : List Cf) (v : Cf) (q : Nat → Int) (s : Nat → Cf) : ∀ (N : Nat), (∀ j, j < N → s j ∈ post) →
    f (pre ++ (fun i => v i + sumN (fun j => q j * s j i) N) :: post) = f (pre ++ v :: post)
  | 0, _ => by simp [sumN]
  | N + 1, hs => by
    have ih := add_rows hl ha pre post v q s N (fun j hj => hs j (by exact Nat.le_succ_of_le (by assumption)))
    have e : (fun i => v i + sumN (fun j => q j * s j i) (N + 1)) = fun i => q N * s N i + (v i + sumN (fun j => q j * s j i) N) := by
      funext i; simp only [sumN]; lia
    rw [e, hl pre (q N) (s N) _ post, ha.same _ _ _ (hs N (by exact Nat.lt_succ_self _)), ih]; simp
theorem ex_none_top (c : Nat) : ∀ (rs : List Cf) (f : List Cf → Int), (∀ r ∈ rs, r c = 0) → ex c f rs = 0
  | [], _, _ => rfl
  | r :: rs, f, h => by
    simp only [ex]
    rw [h r (.head _), ex_none_top c rs _ (fun r' h' => h r' (.tail _ h'))]; simp
theorem ex_strip (c : Nat) (r : Cf) (rs : List Cf) (f : List Cf → Int) (h : ∀ r ∈ rs, r c = 0) : ex c f (r :: rs) = r c * f rs := by
  simp only [ex]
  rw [ex_none_top c rs _ h]; simp
noncomputable def sh (k : Nat) (f : Cf) : Cf := fun i => if i < k then 0 else f (i - k)
noncomputable def pw : Nat → Cf → List Cf
  | 0, _ => []
  | n + 1, f => sh n f :: pw n f
theorem pw_len (f : Cf) : ∀ n, (pw n f).length = n
  | 0 => rfl
  | n + 1 => by simp [pw, pw_len f n]
theorem mem_pw {f : Cf} : ∀ {n i : Nat}, i < n → sh i f ∈ pw n f
  | n + 1, i, h => by
    by_cases e : i = n
    · subst e; exact .head _
    · exact .tail _ (mem_pw (by lia))
theorem of_pw {f r : Cf} : ∀ {n : Nat}, r ∈ pw n f → ∃ i, i < n ∧ r = sh i f
  | n + 1, h => by
    rcases List.mem_cons.mp h with e | h
    · exact ⟨n, by exact Nat.lt_succ_self _, e⟩
    · obtain ⟨i, hi, e⟩ := of_pw h
      exact ⟨i, by exact Nat.le_succ_of_le (by assumption), e⟩
noncomputable def col : Nat → Nat → List Nat
  | _, 0 => []
  | t, c + 1 => (t - 1) :: col (t - 1) c
noncomputable def Sr (k p q : Nat) (a b : Cf) (j : Nat) : Int := DP (col (k + p + q) (p + q - 1)) j (pw p a ++ pw q b)
noncomputable def Dg (f : Cf) (d : Nat) : Prop := ∀ i, d < i → f i = 0
theorem sh_top {f : Cf} {d i c : Nat} (h : Dg f d) (hc : d + i < c) : sh i f c = 0 := by
  unfold sh; split
  · rfl
  · exact h _ (by omega)
theorem strip {b : Cf} {k p t : Nat} (j : Nat) (R : List Cf) (hb : Dg b (k + p)) (hpt : 0 < p + t) (hR : ∀ r ∈ R, ∀ i, k + p + t ≤ i → r i = 0) :
    ∀ e, DP (col (k + p + (t + e)) (p + (t + e) - 1)) j (pw (t + e) b ++ R) = b (k + p) ^ e * DP (col (k + p + t) (p + t - 1)) j (pw t b ++ R)
  | 0 => by simp
  | e + 1 => by
    have ih := strip j R hb hpt hR e
    have e1 : p + (t + (e + 1)) - 1 = (p + (t + e) - 1) + 1 := by lia
    have e2 : k + p + (t + (e + 1)) - 1 = k + p + (t + e) := by rfl
    rw [e1, show t + (e + 1) = (t + e) + 1 by rfl]
    simp only [col, pw, List.cons_append]
    rw [show k + p + (t + e + 1) - 1 = k + p + (t + e) by omega]
    simp only [DP]
    rw [ex_strip, ih]
    · have : sh (t + e) b (k + p + (t + e)) = b (k + p) := by unfold sh; rw [if_neg (by simp)]; congr 1; exact Nat.add_sub_cancel _ _
      rw [this, Int.pow_succ]; grind
    · intro r hr
      rcases List.mem_append.mp hr with hr | hr
      · obtain ⟨i, hi, rfl⟩ := of_pw hr
        exact sh_top hb (by lia)
      · exact hR r hr _ (by simp)
theorem scale_rows {f : List Cf → Int} (hl : Lin f) (E : Int) (a : Cf) (Y : List Cf) : ∀ (p : Nat) (pre : List Cf), f (pre ++ (pw p (fun i => E * a i) ++ Y)) = E ^ p * f (pre ++ (pw p a ++ Y))
  | 0, pre => by simp [pw]
  | p + 1, pre => by
    have e : sh p (fun i => E * a i) = fun i => E * sh p a i := by funext i; unfold sh; split <;> simp
    have ih := scale_rows hl E a Y p (pre ++ [sh p a])
    simp only [List.append_assoc, List.cons_append, List.nil_append] at ih
    simp only [pw, List.cons_append]
    rw [e, hl.scale, ih, Int.pow_succ]; grind
theorem swap_rows {f : List Cf → Int} (hl : Lin f) (ha : Alt f) (u v b : Cf) (Q : Nat → Int) (N : Nat) (Y : List Cf) (hu : ∀ i, u i = v i + sumN (fun j => Q j * sh j b i) N) :
    ∀ (p : Nat) (pre : List Cf), (∀ i j, i < p → j < N → sh (i + j) b ∈ Y) → f (pre ++ (pw p u ++ Y)) = f (pre ++ (pw p v ++ Y))
  | 0, pre, _ => by simp [pw]
  | p + 1, pre, hY => by
    have e : sh p u = fun c => sh p v c + sumN (fun j => Q j * sh (p + j) b c) N := by
      funext c
      have z : ∀ N, sumN (fun _ => (0 : Int)) N = 0 := fun N => by induction N with
        | zero => rfl
        | succ n ih => simp [sumN, ih]
      by_cases hc : c < p
      · have e1 : (fun j => Q j * sh (p + j) b c) = fun _ => (0 : Int) := by funext j; unfold sh; rw [if_pos (by exact Nat.lt_add_right _ ‹_›)]; simp
        rw [e1, z]
        unfold sh; rw [if_pos hc, if_pos hc]; simp
      · have e1 : (fun j => Q j * sh (p + j) b c) = fun j => Q j * sh j b (c - p) := by
          funext j; congr 1; unfold sh
          by_cases h2 : c - p < j
          · rw [if_pos (by omega), if_pos h2]
          · rw [if_neg (by omega), if_neg h2]; congr 1; lia
        rw [e1]
        have := hu (c - p)
        unfold sh at this ⊢
        rw [if_neg hc, if_neg hc]; exact this
    have ih := swap_rows hl ha u v b Q N Y hu p (pre ++ [sh p v]) (fun i j hi hj => hY i j (by exact Nat.le_succ_of_le (by assumption)) hj)
    simp only [List.append_assoc, List.cons_append, List.nil_append] at ih
    simp only [pw, List.cons_append]
    rw [e, add_rows hl ha pre _ (sh p v) Q (fun j => sh (p + j) b) N (fun j hj => List.mem_append_right _ (hY p j (by exact Nat.lt_succ_self _) hj)), ih]
/-- one step of the chain -/
theorem Sr_step {a b r : Cf} {k p q t : Nat} {E β : Int} {Q : Nat → Int} {N : Nat} (hb : Dg b (k + p)) (hr : Dg r (k + t)) (hp : 0 < p) (htq : t ≤ q) (hN : p + N ≤ q + 1)
    (hrel : ∀ i, E * a i = β * r i + sumN (fun j => Q j * sh j b i) N) (j : Nat) :
    E ^ p * Sr k p q a b j = (-1) ^ (p * q) * (b (k + p) ^ (q - t) * (β ^ p * Sr k t p b r j)) := by
  have hl := lin_DP j (col (k + p + q) (p + q - 1))
  have ha := alt_DP j (col (k + p + q) (p + q - 1))
  have h1 := scale_rows hl E a (pw q b) p []
  have h2 := swap_rows hl ha (fun i => E * a i) (fun i => β * r i) b Q N (pw q b) hrel p [] (fun i j hi hj => mem_pw (by lia))
  have h3 := scale_rows hl β r (pw q b) p []
  have h4 := ha.blocks (pw q b) (pw p r) []
  simp only [List.nil_append] at h1 h2 h3 h4
  have h5 := strip (b := b) (k := k) (p := p) (t := t) j (pw p r) hb (by exact Nat.lt_add_right _ ‹_›) (fun x hx i hi => by
    obtain ⟨e, he, rfl⟩ := of_pw hx
    exact sh_top hr (by lia)) (q - t)
  rw [show t + (q - t) = q by grind] at h5
  unfold Sr
  rw [← h1, h2, h3, h4, h5, pw_len, pw_len, show k + t + p = k + p + t by lia, show t + p - 1 = p + t - 1 by lia]
  grind
theorem Sr_one (k : Nat) (b r : Cf) (j : Nat) : Sr k 0 1 b r j = r j := by
  simp [Sr, col, pw, DP, baseF, sh]
theorem Sr_top {b : Cf} {k q : Nat} (hb : Dg b k) (hq : 0 < q) (a : Cf) (j : Nat) : Sr k 0 q a b j = b k ^ (q - 1) * b j := by
  have := strip (b := b) (k := k) (p := 0) (t := 1) j [] hb (by exact Nat.succ_pos _) (fun _ h => nomatch h) (q - 1)
  rw [show 1 + (q - 1) = q by exact Nat.add_sub_of_le ‹_›] at this
  simp only [List.append_nil] at this
  unfold Sr
  simp only [pw, List.nil_append]
  rw [this]
  simp [col, pw, DP, baseF, sh]
theorem sg (n : Nat) : ((-1 : Int) ^ n = 1) ∨ ((-1 : Int) ^ n = -1) := by
  induction n with
  | zero => left; rfl
  | succ n ih => rw [Int.pow_succ]; rcases ih with h | h <;> rw [h] <;> simp
end Mine
end

section
/-! the part M3 -/
/-! pseudo division; the chain of subresultants -/
namespace Mine
noncomputable def cf (p : List Int) : Cf := fun i => p.getD i 0
theorem sumN_add (f g : Nat → Int) : ∀ N, sumN (fun j => f j + g j) N = sumN f N + sumN g N
  | 0 => by simp [sumN]
  | N + 1 => by simp only [sumN, sumN_add f g N]; lia
theorem sumN_congr {f g : Nat → Int} : ∀ N, (∀ j, j < N → f j = g j) → sumN f N = sumN g N
  | 0, _ => rfl
  | N + 1, h => by simp only [sumN]; rw [sumN_congr N (fun j hj => h j (by exact Nat.le_succ_of_le (by assumption))), h N (by exact Nat.lt_succ_self _)]
theorem sumN_zero : ∀ N, sumN (fun _ => (0 : Int)) N = 0
  | 0 => rfl
  | N + 1 => by simp [sumN, sumN_zero N]
theorem sumN_one (k : Nat) (f : Nat → Int) : ∀ N, k < N → sumN (fun j => if j = k then f j else 0) N = f k
  | 0, h => absurd h (Nat.not_lt_zero _)
  | N + 1, h => by
    simp only [sumN]
    by_cases e : k = N
    · subst e
      rw [if_pos rfl, sumN_congr k (g := fun _ => 0) (fun j hj => if_neg (by omega)), sumN_zero]; simp
    · rw [sumN_one k f N (by exact Nat.lt_of_le_of_ne (Nat.le_of_lt_succ ‹_›) ‹_›), if_neg (by lia)]; simp
theorem sumN_le {f : Nat → Int} {N : Nat} (h : ∀ j, N ≤ j → f j = 0) : ∀ M, N ≤ M → sumN f M = sumN f N
  | 0, hM => by rw [Nat.le_zero.mp hM]
  | M + 1, hM => by
    by_cases e : N = M + 1
    · rw [e]
    · simp only [sumN]; rw [sumN_le h M (by omega), h M (by omega)]; simp
theorem zsub_getD (u c : List Int) (i : Nat) : (zsub u c).getD i 0 = u.getD i 0 - c.getD i 0 := by
  unfold zsub zadd
  rw [trim_getD, addR_getD, neg_getD]; rfl
theorem ps_rel {b : List Int} (hb : 0 < b.length) : ∀ (n : Nat) (rest found : List Int) (left : Nat), rest.length < n → rest.length + 1 ≤ left + b.length →
    ∃ Q : Nat → Int, ∀ i, lead b ^ left * rest.getD i 0 = lead b ^ (psLoop b n rest found left).2.2 * (psLoop b n rest found left).1.getD i 0 + sumN (fun j => Q j * sh j (cf b) i) left
  | 0, _, _, _, h, _ => absurd h (Nat.not_lt_zero _)
  | n + 1, rest, found, left, h, hl => by
    by_cases hle : b.length ≤ rest.length
    · rw [ps_step hle]
      have hlen := ps_len hb hle
      obtain ⟨Q, hQ⟩ := ps_rel hb n _ (zsub (zscale found (lead b)) (zraise [-(lead rest)] (rest.length - b.length))) (left - 1) (by lia : (zsub (zscale rest (lead b)) (zraise (zscale b (lead rest)) (rest.length - b.length))).length < n) (by exact nb14 ‹_› ‹_›)
      refine ⟨fun j => (if j < left - 1 then Q j else 0) + (if j = rest.length - b.length then lead b ^ (left - 1) * lead rest else 0), fun i => ?_⟩
      have hQi := hQ i
      rw [zsub_getD, zscale_getD, zraise_getD, zscale_getD] at hQi
      have e1 : sumN (fun j => ((if j < left - 1 then Q j else 0) + (if j = rest.length - b.length then lead b ^ (left - 1) * lead rest else 0)) * sh j (cf b) i) left
          = sumN (fun j => Q j * sh j (cf b) i) (left - 1) + lead b ^ (left - 1) * lead rest * sh (rest.length - b.length) (cf b) i := by
        have e2 : (fun j => ((if j < left - 1 then Q j else 0) + (if j = rest.length - b.length then lead b ^ (left - 1) * lead rest else 0)) * sh j (cf b) i)
            = fun j => (if j < left - 1 then Q j * sh j (cf b) i else 0) + (if j = rest.length - b.length then lead b ^ (left - 1) * lead rest * sh j (cf b) i else 0) := by
          funext j
          rw [Int.add_mul]
          congr 1
          · split <;> simp
          · split <;> simp
        rw [e2, sumN_add, sumN_one (rest.length - b.length) (fun j => lead b ^ (left - 1) * lead rest * sh j (cf b) i) left (by grind)]
        congr 1
        rw [sumN_le (N := left - 1) (fun j hj => if_neg (by lia)) left (by simp)]
        exact sumN_congr _ fun j hj => if_pos hj
      rw [e1]
      have e3 : lead b ^ left = lead b ^ (left - 1) * lead b := by
        rw [← Int.pow_succ]; congr 1; lia
      have e4 : sh (rest.length - b.length) (cf b) i = if i < rest.length - b.length then 0 else b.getD (i - (rest.length - b.length)) 0 := rfl
      rw [e3, e4]
      generalize hgen : sumN (fun j => Q j * sh j (cf b) i) (left - 1) = Z at hQi
      by_cases hi : i < rest.length - b.length
      · rw [if_pos hi] at hQi ⊢
        grind
      · rw [if_neg hi] at hQi ⊢
        grind
    · rw [ps_end hle]
      exact ⟨fun _ => 0, fun i => by simp [sumN_zero]⟩
theorem prem_rel {a b : List Int} (hb : 0 < b.length) : ∃ Q : Nat → Int, ∀ i, lead b ^ (a.length + 1 - b.length) * cf a i = cf (prem a b) i + sumN (fun j => Q j * sh j (cf b) i) (a.length + 1 - b.length) := by
  obtain ⟨Q, hQ⟩ := ps_rel hb (a.length + 1) a [] (a.length + 1 - b.length) (Nat.lt_succ_self _) (by omega)
  refine ⟨Q, fun i => ?_⟩
  have := hQ i
  show _ * a.getD i 0 = (prem a b).getD i 0 + _
  unfold prem
  rw [zscale_getD]
  unfold psEnd
  rw [this, Int.mul_comm (_ ^ _) ((psLoop b _ a [] _).1.getD i 0)]
theorem ps_tr (b : List Int) : ∀ (n : Nat) (rest found : List Int) (left : Nat), Tr rest → Tr (psLoop b n rest found left).1
  | 0, _, _, _, h => h
  | n + 1, rest, found, left, h => by
    by_cases hle : b.length ≤ rest.length
    · rw [ps_step hle]; exact ps_tr b n _ _ _ (tr_zsub _ _)
    · rw [ps_end hle]; exact h
theorem tr_prem {a b : List Int} (h : Tr a) : Tr (prem a b) := tr_zscale (ps_tr b _ _ _ _ h) _
/-- the algebra of a step -/
theorem step_alg {G f h h' : Int} {δ p t d : Nat} (hh : h' * h ^ δ = G ^ δ * h) (hd : d + t = δ + p + 1) :
    G ^ d * ((f * h ^ δ) ^ (p + 1) * (G ^ t * h' ^ p)) = (G ^ (δ + 1)) ^ (p + 1) * (f ^ (p + 1) * h ^ (δ + p)) := by
  have e1 : G ^ d * G ^ t = G ^ (δ + p + 1) := by rw [← Int.pow_add, hd]
  have e2 : (h ^ δ) ^ p * h' ^ p = (G ^ δ) ^ p * h ^ p := by rw [← Int.mul_pow, Int.mul_comm (h ^ δ), hh, Int.mul_pow]
  have e3 : (f * h ^ δ) ^ (p + 1) = f ^ (p + 1) * ((h ^ δ) ^ p * h ^ δ) := by rw [Int.mul_pow, Int.pow_succ (h ^ δ)]
  have e4 : (G ^ (δ + 1)) ^ (p + 1) = (G ^ δ) ^ p * G ^ δ * G ^ (p + 1) := by
    rw [Int.pow_succ G δ, Int.mul_pow, Int.pow_succ (G ^ δ) p]
  have e5 : G ^ (δ + p + 1) = G ^ δ * G ^ (p + 1) := by rw [← Int.pow_add]; rfl
  have e6 : h ^ (δ + p) = h ^ δ * h ^ p := Int.pow_add ..
  rw [e3, e4, e6]
  calc G ^ d * (f ^ (p + 1) * ((h ^ δ) ^ p * h ^ δ) * (G ^ t * h' ^ p))
      = (G ^ d * G ^ t) * f ^ (p + 1) * h ^ δ * ((h ^ δ) ^ p * h' ^ p) := by grind
    _ = (G ^ δ * G ^ (p + 1)) * f ^ (p + 1) * h ^ δ * ((G ^ δ) ^ p * h ^ p) := by rw [e1, e5, e2]
    _ = _ := by grind
end Mine
end

section
/-! the part M4 -/
/-! the loop of subresultants: its divisions are exact -/
namespace Mine
noncomputable def One (e : Int) : Prop := e = 1 ∨ e = -1
theorem One.mul {a b : Int} (h : One a) (h' : One b) : One (a * b) := by
  rcases h with rfl | rfl <;> rcases h' with rfl | rfl <;> simp [One]
theorem one_pow (n : Nat) : One ((-1 : Int) ^ n) := sg n
theorem One.sq {a : Int} (h : One a) : a * a = 1 := by rcases h with rfl | rfl <;> decide
theorem dg_cf (p : List Int) {d : Nat} (h : p.length ≤ d + 1) : Dg (cf p) d := fun i hi => by
  unfold cf
  rw [List.getD_eq_getElem?_getD, List.getElem?_eq_none (by exact Nat.le_trans (by assumption) (by assumption))]; rfl
theorem cf_lead {p : List Int} {d : Nat} (h : p.length = d + 1) : cf p d = lead p := by
  unfold cf lead; rw [h]; rfl
theorem fin_alg {EE e1 F H T g D B XX Z : Int} (h1 : EE * (e1 * (F * (H * T))) = g * (D * (B * XX))) (h2 : D * (B * Z) = EE * (F * H)) (h3 : g * g = 1) : D * B * XX = D * B * (e1 * g * (Z * T)) := by
  calc D * B * XX = g * g * (D * B * XX) := by rw [h3]; simp
    _ = g * (g * (D * (B * XX))) := by grind
    _ = g * (EE * (e1 * (F * (H * T)))) := by rw [h1]
    _ = g * e1 * T * (EE * (F * H)) := by grind
    _ = g * e1 * T * (D * (B * Z)) := by rw [h2]
    _ = _ := by grind
structure Inv (T : Nat → Nat → Int) (m n : Nat) (a b : List Int) (f h : Int) : Prop where
  ta : Tr a
  tb : Tr b
  la : a.length = m + 1
  lb : b.length = n + 1
  nm : n ≤ m
  f0 : f ≠ 0
  h0 : h ≠ 0
  inv : ∀ k p q, k + p = n → k + q + 1 = m → ∃ e, One e ∧ ∀ j, Sr k p (q + 1) (cf a) (cf b) j = e * (f ^ p * (h ^ q * T k j))
section
variable {T : Nat → Nat → Int} {m n : Nat} {a b : List Int} {f h : Int}
theorem Inv.lead (I : Inv T m n a b f h) : lead b ≠ 0 := I.tb.resolve_left (fun e => by have := I.lb; rw [e] at this; cases this)
theorem Inv.prem (I : Inv T m (n + 1) a b f h) : ∃ e, One e ∧ ∀ j, cf (prem a b) j = e * (f * h ^ (m - (n + 1)) * T n j) := by
  have hb0 : 0 < b.length := by have := I.lb; omega
  obtain ⟨Q, hQ⟩ := prem_rel (a := a) hb0
  have hnm := I.nm
  obtain ⟨δ, hδ⟩ : ∃ δ, m = n + 1 + δ := ⟨m - (n + 1), by exact (Nat.add_sub_of_le ‹_›).symm⟩
  have hE : a.length + 1 - b.length = δ + 1 := by have := I.la; have := I.lb; omega
  rw [hE] at hQ
  obtain ⟨e, he, hS⟩ := I.inv n 1 δ (by rfl) (by lia)
  have hlp := prem_len (a := a) hb0
  have hl0 := I.lead
  refine ⟨e * (-1) ^ (δ + 1), he.mul (one_pow _), fun j => ?_⟩
  have hst := Sr_step (a := cf a) (b := cf b) (r := cf (Mine.prem a b)) (k := n) (p := 1) (q := δ + 1) (t := 0) (β := 1) (Q := Q) (N := δ + 1) (E := Mine.lead b ^ (δ + 1))
    (dg_cf b (by have := I.lb; exact Nat.le_of_eq ‹_›)) (dg_cf _ (by have := I.lb; lia)) (by exact Nat.succ_pos _) (by exact Nat.zero_le _) (by lia) (fun i => by rw [hQ i]; simp) j
  rw [Sr_one, hS j, cf_lead I.lb] at hst
  simp only [Int.pow_one, Nat.sub_zero, Int.one_mul, Nat.one_mul, Int.pow_zero, Int.one_pow] at hst
  have e2 : m - (n + 1) = δ := by exact nb11 ‹_›
  rw [e2]
  have hp : Mine.lead b ^ (δ + 1) ≠ 0 := Int.pow_ne_zero hl0
  have hsq := (one_pow (δ + 1)).sq
  generalize hg : (-1 : Int) ^ (δ + 1) = g at *
  generalize hL : Mine.lead b ^ (δ + 1) = L at *
  refine Int.eq_of_mul_eq_mul_left hp ?_
  have : L * cf (Mine.prem a b) j = g * g * (L * cf (Mine.prem a b) j) := by rw [hsq]; simp
  rw [this]
  grind
/-- the next height -/
theorem Inv.height (I : Inv T m n a b f h) : nextH (Mine.lead b) (m - n) h ≠ 0 ∧ nextH (Mine.lead b) (m - n) h * h ^ (m - n) = Mine.lead b ^ (m - n) * h ∧ (nextH (Mine.lead b) (m - n) h = h ∨ ∃ e, One e ∧ nextH (Mine.lead b) (m - n) h = e * T n n) := by
  have hl0 := I.lead
  have hh0 := I.h0
  have hnm := I.nm
  unfold nextH
  by_cases e0 : m - n = 0
  · rw [if_pos e0, e0]
    exact ⟨hh0, by simp, .inl rfl⟩
  · rw [if_neg e0]
    obtain ⟨δ, hδ⟩ : ∃ δ, m = n + δ + 1 := ⟨m - n - 1, by omega⟩
    have e1 : m - n = δ + 1 := by exact nb11 ‹_›
    rw [e1]
    obtain ⟨e, he, hS⟩ := I.inv n 0 δ (by rfl) (by lia)
    have ht := Sr_top (b := cf b) (k := n) (q := δ + 1) (dg_cf b (by have := I.lb; exact Nat.le_of_eq ‹_›)) (by exact Nat.succ_pos _) (cf a) n
    rw [hS n, cf_lead I.lb] at ht
    simp only [Int.pow_zero, Int.one_mul, Nat.add_sub_cancel] at ht ⊢
    have h1 : Mine.lead b ^ (δ + 1) = h ^ δ * (e * T n n) := by rw [Int.pow_succ, ← ht]; grind
    have hd0 : h ^ δ ≠ 0 := Int.pow_ne_zero hh0
    rw [h1, Int.mul_fdiv_cancel_left _ hd0]
    refine ⟨fun z => ?_, ?_, .inr ⟨e, he, rfl⟩⟩
    · rw [z, Int.mul_zero] at h1
      exact Int.pow_ne_zero hl0 h1
    · rw [Int.pow_succ]; grind
/-- the next pair -/
theorem Inv.next (I : Inv T m (n + 1) a b f h) (hr : Mine.prem a b ≠ []) :
    ∃ l, (zdiv (Mine.prem a b) (f * h ^ (m - (n + 1)))).length = l + 1 ∧ l ≤ n ∧ Inv T (n + 1) l b (zdiv (Mine.prem a b) (f * h ^ (m - (n + 1)))) (Mine.lead b) (nextH (Mine.lead b) (m - (n + 1)) h) ∧
      (∃ e, One e ∧ ∀ j, cf (zdiv (Mine.prem a b) (f * h ^ (m - (n + 1)))) j = e * T n j) ∧ (∀ j, cf (Mine.prem a b) j = f * h ^ (m - (n + 1)) * cf (zdiv (Mine.prem a b) (f * h ^ (m - (n + 1)))) j) := by
  have hb0 : 0 < b.length := by have := I.lb; omega
  have hnm := I.nm
  obtain ⟨δ, hδ⟩ : ∃ δ, m = n + 1 + δ := ⟨m - (n + 1), by exact (Nat.add_sub_of_le ‹_›).symm⟩
  have e2 : m - (n + 1) = δ := by exact nb11 ‹_›
  obtain ⟨e, he, hP⟩ := I.prem
  obtain ⟨hn0, hnh, _⟩ := I.height
  rw [e2] at hP hnh hn0 ⊢
  have hβ : f * h ^ δ ≠ 0 := Int.mul_ne_zero I.f0 (Int.pow_ne_zero I.h0)
  have hlp := prem_len (a := a) hb0
  have hpos : 0 < (Mine.prem a b).length := List.length_pos_iff.mpr hr
  have hz : ∀ j, cf (zdiv (Mine.prem a b) (f * h ^ δ)) j = e * T n j := fun j => by
    have h1 : cf (zdiv (Mine.prem a b) (f * h ^ δ)) j = (cf (Mine.prem a b) j).fdiv (f * h ^ δ) := by
      unfold cf zdiv
      simp only [List.getD_eq_getElem?_getD, List.getElem?_map]
      cases (Mine.prem a b)[j]? <;> simp
    rw [h1, hP j, show e * (f * h ^ δ * T n j) = f * h ^ δ * (e * T n j) by grind, Int.mul_fdiv_cancel_left _ hβ]
  have hex : ∀ j, cf (Mine.prem a b) j = f * h ^ δ * cf (zdiv (Mine.prem a b) (f * h ^ δ)) j := fun j => by
    rw [hz j, hP j]; grind
  have hlen := zdiv_len (Mine.prem a b) (f * h ^ δ)
  have htr : Tr (zdiv (Mine.prem a b) (f * h ^ δ)) := by
    have h1 := (tr_prem (b := b) I.ta).resolve_left hr
    right
    intro z
    apply h1
    have h2 := hex ((Mine.prem a b).length - 1)
    unfold cf at h2
    unfold Mine.lead at z ⊢
    rw [hlen] at z
    rw [h2, z]; simp
  generalize hrr : zdiv (Mine.prem a b) (f * h ^ δ) = r at *
  refine ⟨r.length - 1, by omega, by have := I.lb; omega, ⟨I.tb, htr, I.lb, by omega, by have := I.lb; omega, I.lead, hn0, ?_⟩, ⟨e, he, hz⟩, hex⟩
  intro k t p hk hp
  obtain ⟨Q, hQ⟩ := prem_rel (a := a) hb0
  have hE : a.length + 1 - b.length = δ + 1 := by have := I.la; have := I.lb; lia
  rw [hE] at hQ
  obtain ⟨e1, he1, hS⟩ := I.inv k (p + 1) (δ + p) (by omega) (by lia)
  refine ⟨e1 * (-1) ^ ((p + 1) * (δ + p + 1)), he1.mul (one_pow _), fun j => ?_⟩
  have hst := Sr_step (a := cf a) (b := cf b) (r := cf r) (k := k) (p := p + 1) (q := δ + p + 1) (t := t) (β := f * h ^ δ) (Q := Q) (N := δ + 1) (E := Mine.lead b ^ (δ + 1))
    (dg_cf b (by have := I.lb; lia)) (dg_cf _ (by lia)) (by exact Nat.succ_pos _) (by have := I.lb; lia) (by lia) (fun i => by rw [hQ i, hex i]) j
  have hkp : k + (p + 1) = n + 1 := by omega
  rw [hS j, hkp, cf_lead I.lb] at hst
  have halg := step_alg (G := Mine.lead b) (f := f) (h := h) (h' := nextH (Mine.lead b) δ h) (δ := δ) (p := p) (t := t) (d := δ + p + 1 - t) hnh (by have := I.lb; lia)
  have hsq := (one_pow ((p + 1) * (δ + p + 1))).sq
  have hX : Mine.lead b ^ (δ + p + 1 - t) * (f * h ^ δ) ^ (p + 1) ≠ 0 := Int.mul_ne_zero (Int.pow_ne_zero I.lead) (Int.pow_ne_zero hβ)
  generalize (-1 : Int) ^ ((p + 1) * (δ + p + 1)) = g at *
  generalize Mine.lead b ^ (δ + p + 1 - t) = D at *
  generalize (f * h ^ δ) ^ (p + 1) = B at *
  generalize (Mine.lead b ^ (δ + 1)) ^ (p + 1) = EE at *
  generalize hXX : Sr k t (p + 1) (cf b) (cf r) j = XX at *
  refine Int.eq_of_mul_eq_mul_left hX ?_
  rw [← Int.mul_assoc (Mine.lead b ^ t)]
  exact fin_alg hst halg hsq
end
end Mine
end

section
/-! the part M5 -/
/-! what the chain ends in; its sizes -/
namespace Mine
theorem ps_ev {b : List Int} (hb : 0 < b.length) : ∀ (n : Nat) (rest found : List Int) (left : Nat), rest.length < n → rest.length + 1 ≤ left + b.length →
    ∃ q : List Int, ∀ x, lead b ^ left * ev rest x = lead b ^ (psLoop b n rest found left).2.2 * ev (psLoop b n rest found left).1 x + ev q x * ev b x
  | 0, _, _, _, h, _ => absurd h (Nat.not_lt_zero _)
  | n + 1, rest, found, left, h, hl => by
    by_cases hle : b.length ≤ rest.length
    · rw [ps_step hle]
      have hlen := ps_len hb hle
      obtain ⟨q, hq⟩ := ps_ev hb n _ (zsub (zscale found (lead b)) (zraise [-(lead rest)] (rest.length - b.length))) (left - 1) (by exact nb12 ‹_› ‹_› : (zsub (zscale rest (lead b)) (zraise (zscale b (lead rest)) (rest.length - b.length))).length < n) (by exact nb14 ‹_› ‹_›)
      refine ⟨sumL q (zraise [lead b ^ (left - 1) * lead rest] (rest.length - b.length)), fun x => ?_⟩
      have h1 := hq x
      rw [ev_zsub, ev_zscale, ev_zraise, ev_zscale] at h1
      rw [(ev_sumL _ _ x).1, ev_zraise]
      have e3 : lead b ^ left = lead b ^ (left - 1) * lead b := by
        rw [← Int.pow_succ]; congr 1; lia
      rw [e3]
      simp only [ev]
      generalize x ^ (rest.length - b.length) = X at *
      generalize lead b ^ (left - 1) = L at *
      generalize lead b ^ (psLoop b n (zsub (zscale rest (lead b)) (zraise (zscale b (lead rest)) (rest.length - b.length))) (zsub (zscale found (lead b)) (zraise [-(lead rest)] (rest.length - b.length))) (left - 1)).2.2 = L2 at *
      grind
    · rw [ps_end hle]
      exact ⟨[], fun x => by simp [ev]⟩
theorem prem_ev {a b : List Int} (hb : 0 < b.length) : ∃ q : List Int, ∀ x, lead b ^ (a.length + 1 - b.length) * ev a x = ev (prem a b) x + ev q x * ev b x := by
  obtain ⟨q, hq⟩ := ps_ev hb (a.length + 1) a [] (a.length + 1 - b.length) (Nat.lt_succ_self _) (by omega)
  refine ⟨q, fun x => ?_⟩
  rw [hq x]
  unfold prem psEnd
  rw [ev_zscale, Int.mul_comm (_ ^ _) (ev (psLoop b _ a [] _).1 x)]
/-- a combination of the two, times a number -/
noncomputable def Gen (a b d : List Int) : Prop := ∃ c : Int, c ≠ 0 ∧ ∃ u v : List Int, ∀ x, c * ev d x = ev u x * ev a x + ev v x * ev b x
/-- d divides a number times a -/
noncomputable def Dv (d a : List Int) : Prop := ∃ c : Int, c ≠ 0 ∧ ∃ q : List Int, ∀ x, c * ev a x = ev q x * ev d x
noncomputable def cst (c : Int) : List Int := [c]
theorem ev_cst (c x : Int) : ev (cst c) x = c := by simp [cst, ev]
theorem Dv.refl (d : List Int) : Dv d d := ⟨1, by decide, cst 1, fun x => by rw [ev_cst]⟩
theorem Gen.right (a b : List Int) : Gen a b b := ⟨1, by decide, [], cst 1, fun x => by rw [ev_cst]; simp [ev]⟩
theorem ev_scaled {p r : List Int} {β : Int} (h : ∀ j, cf p j = β * cf r j) (x : Int) : ev p x = β * ev r x := by
  have := (ev_congr (p := p) (q := r.map fun y => y * β) (fun i => by
    have := h i
    unfold cf at this
    rw [this]
    simp only [List.getD_eq_getElem?_getD, List.getElem?_map]
    cases r[i]? <;> simp [Int.mul_comm]) x).1
  rw [this, (ev_map_mul β r x).1, Int.mul_comm]
theorem sr_spec {T : Nat → Nat → Int} : ∀ (N : Nat) (a b : List Int) (f h : Int) (m n : Nat), Inv T m n a b f h → n < N →
    Tr (srLoop N a b f h) ∧ srLoop N a b f h ≠ [] ∧ Gen a b (srLoop N a b f h) ∧ Dv (srLoop N a b f h) a ∧ Dv (srLoop N a b f h) b ∧ (srLoop N a b f h = b ∨ ∃ k e, One e ∧ ∀ j, cf (srLoop N a b f h) j = e * T k j)
  | 0, _, _, _, _, _, _, _, h => absurd h (Nat.not_lt_zero _)
  | N + 1, a, b, f, h, m, n, I, hN => by
    have hbl := I.lb
    have hbne : b ≠ [] := fun e => by rw [e] at hbl; cases hbl
    have hb0 : 0 < b.length := by omega
    unfold srLoop
    by_cases h1 : 1 < b.length
    · rw [if_pos h1]
      obtain ⟨q, hq⟩ := prem_ev (a := a) hb0
      have hE : lead b ^ (a.length + 1 - b.length) ≠ 0 := Int.pow_ne_zero I.lead
      by_cases hp : prem a b = []
      · rw [if_pos hp]
        refine ⟨I.tb, hbne, Gen.right a b, ⟨_, hE, q, fun x => ?_⟩, Dv.refl b, .inl rfl⟩
        rw [hq x, hp]; simp [ev]
      · rw [if_neg hp]
        obtain ⟨n, rfl⟩ : ∃ k, n = k + 1 := ⟨n - 1, by omega⟩
        obtain ⟨l, hl, hln, hI, ⟨e, he, hz⟩, hex⟩ := I.next hp
        have e2 : a.length - b.length = m - (n + 1) := by have := I.la; exact nb2 ‹_› ‹_›
        rw [e2]
        obtain ⟨t1, t2, ⟨c, hc, u, v, hg⟩, ⟨c1, hc1, q1, hd1⟩, ⟨c2, hc2, q2, hd2⟩, t6⟩ := sr_spec N b _ _ _ _ _ hI (by omega)
        have hβ : f * h ^ (m - (n + 1)) ≠ 0 := Int.mul_ne_zero I.f0 (Int.pow_ne_zero I.h0)
        have hev := ev_scaled hex
        generalize srLoop N b (zdiv (prem a b) (f * h ^ (m - (n + 1)))) (lead b) (nextH (lead b) (m - (n + 1)) h) = d at *
        generalize zdiv (prem a b) (f * h ^ (m - (n + 1))) = r at *
        generalize f * h ^ (m - (n + 1)) = β at *
        generalize lead b ^ (a.length + 1 - b.length) = E at *
        refine ⟨t1, t2, ⟨c * β, Int.mul_ne_zero hc hβ, zscale v E, zsub (zscale u β) (mulP v q), fun x => ?_⟩, ⟨c1 * c2 * E, Int.mul_ne_zero (Int.mul_ne_zero hc1 hc2) hE, sumL (zscale (mulP q q1) c2) (zscale (zscale q2 β) c1), fun x => ?_⟩, ⟨c1, hc1, q1, hd1⟩, ?_⟩
        · rw [ev_zscale, ev_zsub, ev_zscale, (ev_mulP _ _ x).1]
          have z1 := hq x
          have z2 := hg x
          have z3 := hev x
          grind
        · rw [(ev_sumL _ _ x).1, ev_zscale, ev_zscale, ev_zscale, (ev_mulP _ _ x).1]
          have z1 := hq x
          have z2 := hd1 x
          have z3 := hd2 x
          have z4 := hev x
          calc c1 * c2 * E * ev a x = c1 * c2 * (E * ev a x) := by grind
            _ = c1 * c2 * (β * ev r x + ev q x * ev b x) := by rw [z1, z4]
            _ = c1 * β * (c2 * ev r x) + c2 * ev q x * (c1 * ev b x) := by grind
            _ = _ := by rw [z2, z3]; grind
        · rcases t6 with rfl | t6
          · exact .inr ⟨n, e, he, hz⟩
          · exact .inr t6
    · rw [if_neg h1]
      have hb1 : b.length = 1 := by lia
      obtain ⟨c, rfl⟩ : ∃ c, b = [c] := List.length_eq_one_iff.mp hb1
      have hc : c ≠ 0 := by have := I.lead; simpa [lead] using this
      refine ⟨I.tb, hbne, Gen.right a _, ⟨c, hc, a, fun x => ?_⟩, Dv.refl _, .inl rfl⟩
      simp [ev, Int.mul_comm]
/-! sizes -/
noncomputable def Lim (c : Nat) (p : List Int) : Prop := ∀ j, (cf p j).natAbs ≤ 2 ^ c
theorem two_pow_lt {a b : Nat} (h : a < b) : 2 ^ a < 2 ^ b := Nat.pow_lt_pow_right (by decide) h
theorem two_pow_le {a b : Nat} (h : a ≤ b) : 2 ^ a ≤ 2 ^ b := Nat.pow_le_pow_right (by decide) h
theorem Lim.mono {c d : Nat} {p : List Int} (h : Lim c p) (hd : c ≤ d) : Lim d p := fun j => Nat.le_trans (h j) (two_pow_le hd)
theorem small_of {x : Int} {c : Nat} (h : x.natAbs ≤ 2 ^ c) (hc : c < 67108864) : Small x := ⟨c + 1, hc, Nat.lt_of_le_of_lt h (two_pow_lt (Nat.lt_succ_self _))⟩
theorem Lim.bd {c : Nat} {p : List Int} (h : Lim c p) (hc : c < 67108864) : Bd p := fun x hx => by
  obtain ⟨i, hi, rfl⟩ := List.getElem_of_mem hx
  have := h i
  unfold cf at this
  rw [List.getD_eq_getElem?_getD, List.getElem?_eq_getElem hi] at this
  exact small_of this hc
theorem Lim.lead {c : Nat} {p : List Int} (h : Lim c p) : (Mine.lead p).natAbs ≤ 2 ^ c := h _
theorem ps_lim {b : List Int} {β : Nat} (hb : Lim β b) : ∀ (n : Nat) (rest found : List Int) (left c : Nat), Lim c rest → Lim c found → c + (β + 1) * n + 1 ≤ 67108864 → psOk b n rest found left
  | 0, _, _, _, _, _, _, _ => trivial
  | n + 1, rest, found, left, c, hr, hf, hc => by
    rw [Nat.mul_succ] at hc
    refine ⟨hr.bd (by omega), hf.bd (by omega), fun hle => ?_⟩
    have hbl := hb.lead
    have hrl := hr.lead
    have key : ∀ (u v w z : Int), u.natAbs ≤ 2 ^ c → v.natAbs ≤ 2 ^ β → w.natAbs ≤ 2 ^ β → z.natAbs ≤ 2 ^ c → (u * v - w * z).natAbs ≤ 2 ^ (c + β + 1) := fun u v w z h1 h2 h3 h4 => by
      have h5 : (u * v).natAbs ≤ 2 ^ (c + β) := by rw [Int.natAbs_mul, Nat.pow_add]; exact Nat.mul_le_mul h1 h2
      have h6 : (w * z).natAbs ≤ 2 ^ (c + β) := by rw [Int.natAbs_mul, Nat.pow_add, Nat.mul_comm]; exact Nat.mul_le_mul h4 h3
      rw [Nat.pow_succ]; omega
    refine ps_lim hb n _ _ _ (c + β + 1) (fun j => ?_) (fun j => ?_) (by omega -splitDisjunctions -splitNatSub -splitNatAbs -splitMinMax)
    · unfold cf
      rw [zsub_getD, zscale_getD, zraise_getD, zscale_getD]
      split
      · have := key (rest.getD j 0) (Mine.lead b) 0 0 (hr j) hbl (by simp) (by simp)
        simpa using this
      · exact key _ _ _ _ (hr j) hbl (hb _) hrl
    · unfold cf
      rw [zsub_getD, zscale_getD, zraise_getD]
      split
      · have := key (found.getD j 0) (Mine.lead b) 0 0 (hf j) hbl (by simp) (by simp)
        simpa using this
      · rcases Nat.lt_or_ge (j - (rest.length - b.length)) 1 with h | h
        · have e : j - (rest.length - b.length) = 0 := by lia
          rw [e]
          have := key (found.getD j 0) (Mine.lead b) 1 (- Mine.lead rest) (hf j) hbl (by simp; exact Nat.one_le_two_pow) (by rw [Int.natAbs_neg]; exact hrl)
          simpa using this
        · have e : ([-(Mine.lead rest)] : List Int).getD (j - (rest.length - b.length)) 0 = 0 := by
            rw [List.getD_eq_getElem?_getD, List.getElem?_eq_none (by simpa using h)]; rfl
          rw [e]
          have := key (found.getD j 0) (Mine.lead b) 0 0 (hf j) hbl (by simp) (by simp)
          simpa using this
theorem ex_bound (c : Nat) {G M : Nat} : ∀ (rs : List Cf) (f : List Cf → Int), (∀ r ∈ rs, ∀ i, (r i).natAbs ≤ G) → (∀ l : List Cf, l.length + 1 = rs.length → (∀ r ∈ l, ∀ i, (r i).natAbs ≤ G) → (f l).natAbs ≤ M) → (ex c f rs).natAbs ≤ rs.length * (G * M)
  | [], _, _, _ => by simp [ex]
  | r :: rs, f, hG, hM => by
    simp only [ex, List.length_cons]
    have h1 : (r c * f rs).natAbs ≤ G * M := by rw [Int.natAbs_mul]; exact Nat.mul_le_mul (hG r (.head _) c) (hM rs rfl fun r' h' => hG r' (.tail _ h'))
    have h2 := ex_bound c rs (fun l => f (r :: l)) (fun r' h' => hG r' (.tail _ h')) (fun l hl hl2 => hM (r :: l) (by simp [← hl]) (List.forall_mem_cons.mpr ⟨hG r (.head _), hl2⟩))
    rw [Nat.succ_mul]; omega
theorem DP_bound (j : Nat) {G : Nat} : ∀ (cs : List Nat) (rs : List Cf), rs.length ≤ 12 → (∀ r ∈ rs, ∀ i, (r i).natAbs ≤ G) → (DP cs j rs).natAbs ≤ (12 * G) ^ cs.length * G
  | [], rs, _, hG => by
    simp only [DP, List.length_nil, Nat.pow_zero, Nat.one_mul]
    match rs, hG with
    | [], _ => simp [baseF]
    | [r], hG => exact hG r (.head _) j
    | _ :: _ :: _, _ => simp [baseF]
  | c :: cs, rs, hl, hG => by
    simp only [DP, List.length_cons]
    have := ex_bound c (M := (12 * G) ^ cs.length * G) rs (DP cs j) hG (fun l hl2 hl3 => DP_bound j cs l (by lia) hl3)
    refine Nat.le_trans this ?_
    rw [Nat.pow_succ]
    calc rs.length * (G * ((12 * G) ^ cs.length * G)) ≤ 12 * (G * ((12 * G) ^ cs.length * G)) := Nat.mul_le_mul_right _ hl
      _ = _ := by rw [← Nat.mul_assoc 12 G, ← Nat.mul_assoc, Nat.mul_comm (12 * G)]
theorem col_len : ∀ (c t : Nat), (col t c).length = c
  | 0, _ => rfl
  | c + 1, t => by simp [col, col_len c]
theorem Sr_bound {γ : Nat} {a b : List Int} (ha : Lim γ a) (hb : Lim γ b) (k p q j : Nat) (h : p + q ≤ 12) : (Sr k p q (cf a) (cf b) j).natAbs ≤ 2 ^ (12 * (γ + 4)) := by
  unfold Sr
  have hG : ∀ r ∈ pw p (cf a) ++ pw q (cf b), ∀ i, (r i).natAbs ≤ 2 ^ γ := by
    have one : ∀ (f : Cf), (∀ i, (f i).natAbs ≤ 2 ^ γ) → ∀ k i, (sh k f i).natAbs ≤ 2 ^ γ := fun f hf k i => by
      unfold sh; split
      · simp
      · exact hf _
    intro r hr i
    rcases List.mem_append.mp hr with hr | hr
    · obtain ⟨e, _, rfl⟩ := of_pw hr; exact one _ ha e i
    · obtain ⟨e, _, rfl⟩ := of_pw hr; exact one _ hb e i
  refine Nat.le_trans (DP_bound j _ _ (by rw [List.length_append, pw_len, pw_len]; exact h) hG) ?_
  rw [col_len]
  have h12 : 12 * 2 ^ γ ≤ 2 ^ (γ + 4) := by rw [Nat.pow_add]; lia
  calc (12 * 2 ^ γ) ^ (p + q - 1) * 2 ^ γ ≤ (2 ^ (γ + 4)) ^ (p + q - 1) * 2 ^ (γ + 4) := Nat.mul_le_mul (Nat.pow_le_pow_left h12 _) (two_pow_le (by exact Nat.le_add_right _ _))
    _ = 2 ^ ((γ + 4) * (p + q - 1) + (γ + 4)) := by rw [← Nat.pow_mul, ← Nat.pow_add]
    _ ≤ _ := two_pow_le (by
        have : (γ + 4) * (p + q - 1) ≤ (γ + 4) * 11 := Nat.mul_le_mul_left _ (by exact Nat.sub_le_of_le_add ‹_›)
        grind)
theorem powok_of {x : Int} {c n : Nat} (h : x.natAbs ≤ 2 ^ c) (hc : (c + 1) * (n + 1) < 67108864) : PowOk x n := ⟨c + 1, Nat.lt_of_le_of_lt h (two_pow_lt (Nat.lt_succ_self _)), hc⟩
theorem one_abs {e x : Int} (h : One e) : (e * x).natAbs = x.natAbs := by rcases h with rfl | rfl <;> simp
theorem sr_ok {T : Nat → Nat → Int} {τ : Nat} (hT : ∀ k j, (T k j).natAbs ≤ 2 ^ τ) (hτ : (τ + 1) * 100 < 67108864) : ∀ (N : Nat) (a b : List Int) (f h : Int) (m n : Nat), Inv T m n a b f h → m ≤ 8 → Lim τ a → Lim τ b → f.natAbs ≤ 2 ^ τ → h.natAbs ≤ 2 ^ τ → srOk N a b f h
  | 0, _, _, _, _, _, _, _, _, _, _, _, _ => trivial
  | N + 1, a, b, f, h, m, n, I, hm, hA, hB, hf, hh => by
    intro h1
    have hal := I.la
    have hbl := I.lb
    refine ⟨hB.bd (by omega -splitDisjunctions -splitNatSub -splitNatAbs -splitMinMax), ps_lim hB _ _ _ _ τ hA (fun j => by simp [cf]) ?_, powok_of hB.lead ?_, fun hp => ?_⟩
    · have h3 : (τ + 1) * (a.length + 1) ≤ (τ + 1) * 10 := Nat.mul_le_mul_left _ (by omega)
      omega
    · have h3 : (τ + 1) * (a.length + 1) ≤ (τ + 1) * 10 := Nat.mul_le_mul_left _ (by omega)
      omega
    · obtain ⟨n, rfl⟩ : ∃ k, n = k + 1 := ⟨n - 1, by omega⟩
      obtain ⟨l, hl, hln, hI, ⟨e, he, hz⟩, hex⟩ := I.next hp
      have e2 : a.length - b.length = m - (n + 1) := by exact nb2 ‹_› ‹_›
      rw [e2]
      refine ⟨small_of hf (by omega), powok_of hh ?_, I.f0, I.h0, sr_ok hT hτ N _ _ _ _ _ _ hI (by have := I.nm; exact Nat.le_trans (by assumption) (by assumption)) hB (fun j => by rw [hz j, one_abs he]; exact hT _ _) hB.lead ?_⟩
      · have h3 : (τ + 1) * (a.length + 1) ≤ (τ + 1) * 10 := Nat.mul_le_mul_left _ (by lia)
        omega
      · rcases I.height.2.2 with e3 | ⟨e', he', e3⟩
        · rw [e3]; exact hh
        · rw [e3, one_abs he']; exact hT _ _
end Mine
end

section
/-! the part M6 -/
/-! products; contents -/
namespace Mine
theorem sumL_nil (p : List Int) : sumL p [] = p := by cases p <;> rfl
theorem sumL_len : ∀ (p q : List Int), (sumL p q).length = max p.length q.length
  | [], q => by simp [sumL]
  | c :: p, [] => by simp [sumL]
  | c :: p, d :: q => by simp [sumL, sumL_len p q]
theorem getD_out {p : List Int} {i : Nat} (h : p.length ≤ i) : p.getD i 0 = 0 := by
  rw [List.getD_eq_getElem?_getD, List.getElem?_eq_none h]; rfl
theorem mulP_len : ∀ (p q : List Int), p ≠ [] → q ≠ [] → (mulP p q).length = p.length + q.length - 1 ∧ lead (mulP p q) = lead p * lead q
  | [], _, h, _ => absurd rfl h
  | [c], q, _, hq => by
    have e : mulP [c] q = q.map fun y => y * c := by
      cases q with
      | nil => exact absurd rfl hq
      | cons d q => simp [mulP, sumL, sumL_nil]
    rw [e, lead_map (by simp)]
    simp [lead, Int.mul_comm]
  | c :: c2 :: p, q, _, hq => by
    obtain ⟨h1, h2⟩ := mulP_len (c2 :: p) q (by simp) hq
    have hq0 : 0 < q.length := List.length_pos_iff.mpr hq
    have hlen : (mulP (c :: c2 :: p) q).length = (c :: c2 :: p).length + q.length - 1 := by
      rw [mulP, sumL_len]
      simp only [List.length_map, List.length_cons] at h1 ⊢
      lia
    refine ⟨hlen, ?_⟩
    unfold lead at h2 ⊢
    rw [hlen, mulP, sumL_getD]
    simp only [List.length_cons] at h1 h2 ⊢
    rw [getD_out (by rw [List.length_map]; simp), Int.zero_add]
    rw [show p.length + 1 + 1 + q.length - 1 - 1 = (p.length + 1 + q.length - 1 - 1) + 1 by lia, List.getD_cons_succ]
    rw [h1] at h2
    rw [h2]
    rfl
theorem tr_mulP {p q : List Int} (hp : Tr p) (hq : Tr q) (e : p ≠ []) (e2 : q ≠ []) : Tr (mulP p q) := by
  right
  rw [(mulP_len p q e e2).2]
  exact Int.mul_ne_zero (hp.resolve_left e) (hq.resolve_left e2)
theorem mulP_ne {p q : List Int} (e : p ≠ []) (e2 : q ≠ []) : mulP p q ≠ [] := fun h => by
  have h1 := (mulP_len p q e e2).1
  have := List.length_pos_iff.mpr e
  have := List.length_pos_iff.mpr e2
  rw [h] at h1
  simp at h1
  omega
theorem sumN_front (f : Nat → Int) : ∀ N, sumN f (N + 1) = f 0 + sumN (fun i => f (i + 1)) N
  | 0 => by simp [sumN]
  | N + 1 => by
    have := sumN_front f N
    rw [sumN, this]
    simp only [sumN]; lia
theorem mulP_getD : ∀ (a b : List Int) (k : Nat), (mulP a b).getD k 0 = sumN (fun i => a.getD i 0 * sh i (cf b) k) a.length
  | [], _, _ => by simp [mulP, sumN]
  | c :: p, q, k => by
    rw [mulP, sumL_getD, List.length_cons, sumN_front]
    have h1 : (q.map fun y => y * c).getD k 0 = c * sh 0 (cf q) k := by
      unfold sh cf
      simp only [List.getD_eq_getElem?_getD, List.getElem?_map]
      cases h : q[k]? <;> simp [h, Int.mul_comm]
    rw [h1]
    cases k with
    | zero =>
      have e : (fun i => (c :: p).getD (i + 1) 0 * sh (i + 1) (cf q) 0) = fun _ => 0 := by funext i; simp [sh]
      rw [e, sumN_zero]; simp
    | succ k =>
      have e : (fun i => (c :: p).getD (i + 1) 0 * sh (i + 1) (cf q) (k + 1)) = fun i => p.getD i 0 * sh i (cf q) k := by
        funext i
        have : sh (i + 1) (cf q) (k + 1) = sh i (cf q) k := by
          unfold sh
          by_cases h : k < i
          · rw [if_pos h, if_pos (by exact Nat.succ_lt_succ ‹_›)]
          · rw [if_neg h, if_neg (by omega)]; congr 1; simp
        rw [this]; simp
      rw [e, ← mulP_getD p q k]; simp
theorem mulRow_len (b : List Int) (one : Nat) (left : Int) : ∀ (j : Nat) (found : List Int), (mulRow b one left j found).length = found.length
  | 0, _ => rfl
  | j + 1, found => by simp [mulRow, mulRow_len b one left j found]
theorem getD_set (p : List Int) (i k : Nat) (v : Int) (hi : i < p.length) : (p.set i v).getD k 0 = if k = i then v else p.getD k 0 := by
  simp only [List.getD_eq_getElem?_getD, List.getElem?_set]
  by_cases h : i = k
  · subst h; simp [hi]
  · rw [if_neg h, if_neg (fun e => h e.symm)]
theorem mulRow_getD (b : List Int) (one : Nat) (left : Int) (k : Nat) : ∀ (j : Nat) (found : List Int), one + j ≤ found.length →
    (mulRow b one left j found).getD k 0 = found.getD k 0 + (if one ≤ k ∧ k < one + j then left * b.getD (k - one) 0 else 0)
  | 0, found, _ => by rw [if_neg (by simp)]; simp [mulRow]
  | j + 1, found, h => by
    have ih := mulRow_getD b one left k j found (by exact Nat.le_of_lt (by assumption))
    have ih2 := mulRow_getD b one left (one + j) j found (by exact Nat.le_of_lt (by assumption))
    rw [if_neg (by simp)] at ih2
    simp only [mulRow]
    rw [getD_set _ _ _ _ (by rw [mulRow_len]; assumption)]
    by_cases e : k = one + j
    · subst e
      rw [if_pos rfl, if_pos (by simp), ih2, show one + j - one = j by exact Nat.add_sub_cancel_left _ _]; simp
    · rw [if_neg e, ih]
      by_cases h2 : one ≤ k ∧ k < one + j
      · rw [if_pos h2, if_pos (by omega)]
      · rw [if_neg h2, if_neg (by lia)]
theorem mulL_len (a b : List Int) (skip : Bool) : ∀ (n : Nat) (found : List Int), (mulL a b skip n found).length = found.length
  | 0, _ => rfl
  | n + 1, found => by
    simp only [mulL]
    split
    · exact mulL_len a b skip n found
    · rw [mulRow_len]; exact mulL_len a b skip n found
theorem mulL_getD (a b : List Int) (skip : Bool) (k : Nat) : ∀ (n : Nat) (found : List Int), n + b.length ≤ found.length + 1 → (mulL a b skip n found).getD k 0 = found.getD k 0 + sumN (fun i => a.getD i 0 * sh i (cf b) k) n
  | 0, found, _ => by simp [mulL, sumN]
  | n + 1, found, h => by
    have ih := mulL_getD a b skip k n found (by omega)
    simp only [mulL, sumN]
    split
    · rename_i h2
      rw [ih, h2.2]; simp
    · rw [mulRow_getD _ _ _ _ _ _ (by rw [mulL_len]; omega), ih]
      have : (if n ≤ k ∧ k < n + b.length then a.getD n 0 * b.getD (k - n) 0 else 0) = a.getD n 0 * sh n (cf b) k := by
        unfold sh cf
        by_cases h1 : k < n
        · rw [if_neg (by omega), if_pos h1]; simp
        · rw [if_neg h1]
          by_cases h2 : k < n + b.length
          · rw [if_pos ⟨by exact Nat.not_lt.mp (by assumption), h2⟩]
          · rw [if_neg (by omega), getD_out (p := b) (i := k - n) (by omega)]; simp
      rw [this]; lia
theorem list_ext {p q : List Int} (hl : p.length = q.length) (h : ∀ k, p.getD k 0 = q.getD k 0) : p = q :=
  List.ext_getElem hl fun i h1 h2 => by
    have := h i
    simpa [List.getD_eq_getElem?_getD, h1, h2] using this
theorem rep_getD (n k : Nat) : (List.replicate n (0 : Int)).getD k 0 = 0 := by
  simp only [List.getD_eq_getElem?_getD, List.getElem?_replicate]
  split <;> rfl
theorem mulL_eq {a b : List Int} (ha : a ≠ []) (hb : b ≠ []) (skip : Bool) : mulL a b skip a.length (List.replicate (a.length + b.length - 1) 0) = mulP a b := by
  have h1 := List.length_pos_iff.mpr ha
  have h2 := List.length_pos_iff.mpr hb
  refine list_ext ?_ fun k => ?_
  · rw [mulL_len, (mulP_len a b ha hb).1, List.length_replicate]
  · rw [mulL_getD _ _ _ _ _ _ (by rw [List.length_replicate]; omega), rep_getD, mulP_getD]; simp
theorem times_eq {a b : List Int} (ha : a ≠ []) (hb : b ≠ []) : times a b = mulP a b := mulL_eq ha hb false
theorem zmul_eq {a b : List Int} (ha : a ≠ []) (hb : b ≠ []) : zmul a b = mulP a b := by
  unfold zmul
  rw [if_neg (by simp [ha, hb])]
  exact mulL_eq ha hb true
theorem mul_cancel {d p q : List Int} (hd : d ≠ []) (htd : Tr d) (h : ∀ x, ev d x * ev p x = ev d x * ev q x) (x : Int) : ev p x = ev q x := by
  have key : ∀ r : List Int, (∀ x, ev d x * ev r x = 0) → ∀ x, ev r x = 0 := fun r hr x => by
    rw [← ev_trim]
    by_cases e : trim r = []
    · rw [e]; rfl
    · exfalso
      have h1 := tr_mulP htd (tr_trim r) hd e
      have h2 : mulP d (trim r) = [] := tr_ev h1 (.inl rfl) fun x _ => by
        rw [(ev_mulP _ _ x).1, ev_trim, hr x]; rfl
      exact mulP_ne hd e h2
  have := key (zsub p q) (fun x => by rw [ev_zsub, Int.mul_sub, h x]; simp) x
  rw [ev_zsub] at this
  lia
/-! contents -/
theorem foldl_gcd_dvd : ∀ (l : List Int) (g : Int), (l.foldl (fun g x => (Int.gcd g x : Int)) g) ∣ g ∧ ∀ x ∈ l, (l.foldl (fun g x => (Int.gcd g x : Int)) g) ∣ x
  | [], g => ⟨Int.dvd_refl _, fun _ h => nomatch h⟩
  | y :: l, g => by
    obtain ⟨h1, h2⟩ := foldl_gcd_dvd l (Int.gcd g y : Int)
    simp only [List.foldl_cons]
    refine ⟨Int.dvd_trans h1 (Int.gcd_dvd_left ..), fun x hx => ?_⟩
    rcases List.mem_cons.mp hx with rfl | hx
    · exact Int.dvd_trans h1 (Int.gcd_dvd_right ..)
    · exact h2 x hx
theorem dvd_foldl_gcd {d : Int} : ∀ (l : List Int) (g : Int), d ∣ g → (∀ x ∈ l, d ∣ x) → d ∣ l.foldl (fun g x => (Int.gcd g x : Int)) g
  | [], g, h, _ => h
  | y :: l, g, h, h2 => by
    simp only [List.foldl_cons]
    exact dvd_foldl_gcd l _ (Int.dvd_coe_gcd h (h2 y (.head _))) fun x hx => h2 x (.tail _ hx)
theorem cont_dvd {p : List Int} {x : Int} (h : x ∈ p) : gcdAll p ∣ x := (foldl_gcd_dvd p 0).2 x h
theorem dvd_cont {p : List Int} {d : Int} (h : ∀ x ∈ p, d ∣ x) : d ∣ gcdAll p := dvd_foldl_gcd p 0 (Int.dvd_zero d) h
theorem cont_nn (p : List Int) : 0 ≤ gcdAll p := by
  have : ∀ (l : List Int) (g : Int), 0 ≤ g → 0 ≤ l.foldl (fun g x => (Int.gcd g x : Int)) g := by
    intro l
    induction l with
    | nil => intro g h; exact h
    | cons x l ih => intro g _; exact ih _ (Int.natCast_nonneg _)
  exact this p 0 (Int.le_refl _)
theorem cont_ne {p : List Int} (h : lead p ≠ 0) : gcdAll p ≠ 0 := fun e => by
  have hp : 0 < p.length := by
    apply List.length_pos_iff.mpr
    intro e; apply h; rw [e]; rfl
  have := cont_dvd (lead_mem hp)
  rw [e] at this
  exact h (Int.zero_dvd.mp this)
theorem mem_getD {p : List Int} {x : Int} (h : x ∈ p) : ∃ i, i < p.length ∧ x = p.getD i 0 := by
  obtain ⟨i, hi, rfl⟩ := List.getElem_of_mem h
  exact ⟨i, hi, by simp [List.getD_eq_getElem?_getD, hi]⟩
theorem getD_mem' {p : List Int} {i : Nat} (h : i < p.length) : p.getD i 0 ∈ p := by
  rw [List.getD_eq_getElem?_getD, List.getElem?_eq_getElem h]; exact List.getElem_mem h
theorem cont_dvd_getD (p : List Int) (i : Nat) : gcdAll p ∣ p.getD i 0 := by
  by_cases h : i < p.length
  · exact cont_dvd (getD_mem' h)
  · rw [getD_out (by exact Nat.not_lt.mp (by assumption))]; exact Int.dvd_zero _
/-- primitive, with a lead above 0 -/
noncomputable def Prim (p : List Int) : Prop := gcdAll p = 1 ∧ 0 < lead p
theorem Prim.tr {p : List Int} (h : Prim p) : Tr p := .inr (by have := h.2; omega)
theorem Prim.ne {p : List Int} (h : Prim p) : p ≠ [] := fun e => by have := h.2; rw [e] at this; exact absurd this (by decide)
theorem lead_ne {p : List Int} (h : lead p ≠ 0) : p ≠ [] := fun e => h (by rw [e]; rfl)
theorem cf_map {p : List Int} {f : Int → Int} (hf : f 0 = 0) (i : Nat) : (p.map f).getD i 0 = f (p.getD i 0) := by
  simp only [List.getD_eq_getElem?_getD, List.getElem?_map]
  cases p[i]? <;> simp [hf]
/-- a primitive part with its factor -/
theorem zprim_spec {p : List Int} (h : lead p ≠ 0) : Prim (zprim p) ∧ (zprim p).length = p.length ∧ ∃ c : Int, c ≠ 0 ∧ c.natAbs = (gcdAll p).natAbs ∧ ∀ i, p.getD i 0 = c * (zprim p).getD i 0 := by
  have hp := lead_ne h
  have hg := cont_ne h
  have hnn := cont_nn p
  have hk : ∃ c : Int, c ≠ 0 ∧ c.natAbs = (gcdAll p).natAbs ∧ zprim p = zdiv p c ∧ (0 < lead p ∧ c = gcdAll p ∨ lead p < 0 ∧ c = - gcdAll p) := by
    unfold zprim
    rw [if_neg hp]
    by_cases h0 : lead p > 0
    · exact ⟨gcdAll p, hg, rfl, by rw [if_pos h0], .inl ⟨h0, rfl⟩⟩
    · exact ⟨- gcdAll p, by omega, by simp, by rw [if_neg h0], .inr ⟨by lia, rfl⟩⟩
  obtain ⟨c, hc, habs, hz, hcase⟩ := hk
  have hdv : ∀ i, c ∣ p.getD i 0 := fun i => by
    have := cont_dvd_getD p i
    rcases hcase with ⟨_, e⟩ | ⟨_, e⟩
    · rw [e]; exact this
    · rw [e]; exact Int.neg_dvd.mpr this
  have hco : ∀ i, p.getD i 0 = c * (zprim p).getD i 0 := fun i => by
    rw [hz]; unfold zdiv
    rw [cf_map (by simp)]
    obtain ⟨y, hy⟩ := hdv i
    rw [hy, Int.mul_fdiv_cancel_left _ hc]
  have hl := zprim_len p
  have hlead : lead p = c * lead (zprim p) := by
    unfold lead; rw [hl]; exact hco _
  refine ⟨⟨?_, ?_⟩, hl, c, hc, habs, hco⟩
  · have h1 : gcdAll p * gcdAll (zprim p) ∣ gcdAll p := dvd_cont fun x hx => by
      obtain ⟨i, hi, rfl⟩ := mem_getD hx
      rw [hco i]
      have h3 := cont_dvd_getD (zprim p) i
      have h4 : gcdAll p ∣ c := by
        rcases hcase with ⟨_, e⟩ | ⟨_, e⟩
        · rw [e]; exact Int.dvd_refl _
        · rw [e]; exact Int.dvd_neg.mpr (Int.dvd_refl _)
      exact Int.mul_dvd_mul h4 h3
    obtain ⟨y, hy⟩ := h1
    have h5 : gcdAll (zprim p) * y = 1 := by
      refine Int.eq_of_mul_eq_mul_left hg ?_
      rw [← Int.mul_assoc, ← hy]; simp
    have h6 : gcdAll (zprim p) ∣ 1 := ⟨y, h5.symm⟩
    have h7 := Int.natAbs_dvd_natAbs.mpr h6
    have h8 := cont_nn (zprim p)
    have h9 : (gcdAll (zprim p)).natAbs = 1 := Nat.dvd_one.mp h7
    grind
  · rcases hcase with ⟨h0, e⟩ | ⟨h0, e⟩
    · rw [hlead, e] at h0
      exact Int.lt_of_not_ge fun hle => by
        have := Int.mul_le_mul_of_nonneg_left hle hnn
        omega
    · rw [hlead, e, Int.neg_mul] at h0
      have : 0 < gcdAll p * lead (zprim p) := by omega
      exact Int.lt_of_not_ge fun hle => by
        have := Int.mul_le_mul_of_nonneg_left hle hnn
        omega
end Mine
end

section
/-! the part M7 -/
/-! Gauss; exact division; the greatest common divisor -/
namespace Mine
theorem prime_ex : ∀ (n : Nat), 1 < n → ∃ p, 1 < p ∧ p ∣ n ∧ ∀ d, d ∣ p → d = 1 ∨ d = p := by
  intro n
  induction n using Nat.strongRecOn with
  | ind n ih =>
    intro h
    by_cases h2 : ∃ d, d ∣ n ∧ d ≠ 1 ∧ d ≠ n
    · obtain ⟨d, hd, h1, hn⟩ := h2
      have hle := Nat.le_of_dvd (by exact Nat.zero_lt_of_lt (by assumption)) hd
      have hd0 : d ≠ 0 := fun e => by rw [e] at hd; have := Nat.zero_dvd.mp hd; lia
      obtain ⟨p, hp, hpd, hpp⟩ := ih d (by lia) (by lia)
      exact ⟨p, hp, Nat.dvd_trans hpd hd, hpp⟩
    · refine ⟨n, h, Nat.dvd_refl _, fun d hd => ?_⟩
      by_cases h1 : d = 1
      · exact .inl h1
      · by_cases h3 : d = n
        · exact .inr h3
        · exact absurd ⟨d, hd, h1, h3⟩ h2
theorem nat_dvd {p : Nat} {b : Int} (h : p ∣ b.natAbs) : (p : Int) ∣ b := Int.natAbs_dvd_natAbs.mp (by rw [Int.natAbs_natCast]; exact h)
theorem prime_split {p : Nat} (hpp : ∀ d, d ∣ p → d = 1 ∨ d = p) {a b : Int} (h : (p : Int) ∣ a * b) : (p : Int) ∣ a ∨ (p : Int) ∣ b := by
  have h1 : p ∣ a.natAbs * b.natAbs := by
    have := Int.natAbs_dvd_natAbs.mpr h
    rwa [Int.natAbs_mul, Int.natAbs_natCast] at this
  rcases hpp _ (Nat.gcd_dvd_left p a.natAbs) with e | e
  · right
    have : p ∣ b.natAbs := Nat.Coprime.dvd_of_dvd_mul_left e h1
    exact nat_dvd this
  · left
    have : p ∣ a.natAbs := by rw [← e]; exact Nat.gcd_dvd_right _ _
    exact nat_dvd this
theorem mulP_cons_getD (f : List Int) (d : Int) (g : List Int) (k : Nat) : (mulP f (d :: g)).getD (k + 1) 0 = f.getD (k + 1) 0 * d + (mulP f g).getD k 0 := by
  have h := ev_ext (p := mulP f (d :: g)) (q := sumL (f.map fun y => y * d) (0 :: mulP f g)) (fun x _ => by
    rw [(ev_sumL _ _ x).1, (ev_mulP _ _ x).1, (ev_map_mul _ _ x).1]
    simp only [ev]
    rw [(ev_mulP _ _ x).1]
    grind) (k + 1)
  rw [h, sumL_getD, cf_map (by simp)]
  simp
theorem gauss_aux {p : Nat} (hpp : ∀ d, d ∣ p → d = 1 ∨ d = p) : ∀ (N : Nat) (f g : List Int), f.length + g.length ≤ N → (∀ k, (p : Int) ∣ (mulP f g).getD k 0) → (∀ i, (p : Int) ∣ f.getD i 0) ∨ (∀ i, (p : Int) ∣ g.getD i 0)
  | _, [], _, _, _ => .inl fun i => by simp
  | _, _, [], _, _ => .inr fun i => by simp
  | 0, _ :: _, _ :: _, h, _ => by simp at h
  | N + 1, c :: f, d :: g, hN, h => by
    have h0 := h 0
    rw [mulP, sumL_getD] at h0
    simp only [List.map_cons, List.getD_cons_zero, Int.add_zero] at h0
    simp only [List.length_cons] at hN
    rcases prime_split hpp h0 with hd | hc
    · have h2 : ∀ k, (p : Int) ∣ (mulP (c :: f) g).getD k 0 := fun k => by
        have h3 := h (k + 1)
        rw [mulP_cons_getD] at h3
        exact (Int.dvd_add_right (Int.dvd_mul_of_dvd_right hd)).mp h3
      rcases gauss_aux hpp N (c :: f) g (by simp only [List.length_cons]; exact Nat.le_of_succ_le_succ (by assumption)) h2 with h4 | h4
      · exact .inl h4
      · refine .inr fun i => ?_
        cases i with
        | zero => simpa using hd
        | succ i => simpa using h4 i
    · have h2 : ∀ k, (p : Int) ∣ (mulP f (d :: g)).getD k 0 := fun k => by
        have h3 := h (k + 1)
        rw [mulP, sumL_getD, cf_map (by simp)] at h3
        simp only [List.getD_cons_succ] at h3
        exact (Int.dvd_add_right (Int.dvd_mul_of_dvd_right hc)).mp h3
      rcases gauss_aux hpp N f (d :: g) (by simp only [List.length_cons]; lia) h2 with h4 | h4
      · refine .inl fun i => ?_
        cases i with
        | zero => simpa using hc
        | succ i => simpa using h4 i
      · exact .inr h4
theorem gauss {f g : List Int} (hf : Prim f) (hg : Prim g) : Prim (mulP f g) := by
  have hl := (mulP_len f g hf.ne hg.ne).2
  have hpos : 0 < lead (mulP f g) := by rw [hl]; exact Int.mul_pos hf.2 hg.2
  refine ⟨?_, hpos⟩
  have h0 := cont_ne (p := mulP f g) (by omega)
  have hnn := cont_nn (mulP f g)
  by_cases h1 : gcdAll (mulP f g) = 1
  · exact h1
  · exfalso
    obtain ⟨p, hp, hpd, hpp⟩ := prime_ex (gcdAll (mulP f g)).natAbs (by lia)
    have hall : ∀ k, (p : Int) ∣ (mulP f g).getD k 0 := fun k => Int.dvd_trans (nat_dvd hpd) (cont_dvd_getD _ k)
    have no : ∀ q : List Int, Prim q → ¬ ∀ i, (p : Int) ∣ q.getD i 0 := fun q hq h => by
      have h2 : (p : Int) ∣ gcdAll q := dvd_cont fun x hx => by
        obtain ⟨i, _, rfl⟩ := mem_getD hx
        exact h i
      rw [hq.1] at h2
      have h3 := Int.natAbs_dvd_natAbs.mpr h2
      simp at h3
      omega
    rcases gauss_aux hpp _ f g (Nat.le_refl _) hall with h | h
    · exact no f hf h
    · exact no g hg h
theorem dvd_mul_foldl {d c : Int} : ∀ (l : List Int) (g : Int), d ∣ c * g → (∀ x ∈ l, d ∣ c * x) → d ∣ c * l.foldl (fun g x => (Int.gcd g x : Int)) g
  | [], g, h, _ => h
  | y :: l, g, h, h2 => by
    simp only [List.foldl_cons]
    refine dvd_mul_foldl l _ ?_ fun x hx => h2 x (.tail _ hx)
    have h3 := Int.dvd_coe_gcd h (h2 y (.head _))
    rw [Int.gcd_mul_left] at h3
    have h4 : (((c.natAbs * Int.gcd g y : Nat)) : Int) = (c.natAbs : Int) * (Int.gcd g y : Int) := by simp
    rw [h4] at h3
    rcases Int.natAbs_eq c with e | e
    · rw [e]; exact h3
    · rw [e, Int.neg_mul]; exact Int.dvd_neg.mpr h3
theorem dvd_mul_cont {p : List Int} {d c : Int} (h : ∀ i, d ∣ c * p.getD i 0) : d ∣ c * gcdAll p := dvd_mul_foldl p 0 (by simp) fun x hx => by
  obtain ⟨i, _, rfl⟩ := mem_getD hx
  exact h i
theorem coef_of_ev {p q : List Int} {a b : Int} (h : ∀ x, a * ev p x = b * ev q x) (i : Nat) : a * p.getD i 0 = b * q.getD i 0 := by
  have := ev_ext (p := p.map fun y => y * a) (q := q.map fun y => y * b) (fun x _ => by
    rw [(ev_map_mul _ _ x).1, (ev_map_mul _ _ x).1]
    have := h x
    grind) i
  rw [cf_map (by simp), cf_map (by simp)] at this
  grind
theorem prim_unique {d g : List Int} {a b : Int} (hd : Prim d) (hg : Prim g) (ha : a ≠ 0) (hb : b ≠ 0) (h : ∀ x, a * ev d x = b * ev g x) : d = g := by
  have hco := coef_of_ev h
  have h1 : a ∣ b * gcdAll g := dvd_mul_cont fun i => ⟨d.getD i 0, (hco i).symm⟩
  have h2 : b ∣ a * gcdAll d := dvd_mul_cont fun i => ⟨g.getD i 0, hco i⟩
  rw [hg.1, Int.mul_one] at h1
  rw [hd.1, Int.mul_one] at h2
  have h3 := Nat.dvd_antisymm (Int.natAbs_dvd_natAbs.mpr h1) (Int.natAbs_dvd_natAbs.mpr h2)
  have hab : a = b ∨ a = - b := by grind
  rcases hab with rfl | rfl
  · refine tr_ev hd.tr hg.tr fun x _ => ?_
    exact Int.eq_of_mul_eq_mul_left ha (h x)
  · exfalso
    have h4 : ∀ i, d.getD i 0 = - g.getD i 0 := fun i => by
      have := hco i
      have : b * (d.getD i 0 + g.getD i 0) = 0 := by grind
      rcases Int.mul_eq_zero.mp this with e | e
      · exact absurd e hb
      · lia
    have hlen : d.length = (neg g).length := by
      rw [tr_ext (p := d) (q := neg g) hd.tr (tr_neg hg.tr) (fun i => by rw [neg_getD]; exact h4 i)]
    have h5 : d.length = g.length := by rw [hlen]; unfold neg; simp
    have h6 := hd.2
    have h7 := hg.2
    unfold lead at h6 h7
    rw [h5, h4] at h6
    lia
/-! exact division -/
theorem ex_ok {b : List Int} (hb : lead b ≠ 0) {q : List Int} (hq : Tr q) : ∀ (n : Nat) (rest qr found : List Int), Tr rest → Tr qr → (∀ x, ev rest x = ev b x * ev qr x) → rest.length < n → (∀ i, Small (qr.getD i 0)) → qr.length ≤ found.length →
    (∀ i, i < qr.length → found.getD i 0 = 0) → (∀ i, found.getD i 0 + qr.getD i 0 = q.getD i 0) → exLoop b n rest found = some q ∧ exOk b n rest
  | 0, _, _, _, _, _, _, h, _, _, _, _ => absurd h (Nat.not_lt_zero _)
  | n + 1, rest, qr, found, hr, htq, hev, hn, hsm, hlen, hzero, hsum => by
    have hbne := lead_ne hb
    have hb0 : 0 < b.length := List.length_pos_iff.mpr hbne
    by_cases hq0 : qr = []
    · subst hq0
      have hr0 : rest = [] := tr_ev hr (.inl rfl) fun x _ => by rw [hev x]; simp [ev]
      subst hr0
      refine ⟨?_, fun h => absurd h (by simp; exact hbne)⟩
      rw [exLoop, if_neg (by simp; exact hbne), if_pos rfl]
      congr 1
      exact tr_ext (tr_trim _) hq fun i => by rw [trim_getD]; have := hsum i; simpa using this
    · have hq1 : 0 < qr.length := List.length_pos_iff.mpr hq0
      have hrest : rest = mulP b qr := tr_ev hr (tr_mulP (.inr hb) htq hbne hq0) fun x _ => by rw [hev x, (ev_mulP _ _ x).1]
      obtain ⟨hl1, hl2⟩ := mulP_len b qr hbne hq0
      rw [← hrest] at hl1 hl2
      have hle : b.length ≤ rest.length := by omega
      have hfm : (lead rest).fmod (lead b) = 0 := by rw [hl2]; exact Int.mul_fmod_right _ _
      have hfd : (lead rest).fdiv (lead b) = lead qr := by rw [hl2]; exact Int.mul_fdiv_cancel_left _ hb
      have hpow : rest.length - b.length = qr.length - 1 := by lia
      have hl3 := ex_len hb0 hle hb hfm
      have hco : ∀ i, (zsub qr (zraise [lead qr] (qr.length - 1))).getD i 0 = if i = qr.length - 1 then 0 else qr.getD i 0 := fun i => by
        rw [zsub_getD, zraise_getD]
        by_cases h1 : i < qr.length - 1
        · rw [if_pos h1, if_neg (by omega)]; exact (Int.sub_zero _)
        · rw [if_neg h1]
          by_cases h2 : i = qr.length - 1
          · rw [if_pos h2, h2, Nat.sub_self]
            show qr.getD (qr.length - 1) 0 - lead qr = 0
            unfold lead; simp
          · rw [if_neg h2, getD_out (p := [lead qr]) (by simp; omega)]; exact (Int.sub_zero _)
      have hql : (zsub qr (zraise [lead qr] (qr.length - 1))).length ≤ qr.length - 1 := by
        unfold zsub zadd
        refine trim_len_le _ _ fun i hi => ?_
        have := hco i
        unfold zsub zadd at this
        rw [trim_getD] at this
        rw [this]
        by_cases h2 : i = qr.length - 1
        · rw [if_pos h2]
        · rw [if_neg h2, getD_out (by grind)]
      have ih := ex_ok hb hq n (zsub rest (zraise (zscale b (lead qr)) (qr.length - 1))) (zsub qr (zraise [lead qr] (qr.length - 1))) (found.set (qr.length - 1) (lead qr)) (tr_zsub _ _) (tr_zsub _ _)
        (fun x => by
          rw [ev_zsub, ev_zraise, ev_zscale, ev_zsub, ev_zraise, hev x]
          simp only [ev]
          generalize x ^ (qr.length - 1) = X
          grind)
        (by rw [hfd, hpow] at hl3; lia)
        (fun i => by
          rw [hco i]
          split
          · exact ⟨1, by decide, by decide⟩
          · exact hsm i)
        (by rw [List.length_set]; exact nb9 ‹_› ‹_›)
        (fun i hi => by rw [getD_set _ _ _ _ (by omega), if_neg (by omega)]; exact hzero i (by omega))
        (fun i => by
          rw [getD_set _ _ _ _ (by omega), hco i]
          have := hsum i
          by_cases h2 : i = qr.length - 1
          · rw [if_pos h2, if_pos h2]
            rw [h2, hzero _ (by exact Nat.sub_lt (by assumption) (by decide))] at this
            rw [h2, ← this]
            unfold lead; simp
          · rw [if_neg h2, if_neg h2]; exact this)
      refine ⟨?_, fun _ => ?_⟩
      · rw [exLoop, if_pos hle, if_neg (by simp [hfm]), hfd, hpow]
        exact ih.1
      · rw [hfd, hpow]
        exact ⟨hsm _, ih.2⟩
theorem exact_ok {a b q : List Int} (ha : Tr a) (hb : lead b ≠ 0) (hq : Tr q) (h : ∀ x, ev a x = ev b x * ev q x) (hbd : Bd q) : zexact a b = some q ∧ exOk b (a.length + 1) a := by
  have hbne := lead_ne hb
  have hb0 : 0 < b.length := List.length_pos_iff.mpr hbne
  have hsm : ∀ i, Small (q.getD i 0) := fun i => by
    by_cases hi : i < q.length
    · exact hbd _ (getD_mem' hi)
    · rw [getD_out (by exact Nat.not_lt.mp (by assumption))]; exact ⟨1, by decide, by decide⟩
  unfold zexact
  refine ex_ok hb hq (a.length + 1) a q _ ha hq h (Nat.lt_succ_self _) hsm ?_ (fun i _ => rep_getD _ _) (fun i => by rw [rep_getD]; simp)
  rw [List.length_replicate]
  by_cases e : q = []
  · rw [e]; simp
  · have : a = mulP b q := tr_ev ha (tr_mulP (.inr hb) hq hbne e) fun x _ => by rw [h x, (ev_mulP _ _ x).1]
    have h2 := (mulP_len b q hbne e).1
    rw [← this] at h2
    omega
end Mine
end

section
/-! the part M8 -/
/-! the greatest common divisor that zgcd gives -/
namespace Mine
/-- coprime over the fractions -/
noncomputable def Cop (s t : List Int) : Prop := ∃ c : Int, c ≠ 0 ∧ ∃ u v : List Int, ∀ x, c = ev u x * ev s x + ev v x * ev t x
theorem inv_start {a b : List Int} (ha : lead a ≠ 0) (hb : lead b ≠ 0) (hl : b.length ≤ a.length) :
    Inv (fun k j => Sr k (b.length - 1 - k) (a.length - 1 - k) (cf a) (cf b) j) (a.length - 1) (b.length - 1) a b 1 1 := by
  have h1 := List.length_pos_iff.mpr (lead_ne ha)
  have h2 := List.length_pos_iff.mpr (lead_ne hb)
  refine ⟨.inr ha, .inr hb, by exact nb4 ‹_›, by exact nb4 ‹_›, by exact Nat.sub_le_sub_right ‹_› _, by decide, by decide, fun k p q hp hq => ⟨1, .inl rfl, fun j => ?_⟩⟩
  have e1 : b.length - 1 - k = p := by exact nb3 ‹_›
  have e2 : a.length - 1 - k = q + 1 := by lia
  rw [e1, e2, Int.one_pow, Int.one_pow]; simp
theorem sr_main {a b : List Int} {γ : Nat} (ha : lead a ≠ 0) (hb : lead b ≠ 0) (hl : b.length ≤ a.length) (h7 : a.length ≤ 7) (la : Lim γ a) (lb : Lim γ b) (hγ : γ ≤ 1000) :
    Tr (srLast a b) ∧ srLast a b ≠ [] ∧ Gen a b (srLast a b) ∧ Dv (srLast a b) a ∧ Dv (srLast a b) b ∧ srOk (b.length + 1) a b 1 1 := by
  have I := inv_start ha hb hl
  have h1 := List.length_pos_iff.mpr (lead_ne ha)
  have h2 := List.length_pos_iff.mpr (lead_ne hb)
  have e : srLast a b = srLoop (b.length + 1) a b 1 1 := by unfold srLast; rw [if_neg (by omega)]
  obtain ⟨t1, t2, t3, t4, t5, _⟩ := sr_spec (b.length + 1) a b 1 1 _ _ I (by exact Nat.lt_succ_of_le (Nat.sub_le _ _))
  rw [e]
  refine ⟨t1, t2, t3, t4, t5, sr_ok (τ := 12 * (γ + 4)) (fun k j => Sr_bound la lb _ _ _ _ (by omega)) (by omega) (b.length + 1) a b 1 1 _ _ I (by omega) (la.mono (by omega)) (lb.mono (by omega)) ?_ ?_⟩
  · show (1 : Nat) ≤ _; exact Nat.one_le_two_pow
  · show (1 : Nat) ≤ _; exact Nat.one_le_two_pow
/-- two lists whose product is a number are numbers -/
theorem const_of_mul {w1 w2 : List Int} {c : Int} (hc : c ≠ 0) (h : ∀ x, c = ev w1 x * ev w2 x) : ∃ k : Int, k ≠ 0 ∧ ∀ x, ev w1 x = k := by
  have key : ∀ w1 w2 : List Int, (∀ x, c = ev w1 x * ev w2 x) → trim w1 ≠ [] := fun w1 w2 h e => by
    have := h 1
    rw [← ev_trim w1, e] at this
    simp [ev] at this
    exact hc this
  have h1 := key w1 w2 h
  have h2 := key w2 w1 (fun x => by rw [h x, Int.mul_comm])
  have h3 : mulP (trim w1) (trim w2) = [c] := tr_ev (tr_mulP (tr_trim _) (tr_trim _) h1 h2) (.inr (by simpa [lead] using hc)) fun x _ => by
    rw [(ev_mulP _ _ x).1, ev_trim, ev_trim, ← h x]; simp [ev]
  have h4 := (mulP_len _ _ h1 h2).1
  rw [h3] at h4
  have h5 := List.length_pos_iff.mpr h1
  have h6 := List.length_pos_iff.mpr h2
  have h7 : (trim w1).length = 1 := by simp at h4; omega
  obtain ⟨k, hk⟩ := List.length_eq_one_iff.mp h7
  have h8 := (tr_trim w1).resolve_left h1
  rw [hk] at h8
  refine ⟨k, by simpa [lead] using h8, fun x => ?_⟩
  rw [← ev_trim, hk]; simp [ev]
theorem ev_factor {p r : List Int} {c : Int} (h : ∀ i, p.getD i 0 = c * r.getD i 0) (x : Int) : ev p x = c * ev r x := ev_scaled h x
theorem lim_part {p r : List Int} {c : Int} {γ : Nat} (hc : c ≠ 0) (h : ∀ i, p.getD i 0 = c * r.getD i 0) (hp : Lim γ p) : Lim γ r := fun j => by
  have h1 := hp j
  unfold cf at h1 ⊢
  rw [h j, Int.natAbs_mul] at h1
  have h2 : 1 ≤ c.natAbs := by exact Int.natAbs_pos.mpr ‹_›
  exact Nat.le_trans (Nat.le_mul_of_pos_left _ h2) h1
theorem prim_one {g : List Int} (hg : Prim g) (hl : g.length ≤ 1) : g = [1] := by
  have h0 := List.length_pos_iff.mpr hg.ne
  obtain ⟨x, rfl⟩ := List.length_eq_one_iff.mp (by lia : g.length = 1)
  have h1 := hg.1
  have h2 := hg.2
  unfold gcdAll at h1
  simp [lead] at h1 h2
  congr 1; grind
theorem prim_self {p : List Int} (h : Prim p) : zprim p = p := by
  obtain ⟨h1, h2, c, hc, _, h3⟩ := zprim_spec (p := p) (by have := h.2; omega)
  exact prim_unique h1 h hc (b := 1) (by decide) fun x => by rw [ev_factor h3 x]; simp
theorem small_gcd {a : List Int} {γ : Nat} (ha : lead a ≠ 0) (la : Lim γ a) (hγ : γ ≤ 1000) (y : Int) : Small (Int.gcd (gcdAll a) y : Int) := by
  have h1 : (Int.gcd (gcdAll a) y : Int) ∣ lead a := Int.dvd_trans (Int.gcd_dvd_left ..) (cont_dvd (lead_mem (List.length_pos_iff.mpr (lead_ne ha))))
  have h0 : 0 < (lead a).natAbs := Int.natAbs_pos.mpr ha
  have h2 : ((Int.gcd (gcdAll a) y : Int)).natAbs ≤ (lead a).natAbs := Nat.le_of_dvd h0 (Int.natAbs_dvd_natAbs.mpr h1)
  have h3 : (lead a).natAbs ≤ 2 ^ γ := la.lead
  have h4 : γ < 67108864 := Nat.lt_of_le_of_lt hγ (by decide)
  exact small_of (Nat.le_trans h2 h3) h4
theorem zgcd_main {a b g s t : List Int} {γ : Nat} (ha : lead a ≠ 0) (hb : lead b ≠ 0) (hl : b.length ≤ a.length) (h7 : a.length ≤ 7) (la : Lim γ a) (lb : Lim γ b) (hγ : γ ≤ 1000) (hg : Prim g) (hgb : Bd g)
    (hs : ∀ x, ev a x = ev g x * ev s x) (ht : ∀ x, ev b x = ev g x * ev t x) (hc : Cop s t) : gcOk a b ∧ (zgcd a b).length = g.length ∧ (gcdAll a = 1 → zgcd a b = g) := by
  obtain ⟨pa, pal, ca, hca, _, hca2⟩ := zprim_spec ha
  obtain ⟨pb, pbl, cb, hcb, _, hcb2⟩ := zprim_spec hb
  have hane := lead_ne ha
  have hbne := lead_ne hb
  obtain ⟨d1, d2, ⟨cd, hcd, u, v, hgen⟩, ⟨c1, hc1, q1, hq1⟩, ⟨c2, hc2, q2, hq2⟩, hok⟩ := sr_main (a := zprim a) (b := zprim b) (by have := pa.2; omega) (by have := pb.2; omega) (by lia) (by lia) (lim_part hca hca2 la) (lim_part hcb hcb2 lb) hγ
  rw [pbl] at hok
  have ea := ev_factor hca2
  have eb := ev_factor hcb2
  obtain ⟨c, hcc, u', v', hcop⟩ := hc
  generalize hd : srLast (zprim a) (zprim b) = d at *
  have hdl : lead d ≠ 0 := d1.resolve_left d2
  -- g divides d
  have hw1 : ∀ x, cd * ca * cb * ev d x = ev g x * ev (sumL (zscale (mulP u s) cb) (zscale (mulP v t) ca)) x := fun x => by
    rw [(ev_sumL _ _ x).1, ev_zscale, ev_zscale, (ev_mulP _ _ x).1, (ev_mulP _ _ x).1]
    have z1 := hgen x
    have z2 := ea x
    have z3 := eb x
    have z4 := hs x
    have z5 := ht x
    calc cd * ca * cb * ev d x = ca * cb * (cd * ev d x) := by grind
      _ = cb * ev u x * (ca * ev (zprim a) x) + ca * ev v x * (cb * ev (zprim b) x) := by rw [z1]; grind
      _ = cb * ev u x * (ev g x * ev s x) + ca * ev v x * (ev g x * ev t x) := by rw [← z2, ← z3, z4, z5]
      _ = _ := by grind
  -- d divides g
  have hw2 : ∀ x, c * c1 * c2 * ev g x = ev d x * ev (sumL (zscale (mulP u' q1) (c2 * ca)) (zscale (mulP v' q2) (c1 * cb))) x := fun x => by
    rw [(ev_sumL _ _ x).1, ev_zscale, ev_zscale, (ev_mulP _ _ x).1, (ev_mulP _ _ x).1]
    have z1 := hcop x
    have z2 := ea x
    have z3 := eb x
    have z4 := hs x
    have z5 := ht x
    have z6 := hq1 x
    have z7 := hq2 x
    calc c * c1 * c2 * ev g x = (ev u' x * ev s x + ev v' x * ev t x) * c1 * c2 * ev g x := by rw [← z1]
      _ = ev u' x * c2 * c1 * (ev g x * ev s x) + ev v' x * c1 * c2 * (ev g x * ev t x) := by grind
      _ = ev u' x * c2 * c1 * (ca * ev (zprim a) x) + ev v' x * c1 * c2 * (cb * ev (zprim b) x) := by rw [← z4, ← z5, z2, z3]
      _ = ev u' x * c2 * ca * (c1 * ev (zprim a) x) + ev v' x * c1 * cb * (c2 * ev (zprim b) x) := by grind
      _ = _ := by rw [z6, z7]; grind
  generalize sumL (zscale (mulP u s) cb) (zscale (mulP v t) ca) = w1 at *
  generalize sumL (zscale (mulP u' q1) (c2 * ca)) (zscale (mulP v' q2) (c1 * cb)) = w2 at *
  have hC1 : cd * ca * cb ≠ 0 := Int.mul_ne_zero (Int.mul_ne_zero hcd hca) hcb
  have hC2 : c * c1 * c2 ≠ 0 := Int.mul_ne_zero (Int.mul_ne_zero hcc hc1) hc2
  generalize cd * ca * cb = C1 at *
  generalize c * c1 * c2 = C2 at *
  have hcan := mul_cancel (d := d) (p := [C2 * C1]) (q := mulP w1 w2) d2 d1 (fun x => by
    rw [(ev_mulP _ _ x).1]
    have z1 := hw1 x
    have z2 := hw2 x
    simp only [ev]
    calc ev d x * (C2 * C1 + x * 0) = C2 * (C1 * ev d x) := by grind
      _ = (C2 * ev g x) * ev w1 x := by rw [z1]; grind
      _ = _ := by rw [z2]; grind)
  obtain ⟨k, hk, hkx⟩ := const_of_mul (w1 := w1) (w2 := w2) (c := C2 * C1) (Int.mul_ne_zero hC2 hC1) (fun x => by
    have := hcan x
    rw [(ev_mulP _ _ x).1] at this
    simpa [ev] using this)
  obtain ⟨pd, pdl, cz, hcz, _, hcz2⟩ := zprim_spec hdl
  have hzd : zprim d = g := prim_unique pd hg (a := C1 * cz) (b := k) (Int.mul_ne_zero hC1 hcz) hk fun x => by
    have z1 := hw1 x
    rw [ev_factor hcz2 x, hkx x] at z1
    rw [Int.mul_assoc, z1, Int.mul_comm]
  have hdg : d.length = g.length := by rw [← hzd, pdl]
  have hsm : Small (Int.gcd (gcdAll a) (gcdAll b) : Int) := small_gcd ha la hγ _
  refine ⟨⟨hane, cont_ne ha, fun e => absurd e hbne, fun _ => ⟨cont_ne hb, hl, hok, fun _ => ?_⟩⟩, ?_, fun hga => ?_⟩
  · rw [hd]
    exact ⟨cont_ne hdl, by rw [hzd]; exact hgb, hsm⟩
  · have hn0 : (Int.gcd (gcdAll a) (gcdAll b) : Int) ≠ 0 := fun e => by
      have : Int.gcd (gcdAll a) (gcdAll b) = 0 := by lia
      exact cont_ne ha (Int.gcd_eq_zero_iff.mp this).1
    unfold zgcd
    rw [if_neg (by simp [hane, hbne]), hd]
    dsimp only
    split
    · rw [hzd]; unfold zscale; rw [if_neg hn0]; simp
    · rename_i h
      have := List.length_pos_iff.mpr d2
      simp; lia
  · unfold zgcd
    rw [if_neg (by simp [hane, hbne]), hd, hga]
    have h1 : (Int.gcd 1 (gcdAll b) : Int) = 1 := by simp
    rw [h1]
    dsimp only
    split
    · rw [hzd]; unfold zscale; simp
    · rename_i h
      exact (prim_one hg (by lia)).symm
end Mine
end

section
/-! the part M9 -/
/-! derivatives, coprime lists, Yun's lists -/
namespace Mine
noncomputable def dl : List Int → List Int
  | [] => []
  | _ :: p => sumL p (0 :: dl p)
theorem ev_dl : ∀ (p : List Int) (x : Int), ev (dl p) x = dv p x
  | [], _ => rfl
  | c :: p, x => by
    simp only [dl, dv]
    rw [(ev_sumL _ _ x).1]
    simp only [ev]
    rw [ev_dl p x]; simp
theorem dl_getD : ∀ (p : List Int) (i : Nat), (dl p).getD i 0 = p.getD (i + 1) 0 * ((i : Int) + 1)
  | [], i => by simp [dl]
  | c :: p, i => by
    simp only [dl]
    rw [sumL_getD]
    cases i with
    | zero => simp
    | succ i =>
      simp only [List.getD_cons_succ]
      rw [dl_getD p i]
      have : ((i + 1 : Nat) : Int) = (i : Int) + 1 := by rfl
      rw [this]; grind
theorem zder_getD (p : List Int) (i : Nat) : (zder p).getD i 0 = p.getD (i + 1) 0 * ((i : Int) + 1) := by
  unfold zder derR
  simp only [List.getD_eq_getElem?_getD, List.getElem?_drop, List.getElem?_map]
  by_cases h : 1 + i < p.length
  · rw [List.getElem?_range h, Nat.add_comm 1 i]
    simp
  · rw [List.getElem?_eq_none (by simp; exact Nat.not_lt.mp (by assumption)), List.getElem?_eq_none (by omega)]; simp
theorem ev_zder (p : List Int) (x : Int) : ev (zder p) x = dv p x := by
  rw [← ev_dl]
  exact (ev_congr (fun i => by rw [zder_getD, dl_getD]) x).1
theorem zder_length (p : List Int) : (zder p).length = p.length - 1 := by unfold zder derR; simp
theorem lead_zder {p : List Int} (h : 2 ≤ p.length) (hl : lead p ≠ 0) : lead (zder p) ≠ 0 := by
  unfold lead
  rw [zder_getD, zder_length, show p.length - 1 - 1 + 1 = p.length - 1 by grind]
  exact Int.mul_ne_zero hl (by omega)
theorem tr_zder {p : List Int} (h : Tr p) : Tr (zder p) := by
  by_cases h2 : 2 ≤ p.length
  · exact .inr (lead_zder h2 (h.resolve_left (fun e => by rw [e] at h2; simp at h2)))
  · left
    apply List.length_eq_zero_iff.mp
    rw [zder_length]; omega
/-! coprime -/
theorem Cop.congr {s t s' t' : List Int} (h : Cop s t) (hs : ∀ x, ev s x = ev s' x) (ht : ∀ x, ev t x = ev t' x) : Cop s' t' := by
  obtain ⟨c, hc, u, v, e⟩ := h
  exact ⟨c, hc, u, v, fun x => by rw [← hs, ← ht]; exact e x⟩
theorem Cop.symm {s t : List Int} (h : Cop s t) : Cop t s := by
  obtain ⟨c, hc, u, v, e⟩ := h
  exact ⟨c, hc, v, u, fun x => by rw [Int.add_comm]; exact e x⟩
theorem Cop.mul {a b c : List Int} (h : Cop a b) (h' : Cop a c) : Cop a (mulP b c) := by
  obtain ⟨k, hk, u, v, e⟩ := h
  obtain ⟨k', hk', u', v', e'⟩ := h'
  refine ⟨k * k', Int.mul_ne_zero hk hk', sumL (mulP u (sumL (mulP u' a) (mulP v' c))) (mulP (mulP v b) u'), mulP v v', fun x => ?_⟩
  rw [(ev_sumL _ _ x).1, (ev_mulP _ _ x).1, (ev_sumL _ _ x).1, (ev_mulP u' a x).1, (ev_mulP v' c x).1, (ev_mulP _ _ x).1, (ev_mulP v b x).1, (ev_mulP v v' x).1, (ev_mulP b c x).1]
  have z1 := e x
  have z2 := e' x
  calc k * k' = (ev u x * ev a x + ev v x * ev b x) * (ev u' x * ev a x + ev v' x * ev c x) := by rw [← z1, ← z2]
    _ = _ := by grind
theorem Cop.left {a b c : List Int} (h : Cop a (mulP b c)) : Cop a b := by
  obtain ⟨k, hk, u, v, e⟩ := h
  exact ⟨k, hk, u, mulP v c, fun x => by rw [(ev_mulP _ _ x).1, e x, (ev_mulP _ _ x).1]; grind⟩
theorem Cop.right {a b c : List Int} (h : Cop a (mulP b c)) : Cop a c := by
  obtain ⟨k, hk, u, v, e⟩ := h
  exact ⟨k, hk, u, mulP v b, fun x => by rw [(ev_mulP _ _ x).1, e x, (ev_mulP _ _ x).1]; grind⟩
/-- changing the second by a multiple of the first -/
theorem Cop.shift {a b b' : List Int} {n : Int} (hn : n ≠ 0) (h : Cop a b) (q : List Int) (hb : ∀ x, ev b' x = n * ev b x + ev q x * ev a x) : Cop a b' := by
  obtain ⟨k, hk, u, v, e⟩ := h
  refine ⟨n * k, Int.mul_ne_zero hn hk, zsub (zscale u n) (mulP v q), v, fun x => ?_⟩
  rw [ev_zsub, ev_zscale, (ev_mulP _ _ x).1, hb x]
  have z := e x
  calc n * k = n * (ev u x * ev a x + ev v x * ev b x) := by rw [← z]
    _ = _ := by grind
theorem Cop.one (a : List Int) : Cop a [1] := ⟨1, by decide, [], [1], fun x => by simp [ev]⟩
theorem Cop.const {a t : List Int} {c : Int} (hc : c ≠ 0) (h : ∀ x, ev t x = c) : Cop a t := ⟨c, hc, [], [1], fun x => by rw [h x]; simp [ev]⟩
/-! products of lists of lists -/
noncomputable def Lp : List (List Int) → List Int
  | [] => [1]
  | a :: as => mulP a (Lp as)
noncomputable def powL (a : List Int) : Nat → List Int
  | 0 => [1]
  | n + 1 => mulP a (powL a n)
noncomputable def Pw : Nat → List (List Int) → List Int
  | _, [] => [1]
  | n, a :: as => mulP (powL a n) (Pw (n + 1) as)
theorem prim_1 : Prim [1] := ⟨by decide, by decide⟩
theorem Lp_prim : ∀ {as : List (List Int)}, (∀ a ∈ as, Prim a) → Prim (Lp as)
  | [], _ => prim_1
  | _ :: _, h => gauss (h _ (.head _)) (Lp_prim fun b hb => h b (.tail _ hb))
theorem powL_prim {a : List Int} (h : Prim a) : ∀ n, Prim (powL a n)
  | 0 => prim_1
  | n + 1 => gauss h (powL_prim h n)
theorem Pw_prim : ∀ {as : List (List Int)} (n : Nat), (∀ a ∈ as, Prim a) → Prim (Pw n as)
  | [], _, _ => prim_1
  | _ :: _, n, h => gauss (powL_prim (h _ (.head _)) n) (Pw_prim (n + 1) fun b hb => h b (.tail _ hb))
theorem ev_powL (a : List Int) (x : Int) : ∀ n, ev (powL a n) x = ev a x ^ n
  | 0 => by simp [powL, ev]
  | n + 1 => by rw [powL, (ev_mulP _ _ x).1, ev_powL a x n, Int.pow_succ, Int.mul_comm]
theorem dv_powL (a : List Int) (x : Int) : ∀ n, dv (powL a (n + 1)) x = ((n : Int) + 1) * (ev a x ^ n * dv a x)
  | 0 => by simp [powL, (ev_mulP _ _ x).2, ev, dv]
  | n + 1 => by
    rw [powL, (ev_mulP _ _ x).2, dv_powL a x n, ev_powL, Int.pow_succ]
    have : ((n + 1 : Nat) : Int) = (n : Int) + 1 := by rfl
    rw [this]; grind
theorem Pw_succ : ∀ (as : List (List Int)) (n : Nat) (x : Int), ev (Pw (n + 1) as) x = ev (Pw n as) x * ev (Lp as) x
  | [], n, x => by simp [Pw, Lp, ev]
  | a :: as, n, x => by
    simp only [Pw, Lp]
    rw [(ev_mulP _ _ x).1, (ev_mulP _ _ x).1, (ev_mulP _ _ x).1, Pw_succ as (n + 1) x, ev_powL, ev_powL, Int.pow_succ]
    grind
/-- what is left of the derivative -/
noncomputable def Dt : List (List Int) → List Int
  | [] => []
  | a :: as => if trim (sumL (Dt as) (zder (Lp as))) = [] then [] else mulP a (trim (sumL (Dt as) (zder (Lp as))))
theorem ev_Dt (a : List Int) (as : List (List Int)) (x : Int) : ev (Dt (a :: as)) x = ev a x * (ev (Dt as) x + dv (Lp as) x) := by
  have h : ev (trim (sumL (Dt as) (zder (Lp as)))) x = ev (Dt as) x + dv (Lp as) x := by rw [ev_trim, (ev_sumL _ _ x).1, ev_zder]
  simp only [Dt]
  split
  · rename_i e
    rw [e] at h
    rw [← h]; simp [ev]
  · rw [(ev_mulP _ _ x).1, h]
theorem dv_Pw : ∀ (as : List (List Int)) (n : Nat) (x : Int), dv (Pw (n + 1) as) x = ev (Pw n as) x * (ev (Dt as) x + ((n : Int) + 1) * dv (Lp as) x)
  | [], n, x => by simp [Pw, Lp, Dt, ev, dv]
  | a :: as, n, x => by
    simp only [Pw]
    rw [(ev_mulP _ _ x).2, (ev_mulP _ _ x).1, dv_Pw as (n + 1) x, Pw_succ as (n + 1) x, dv_powL, ev_powL, ev_powL, ev_Dt]
    simp only [Lp]
    rw [(ev_mulP _ _ x).2, Int.pow_succ]
    have : ((n + 1 : Nat) : Int) = (n : Int) + 1 := by rfl
    rw [this]
    generalize ev a x ^ n = A
    generalize ev (Pw (n + 1) as) x = B
    grind
/-- square-free -/
noncomputable def Sqf (as : List (List Int)) : Prop := Cop (Lp as) (zder (Lp as))
theorem Sqf.head {a : List Int} {as : List (List Int)} (h : Sqf (a :: as)) : Cop a (zder a) ∧ Cop a (Lp as) ∧ Sqf as := by
  unfold Sqf at h
  simp only [Lp] at h
  have h1 : Cop a (zder (mulP a (Lp as))) := (h.symm.left).symm
  have h2 : Cop (Lp as) (zder (mulP a (Lp as))) := (h.symm.right).symm
  have h3 : Cop a (mulP (zder a) (Lp as)) := h1.shift (n := 1) (by decide) (neg (zder (Lp as))) fun x => by
    rw [ev_zder, (ev_mulP _ _ x).1, (ev_mulP _ _ x).2, ev_neg, ev_zder, ev_zder]; grind
  have h4 : Cop (Lp as) (mulP a (zder (Lp as))) := h2.shift (n := 1) (by decide) (neg (zder a)) fun x => by
    rw [ev_zder, (ev_mulP _ _ x).1, (ev_mulP _ _ x).2, ev_neg, ev_zder, ev_zder]; grind
  exact ⟨h3.left, h3.right, h4.right⟩
theorem cop_D : ∀ {as : List (List Int)}, Sqf as → ∀ n : Nat, 1 ≤ n → Cop (Lp as) (sumL (Dt as) (zscale (zder (Lp as)) n))
  | [], _, n, _ => (Cop.one _).symm
  | a :: as, h, n, hn => by
    obtain ⟨h1, h2, h3⟩ := h.head
    have ih := cop_D h3 (n + 1) (by simp)
    have ha : Cop a (sumL (Dt (a :: as)) (zscale (zder (Lp (a :: as))) n)) := by
      refine (h1.mul h2).shift (n := (n : Int)) (by omega) (sumL (sumL (Dt as) (zder (Lp as))) (zscale (zder (Lp as)) n)) fun x => ?_
      simp only [Lp]
      rw [(ev_sumL _ _ x).1, ev_zscale, ev_zder, (ev_mulP _ _ x).2, ev_Dt, (ev_mulP _ _ x).1, (ev_sumL _ _ x).1, (ev_sumL _ _ x).1, ev_zscale, ev_zder, ev_zder]
      grind
    have hL : Cop (Lp as) (sumL (Dt (a :: as)) (zscale (zder (Lp (a :: as))) n)) := by
      refine (h2.symm.mul ih).shift (n := 1) (by decide) (zscale (zder a) n) fun x => ?_
      simp only [Lp]
      rw [(ev_sumL _ _ x).1, ev_zscale, ev_zder, (ev_mulP _ _ x).2, ev_Dt, (ev_mulP _ _ x).1, (ev_sumL _ _ x).1, ev_zscale, ev_zscale, ev_zder, ev_zder]
      have : ((n + 1 : Nat) : Int) = (n : Int) + 1 := by rfl
      rw [this]
      grind
    exact (ha.symm.mul hL.symm).symm
/-! lengths -/
theorem trim_le (p : List Int) : (trim p).length ≤ p.length := trim_len_le p p.length fun i hi => getD_out hi
theorem Lp_pos {as : List (List Int)} (h : ∀ a ∈ as, Prim a) : 0 < (Lp as).length := List.length_pos_iff.mpr (Lp_prim h).ne
theorem Lp_cons_len {a : List Int} {as : List (List Int)} (h : ∀ b ∈ a :: as, Prim b) : (Lp (a :: as)).length = a.length + (Lp as).length - 1 :=
  (mulP_len a (Lp as) (h a (.head _)).ne (Lp_prim fun b hb => h b (.tail _ hb)).ne).1
theorem tr_Dt : ∀ (as : List (List Int)), (∀ a ∈ as, Prim a) → Tr (Dt as)
  | [], _ => .inl rfl
  | a :: as, h => by
    simp only [Dt]
    split
    · exact .inl rfl
    · rename_i e
      exact tr_mulP (h a (.head _)).tr (tr_trim _) (h a (.head _)).ne e
theorem Dt_len : ∀ (as : List (List Int)), (∀ a ∈ as, Prim a) → (Dt as).length ≤ (Lp as).length - 1
  | [], _ => by simp [Dt]
  | a :: as, h => by
    have h' : ∀ b ∈ as, Prim b := fun b hb => h b (.tail _ hb)
    have ih := Dt_len as h'
    have hl := Lp_cons_len h
    have hp := Lp_pos h'
    have ha := List.length_pos_iff.mpr (h a (.head _)).ne
    have ht := trim_le (sumL (Dt as) (zder (Lp as)))
    rw [sumL_len, zder_length] at ht
    simp only [Dt]
    split
    · simp
    · rename_i e
      have h1 := (mulP_len a _ (h a (.head _)).ne e).1
      have h2 := List.length_pos_iff.mpr e
      rw [h1]; omega
/-! norms -/
noncomputable def N1 : List Int → Nat
  | [] => 0
  | c :: p => c.natAbs + N1 p
theorem getD_N1 : ∀ (p : List Int) (i : Nat), (p.getD i 0).natAbs ≤ N1 p
  | [], i => by simp
  | c :: p, 0 => by simp [N1]
  | c :: p, i + 1 => by have := getD_N1 p i; simp only [List.getD_cons_succ, N1]; lia
theorem lim_N1 {p : List Int} {γ : Nat} (h : N1 p ≤ 2 ^ γ) : Lim γ p := fun j => Nat.le_trans (getD_N1 p j) h
theorem N1_sumL : ∀ (p q : List Int), N1 (sumL p q) ≤ N1 p + N1 q
  | [], q => by simp [sumL, N1]
  | c :: p, [] => by simp [sumL, N1]
  | c :: p, d :: q => by have := N1_sumL p q; simp only [sumL, N1]; omega
theorem N1_map (k : Int) : ∀ p : List Int, N1 (p.map fun y => y * k) = N1 p * k.natAbs
  | [] => by simp [N1]
  | c :: p => by simp only [List.map_cons, N1, N1_map k p, Int.natAbs_mul, Nat.add_mul]
theorem N1_mulP : ∀ (p q : List Int), N1 (mulP p q) ≤ N1 p * N1 q
  | [], q => by simp [mulP, N1]
  | c :: p, q => by
    have h1 := N1_sumL (q.map fun y => y * c) (0 :: mulP p q)
    have h2 := N1_mulP p q
    rw [N1_map] at h1
    simp only [mulP, N1, Nat.add_mul] at h1 ⊢
    have : N1 q * c.natAbs = c.natAbs * N1 q := Nat.mul_comm ..
    simp at h1
    omega
theorem N1_trim : ∀ p : List Int, N1 (trim p) = N1 p
  | [] => rfl
  | c :: p => by
    have ih := N1_trim p
    simp only [trim]
    split
    · rename_i h
      rw [h.1] at ih
      simp only [N1, h.2] at ih ⊢
      simp; omega
    · simp only [N1, ih]
theorem N1_drop1 (p : List Int) : N1 (p.drop 1) ≤ N1 p := by cases p <;> simp [N1]
theorem N1_pos {p : List Int} (h : lead p ≠ 0) : 1 ≤ N1 p := by
  have := getD_N1 p (p.length - 1)
  unfold lead at h
  lia
theorem N1_of_getD : ∀ (p q : List Int) (m : Nat), p.length ≤ q.length → (∀ i, i < p.length → (p.getD i 0).natAbs ≤ (q.getD i 0).natAbs * m) → N1 p ≤ N1 q * m
  | [], _, _, _, _ => by simp [N1]
  | c :: p, [], _, h, _ => by simp at h
  | c :: p, d :: q, m, h, hc => by
    have h0 := hc 0 (by simp)
    simp only [List.length_cons] at h
    have ih := N1_of_getD p q m (by exact Nat.le_of_succ_le_succ (by assumption)) fun i hi => by simpa using hc (i + 1) (by simp only [List.length_cons]; exact Nat.succ_lt_succ ‹_›)
    simp only [N1, Nat.add_mul]
    simp at h0
    omega -splitDisjunctions -splitNatSub -splitNatAbs -splitMinMax
theorem N1_zder (p : List Int) : N1 (zder p) ≤ N1 p * p.length := by
  have h1 : N1 (zder p) ≤ N1 (p.drop 1) * p.length := by
    refine N1_of_getD _ _ _ (by rw [zder_length, List.length_drop]; simp) fun i hi => ?_
    rw [zder_length] at hi
    rw [zder_getD, Int.natAbs_mul]
    have e : (p.drop 1).getD i 0 = p.getD (i + 1) 0 := by
      simp only [List.getD_eq_getElem?_getD, List.getElem?_drop, Nat.add_comm 1 i]
    rw [e]
    exact Nat.mul_le_mul_left _ (by omega)
  exact Nat.le_trans h1 (Nat.mul_le_mul_right _ (N1_drop1 p))
end Mine
end

section
/-! the part M10 -/
/-! prime-like polynomials; the decomposition -/
namespace Mine
noncomputable def Irr (p : List Int) : Prop := Prim p ∧ 2 ≤ p.length ∧ ∀ f : List Int, Dv p f ∨ Cop p f
theorem irr_same {p q : List Int} (hp : Irr p) (hq : Irr q) : Cop p q ∨ p = q := by
  rcases hp.2.2 q with ⟨c, hc, u, hu⟩ | h
  · rcases hq.2.2 p with ⟨c', hc', u', hu'⟩ | h
    · right
      have h1 := mul_cancel (d := q) (p := [c * c']) (q := mulP u u') hq.1.ne hq.1.tr (fun x => by
        rw [(ev_mulP _ _ x).1]
        have z1 := hu x
        have z2 := hu' x
        simp only [ev]
        calc ev q x * (c * c' + x * 0) = c' * (c * ev q x) := by grind
          _ = ev u x * (c' * ev p x) := by rw [z1]; grind
          _ = _ := by rw [z2]; grind)
      obtain ⟨k, hk, hkx⟩ := const_of_mul (w1 := u) (w2 := u') (c := c * c') (Int.mul_ne_zero hc hc') (fun x => by
        have := h1 x
        rw [(ev_mulP _ _ x).1] at this
        simpa [ev] using this)
      exact prim_unique hp.1 hq.1 hk hc fun x => by rw [hu x, hkx x]
    · exact .inl h.symm
  · exact .inl h
theorem dv_congr {p q : List Int} (h : ∀ x, ev p x = ev q x) (x : Int) : dv p x = dv q x := (ev_congr (ev_ext fun x _ => h x) x).2
theorem irr_sqf {p : List Int} (hp : Irr p) : Cop p (zder p) := by
  rcases hp.2.2 (zder p) with ⟨c, hc, u, hu⟩ | h
  · exfalso
    have hl := lead_zder hp.2.1 (by have := hp.1.2; omega)
    have hz := lead_ne hl
    have hu0 : trim u ≠ [] := fun e => by
      have h1 : (zder p).map (fun y => y * c) = [] := tr_ev (by right; rw [lead_map (by simp)]; exact Int.mul_ne_zero hl hc) (.inl rfl) fun x _ => by
        rw [(ev_map_mul _ _ x).1, Int.mul_comm, hu x, ← ev_trim u, e]; simp [ev]
      exact hz (List.map_eq_nil_iff.mp h1)
    have h2 : (zder p).map (fun y => y * c) = mulP (trim u) p := tr_ev (by right; rw [lead_map (by simp)]; exact Int.mul_ne_zero hl hc) (tr_mulP (tr_trim _) hp.1.tr hu0 hp.1.ne) fun x _ => by
      rw [(ev_map_mul _ _ x).1, Int.mul_comm, hu x, (ev_mulP _ _ x).1, ev_trim]
    have h3 := (mulP_len (trim u) p hu0 hp.1.ne).1
    rw [← h2, List.length_map, zder_length] at h3
    have := List.length_pos_iff.mpr hu0
    have := hp.2.1
    omega
  · exact h
abbrev MM := List (List (List Int))
noncomputable def vl (as : MM) : List (List Int) := as.map Lp
noncomputable def push (p : List Int) : MM → MM
  | [] => [[p]]
  | m :: ms => (p :: m) :: ms
noncomputable def wt : Nat → MM → Nat
  | _, [] => 0
  | n, l :: as => n * l.length + wt (n + 1) as
noncomputable def Mem (p : List Int) (as : MM) : Prop := ∃ l ∈ as, p ∈ l
theorem mem_push {p q : List Int} {as : MM} (h : Mem q (push p as)) : q = p ∨ Mem q as := by
  obtain ⟨l, hl, hq⟩ := h
  cases as with
  | nil =>
    rw [List.mem_singleton.mp hl] at hq
    exact .inl (List.mem_singleton.mp hq)
  | cons m ms =>
    rcases List.mem_cons.mp hl with rfl | hl
    · rcases List.mem_cons.mp hq with rfl | hq
      · exact .inl rfl
      · exact .inr ⟨m, .head _, hq⟩
    · exact .inr ⟨l, .tail _ hl, hq⟩
theorem push_len (p : List Int) (as : MM) : (push p as).length ≤ as.length + 1 := by cases as <;> simp [push]
theorem push_Pw (p : List Int) (as : MM) (n : Nat) (x : Int) : ev (Pw n (vl (push p as))) x = ev p x ^ n * ev (Pw n (vl as)) x := by
  cases as with
  | nil => simp only [push, vl, List.map_cons, List.map_nil, Pw, Lp]; rw [(ev_mulP _ _ x).1, ev_powL, (ev_mulP _ _ x).1]; simp [ev]
  | cons m ms =>
    simp only [push, vl, List.map_cons, Pw, Lp]
    rw [(ev_mulP _ _ x).1, (ev_mulP _ _ x).1, ev_powL, ev_powL, (ev_mulP _ _ x).1, Int.mul_pow, Int.mul_assoc]
theorem push_Lp (p : List Int) (as : MM) (x : Int) : ev (Lp (vl (push p as))) x = ev p x * ev (Lp (vl as)) x := by
  cases as with
  | nil => simp only [push, vl, List.map_cons, List.map_nil, Lp]; rw [(ev_mulP _ _ x).1, (ev_mulP _ _ x).1]; simp [ev]
  | cons m ms =>
    simp only [push, vl, List.map_cons, Lp]
    rw [(ev_mulP _ _ x).1, (ev_mulP _ _ x).1, (ev_mulP _ _ x).1, Int.mul_assoc]
theorem push_wt (p : List Int) (as : MM) (n : Nat) : wt n (push p as) = wt n as + n := by
  cases as with
  | nil => simp [push, wt]
  | cons m ms => simp only [push, wt, List.length_cons, Nat.mul_succ]; lia
theorem erase_Lp {p : List Int} : ∀ {l : List (List Int)}, p ∈ l → ∀ x, ev (Lp l) x = ev p x * ev (Lp (l.erase p)) x
  | a :: l, h, x => by
    by_cases e : a = p
    · subst e
      rw [List.erase_cons_head]
      simp only [Lp]
      rw [(ev_mulP _ _ x).1]
    · rcases List.mem_cons.mp h with e2 | h
      · exact absurd e2.symm e
      · rw [List.erase_cons_tail (by simpa using e)]
        simp only [Lp]
        rw [(ev_mulP _ _ x).1, (ev_mulP _ _ x).1, erase_Lp h x]
        grind
theorem move {p : List Int} (hp : Irr p) : ∀ (as : MM), (∀ q, Mem q as → Irr q) → (∀ q, Mem q as → Cop p q) ∨ ∃ as' : MM, (∀ q, Mem q as' → q = p ∨ Mem q as) ∧ (∀ n x, ev (Pw n (vl as')) x = ev p x * ev (Pw n (vl as)) x) ∧
    (∀ x, ev (Lp (vl as')) x = ev (Lp (vl as)) x) ∧ (∀ n, wt n as' = wt n as + 1) ∧ as'.length ≤ as.length + 1
  | [], _ => .inl fun q ⟨l, hl, _⟩ => nomatch hl
  | l :: as, h => by
    by_cases hl : p ∈ l
    · right
      refine ⟨l.erase p :: push p as, fun q hq => ?_, fun n x => ?_, fun x => ?_, fun n => ?_, ?_⟩
      · obtain ⟨k, hk, hqk⟩ := hq
        rcases List.mem_cons.mp hk with rfl | hk
        · exact .inr ⟨l, .head _, List.mem_of_mem_erase hqk⟩
        · rcases mem_push ⟨k, hk, hqk⟩ with e | ⟨m, hm, hqm⟩
          · exact .inl e
          · exact .inr ⟨m, .tail _ hm, hqm⟩
      · have h1 := push_Pw p as (n + 1) x
        have h2 := erase_Lp hl x
        unfold vl at h1 ⊢
        simp only [List.map_cons, Pw]
        rw [(ev_mulP _ _ x).1, (ev_mulP _ _ x).1, h1, ev_powL, ev_powL, h2, Int.mul_pow, Int.pow_succ]
        grind
      · have h1 := push_Lp p as x
        have h2 := erase_Lp hl x
        unfold vl at h1 ⊢
        simp only [List.map_cons, Lp]
        rw [(ev_mulP _ _ x).1, (ev_mulP _ _ x).1, h1, h2]
        grind
      · simp only [wt, push_wt, List.length_erase_of_mem hl]
        have := List.length_pos_of_mem hl
        obtain ⟨k, hk⟩ : ∃ k, l.length = k + 1 := ⟨l.length - 1, by exact nb4 ‹_›⟩
        rw [hk, Nat.add_sub_cancel, Nat.mul_succ]; lia
      · simp only [List.length_cons]
        have := push_len p as
        lia
    · rcases move hp as (fun q ⟨k, hk, hq⟩ => h q ⟨k, .tail _ hk, hq⟩) with h1 | ⟨as', i1, i2, i3, i4, i5⟩
      · left
        rintro q ⟨k, hk, hq⟩
        rcases List.mem_cons.mp hk with rfl | hk
        · exact (irr_same hp (h q ⟨k, .head _, hq⟩)).resolve_right fun e => hl (e ▸ hq)
        · exact h1 q ⟨k, hk, hq⟩
      · right
        refine ⟨l :: as', fun q hq => ?_, fun n x => ?_, fun x => ?_, fun n => ?_, ?_⟩
        · obtain ⟨k, hk, hqk⟩ := hq
          rcases List.mem_cons.mp hk with rfl | hk
          · exact .inr ⟨k, .head _, hqk⟩
          · rcases i1 q ⟨k, hk, hqk⟩ with e | ⟨m, hm, hqm⟩
            · exact .inl e
            · exact .inr ⟨m, .tail _ hm, hqm⟩
        · have := i2 (n + 1) x
          unfold vl at this ⊢
          simp only [List.map_cons, Pw]
          rw [(ev_mulP _ _ x).1, (ev_mulP _ _ x).1, this]
          grind
        · have := i3 x
          unfold vl at this ⊢
          simp only [List.map_cons, Lp]
          rw [(ev_mulP _ _ x).1, (ev_mulP _ _ x).1, this]
        · simp only [wt, i4]; rfl
        · simp only [List.length_cons]; lia
theorem cop_Lp {p : List Int} : ∀ {l : List (List Int)}, (∀ q ∈ l, Cop p q) → Cop p (Lp l)
  | [], _ => Cop.one p
  | _ :: _, h => (h _ (.head _)).mul (cop_Lp fun q hq => h q (.tail _ hq))
theorem cop_vl {p : List Int} {as : MM} (h : ∀ q, Mem q as → Cop p q) : Cop p (Lp (vl as)) := cop_Lp fun q hq => by
  obtain ⟨l, hl, rfl⟩ := List.mem_map.mp hq
  exact cop_Lp fun q hq => h q ⟨l, hl, hq⟩
theorem sqf_congr {as bs : List (List Int)} (h : ∀ x, ev (Lp as) x = ev (Lp bs) x) (hs : Sqf as) : Sqf bs :=
  Cop.congr hs h fun x => by rw [ev_zder, ev_zder]; exact dv_congr h x
theorem insert_irr {p : List Int} (hp : Irr p) {as : MM} (h : ∀ q, Mem q as → Irr q) (hs : Sqf (vl as)) : ∃ as' : MM, (∀ q, Mem q as' → q = p ∨ Mem q as) ∧ (∀ x, ev (Pw 1 (vl as')) x = ev p x * ev (Pw 1 (vl as)) x) ∧ Sqf (vl as') ∧ wt 1 as' = wt 1 as + 1 ∧ as'.length ≤ as.length + 1 := by
  rcases move hp as h with h1 | ⟨as', i1, i2, i3, i4, i5⟩
  · refine ⟨push p as, fun q hq => mem_push hq, fun x => by rw [push_Pw, Int.pow_one], ?_, push_wt p as 1, push_len p as⟩
    have c1 := irr_sqf hp
    have c2 := cop_vl h1
    have key : Cop (mulP p (Lp (vl as))) (zder (mulP p (Lp (vl as)))) := by
      have ha : Cop p (zder (mulP p (Lp (vl as)))) := (c1.mul c2).shift (n := 1) (by decide) (zder (Lp (vl as))) fun x => by
        rw [ev_zder, (ev_mulP _ _ x).2, (ev_mulP _ _ x).1, ev_zder, ev_zder]; grind
      have hb : Cop (Lp (vl as)) (zder (mulP p (Lp (vl as)))) := (c2.symm.mul hs).shift (n := 1) (by decide) (zder p) fun x => by
        rw [ev_zder, (ev_mulP _ _ x).2, (ev_mulP _ _ x).1, ev_zder, ev_zder]; grind
      exact (ha.symm.mul hb.symm).symm
    exact Cop.congr key (fun x => by rw [push_Lp, (ev_mulP _ _ x).1]) fun x => by
      rw [ev_zder, ev_zder]
      exact dv_congr (fun x => by rw [push_Lp, (ev_mulP _ _ x).1]) x
  · exact ⟨as', i1, fun x => i2 1 x, sqf_congr (fun x => (i3 x).symm) hs, i4 1, i5⟩
theorem decomp : ∀ (ps : List (List Int)), (∀ p ∈ ps, Irr p) → ∃ as : MM, (∀ q, Mem q as → q ∈ ps) ∧ (∀ x, ev (Pw 1 (vl as)) x = ev (Lp ps) x) ∧ Sqf (vl as) ∧ wt 1 as = ps.length ∧ as.length ≤ ps.length
  | [], _ => ⟨[], fun _ ⟨_, hl, _⟩ => (nomatch hl), fun _ => rfl, (Cop.one _).symm, rfl, Nat.le_refl _⟩
  | p :: ps, h => by
    obtain ⟨as, i1, i2, i3, i4, i5⟩ := decomp ps fun q hq => h q (.tail _ hq)
    obtain ⟨as', j1, j2, j3, j4, j5⟩ := insert_irr (h p (.head _)) (as := as) (fun q hq => h q (.tail _ (i1 q hq))) i3
    refine ⟨as', fun q hq => ?_, fun x => ?_, j3, by rw [j4, i4]; rfl, by simp only [List.length_cons]; lia⟩
    · rcases j1 q hq with rfl | hq
      · exact .head _
      · exact .tail _ (i1 q hq)
    · rw [j2 x, i2 x]
      simp only [Lp]
      rw [(ev_mulP _ _ x).1]
/-! the pieces -/
theorem cop_prem {f p : List Int} (hp : 0 < p.length) (h : Cop p (prem f p)) (hl : lead p ≠ 0) : Cop p f := by
  obtain ⟨q, hq⟩ := prem_ev (a := f) hp
  obtain ⟨c, hc, u, v, e⟩ := h
  refine ⟨c, hc, zsub u (mulP v q), zscale v (lead p ^ (f.length + 1 - p.length)), fun x => ?_⟩
  rw [ev_zsub, ev_zscale, (ev_mulP _ _ x).1]
  have z1 := e x
  have z2 := hq x
  generalize lead p ^ (f.length + 1 - p.length) = E at *
  calc c = ev u x * ev p x + ev v x * ev (prem f p) x := z1
    _ = ev u x * ev p x + ev v x * (E * ev f x - ev q x * ev p x) := by rw [z2]; grind
    _ = _ := by grind
theorem dv_prem {f p : List Int} (hp : 0 < p.length) (hl : lead p ≠ 0) (h : prem f p = []) : Dv p f := by
  obtain ⟨q, hq⟩ := prem_ev (a := f) hp
  exact ⟨_, Int.pow_ne_zero hl, q, fun x => by rw [hq x, h]; simp [ev]⟩
theorem dv_trim_iff {p f : List Int} (h : Dv p (trim f)) : Dv p f := let ⟨c, hc, q, e⟩ := h; ⟨c, hc, q, fun x => by rw [← ev_trim f]; exact e x⟩
theorem const_list {p : List Int} (h : p.length ≤ 1) (hn : p ≠ []) (ht : Tr p) : ∃ c : Int, c ≠ 0 ∧ ∀ x, ev p x = c := by
  obtain ⟨c, rfl⟩ := List.length_eq_one_iff.mp (by have := List.length_pos_iff.mpr hn; lia : p.length = 1)
  exact ⟨c, by simpa [lead] using ht.resolve_left hn, fun x => by simp [ev]⟩
theorem irr_linear {p : List Int} (hp : Prim p) (h2 : p.length = 2) : Irr p := by
  refine ⟨hp, by exact (Nat.le_of_eq (Eq.symm ‹_›)), fun f => ?_⟩
  have hl : lead p ≠ 0 := by have := hp.2; omega
  have ht := tr_prem (b := p) (tr_trim f)
  have hlen := prem_len (a := trim f) (b := p) (by omega)
  by_cases e : prem (trim f) p = []
  · exact .inl (dv_trim_iff (dv_prem (by exact Nat.zero_lt_of_lt (by assumption)) hl e))
  · right
    obtain ⟨c, hc, he⟩ := const_list (by lia) e ht
    exact Cop.congr (cop_prem (by exact Nat.zero_lt_of_lt (by assumption)) (Cop.const hc he) hl) (fun _ => rfl) (fun x => ev_trim f x)
/-- the small factors of a product of two linear ones -/
theorem small_factors {l1 l2 w : List Int} (h1 : l1.length = 2) (h2 : l2.length = 2) (hw : w = mulP l1 l2) (hs : ∀ i, (w.getD i 0).natAbs ≤ 3) (hl : lead w ≠ 0) : N1 l1 ≤ 9 ∧ N1 l2 ≤ 9 := by
  match l1, l2, h1, h2 with
  | [v1, u1], [v2, u2], _, _ =>
    have e : w = [v2 * v1, u2 * v1 + v2 * u1, u2 * u1] := by
      rw [hw]; simp [mulP, sumL]
    have a0 := hs 0
    have a1 := hs 1
    have a2 := hs 2
    rw [e] at a0 a1 a2 hl
    simp [lead] at a0 a1 a2 hl
    rw [Int.natAbs_mul] at a0 a2
    have hu1 : 1 ≤ u1.natAbs := by have := hl.2; exact Int.natAbs_pos.mpr ‹_›
    have hu2 : 1 ≤ u2.natAbs := by have := hl.1; exact Int.natAbs_pos.mpr ‹_›
    have b1 : u1.natAbs ≤ 3 := Nat.le_trans (Nat.le_mul_of_pos_left _ hu2) a2
    have b2 : u2.natAbs ≤ 3 := Nat.le_trans (Nat.le_mul_of_pos_right _ hu1) a2
    have c12 : v1.natAbs ≤ 3 ∧ v2.natAbs ≤ 3 := by
      by_cases z1 : v1 = 0
      · subst z1
        simp [Int.natAbs_mul] at a1
        exact ⟨by decide, Nat.le_trans (Nat.le_mul_of_pos_right _ hu1) a1⟩
      · by_cases z2 : v2 = 0
        · subst z2
          simp [Int.natAbs_mul] at a1
          exact ⟨Nat.le_trans (Nat.le_mul_of_pos_left _ hu2) a1, by decide⟩
        · exact ⟨Nat.le_trans (Nat.le_mul_of_pos_left _ (by exact Int.natAbs_pos.mpr ‹_›)) a0, Nat.le_trans (Nat.le_mul_of_pos_right _ (by exact Int.natAbs_pos.mpr ‹_›)) a0⟩
    simp only [N1]
    grind
end Mine
end

section
/-! the part HdA -/
open PySem PySem.W PyProof.Rows
set_option maxRecDepth 100000
set_option maxHeartbeats 8000000
namespace Mine
/-! the head: what stands when the text's top has run -/
noncomputable def hd.stmtAt (i : Nat) : Option Stmt := PySem.Challenge.pw_pq0216_01.main.body[i]?
noncomputable def hd.fnObj (c : Addr) (pm : Str) (tk : Tok) (i : Nat) : Option Obj := match hd.stmtAt i with
  | some (.FunctionDef n a b _ _ _ s _ _ _) => some { cls := .type "function", data := .func { name := n, qualname := n, params := a, body := .stmts b, scope := s, globals := 3, closure := [], defaults := .none, kwdefaults := .none, pyModule := .str pm tk, code := .ref c } }
  | _ => none
noncomputable def hd.s1 : { s : Stmt // hd.stmtAt 1 = some s } := by refine ⟨?o, ?h⟩; rotate_left; exact rfl
noncomputable def hd.s3 : { s : Stmt // hd.stmtAt 3 = some s } := by refine ⟨?o, ?h⟩; rotate_left; exact rfl
noncomputable def hd.s4 : { s : Stmt // hd.stmtAt 4 = some s } := by refine ⟨?o, ?h⟩; rotate_left; exact rfl
noncomputable def hd.s6 : { s : Stmt // hd.stmtAt 6 = some s } := by refine ⟨?o, ?h⟩; rotate_left; exact rfl
noncomputable def hd.s7 : { s : Stmt // hd.stmtAt 7 = some s } := by refine ⟨?o, ?h⟩; rotate_left; exact rfl
noncomputable def hd.s8 : { s : Stmt // hd.stmtAt 8 = some s } := by refine ⟨?o, ?h⟩; rotate_left; exact rfl
noncomputable def hd.s9 : { s : Stmt // hd.stmtAt 9 = some s } := by refine ⟨?o, ?h⟩; rotate_left; exact rfl
noncomputable def hd.s10 : { s : Stmt // hd.stmtAt 10 = some s } := by refine ⟨?o, ?h⟩; rotate_left; exact rfl
noncomputable def hd.s11 : { s : Stmt // hd.stmtAt 11 = some s } := by refine ⟨?o, ?h⟩; rotate_left; exact rfl
noncomputable def hd.s12 : { s : Stmt // hd.stmtAt 12 = some s } := by refine ⟨?o, ?h⟩; rotate_left; exact rfl
noncomputable def hd.s13 : { s : Stmt // hd.stmtAt 13 = some s } := by refine ⟨?o, ?h⟩; rotate_left; exact rfl
noncomputable def hd.s14 : { s : Stmt // hd.stmtAt 14 = some s } := by refine ⟨?o, ?h⟩; rotate_left; exact rfl
noncomputable def hd.s15 : { s : Stmt // hd.stmtAt 15 = some s } := by refine ⟨?o, ?h⟩; rotate_left; exact rfl
noncomputable def hd.s16 : { s : Stmt // hd.stmtAt 16 = some s } := by refine ⟨?o, ?h⟩; rotate_left; exact rfl
noncomputable def hd.s17 : { s : Stmt // hd.stmtAt 17 = some s } := by refine ⟨?o, ?h⟩; rotate_left; exact rfl
noncomputable def hd.s18 : { s : Stmt // hd.stmtAt 18 = some s } := by refine ⟨?o, ?h⟩; rotate_left; exact rfl
noncomputable def hd.s20 : { s : Stmt // hd.stmtAt 20 = some s } := by refine ⟨?o, ?h⟩; rotate_left; exact rfl
noncomputable def hd.s21 : { s : Stmt // hd.stmtAt 21 = some s } := by refine ⟨?o, ?h⟩; rotate_left; exact rfl
noncomputable def hd.s22 : { s : Stmt // hd.stmtAt 22 = some s } := by refine ⟨?o, ?h⟩; rotate_left; exact rfl
noncomputable def hd.s23 : { s : Stmt // hd.stmtAt 23 = some s } := by refine ⟨?o, ?h⟩; rotate_left; exact rfl
noncomputable def hd.s25 : { s : Stmt // hd.stmtAt 25 = some s } := by refine ⟨?o, ?h⟩; rotate_left; exact rfl
noncomputable def hd.s26 : { s : Stmt // hd.stmtAt 26 = some s } := by refine ⟨?o, ?h⟩; rotate_left; exact rfl
noncomputable def hd.s27 : { s : Stmt // hd.stmtAt 27 = some s } := by refine ⟨?o, ?h⟩; rotate_left; exact rfl
noncomputable def hd.s29 : { s : Stmt // hd.stmtAt 29 = some s } := by refine ⟨?o, ?h⟩; rotate_left; exact rfl
noncomputable def hd.s30 : { s : Stmt // hd.stmtAt 30 = some s } := by refine ⟨?o, ?h⟩; rotate_left; exact rfl
noncomputable def hd.s31 : { s : Stmt // hd.stmtAt 31 = some s } := by refine ⟨?o, ?h⟩; rotate_left; exact rfl
noncomputable def hd.s32 : { s : Stmt // hd.stmtAt 32 = some s } := by refine ⟨?o, ?h⟩; rotate_left; exact rfl
noncomputable def hd.s34 : { s : Stmt // hd.stmtAt 34 = some s } := by refine ⟨?o, ?h⟩; rotate_left; exact rfl
noncomputable def hd.s35 : { s : Stmt // hd.stmtAt 35 = some s } := by refine ⟨?o, ?h⟩; rotate_left; exact rfl
noncomputable def hd.s36 : { s : Stmt // hd.stmtAt 36 = some s } := by refine ⟨?o, ?h⟩; rotate_left; exact rfl
noncomputable def hd.s37 : { s : Stmt // hd.stmtAt 37 = some s } := by refine ⟨?o, ?h⟩; rotate_left; exact rfl
noncomputable def hd.s38 : { s : Stmt // hd.stmtAt 38 = some s } := by refine ⟨?o, ?h⟩; rotate_left; exact rfl
noncomputable def hd.s39 : { s : Stmt // hd.stmtAt 39 = some s } := by refine ⟨?o, ?h⟩; rotate_left; exact rfl
noncomputable def hd.s40 : { s : Stmt // hd.stmtAt 40 = some s } := by refine ⟨?o, ?h⟩; rotate_left; exact rfl
noncomputable def hd.s41 : { s : Stmt // hd.stmtAt 41 = some s } := by refine ⟨?o, ?h⟩; rotate_left; exact rfl
noncomputable def hd.s42 : { s : Stmt // hd.stmtAt 42 = some s } := by refine ⟨?o, ?h⟩; rotate_left; exact rfl
noncomputable def hd.s43 : { s : Stmt // hd.stmtAt 43 = some s } := by refine ⟨?o, ?h⟩; rotate_left; exact rfl
noncomputable def hd.o41 : { o : Obj // hd.fnObj 40 (Str.ofString "cas.ints") 220 3 = some o } := by refine ⟨?o, ?h⟩; rotate_left; exact rfl
noncomputable def hd.o48 : { o : Obj // hd.fnObj 47 (Str.ofString "cas.ints") 220 4 = some o } := by refine ⟨?o, ?h⟩; rotate_left; exact rfl
noncomputable def hd.o55 : { o : Obj // hd.fnObj 54 (Str.ofString "cas.zpoly") 239 6 = some o } := by refine ⟨?o, ?h⟩; rotate_left; exact rfl
noncomputable def hd.o62 : { o : Obj // hd.fnObj 61 (Str.ofString "cas.zpoly") 239 7 = some o } := by refine ⟨?o, ?h⟩; rotate_left; exact rfl
noncomputable def hd.o69 : { o : Obj // hd.fnObj 68 (Str.ofString "cas.zpoly") 239 8 = some o } := by refine ⟨?o, ?h⟩; rotate_left; exact rfl
noncomputable def hd.o74 : { o : Obj // hd.fnObj 73 (Str.ofString "cas.zpoly") 239 9 = some o } := by refine ⟨?o, ?h⟩; rotate_left; exact rfl
noncomputable def hd.o79 : { o : Obj // hd.fnObj 78 (Str.ofString "cas.zpoly") 239 10 = some o } := by refine ⟨?o, ?h⟩; rotate_left; exact rfl
noncomputable def hd.o86 : { o : Obj // hd.fnObj 85 (Str.ofString "cas.zpoly") 239 11 = some o } := by refine ⟨?o, ?h⟩; rotate_left; exact rfl
noncomputable def hd.o91 : { o : Obj // hd.fnObj 90 (Str.ofString "cas.zpoly") 239 12 = some o } := by refine ⟨?o, ?h⟩; rotate_left; exact rfl
noncomputable def hd.o98 : { o : Obj // hd.fnObj 97 (Str.ofString "cas.zpoly") 239 13 = some o } := by refine ⟨?o, ?h⟩; rotate_left; exact rfl
noncomputable def hd.o105 : { o : Obj // hd.fnObj 104 (Str.ofString "cas.zpoly") 239 14 = some o } := by refine ⟨?o, ?h⟩; rotate_left; exact rfl
noncomputable def hd.o112 : { o : Obj // hd.fnObj 111 (Str.ofString "cas.zpoly") 239 15 = some o } := by refine ⟨?o, ?h⟩; rotate_left; exact rfl
noncomputable def hd.o117 : { o : Obj // hd.fnObj 116 (Str.ofString "cas.zpoly") 239 16 = some o } := by refine ⟨?o, ?h⟩; rotate_left; exact rfl
noncomputable def hd.o124 : { o : Obj // hd.fnObj 123 (Str.ofString "cas.zpoly") 239 17 = some o } := by refine ⟨?o, ?h⟩; rotate_left; exact rfl
noncomputable def hd.o129 : { o : Obj // hd.fnObj 128 (Str.ofString "cas.zpoly") 239 18 = some o } := by refine ⟨?o, ?h⟩; rotate_left; exact rfl
noncomputable def hd.o136 : { o : Obj // hd.fnObj 135 (Str.ofString "cas.zdiv") 337 20 = some o } := by refine ⟨?o, ?h⟩; rotate_left; exact rfl
noncomputable def hd.o143 : { o : Obj // hd.fnObj 142 (Str.ofString "cas.zdiv") 337 21 = some o } := by refine ⟨?o, ?h⟩; rotate_left; exact rfl
noncomputable def hd.o150 : { o : Obj // hd.fnObj 149 (Str.ofString "cas.zdiv") 337 22 = some o } := by refine ⟨?o, ?h⟩; rotate_left; exact rfl
noncomputable def hd.o157 : { o : Obj // hd.fnObj 156 (Str.ofString "cas.zdiv") 337 23 = some o } := by refine ⟨?o, ?h⟩; rotate_left; exact rfl
noncomputable def hd.o164 : { o : Obj // hd.fnObj 163 (Str.ofString "cas.zgcd") 382 25 = some o } := by refine ⟨?o, ?h⟩; rotate_left; exact rfl
noncomputable def hd.o171 : { o : Obj // hd.fnObj 170 (Str.ofString "cas.zgcd") 382 26 = some o } := by refine ⟨?o, ?h⟩; rotate_left; exact rfl
noncomputable def hd.o178 : { o : Obj // hd.fnObj 177 (Str.ofString "cas.zgcd") 382 27 = some o } := by refine ⟨?o, ?h⟩; rotate_left; exact rfl
noncomputable def hd.o185 : { o : Obj // hd.fnObj 184 (Str.ofString "cas.squarefree") 417 29 = some o } := by refine ⟨?o, ?h⟩; rotate_left; exact rfl
noncomputable def hd.o192 : { o : Obj // hd.fnObj 191 (Str.ofString "cas.squarefree") 417 30 = some o } := by refine ⟨?o, ?h⟩; rotate_left; exact rfl
noncomputable def hd.o199 : { o : Obj // hd.fnObj 198 (Str.ofString "cas.squarefree") 417 31 = some o } := by refine ⟨?o, ?h⟩; rotate_left; exact rfl
noncomputable def hd.o206 : { o : Obj // hd.fnObj 205 (Str.ofString "cas.squarefree") 417 32 = some o } := by refine ⟨?o, ?h⟩; rotate_left; exact rfl
noncomputable def hd.o213 : { o : Obj // hd.fnObj 212 (Str.ofString "law_pq0216_01") 459 34 = some o } := by refine ⟨?o, ?h⟩; rotate_left; exact rfl
noncomputable def hd.o218 : { o : Obj // hd.fnObj 217 (Str.ofString "law_pq0216_01") 459 35 = some o } := by refine ⟨?o, ?h⟩; rotate_left; exact rfl
noncomputable def hd.o225 : { o : Obj // hd.fnObj 224 (Str.ofString "law_pq0216_01") 459 36 = some o } := by refine ⟨?o, ?h⟩; rotate_left; exact rfl
noncomputable def hd.o232 : { o : Obj // hd.fnObj 231 (Str.ofString "law_pq0216_01") 459 37 = some o } := by refine ⟨?o, ?h⟩; rotate_left; exact rfl
noncomputable def hd.o237 : { o : Obj // hd.fnObj 236 (Str.ofString "law_pq0216_01") 459 38 = some o } := by refine ⟨?o, ?h⟩; rotate_left; exact rfl
noncomputable def hd.o242 : { o : Obj // hd.fnObj 241 (Str.ofString "law_pq0216_01") 459 39 = some o } := by refine ⟨?o, ?h⟩; rotate_left; exact rfl
noncomputable def hd.o249 : { o : Obj // hd.fnObj 248 (Str.ofString "law_pq0216_01") 459 40 = some o } := by refine ⟨?o, ?h⟩; rotate_left; exact rfl
noncomputable def hd.o254 : { o : Obj // hd.fnObj 253 (Str.ofString "law_pq0216_01") 459 41 = some o } := by refine ⟨?o, ?h⟩; rotate_left; exact rfl
noncomputable def hd.o259 : { o : Obj // hd.fnObj 258 (Str.ofString "law_pq0216_01") 459 42 = some o } := by refine ⟨?o, ?h⟩; rotate_left; exact rfl
noncomputable def hd.o264 : { o : Obj // hd.fnObj 263 (Str.ofString "law_pq0216_01") 459 43 = some o } := by refine ⟨?o, ?h⟩; rotate_left; exact rfl
noncomputable def hd.view_39 : Program := { PySem.Challenge.pw_pq0216_01 with main := { PySem.Challenge.pw_pq0216_01.main with body := [hd.s1.1, hd.s3.1, hd.s4.1, hd.s6.1, hd.s7.1, hd.s8.1, hd.s9.1, hd.s10.1, hd.s11.1, hd.s12.1, hd.s13.1, hd.s14.1, hd.s15.1, hd.s16.1, hd.s17.1, hd.s18.1, hd.s20.1, hd.s21.1, hd.s22.1, hd.s23.1, hd.s25.1, hd.s26.1, hd.s27.1, hd.s29.1, hd.s30.1, hd.s31.1, hd.s32.1, hd.s34.1, hd.s35.1, hd.s36.1, hd.s37.1, hd.s38.1, hd.s39.1, hd.s40.1, hd.s41.1, hd.s42.1, hd.s43.1] } }
noncomputable def hd.heap_39 (P : Params) : Frag :=
  (nat_lit 3, { cls := Value.type "dict", data := Data.dict #[{ hash := PyData.keyHash P (Str.ofString "__name__"), key := Value.str (Str.ofString "__name__") 165, val := Value.str (Str.ofString "law_pq0216_01") 459 }, { hash := PyData.keyHash P (Str.ofString "__doc__"), key := Value.str (Str.ofString "__doc__") 166, val := Value.none }, { hash := PyData.keyHash P (Str.ofString "__package__"), key := Value.str (Str.ofString "__package__") 167, val := Value.none }, { hash := PyData.keyHash P (Str.ofString "__loader__"), key := Value.str (Str.ofString "__loader__") 168, val := Value.builtin "__main__.__loader__#opaque" }, { hash := PyData.keyHash P (Str.ofString "__spec__"), key := Value.str (Str.ofString "__spec__") 169, val := Value.none }, { hash := PyData.keyHash P (Str.ofString "__annotations__"), key := Value.str (Str.ofString "__annotations__") 170, val := Value.ref 6 }, { hash := PyData.keyHash P (Str.ofString "__builtins__"), key := Value.str (Str.ofString "__builtins__") 171, val := Value.ref 4 }, { hash := PyData.keyHash P (Str.ofString "__file__"), key := Value.str (Str.ofString "__file__") 173, val := Value.str (Str.ofString "/claim/cut.py") 172 }, { hash := PyData.keyHash P (Str.ofString "__cached__"), key := Value.str (Str.ofString "__cached__") 174, val := Value.none }, { hash := PyData.keyHash P (Str.ofString "CasFail"), key := Value.str (Str.ofString "CasFail") 219, val := Value.ref 31 }, { hash := PyData.keyHash P (Str.ofString "gcd"), key := Value.str (Str.ofString "gcd") 229, val := Value.ref 41 }, { hash := PyData.keyHash P (Str.ofString "gcd_all"), key := Value.str (Str.ofString "gcd_all") 238, val := Value.ref 48 }, { hash := PyData.keyHash P (Str.ofString "ztrim"), key := Value.str (Str.ofString "ztrim") 248, val := Value.ref 55 }, { hash := PyData.keyHash P (Str.ofString "zdegree"), key := Value.str (Str.ofString "zdegree") 255, val := Value.ref 62 }, { hash := PyData.keyHash P (Str.ofString "zlead"), key := Value.str (Str.ofString "zlead") 262, val := Value.ref 69 }, { hash := PyData.keyHash P (Str.ofString "zadd"), key := Value.str (Str.ofString "zadd") 268, val := Value.ref 74 }, { hash := PyData.keyHash P (Str.ofString "zneg"), key := Value.str (Str.ofString "zneg") 274, val := Value.ref 79 }, { hash := PyData.keyHash P (Str.ofString "zsub"), key := Value.str (Str.ofString "zsub") 282, val := Value.ref 86 }, { hash := PyData.keyHash P (Str.ofString "zscale"), key := Value.str (Str.ofString "zscale") 288, val := Value.ref 91 }, { hash := PyData.keyHash P (Str.ofString "zraise"), key := Value.str (Str.ofString "zraise") 296, val := Value.ref 98 }, { hash := PyData.keyHash P (Str.ofString "zmul"), key := Value.str (Str.ofString "zmul") 309, val := Value.ref 105 }, { hash := PyData.keyHash P (Str.ofString "zcontent"), key := Value.str (Str.ofString "zcontent") 316, val := Value.ref 112 }, { hash := PyData.keyHash P (Str.ofString "zdivided"), key := Value.str (Str.ofString "zdivided") 322, val := Value.ref 117 }, { hash := PyData.keyHash P (Str.ofString "zprimitive"), key := Value.str (Str.ofString "zprimitive") 330, val := Value.ref 124 }, { hash := PyData.keyHash P (Str.ofString "zderive"), key := Value.str (Str.ofString "zderive") 336, val := Value.ref 129 }, { hash := PyData.keyHash P (Str.ofString "check_bottom"), key := Value.str (Str.ofString "check_bottom") 345, val := Value.ref 136 }, { hash := PyData.keyHash P (Str.ofString "zexact"), key := Value.str (Str.ofString "zexact") 357, val := Value.ref 143 }, { hash := PyData.keyHash P (Str.ofString "pseudo"), key := Value.str (Str.ofString "pseudo") 373, val := Value.ref 150 }, { hash := PyData.keyHash P (Str.ofString "zpseudo_rest"), key := Value.str (Str.ofString "zpseudo_rest") 381, val := Value.ref 157 }, { hash := PyData.keyHash P (Str.ofString "next_height"), key := Value.str (Str.ofString "next_height") 392, val := Value.ref 164 }, { hash := PyData.keyHash P (Str.ofString "subresultants"), key := Value.str (Str.ofString "subresultants") 405, val := Value.ref 171 }, { hash := PyData.keyHash P (Str.ofString "zgcd"), key := Value.str (Str.ofString "zgcd") 416, val := Value.ref 178 }, { hash := PyData.keyHash P (Str.ofString "is_square_free"), key := Value.str (Str.ofString "is_square_free") 425, val := Value.ref 185 }, { hash := PyData.keyHash P (Str.ofString "square_free_part"), key := Value.str (Str.ofString "square_free_part") 433, val := Value.ref 192 }, { hash := PyData.keyHash P (Str.ofString "yun"), key := Value.str (Str.ofString "yun") 447, val := Value.ref 199 }, { hash := PyData.keyHash P (Str.ofString "product_of"), key := Value.str (Str.ofString "product_of") 458, val := Value.ref 206 }, { hash := PyData.keyHash P (Str.ofString "_law_next"), key := Value.str (Str.ofString "_law_next") 467, val := Value.ref 213 }, { hash := PyData.keyHash P (Str.ofString "_law_box"), key := Value.str (Str.ofString "_law_box") 473, val := Value.ref 218 }, { hash := PyData.keyHash P (Str.ofString "_law_times"), key := Value.str (Str.ofString "_law_times") 486, val := Value.ref 225 }, { hash := PyData.keyHash P (Str.ofString "_law_trim"), key := Value.str (Str.ofString "_law_trim") 493, val := Value.ref 232 }, { hash := PyData.keyHash P (Str.ofString "_law_rest"), key := Value.str (Str.ofString "_law_rest") 499, val := Value.ref 237 }, { hash := PyData.keyHash P (Str.ofString "_law_small"), key := Value.str (Str.ofString "_law_small") 505, val := Value.ref 242 }, { hash := PyData.keyHash P (Str.ofString "_law_apart"), key := Value.str (Str.ofString "_law_apart") 513, val := Value.ref 249 }, { hash := PyData.keyHash P (Str.ofString "_law_slope"), key := Value.str (Str.ofString "_law_slope") 519, val := Value.ref 254 }, { hash := PyData.keyHash P (Str.ofString "_law_piece"), key := Value.str (Str.ofString "_law_piece") 525, val := Value.ref 259 }, { hash := PyData.keyHash P (Str.ofString "law"), key := Value.str (Str.ofString "law") 531, val := Value.ref 264 }] 46 }) ::
  (nat_lit 40, { cls := Value.type "code", data := Data.fields #[Value.str (Str.ofString "gcd") 222, Value.str (Str.ofString "gcd") 223, Value.str (Str.ofString "/claim/cut.py") 224, Value.int 9 0, Value.int 2 0, Value.int 0 0, Value.int 0 0, Value.int 3 0, Value.ref 35, Value.bool true, Value.int 181 0, Value.ref 36, Value.none, Value.ref 37, Value.ref 38, Value.ref 39, Value.int 227 0, Value.int 9 0, Value.str (Str.ofString "/claim/cut.py") 228] }) ::
  (nat_lit 41, hd.o41.1) ::
  (nat_lit 47, { cls := Value.type "code", data := Data.fields #[Value.str (Str.ofString "gcd_all") 230, Value.str (Str.ofString "gcd_all") 231, Value.str (Str.ofString "/claim/cut.py") 232, Value.int 14 0, Value.int 1 0, Value.int 0 0, Value.int 0 0, Value.int 3 0, Value.ref 42, Value.bool true, Value.int 181 0, Value.ref 43, Value.none, Value.ref 44, Value.ref 45, Value.ref 46, Value.int 236 0, Value.int 14 0, Value.str (Str.ofString "/claim/cut.py") 237] }) ::
  (nat_lit 48, hd.o48.1) ::
  (nat_lit 54, { cls := Value.type "code", data := Data.fields #[Value.str (Str.ofString "ztrim") 241, Value.str (Str.ofString "ztrim") 242, Value.str (Str.ofString "/claim/cut.py") 243, Value.int 20 0, Value.int 1 0, Value.int 0 0, Value.int 0 0, Value.int 3 0, Value.ref 49, Value.bool true, Value.int 181 0, Value.ref 50, Value.none, Value.ref 51, Value.ref 52, Value.ref 53, Value.int 246 0, Value.int 20 0, Value.str (Str.ofString "/claim/cut.py") 247] }) ::
  (nat_lit 55, hd.o55.1) ::
  (nat_lit 61, { cls := Value.type "code", data := Data.fields #[Value.str (Str.ofString "zdegree") 249, Value.str (Str.ofString "zdegree") 250, Value.str (Str.ofString "/claim/cut.py") 251, Value.int 25 0, Value.int 1 0, Value.int 0 0, Value.int 0 0, Value.int 3 0, Value.ref 56, Value.bool true, Value.int 181 0, Value.ref 57, Value.none, Value.ref 58, Value.ref 59, Value.ref 60, Value.int 253 0, Value.int 25 0, Value.str (Str.ofString "/claim/cut.py") 254] }) ::
  (nat_lit 62, hd.o62.1) ::
  (nat_lit 68, { cls := Value.type "code", data := Data.fields #[Value.str (Str.ofString "zlead") 256, Value.str (Str.ofString "zlead") 257, Value.str (Str.ofString "/claim/cut.py") 258, Value.int 27 0, Value.int 1 0, Value.int 0 0, Value.int 0 0, Value.int 3 0, Value.ref 63, Value.bool true, Value.int 181 0, Value.ref 64, Value.none, Value.ref 65, Value.ref 66, Value.ref 67, Value.int 260 0, Value.int 27 0, Value.str (Str.ofString "/claim/cut.py") 261] }) ::
  (nat_lit 69, hd.o69.1) ::
  (nat_lit 73, { cls := Value.type "code", data := Data.fields #[Value.str (Str.ofString "zadd") 263, Value.str (Str.ofString "zadd") 264, Value.str (Str.ofString "/claim/cut.py") 265, Value.int 29 0, Value.int 2 0, Value.int 0 0, Value.int 0 0, Value.int 3 0, Value.ref 70, Value.bool true, Value.int 181 0, Value.ref 71, Value.none, Value.none, Value.none, Value.ref 72, Value.int 266 0, Value.int 29 0, Value.str (Str.ofString "/claim/cut.py") 267] }) ::
  (nat_lit 74, hd.o74.1) ::
  (nat_lit 78, { cls := Value.type "code", data := Data.fields #[Value.str (Str.ofString "zneg") 269, Value.str (Str.ofString "zneg") 270, Value.str (Str.ofString "/claim/cut.py") 271, Value.int 32 0, Value.int 1 0, Value.int 0 0, Value.int 0 0, Value.int 3 0, Value.ref 75, Value.bool true, Value.int 181 0, Value.ref 76, Value.none, Value.none, Value.none, Value.ref 77, Value.int 272 0, Value.int 32 0, Value.str (Str.ofString "/claim/cut.py") 273] }) ::
  (nat_lit 79, hd.o79.1) ::
  (nat_lit 85, { cls := Value.type "code", data := Data.fields #[Value.str (Str.ofString "zsub") 275, Value.str (Str.ofString "zsub") 276, Value.str (Str.ofString "/claim/cut.py") 277, Value.int 34 0, Value.int 2 0, Value.int 0 0, Value.int 0 0, Value.int 3 0, Value.ref 80, Value.bool true, Value.int 181 0, Value.ref 81, Value.none, Value.ref 82, Value.ref 83, Value.ref 84, Value.int 280 0, Value.int 34 0, Value.str (Str.ofString "/claim/cut.py") 281] }) ::
  (nat_lit 86, hd.o86.1) ::
  (nat_lit 90, { cls := Value.type "code", data := Data.fields #[Value.str (Str.ofString "zscale") 283, Value.str (Str.ofString "zscale") 284, Value.str (Str.ofString "/claim/cut.py") 285, Value.int 36 0, Value.int 2 0, Value.int 0 0, Value.int 0 0, Value.int 3 0, Value.ref 87, Value.bool true, Value.int 181 0, Value.ref 88, Value.none, Value.none, Value.none, Value.ref 89, Value.int 286 0, Value.int 36 0, Value.str (Str.ofString "/claim/cut.py") 287] }) ::
  (nat_lit 91, hd.o91.1) ::
  (nat_lit 97, { cls := Value.type "code", data := Data.fields #[Value.str (Str.ofString "zraise") 289, Value.str (Str.ofString "zraise") 290, Value.str (Str.ofString "/claim/cut.py") 291, Value.int 38 0, Value.int 2 0, Value.int 0 0, Value.int 0 0, Value.int 3 0, Value.ref 92, Value.bool true, Value.int 181 0, Value.ref 93, Value.none, Value.ref 94, Value.ref 95, Value.ref 96, Value.int 294 0, Value.int 38 0, Value.str (Str.ofString "/claim/cut.py") 295] }) ::
  (nat_lit 98, hd.o98.1) ::
  (nat_lit 104, { cls := Value.type "code", data := Data.fields #[Value.str (Str.ofString "zmul") 297, Value.str (Str.ofString "zmul") 298, Value.str (Str.ofString "/claim/cut.py") 299, Value.int 40 0, Value.int 2 0, Value.int 0 0, Value.int 0 0, Value.int 3 0, Value.ref 99, Value.bool true, Value.int 181 0, Value.ref 100, Value.none, Value.ref 101, Value.ref 102, Value.ref 103, Value.int 307 0, Value.int 40 0, Value.str (Str.ofString "/claim/cut.py") 308] }) ::
  (nat_lit 105, hd.o105.1) ::
  (nat_lit 111, { cls := Value.type "code", data := Data.fields #[Value.str (Str.ofString "zcontent") 310, Value.str (Str.ofString "zcontent") 311, Value.str (Str.ofString "/claim/cut.py") 312, Value.int 49 0, Value.int 1 0, Value.int 0 0, Value.int 0 0, Value.int 3 0, Value.ref 106, Value.bool true, Value.int 181 0, Value.ref 107, Value.none, Value.ref 108, Value.ref 109, Value.ref 110, Value.int 314 0, Value.int 49 0, Value.str (Str.ofString "/claim/cut.py") 315] }) ::
  (nat_lit 112, hd.o112.1) ::
  (nat_lit 116, { cls := Value.type "code", data := Data.fields #[Value.str (Str.ofString "zdivided") 317, Value.str (Str.ofString "zdivided") 318, Value.str (Str.ofString "/claim/cut.py") 319, Value.int 51 0, Value.int 2 0, Value.int 0 0, Value.int 0 0, Value.int 3 0, Value.ref 113, Value.bool true, Value.int 181 0, Value.ref 114, Value.none, Value.none, Value.none, Value.ref 115, Value.int 320 0, Value.int 51 0, Value.str (Str.ofString "/claim/cut.py") 321] }) ::
  (nat_lit 117, hd.o117.1) ::
  (nat_lit 123, { cls := Value.type "code", data := Data.fields #[Value.str (Str.ofString "zprimitive") 323, Value.str (Str.ofString "zprimitive") 324, Value.str (Str.ofString "/claim/cut.py") 325, Value.int 53 0, Value.int 1 0, Value.int 0 0, Value.int 0 0, Value.int 3 0, Value.ref 118, Value.bool true, Value.int 181 0, Value.ref 119, Value.none, Value.ref 120, Value.ref 121, Value.ref 122, Value.int 328 0, Value.int 53 0, Value.str (Str.ofString "/claim/cut.py") 329] }) ::
  (nat_lit 124, hd.o124.1) ::
  (nat_lit 128, { cls := Value.type "code", data := Data.fields #[Value.str (Str.ofString "zderive") 331, Value.str (Str.ofString "zderive") 332, Value.str (Str.ofString "/claim/cut.py") 333, Value.int 58 0, Value.int 1 0, Value.int 0 0, Value.int 0 0, Value.int 3 0, Value.ref 125, Value.bool true, Value.int 181 0, Value.ref 126, Value.none, Value.none, Value.none, Value.ref 127, Value.int 334 0, Value.int 58 0, Value.str (Str.ofString "/claim/cut.py") 335] }) ::
  (nat_lit 129, hd.o129.1) ::
  (nat_lit 135, { cls := Value.type "code", data := Data.fields #[Value.str (Str.ofString "check_bottom") 339, Value.str (Str.ofString "check_bottom") 340, Value.str (Str.ofString "/claim/cut.py") 341, Value.int 61 0, Value.int 1 0, Value.int 0 0, Value.int 0 0, Value.int 3 0, Value.ref 130, Value.bool true, Value.int 181 0, Value.ref 131, Value.none, Value.ref 132, Value.ref 133, Value.ref 134, Value.int 343 0, Value.int 61 0, Value.str (Str.ofString "/claim/cut.py") 344] }) ::
  (nat_lit 136, hd.o136.1) ::
  (nat_lit 142, { cls := Value.type "code", data := Data.fields #[Value.str (Str.ofString "zexact") 346, Value.str (Str.ofString "zexact") 347, Value.str (Str.ofString "/claim/cut.py") 348, Value.int 64 0, Value.int 2 0, Value.int 0 0, Value.int 0 0, Value.int 3 0, Value.ref 137, Value.bool true, Value.int 181 0, Value.ref 138, Value.none, Value.ref 139, Value.ref 140, Value.ref 141, Value.int 355 0, Value.int 64 0, Value.str (Str.ofString "/claim/cut.py") 356] }) ::
  (nat_lit 143, hd.o143.1) ::
  (nat_lit 149, { cls := Value.type "code", data := Data.fields #[Value.str (Str.ofString "pseudo") 358, Value.str (Str.ofString "pseudo") 359, Value.str (Str.ofString "/claim/cut.py") 360, Value.int 74 0, Value.int 2 0, Value.int 0 0, Value.int 0 0, Value.int 3 0, Value.ref 144, Value.bool true, Value.int 181 0, Value.ref 145, Value.none, Value.ref 146, Value.ref 147, Value.ref 148, Value.int 371 0, Value.int 74 0, Value.str (Str.ofString "/claim/cut.py") 372] }) ::
  (nat_lit 150, hd.o150.1) ::
  (nat_lit 156, { cls := Value.type "code", data := Data.fields #[Value.str (Str.ofString "zpseudo_rest") 374, Value.str (Str.ofString "zpseudo_rest") 375, Value.str (Str.ofString "/claim/cut.py") 376, Value.int 85 0, Value.int 2 0, Value.int 0 0, Value.int 0 0, Value.int 3 0, Value.ref 151, Value.bool true, Value.int 181 0, Value.ref 152, Value.none, Value.ref 153, Value.ref 154, Value.ref 155, Value.int 379 0, Value.int 85 0, Value.str (Str.ofString "/claim/cut.py") 380] }) ::
  (nat_lit 157, hd.o157.1) ::
  (nat_lit 163, { cls := Value.type "code", data := Data.fields #[Value.str (Str.ofString "next_height") 384, Value.str (Str.ofString "next_height") 385, Value.str (Str.ofString "/claim/cut.py") 386, Value.int 88 0, Value.int 3 0, Value.int 0 0, Value.int 0 0, Value.int 3 0, Value.ref 158, Value.bool true, Value.int 181 0, Value.ref 159, Value.none, Value.ref 160, Value.ref 161, Value.ref 162, Value.int 390 0, Value.int 88 0, Value.str (Str.ofString "/claim/cut.py") 391] }) ::
  (nat_lit 164, hd.o164.1) ::
  (nat_lit 170, { cls := Value.type "code", data := Data.fields #[Value.str (Str.ofString "subresultants") 393, Value.str (Str.ofString "subresultants") 394, Value.str (Str.ofString "/claim/cut.py") 395, Value.int 92 0, Value.int 2 0, Value.int 0 0, Value.int 0 0, Value.int 3 0, Value.ref 165, Value.bool true, Value.int 181 0, Value.ref 166, Value.none, Value.ref 167, Value.ref 168, Value.ref 169, Value.int 403 0, Value.int 92 0, Value.str (Str.ofString "/claim/cut.py") 404] }) ::
  (nat_lit 171, hd.o171.1) ::
  (nat_lit 177, { cls := Value.type "code", data := Data.fields #[Value.str (Str.ofString "zgcd") 406, Value.str (Str.ofString "zgcd") 407, Value.str (Str.ofString "/claim/cut.py") 408, Value.int 106 0, Value.int 2 0, Value.int 0 0, Value.int 0 0, Value.int 3 0, Value.ref 172, Value.bool true, Value.int 181 0, Value.ref 173, Value.none, Value.ref 174, Value.ref 175, Value.ref 176, Value.int 414 0, Value.int 106 0, Value.str (Str.ofString "/claim/cut.py") 415] }) ::
  (nat_lit 178, hd.o178.1) ::
  (nat_lit 184, { cls := Value.type "code", data := Data.fields #[Value.str (Str.ofString "is_square_free") 419, Value.str (Str.ofString "is_square_free") 420, Value.str (Str.ofString "/claim/cut.py") 421, Value.int 114 0, Value.int 1 0, Value.int 0 0, Value.int 0 0, Value.int 3 0, Value.ref 179, Value.bool true, Value.int 181 0, Value.ref 180, Value.none, Value.ref 181, Value.ref 182, Value.ref 183, Value.int 423 0, Value.int 114 0, Value.str (Str.ofString "/claim/cut.py") 424] }) ::
  (nat_lit 185, hd.o185.1) ::
  (nat_lit 191, { cls := Value.type "code", data := Data.fields #[Value.str (Str.ofString "square_free_part") 426, Value.str (Str.ofString "square_free_part") 427, Value.str (Str.ofString "/claim/cut.py") 428, Value.int 116 0, Value.int 1 0, Value.int 0 0, Value.int 0 0, Value.int 3 0, Value.ref 186, Value.bool true, Value.int 181 0, Value.ref 187, Value.none, Value.ref 188, Value.ref 189, Value.ref 190, Value.int 431 0, Value.int 116 0, Value.str (Str.ofString "/claim/cut.py") 432] }) ::
  (nat_lit 192, hd.o192.1) ::
  (nat_lit 198, { cls := Value.type "code", data := Data.fields #[Value.str (Str.ofString "yun") 434, Value.str (Str.ofString "yun") 435, Value.str (Str.ofString "/claim/cut.py") 436, Value.int 119 0, Value.int 1 0, Value.int 0 0, Value.int 0 0, Value.int 3 0, Value.ref 193, Value.bool true, Value.int 181 0, Value.ref 194, Value.none, Value.ref 195, Value.ref 196, Value.ref 197, Value.int 445 0, Value.int 119 0, Value.str (Str.ofString "/claim/cut.py") 446] }) ::
  (nat_lit 199, hd.o199.1) ::
  (nat_lit 205, { cls := Value.type "code", data := Data.fields #[Value.str (Str.ofString "product_of") 448, Value.str (Str.ofString "product_of") 449, Value.str (Str.ofString "/claim/cut.py") 450, Value.int 134 0, Value.int 1 0, Value.int 0 0, Value.int 0 0, Value.int 3 0, Value.ref 200, Value.bool true, Value.int 181 0, Value.ref 201, Value.none, Value.ref 202, Value.ref 203, Value.ref 204, Value.int 456 0, Value.int 134 0, Value.str (Str.ofString "/claim/cut.py") 457] }) ::
  (nat_lit 206, hd.o206.1) ::
  (nat_lit 212, { cls := Value.type "code", data := Data.fields #[Value.str (Str.ofString "_law_next") 461, Value.str (Str.ofString "_law_next") 462, Value.str (Str.ofString "/claim/cut.py") 463, Value.int 141 0, Value.int 1 0, Value.int 0 0, Value.int 0 0, Value.int 3 0, Value.ref 207, Value.bool true, Value.int 181 0, Value.ref 208, Value.none, Value.ref 209, Value.ref 210, Value.ref 211, Value.int 465 0, Value.int 141 0, Value.str (Str.ofString "/claim/cut.py") 466] }) ::
  (nat_lit 213, hd.o213.1) ::
  (nat_lit 217, { cls := Value.type "code", data := Data.fields #[Value.str (Str.ofString "_law_box") 468, Value.str (Str.ofString "_law_box") 469, Value.str (Str.ofString "/claim/cut.py") 470, Value.int 145 0, Value.int 1 0, Value.int 0 0, Value.int 0 0, Value.int 3 0, Value.ref 214, Value.bool true, Value.int 181 0, Value.ref 215, Value.none, Value.none, Value.none, Value.ref 216, Value.int 471 0, Value.int 145 0, Value.str (Str.ofString "/claim/cut.py") 472] }) ::
  (nat_lit 218, hd.o218.1) ::
  (nat_lit 224, { cls := Value.type "code", data := Data.fields #[Value.str (Str.ofString "_law_times") 474, Value.str (Str.ofString "_law_times") 475, Value.str (Str.ofString "/claim/cut.py") 476, Value.int 147 0, Value.int 2 0, Value.int 0 0, Value.int 0 0, Value.int 3 0, Value.ref 219, Value.bool true, Value.int 181 0, Value.ref 220, Value.none, Value.ref 221, Value.ref 222, Value.ref 223, Value.int 484 0, Value.int 147 0, Value.str (Str.ofString "/claim/cut.py") 485] }) ::
  (nat_lit 225, hd.o225.1) ::
  (nat_lit 231, { cls := Value.type "code", data := Data.fields #[Value.str (Str.ofString "_law_trim") 487, Value.str (Str.ofString "_law_trim") 488, Value.str (Str.ofString "/claim/cut.py") 489, Value.int 153 0, Value.int 1 0, Value.int 0 0, Value.int 0 0, Value.int 3 0, Value.ref 226, Value.bool true, Value.int 181 0, Value.ref 227, Value.none, Value.ref 228, Value.ref 229, Value.ref 230, Value.int 491 0, Value.int 153 0, Value.str (Str.ofString "/claim/cut.py") 492] }) ::
  (nat_lit 232, hd.o232.1) ::
  (nat_lit 236, { cls := Value.type "code", data := Data.fields #[Value.str (Str.ofString "_law_rest") 494, Value.str (Str.ofString "_law_rest") 495, Value.str (Str.ofString "/claim/cut.py") 496, Value.int 157 0, Value.int 2 0, Value.int 0 0, Value.int 0 0, Value.int 3 0, Value.ref 233, Value.bool true, Value.int 181 0, Value.ref 234, Value.none, Value.none, Value.none, Value.ref 235, Value.int 497 0, Value.int 157 0, Value.str (Str.ofString "/claim/cut.py") 498] }) ::
  (nat_lit 237, hd.o237.1) ::
  (nat_lit 241, { cls := Value.type "code", data := Data.fields #[Value.str (Str.ofString "_law_small") 500, Value.str (Str.ofString "_law_small") 501, Value.str (Str.ofString "/claim/cut.py") 502, Value.int 164 0, Value.int 1 0, Value.int 0 0, Value.int 0 0, Value.int 3 0, Value.ref 238, Value.bool true, Value.int 181 0, Value.ref 239, Value.none, Value.none, Value.none, Value.ref 240, Value.int 503 0, Value.int 164 0, Value.str (Str.ofString "/claim/cut.py") 504] }) ::
  (nat_lit 242, hd.o242.1) ::
  (nat_lit 248, { cls := Value.type "code", data := Data.fields #[Value.str (Str.ofString "_law_apart") 506, Value.str (Str.ofString "_law_apart") 507, Value.str (Str.ofString "/claim/cut.py") 508, Value.int 172 0, Value.int 2 0, Value.int 0 0, Value.int 0 0, Value.int 3 0, Value.ref 243, Value.bool true, Value.int 181 0, Value.ref 244, Value.none, Value.ref 245, Value.ref 246, Value.ref 247, Value.int 511 0, Value.int 172 0, Value.str (Str.ofString "/claim/cut.py") 512] }) ::
  (nat_lit 249, hd.o249.1) ::
  (nat_lit 253, { cls := Value.type "code", data := Data.fields #[Value.str (Str.ofString "_law_slope") 514, Value.str (Str.ofString "_law_slope") 515, Value.str (Str.ofString "/claim/cut.py") 516, Value.int 176 0, Value.int 1 0, Value.int 0 0, Value.int 0 0, Value.int 3 0, Value.ref 250, Value.bool true, Value.int 181 0, Value.ref 251, Value.none, Value.none, Value.none, Value.ref 252, Value.int 517 0, Value.int 176 0, Value.str (Str.ofString "/claim/cut.py") 518] }) ::
  (nat_lit 254, hd.o254.1) ::
  (nat_lit 258, { cls := Value.type "code", data := Data.fields #[Value.str (Str.ofString "_law_piece") 520, Value.str (Str.ofString "_law_piece") 521, Value.str (Str.ofString "/claim/cut.py") 522, Value.int 178 0, Value.int 1 0, Value.int 0 0, Value.int 0 0, Value.int 3 0, Value.ref 255, Value.bool true, Value.int 181 0, Value.ref 256, Value.none, Value.none, Value.none, Value.ref 257, Value.int 523 0, Value.int 178 0, Value.str (Str.ofString "/claim/cut.py") 524] }) ::
  (nat_lit 259, hd.o259.1) ::
  (nat_lit 263, { cls := Value.type "code", data := Data.fields #[Value.str (Str.ofString "law") 526, Value.str (Str.ofString "law") 527, Value.str (Str.ofString "/claim/cut.py") 528, Value.int 181 0, Value.int 1 0, Value.int 0 0, Value.int 0 0, Value.int 3 0, Value.ref 260, Value.bool true, Value.int 181 0, Value.ref 261, Value.none, Value.none, Value.none, Value.ref 262, Value.int 529 0, Value.int 181 0, Value.str (Str.ofString "/claim/cut.py") 530] }) ::
  (nat_lit 264, hd.o264.1) :: []
noncomputable def hd.keys : List Addr := [3, 40, 41, 47, 48, 54, 55, 61, 62, 68, 69, 73, 74, 78, 79, 85, 86, 90, 91, 97, 98, 104, 105, 111, 112, 116, 117, 123, 124, 128, 129, 135, 136, 142, 143, 149, 150, 156, 157, 163, 164, 170, 171, 177, 178, 184, 185, 191, 192, 198, 199, 205, 206, 212, 213, 217, 218, 224, 225, 231, 232, 236, 237, 241, 242, 248, 249, 253, 254, 258, 259, 263, 264]
noncomputable abbrev hd.hook : Hook := kHook hd.heap_39 hd.keys (fun _ => by kernel_rfl)
end Mine
end

section
/-! the part HdL -/
open PySem PySem.W PyProof.Rows
set_option maxRecDepth 100000
set_option maxHeartbeats 8000000
namespace Mine
/-! the top's run in pieces: its states are functions of the defs made so far -/
noncomputable def hd.tup (l : List Value) : Obj := { cls := .type "tuple", data := .seq ⟨l⟩ }
noncomputable def hd.fld (c : Value) (l : List Value) : Obj := { cls := c, data := .fields ⟨l⟩ }
noncomputable def hd.ent (P : Params) (s : Str) (t : Tok) (v : Value) : DictEntry := { hash := PyData.keyHash P s, key := .str s t, val := v }
noncomputable def hd.dic (c : Value) (l : List DictEntry) (n : Nat) : Obj := { cls := c, data := .dict ⟨l⟩ n }
noncomputable def hd.fra (c l : Addr) (m : Str) (t : Tok) : Obj := { cls := .type "frame", slots := #[some (.ref c), some (.ref 3), some (.ref l), none, some (.str m t), none, some (.ref 0)] }
noncomputable def hd.cod (n q : Str) (t line argc k a b : Nat) (fast : Bool) (x y z : Value) (u : Nat) : Obj :=
  hd.fld (.type "code") [.str n t, .str q (t + 1), .str "/claim/cut.py" (t + 2), .int line 0, .int argc 0, .int 0 0, .int 0 0, .int k 0, .ref a, .bool fast, .int 181 0, .ref b, .none, x, y, z, .int u 0, .int line 0, .str "/claim/cut.py" (u + 1)]
noncomputable def hd.loc : List Str → Nat → List Value
  | [], _ => []
  | s :: l, t => .str s t :: hd.loc l (t + 1)
noncomputable def hd.fun_ (q : Option Str) (st : Option Stmt) (c t : Nat) (ls : List Str) (pm : Str) (tk : Tok) : List Obj := match st with
  | some (.FunctionDef n a b _ _ _ s _ _ pos) =>
    (match ls with
      | [] => [hd.tup [], hd.fld .none [], { cls := .none, data := .func { name := n, qualname := q.getD n, params := a, body := .stmts b, scope := s, globals := 0, closure := [], defaults := .none, kwdefaults := .none } },
          hd.cod n (q.getD n) t pos.line a.args.length 3 (c - 3) (c - 2) true .none .none (.ref (c - 1)) (t + 3)]
      | _ => [hd.tup [], hd.fld .none [], hd.tup (hd.loc ls (t + 3)), hd.tup [], { cls := .none, data := .func { name := n, qualname := q.getD n, params := a, body := .stmts b, scope := s, globals := 0, closure := [], defaults := .none, kwdefaults := .none } },
          hd.cod n (q.getD n) t pos.line a.args.length 3 (c - 5) (c - 4) true (.ref (c - 3)) (.ref (c - 2)) (.ref (c - 1)) (t + 3 + ls.length)]) ++
    [{ cls := .type "function", data := .func { name := n, qualname := q.getD n, params := a, body := .stmts b, scope := s, globals := 3, closure := [], defaults := .none, kwdefaults := .none, pyModule := .str pm tk, code := .ref c } }]
  | _ => []
noncomputable def hd.nameAt (i : Nat) : Str := match hd.stmtAt i with
  | some (.FunctionDef n _ _ _ _ _ _ _ _ _) => n
  | _ => ""
noncomputable def hd.posAt (i : Nat) : Pos := match hd.stmtAt i with
  | some (.FunctionDef _ _ _ _ _ _ _ _ _ p) => p
  | some (.ClassDef _ _ _ _ _ _ _ _ _ _ p) => p
  | _ => ⟨nat_lit 0, nat_lit 0, nat_lit 0, nat_lit 0⟩
noncomputable def hd.init : Option Stmt := match hd.stmtAt 1 with
  | some (.ClassDef _ _ _ b _ _ _ _ _ _ _) => b.head?
  | _ => none
/-- a def: its code's address, its place in the text, its first token, its local names, its module's name and that name's token -/
abbrev hd.Row := Nat × Nat × Nat × List Str × Str × Nat
noncomputable def hd.row (c i t : Nat) (ls : List Str) (m : Str) (k : Nat) : hd.Row := (c, i, t, ls, m, k)
noncomputable def hd.tab : List hd.Row :=
  hd.row (nat_lit 40) (nat_lit 3) (nat_lit 222) ["a", "b"] "cas.ints" (nat_lit 220) ::
  hd.row (nat_lit 47) (nat_lit 4) (nat_lit 230) ["numbers", "found", "number"] "cas.ints" (nat_lit 220) ::
  hd.row (nat_lit 54) (nat_lit 6) (nat_lit 241) ["row", "size"] "cas.zpoly" (nat_lit 239) ::
  hd.row (nat_lit 61) (nat_lit 7) (nat_lit 249) ["p"] "cas.zpoly" (nat_lit 239) ::
  hd.row (nat_lit 68) (nat_lit 8) (nat_lit 256) ["p"] "cas.zpoly" (nat_lit 239) ::
  hd.row (nat_lit 73) (nat_lit 9) (nat_lit 263) [] "cas.zpoly" (nat_lit 239) ::
  hd.row (nat_lit 78) (nat_lit 10) (nat_lit 269) [] "cas.zpoly" (nat_lit 239) ::
  hd.row (nat_lit 85) (nat_lit 11) (nat_lit 275) ["a", "b"] "cas.zpoly" (nat_lit 239) ::
  hd.row (nat_lit 90) (nat_lit 12) (nat_lit 283) [] "cas.zpoly" (nat_lit 239) ::
  hd.row (nat_lit 97) (nat_lit 13) (nat_lit 289) ["p", "many"] "cas.zpoly" (nat_lit 239) ::
  hd.row (nat_lit 104) (nat_lit 14) (nat_lit 297) ["a", "b", "found", "one", "left", "other", "right"] "cas.zpoly" (nat_lit 239) ::
  hd.row (nat_lit 111) (nat_lit 15) (nat_lit 310) ["p"] "cas.zpoly" (nat_lit 239) ::
  hd.row (nat_lit 116) (nat_lit 16) (nat_lit 317) [] "cas.zpoly" (nat_lit 239) ::
  hd.row (nat_lit 123) (nat_lit 17) (nat_lit 323) ["p", "content"] "cas.zpoly" (nat_lit 239) ::
  hd.row (nat_lit 128) (nat_lit 18) (nat_lit 331) [] "cas.zpoly" (nat_lit 239) ::
  hd.row (nat_lit 135) (nat_lit 20) (nat_lit 339) ["p"] "cas.zdiv" (nat_lit 337) ::
  hd.row (nat_lit 142) (nat_lit 21) (nat_lit 346) ["a", "b", "rest", "found", "number", "power"] "cas.zdiv" (nat_lit 337) ::
  hd.row (nat_lit 149) (nat_lit 22) (nat_lit 358) ["a", "b", "many", "rest", "found", "left", "first", "number", "power", "more"] "cas.zdiv" (nat_lit 337) ::
  hd.row (nat_lit 156) (nat_lit 23) (nat_lit 374) ["a", "b"] "cas.zdiv" (nat_lit 337) ::
  hd.row (nat_lit 163) (nat_lit 25) (nat_lit 384) ["front", "step", "height"] "cas.zgcd" (nat_lit 382) ::
  hd.row (nat_lit 170) (nat_lit 26) (nat_lit 393) ["a", "b", "row", "front", "height", "step", "rest"] "cas.zgcd" (nat_lit 382) ::
  hd.row (nat_lit 177) (nat_lit 27) (nat_lit 406) ["a", "b", "only", "number", "last"] "cas.zgcd" (nat_lit 382) ::
  hd.row (nat_lit 184) (nat_lit 29) (nat_lit 419) ["p"] "cas.squarefree" (nat_lit 417) ::
  hd.row (nat_lit 191) (nat_lit 30) (nat_lit 426) ["p", "whole"] "cas.squarefree" (nat_lit 417) ::
  hd.row (nat_lit 198) (nat_lit 31) (nat_lit 434) ["p", "found", "whole", "common", "left", "rest", "many", "part"] "cas.squarefree" (nat_lit 417) ::
  hd.row (nat_lit 205) (nat_lit 32) (nat_lit 448) ["pairs", "found", "part", "many", "turn"] "cas.squarefree" (nat_lit 417) ::
  hd.row (nat_lit 212) (nat_lit 34) (nat_lit 461) ["box"] "law_pq0216_01" (nat_lit 459) ::
  hd.row (nat_lit 217) (nat_lit 35) (nat_lit 468) [] "law_pq0216_01" (nat_lit 459) ::
  hd.row (nat_lit 224) (nat_lit 36) (nat_lit 474) ["a", "b", "row", "one", "left", "other", "right"] "law_pq0216_01" (nat_lit 459) ::
  hd.row (nat_lit 231) (nat_lit 37) (nat_lit 487) ["row"] "law_pq0216_01" (nat_lit 459) ::
  hd.row (nat_lit 236) (nat_lit 38) (nat_lit 494) [] "law_pq0216_01" (nat_lit 459) ::
  hd.row (nat_lit 241) (nat_lit 39) (nat_lit 500) [] "law_pq0216_01" (nat_lit 459) ::
  hd.row (nat_lit 248) (nat_lit 40) (nat_lit 506) ["a", "b"] "law_pq0216_01" (nat_lit 459) ::
  hd.row (nat_lit 253) (nat_lit 41) (nat_lit 514) [] "law_pq0216_01" (nat_lit 459) ::
  hd.row (nat_lit 258) (nat_lit 42) (nat_lit 520) [] "law_pq0216_01" (nat_lit 459) ::
  hd.row (nat_lit 263) (nat_lit 43) (nat_lit 526) [] "law_pq0216_01" (nat_lit 459) :: []
noncomputable def hd.dictOf (P : Params) (l : List hd.Row) (m : Str) (k : Nat) : Obj := hd.dic (.type "dict") ([hd.ent P "__name__" 165 (.str m k), hd.ent P "__doc__" 166 .none, hd.ent P "__package__" 167 .none, hd.ent P "__loader__" 168 (.builtin "__main__.__loader__#opaque"), hd.ent P "__spec__" 169 .none, hd.ent P "__annotations__" 170 (.ref 6), hd.ent P "__builtins__" 171 (.ref 4), hd.ent P "__file__" 173 (.str "/claim/cut.py" 172), hd.ent P "__cached__" 174 .none, hd.ent P "CasFail" 219 (.ref 31)] ++
  l.map fun r => hd.ent P (hd.nameAt r.2.1) (r.2.2.1 + 5 + r.2.2.2.1.length) (.ref (r.1 + 1))) (10 + l.length)
noncomputable def hd.lineOf (l : List hd.Row) : Obj := hd.fld .none ([.int 2 0, .int 0 0, .ref 20] ++ l.flatMap fun r => [.int (hd.posAt r.2.1).line 0, .int 0 0, .ref r.1])
noncomputable def hd.top (P : Params) (a b c : Obj) : List Obj := [boot_o_0 P, boot_o_1 P, a, b, boot_o_4 P, boot_o_5 P, boot_o_6 P, boot_o_7 P, boot_o_8 P, boot_o_9 P, boot_o_10 P, hd.tup [], c, hd.cod "<module>" "<module>" 182 1 0 0 11 12 false .none .none .none 185, hd.fra 13 3 "__main__" 164]
noncomputable def hd.cls (P : Params) : List Obj := [hd.tup [.type "Exception"], hd.fld (.type "builtin_function_or_method") [.builtin "type.__prepare__", .type "type"],
  hd.dic (.type "dict") [hd.ent P "__module__" 196 (.str "cas.errors" 187), hd.ent P "__qualname__" 198 (.str "CasFail" 197), hd.ent P "__firstlineno__" 200 (.int 2 199), hd.ent P "__init__" 209 (.ref 28), hd.ent P "__static_attributes__" 212 (.ref 29)] 5,
  hd.tup [], hd.fld .none [.int 4 0, .int 4 0, .ref 27], hd.cod "CasFail" "CasFail" 191 2 0 0 18 19 false .none .none .none 194, hd.fra 20 17 "cas.errors" 187] ++
  hd.fun_ (some "CasFail.__init__") hd.init 27 201 ["self", "kind", "text"] "cas.errors" 187 ++
  [hd.tup [.str "kind" 210, .str "text" 211],
  hd.dic (.type "dict") [hd.ent P "__module__" 196 (.str "cas.errors" 187), hd.ent P "__firstlineno__" 200 (.int 2 199), hd.ent P "__init__" 209 (.ref 28), hd.ent P "__static_attributes__" 212 (.ref 29), hd.ent P "__weakref__" 214 (.ref 32), hd.ent P "__doc__" 215 .none] 3,
  { cls := .type "type", data := .cls { name := "CasFail", bases := [.type "Exception"], mro := [.ref 31, .type "Exception", .type "BaseException", .type "object"], ns := 30, qualname := "CasFail" }, slots := #[some (.ref 15), none, some (.str "CasFail" 189), some (.str "CasFail" 197), some (.builtin "Exception.__new__"), some (.bool true)] },
  hd.fld (.type "getset_descriptor") [.str "__weakref__" 213, .ref 31, .builtin "ExceptionGroup.__weakref__", .none], hd.fld (.type "super") [.ref 31, .ref 31, .ref 31], hd.fld (.type "builtin_function_or_method") [.builtin "object.__init_subclass__", .ref 31]]
noncomputable def hd.objs0 (P : Params) : List Obj := hd.top P (boot_o_2 P) (boot_o_3 P) (hd.fld .none [])
noncomputable def hd.objs (P : Params) (l : List hd.Row) (m : Str) (k : Nat) : List Obj :=
  hd.top P (hd.dic .none [hd.ent P "type.__subclasses__.Exception.0" 216 (.int 31 0), hd.ent P "type.__subclasses__.Exception.n" 217 (.int 1 0)] 2) (hd.dictOf P l m k) (hd.lineOf l) ++ hd.cls P ++
    l.flatMap fun r => hd.fun_ none (hd.stmtAt r.2.1) r.1 r.2.2.1 r.2.2.2.1 r.2.2.2.2.1 r.2.2.2.2.2
noncomputable def hd.grow : List Obj → Nat → BT → BT
  | [], _, t => t
  | o :: l, n, t => hd.grow l (n + 1) (t.ins n o)
noncomputable abbrev hd.p : Program := Challenge.rw_pq0216_01.row.prog
noncomputable def hd.env : Env := { scope := hd.p.main.scope, locals := mainNs, globals := mainNs, cells := [], code := .ref 13, frame := some 14 }
noncomputable def hd.cE : Code := .body (behindTheImports hd.p) hd.env
noncomputable abbrev hd.B : List Frame := [topFrame ⟨0, 0, 0, 0⟩]
noncomputable def hd.sts (i n : Nat) : List Stmt := ((behindTheImports hd.p).drop i).take n
noncomputable def hd.S0 (w : World) (os : OsState) : SharedT := ⟨hd.grow (hd.objs0 w.params) 0 .nil, 15, {}, #[], {}, 187, os⟩
noncomputable def hd.S (n t c : Nat) (m : Str) (k : Nat) (w : World) (os : OsState) : SharedT := ⟨hd.grow (hd.objs w.params (hd.tab.take n) m k) 0 .nil, c, {}, #[], {}, t, os⟩
noncomputable def hd.end_ (P : Params) : Heap := ⟨⟨hd.objs P hd.tab "law_pq0216_01" 459⟩, {}⟩
theorem hd.pre (w : World) (os : OsState) : topGo treeTable hd.p w 11 (some (.ref 6)) 12 ⟨boot_heap w.params, #[], boot_drawn, boot_toks, os⟩ (topStub hd.p) = some ((hd.S0 w os).abs, ⟨denote treeTable hd.cE, hd.cE, ⟨0, 0, 0, 0⟩, hd.B⟩) := by kernel_rfl
theorem hd.block (w : World) (os : OsState) : segRun treeTable hd.p w 11 (some (.ref 6)) 1 1 (hd.S0 w os).abs (blockOf (behindTheImports hd.p) hd.env hd.cE ⟨0, 0, 0, 0⟩ hd.B) = some (Flow.next, (hd.S0 w os).abs, hd.cE, ⟨0, 0, 0, 0⟩) := by kernel_rfl
theorem hd.run0 (w : World) (os : OsState) : segRunT treeTable hd.p w 11 (some (.ref 6)) 1 400 (hd.S0 w os) (piecesOf (hd.sts 0 2) hd.env hd.cE ⟨0, 0, 0, 0⟩ hd.B) = some (Flow.next, hd.S 0 220 35 "cas.errors" 187 w os, hd.cE, (hd.posAt 1)) := by first | (rw [PySem.W.Fast.te10110043849684766642, PySem.W.Fast.te14364793385576792824]; kernel_rfl) | kernel_rfl
theorem hd.run1 (w : World) (os : OsState) : segRunT treeTable hd.p w 11 (some (.ref 6)) 1 405 (hd.S 0 220 35 "cas.errors" 187 w os) (piecesOf (hd.sts 2 9) hd.env hd.cE (hd.posAt 1) hd.B) = some (Flow.next, hd.S 7 275 80 "cas.zpoly" 239 w os, hd.cE, (hd.posAt 10)) := by first | (rw [PySem.W.Fast.te10110043849684766642, PySem.W.Fast.te14364793385576792824]; kernel_rfl) | kernel_rfl
theorem hd.run2 (w : World) (os : OsState) : segRunT treeTable hd.p w 11 (some (.ref 6)) 1 315 (hd.S 7 275 80 "cas.zpoly" 239 w os) (piecesOf (hd.sts 11 7) hd.env hd.cE (hd.posAt 10) hd.B) = some (Flow.next, hd.S 14 331 125 "cas.zpoly" 239 w os, hd.cE, (hd.posAt 17)) := by first | (rw [PySem.W.Fast.te10110043849684766642, PySem.W.Fast.te14364793385576792824]; kernel_rfl) | kernel_rfl
theorem hd.run3 (w : World) (os : OsState) : segRunT treeTable hd.p w 11 (some (.ref 6)) 1 405 (hd.S 14 331 125 "cas.zpoly" 239 w os) (piecesOf (hd.sts 18 9) hd.env hd.cE (hd.posAt 17) hd.B) = some (Flow.next, hd.S 21 406 172 "cas.zgcd" 382 w os, hd.cE, (hd.posAt 26)) := by first | (rw [PySem.W.Fast.te10110043849684766642, PySem.W.Fast.te14364793385576792824]; kernel_rfl) | kernel_rfl
theorem hd.run4 (w : World) (os : OsState) : segRunT treeTable hd.p w 11 (some (.ref 6)) 1 405 (hd.S 21 406 172 "cas.zgcd" 382 w os) (piecesOf (hd.sts 27 9) hd.env hd.cE (hd.posAt 26) hd.B) = some (Flow.next, hd.S 28 474 219 "law_pq0216_01" 459 w os, hd.cE, (hd.posAt 35)) := by first | (rw [PySem.W.Fast.te10110043849684766642, PySem.W.Fast.te14364793385576792824]; kernel_rfl) | kernel_rfl
theorem hd.run5 (w : World) (os : OsState) : segRunT treeTable hd.p w 11 (some (.ref 6)) 1 360 (hd.S 28 474 219 "law_pq0216_01" 459 w os) (piecesOf (hd.sts 36 8) hd.env hd.cE (hd.posAt 35) hd.B) = some (Flow.next, hd.S 36 532 265 "law_pq0216_01" 459 w os, hd.cE, (hd.posAt 43)) := by first | (rw [PySem.W.Fast.te10110043849684766642, PySem.W.Fast.te14364793385576792824]; kernel_rfl) | kernel_rfl
theorem hd.fin (w : World) (os : OsState) : topRun treeTable hd.p w 11 (some (.ref 6)) 2 (hd.S 36 532 265 "law_pq0216_01" 459 w os).abs ⟨doneF Flow.next, hd.cE, (hd.posAt 43), hd.B⟩ = some ⟨hd.end_ w.params, #[], {}, 532, os⟩ := by kernel_rfl
theorem hd.whole : behindTheImports hd.p = hd.sts 0 2 ++ (hd.sts 2 9 ++ (hd.sts 11 7 ++ (hd.sts 18 9 ++ (hd.sts 27 9 ++ (hd.sts 36 8 ++ ([])))))) := by kernel_rfl
theorem hd.rest (w : World) (os : OsState) : topRun treeTable hd.p w 11 (some (.ref 6)) 2292 (hd.S0 w os).abs (restOf (behindTheImports hd.p) hd.env hd.cE ⟨0, 0, 0, 0⟩ hd.B) = some ⟨hd.end_ w.params, #[], {}, 532, os⟩ := by
  rw [hd.whole]
  refine piece_app (n := 400) (N := 1892) (segRun_of (hd.run0 w os)) ?_
  refine piece_app (n := 405) (N := 1487) (segRun_of (hd.run1 w os)) ?_
  refine piece_app (n := 315) (N := 1172) (segRun_of (hd.run2 w os)) ?_
  refine piece_app (n := 405) (N := 767) (segRun_of (hd.run3 w os)) ?_
  refine piece_app (n := 405) (N := 362) (segRun_of (hd.run4 w os)) ?_
  refine piece_app (n := 360) (N := 2) (segRun_of (hd.run5 w os)) ?_
  exact piece_nil (hd.fin w os)
theorem hd.run (w : World) (os : OsState) : topRun treeTable hd.p w 11 (some (.ref 6)) 2305 ⟨boot_heap w.params, #[], boot_drawn, boot_toks, os⟩ (topStub hd.p) = some ⟨hd.end_ w.params, #[], {}, 532, os⟩ :=
  go_top (n := 12) (N := 2293) (hd.pre w os) (piece_block (n := 1) (N := 2292) (hd.block w os) (hd.rest w os))
noncomputable abbrev hd.Xt (s : Shared) : Bool := xlAt hd.view_39 [] s && recOk (RowW.records Challenge.rw_pq0216_01.row.toRowW) s
noncomputable abbrev hd.E (w : World) (os : OsState) : Shared := ⟨hd.end_ w.params, #[], {}, 532, os⟩
theorem hd.l1 (w : World) (os : OsState) : seen ((recsOf hd.view_39).map (·.name)) (ownsOf hd.view_39) [] { hd.E w os with gens := #[] } = expectedOf hd.view_39 := by kernel_rfl
theorem hd.l2 (w : World) (os : OsState) : (hd.E w os).heap.bltView = bltViewBooted := by kernel_rfl
theorem hd.l3 (w : World) (os : OsState) : (hd.E w os).heap.keysOk (looseW hd.view_39 []) ((recsOf hd.view_39).map (·.name)) ((litsOf hd.view_39).map (·.1)) ((clssOf hd.view_39 (looseW hd.view_39 [])).map (·.name)) = true := by kernel_rfl
theorem hd.l3a (w : World) (os : OsState) : (hd.E w os).heap.accountedOkI (importedModules hd.p.main.body) = true := by kernel_rfl
theorem hd.l3b (w : World) (os : OsState) : ((hd.E w os).heap.isNs mainGlobals = true ∧ (hd.E w os).heap.isNs builtinsNs = true) ∧ tablesOk hd.view_39 (hd.E w os).heap = true := ⟨⟨by kernel_rfl, by kernel_rfl⟩, by kernel_rfl⟩
theorem hd.l3c (w : World) (os : OsState) : hd.Xt (hd.E w os) = true := by kernel_rfl
theorem hd.l4 (w : World) (os : OsState) : tabsOk hd.view_39 (hd.E w os) = true := by kernel_rfl
theorem hd.l5 (w : World) (os : OsState) : pinSeenD hd.view_39 (drecsOf hd.view_39) (hd.E w os) = pinGoodD (drecsOf hd.view_39) := by kernel_rfl
theorem hd.l6 (w : World) (os : OsState) : plainSeenE hd.view_39 (looseW hd.view_39 []) (hd.E w os) = plainGoodE hd.view_39 (looseW hd.view_39 []) := by kernel_rfl
theorem hd.l7 (w : World) (os : OsState) : plainSeenD hd.view_39 [] (hd.E w os) = plainGoodD hd.view_39 [] := by kernel_rfl
theorem hd.l8 (w : World) (os : OsState) : wideSeen hd.view_39 (hd.E w os) = wideGood hd.view_39 := by kernel_rfl
theorem hd.l9 (w : World) (os : OsState) : clsSeenW hd.view_39 [] (hd.E w os) = clsGoodW hd.view_39 [] := by kernel_rfl
theorem hd.seen (w : World) (os : OsState) : openSeen hd.view_39 [] (importedModules hd.p.main.body) hd.Xt true (hd.E w os) = openGood hd.view_39 [] := by
  unfold openSeen openGood
  exact looks_pair (hd.l1 w os) (looks_pair (hd.l2 w os) (looks_pair (look_both (look_both (look_both (look_both (look_both (look_both (hd.l3 w os) (hd.l3a w os)) (hd.l3b w os).1.1) (hd.l3b w os).1.2) (hd.l3b w os).2) (hd.l3c w os)) rfl)
    (looks_pair (hd.l4 w os) (looks_pair (hd.l5 w os) (looks_pair (hd.l6 w os) (looks_pair (hd.l7 w os) (looks_pair (hd.l8 w os) (hd.l9 w os))))))))
theorem hd.look (w : World) (os : OsState) : (staticsOk (importedModules hd.p.main.body) (boot_heap w.params) (hd.end_ w.params) && namesBound hd.p (hd.end_ w.params) && gensDone (hd.E w os) && laidKept (boot_heap w.params) (hd.end_ w.params)) = true := by kernel_rfl
theorem hd.obs (w : World) (os : OsState) : Hook.obs hd.hook (hd.E w os) = Hook.val hd.hook w := by kernel_rfl
theorem hd.boot (w : World) : (fencedOpening treeTable hd.p w 2852).map (fun s => (s.heap, s.gens, s.drawn, s.toks)) = some (boot_heap w.params, Array.mk [], boot_drawn, boot_toks) := boot_open (by kernel_rfl) (by kernel_rfl) (fun _ => by kernel_rfl) w
theorem hd.size (w : World) : ((boot_heap w.params).isNs mainGlobals && (#[] : Array GenState).size == 0, (boot_heap w.params).objs.size, (boot_heap w.params).nsMap mainGlobals "__annotations__") = (true, 11, some (.ref 6)) := by kernel_rfl
theorem hd.le : Nat.ble 2305 2852 = true := by kernel_rfl
theorem hd.left : LeftO Challenge.rw_pq0216_01.row.prog hd.view_39 [] (fun s => xlAt hd.view_39 [] s && recOk (RowW.records Challenge.rw_pq0216_01.row.toRowW) s) (Hook.obs hd.hook) (Hook.val hd.hook) 2852 :=
  LeftO.of_pieces (H₀ := boot_heap) (H₁ := hd.end_) (gs₀ := #[]) (gs₁ := #[]) (d₀ := boot_drawn) (d₁ := {}) (k₀ := boot_toks) (k₁ := 532) (m₀ := 11) (ann := some (.ref 6)) (M := 2305)
    hd.boot hd.size hd.run hd.le (fun w => funext fun os => looks_pair (hd.look w os) (looks_pair (hd.seen w os) (hd.obs w os)))
theorem hd.said : OpenLaw.wellSaid PySem.Challenge.rw_pq0216_01 = true := by
  unfold OpenLaw.wellSaid OpenRow.wellSaid OpenRow.partSaid looksOpen
  repeat' with_reducible refine look_both ?_ ?_
  all_goals decide +kernel
end Mine
end

section
/-! the part HdJ -/
open PySem PySem.W PyProof.Rows
set_option maxRecDepth 100000
set_option maxHeartbeats 8000000
namespace Mine
/-- the law's claim, but for what its walk must show -/
noncomputable def hd.openT : { P : Prop // P → PySem.Challenge.rw_pq0216_01.Holds } := by
  refine ⟨?P, fun hc => ?h⟩
  case h =>
    refine holds_law hd.said fun said => ?_
    refine holds_open (q := hd.view_39) (loose := []) (Xt := fun s => xlAt hd.view_39 [] s && recOk (RowW.records Challenge.rw_pq0216_01.row.toRowW) s) (XP := XL hd.view_39 []) (Yf := Hook.obs hd.hook) (Ya := Hook.val hd.hook) (YP := Hook.says hd.hook) (N := 2852) hd.left (Hook.of hd.hook) (Hook.keeps hd.hook)
      (fun s e => xl_of s (Bool.and_eq_true_iff.mp e).1) XL.keeps (by rfl) (by rfl) (by rfl) (fun s e => recFacts_of (Bool.and_eq_true_iff.mp e).2) (by rfl) (by first | assumption | decide +kernel) (by decide +kernel) ⟨rfl, rfl, rfl, rfl, rfl, by decide +kernel⟩ ?hw ?hc2
    case hw => w_witness2
    exact hc
end Mine
end

section
open PySem PySem.W PyProof.Rows PySem.Calls
set_option maxRecDepth 100000
set_option maxHeartbeats 8000000
namespace Mine

/-! the part Base -/
abbrev Ledger := List (Addr × Obj)


abbrev Ar (dp un : Nat) (fr : List Env) (gd : Option (List Code)) : Around := { handled := none, depth := dp, frames := some fr, guards := gd, units := un }
abbrev NoE : Value → Shared → Prop := fun _ _ => False
abbrev Tp (mean : ExcName → Option Value) (mg mb : Str → Option Value) (h : Heap) : Prop := Top Mine.hd.view_39 (looseW Mine.hd.view_39 []) mean mg mb h

/-- what a call of a def that keeps all that stood gives back -/
noncomputable def Pure (w : World) (f : Addr) (D : Nat) (vs : List Value) (h : Heap) (Post : Heap → Value → Prop) : Prop :=
  ∀ (mean : ExcName → Option Value) (mg mb : Str → Option Value) (dp un : Nat) (fr : List Env) (gd : Option (List Code)) (s : Shared) (Q : Value → Shared → Prop),
    (Mine.hd.heap_39 w.params).In h → Tp mean mg mb h → s.heap = h → dp + D < 800 → un + 3 * D < 9000 →
    (∀ r h' tk', h.StaysIn h' → Post h' r → Q r { s with heap := h', toks := tk' }) →
    wpAny (model PySem.Challenge.rw_pq0216_01.row.prog w) (Ar dp un fr gd) (call (.ref f) vs) Q NoE s

/-- a list of ints stands at a -/
noncomputable def LI (h : Heap) (a : Addr) (xs : List Int) : Prop := ∃ its n, h.get? a = some (listOf its n) ∧ IntsAre its.toList xs
theorem LI.keeps {h h' : Heap} {a : Addr} {xs : List Int} (H : LI h a xs) (k : ∀ b o, h.get? b = some o → h'.get? b = some o) : LI h' a xs :=
  let ⟨its, n, e, i⟩ := H; ⟨its, n, k _ _ e, i⟩
noncomputable def NewL (h h' : Heap) (r : Value) (ys : List Int) : Prop := ∃ a, r = .ref a ∧ h.get? a = none ∧ LI h' a ys

noncomputable def bmap : List (Str × Value) → Str → Option Value
  | [] => fun _ => none
  | (n, v) :: r => fun y => if y = n then some v else bmap r y
theorem bmap_eq : ∀ l : List (Str × Value), (fun y => l.lookup y) = bmap l
  | [] => rfl
  | (n, v) :: r => by
    funext y
    show (match y == n with | true => some v | false => List.lookup y r) = if y = n then some v else bmap r y
    rw [← bmap_eq r]
    by_cases e : y = n
    · subst e; simp
    · rw [if_neg e]
      have : (y == n) = false := by simpa using e
      rw [this]
theorem oA1 {a k n : Nat} (h : a + k < n) : a < n := Nat.lt_of_le_of_lt (Nat.le_add_right a k) h
theorem oA2 {a m j k n : Nat} (h : a + m < n) (e : Nat.ble (j + k) m = true) : a + j + k < n :=
  Nat.lt_of_le_of_lt (by rw [Nat.add_assoc]; exact Nat.add_le_add_left (Nat.le_of_ble_eq_true e) a) h
theorem oA3 {a c d : Nat} (h : a < c) (e : Nat.ble c d = true) : a < d := Nat.lt_of_lt_of_le h (Nat.le_of_ble_eq_true e)
theorem oA4 {a c d : Nat} (h : a < c) (e : Nat.ble c d = true) : a ≤ d := Nat.le_of_lt (oA3 h e)
theorem oA5 {a c d : Nat} (h : a ≤ c) (e : Nat.ble (c + 1) d = true) : a < d := Nat.lt_of_le_of_lt h (Nat.le_of_ble_eq_true e)
theorem oA6 {a c d : Nat} (h : a ≤ c) (e : Nat.ble c d = true) : a ≤ d := Nat.le_trans h (Nat.le_of_ble_eq_true e)
theorem zk1 {k : Int} {a b : Nat} (h : k < 0 + ((((if (b : Int) > a then (b : Int) else a) - 0).toNat : Nat) : Int)) (n : ¬ k < (a : Int)) : k < (b : Int) := by lia
theorem zk2 {k : Int} {a b : Nat} (h : k < 0 + ((((if (b : Int) > a then (b : Int) else a) - 0).toNat : Nat) : Int)) (n : ¬ k < (a : Int)) (e : b < 1000000) : k < 2 ^ 63 := by have := zk1 h n; lia
theorem zn1 (n : Nat) : (-1 + (n : Int)).toNat = n - 1 := by lia
theorem zn4 {a n : Nat} (h : a < n) : n = n - 1 + 1 := (Nat.sub_add_cancel (Nat.lt_of_le_of_lt (Nat.zero_le a) h)).symm
theorem zn5 {a b c d : Nat} (h1 : a ≤ b) (h2 : b < c) (e : Nat.ble c d = true) : a < d := oA3 (Nat.lt_of_le_of_lt h1 h2) e
theorem zn51 {a b c d : Nat} (h1 : a ≤ b) (h2 : b < c) (e : Nat.ble c d = true) : a ≤ d := oA4 (Nat.lt_of_le_of_lt h1 h2) e
theorem zn8 {a b n : Nat} (h1 : a < b) (h2 : b < n + 1) : a < n := Nat.lt_of_lt_of_le h1 (Nat.le_of_lt_succ h2)
theorem zn9 {i n : Nat} (h : i < n) : n + 1 - (i + 1) < n + 1 - i := Nat.sub_lt_sub_left (Nat.lt_succ_of_lt h) (Nat.lt_succ_self i)
/-- what stands around a body, as one datum -/
structure Ac where
  dp : Nat
  un : Nat
  fr : List Env
  gd : Option (List Code)
abbrev Ax (c : Ac) : Around := Ar c.dp c.un c.fr c.gd
theorem oA8 {a k m n : Nat} (h : a + m ≤ n) (e : Nat.ble (k + 1) m = true) : a + k < n := Nat.lt_of_lt_of_le (Nat.add_lt_add_left (Nat.le_of_ble_eq_true e) a) h
theorem oA9 {a k m : Nat} (h : a + m ≤ 9002) (e : Nat.ble (k + 3) m = true) : a + k < 9000 := by
  have := Nat.le_of_ble_eq_true e
  lia
theorem enter {w : World} {mean : ExcName → Option Value} {mg mb : Str → Option Value} {dp un : Nat} {fr : List Env} {gd : Option (List Code)} {s : Shared} {Q : Value → Shared → Prop}
    {name qual : Str} {params : Arguments} {body : List Stmt} {scope : Scope} {dV kV doc pm cdv ct oc : Value} {an od : Option Addr} {osl : Array (Option Value)} {f : Addr} {D : Nat} {vs : List Value} (binds : List (Str × Value))
    (X : (Mine.hd.heap_39 w.params).In s.heap) (T : Tp mean mg mb s.heap)
    (ho : (Mine.hd.heap_39 w.params).lookup f = some ⟨oc, od, .func (fnOf name qual params body scope dV kV doc pm an cdv ct), osl⟩) (hcd : codeIn (Mine.hd.heap_39 w.params) cdv qual = true)
    (hd : dp + D < 800) (hu : un + 3 * D < 9000)
    (hbind : BindsTo s (fnOf name qual params body scope dV kV doc pm an cdv ct) ⟨vs, []⟩ binds) (hloc : ∀ y ∈ binds, scope.names.lookup y.1 = some .local)
    (h : ∀ L' h₁ tk (c : Ac), c.dp + D ≤ 800 → c.un + 3 * D ≤ 9002 → c.fr = envOf qual scope L' f cdv :: fr → Fr s.heap L' h₁ (bmap binds.reverse) → News s.heap L' h₁ [] →
      wpAny (model PySem.Challenge.rw_pq0216_01.row.prog w) (Ax c) (execs body (envOf qual scope L' f cdv)) (fun fl s' => Q (match fl with | .ret v => v | _ => .none) s') NoE { s with heap := h₁, toks := tk })
    (hco : scope.isCoroutine = false) (hgen : scope.isGenerator = false) (hk : scope.kind = .function)
    (hcell : ∀ x ∈ scope.names, x.2 ≠ .cell) : wpAny (model PySem.Challenge.rw_pq0216_01.row.prog w) (Ar dp un fr gd) (call (.ref f) vs) Q NoE s := by
  refine wpAny_call ?_
  refine codeAny_call_def (fd := fnOf name qual params body scope dV kV doc pm an cdv ct) (body := body) (binds := binds) (Nat.lt_trans (oA1 hd) (by decide)) (X _ _ ho) rfl T.nolimit (codeRec_of X hcd) rfl hbind hcell hloc (fun h₁ hns hk₁ => ?_) hco hgen hk
  refine wpAny_mono (h s.heap.objs.size h₁ _ ⟨dp + 1, un + 3, envOf qual scope s.heap.objs.size f cdv :: fr, gd⟩ (by show dp + 1 + D ≤ 800; omega) (by show un + 3 + 3 * D ≤ 9002; omega) rfl ⟨bmap_eq binds.reverse ▸ hns, hk₁, Nat.le_refl _⟩ News.nil) (fun fl s' hl => hl) fun _ _ y => y.elim

theorem enterC {w : World} {mean : ExcName → Option Value} {mg mb : Str → Option Value} {dp un : Nat} {fr : List Env} {gd : Option (List Code)} {s : Shared} {Q : Value → Shared → Prop}
    {name qual : Str} {params : Arguments} {body : List Stmt} {scope : Scope} {dV kV doc pm cdv ct oc : Value} {an od : Option Addr} {osl : Array (Option Value)} {f : Addr} {D : Nat} {vs : List Value} (binds : List (Str × Value))
    (X : (Mine.hd.heap_39 w.params).In s.heap) (T : Tp mean mg mb s.heap)
    (ho : (Mine.hd.heap_39 w.params).lookup f = some ⟨oc, od, .func (fnOf name qual params body scope dV kV doc pm an cdv ct), osl⟩) (hcd : codeIn (Mine.hd.heap_39 w.params) cdv qual = true)
    (hd : dp + D < 800) (hu : un + 3 * D < 9000)
    (hbind : BindsTo s (fnOf name qual params body scope dV kV doc pm an cdv ct) ⟨vs, []⟩ binds) (hkind : (binds.all fun y => scope.names.lookup y.1 == some .local || scope.names.lookup y.1 == some .cell) = true)
    (hnd : ((cellsFrom 0 scope.names []).map (·.1)).Nodup)
    (h : ∀ L' h₁ tk (c : Ac), c.dp + D ≤ 800 → c.un + 3 * D ≤ 9002 → c.fr = envOfC qual scope L' f cdv :: fr → ∀ cells, Fr s.heap L' h₁ (bindL (envOfC qual scope L' f cdv).kindOf binds fun _ => none) → News s.heap L' h₁ cells →
      CellsAre (bindC (envOfC qual scope L' f cdv).kindOf binds fun _ => none) (cellsFrom (L' + 1) scope.names []) cells →
      wpAny (model PySem.Challenge.rw_pq0216_01.row.prog w) (Ax c) (execs body (envOfC qual scope L' f cdv)) (fun fl s' => Q (match fl with | .ret v => v | _ => .none) s') NoE { s with heap := h₁, toks := tk })
    (hco : scope.isCoroutine = false) (hgen : scope.isGenerator = false) (hk : scope.kind = .function) : wpAny (model PySem.Challenge.rw_pq0216_01.row.prog w) (Ar dp un fr gd) (call (.ref f) vs) Q NoE s := by
  refine wpAny_call ?_
  refine codeAny_call_function (Nat.lt_trans (oA1 hd) (by decide)) (X _ _ ho) rfl hco hgen rfl (codeRec_of X hcd) (hbind _ _ _ _ ?_)
  refine wpAny_newFunctionEnv_cells hk (kindsX hkind _) fun env' he s' x => ?_
  subst he
  refine ⟨T.nolimit.keeps x.toInCall.keep, codeAny_func ?_⟩
  obtain ⟨h₁, tk, rfl, _⟩ := x.done
  have hk₁ := x.toInCall.keep
  obtain ⟨cells, NC, Y⟩ := Cl.news (h₀ := s.heap) (Nat.le_refl _) fun n c hm => ⟨x.cell n c (lookup_of_mem_nodup (cellsFrom_names scope.names 0 (s.heap.objs.size + 1) [] [] rfl ▸ hnd) hm), x.above n c hm⟩
  exact wpAny_mono (h s.heap.objs.size h₁ tk ⟨dp + 1, un + 3, envOfC qual scope s.heap.objs.size f cdv :: fr, gd⟩ (by show dp + 1 + D ≤ 800; omega) (by show un + 3 + 3 * D ≤ 9002; omega) rfl cells ⟨x.toInCall.ns, hk₁, Nat.le_refl _⟩ NC Y) (fun fl s' hl => hl) fun _ _ y => y.elim


section
variable {w : World} {mean : ExcName → Option Value} {mg mb : Str → Option Value} {dp un : Nat} {fr : List Env} {gd : Option (List Code)} {s : Shared} {h₀ h h' : Heap} {L a : Addr} {m : Str → Option Value} {news : Ledger} {f : Addr} {D : Nat} {vs : List Value} {Q : Value → Shared → Prop}

theorem news_grown (N : News h₀ L h news) (k : ∀ b o, h.get? b = some o → h'.get? b = some o) : News h₀ L h' news := fun p hp => ⟨k _ _ (N p hp).1, (N p hp).2⟩
theorem news_sub {news' : Ledger} (N : News h₀ L h news) (k : ∀ p ∈ news', p ∈ news) : News h₀ L h news' := fun p hp => N p (k p hp)
theorem none_old (F : Fr h₀ L h m) {r : Addr} (e : h.get? r = none) : h₀.get? r = none := by
  cases q : h₀.get? r with
  | none => rfl
  | some o => rw [F.keep _ _ q] at e; cases e
theorem none_L (F : Fr h₀ L h m) {r : Addr} (e : h.get? r = none) : r ≠ L := by
  obtain ⟨oL, _, _, hL, _⟩ := F.ns
  intro q; rw [q, hL] at e; cases e
theorem none_news (N : News h₀ L h news) {r : Addr} (e : h.get? r = none) : ∀ p ∈ news, p.1 ≠ r := fun p hp q => by
  have := (N p hp).1; rw [q, e] at this; cases this
theorem news_new {r : Addr} {o : Obj} (F : Fr h₀ L h m) (N : News h₀ L h news) (k : ∀ b o, h.get? b = some o → h'.get? b = some o) (e : h.get? r = none) (e' : h'.get? r = some o) : News h₀ L h' ((r, o) :: news) := fun p hp => by
  rcases List.mem_cons.mp hp with rfl | hp
  · exact ⟨e', none_L F e, none_old F e⟩
  · exact ⟨k _ _ (N p hp).1, (N p hp).2⟩
theorem LI.ofNews {its : Array Value} {n : Nat} {xs : List Int} (N : News h₀ L h news) (hm : (a, listOf its n) ∈ news) (hi : IntsAre its.toList xs) : LI h a xs := ⟨its, n, (N _ hm).1, hi⟩
theorem LI.isList {xs : List Int} (H : LI h a xs) : ∃ its, h.IsList a its ∧ IntsAre its.toList xs := let ⟨its, n, e, i⟩ := H; ⟨its, ⟨_, e, rfl, n, rfl⟩, i⟩

theorem call_list {ys : List Int} (P : Pure w f D vs s.heap (fun h' r => NewL s.heap h' r ys)) (X : (Mine.hd.heap_39 w.params).In h₀) (T : Tp mean mg mb h₀) (F : Fr h₀ L s.heap m) (N : News h₀ L s.heap news)
    (hd : dp + D < 800) (hu : un + 3 * D < 9000)
    (h : ∀ r its n h' tk', Fr h₀ L h' m → News h₀ L h' ((r, listOf its n) :: news) → IntsAre its.toList ys → (∀ p ∈ news, p.1 ≠ r) → Q (.ref r) { s with heap := h', toks := tk' }) :
    wpAny (model PySem.Challenge.rw_pq0216_01.row.prog w) (Ar dp un fr gd) (call (.ref f) vs) Q NoE s :=
  P mean mg mb dp un fr gd s Q (X.keeps F.keep) (T.keeps F.keep) rfl hd hu fun _ h' tk' k ⟨r, e, hn, its, n, hg, hi⟩ => by
    subst e
    exact h r its n h' tk' (F.keeps k) (news_new F N k hn hg) hi (none_news N hn)
theorem call_listS {ys : List Int} (P : Pure w f D vs s.heap (fun h' r => NewL s.heap h' r ys)) (X : (Mine.hd.heap_39 w.params).In h₀) (T : Tp mean mg mb h₀) (F : Fr h₀ L s.heap m) (N : News h₀ L s.heap news)
    (hd : dp + D < 800) (hu : un + 3 * D < 9000)
    (h : ∀ r its n h' tk', Fr h₀ L h' m → News h₀ L h' ((r, listOf its n) :: news) → IntsAre its.toList ys → Q (.ref r) { s with heap := h', toks := tk' }) :
    wpAny (model PySem.Challenge.rw_pq0216_01.row.prog w) (Ar dp un fr gd) (call (.ref f) vs) Q NoE s :=
  call_list P X T F N hd hu fun r its n h' tk' F' N' i _ => h r its n h' tk' F' N' i
theorem call_int {x : Int} (P : Pure w f D vs s.heap (fun _ r => ∃ t, r = .int x t)) (X : (Mine.hd.heap_39 w.params).In h₀) (T : Tp mean mg mb h₀) (F : Fr h₀ L s.heap m) (N : News h₀ L s.heap news)
    (hd : dp + D < 800) (hu : un + 3 * D < 9000)
    (h : ∀ t h' tk', Fr h₀ L h' m → News h₀ L h' news → Q (.int x t) { s with heap := h', toks := tk' }) :
    wpAny (model PySem.Challenge.rw_pq0216_01.row.prog w) (Ar dp un fr gd) (call (.ref f) vs) Q NoE s :=
  P mean mg mb dp un fr gd s Q (X.keeps F.keep) (T.keeps F.keep) rfl hd hu fun _ h' tk' k ⟨t, e⟩ => by
    subst e
    exact h t h' tk' (F.keeps k) (news_grown N k)
theorem call_val {v : Value} (P : Pure w f D vs s.heap (fun _ r => r = v)) (X : (Mine.hd.heap_39 w.params).In h₀) (T : Tp mean mg mb h₀) (F : Fr h₀ L s.heap m) (N : News h₀ L s.heap news)
    (hd : dp + D < 800) (hu : un + 3 * D < 9000)
    (h : ∀ h' tk', Fr h₀ L h' m → News h₀ L h' news → Q v { s with heap := h', toks := tk' }) :
    wpAny (model PySem.Challenge.rw_pq0216_01.row.prog w) (Ar dp un fr gd) (call (.ref f) vs) Q NoE s :=
  P mean mg mb dp un fr gd s Q (X.keeps F.keep) (T.keeps F.keep) rfl hd hu fun _ h' tk' k e => by
    subst e
    exact h h' tk' (F.keeps k) (news_grown N k)
theorem fin_list {r : Addr} {its : Array Value} {n : Nat} {ys : List Int} (N : News h₀ L h news) (hm : (r, listOf its n) ∈ news) (hi : IntsAre its.toList ys) : NewL h₀ h (.ref r) ys :=
  ⟨r, rfl, (N _ hm).2.2, its, n, (N _ hm).1, hi⟩

theorem fin_plain {D : Addr} {ys : List Value} {ns : List Int} (hn : h₀.get? D = none) (P : NewPlain h news D ys.toArray) (hi : IntsAre ys ns) : NewL h₀ h (.ref D) ns :=
  let ⟨⟨n, e⟩, _⟩ := P; ⟨D, rfl, hn, _, n, e, hi⟩
theorem ints_map {h : Heap} {D : Addr} {ys : List Value} {as : List Int} {f : Int → Int} (P : NewPlain h news D ys.toArray) (hc : CarriedAll ys ((as.filter fun _ => true).map fun a => PyData.int (f a))) : IntsAre ys (as.map f) :=
  gn_ints P hc (fun _ => rfl)
theorem noSeer0 (T : Tp mean mg mb h₀) : h₀.NoSeer := T.seer (by decide +kernel)
theorem fdiv_rule {env : Env} {x y : Int} {t u : Tok} {E : Value → Shared → Prop} (hy : y ≠ 0) (T : Tp mean mg mb h₀) (F : Fr h₀ L s.heap m) {fr' : List Env} (hf : fr' = env :: fr) (hroom : dp < 850) (hgen : env.scope.isGenerator = false) (hco : env.scope.isCoroutine = false)
    (hb : env.builtins = builtinsNs) (hg : env.globals = mainGlobals) (h : Q (.int (x.fdiv y) s.toks) { s with toks := s.toks + 1 }) :
    wpAny (model PySem.Challenge.rw_pq0216_01.row.prog w) (Ar dp un fr' gd) (binaryOp .FloorDiv (.int x t) (.int y u)) Q E s := by
  subst hf
  exact floordiv_int hy h (Or.inr (PylongRoom.of (T.nolimit.keeps F.keep) (by show dp + 100 < 1000; lia) (SeerAt.of ((noSeer0 T).keeps F.keep) rfl rfl hgen hco hb hg)))
theorem bits_of {x : Int} (h : Small x) : Builtin.Int.intBits x ≤ 67108864 := let ⟨_, hn, hx⟩ := h; Nat.le_trans (intBits_le_iff.mpr hx) hn
theorem mul_of {x y : Int} (hx : Small x) (hy : Small y) : IntMulOk x y := IntMulOk.of_le (bits_of hx) (bits_of hy) (by decide)
noncomputable def Halt (P : Prop) : Prop := P
/-- a post put out of sight -/
theorem wpZ {α : Type} {w : World} {A : Around} {x : Sem α} {Q : α → Shared → Prop} {E : Value → Shared → Prop} {s : Shared}
    (h : ∀ Z : α → Shared → Prop, (∀ v s', Q v s' → Z v s') → wpAny (model PySem.Challenge.rw_pq0216_01.row.prog w) A x Z E s) : wpAny (model PySem.Challenge.rw_pq0216_01.row.prog w) A x Q E s :=
  h Q fun _ _ x => x
theorem wpZE {α : Type} {w : World} {A : Around} {x : Sem α} {Q : α → Shared → Prop} {E : Value → Shared → Prop} {s : Shared}
    (h : ∀ (Z : α → Shared → Prop) (Y : Value → Shared → Prop), (∀ v s', Q v s' → Z v s') → wpAny (model PySem.Challenge.rw_pq0216_01.row.prog w) A x Z Y s) : wpAny (model PySem.Challenge.rw_pq0216_01.row.prog w) A x Q E s :=
  h Q E fun _ _ x => x
/-- something that omega is not to look at -/
noncomputable def Hid (p : Prop) : Prop := p
theorem halt {P : Prop} (h : Halt P) : P := h


theorem addR_eq (xs ys : List Int) : List.map (fun k' : Int => if k' < ↑xs.length ∧ k' < ↑ys.length then xs.getD k'.toNat 0 + ys.getD k'.toNat 0 else if k' < ↑xs.length ∧ ¬k' < ↑ys.length then xs.getD k'.toNat 0 + 0 else 0 + ys.getD k'.toNat 0)
    (rangeKs 0 ((if (ys.length : Int) > ↑xs.length then (ys.length : Int) else ↑xs.length) - 0).toNat) = addR xs ys := by
  unfold addR rangeKs
  rw [List.map_map]
  have e : ((if (ys.length : Int) > ↑xs.length then (ys.length : Int) else ↑xs.length) - 0).toNat = max xs.length ys.length := by split <;> lia
  rw [e]
  refine List.map_congr_left fun i hi => ?_
  have hi := List.mem_range.mp hi
  simp only [Function.comp, Int.zero_add, Int.toNat_natCast, Int.ofNat_lt]
  have out : ∀ l : List Int, ¬ i < l.length → l.getD i 0 = 0 := fun l h => by simp [List.getD_eq_getElem?_getD, List.getElem?_eq_none (Nat.le_of_not_lt h)]
  split
  · rfl
  · rename_i h1
    split
    · rename_i h2; rw [out ys h2.2]
    · rename_i h2
      have : ¬ i < xs.length := by lia
      rw [out xs this, Int.zero_add]
noncomputable def ovr : List (Str × Value) → (Str → Option Value) → Str → Option Value
  | [], u => u
  | (n, v) :: r, u => fun y => if y = n then some v else ovr r u y
noncomputable def AllIn : List (Str × Value) → (Str → Option Value) → Prop
  | [], _ => True
  | (n, v) :: r, m => m n = some v ∧ AllIn r m
theorem ovr_eq : ∀ {ps : List (Str × Value)} {m : Str → Option Value}, AllIn ps m → ovr ps m = m
  | [], _, _ => rfl
  | (n, v) :: r, m, h => by
    funext y
    show (if y = n then some v else ovr r m y) = m y
    by_cases e : y = n
    · subst e; rw [if_pos rfl, h.1]
    · rw [if_neg e, ovr_eq h.2]
noncomputable def SubL (l l' : Ledger) : Prop := ∀ p ∈ l, p ∈ l'
theorem SubL.nil {l : Ledger} : SubL [] l := fun _ h => nomatch h
theorem SubL.cons {p : Addr × Obj} {r l : Ledger} (h : p ∈ l) (t : SubL r l) : SubL (p :: r) l := List.forall_mem_cons.mpr ⟨h, t⟩

/-- a while by an invariant over a datum: the names' values, the ledger -/
noncomputable def WEnd {α : Type} (h₀ : Heap) (L : Addr) (s : Shared) (I : α → Prop) (μ : α → Nat) (ps : α → List (Str × Value)) (nn : α → Ledger) (Q : Flow → Shared → Prop) (a : α) (f : Flow) (s₃ : Shared) : Prop :=
  match f with
  | .ret v => Q (.ret v) s₃
  | .brk => Q .next s₃
  | _ => ∃ a' h' tk m' nx, s₃ = { s with heap := h', toks := tk } ∧ Fr h₀ L h' m' ∧ News h₀ L h' nx ∧ AllIn (ps a') m' ∧ SubL (nn a') nx ∧ μ a' < μ a ∧ I a'
theorem while_rule {α : Type} {env : Env} {A : Around} {test : Expr} {body : List Stmt} {pos : Pos} {Q : Flow → Shared → Prop} (I : α → Prop) (μ : α → Nat) (ps : α → List (Str × Value)) (nn : α → Ledger) (a₀ : α) {m : Str → Option Value}
    (F : Fr h₀ L s.heap m) (N : News h₀ L s.heap news) (hm : AllIn (ps a₀) m) (hn : SubL (nn a₀) news) (hI : I a₀)
    (turn : ∀ a u h tk, I a → Fr h₀ L h (ovr (ps a) u) → News h₀ L h (nn a) →
      wpAny (model PySem.Challenge.rw_pq0216_01.row.prog w) A (isTrue test env (eval test env)) (fun b s₂ =>
        if b = true then wpAny (model PySem.Challenge.rw_pq0216_01.row.prog w) A (execs body env) (WEnd h₀ L s I μ ps nn Q a) NoE s₂ else Q .next s₂) NoE { s with heap := h, toks := tk }) :
    wpAny (model PySem.Challenge.rw_pq0216_01.row.prog w) A (exec (.While test body [] pos) env) Q NoE s := by
  refine While_inv2 (fun n m nx => ∃ a, n = μ a ∧ AllIn (ps a) m ∧ nx = nn a ∧ I a) F (news_sub N hn) ⟨a₀, rfl, hm, rfl, hI⟩ ?_ PassesOwn.never
  rintro n m₁ nx h tk F₁ N₁ ⟨a, rfl, hm₁, rfl, hI₁⟩
  refine wpAny_mono (turn a m₁ h tk hI₁ ((ovr_eq hm₁).symm ▸ F₁) N₁) (fun b s₂ p => ?_) fun _ _ x => x
  cases b with
  | false => simpa using p
  | true =>
    simp only [if_true] at p ⊢
    refine wpAny_mono p (fun f s₃ q => ?_) fun _ _ x => x
    cases f with
    | ret v => exact q
    | brk => exact q
    | next =>
      obtain ⟨a', h', tk', m', nx, rfl, F', N', hm', hn', hμ, hI'⟩ := q
      exact ⟨h', tk', m', nn a', μ a', rfl, F', news_sub N' hn', hμ, a', rfl, hm', rfl, hI'⟩
    | cont =>
      obtain ⟨a', h', tk', m', nx, rfl, F', N', hm', hn', hμ, hI'⟩ := q
      exact ⟨h', tk', m', nn a', μ a', rfl, F', news_sub N' hn', hμ, a', rfl, hm', rfl, hI'⟩
theorem while_ruleZ {α : Type} {env : Env} {A : Around} {test : Expr} {body : List Stmt} {pos : Pos} {Q : Flow → Shared → Prop} (I : α → Prop) (μ : α → Nat) (ps : α → List (Str × Value)) (nn : α → Ledger) (a₀ : α) {m : Str → Option Value}
    (F : Fr h₀ L s.heap m) (N : News h₀ L s.heap news) (hm : AllIn (ps a₀) m) (hn : SubL (nn a₀) news) (hI : I a₀)
    (turn : ∀ a (Z : Flow → Shared → Prop), (∀ f s₃, WEnd h₀ L s I μ ps nn Q a f s₃ → Z f s₃) → ∀ u h tk, I a → Fr h₀ L h (ovr (ps a) u) → News h₀ L h (nn a) →
      wpAny (model PySem.Challenge.rw_pq0216_01.row.prog w) A (isTrue test env (eval test env)) (fun b s₂ =>
        if b = true then wpAny (model PySem.Challenge.rw_pq0216_01.row.prog w) A (execs body env) Z NoE s₂ else Q .next s₂) NoE { s with heap := h, toks := tk }) :
    wpAny (model PySem.Challenge.rw_pq0216_01.row.prog w) A (exec (.While test body [] pos) env) Q NoE s :=
  while_rule I μ ps nn a₀ F N hm hn hI fun a u h tk i f n => turn a _ (fun _ _ x => x) u h tk i f n
theorem WEnd.next {α : Type} {h₀ : Heap} {L : Addr} {s : Shared} {I : α → Prop} {μ : α → Nat} {ps : α → List (Str × Value)} {nn : α → Ledger} {Q : Flow → Shared → Prop} {a : α} (a' : α) {h' : Heap} {tk : Nat} {m' : Str → Option Value} {nx : Ledger}
    (F : Fr h₀ L h' m') (N : News h₀ L h' nx) (hm : AllIn (ps a') m') (hn : SubL (nn a') nx) (hI : I a') (hμ : μ a' < μ a) : WEnd h₀ L s I μ ps nn Q a .next { s with heap := h', toks := tk } :=
  ⟨a', h', tk, m', nx, rfl, F, N, hm, hn, hμ, hI⟩
end

/-! the part Loops -/
abbrev PG : Program := PySem.Challenge.rw_pq0216_01.row.prog
/-- one draw of an iterator, with the target's names bound -/
structure Drw (w : World) (A : Around) (env : Env) (target : Expr) (J : Addr) (fp wr : List Addr) (n : Nat) (bs : Nat → List (Str × Value) → Prop) (St : Nat → Heap → Prop) : Prop where
  sub : ∀ b ∈ wr, b ∈ fp
  frame : ∀ i h h', St i h → (∀ b ∈ fp, ∀ o, h.get? b = some o → h'.get? b = some o) → St i h'
  item : ∀ i (s : Shared) (m : Str → Option Value) (Q : Shared → Prop), i < n → St i s.heap → s.heap.Ns env.locals m → env.locals ∉ fp →
    (∀ ps h' tk, bs i ps → St (i + 1) h' → h'.Ns env.locals (ovr ps m) → (∀ b o, b ∉ wr → b ≠ env.locals → s.heap.get? b = some o → h'.get? b = some o) → Q { s with heap := h', toks := tk }) →
    wpAny (model PG w) A (pyNext (.ref J)) (fun r s₁ => match r with
      | none => False
      | some v => wpAny (model PG w) A (letOwnedTupleGo target (.ref J) v) (fun _ s₁' => wpAny (model PG w) A (assign target env v) (fun _ s₂ => Q s₂) NoE s₁') NoE s₁) NoE s
  done : ∀ (s : Shared) (Q : Shared → Prop), St n s.heap → (∀ h' tk, (∀ b o, b ∉ wr → s.heap.get? b = some o → h'.get? b = some o) → Q { s with heap := h', toks := tk }) →
    wpAny (model PG w) A (pyNext (.ref J)) (fun r s₁ => r = none ∧ Q s₁) NoE s
  self : ∀ i (s : Shared) (Q : Value → Shared → Prop), St i s.heap → Q (.ref J) s → wpAny (model PG w) A (pyIter (.ref J)) Q NoE s

section
variable {w : World} {A : Around} {s : Shared} {h₀ : Heap} {L : Addr} {m : Str → Option Value} {news : Ledger} {env : Env}
theorem Drw.name {x : Str} {px : Pos} {J : Addr} {fp wr : List Addr} {n : Nat} {P : Nat → Value → Prop} {St : Nat → Heap → Prop} (W : Walks PG w A J fp wr n P St) (hx : env.kindOf x = some .local)
    (hp : (env.scope.kind == .class || (env.scope.kind == .module && env.locals != env.globals)) = false) :
    Drw w A env (.Name x px) J fp wr n (fun i ps => ∃ v, P i v ∧ ps = [(x, v)]) St where
  sub := W.sub
  frame := W.frame
  item := fun i s m Q hi hst hn hLf hQ => by
    have hLw : env.locals ∉ wr := fun h => hLf (W.sub _ h)
    refine W.item i _ _ _ hi hst fun v h₁ tk₁ hP hst₁ hk₁ => ?_
    dsimp only
    refine wpAny_pure (Q := fun _ s₁' => wpAny (model PG w) A (assign (.Name x px) env v) (fun _ s₂ => Q s₂) NoE s₁') ?_
    refine wpAny_assign_Name (wpAny_storeName_local hx (hn.at' fun o e => hk₁ _ o hLw e) (fun h₂ hn₂ hs₂ => ?_) hp)
    exact hQ [(x, v)] h₂ _ ⟨v, hP, rfl⟩ (W.frame _ _ _ hst₁ fun b hb o e => hs₂.extBut b o (fun q => hLf (q ▸ hb)) e) hn₂ fun b o hb hL e => hs₂.extBut b o hL (hk₁ b o hb e)
  done := fun s Q hst hQ => W.done _ _ _ hst fun h' tk hk => ⟨rfl, hQ h' tk hk⟩
  self := fun i s Q hst hq => W.self i s Q NoE hst hq

theorem Drw.enum {xi xc : Str} {pk pv pt : Pos} {x1 : Nat} {J : Addr} {fp wr : List Addr} {n : Nat} {Pt : Nat → Array Value → Prop} {St : Nat → Heap → Prop} {Mid : Nat → Addr → Heap → Prop} {P2 : Nat → Value → Value → Prop} (hh : A.handled = none)
    (W : WalksT PG w A J fp wr n Pt St Mid) (h2 : ∀ i vals, Pt i vals → ∃ v0 v1, vals = #[v0, v1] ∧ P2 i v0 v1) (hxi : env.kindOf xi = some .local) (hxc : env.kindOf xc = some .local)
    (hp : (env.scope.kind == .class || (env.scope.kind == .module && env.locals != env.globals)) = false) :
    Drw w A env (.Tuple [.Name xi pk, .Name xc pv] x1 pt) J fp wr n (fun i ps => ∃ v0 v1, P2 i v0 v1 ∧ ps = [(xc, v1), (xi, v0)]) St where
  sub := W.sub
  frame := W.frame
  item := fun i s m Q hi hst hn hLf hQ => by
    have hLw : env.locals ∉ wr := fun h => hLf (W.sub _ h)
    refine W.item i _ _ _ hi hst fun T vals h₁ tk₁ hPt _ hT hMid hk₁ => ?_
    obtain ⟨v0, v1, rfl, hP2⟩ := h2 i vals hPt
    dsimp only
    refine W.go _ x1 pt i T _ _ _ hMid fun h₂ hst₂ hk₂ => ?_
    have ht₂ : h₂.IsTuple T #[v0, v1] := hT.at fun o e => hk₂ T o (W.apart i T h₁ hMid) e
    refine wpAny_assign_Tuple hh ht₂ rfl rfl fun h₃ hx₃ => ?_
    replace hx₃ : Heap.ExtBut h₂.objs.size h₂ h₃ := hx₃
    have up₃ : ∀ b o, h₂.get? b = some o → h₃.get? b = some o := fun b o x => hx₃ b o (Nat.ne_of_lt (Heap.lt_size x)) x
    have hn₃ : h₃.Ns env.locals m := hn.at' fun o e => up₃ _ o (hk₂ _ o hLw (hk₁ _ o hLw e))
    show wpAny _ A (do holding [v1] (assign (.Name xi pk) env v0); do holding [] (assign (.Name xc pv) env v1); pure ()) _ _ _
    refine wpAny_bind (wpAny_holding (wpAny_assign_Name (wpAny_storeName_local hxi hn₃ (fun h₄ hn₄ hs₄ => ?_) hp)))
    replace hs₄ : Heap.SameBut env.locals h₃ h₄ := hs₄
    refine wpAny_bind (wpAny_holding (wpAny_assign_Name (wpAny_storeName_local hxc hn₄ (fun h₅ hn₅ hs₅ => wpAny_pure ?_) hp)))
    replace hs₅ : Heap.SameBut env.locals h₄ h₅ := hs₅
    have hst₅ : St (i + 1) h₅ := W.frame _ _ _ hst₂ fun b hb o e => hs₅.extBut b o (fun q => hLf (q ▸ hb)) (hs₄.extBut b o (fun q => hLf (q ▸ hb)) (up₃ b o e))
    exact hQ [(xc, v1), (xi, v0)] h₅ _ ⟨v0, v1, hP2, rfl⟩ hst₅ hn₅ fun b o hb hL e => hs₅.extBut b o hL (hs₄.extBut b o hL (up₃ b o (hk₂ b o hb (hk₁ b o hb e))))
  done := fun s Q hst hQ => W.done _ _ _ hst fun h' tk hk => ⟨rfl, hQ h' tk hk⟩
  self := fun i s Q hst hq => W.self i s Q NoE hst hq

theorem Drw.pairs {xi xc : Str} {pk pv pt : Pos} {x1 : Nat} {J l : Addr} {items : Array Value} (hh : A.handled = none) (hne : l ≠ J) (prs : List (Value × Value)) (ts : List Addr) (hJ : J ∉ ts)
    (hit : ∀ (i : Nat) (v : Value), items[i]? = some v → ∃ t : Addr, ts[i]? = some t ∧ v = Value.ref t) (hsz : items.size = prs.length) (hxi : env.kindOf xi = some .local) (hxc : env.kindOf xc = some .local)
    (hp : (env.scope.kind == .class || (env.scope.kind == .module && env.locals != env.globals)) = false) :
    Drw w A env (.Tuple [.Name xi pk, .Name xc pv] x1 pt) J (J :: l :: ts) [J] items.size (fun i ps => ∃ p, prs[i]? = some p ∧ ps = [(xc, p.2), (xi, p.1)])
      (fun i h => (h.IsListIter J l i ∧ h.IsList l items) ∧ ∀ (k : Nat) (t : Addr) (p : Value × Value), ts[k]? = some t → prs[k]? = some p → h.IsTuple t #[p.1, p.2]) where
  sub := fun b hb => by rw [List.mem_singleton.mp hb]; exact List.mem_cons_self
  frame := fun i h h' st hk => ⟨(Walks.list (prog := PG) (w := w) hh J l hne items).frame i h h' st.1 fun b hb o e => hk b (by
      rcases List.mem_cons.mp hb with rfl | hb
      · exact List.mem_cons_self
      · rw [List.mem_singleton.mp hb]; exact List.mem_cons_of_mem _ List.mem_cons_self) o e,
    fun k t p ht hp => (st.2 k t p ht hp).at fun o e => hk t (List.mem_cons_of_mem _ (List.mem_cons_of_mem _ (List.mem_of_getElem? ht))) o e⟩
  item := fun i s m Q hi hst hn hLf hQ => by
    have W := Walks.list (prog := PG) (w := w) hh J l hne items
    have hLw : env.locals ∉ [J] := fun h => hLf (by rw [List.mem_singleton.mp h]; exact List.mem_cons_self)
    refine W.item i _ _ _ hi hst.1 fun v h₁ tk₁ hP hst₁ hk₁ => ?_
    obtain ⟨t, ht, rfl⟩ := hit i v hP
    obtain ⟨p, hpp⟩ : ∃ p, prs[i]? = some p := ⟨prs[i]'(by omega), List.getElem?_eq_getElem _⟩
    have htu : ∀ (k : Nat) (t : Addr) (p : Value × Value), ts[k]? = some t → prs[k]? = some p → h₁.IsTuple t #[p.1, p.2] := fun k t p h1 h2 => (hst.2 k t p h1 h2).at fun o e => hk₁ t o (fun q => hJ (by rw [← List.mem_singleton.mp q]; exact List.mem_of_getElem? h1)) e
    dsimp only
    refine wpAny_letOwnedTupleGo_listiter hst₁.1 ?_
    refine wpAny_assign_Tuple hh (htu i t p ht hpp) rfl rfl fun h₃ hx₃ => ?_
    replace hx₃ : Heap.ExtBut h₁.objs.size h₁ h₃ := hx₃
    have up₃ : ∀ b o, h₁.get? b = some o → h₃.get? b = some o := fun b o x => hx₃ b o (Nat.ne_of_lt (Heap.lt_size x)) x
    have hn₃ : h₃.Ns env.locals m := hn.at' fun o e => up₃ _ o (hk₁ _ o hLw e)
    show wpAny _ A (do holding [p.2] (assign (.Name xi pk) env p.1); do holding [] (assign (.Name xc pv) env p.2); pure ()) _ _ _
    refine wpAny_bind (wpAny_holding (wpAny_assign_Name (wpAny_storeName_local hxi hn₃ (fun h₄ hn₄ hs₄ => ?_) hp)))
    replace hs₄ : Heap.SameBut env.locals h₃ h₄ := hs₄
    refine wpAny_bind (wpAny_holding (wpAny_assign_Name (wpAny_storeName_local hxc hn₄ (fun h₅ hn₅ hs₅ => wpAny_pure ?_) hp)))
    replace hs₅ : Heap.SameBut env.locals h₄ h₅ := hs₅
    have up : ∀ b o, b ≠ env.locals → h₁.get? b = some o → h₅.get? b = some o := fun b o hb e => hs₅.extBut b o hb (hs₄.extBut b o hb (up₃ b o e))
    have hst₅ : h₅.IsListIter J l (i + 1) ∧ h₅.IsList l items := W.frame _ _ _ hst₁ fun b hb o e => up b o (fun q => hLf (by
      rw [← q]
      rcases List.mem_cons.mp hb with rfl | hb
      · exact List.mem_cons_self
      · rw [List.mem_singleton.mp hb]; exact List.mem_cons_of_mem _ List.mem_cons_self)) e
    exact hQ [(xc, p.2), (xi, p.1)] h₅ _ ⟨p, hpp, rfl⟩ ⟨hst₅, fun k t p h1 h2 => (htu k t p h1 h2).at fun o e => up t o (fun q => hLf (by rw [← q]; exact List.mem_cons_of_mem _ (List.mem_cons_of_mem _ (List.mem_of_getElem? h1)))) e⟩ hn₅
      fun b o hb hL e => up b o hL (hk₁ b o hb e)
  done := fun s Q hst hQ => (Walks.list (prog := PG) (w := w) hh J l hne items).done _ _ _ hst.1 fun h' tk hk => ⟨rfl, hQ h' tk hk⟩
  self := fun i s Q hst hq => (Walks.list (prog := PG) (w := w) hh J l hne items).self i s Q NoE hst.1 hq

/-- what the end of a turn must show -/
noncomputable def FEnd {α : Type} (h₀ : Heap) (L : Addr) (s : Shared) (own : Ledger) (I : Nat → α → Prop) (ps : α → List (Str × Value)) (nn : α → Ledger) (Q : Flow → Shared → Prop) (i : Nat) (f : Flow) (s₃ : Shared) : Prop :=
  match f with
  | .ret v => Q (.ret v) s₃
  | .brk => Q .next s₃
  | _ => ∃ a' h' tk m' nx, s₃ = { s with heap := h', toks := tk } ∧ Fr h₀ L h' m' ∧ News h₀ L h' nx ∧ AllIn (ps a') m' ∧ SubL own nx ∧ SubL (nn a') nx ∧ I (i + 1) a'
theorem FEnd.go {α : Type} {h₀ : Heap} {L : Addr} {s : Shared} {own : Ledger} {I : Nat → α → Prop} {ps : α → List (Str × Value)} {nn : α → Ledger} {Q : Flow → Shared → Prop} {i : Nat} (a' : α) {h' : Heap} {tk : Nat} {m' : Str → Option Value} {nx : Ledger}
    (F : Fr h₀ L h' m') (N : News h₀ L h' nx) (hm : AllIn (ps a') m') (ho : SubL own nx) (hn : SubL (nn a') nx) (hI : I (i + 1) a') : FEnd h₀ L s own I ps nn Q i .next { s with heap := h', toks := tk } :=
  ⟨a', h', tk, m', nx, rfl, F, N, hm, ho, hn, hI⟩
/-- the kinds of objects that iterators are -/
noncomputable def iterCls (o : Obj) : Prop := o.cls = .type "list_iterator" ∨ o.cls = .type "range_iterator" ∨ o.cls = .type "enumerate"

theorem for_drw {α : Type} {target : Expr} {body : List Stmt} {Q : Flow → Shared → Prop} {J : Addr} {fp wr : List Addr} {n : Nat} {bs : Nat → List (Str × Value) → Prop} {St : Nat → Heap → Prop}
    (W : Drw w A env target J fp wr n bs St) (I : Nat → α → Prop) (ps : α → List (Str × Value)) (nn : α → Ledger) (a₀ : α)
    (hLf : env.locals ∉ fp) (hwr : ∀ b ∈ wr, h₀.get? b = none) (hit : ∀ i h o, St i h → ∀ b ∈ wr, h.get? b = some o → iterCls o) (hnn : ∀ i a, I i a → ∀ p ∈ nn a, ¬ iterCls p.2)
    (hst : St 0 s.heap) (F : Fr h₀ env.locals s.heap m) (N : News h₀ env.locals s.heap news) (hm : AllIn (ps a₀) m) (hn : SubL (nn a₀) news) (hI : I 0 a₀)
    (turn : ∀ i qs a u h tk own, i < n → bs i qs → I i a → Fr h₀ env.locals h (ovr qs (ovr (ps a) u)) → News h₀ env.locals h (own ++ nn a) →
      wpAny (model PG w) A (execs body env) (FEnd h₀ env.locals s own I ps nn Q i) NoE { s with heap := h, toks := tk })
    (done : ∀ a u h tk, I n a → Fr h₀ env.locals h (ovr (ps a) u) → News h₀ env.locals h (nn a) → Q .next { s with heap := h, toks := tk }) :
    codeAny (model PG w) A (.forLoop target (.ref J) body [] env) (fun r s' => match r with | .ok f => Q f s' | .error e => cameBackBy (model PG w) A env NoE e s') s := by
  have hLw : env.locals ∉ wr := fun h => hLf (W.sub _ h)
  have old : ∀ b o, h₀.get? b = some o → b ∉ wr := fun b o e hb => by rw [hwr b hb] at e; cases e
  refine codeAny_forLoop_any
    (fun k s' => ∃ h' tk u a i, s' = { s with heap := h', toks := tk } ∧ St i h' ∧ Fr h₀ env.locals h' (ovr (ps a) u) ∧ News h₀ env.locals h' (nn a) ∧ I i a ∧ i ≤ n ∧ k = n + 1 - i) ?_ (n + 1)
    ⟨s.heap, s.toks, m, a₀, 0, rfl, hst, (ovr_eq hm).symm ▸ F, news_sub N hn, hI, Nat.zero_le _, rfl⟩
  intro k s' hInv
  refine wpZE fun Zi Yi hZi => ?_
  obtain ⟨h', tk, u, a, i, rfl, hst', F', N', hI', hi, rfl⟩ := hInv
  have apart : ∀ p ∈ nn a, p.1 ∉ wr := fun p hp hb => hnn i a hI' p hp (hit i h' p.2 hst' _ hb (N' p hp).1)
  by_cases hlt : i < n
  · refine wpAny_mono (W.item i _ _ (fun s₂ => wpAny (model PG w) A (execs body env) (FEnd h₀ env.locals s (ownOf h₀ fp s₂.heap) I ps nn Q i) NoE s₂ ∧ St (i + 1) s₂.heap ∧ ∃ m₂, Fr h₀ env.locals s₂.heap m₂) hlt hst' F'.ns hLf fun qs h₁ tk₁ hb hst₁ hn₁ hk₁ => ?_) (fun r s₁ h₁ => ?_) fun _ _ e => e.elim
    · have F₁ : Fr h₀ env.locals h₁ (ovr qs (ovr (ps a) u)) := ⟨hn₁, fun b o e => hk₁ b o (old b o e) (fun q => Nat.lt_irrefl _ (Nat.lt_of_lt_of_le (Heap.lt_size e) (q ▸ F'.above))) (F'.keep b o e), F'.above⟩
      have N₁ : News h₀ env.locals h₁ (nn a) := fun p hp => ⟨hk₁ _ _ (apart p hp) (N' p hp).2.1 (N' p hp).1, (N' p hp).2⟩
      have Nown : News h₀ env.locals h₁ (ownOf h₀ fp h₁) := news_ownOf hLf
      exact ⟨turn i qs a u h₁ tk₁ (ownOf h₀ fp h₁) hlt hb hI' F₁ (Nown.append N₁), hst₁, _, F₁⟩
    · refine hZi _ _ ?_
      cases r with
      | none => exact h₁.elim
      | some v =>
        refine wpAny_mono h₁ (fun _ s₁' h₁' => ?_) fun _ _ e => e.elim
        refine wpAny_mono h₁' (fun _ s₂ h₂ => ?_) fun _ _ e => e.elim
        refine wpZE fun Zj Yj hZj => ?_
        obtain ⟨h₂, hst₁, m₂, F₁⟩ := h₂
        refine wpAny_mono h₂ (fun f s₃ h₃ => ?_) fun _ _ e => e.elim
        refine hZj _ _ ?_
        have fin : (∃ a' h' tk m' nx, s₃ = { s with heap := h', toks := tk } ∧ Fr h₀ env.locals h' m' ∧ News h₀ env.locals h' nx ∧ AllIn (ps a') m' ∧ SubL (ownOf h₀ fp s₂.heap) nx ∧ SubL (nn a') nx ∧ I (i + 1) a') →
            ∃ k', k' < n + 1 - i ∧ ∃ h' tk u a i, s₃ = { s with heap := h', toks := tk } ∧ St i h' ∧ Fr h₀ env.locals h' (ovr (ps a) u) ∧ News h₀ env.locals h' (nn a) ∧ I i a ∧ i ≤ n ∧ k' = n + 1 - i := by
          rintro ⟨a', h₃', tk₃, m', nx, rfl, F₃, N₃, hm₃, ho₃, hn₃, hI₃⟩
          refine ⟨n + 1 - (i + 1), zn9 (by assumption), h₃', tk₃, m', a', i + 1, rfl, ?_, (ovr_eq hm₃).symm ▸ F₃, news_sub N₃ hn₃, hI₃, hlt, rfl⟩
          refine W.frame _ _ _ hst₁ fun b hb o e => ?_
          cases hn : h₀.get? b with
          | some o₀ =>
            have : o₀ = o := by have := F₁.keep b o₀ hn; rw [e] at this; exact (Option.some.inj this).symm
            exact this ▸ F₃.keep b o₀ hn
          | none => exact (N₃ _ (ho₃ _ (mem_ownOf hb hn e))).1
        cases f with
        | ret v => exact h₃
        | brk => exact h₃
        | cont => exact fin h₃
        | next => exact fin h₃
  · have hin : i = n := by omega
    subst hin
    refine wpAny_mono (W.done _ (fun s₁ => Q .next s₁) hst' fun h₁ tk₁ hk₁ => ?_) (fun r s₁ h₁ => ?_) fun _ _ e => e.elim
    · exact done a u h₁ tk₁ hI' ⟨F'.ns.at' fun o e => hk₁ _ o hLw e, fun b o e => hk₁ b o (old b o e) (F'.keep b o e), F'.above⟩ fun p hp => ⟨hk₁ _ _ (apart p hp) (N' p hp).1, (N' p hp).2⟩
    · obtain ⟨rfl, h₁⟩ := h₁
      refine hZi _ _ ?_
      exact wpAny_execs_nil h₁
end

/-! the part Comps -/
section
open PyProof.Rows.LCg
section
variable {w : World} {A : Around} {s : Shared} {h₀ : Heap} {L : Addr} {m : Str → Option Value} {news : Ledger} {env : Env}

theorem compLoop_any {elt target iter : Expr} {ifs : List Expr} {scope : Scope} {pos : Pos} {it acc : Value} {env : Env} {R : Result → Shared → Prop} (I : Nat → Shared → Prop)
    (turn : ∀ n s, I n s → wpAny (model PG w) A (pyNext it) (fun r s₁ => match r with
      | none => R (.ok .next) s₁
      | some v => wpAny (model PG w) A (letOwnedTupleGo target it v) (fun _ s₁' => wpAny (model PG w) A (assign target env v) (fun _ s₂ =>
          wpAny (model PG w) A (forIn ifs true fun c r => if r = true then do let ok ← isTrue c env (eval c env); pure (ForInStep.yield ok) else pure (ForInStep.yield r)) (fun ok s₃ =>
            if ok = true then wpAny (model PG w) A (eval elt env) (fun x s₄ =>
              wpAny (model PG w) A (call (.builtin "list.append") [acc, x]) (fun _ s₅ => ∃ m, m < n ∧ I m s₅) NoE s₄) NoE s₃
            else ∃ m, m < n ∧ I m s₃) NoE s₂) NoE s₁') NoE s₁) NoE s)
    (n : Nat) (h : I n s) : codeAny (model PG w) A (.compLoop (.ListComp elt [⟨target, iter, ifs, 0⟩] scope pos) 0 it acc env) R s := by
  refine codeAny_loop rfl I (fun n s hI => ?_) n h
  show wpAny _ A ((compTurn (.ListComp elt [⟨target, iter, ifs, 0⟩] scope pos) 0 it acc env).onRaise (fun x => do noteFrame x env; theTreesLotGoes x)) _ _ s
  refine wpAny_noted ?_
  rw [compTurn_list]
  refine wpAny_bind (wpAny_standAt (wpAny_bind (wpAny_mono (turn n s hI) (fun r s₁ h₁ => ?_) fun _ _ h' => h'.elim)))
  cases r with
  | none => exact wpAny_pure h₁
  | some v =>
    refine wpAny_bind (wpAny_mono h₁ (fun _ s₁' h₁' => ?_) fun _ _ h' => h'.elim)
    refine wpAny_bind (wpAny_mono h₁' (fun _ s₂ h₂ => wpAny_bind (wpAny_mono h₂ (fun ok s₃ h₃ => ?_) fun _ _ h' => h'.elim)) fun _ _ h' => h'.elim)
    cases ok with
    | false => exact wpAny_pure ⟨rfl, h₃⟩
    | true =>
      exact wpAny_bind (wpAny_bind (wpAny_mono h₃ (fun x s₄ h₄ => wpAny_bind (wpAny_mono h₄ (fun _ s₅ h₅ => wpAny_pure (wpAny_pure ⟨rfl, h₅⟩)) fun _ _ h' => h'.elim)) fun _ _ h' => h'.elim))

/-- the end of a comprehension's turn: the element y or none -/
noncomputable def CEnd {α : Type} (h₀ : Heap) (L : Addr) (m : Str → Option Value) (s : Shared) (keep : Ledger) (I : List Value → α → Prop) (nn : α → Ledger) (ys : List Value) (s₃ : Shared) : Prop :=
  ∃ a' h' tk nx, s₃ = { s with heap := h', toks := tk } ∧ Fr h₀ L h' m ∧ News h₀ L h' nx ∧ SubL keep nx ∧ SubL (nn a') nx ∧ I ys a'
theorem CEnd.go {α : Type} {h₀ : Heap} {L : Addr} {m : Str → Option Value} {s : Shared} {keep : Ledger} {I : List Value → α → Prop} {nn : α → Ledger} {ys : List Value} (a' : α) {h' : Heap} {tk : Nat} {nx : Ledger}
    (F : Fr h₀ L h' m) (N : News h₀ L h' nx) (hk : SubL keep nx) (hn : SubL (nn a') nx) (hI : I ys a') : CEnd h₀ L m s keep I nn ys { s with heap := h', toks := tk } := ⟨a', h', tk, nx, rfl, F, N, hk, hn, hI⟩

theorem block_drw {α : Type} {elt iter target : Expr} {ifs : List Expr} {scope : Scope} {cl : List (Str × Addr)} {pos : Pos} {J : Addr} {fp wr : List Addr} {n : Nat} {bs : Nat → List (Str × Value) → Prop} {St : Nat → Heap → Prop} {RR : Value → Addr → Result → Shared → Prop}
    (W : ∀ C, Drw w A (compEnvC scope cl C env) target J fp wr n bs St) (hbs : ∀ i ps u, bs i ps → AllIn ps (ovr ps u)) (hsz : n < 1000000)
    (hcell : ∀ y ∈ scope.names, y.2 ≠ .cell) (hkind : scope.kind = .function) (hst : St 0 s.heap) (hfp : ∀ b ∈ fp, b < s.heap.objs.size)
    (I : Nat → List Value → α → Prop) (nn : α → Ledger) (a₀ : α) (adr : List Addr) (hadr : ∀ a, (nn a).map (·.1) = adr)
    (F : Fr h₀ L s.heap m) (N : News h₀ L s.heap news) (hn : SubL (nn a₀) news) (hI : I 0 [] a₀) (hLf : L ∉ fp) (hwr : ∀ b ∈ wr, h₀.get? b = none) (hnw : ∀ b ∈ adr, b ∉ wr)
    (turn : ∀ i ps ys a C oC m₂ D h tk own, i < n → bs i ps → I i ys a → ys.length ≤ i → NsObj oC m₂ → AllIn ps m₂ → Fr h₀ L h m → News h₀ L h ((C, oC) :: (D, lst ys) :: (own ++ nn a)) → C ≠ D → (∀ b ∈ adr, b ≠ C ∧ b ≠ D) → (∀ p ∈ own, p.1 ≠ C ∧ p.1 ≠ D) →
      wpAny (model PG w) A (forIn ifs true fun c r => if r = true then do let ok ← isTrue c (compEnvC scope cl C env) (eval c (compEnvC scope cl C env)); pure (ForInStep.yield ok) else pure (ForInStep.yield r)) (fun ok s₃ =>
        if ok = true then wpAny (model PG w) A (eval elt (compEnvC scope cl C env)) (fun y s₄ => CEnd h₀ L m s ((C, oC) :: (D, lst ys) :: own) (I (i + 1)) nn (ys ++ [y]) s₄) NoE s₃
        else CEnd h₀ L m s ((C, oC) :: (D, lst ys) :: own) (I (i + 1)) nn ys s₃) NoE { s with heap := h, toks := tk })
    (hRR : ∀ D C h tk m' ys a, Fr h₀ L h m → News h₀ L h ((D, lst ys) :: nn a) → (∀ b ∈ adr, b ≠ D) → h.Ns C m' → h₀.get? C = none → h₀.get? D = none → C ≠ L → D ≠ L → C ≠ D → (∀ b ∈ adr, b ≠ C) → I n ys a → RR (.ref D) C (.ok .next) { s with heap := h, toks := tk }) :
    wpAny (model PG w) A (newList []) (fun acc s₃ => wpAny (model PG w) A (newFunctionEnv scope env.globals cl [] env.qual none .none (some env)) (fun cenv s₄ =>
      codeAny (model PG w) A (.compStart (.ListComp elt [⟨target, iter, ifs, 0⟩] scope pos) 0 (.ref J) acc { cenv with scope := relabel scope env }) (RR acc cenv.locals) s₄) NoE s₃) NoE s := by
  refine wpAny_newObj_type (wpAny_newFunctionEnv hcell (by intro y hy; simp at hy) (fun h₁ hns₁ hsb₁ => ?_) hkind)
  dsimp only at hns₁ hsb₁ ⊢
  generalize hH2 : s.heap.push { cls := .type "list", dict := none, data := .seq ([] : List Value).toArray } = H2 at hns₁ hsb₁ ⊢
  have hC : H2.objs.size = s.heap.objs.size + 1 := by rw [← hH2, Heap.size_push]
  have hDC : s.heap.objs.size ≠ H2.objs.size := by rw [hC]; exact Nat.ne_of_lt (Nat.lt_succ_self _)
  have below : ∀ b, b < s.heap.objs.size → b ≠ H2.objs.size ∧ b ≠ s.heap.objs.size := fun b hb => ⟨by rw [hC]; exact Nat.ne_of_lt (Nat.lt_succ_of_lt hb), Nat.ne_of_lt hb⟩
  have hDf : s.heap.objs.size ∉ fp := fun hm => Nat.lt_irrefl _ (hfp _ hm)
  have hCf : H2.objs.size ∉ fp := fun hm => by have := hfp _ hm; rw [hC] at this; exact Nat.lt_irrefl _ (Nat.lt_of_succ_lt this)
  have old : ∀ b o, s.heap.get? b = some o → h₁.get? b = some o := fun b o e => hsb₁.extBut b o (below b (Heap.lt_size e)).1 (Heap.get?_push_of_some _ (hH2 ▸ Heap.get?_push_of_some _ e))
  have hacc : h₁.get? s.heap.objs.size = some (lst []) := hsb₁.extBut _ _ hDC (Heap.get?_push_of_some _ (hH2 ▸ Heap.get?_push_size _ rfl))
  have fresh : ∀ a, s.heap.objs.size ≤ a → s.heap.get? a = none := fun a ha => by
    cases e : s.heap.get? a with
    | none => rfl
    | some o' => exact absurd (Heap.lt_size e) (Nat.not_lt.mpr ha)
  have fresh₀ : ∀ a, s.heap.objs.size ≤ a → h₀.get? a = none := fun a ha => by
    cases e : h₀.get? a with
    | none => rfl
    | some o' => have := F.keep a o' e; rw [fresh a ha] at this; cases this
  have hD₀ : h₀.get? s.heap.objs.size = none := fresh₀ _ (Nat.le_refl _)
  have hC₀ : h₀.get? H2.objs.size = none := fresh₀ _ (by rw [hC]; exact Nat.le_succ _)
  have hLlt : L < s.heap.objs.size := F.ns.lt
  have hDL : s.heap.objs.size ≠ L := Ne.symm (below L hLlt).2
  have hCL : H2.objs.size ≠ L := Ne.symm (below L hLlt).1
  have hLw : L ∉ wr := fun h => hLf ((W 0).sub _ h)
  have oldw : ∀ b o, h₀.get? b = some o → b ∉ wr := fun b o e hb => by rw [hwr b hb] at e; cases e
  have hCw : H2.objs.size ∉ wr := fun h => hCf ((W 0).sub _ h)
  have hDw : s.heap.objs.size ∉ wr := fun h => hDf ((W 0).sub _ h)
  have adrlt : ∀ b ∈ adr, b < s.heap.objs.size := fun b hb => by
    rw [← hadr a₀] at hb
    obtain ⟨p, hp, rfl⟩ := List.mem_map.mp hb
    exact Heap.lt_size (N p (hn p hp)).1
  have offA : ∀ b ∈ adr, b ≠ H2.objs.size ∧ b ≠ s.heap.objs.size := fun b hb => below b (adrlt b hb)
  have mem_adr : ∀ {a p}, p ∈ nn a → p.1 ∈ adr := fun {a p} hp => hadr a ▸ List.mem_map.mpr ⟨p, hp, rfl⟩
  have loop : ∀ s₃ : Shared, (∃ h tk, s₃ = { s with heap := h, toks := tk } ∧ St 0 h ∧ Fr h₀ L h m ∧ h.Ns H2.objs.size (fun _ => none) ∧ News h₀ L h ((s.heap.objs.size, lst []) :: nn a₀)) →
      codeAny (model PG w) A (.compLoop (.ListComp elt [⟨target, iter, ifs, 0⟩] scope pos) 0 (.ref J) (.ref s.heap.objs.size) (compEnvC scope cl H2.objs.size env))
        (RR (.ref s.heap.objs.size) H2.objs.size) s₃ := by
    rintro s₃ ⟨hh₃, tk₃, rfl, hst₃, F₃, hns₃, N₃⟩
    refine compLoop_any
      (fun k s' => ∃ h' tk i ys m' a, s' = { s with heap := h', toks := tk } ∧ i ≤ n ∧ k = n + 1 - i ∧ ys.length ≤ i ∧ St i h' ∧ Fr h₀ L h' m ∧ h'.Ns H2.objs.size m' ∧ News h₀ L h' ((s.heap.objs.size, lst ys) :: nn a) ∧ I i ys a) ?_ (n + 1)
      ⟨hh₃, tk₃, 0, [], _, a₀, rfl, Nat.zero_le _, rfl, Nat.le_refl _, hst₃, F₃, hns₃, N₃, hI⟩
    intro k s' hInv
    refine wpZE fun Zi Yi hZi => ?_
    obtain ⟨h', tk, i, ys, m', a, rfl, hi, rfl, hyl, hst', F', hn', N', hI'⟩ := hInv
    by_cases hlt : i < n
    · refine wpAny_mono ((W H2.objs.size).item i _ _ (fun s₂ => ∃ oC own, wpAny (model PG w) A (forIn ifs true fun c r => if r = true then do let ok ← isTrue c (compEnvC scope cl H2.objs.size env) (eval c (compEnvC scope cl H2.objs.size env)); pure (ForInStep.yield ok) else pure (ForInStep.yield r)) (fun ok s₃ =>
          if ok = true then wpAny (model PG w) A (eval elt (compEnvC scope cl H2.objs.size env)) (fun y s₄ => CEnd h₀ L m s ((H2.objs.size, oC) :: (s.heap.objs.size, lst ys) :: own) (I (i + 1)) nn (ys ++ [y]) s₄) NoE s₃
          else CEnd h₀ L m s ((H2.objs.size, oC) :: (s.heap.objs.size, lst ys) :: own) (I (i + 1)) nn ys s₃) NoE s₂ ∧ St (i + 1) s₂.heap ∧ own = ownOf h₀ fp s₂.heap ∧ (∃ m₂, NsObj oC m₂) ∧ Fr h₀ L s₂.heap m) hlt hst' hn' hCf fun qs h₁' tk₁ hb hst₁ hn₁ hk₁ => ?_) (fun r s₁ h₁ => ?_) fun _ _ e => e.elim
      · have F₁ : Fr h₀ L h₁' m := ⟨F'.ns.at' fun o e => hk₁ _ o hLw (Ne.symm hCL) e, fun b o e => hk₁ b o (oldw b o e) (fun q => by have q' : b = H2.objs.size := q; rw [q', hC₀] at e; cases e) (F'.keep b o e), F'.above⟩
        have N₁ : News h₀ L h₁' ((s.heap.objs.size, lst ys) :: nn a) := fun p hp => by
          refine ⟨hk₁ _ _ ?_ ?_ (N' p hp).1, (N' p hp).2⟩
          · rcases List.mem_cons.mp hp with rfl | hp
            · exact hDw
            · exact hnw _ (mem_adr hp)
          · rcases List.mem_cons.mp hp with rfl | hp
            · exact hDC
            · exact (offA _ (mem_adr hp)).1
        have Nown : News h₀ L h₁' (ownOf h₀ fp h₁') := news_ownOf hLf
        obtain ⟨oC, heC, hoC⟩ := ns_obj hn₁
        have hps : AllIn qs (ovr qs m') := hbs i qs m' hb
        refine ⟨oC, _, turn i qs ys a H2.objs.size oC _ s.heap.objs.size h₁' tk₁ (ownOf h₀ fp h₁') hlt hb hI' hyl hoC hps F₁ (fun p hp => ?_) (Ne.symm hDC) offA (fun p hp => ?_), hst₁, rfl, ⟨_, hoC⟩, F₁⟩
        · rcases List.mem_cons.mp hp with rfl | hp
          · exact ⟨heC, hCL, hC₀⟩
          · rcases List.mem_cons.mp hp with rfl | hp
            · exact N₁ _ List.mem_cons_self
            · rcases List.mem_append.mp hp with hp | hp
              · exact Nown p hp
              · exact N₁ _ (List.mem_cons_of_mem _ hp)
        · have := ownOf_sub p hp
          exact ⟨fun q => hCf (q ▸ this), fun q => hDf (q ▸ this)⟩
      · refine hZi _ _ ?_
        cases r with
        | none => exact h₁.elim
        | some v =>
          refine wpAny_mono h₁ (fun _ s₁' h₁' => ?_) fun _ _ e => e.elim
          refine wpAny_mono h₁' (fun _ s₂ h₂ => ?_) fun _ _ e => e.elim
          refine wpZE fun Zj Yj hZj => ?_
          obtain ⟨oC, own, h₂, hst₁, rfl, ⟨m₂, hoC⟩, F₁⟩ := h₂
          have stNext : ∀ {h₄ : Heap} {nx : Ledger}, Fr h₀ L h₄ m → News h₀ L h₄ nx → SubL ((H2.objs.size, oC) :: (s.heap.objs.size, lst ys) :: ownOf h₀ fp s₂.heap) nx → St (i + 1) h₄ := fun {h₄ nx} F₄ N₄ hk => (W 0).frame _ _ _ hst₁ fun b hb o e => by
            cases hn : h₀.get? b with
            | some o₀ =>
              have : o₀ = o := by have := F₁.keep b o₀ hn; rw [e] at this; exact (Option.some.inj this).symm
              exact this ▸ F₄.keep b o₀ hn
            | none => exact (N₄ _ (hk _ (List.mem_cons_of_mem _ (List.mem_cons_of_mem _ (mem_ownOf hb hn e))))).1
          refine wpAny_mono h₂ (fun ok s₃ h₃ => ?_) fun _ _ e => e.elim
          refine hZj _ _ ?_
          cases ok with
          | false =>
            simp only [Bool.false_eq_true, if_false] at h₃ ⊢
            obtain ⟨a', h₄, tk₄, nx, rfl, F₄, N₄, hk₄, hn₄, hI₄⟩ := h₃
            refine ⟨n + 1 - (i + 1), zn9 (by assumption), h₄, tk₄, i + 1, ys, _, a', rfl, hlt, rfl, Nat.le_succ_of_le hyl, stNext F₄ N₄ hk₄, F₄, hoC.ns (N₄ _ (hk₄ _ List.mem_cons_self)).1, fun p hp => ?_, hI₄⟩
            rcases List.mem_cons.mp hp with rfl | hp
            · exact N₄ _ (hk₄ _ (List.mem_cons_of_mem _ List.mem_cons_self))
            · exact N₄ _ (hn₄ _ hp)
          | true =>
            simp only [if_true] at h₃ ⊢
            refine wpAny_mono h₃ (fun y s₄ h₄ => ?_) fun _ _ e => e.elim
            obtain ⟨a', h₄, tk₄, nx, rfl, F₄, N₄, hk₄, hn₄, hI₄⟩ := h₄
            have zD := (N₄ (s.heap.objs.size, lst ys) (hk₄ _ (List.mem_cons_of_mem _ List.mem_cons_self))).1
            have zC := (N₄ (H2.objs.size, oC) (hk₄ _ List.mem_cons_self)).1
            refine append_at (hsz := by show ys.toArray.size ≤ sizeLine; rw [List.size_toArray, sizeLine_eq]; omega) zD fun h₅ hs₅ hD₅ => ?_
            refine ⟨n + 1 - (i + 1), zn9 (by assumption), h₅, tk₄, i + 1, ys ++ [y], _, a', rfl, hlt, rfl, by rw [List.length_append, List.length_singleton]; omega, (W 0).frame _ _ _ (stNext F₄ N₄ hk₄) fun b hb o e => hs₅.extBut b o (fun q => hDf (q ▸ hb)) e, F₄.change hs₅ hDL hD₀,
              (hoC.ns zC).sameBut hs₅ (Ne.symm hDC), fun p hp => ?_, hI₄⟩
            rcases List.mem_cons.mp hp with rfl | hp
            · exact ⟨hD₅.trans (congrArg some (lst_snoc ys y)), hDL, hD₀⟩
            · exact ⟨hs₅.extBut _ _ (offA _ (mem_adr hp)).2 (N₄ _ (hn₄ _ hp)).1, (N₄ _ (hn₄ _ hp)).2⟩
    · obtain rfl : i = n := Nat.le_antisymm hi (Nat.not_lt.mp hlt)
      refine wpAny_mono ((W 0).done _ (fun s₁ => RR (.ref s.heap.objs.size) H2.objs.size (.ok .next) s₁) hst' fun h₂ tk₂ hk₂ => ?_) (fun r s₁ h₁ => ?_) fun _ _ e => e.elim
      · refine hRR _ _ h₂ tk₂ _ ys a ⟨F'.ns.at' fun o e => hk₂ _ o hLw e, fun b o e => hk₂ b o (oldw b o e) (F'.keep b o e), F'.above⟩ (fun p hp => ⟨hk₂ _ _ ?_ (N' p hp).1, (N' p hp).2⟩) (fun b hb => (offA b hb).2) (hn'.at' fun o e => hk₂ _ o hCw e) hC₀ hD₀ hCL hDL (Ne.symm hDC) (fun b hb => (offA b hb).1) hI'
        rcases List.mem_cons.mp hp with rfl | hp
        · exact hDw
        · exact hnw _ (mem_adr hp)
      · obtain ⟨rfl, h₁⟩ := h₁
        refine hZi _ _ ?_
        exact h₁
  have start : ∃ h tk, ({ s with heap := h₁, toks := s.toks + ([] : List (Str × Value)).length } : Shared) = { s with heap := h, toks := tk } ∧ St 0 h ∧ Fr h₀ L h m ∧ h.Ns H2.objs.size (fun _ => none) ∧ News h₀ L h ((s.heap.objs.size, lst []) :: nn a₀) :=
    ⟨h₁, _, rfl, (W 0).frame _ _ _ hst fun b _ o e => old b o e, F.keeps old, hns₁, fun p hp => by
      rcases List.mem_cons.mp hp with rfl | hp
      · exact ⟨hacc, hDL, hD₀⟩
      · exact ⟨old _ _ (N p (hn p hp)).1, (N p (hn p hp)).2⟩⟩
  exact codeAny_compStart_list (loop _ start) (wpAny_mono ((W 0).self 0 _ (fun it' s' => codeAny (model PG w) A (.compLoop (.ListComp elt [⟨target, iter, ifs, 0⟩] scope pos) 0 it' (.ref s.heap.objs.size) (compEnvC scope cl H2.objs.size env)) (RR (.ref s.heap.objs.size) H2.objs.size) s') ((W 0).frame _ _ _ hst fun b _ o e => old b o e) (loop _ start)) (fun _ _ x => x) fun _ _ e => e.elim)

/-- what a comprehension does behind its iterator -/
noncomputable def CompGo (w : World) (A : Around) (e : Expr) (scope : Scope) (cl : List (Str × Addr)) (env : Env) (use : Option (Value → Sem Unit)) (Q : Value → Shared → Prop) (it : Value) (s₂ : Shared) : Prop :=
  wpAny (model PG w) A (newList []) (fun acc s₃ => wpAny (model PG w) A (newFunctionEnv scope env.globals cl [] env.qual none .none (some env)) (fun cenv s₄ =>
    codeAny (model PG w) A (.compStart e 0 it acc { cenv with scope := relabel scope env }) (compPost (model PG w) A NoE use Q acc cenv.locals) s₄) NoE s₃) NoE s₂
theorem comp_eval {elt iter target : Expr} {ifs : List Expr} {scope : Scope} {cl : List (Str × Addr)} {pos : Pos} {Q : Value → Shared → Prop}
    (hclos : closureFor scope env = pure cl) (hkind : scope.kind = .function) (hnames : ∀ y ∈ scope.names, y.2 = .local → scope.names.lookup y.1 = some .local)
    (h : wpAny (model PG w) A (eval iter env) (fun xv s₁ => wpAny (model PG w) A (pyIter xv) (fun it s₂ => CompGo w A (.ListComp elt [⟨target, iter, ifs, 0⟩] scope pos) scope cl env none Q it s₂) NoE s₁) NoE s)
    (hs : ∀ x, foldedSetIterable iter env x = pure x) :
    wpAny (model PG w) A (eval (.ListComp elt [⟨target, iter, ifs, 0⟩] scope pos) env) Q NoE s := by
  rw [eval_ListComp]
  exact wpAny_comprehension_free (use := none) rfl hs hclos hkind hnames h
theorem comp_assign {elt iter target : Expr} {ifs : List Expr} {scope : Scope} {cl : List (Str × Addr)} {pos spos py : Pos} {y : Str} {Q : Flow → Shared → Prop}
    (hsw : swapsWith (.ListComp elt [⟨target, iter, ifs, 0⟩] scope pos) (some (.Name y py)) spos.line env = pure true)
    (hclos : closureFor scope env = pure cl) (hkind : scope.kind = .function) (hnames : ∀ y ∈ scope.names, y.2 = .local → scope.names.lookup y.1 = some .local)
    (h : wpAny (model PG w) A (eval iter env) (fun xv s₁ => wpAny (model PG w) A (pyIter xv) (fun it s₂ => CompGo w A (.ListComp elt [⟨target, iter, ifs, 0⟩] scope pos) scope cl env (some (assign (.Name y py) env)) (fun _ s' => Q .next s') it s₂) NoE s₁) NoE s)
    (hs : ∀ x, foldedSetIterable iter env x = pure x) :
    wpAny (model PG w) A (exec (.Assign [.Name y py] (.ListComp elt [⟨target, iter, ifs, 0⟩] scope pos) spos) env) Q NoE s := by
  rw [exec_Assign_Name_used _ _ _ _ hsw]
  refine wpAny_bind (wpAny_standAt (wpAny_bind ?_))
  show wpAny _ A (do let _ ← comprehension (.ListComp elt [⟨target, iter, ifs, 0⟩] scope pos) scope env _ (newList []) false (eval iter env) (some (assign (.Name y py) env))) _ _ s
  exact wpAny_bind (wpAny_mono (wpAny_comprehension_free (use := some (assign (.Name y py) env)) (Q := fun _ s' => Q .next s') rfl hs hclos hkind hnames h) (fun _ s' hq => wpAny_pure (wpAny_pure hq)) fun _ _ e => e)

theorem compGo_eval {α : Type} {elt iter target : Expr} {ifs : List Expr} {scope : Scope} {cl : List (Str × Addr)} {pos : Pos} {Q : Value → Shared → Prop} {J : Addr} {fp wr : List Addr} {n : Nat} {bs : Nat → List (Str × Value) → Prop} {St : Nat → Heap → Prop}
    (W : ∀ C, Drw w A (compEnvC scope cl C env) target J fp wr n bs St) (hbs : ∀ i ps u, bs i ps → AllIn ps (ovr ps u)) (hsz : n < 1000000)
    (hcell : ∀ y ∈ scope.names, y.2 ≠ .cell) (hkind : scope.kind = .function) (hst : St 0 s.heap) (hfp : ∀ b ∈ fp, b < s.heap.objs.size)
    (I : Nat → List Value → α → Prop) (nn : α → Ledger) (a₀ : α) (adr : List Addr) (hadr : ∀ a, (nn a).map (·.1) = adr)
    (F : Fr h₀ L s.heap m) (N : News h₀ L s.heap news) (hn : SubL (nn a₀) news) (hI : I 0 [] a₀) (hLf : L ∉ fp) (hwr : ∀ b ∈ wr, h₀.get? b = none) (hnw : ∀ b ∈ adr, b ∉ wr)
    (turn : ∀ i ps ys a C oC m₂ D h tk own, i < n → bs i ps → I i ys a → ys.length ≤ i → NsObj oC m₂ → AllIn ps m₂ → Fr h₀ L h m → News h₀ L h ((C, oC) :: (D, lst ys) :: (own ++ nn a)) → C ≠ D → (∀ b ∈ adr, b ≠ C ∧ b ≠ D) → (∀ p ∈ own, p.1 ≠ C ∧ p.1 ≠ D) →
      wpAny (model PG w) A (forIn ifs true fun c r => if r = true then do let ok ← isTrue c (compEnvC scope cl C env) (eval c (compEnvC scope cl C env)); pure (ForInStep.yield ok) else pure (ForInStep.yield r)) (fun ok s₃ =>
        if ok = true then wpAny (model PG w) A (eval elt (compEnvC scope cl C env)) (fun y s₄ => CEnd h₀ L m s ((C, oC) :: (D, lst ys) :: own) (I (i + 1)) nn (ys ++ [y]) s₄) NoE s₃
        else CEnd h₀ L m s ((C, oC) :: (D, lst ys) :: own) (I (i + 1)) nn ys s₃) NoE { s with heap := h, toks := tk })
    (fin : ∀ D h tk ys a, Fr h₀ L h m → News h₀ L h ((D, lst ys) :: nn a) → (∀ b ∈ adr, b ≠ D) → I n ys a → Q (.ref D) { s with heap := h, toks := tk }) :
    CompGo w A (.ListComp elt [⟨target, iter, ifs, 0⟩] scope pos) scope cl env none Q (.ref J) s := by
  unfold CompGo
  refine block_drw W hbs hsz hcell hkind hst hfp I nn a₀ adr hadr F N hn hI hLf hwr hnw turn fun D C h tk m' ys a F' N' oD hns hC₀ hD₀ hCL hDL hCD oC hI' => ?_
  refine ⟨m', hns, fun h'' hs'' => fin D h'' tk ys a (F'.change hs'' hCL hC₀) (fun p hp => ⟨hs''.extBut _ _ ?_ (N' p hp).1, (N' p hp).2⟩) oD hI'⟩
  rcases List.mem_cons.mp hp with rfl | hp
  · exact Ne.symm hCD
  · exact oC _ (hadr a ▸ List.mem_map.mpr ⟨p, hp, rfl⟩)
theorem compGo_assign {α : Type} {elt iter target : Expr} {ifs : List Expr} {scope : Scope} {cl : List (Str × Addr)} {pos py : Pos} {y : Str} {Q : Flow → Shared → Prop} {J : Addr} {fp wr : List Addr} {n : Nat} {bs : Nat → List (Str × Value) → Prop} {St : Nat → Heap → Prop}
    (hL : env.locals = L) (hy : env.kindOf y = some .local) (hp : (env.scope.kind == .class || (env.scope.kind == .module && env.locals != env.globals)) = false)
    (W : ∀ C, Drw w A (compEnvC scope cl C env) target J fp wr n bs St) (hbs : ∀ i ps u, bs i ps → AllIn ps (ovr ps u)) (hsz : n < 1000000)
    (hcell : ∀ y ∈ scope.names, y.2 ≠ .cell) (hkind : scope.kind = .function) (hst : St 0 s.heap) (hfp : ∀ b ∈ fp, b < s.heap.objs.size)
    (I : Nat → List Value → α → Prop) (nn : α → Ledger) (a₀ : α) (adr : List Addr) (hadr : ∀ a, (nn a).map (·.1) = adr)
    (F : Fr h₀ L s.heap m) (N : News h₀ L s.heap news) (hn : SubL (nn a₀) news) (hI : I 0 [] a₀) (hLf : L ∉ fp) (hwr : ∀ b ∈ wr, h₀.get? b = none) (hnw : ∀ b ∈ adr, b ∉ wr)
    (turn : ∀ i ps ys a C oC m₂ D h tk own, i < n → bs i ps → I i ys a → ys.length ≤ i → NsObj oC m₂ → AllIn ps m₂ → Fr h₀ L h m → News h₀ L h ((C, oC) :: (D, lst ys) :: (own ++ nn a)) → C ≠ D → (∀ b ∈ adr, b ≠ C ∧ b ≠ D) → (∀ p ∈ own, p.1 ≠ C ∧ p.1 ≠ D) →
      wpAny (model PG w) A (forIn ifs true fun c r => if r = true then do let ok ← isTrue c (compEnvC scope cl C env) (eval c (compEnvC scope cl C env)); pure (ForInStep.yield ok) else pure (ForInStep.yield r)) (fun ok s₃ =>
        if ok = true then wpAny (model PG w) A (eval elt (compEnvC scope cl C env)) (fun y s₄ => CEnd h₀ L m s ((C, oC) :: (D, lst ys) :: own) (I (i + 1)) nn (ys ++ [y]) s₄) NoE s₃
        else CEnd h₀ L m s ((C, oC) :: (D, lst ys) :: own) (I (i + 1)) nn ys s₃) NoE { s with heap := h, toks := tk })
    (fin : ∀ D h tk ys a, Fr h₀ L h (fun z => if z = y then some (.ref D) else m z) → News h₀ L h ((D, lst ys) :: nn a) → (∀ b ∈ adr, b ≠ D) → I n ys a → Q .next { s with heap := h, toks := tk }) :
    CompGo w A (.ListComp elt [⟨target, iter, ifs, 0⟩] scope pos) scope cl env (some (assign (.Name y py) env)) (fun _ s' => Q .next s') (.ref J) s := by
  subst hL
  unfold CompGo
  refine block_drw W hbs hsz hcell hkind hst hfp I nn a₀ adr hadr F N hn hI hLf hwr hnw turn fun D C h tk m' ys a F' N' oD hns hC₀ hD₀ hCL hDL hCD oC hI' => ?_
  show wpAny _ A (assign (.Name y py) env (.ref D)) _ _ _
  refine wpAny_assign_Name (wpAny_storeName_local hy F'.ns (fun h₂ hn₂ hs₂ => ?_) hp)
  have hL₀ : h₀.get? env.locals = none := Heap.get?_none_of_le F'.above
  have F₂ : Fr h₀ env.locals h₂ (fun z => if z = y then some (.ref D) else m z) := ⟨hn₂, fun b o e => hs₂.extBut b o (fun q => by rw [q, hL₀] at e; cases e) (F'.keep b o e), F'.above⟩
  refine ⟨m', hns.sameBut hs₂ hCL, fun h'' hs'' => fin D h'' _ ys a (F₂.change hs'' hCL hC₀) (fun p hp => ?_) oD hI'⟩
  have z : h₂.get? p.1 = some p.2 := hs₂.extBut _ _ (N' p hp).2.1 (N' p hp).1
  refine ⟨hs''.extBut _ _ ?_ z, (N' p hp).2⟩
  rcases List.mem_cons.mp hp with rfl | hp
  · exact Ne.symm hCD
  · exact oC _ (hadr a ▸ List.mem_map.mpr ⟨p, hp, rfl⟩)
end
end

/-! the part Iters -/
section
open PyProof.Rows.LCg
theorem ints_item {its : Array Value} {xs : List Int} (h : IntsAre its.toList xs) {i : Nat} {v : Value} (hv : its[i]? = some v) : ∃ t, i < xs.length ∧ v = .int (xs.getD i 0) t := by
  have hlen := h.length
  have hi : i < its.size := by
    rcases Nat.lt_or_ge i its.size with h | h
    · exact h
    · rw [Array.getElem?_eq_none h] at hv; cases hv
  have hi2 : i < xs.length := by rw [← hlen]; simpa using hi
  obtain ⟨t, hx⟩ := h.get i xs[i] (by simp [hi2])
  refine ⟨t, hi2, ?_⟩
  have h2 : its.toList[i]? = some v := by simpa using hv
  rw [hx] at h2
  rw [← Option.some.inj h2]
  simp [List.getD_eq_getElem?_getD, hi2]
theorem ints_size {its : Array Value} {xs : List Int} (h : IntsAre its.toList xs) : its.size = xs.length := by
  have := h.length; simpa using this
noncomputable def ClsOk : Ledger → Prop
  | [] => True
  | p :: r => ¬ iterCls p.2 ∧ ClsOk r
theorem ClsOk.all {l : Ledger} (h : ClsOk l) : ∀ p ∈ l, ¬ iterCls p.2 := by
  induction l with
  | nil => intro p hp; cases hp
  | cons q r ih =>
    intro p hp
    cases hp with
    | head => exact h.1
    | tail _ hp => exact ih h.2 p hp
theorem not_iter_list {its : Array Value} {n : Nat} : ¬ iterCls (listOf its n) := by
  rintro (h | h | h)
  · exact absurd (Value.type.inj (show Value.type "list" = Value.type "list_iterator" from h)) (by decide)
  · exact absurd (Value.type.inj (show Value.type "list" = Value.type "range_iterator" from h)) (by decide)
  · exact absurd (Value.type.inj (show Value.type "list" = Value.type "enumerate" from h)) (by decide)
section
variable {w : World} {A : Around} {s : Shared} {h₀ : Heap} {L : Addr} {m : Str → Option Value} {news : Ledger} {env : Env}

theorem list_ne_L {l : Addr} {items : Array Value} (F : Fr h₀ L s.heap m) (hl : s.heap.IsList l items) : l ≠ L := by
  obtain ⟨ol, hol, hcl, nl, hdl⟩ := hl
  obtain ⟨oL, esL, epL, hL, hdL, _⟩ := F.ns
  intro e
  rw [e, hL] at hol
  rw [← Option.some.inj hol, hdL] at hdl
  cases hdl

theorem iter_list {α : Type} {x : Str} {px : Pos} {body : List Stmt} {Q : Flow → Shared → Prop} {l : Addr} {items : Array Value} {xs : List Int} (hh : A.handled = none) (hl : s.heap.IsList l items) (ia : IntsAre items.toList xs) (hx : env.kindOf x = some .local)
    (hp : (env.scope.kind == .class || (env.scope.kind == .module && env.locals != env.globals)) = false)
    (I : Nat → α → Prop) (ps : α → List (Str × Value)) (nn : α → Ledger) (a₀ : α) (hnn : ∀ i a, I i a → ClsOk (nn a))
    (F : Fr h₀ env.locals s.heap m) (N : News h₀ env.locals s.heap news) (hm : AllIn (ps a₀) m) (hn : SubL (nn a₀) news) (hI : I 0 a₀)
    (turn : ∀ i t a u h tk own, i < xs.length → I i a → Fr h₀ env.locals h (fun y => if y = x then some (.int (xs.getD i 0) t) else ovr (ps a) u y) → News h₀ env.locals h (own ++ nn a) →
      wpAny (model PG w) A (execs body env) (FEnd h₀ env.locals s own I ps nn Q i) NoE { s with heap := h, toks := tk })
    (done : ∀ a u h tk, I xs.length a → Fr h₀ env.locals h (ovr (ps a) u) → News h₀ env.locals h (nn a) → Q .next { s with heap := h, toks := tk }) :
    wpAny (model PG w) A (pyIter (.ref l)) (fun it s₂ => codeAny (model PG w) A (.forLoop (.Name x px) it body [] env) (fun r s' => match r with | .ok f => Q f s' | .error e => cameBackBy (model PG w) A env NoE e s') s₂) NoE s := by
  have hlL := list_ne_L F hl
  obtain ⟨ol, hol, hcl, nl, hdl⟩ := id hl
  have hlt : l < s.heap.objs.size := Heap.lt_size hol
  have hne : l ≠ s.heap.objs.size := Nat.ne_of_lt hlt
  refine wpAny_pyIter_list hl ?_
  have W := Drw.name (px := px) (Walks.list (prog := PG) (w := w) hh s.heap.objs.size l hne items) hx hp
  rw [ints_size ia] at W
  refine for_drw W I ps nn a₀ ?_ ?_ ?_ (fun i a h => (hnn i a h).all) ⟨⟨_, Heap.get?_push_size _ rfl, rfl, rfl⟩, hl.at fun o e => Heap.get?_push_of_some _ e⟩ (F.push _) (fun p hp => ⟨Heap.get?_push_of_some _ (N p hp).1, (N p hp).2⟩) hm hn hI ?_ done
  · intro hmem
    rcases List.mem_cons.mp hmem with e | hmem
    · exact absurd F.ns.lt (e ▸ Nat.lt_irrefl _)
    · exact hlL (List.mem_singleton.mp hmem).symm
  · intro b hb
    rw [List.mem_singleton.mp hb]
    exact next_is_new F
  · rintro i h o ⟨⟨o', e', c', _⟩, _⟩ b hb e
    rw [List.mem_singleton.mp hb, e'] at e
    cases e
    exact .inl c'
  · rintro i qs a u h tk own hi ⟨v, hv, rfl⟩ hI' F' N'
    obtain ⟨t, hi2, rfl⟩ := ints_item ia hv
    exact turn i t a u h tk own hi hI' F' N'

theorem rsize_n (n : Nat) : Builtin.Range.rangeSize 0 (n : Int) 1 = (n : Int) := by
  unfold Builtin.Range.rangeSize
  rw [if_pos (by decide)]
  split <;> lia
theorem fits_n (n : Int) (h0 : -1000000 < n) (h : n < 1000000) : Builtin.Range.rangeFitsLong n = true := by
  unfold Builtin.Range.rangeFitsLong
  simp
  omega
theorem small_n (n : Nat) (h : n < 1000000) : Builtin.Range.small 0 (n : Int) 1 = true := by
  unfold Builtin.Range.small
  rw [rsize_n]
  have h1 := fits_n n (by omega) (by omega)
  have h2 : Builtin.Range.rangeFitsLong 0 = true := by decide
  have h3 : Builtin.Range.rangeFitsLong 1 = true := by decide
  simp [h1, h2, h3]
/-- enumerate over a list of ints -/
theorem go_enum {l : Addr} {items : Array Value} {K : Value → Shared → Prop} (hl : s.heap.IsList l items) (F : Fr h₀ L s.heap m) (N : News h₀ L s.heap news)
    (h : ∀ e it h', Fr h₀ L h' m → News h₀ L h' news → h'.IsList l items → IsEnum h' e it 0 .none → h'.IsListIter it l 0 → e ≠ it → l ≠ it → e ∉ [it, l] → L ∉ [e, it, l] → (∀ b ∈ [e, it], h₀.get? b = none) → (∀ b ∈ [e, it, l], b < h'.objs.size) →
      (∀ p ∈ news, p.1 ∉ [e, it]) → K (.ref e) { s with heap := h' }) (hh : A.handled = none) :
    wpAny (model PG w) A (call (.type "enumerate") [.ref l]) (fun xv s₁ => wpAny (model PG w) A (pyIter xv) K NoE s₁) NoE s := by
  have hlL := list_ne_L F hl
  obtain ⟨ol, hol, _⟩ := id hl
  have hlt : l < s.heap.objs.size := Heap.lt_size hol
  have hLs : L < s.heap.objs.size := F.ns.lt
  have hab : h₀.objs.size ≤ L := F.above
  refine call_enumerate_list hl fun h' he hit hsz hk => ?_
  have W := WalksT.enumerateD (prog := PG) (w := w) (Draws.list (A := A.in1) hh s.heap.objs.size l (Nat.ne_of_lt hlt) items) (s.heap.objs.size + 1) (Nat.succ_ne_self _) (by
    intro hm
    rcases List.mem_cons.mp hm with e | hm
    · exact Nat.succ_ne_self _ e
    · exact Nat.ne_of_gt (Nat.lt_succ_of_lt hlt) (List.mem_singleton.mp hm)) (by simp)
  refine W.self 0 _ _ _ ⟨⟨_, he⟩, hit, hl.at fun o e => hk l o e⟩ ?_
  refine h (s.heap.objs.size + 1) s.heap.objs.size h' (F.keeps hk) (news_grown N hk) (hl.at fun o e => hk l o e) he hit (Nat.succ_ne_self _) (Nat.ne_of_lt hlt) ?_ ?_ ?_ ?_ ?_
  · intro hm
    rcases List.mem_cons.mp hm with e | hm
    · exact Nat.succ_ne_self _ e
    · exact Nat.ne_of_gt (Nat.lt_succ_of_lt hlt) (List.mem_singleton.mp hm)
  · intro hm
    rcases List.mem_cons.mp hm with e | hm
    · exact Nat.ne_of_lt (Nat.lt_succ_of_lt hLs) e
    · rcases List.mem_cons.mp hm with e | hm
      · exact Nat.ne_of_lt hLs e
      · exact hlL (List.mem_singleton.mp hm).symm
  · intro b hb
    rcases List.mem_cons.mp hb with rfl | hb
    · exact Heap.get?_none_of_le (Nat.le_trans hab (Nat.le_of_lt (Nat.lt_succ_of_lt hLs)))
    · rw [List.mem_singleton.mp hb]
      exact Heap.get?_none_of_le (Nat.le_trans hab (Nat.le_of_lt hLs))
  · intro b hb
    rw [hsz]
    rcases List.mem_cons.mp hb with e | hb
    · rw [e]; exact Nat.lt_succ_self _
    · rcases List.mem_cons.mp hb with e | hb
      · rw [e]; exact Nat.lt_succ_of_lt (Nat.lt_succ_self _)
      · rw [List.mem_singleton.mp hb]; exact Nat.lt_succ_of_lt (Nat.lt_succ_of_lt hlt)
  · intro p hp hm
    have hq1 : p.1 < s.heap.objs.size := Heap.lt_size (N p hp).1
    rcases List.mem_cons.mp hm with e | hm
    · exact Nat.ne_of_lt (Nat.lt_succ_of_lt hq1) e
    · exact Nat.ne_of_lt hq1 (List.mem_singleton.mp hm)

theorem Drw.enumInts {xi xc : Str} {pk pv pt : Pos} {x1 : Nat} {e it l : Addr} {items : Array Value} {xs : List Int} (hh : A.handled = none) (ia : IntsAre items.toList xs) (hei : e ≠ it) (hli : l ≠ it) (hef : e ∉ [it, l])
    (hxi : env.kindOf xi = some .local) (hxc : env.kindOf xc = some .local) (hp : (env.scope.kind == .class || (env.scope.kind == .module && env.locals != env.globals)) = false) :
    Drw w A env (.Tuple [.Name xi pk, .Name xc pv] x1 pt) e [e, it, l] [e, it] xs.length (fun i ps => ∃ v0 v1, (∃ t u, v0 = .int (i : Int) t ∧ v1 = .int (xs.getD i 0) u) ∧ ps = [(xc, v1), (xi, v0)])
      (fun i h => (∃ old, IsEnum h e it i old) ∧ (h.IsListIter it l i ∧ h.IsList l items)) := by
  have W := WalksT.enumerateD (prog := PG) (w := w) (Draws.list (A := A.in1) hh it l hli items) e hei hef (by simp)
  rw [ints_size ia] at W
  refine Drw.enum hh W (fun i vals hv => ?_) hxi hxc hp
  obtain ⟨t, x, hx, rfl⟩ := hv
  obtain ⟨u, _, rfl⟩ := ints_item ia hx
  exact ⟨_, _, rfl, t, u, rfl, rfl⟩

theorem enum_cls {e it l : Addr} {items : Array Value} : ∀ (i : Nat) (h : Heap) (o : Obj), ((∃ old, IsEnum h e it i old) ∧ (h.IsListIter it l i ∧ h.IsList l items)) → ∀ b ∈ [e, it], h.get? b = some o → iterCls o := by
  rintro i h o ⟨⟨old, he⟩, ⟨o', e', c', _⟩, _⟩ b hb eo
  rcases List.mem_cons.mp hb with rfl | hb
  · have he' : h.get? b = some _ := he
    rw [he'] at eo; cases eo; exact .inr (.inr rfl)
  · rw [List.mem_singleton.mp hb, e'] at eo; cases eo; exact .inl c'

/-- a comprehension over enumerate whose element is an int -/
theorem enum_comp_turn {L : Addr} {elt : Expr} {scope : Scope} {cl : List (Str × Addr)} {xi xc : Str} {xs : List Int} (f : Nat → Int) {adr : List Addr}
    (turn : ∀ i t tx C oC m₂ D ys h tk own, i < xs.length → NsObj oC m₂ → m₂ xc = some (.int (xs.getD i 0) tx) → m₂ xi = some (.int (i : Int) t) → Fr h₀ L h m → News h₀ L h ((C, oC) :: (D, lst ys) :: (own ++ news)) →
      wpAny (model PG w) A (eval elt (compEnvC scope cl C env)) (fun y s₄ => ∃ h' tk' ty, s₄ = { s with heap := h', toks := tk' } ∧ y = .int (f i) ty ∧ Fr h₀ L h' m ∧ News h₀ L h' ((C, oC) :: (D, lst ys) :: (own ++ news))) NoE { s with heap := h, toks := tk }) :
    ∀ (i : Nat) (ps : List (Str × Value)) (ys : List Value) (a : Unit) (C : Addr) (oC : Obj) (m₂ : Str → Option Value) (D : Addr) (h : Heap) (tk : Nat) (own : Ledger), i < xs.length →
      (∃ v0 v1, (∃ t u, v0 = Value.int (i : Int) t ∧ v1 = .int (xs.getD i 0) u) ∧ ps = [(xc, v1), (xi, v0)]) → IntsAre ys ((List.range i).map f) → ys.length ≤ i → NsObj oC m₂ → AllIn ps m₂ → Fr h₀ L h m → News h₀ L h ((C, oC) :: (D, lst ys) :: (own ++ news)) → C ≠ D → (∀ b ∈ adr, b ≠ C ∧ b ≠ D) → (∀ p ∈ own, p.1 ≠ C ∧ p.1 ≠ D) →
      wpAny (model PG w) A (forIn ([] : List Expr) true fun c r => if r = true then do let ok ← isTrue c (compEnvC scope cl C env) (eval c (compEnvC scope cl C env)); pure (ForInStep.yield ok) else pure (ForInStep.yield r)) (fun ok s₃ =>
        if ok = true then wpAny (model PG w) A (eval elt (compEnvC scope cl C env)) (fun y s₄ => CEnd h₀ L m s ((C, oC) :: (D, lst ys) :: own) (fun ys (_ : Unit) => IntsAre ys ((List.range (i + 1)).map f)) (fun _ => news) (ys ++ [y]) s₄) NoE s₃
        else CEnd h₀ L m s ((C, oC) :: (D, lst ys) :: own) (fun ys (_ : Unit) => IntsAre ys ((List.range (i + 1)).map f)) (fun _ => news) ys s₃) NoE { s with heap := h, toks := tk } := by
  rintro i ps ys _ C oC m₂ D h tk own hi ⟨_, _, ⟨t, tx, rfl, rfl⟩, rfl⟩ hI _ hoC hm F N _ _ _
  refine wpAny_tests_nil ?_
  simp only [if_true]
  refine wpAny_mono (turn i t tx C oC m₂ D ys h tk own hi hoC hm.1 hm.2.1 F N) (fun y s₄ h₄ => ?_) fun _ _ e => e
  obtain ⟨h', tk', ty, rfl, rfl, F', N'⟩ := h₄
  refine CEnd.go () F' N' (fun p hp => ?_) (fun p hp => ?_) ?_
  · rcases List.mem_cons.mp hp with rfl | hp
    · exact List.mem_cons_self
    · rcases List.mem_cons.mp hp with rfl | hp
      · exact List.mem_cons_of_mem _ List.mem_cons_self
      · exact List.mem_cons_of_mem _ (List.mem_cons_of_mem _ (List.mem_append_left _ hp))
  · exact List.mem_cons_of_mem _ (List.mem_cons_of_mem _ (List.mem_append_right _ hp))
  · rw [List.range_succ, List.map_append]
    exact IntsAre.append hI (.cons _ _ .nil)

theorem enum_comp_eval {elt iter : Expr} {scope : Scope} {cl : List (Str × Addr)} {pos : Pos} {Q : Value → Shared → Prop} {xi xc : Str} {pk pv pt : Pos} {x1 : Nat} {l : Addr} {items : Array Value} {xs : List Int} (hh : A.handled = none) (hl : s.heap.IsList l items) (ia : IntsAre items.toList xs) (hsz : xs.length < 1000000)
    (hxi : scope.names.lookup xi = some .local) (hxc : scope.names.lookup xc = some .local) (hne : xc ≠ xi) (hcell : ∀ y ∈ scope.names, y.2 ≠ .cell) (hkind : scope.kind = .function)
    (F : Fr h₀ L s.heap m) (N : News h₀ L s.heap news) (f : Nat → Int)
    (turn : ∀ (s' : Shared), (∃ g tk, s' = { s with heap := g, toks := tk }) → ∀ i t tx C oC m₂ D ys h tk own, i < xs.length → NsObj oC m₂ → m₂ xc = some (.int (xs.getD i 0) tx) → m₂ xi = some (.int (i : Int) t) → Fr h₀ L h m → News h₀ L h ((C, oC) :: (D, lst ys) :: (own ++ news)) →
      wpAny (model PG w) A (eval elt (compEnvC scope cl C env)) (fun y s₄ => ∃ h' tk' ty, s₄ = { s' with heap := h', toks := tk' } ∧ y = .int (f i) ty ∧ Fr h₀ L h' m ∧ News h₀ L h' ((C, oC) :: (D, lst ys) :: (own ++ news))) NoE { s' with heap := h, toks := tk })
    (fin : ∀ D h tk ys, Fr h₀ L h m → News h₀ L h ((D, lst ys) :: news) → (∀ p ∈ news, p.1 ≠ D) → IntsAre ys ((List.range xs.length).map f) → Q (.ref D) { s with heap := h, toks := tk }) :
    wpAny (model PG w) A (call (.type "enumerate") [.ref l]) (fun xv s₁ => wpAny (model PG w) A (pyIter xv) (fun it s₂ => CompGo w A (.ListComp elt [⟨.Tuple [.Name xi pk, .Name xc pv] x1 pt, iter, [], 0⟩] scope pos) scope cl env none Q it s₂) NoE s₁) NoE s := by
  refine go_enum hl F N (fun e it h' F' N' hl' he hit hei hli hef hLf hwr hfp off => ?_) hh
  refine compGo_eval (fun C => Drw.enumInts (w := w) (A := A) (env := compEnvC scope cl C env) (pk := pk) (pv := pv) (pt := pt) (x1 := x1) hh ia hei hli hef (lookup_relabel_local hxi) (lookup_relabel_local hxc) (by simp [compEnvC, relabel, hkind]))
    (fun i ps u ⟨v0, v1, _, e⟩ => by subst e; exact ⟨if_pos rfl, (if_neg (Ne.symm hne)).trans (if_pos rfl), trivial⟩) hsz hcell hkind ⟨⟨_, he⟩, hit, hl'⟩ hfp (fun i ys (_ : Unit) => IntsAre ys ((List.range i).map f)) (fun _ => news) () (news.map (·.1)) (fun _ => rfl) F' N' (fun _ h => h) .nil hLf hwr
    (fun b hb => by obtain ⟨p, hp, rfl⟩ := List.mem_map.mp hb; exact off p hp) (enum_comp_turn f (turn _ ⟨_, _, rfl⟩)) (fun D h tk ys _ F' N' o1 hI => fin D h tk ys F' N' (fun p hp => o1 _ (List.mem_map_of_mem hp)) hI)
theorem enum_comp_assign {elt iter : Expr} {scope : Scope} {cl : List (Str × Addr)} {pos py : Pos} {yn : Str} {Q : Flow → Shared → Prop} {xi xc : Str} {pk pv pt : Pos} {x1 : Nat} {l : Addr} {items : Array Value} {xs : List Int} (hh : A.handled = none) (hl : s.heap.IsList l items) (ia : IntsAre items.toList xs) (hsz : xs.length < 1000000)
    (hL : env.locals = L) (hy : env.kindOf yn = some .local) (hp : (env.scope.kind == .class || (env.scope.kind == .module && env.locals != env.globals)) = false)
    (hxi : scope.names.lookup xi = some .local) (hxc : scope.names.lookup xc = some .local) (hne : xc ≠ xi) (hcell : ∀ y ∈ scope.names, y.2 ≠ .cell) (hkind : scope.kind = .function)
    (F : Fr h₀ L s.heap m) (N : News h₀ L s.heap news) (f : Nat → Int)
    (turn : ∀ (s' : Shared), (∃ g tk, s' = { s with heap := g, toks := tk }) → ∀ i t tx C oC m₂ D ys h tk own, i < xs.length → NsObj oC m₂ → m₂ xc = some (.int (xs.getD i 0) tx) → m₂ xi = some (.int (i : Int) t) → Fr h₀ L h m → News h₀ L h ((C, oC) :: (D, lst ys) :: (own ++ news)) →
      wpAny (model PG w) A (eval elt (compEnvC scope cl C env)) (fun y s₄ => ∃ h' tk' ty, s₄ = { s' with heap := h', toks := tk' } ∧ y = .int (f i) ty ∧ Fr h₀ L h' m ∧ News h₀ L h' ((C, oC) :: (D, lst ys) :: (own ++ news))) NoE { s' with heap := h, toks := tk })
    (fin : ∀ D h tk ys, Fr h₀ L h (fun z => if z = yn then some (.ref D) else m z) → News h₀ L h ((D, lst ys) :: news) → (∀ p ∈ news, p.1 ≠ D) → IntsAre ys ((List.range xs.length).map f) → Q .next { s with heap := h, toks := tk }) :
    wpAny (model PG w) A (call (.type "enumerate") [.ref l]) (fun xv s₁ => wpAny (model PG w) A (pyIter xv) (fun it s₂ => CompGo w A (.ListComp elt [⟨.Tuple [.Name xi pk, .Name xc pv] x1 pt, iter, [], 0⟩] scope pos) scope cl env (some (assign (.Name yn py) env)) (fun _ s' => Q .next s') it s₂) NoE s₁) NoE s := by
  refine go_enum hl F N (fun e it h' F' N' hl' he hit hei hli hef hLf hwr hfp off => ?_) hh
  refine compGo_assign hL hy hp (fun C => Drw.enumInts (w := w) (A := A) (env := compEnvC scope cl C env) (pk := pk) (pv := pv) (pt := pt) (x1 := x1) hh ia hei hli hef (lookup_relabel_local hxi) (lookup_relabel_local hxc) (by simp [compEnvC, relabel, hkind]))
    (fun i ps u ⟨v0, v1, _, e⟩ => by subst e; exact ⟨if_pos rfl, (if_neg (Ne.symm hne)).trans (if_pos rfl), trivial⟩) hsz hcell hkind ⟨⟨_, he⟩, hit, hl'⟩ hfp (fun i ys (_ : Unit) => IntsAre ys ((List.range i).map f)) (fun _ => news) () (news.map (·.1)) (fun _ => rfl) F' N' (fun _ h => h) .nil hLf hwr
    (fun b hb => by obtain ⟨p, hp, rfl⟩ := List.mem_map.mp hb; exact off p hp) (enum_comp_turn f (turn _ ⟨_, _, rfl⟩)) (fun D h tk ys _ F' N' o1 hI => fin D h tk ys F' N' (fun p hp => o1 _ (List.mem_map_of_mem hp)) hI)
theorem gcdAll_take (xs : List Int) (i : Nat) (hi : i < xs.length) : gcdAll (xs.take (i + 1)) = (Int.gcd (gcdAll (xs.take i)) (xs.getD i 0) : Int) := by
  unfold gcdAll
  rw [List.take_add_one, List.foldl_append]
  simp [List.getD_eq_getElem?_getD, hi]
end
/-- a list of ints that stood before, or in the ledger -/
noncomputable def Lst (h₀ : Heap) (ex : Ledger) (a : Addr) (xs : List Int) : Prop := LI h₀ a xs ∨ ∃ its n, (a, listOf its n) ∈ ex ∧ IntsAre its.toList xs
theorem Lst.li {h₀ h : Heap} {L a : Addr} {m : Str → Option Value} {ex news : Ledger} {xs : List Int} (H : Lst h₀ ex a xs) (F : Fr h₀ L h m) (N : News h₀ L h news) (S : SubL ex news) : LI h a xs := by
  rcases H with H | ⟨its, n, hm, hi⟩
  · exact H.keeps F.keep
  · exact LI.ofNews N (S _ hm) hi
theorem Lst.mono {h₀ : Heap} {a : Addr} {ex ex' : Ledger} {xs : List Int} (H : Lst h₀ ex a xs) (S : SubL ex ex') : Lst h₀ ex' a xs := H.imp id fun ⟨its, n, hm, hi⟩ => ⟨its, n, S _ hm, hi⟩
theorem SubL.refl {l : Ledger} : SubL l l := fun _ h => h
theorem SubL.two {l : Ledger} {a b : Addr × Obj} : SubL l (a :: b :: l) := fun _ h => List.mem_cons_of_mem _ (List.mem_cons_of_mem _ h)
theorem SubL.tl {p : Addr × Obj} {l l' : Ledger} (h : SubL l l') : SubL l (p :: l') := fun q hq => List.mem_cons_of_mem _ (h q hq)
section
variable {w : World} {A : Around} {E : Value → Shared → Prop} {s : Shared} {h₀ : Heap} {L : Addr} {m : Str → Option Value} {news : Ledger}
theorem append_led {rw' : Addr} {its : Array Value} {n : Nat} {x : Value} {Q : Value → Shared → Prop} (F : Fr h₀ L s.heap m) (N : News h₀ L s.heap news) (hm : (rw', listOf its n) ∈ news) (keep : Ledger) (hk : SubL keep news) (hne : ∀ p ∈ keep, p.1 ≠ rw') (hsz : its.size < 1000000)
    (h : ∀ h', Fr h₀ L h' m → News h₀ L h' ((rw', listOf (its.push x) (n + 1)) :: keep) → Q .none { s with heap := h' }) : wpAny (model PG w) A (call (.builtin "list.append") [.ref rw', x]) Q E s := by
  have z := N _ hm
  refine append_at (hsz := by rw [sizeLine_eq]; omega) z.1 fun h' hs ho' => h h' (F.change hs z.2.1 z.2.2) fun p hp => ?_
  rcases List.mem_cons.mp hp with rfl | hp
  · exact ⟨ho', z.2⟩
  · have y := N p (hk p hp)
    exact ⟨hs.extBut _ _ (hne p hp) y.1, y.2⟩
theorem len_LI {a : Addr} {xs : List Int} {Q : Value → Shared → Prop} (H : LI s.heap a xs) (hl : xs.length < 1000000) (h : ∀ t tk, Q (.int xs.length t) { s with toks := tk }) : wpAny (model PG w) A (call (.builtin "len") [.ref a]) Q E s := by
  obtain ⟨its, n, e, i⟩ := H
  have hs : its.size = xs.length := ints_size i
  refine len_list (items := its) ⟨_, e, rfl, n, rfl⟩ (by omega) ?_
  rw [hs]; exact h _ _
end
theorem item_last {w : World} {A : Around} {E : Value → Shared → Prop} {s : Shared} {value slice : Expr} {l : Addr} {items : Array Value} {v : Value} {u : Tok} {Q : Value → Shared → Prop} (hl : s.heap.IsList l items) (h0 : 0 < items.size) (hx : items[items.size - 1]? = some v) (h : Q v s)
    (hs : subscripted slice false (.ref l) (.int (-1) u) = operate [.ref l, .int (-1) u] (getItem (.ref l) (.int (-1) u))) : wpAny (model PG w) A (subscriptTail value slice (.ref l) (.int (-1) u)) Q E s :=
  have e : ((-1 : Int) + items.size).toNat = items.size - 1 := by omega
  tail_any hl.typeIs slot_list_getitem.lookup (wpAny_getItem_list_neg hl (by decide) (by omega -splitDisjunctions -splitNatSub -splitNatAbs -splitMinMax) (by decide) (by rw [e]; exact hx) h) hs
/-- a list whose last item is a list of ints -/
noncomputable def RowPost (h : Heap) (ys : List Int) (h' : Heap) (r : Value) : Prop :=
  ∃ (t q : Addr) (its : Array Value) (n : Nat), r = .ref t ∧ h.get? t = none ∧ h'.get? t = some (listOf its n) ∧ 0 < its.size ∧ its.size < 1000000 ∧ its[its.size - 1]? = some (.ref q) ∧ h.get? q = none ∧ LI h' q ys
structure SrSt where
  a : List Int
  b : List Int
  fr : Int
  hg : Int
  tf : Tok
  th : Tok
  aa : Addr
  ba : Addr
  rw' : Addr
  q : Addr
  irow : Array Value
  nrow : Nat
  ex : Ledger
end

/-! the part S1 -/
section
open PyProof.Rows.LCg
theorem own_setit : Manifest.owners.lookup (String.ofList ['r', 'o', 't', 'a', 'r', 'e', 't', 'i', '_', 't', 'e', 's'].reverse) = some Manifest.sig_set_iterator := by kernel_rfl
theorem sl_next : Slot "set_iterator" "__next__" "set_iterator.__next__" :=
  .of (owner := "set_iterator") (n := "__next__") (by rw [typeLookup_type, builtinLookup_eq_fast]; kernel_rfl) (by decide +kernel) (by decide +kernel) (by decide +kernel)
    (by first | exact .inl (by decide +kernel) | exact .inr (by decide +kernel)) (by rw [isSubtype_type]; kernel_rfl)
theorem en_next : entryFor table "set_iterator.__next__" = some Builtin.«set_iterator.__next__» := entryFor_of_tree (by kernel_rfl)
theorem ar_next (a : Value) : argsOk "set_iterator.__next__" ⟨[a], []⟩ := by
  unfold argsOk; rw [signature?_of (id := "set_iterator.__next__") (n := ['_', '_', 't', 'x', 'e', 'n', '_', '_']) (o := ['r', 'o', 't', 'a', 'r', 'e', 't', 'i', '_', 't', 'e', 's']) (by kernel_rfl) own_setit]; kernel_rfl
theorem sl_iter : Slot "set_iterator" "__iter__" "set_iterator.__iter__" :=
  .of (owner := "set_iterator") (n := "__iter__") (by rw [typeLookup_type, builtinLookup_eq_fast]; kernel_rfl) (by decide +kernel) (by decide +kernel) (by decide +kernel)
    (by first | exact .inl (by decide +kernel) | exact .inr (by decide +kernel)) (by rw [isSubtype_type]; kernel_rfl)
theorem en_iter : entryFor table "set_iterator.__iter__" = some Builtin.«dict_keyiterator.__iter__» := entryFor_alias (id' := "dict_keyiterator.__iter__") (by rw [fastTable_eq_tree]; kernel_rfl) rfl (by decide +kernel) (by rw [fastTable_eq_tree]; kernel_rfl)
theorem ar_iter (a : Value) : argsOk "set_iterator.__iter__" ⟨[a], []⟩ := by
  unfold argsOk; rw [signature?_of (id := "set_iterator.__iter__") (n := ['_', '_', 'r', 'e', 't', 'i', '_', '_']) (o := ['r', 'o', 't', 'a', 'r', 'e', 't', 'i', '_', 't', 'e', 's']) (by kernel_rfl) own_setit]; kernel_rfl
theorem en_set_iter : entryFor table "set.__iter__" = some Builtin.«frozenset.__iter__» := entryFor_alias (id' := "frozenset.__iter__") (by rw [fastTable_eq_tree]; kernel_rfl) rfl (by decide +kernel) (by rw [fastTable_eq_tree]; kernel_rfl)
/-- the set's iterator -/
noncomputable def SetIt (h : Heap) (it S : Addr) (i n ep slot : Nat) : Prop :=
  ∃ o, h.get? it = some o ∧ o.cls = .type "set_iterator" ∧ o.data = .fields #[.int (slot : Int) 0, .int (i : Int) 0, .ref S, .int (n : Int) 0, .int (ep : Int) 0]
theorem SetIt.typeIs {s : Shared} {it S i n ep slot} (x : SetIt s.heap it S i n ep slot) : s.TypeIs (.ref it) "set_iterator" := let ⟨o, ho, hc, _⟩ := x; ⟨o, ho, hc⟩
abbrev byText (w : World) : Bool := w.params.followText "set-order"
section
variable {w : World} {A : Around} {E : Value → Shared → Prop} {s : Shared}
theorem wp_byText {Q : Bool → Shared → Prop} (h : Q (byText w) s) : wpAny (model PG w) A setsByText Q E s := by
  unfold setsByText
  exact wpAny_bind (wpAny_askSetting (wpAny_pure h))
theorem wp_walk {S : Addr} {o : Obj} {es : Array (Int × Value)} {ep : Nat} {t : SetTable} {Q : Array (Int × Value) → Shared → Prop} (hS : s.heap.get? S = some o) (hd : o.data = .set es ep t) (hf : t.fits es.size = true) (hb : byText w = true)
    (h : Q (pickOrder (w.params.setOrder S ep) es) s) : wpAny (model PG w) A (setWalk S) Q E s := by
  unfold setWalk
  refine wpAny_bind (wpAny_setState_of hS hd hf ?_)
  dsimp only
  refine wpAny_bind (wp_byText ?_)
  rw [hb, if_pos rfl]
  exact wpAny_bind (wpAny_askSetting (wpAny_pure h))
theorem set_iter_self {it S i n ep slot} {Q : Value → Shared → Prop} (hit : SetIt s.heap it S i n ep slot) (h : Q (.ref it) s) : wpAny (model PG w) A (pyIter (.ref it)) Q E s := by
  refine wpAny_pyIter_slot hit.typeIs sl_iter (wpAny_call_entry sl_iter hit.typeIs en_iter ?_ (ar_iter _))
  show wpAny _ _ (ret (.ref it)) _ _ s
  exact wpAny_pure ⟨_, rfl, "set_iterator", _, hit.typeIs, sl_next.lookup, h⟩
theorem set_iter {S : Addr} {o : Obj} {es : Array (Int × Value)} {ep : Nat} {t : SetTable} {Q : Value → Shared → Prop} (hS : s.heap.get? S = some o) (hc : o.cls = .type "set") (hd : o.data = .set es ep t) (hf : t.fits es.size = true) (hp : t.plain = true)
    (h : Q (.ref s.heap.objs.size) { s with heap := s.heap.push { cls := .type "set_iterator", data := .fields #[.int ((0 : Nat) : Int) 0, .int ((0 : Nat) : Int) 0, .ref S, .int (es.size : Int) 0, .int (ep : Int) 0] } }) : wpAny (model PG w) A (pyIter (.ref S)) Q E s := by
  have hT : s.TypeIs (.ref S) "set" := ⟨o, hS, hc⟩
  refine wpAny_pyIter_slot hT F.slot_set_iter (wpAny_call_entry F.slot_set_iter hT en_set_iter ?_ (F.args_set_iter_1 _))
  unfold Builtin.«frozenset.__iter__»
  refine wpAny_bind (m := Builtin.Frozenset.slot0 "__iter__" _) (wpAny_bind (m := slotArgs "__iter__" 0 _) (wpAny_pure (wpAny_pure ?_)))
  refine wpAny_bind (m := Builtin.Frozenset.sizeOf S) ?_
  unfold Builtin.Frozenset.sizeOf setEntries
  refine wpAny_bind (wpAny_bind (wpAny_setState_of hS hd hf (wpAny_pure (wpAny_pure ?_))))
  refine wpAny_bind ?_
  unfold setDrawn
  refine wpAny_bind (wpAny_setState_of hS hd hf ?_)
  dsimp only
  refine wpAny_bind (wp_byText (wpAny_pure ?_))
  show wpAny _ _ (if (!byText w && (!t.plain && decide (es.size > 1))) = true then _ else _) _ _ s
  rw [hp]
  simp only [Bool.not_true, Bool.false_and, Bool.and_false, Bool.false_eq_true, if_false]
  refine wpAny_bind (wpAny_pure ?_)
  refine wpAny_bind (wpAny_setEpoch_of hS hd hf ?_)
  exact wpAny_bind (wpAny_newObj_type (wpAny_pure ⟨_, rfl, "set_iterator", _, ⟨_, Heap.get?_push_size _ rfl, rfl⟩, sl_next.lookup, h⟩))
/-- what the set hands out -/
abbrev ordOf (w : World) (S : Addr) (ep : Nat) (es : Array (Int × Value)) : Array (Int × Value) := if byText w = true then pickOrder (w.params.setOrder S ep) es else es
/-- where the next search begins -/
noncomputable def slotN (w : World) (t : SetTable) (i : Nat) : Nat := if byText w = true then 0 else if i = 0 then 0 else t.place.getD (i - 1) 0 + 1
theorem wp_setNext {S : Addr} {o : Obj} {es : Array (Int × Value)} {ep : Nat} {t : SetTable} {i : Nat} {Q : Option (Value × Nat) → Shared → Prop} (hS : s.heap.get? S = some o) (hd : o.data = .set es ep t) (hf : t.fits es.size = true) (hp : t.plain = true) (hled : t.led = !byText w)
    (hbl : ∀ i, i ≤ es.size → SetTable.below t.place (if i = 0 then 0 else t.place.getD (i - 1) 0 + 1) = i) (hi : i ≤ es.size)
    (h : Q (((ordOf w S ep es)[i]?).map fun e => (e.2, slotN w t (i + 1))) s) : wpAny (model PG w) A (setNext S (slotN w t i) i ep) Q E s := by
  unfold setNext
  refine wpAny_bind (wpAny_setState_of hS hd hf ?_)
  dsimp only
  refine wpAny_bind (wp_byText ?_)
  cases hb : byText w with
  | true =>
    rw [if_pos rfl, if_neg (by simp)]
    refine wpAny_bind (wp_walk hS hd hf hb (wpAny_pure ?_))
    unfold ordOf slotN at h
    rw [hb] at h
    unfold slotN
    rw [hb]
    exact h
  | false =>
    rw [if_neg (by simp)]
    show wpAny _ _ (if (!t.plain && decide (es.size > 1)) = true then _ else _) _ _ s
    rw [hp]
    simp only [Bool.not_true, Bool.false_and, Bool.false_eq_true, if_false]
    show wpAny _ _ ((if (!t.led && !es.isEmpty) = true then unsupported _ else pure ()) >>= fun _ => _) _ _ s
    rw [hled, hb]
    simp only [Bool.not_false, Bool.not_true, Bool.false_and, Bool.false_eq_true, if_false]
    refine wpAny_bind (wpAny_pure (wpAny_pure ?_))
    have e1 : slotN w t i = if i = 0 then 0 else t.place.getD (i - 1) 0 + 1 := by unfold slotN; rw [hb]; simp
    have e2 : slotN w t (i + 1) = t.place.getD i 0 + 1 := by unfold slotN; rw [hb]; simp
    rw [e1, hbl i hi]
    unfold ordOf at h
    rw [hb, e2] at h
    simp only [Bool.false_eq_true, if_false] at h
    have hsz : t.place.size = es.size := by
      simp only [SetTable.fits, Bool.and_eq_true, beq_iff_eq] at hf
      exact hf.1
    by_cases hlt : i < es.size
    · have h1 : es[i]? = some es[i] := Array.getElem?_eq_getElem hlt
      have h2 : t.place[i]? = some (t.place[i]'(by omega)) := Array.getElem?_eq_getElem (by omega)
      have h3 : t.place.getD i 0 = t.place[i]'(by omega) := by simp [Array.getD, hsz, hlt]
      rw [h1, h2]
      rw [h1, h3] at h
      exact h
    · have h1 : es[i]? = none := Array.getElem?_eq_none (by omega)
      rw [h1] at h ⊢
      exact h
end
end

/-! the part S2 -/
section
open PyProof.Rows.LCg
/-- a small set whose cells rise -/
noncomputable def SetG (w : World) (h : Heap) (S : Addr) (es : Array (Int × Value)) (ep : Nat) (t : SetTable) : Prop :=
  ∃ o, h.get? S = some o ∧ o.cls = .type "set" ∧ o.data = .set es ep t ∧ t.fits es.size = true ∧ t.plain = true ∧ t.led = !byText w ∧ (∀ i, i ≤ es.size → SetTable.below t.place (if i = 0 then 0 else t.place.getD (i - 1) 0 + 1) = i)
theorem SetG.at {w : World} {h h' : Heap} {S es ep t} (x : SetG w h S es ep t) (e : ∀ o, h.get? S = some o → h'.get? S = some o) : SetG w h' S es ep t := let ⟨o, ho, r⟩ := x; ⟨o, e _ ho, r⟩
theorem SetIt.at {h h' : Heap} {it S i n ep slot} (x : SetIt h it S i n ep slot) (e : ∀ o, h.get? it = some o → h'.get? it = some o) : SetIt h' it S i n ep slot := let ⟨o, ho, r⟩ := x; ⟨o, e _ ho, r⟩
section
variable {w : World} {A : Around} {E : Value → Shared → Prop} {s : Shared}
theorem set_next_item {it S i ep} {es : Array (Int × Value)} {t : SetTable} {x : Int × Value} {Q : Option Value → Shared → Prop} (hit : SetIt s.heap it S i es.size ep (slotN w t i)) (hg : SetG w s.heap S es ep t) (hi : i ≤ es.size) (hx : (ordOf w S ep es)[i]? = some x)
    (hQ : ∀ h', SetIt h' it S (i + 1) es.size ep (slotN w t (i + 1)) → (∀ b o, b ≠ it → s.heap.get? b = some o → h'.get? b = some o) → Q (some x.2) { s with heap := h' }) :
    wpAny (model PG w) A (pyNext (.ref it)) Q E s := by
  obtain ⟨o, ho, hc, hd⟩ := id hit
  obtain ⟨od, hod, hcd, hdd, hf, hp, hled, hbl⟩ := id hg
  unfold pyNext
  refine wpAny_bind (wpAny_attempt (wpAny_callSpecial?_slot (name := Str.ofString "__next__") hit.typeIs sl_next
    (wpAny_call_entry sl_next hit.typeIs en_next ?_ (ar_next _))))
  unfold Builtin.«set_iterator.__next__»
  refine wpAny_bind (m := slotArgs "__next__" 0 _) (wpAny_pure ?_)
  refine wpAny_bind (wpAny_fieldsOf ho hd ?_)
  dsimp only
  refine wpAny_bind ?_
  unfold setEntries
  refine wpAny_bind (wpAny_setState_of hod hdd hf (wpAny_pure ?_))
  rw [if_neg (by simp)]
  refine wpAny_bind (wp_setNext (ep := ep) (i := i) hod hdd hf hp hled hbl hi ?_)
  rw [hx]
  dsimp only [Option.map]
  refine wpAny_bind (wpAny_setField ho hd (by simp) ?_)
  have ho1 := Heap.get?_update_self (Obj.mapFields (·.setIfInBounds 0 (rawInt ((slotN w t (i + 1) : Nat) : Int)))) ho (Obj.isFreed_of_fields (Obj.data_mapFields hd _))
  have hd1 := Obj.data_mapFields hd (·.setIfInBounds 0 (rawInt ((slotN w t (i + 1) : Nat) : Int)))
  refine wpAny_bind (wpAny_setField ho1 hd1 (by simp) ?_)
  have ho2 := Heap.get?_update_self (Obj.mapFields (·.setIfInBounds 1 (rawInt ((i : Int) + 1)))) ho1 (Obj.isFreed_of_fields (Obj.data_mapFields hd1 _))
  have hd2 := Obj.data_mapFields hd1 (·.setIfInBounds 1 (rawInt ((i : Int) + 1)))
  refine wpAny_pure ⟨_, rfl, wpAny_pure (hQ _ ⟨_, ho2, (Obj.cls_mapFields ..).trans ((Obj.cls_mapFields ..).trans hc), ?_⟩ ?_)⟩
  · rw [hd2]; simp [rawInt]
  · intro b o hb e
    exact (Heap.get?_update_other _ _ (Ne.symm hb)).trans ((Heap.get?_update_other _ _ (Ne.symm hb)).trans e)
theorem set_next_end {it S i ep} {es : Array (Int × Value)} {t : SetTable} {Q : Option Value → Shared → Prop} (hh : A.handled = none) (hit : SetIt s.heap it S i es.size ep (slotN w t i)) (hg : SetG w s.heap S es ep t) (hi : i ≤ es.size) (hx : (ordOf w S ep es)[i]? = none)
    (hQ : ∀ h', (∀ b o, b ≠ it → s.heap.get? b = some o → h'.get? b = some o) → Q none { s with heap := h' }) :
    wpAny (model PG w) A (pyNext (.ref it)) Q E s := by
  obtain ⟨o, ho, hc, hd⟩ := id hit
  obtain ⟨od, hod, hcd, hdd, hf, hp, hled, hbl⟩ := id hg
  unfold pyNext
  refine wpAny_bind (wpAny_attempt (wpAny_callSpecial?_slot (name := Str.ofString "__next__") hit.typeIs sl_next
    (wpAny_call_entry sl_next hit.typeIs en_next ?_ (ar_next _))))
  unfold Builtin.«set_iterator.__next__»
  refine wpAny_bind (m := slotArgs "__next__" 0 _) (wpAny_pure ?_)
  refine wpAny_bind (wpAny_fieldsOf ho hd ?_)
  dsimp only
  refine wpAny_bind ?_
  unfold setEntries
  refine wpAny_bind (wpAny_setState_of hod hdd hf (wpAny_pure ?_))
  rw [if_neg (by simp)]
  refine wpAny_bind (wp_setNext (ep := ep) (i := i) hod hdd hf hp hled hbl hi ?_)
  rw [hx]
  dsimp only [Option.map]
  refine wpAny_bind (wpAny_setField ho hd (by simp) ?_)
  show wpAny _ _ (newExc (.type "StopIteration") [] >>= _) _ _ _
  refine wpAny_bind ?_
  simp only [newExc, newTuple]
  refine wpAny_bind (wpAny_newObj_type ?_ (by size_fits))
  refine wpAny_bind (m := firstArgMember _ _) (wpAny_of_eq (a := Value.none) (by first | rfl | (simp only [firstArgMember]; rfl)) ?_)
  refine wpAny_newObj_type ?_ (by size_fits)
  simp only [raiseNew]
  refine wpAny_bind (wpAny_handled ?_)
  rw [show A.in1.handled = none from hh]
  refine wpAny_bind (wpAny_pure (wpAny_throw ?_))
  refine wpAny_bind (wpAny_isInstance (T := "StopIteration") (b := true) ⟨_, Heap.get?_push_size _ rfl, rfl⟩ isSubtype_stop ?_)
  refine wpAny_pure (hQ _ ?_)
  intro b o hb e
  exact (((Heap.SameBut.update ..).extBut.push _).push _) b o hb e
theorem ordOf_size {S ep} {es : Array (Int × Value)} (h : (ordOf w S ep es).size = es.size) : ∀ i, i < es.size → ∃ x, (ordOf w S ep es)[i]? = some x := fun i hi => ⟨_, Array.getElem?_eq_getElem (by omega)⟩
theorem Walks.setIt (hh : A.handled = none) (I S : Addr) (hne : S ≠ I) (es : Array (Int × Value)) (ep : Nat) (t : SetTable) (hsz : (ordOf w S ep es).size = es.size) :
    Walks PG w A I [I, S] [I] es.size (fun i v => ∃ x, (ordOf w S ep es)[i]? = some x ∧ v = x.2) (fun i h => SetIt h I S i es.size ep (slotN w t i) ∧ SetG w h S es ep t) where
  sub := fun b hb => by simp at hb; simp [hb]
  frame := fun _ _ _ st hk => ⟨st.1.at fun o e => hk I (by simp) o e, st.2.at fun o e => hk S (by simp) o e⟩
  item := fun i s Q E hi st hQ => by
    obtain ⟨x, hx⟩ := ordOf_size hsz i hi
    refine set_next_item st.1 st.2 (Nat.le_of_lt hi) hx fun h' hit' hs' => ?_
    exact hQ _ h' s.toks ⟨x, hx, rfl⟩ ⟨hit', st.2.at fun o e => hs' S o hne e⟩ fun b o hb e => hs' b o (fun h => hb (by simp [h])) e
  done := fun s Q E st hQ => set_next_end hh st.1 st.2 (Nat.le_refl _) (Array.getElem?_eq_none (by omega)) fun h' he' => hQ h' s.toks fun b o hb e => he' b o (fun h => hb (by simp [h])) e
  self := fun _ _ _ _ st hQ => set_iter_self st.1 hQ
end
end

/-! the part S3 -/
section
open PyProof.Rows.LCg
theorem set_len_look : typeLookup (.type "set") "__len__" = pure (some (.builtin "set.__len__")) := by rw [typeLookup_type, builtinLookup_eq_fast]; kernel_rfl
section
variable {w : World} {A : Around} {E : Value → Shared → Prop} {s : Shared}
theorem set_iterI {S I : Addr} {o : Obj} {es : Array (Int × Value)} {ep : Nat} {t : SetTable} {Q : Value → Shared → Prop} (hI : s.heap.objs.size = I) (hS : s.heap.get? S = some o) (hc : o.cls = .type "set") (hd : o.data = .set es ep t) (hf : t.fits es.size = true) (hp : t.plain = true)
    (h : Q (.ref I) { s with heap := s.heap.push { cls := .type "set_iterator", data := .fields #[.int ((0 : Nat) : Int) 0, .int ((0 : Nat) : Int) 0, .ref S, .int (es.size : Int) 0, .int (ep : Int) 0] } }) : wpAny (model PG w) A (pyIter (.ref S)) Q E s := by
  subst hI; exact set_iter hS hc hd hf hp h
theorem collect_set {S ep} {es : Array (Int × Value)} {t : SetTable} {Q : List Value → Shared → Prop} (hh : A.handled = none) (hg : SetG w s.heap S es ep t) (hsz : (ordOf w S ep es).size = es.size) (hn : es.size ≤ sizeLine)
    (hQ : ∀ h' tk acc, s.heap.objs.size ≤ h'.objs.size → (∀ b o, s.heap.get? b = some o → h'.get? b = some o) → ItemsOf (fun i v => ∃ x, (ordOf w S ep es)[i]? = some x ∧ v = x.2) acc es.size → Q acc.toList { s with heap := h', toks := tk }) :
    wpAny (model PG w) A (collect (.ref S)) Q E s := by
  obtain ⟨od, hod, hcd, hdd, hf, hp, hled, hbl⟩ := id hg
  have hS0 : S < s.heap.objs.size := Heap.lt_size hod
  unfold collect
  refine wpAny_bind (wpAny_runValue (codeAny_builtin F.entry_proto_collect ?_))
  rw [Around.under_plainId F.plain_proto_collect _]
  show wpAny _ A.in1 (newList [] >>= fun l => again (.builtin "list.__iadd__" ⟨[l, .ref S], []⟩)) _ _ s
  refine wpAny_bind (wpAny_newObj_type ?_)
  refine wpAny_pure ⟨plainId_quiet F.plain_list_iadd _, codeAny_builtin F.entry_list_iadd ?_⟩
  rw [Around.under_plainId F.plain_list_iadd _]
  have hod₁ : (s.heap.push { cls := .type "list", data := .seq ([] : List Value).toArray }).get? S = some od := Heap.get?_push_of_some _ hod
  have hS₁ : (s.heap.push { cls := .type "list", data := .seq ([] : List Value).toArray }).get? s.heap.objs.size = some { cls := .type "list", data := .seq ([] : List Value).toArray } := Heap.get?_push_size _ rfl
  have hne0 : s.heap.objs.size ≠ S := Nat.ne_of_gt hS0
  have h1 : Builtin.List.listSameRef (.ref s.heap.objs.size) (.ref S) = false := by simp [Builtin.List.listSameRef, hne0]
  show wpAny _ A.in1 (Builtin.List.listExtendWith (.ref s.heap.objs.size) (.ref S) (.ref s.heap.objs.size)) _ _ _
  unfold Builtin.List.listExtendWith
  refine wpAny_bind (wpAny_typeOf (T := "set") ⟨od, hod₁, hcd⟩ ?_)
  rw [if_neg (by rw [h1]; decide)]
  have hz1 : (s.heap.push { cls := .type "list", data := .seq ([] : List Value).toArray }).objs.size = s.heap.objs.size + 1 := size_push' _ _
  refine wpAny_bind (set_iterI hz1 hod₁ hcd hdd hf hp ?_)
  have hI : ((s.heap.push { cls := .type "list", data := .seq ([] : List Value).toArray }).push { cls := .type "set_iterator", data := .fields #[.int ((0 : Nat) : Int) 0, .int ((0 : Nat) : Int) 0, .ref S, .int (es.size : Int) 0, .int (ep : Int) 0] }).get? (s.heap.objs.size + 1) = some { cls := .type "set_iterator", data := .fields #[.int ((0 : Nat) : Int) 0, .int ((0 : Nat) : Int) 0, .ref S, .int (es.size : Int) 0, .int (ep : Int) 0] } := by
    rw [← hz1]; exact Heap.get?_push_size _ rfl
  have hod₂ := Heap.get?_push_of_some { cls := .type "set_iterator", data := .fields #[.int ((0 : Nat) : Int) 0, .int ((0 : Nat) : Int) 0, .ref S, .int (es.size : Int) 0, .int (ep : Int) 0] } hod₁
  have hS₂ := Heap.get?_push_of_some { cls := .type "set_iterator", data := .fields #[.int ((0 : Nat) : Int) 0, .int ((0 : Nat) : Int) 0, .ref S, .int (es.size : Int) 0, .int (ep : Int) 0] } hS₁
  show wpAny _ A.in1 _ _ _ _
  refine wpAny_bind (wpAny_holding ?_)
  unfold Builtin.List.listLengthHint
  refine wpAny_bind (wpAny_specialOf (T := "set") ⟨od, hod₂, hcd⟩ set_len_look ?_)
  generalize hid : ("set.__len__" : String) = id0
  fail_if_success (clear hid id0)
  wp_delta
  rw [show splitId id0 = some ("set", "__len__") from by subst hid; decide +kernel]
  subst hid
  refine wpAny_bind (wpAny_isInstance (b := true) (T := "set") ⟨od, hod₂, hcd⟩ (by rw [isSubtype_type]; kernel_rfl) ?_)
  rw [if_neg (by decide)]
  dsimp only
  rw [if_pos (by decide +kernel)]
  refine wpAny_bind (wpAny_typeOf (T := "set") ⟨od, hod₂, hcd⟩ ?_)
  refine wpAny_pure ?_
  rw [if_pos (by decide)]
  have hne : S ≠ s.heap.objs.size + 1 := Nat.ne_of_lt (Nat.lt_succ_of_lt hS0)
  generalize hH : ((s.heap.push { cls := .type "list", data := .seq ([] : List Value).toArray }).push { cls := .type "set_iterator", data := .fields #[.int ((0 : Nat) : Int) 0, .int ((0 : Nat) : Int) 0, .ref S, .int (es.size : Int) 0, .int (ep : Int) 0] }) = H at hI hod₂ hS₂ ⊢
  have hold : ∀ b o, s.heap.get? b = some o → H.get? b = some o := fun b o e => by rw [← hH]; exact Heap.get?_push_of_some _ (Heap.get?_push_of_some _ e)
  refine wpAny_bind (wpAny_rule ?_)
  refine wpAny_bind ?_
  show wpAny _ A.in1 (updateSeq s.heap.objs.size (·.push .none) >>= fun _ => updateSeq s.heap.objs.size (·.pop)) _ _ _
  refine wpAny_bind (wpAny_updateSeq hS₂ rfl ?_)
  have hS₃ := Heap.get?_update_self (Obj.mapSeq (·.push Value.none)) hS₂ rfl
  refine wpAny_updateSeq hS₃ rfl ?_
  have hS₄ := Heap.get?_update_self (Obj.mapSeq (·.pop)) hS₃ rfl
  have oth : ∀ b o, b ≠ s.heap.objs.size → H.get? b = some o → ((H.update s.heap.objs.size (Obj.mapSeq (·.push Value.none))).update s.heap.objs.size (Obj.mapSeq (·.pop))).get? b = some o :=
    fun b o hb e => (Heap.get?_update_other _ _ (Ne.symm hb)).trans ((Heap.get?_update_other _ _ (Ne.symm hb)).trans e)
  refine wpAny_pure ⟨plainId_quiet F.plain_extend_loop _, codeAny_extend_loopS (Walks.setIt (w := w) (A := A.in1) hh (s.heap.objs.size + 1) S hne es ep t hsz).toS hn _ ?_ _ es.size 0 _ _ _ rfl (Nat.zero_le _)
    ⟨⟨_, oth _ _ (Nat.succ_ne_self _) hI, rfl, ?_⟩, ⟨od, oth _ _ (Ne.symm hne0) hod₂, hcd, hdd, hf, hp, hled, hbl⟩⟩ hS₄ (ItemsOf.nil _) fun s' acc' c' hm hS' hacc => ?_⟩
  · simp only [List.mem_cons, List.not_mem_nil, or_false, not_or]
    exact ⟨Nat.ne_of_lt (Nat.lt_succ_self _), hne0⟩
  · unfold slotN; simp
  show wpAny _ A (load s.heap.objs.size >>= _) _ _ s'
  refine wpAny_bind (wpAny_load hS' ?_)
  have e1 := Moved.eq_with hm
  rw [e1]
  refine wpAny_pure (hQ s'.heap s'.toks acc' (Nat.le_of_lt (Heap.lt_size hS')) (fun b o e => ?_) hacc)
  have hlt := Heap.lt_size e
  refine hm.heap b o ?_ (oth _ _ (Nat.ne_of_lt hlt) (hold _ _ e))
  simp only [List.mem_cons, List.not_mem_nil, or_false, not_or]
  exact ⟨Nat.ne_of_lt hlt, Nat.ne_of_lt (Nat.lt_succ_of_lt hlt)⟩
end
end

/-! the part S4 -/
section
open PyProof.Rows.LCg
/-- a set of small ints, made in rising order -/
noncomputable def SetObj (w : World) (o : Obj) (xs : List Int) : Prop :=
  o.cls = .type "set" ∧ o.dict = none ∧ o.slots = #[] ∧ ∃ (es : Array (Int × Value)) (ep : Nat) (t : SetTable), o.data = .set es ep t ∧ t.plain = true ∧ t.led = !(w.params.followText "set-order") ∧ t.dummies = #[] ∧ t.mask = 7 ∧
    (∀ e ∈ es.toList, ∃ tok, e.2 = .int e.1 tok) ∧ t.place.toList = xs.map Int.toNat ∧ es.toList.map (·.1) = xs
/-- rising, from 1 to 6, three at most -/
noncomputable def Rise (xs : List Int) : Prop := xs.Pairwise (· < ·) ∧ (∀ x ∈ xs, 1 ≤ x ∧ x ≤ 6) ∧ xs.length ≤ 3
theorem erase_perm {α : Type} : ∀ (l : List α) (i : Nat) (h : i < l.length), (l[i] :: l.eraseIdx i).Perm l
  | _ :: _, 0, _ => List.Perm.refl _
  | x :: xs, i + 1, h => by
    have h' : i < xs.length := by simpa using h
    exact (List.Perm.swap x _ _).trans ((erase_perm xs i h').cons x)
theorem pick_go {α : Type} (next : Nat → Nat) : ∀ (fuel k : Nat) (left : List α) (out : Array α), left.length ≤ fuel → (pickOrder.go next fuel k left out).toList.Perm (out.toList ++ left)
  | 0, k, left, out, h => by
    have : left = [] := List.length_eq_zero_iff.mp (by omega)
    subst this; simp [pickOrder.go]
  | fuel + 1, k, left, out, h => by
    unfold pickOrder.go
    cases hl : left with
    | nil => simp
    | cons x xs =>
      rw [← hl]
      have hpos : 0 < left.length := by rw [hl]; simp
      have hlt : next k % left.length < left.length := Nat.mod_lt _ hpos
      rw [List.getElem?_eq_getElem hlt]
      dsimp only
      refine (pick_go next fuel (k + 1) _ _ (by rw [List.length_eraseIdx]; simp [hlt]; omega)).trans ?_
      rw [Array.toList_push, List.append_assoc]
      exact List.Perm.append_left _ (erase_perm left _ hlt)
theorem pick_perm {α : Type} (next : Nat → Nat) (xs : Array α) : (pickOrder next xs).toList.Perm xs.toList := by
  unfold pickOrder
  simpa using pick_go next xs.size 0 xs.toList #[] (by simp)
theorem ordOf_perm (w : World) (S : Addr) (ep : Nat) (es : Array (Int × Value)) : (ordOf w S ep es).toList.Perm es.toList := by
  unfold ordOf; split
  · exact pick_perm _ _
  · exact List.Perm.refl _
theorem ints_of : ∀ (L : List (Int × Value)), (∀ e ∈ L, ∃ tok, e.2 = .int e.1 tok) → IntsAre (L.map (·.2)) (L.map (·.1))
  | [], _ => .nil
  | e :: L, h => by
    obtain ⟨tok, ht⟩ := h e (.head _)
    have h2 := ints_of L fun e' he' => h e' (.tail _ he')
    simp only [List.map_cons, ht]
    exact .cons _ _ h2
theorem below_small {pl : Array Nat} {xs : List Int} (hp : pl.toList = xs.map Int.toNat) (hx : Rise xs) : ∀ i, i ≤ pl.size → SetTable.below pl (if i = 0 then 0 else pl.getD (i - 1) 0 + 1) = i := by
  obtain ⟨h1, h2, h3⟩ := hx
  have e : pl = (xs.map Int.toNat).toArray := by rw [← hp]
  subst e
  intro i hi
  simp only [List.size_toArray, List.length_map] at hi
  match xs, h1, h2, h3, hi with
  | [], _, _, _, hi =>
    have : i = 0 := by simpa using hi
    subst this; rfl
  | [a], _, h2, _, hi =>
    have : i = 0 ∨ i = 1 := by simp at hi; omega
    rcases this with rfl | rfl <;> simp [SetTable.below, SetTable.below.go]
  | [a, b], h1, h2, _, hi =>
    have hab : a < b := by simpa using h1
    have ha := h2 a (by simp)
    have hb := h2 b (by simp)
    have l1 : a.toNat < b.toNat := by omega
    have : i = 0 ∨ i = 1 ∨ i = 2 := by simp at hi; omega
    rcases this with rfl | rfl | rfl <;> simp [SetTable.below, SetTable.below.go] <;> omega
  | [a, b, c], h1, h2, _, hi =>
    have hab : a < b := by simp at h1; omega
    have hbc : b < c := by simp at h1; omega
    have ha := h2 a (by simp)
    have hb := h2 b (by simp)
    have hc := h2 c (by simp)
    have l1 : a.toNat < b.toNat := by omega
    have l2 : b.toNat < c.toNat := by omega
    have : i = 0 ∨ i = 1 ∨ i = 2 ∨ i = 3 := by simp at hi; omega
    rcases this with rfl | rfl | rfl | rfl <;> simp [SetTable.below, SetTable.below.go] <;> omega
  | _ :: _ :: _ :: _ :: _, _, _, h3, _ => simp at h3
section
variable {w : World} {A : Around} {E : Value → Shared → Prop} {s : Shared} {h₀ : Heap} {L : Addr} {m : Str → Option Value} {news : Ledger}
theorem sorted_set {S : Addr} {o : Obj} {xs : List Int} {Q : Value → Shared → Prop} (hh : A.handled = none) (F : Fr h₀ L s.heap m) (N : News h₀ L s.heap news) (hm : (S, o) ∈ news) (ho : SetObj w o xs) (hx : Rise xs)
    (h : ∀ r its n h' tk, Fr h₀ L h' m → News h₀ L h' ((r, listOf its n) :: news) → IntsAre its.toList xs → Q (.ref r) { s with heap := h', toks := tk }) :
    wpAny (model PG w) A (call (.builtin "sorted") [.ref S]) Q E s := by
  obtain ⟨hc, _, _, es, ep, t, hd, hp, hled, hdum, hmask, hes, hpl, hxs⟩ := ho
  have hlen : es.size = xs.length := by rw [← hxs]; simp
  have hplz : t.place.size = es.size := by
    have := congrArg List.length hpl
    simp at this; omega
  have h3 := hx.2.2
  have hbl := below_small hpl hx
  rw [hplz] at hbl
  have hg : SetG w s.heap S es ep t := ⟨o, N.get hm, hc, hd, by simp [SetTable.fits, SetTable.fill, hplz, hdum, hmask]; omega, hp, hled, hbl⟩
  have hperm := ordOf_perm w S ep es
  have hsz : (ordOf w S ep es).size = es.size := by simpa using hperm.length_eq
  have hord : ∀ e ∈ (ordOf w S ep es).toList, ∃ tok, e.2 = .int e.1 tok := fun e he => hes e (hperm.mem_iff.mp he)
  have hI := ints_of _ hord
  have hpx : ((ordOf w S ep es).toList.map (·.1)).Perm xs := by rw [← hxs]; exact hperm.map _
  refine Calls.call_function_entry kind_sorted plain_sorted entry_sorted (args_sorted1 _) ?_
  unfold Builtin.«sorted»
  refine wpAny_bind (m := checkCount "sorted" 1 1 _) (wpAny_pure ?_)
  refine wpAny_bind (collect_set hh hg hsz (by rw [sizeLine_eq]; omega) fun h' tk acc hle hk hacc => ?_)
  have hvs : acc.toList = (ordOf w S ep es).toList.map (·.2) := by
    apply List.ext_getElem?
    intro j
    rw [List.getElem?_map]
    by_cases hj : j < es.size
    · have h1 : acc[j]? = some (acc[j]'(by rw [hacc.1]; exact hj)) := Array.getElem?_eq_getElem _
      obtain ⟨x, hx1, hx2⟩ := hacc.2 j _ h1
      rw [Array.getElem?_toList, h1, Array.getElem?_toList, hx1, hx2]; rfl
    · have h1 : acc[j]? = none := Array.getElem?_eq_none (by rw [hacc.1]; omega)
      have h2 : (ordOf w S ep es)[j]? = none := Array.getElem?_eq_none (by omega)
      rw [Array.getElem?_toList, h1, Array.getElem?_toList, h2]; rfl
  rw [hvs]
  generalize hV : (ordOf w S ep es).toList.map (·.2) = vs at hI ⊢
  have hl64 : vs.length < 64 := by rw [← hV]; simp; omega
  refine wpAny_bind (wpAny_newList ?_)
  have hoL : (h'.push (seqObj "list" vs.toArray 0)).get? h'.objs.size = some (seqObj "list" vs.toArray 0) := Heap.get?_push_size _ rfl
  refine wpAny_bind (wpAny_holding (wpAny_call_entry slot_list_sort ⟨_, hoL, rfl⟩ entry_list_sort (list_sort_tree hoL hI hl64 fun out ns' a1 a2 a3 => ⟨_, rfl, ?_⟩) (args_list_sort _)))
  have hns : ns' = xs := (a2.trans hpx).eq_of_pairwise (fun a b _ _ h1 h2 => Int.le_antisymm h1 h2) a3 (hx.1.imp fun h => Int.le_of_lt h)
  subst hns
  obtain ⟨e, he⟩ := sortedHeap_at (out := out) hoL
  have kept : ∀ b o, s.heap.get? b = some o → (sortedHeap (h'.push (seqObj "list" vs.toArray 0)) h'.objs.size vs out).get? b = some o := fun b o eb => by
    have hb := hk b o eb
    have hlt := Heap.lt_size hb
    rw [sortedHeap_old (Nat.ne_of_lt hlt) (by rw [size_push']; exact Nat.lt_succ_of_lt hlt), Heap.get?_push_ne _ _ _ (Nat.ne_of_lt hlt)]
    exact hb
  refine wpAny_pure ⟨_, rfl, h _ out e _ _ (F.kept kept) (N.kept_cons F kept hle he) a1⟩
end
end

/-! the part S5 -/
section
open PyProof.Rows.LCg
theorem below_go_all (xs : Array Nat) (j : Nat) (H : ∀ i, i < xs.size → xs.getD i j < j) : ∀ fuel lo, xs.size - lo ≤ fuel → lo ≤ xs.size → SetTable.below.go xs j fuel lo xs.size = xs.size
  | 0, lo, h1, h2 => by unfold SetTable.below.go; omega
  | fuel + 1, lo, h1, h2 => by
    unfold SetTable.below.go
    by_cases hlt : lo < xs.size
    · rw [if_pos hlt]
      dsimp only
      rw [if_pos (H _ (by omega))]
      exact below_go_all xs j H fuel _ (by omega) (by omega)
    · rw [if_neg hlt]; omega
theorem below_all (xs : Array Nat) (j : Nat) (H : ∀ i, i < xs.size → xs.getD i j < j) : SetTable.below xs j = xs.size := below_go_all xs j H _ _ (by omega) (by omega)
theorem six {k : Int} (h1 : 1 ≤ k) (h6 : k ≤ 6) : k = 1 ∨ k = 2 ∨ k = 3 ∨ k = 4 ∨ k = 5 ∨ k = 6 := by omega
theorem bits_small {k : Int} (h1 : 1 ≤ k) (h6 : k ≤ 6) : SetTable.bits k % 8 = k.toNat := by
  rcases six h1 h6 with rfl | rfl | rfl | rfl | rfl | rfl <;> decide
theorem hash_small {k : Int} (h1 : 1 ≤ k) (h6 : k ≤ 6) : hashInt k = k := by
  rcases six h1 h6 with rfl | rfl | rfl | rfl | rfl | rfl <;> decide +kernel
theorem insert_end {α : Type} (xs : Array α) (x : α) {p : Nat} (hp : p = xs.size) : SetTable.insertAt xs p x = xs.push x := by
  subst hp; simp [SetTable.insertAt]
theorem lay_small {t : SetTable} {es : Array (Int × Value)} {k : Int} {x : Value} (h1 : 1 ≤ k) (h6 : k ≤ 6) (hm : t.mask = 7) (hd : t.dummies = #[]) (hz : t.place.size = es.size) (h3 : es.size ≤ 2) (H : ∀ i, i < t.place.size → t.place.getD i k.toNat < k.toNat) :
    layNew t es k x = (es.push (k, x), { t with place := t.place.push k.toNat }, false, false) := by
  have hb := below_all t.place k.toNat H
  have hs : t.slot k.toNat = .empty := by
    unfold SetTable.slot
    simp [hb, hd, SetTable.has]
  have hj : (t.probeStart k).j = k.toNat := by
    unfold SetTable.probeStart
    dsimp only
    rw [hm]; exact bits_small h1 h6
  have hdum : (t.probeStart k).dummy = none := rfl
  have hfr : t.freeSlot k = some (k.toNat, false) := by
    unfold SetTable.freeSlot SetTable.probe
    have e : 10 * SetTable.turns t.mask = 219 + 1 := by rw [hm]; rfl
    rw [e]
    unfold SetTable.probe.go
    rw [hj, hs, hdum]
    rfl
  have hput : t.put k.toNat = ({ t with place := t.place.push k.toNat }, es.size) := by
    unfold SetTable.put
    rw [hb, hd]
    dsimp only
    rw [insert_end _ _ rfl, hz]
    simp [SetTable.has, SetTable.eraseAt]
  unfold layNew
  rw [hfr]
  dsimp only
  rw [hput]
  dsimp only
  rw [insert_end _ _ rfl]
  have hf : SetTable.fits { t with place := t.place.push k.toNat } (es.push (k, x)).size = true := by
    simp [SetTable.fits, SetTable.fill, hm, hd, hz]; omega
  unfold SetTable.orStandIn
  rw [if_pos hf, hf]
  rfl
section
variable {w : World} {A : Around} {E : Value → Shared → Prop} {s : Shared}
theorem add_small {S : Addr} {ys : List Int} {k : Int} {tok : Tok} {Q : Bool → Shared → Prop} (hS : ∃ o, s.heap.get? S = some o ∧ SetObj w o ys) (hr : Rise (ys ++ [k]))
    (h : ∀ h', Heap.SameBut S s.heap h' → (∃ o, h'.get? S = some o ∧ SetObj w o (ys ++ [k])) → Q true { s with heap := h' }) :
    wpAny (model PG w) A (setAddHashed S (.int k tok) ((intKind PG w).hash k)) Q E s := by
  obtain ⟨o, ho, hc, hdc, hsl, es, ep, t, hd, hp, hled, hdum, hmask, hes, hpl, hxs⟩ := hS
  obtain ⟨r1, r2, r3⟩ := hr
  have hk := r2 k (by simp)
  have hyk : ∀ y ∈ ys, y < k := fun y hy => (List.pairwise_append.mp r1).2.2 y hy k (by simp)
  have hlen : es.size = ys.length := by rw [← hxs]; simp
  have hlen3 : ys.length ≤ 2 := by simpa using r3
  have hplz : t.place.size = es.size := by
    have := congrArg List.length hpl
    simp at this; omega
  have hf : t.fits es.size = true := by simp [SetTable.fits, SetTable.fill, hplz, hdum, hmask]; omega
  have hmem : ∀ e ∈ es.toList, e.1 ∈ ys := fun e he => by rw [← hxs]; exact List.mem_map_of_mem he
  have hel : ElemsOf (intKind PG w) es.toList := fun e he => by
    obtain ⟨tk, ht⟩ := hes e he
    have hr := r2 e.1 (by simp [hmem e he])
    rw [ht]
    exact ⟨⟨e.1, intKind_is _ _ _ _, (hash_small hr.1 hr.2).symm⟩, rfl⟩
  have hsc : (Value.int k tok).scannable = true := rfl
  have hb : es.size < scanBound := by unfold scanBound; omega
  have hH : ∀ i, i < t.place.size → t.place.getD i k.toNat < k.toNat := fun i hi => by
    have e1 : t.place.getD i k.toNat = t.place.toList[i]'(by simpa using hi) := by simp [Array.getD, hi]
    rw [e1]
    have hmm : t.place.toList[i]'(by simpa using hi) ∈ ys.map Int.toNat := by rw [← hpl]; exact List.getElem_mem _
    obtain ⟨y, hy, e2⟩ := List.mem_map.mp hmm
    rw [← e2]
    have h1 := hyk y hy
    have h2 := r2 y (by simp [hy])
    omega
  unfold setAddHashed setAddHashedIn
  refine wpAny_holding (wpAny_bind (wpAny_setState_of ho hd hf ?_))
  dsimp only
  rw [byScan_of (knd := intKind PG w) hsc hb hel]
  simp only [↓reduceIte]
  unfold setAddByScan
  refine wpAny_bind ?_
  refine wpAny_bind (wpAny_rule ?_)
  refine wpAny_bind (wpAny_setScan_of (knd := intKind PG w) (intKind_is _ _ _ _) ho hd hf hel ?_)
  have hnone : List.findIdx? (fun e : Int × Value => (intKind PG w).is k e.2) es.toList = none := by
    rw [List.findIdx?_eq_none_iff]
    intro e he
    obtain ⟨tk, ht⟩ := hes e he
    have h1 := hyk _ (hmem e he)
    rw [ht, KeyKind.is_eq_decide (knd := intKind PG w) (intKind_is _ _ e.1 tk) k]
    simp; omega
  rw [hnone]
  dsimp only
  have hash : (intKind PG w).hash k = k := hash_small hk.1 hk.2
  rw [hash, lay_small hk.1 hk.2 hmask hdum hplz (by omega) hH]
  dsimp only
  refine wpAny_bind (wpAny_pure ?_)
  rw [if_pos hp]
  refine wpAny_bind ?_
  rw [hashByValue_scannable 8 hsc]
  refine wpAny_pure ?_
  rw [if_pos (show plainKind (.int k tok) = true from rfl)]
  show wpAny _ _ (storeSet S (es.push (k, .int k tok)) { t with place := t.place.push k.toNat } >>= _) _ _ s
  have hz1 : (es.push (k, Value.int k tok)).size ≤ sizeLine := by rw [Array.size_push, sizeLine_eq]; omega
  refine wpAny_bind (wpAny_storeSet_of ho hd ?_ hz1)
  have htf : SetTable.tooFull { t with place := t.place.push k.toNat } = false := by
    simp [SetTable.tooFull, SetTable.fill, hmask, hdum, hplz]; omega
  rw [htf]
  simp only [Bool.and_false, Bool.false_eq_true, if_false]
  have ho1 := Heap.get?_update_self (Obj.putSet (es.push (k, Value.int k tok)) { t with place := t.place.push k.toNat }) ho (by rw [putSet_of _ _ hd]; rfl)
  rw [putSet_of _ _ hd] at ho1
  refine wpAny_pure (wpAny_pure (h _ (Heap.SameBut.update ..) ⟨_, ho1, hc, hdc, hsl, _, _, _, rfl, hp, hled, hdum, hmask, ?_, ?_, ?_⟩))
  · intro e he
    rw [Array.toList_push] at he
    rcases List.mem_append.mp he with he | he
    · exact hes e he
    · rw [List.mem_singleton.mp he]; exact ⟨tok, rfl⟩
  · rw [Array.toList_push, hpl, List.map_append]; rfl
  · rw [Array.toList_push, List.map_append, hxs]; rfl
end
end

/-! the part S6 -/
section
open PyProof.Rows.LCg
theorem rise_take {xs : List Int} (hx : Rise xs) (i : Nat) : Rise (xs.take i) :=
  ⟨hx.1.sublist (List.take_sublist _ _), fun x h => hx.2.1 x (List.mem_of_mem_take h), Nat.le_trans (by rw [List.length_take]; exact Nat.min_le_right _ _) hx.2.2⟩
theorem take_next {xs : List Int} {i : Nat} (hi : i < xs.length) : xs.take (i + 1) = xs.take i ++ [xs.getD i 0] := by
  rw [List.take_succ, List.getElem?_eq_getElem hi, List.getD_eq_getElem?_getD, List.getElem?_eq_getElem hi]; rfl
section
variable {w : World} {A : Around} {R : Result → Shared → Prop} {I : Addr} {fp wr : List Addr} {G : Array GenState → Array GenState → Prop} {P : Nat → Value → Prop} {St : Nat → Shared → Prop} {xs : List Int}
theorem set_loop (W : WalksS PG w A.in1 I fp wr G xs.length P St) (S : Addr) (hSf : S ∉ fp) (hx : Rise xs)
    (hval : ∀ i v, P i v → ∃ t, v = .int (xs.getD i 0) t) :
    ∀ (k i : Nat) (s : Shared), xs.length - i = k → i ≤ xs.length → St i s →
      (∃ o, s.heap.get? S = some o ∧ SetObj w o (xs.take i)) →
      (∀ s', Moved (S :: wr) G s s' → (∃ o, s'.heap.get? S = some o ∧ SetObj w o xs) → R (.ok (.ret .none)) s') →
      codeAny (model PG w) A (.builtin "set.update.loop" ⟨[.ref S, .ref I], []⟩) R s := by
  have hSw : S ∉ wr := fun h => hSf (W.sub _ h)
  have hsub : ∀ b ∈ wr, b ∈ S :: wr := fun b hb => List.mem_cons_of_mem _ hb
  intro k
  induction k with
  | zero =>
    intro i s hk hi hst hS hR
    have hin : i = xs.length := by omega
    subst hin
    refine codeAny_builtin F.entry_set_update_loop ?_
    rw [Around.under_plainId F.plain_set_update_loop _]
    show wpAny _ A.in1 (pyNext (.ref I) >>= _) _ _ s
    refine wpAny_bind (W.done s _ _ hst fun s' hm => ?_)
    show wpAny _ A.in1 (ret Value.none) _ _ s'
    exact wpAny_pure (hR s' (hm.mono hsub) (by
      obtain ⟨o, ho, rest⟩ := hS
      rw [List.take_length] at rest
      exact ⟨o, hm.heap S _ hSw ho, rest⟩))
  | succ k ih =>
    intro i s hk hi hst hS hR
    have hlt : i < xs.length := by omega
    refine codeAny_builtin F.entry_set_update_loop ?_
    rw [Around.under_plainId F.plain_set_update_loop _]
    show wpAny _ A.in1 (pyNext (.ref I) >>= _) _ _ s
    refine wpAny_bind (W.item i s _ _ hlt hst fun v s' hP hst' hm => ?_)
    obtain ⟨t, rfl⟩ := hval i v hP
    have hS' : ∃ o, s'.heap.get? S = some o ∧ SetObj w o (xs.take i) := by
      obtain ⟨o, ho, rest⟩ := hS
      exact ⟨o, hm.heap S _ hSw ho, rest⟩
    show wpAny _ A.in1 (holding [Value.int (xs.getD i 0) t] (setAdd S (.int (xs.getD i 0) t)) >>= _) _ _ s'
    refine wpAny_bind (wpAny_holding ?_)
    unfold setAdd
    refine wpAny_holding ?_
    refine wpAny_bind ((intKind PG w).pyHash (k := xs.getD i 0) (intKind_is _ _ _ _) ?_)
    have htk := take_next hlt
    refine add_small (s := { s' with toks := s'.toks + 1 }) hS' (by rw [← htk]; exact rise_take hx _) fun h' hsb hS2 => ?_
    rw [← htk] at hS2
    refine wpAny_pure ⟨plainId_quiet F.plain_set_update_loop _, ih (i + 1) _ (by omega) hlt (W.frame _ s' _ _ hst' (Nat.le_succ _) fun b hb o e => ?_) hS2 fun s'' hm'' hS'' => ?_⟩
    · rw [hsb.2 b (fun h : b = S => hSf (by rw [← h]; exact hb))]; exact e
    · refine hR s'' (Moved.trans W.gtrans ((hm.mono hsub).then_heap (Nat.le_succ _) fun b o hb e => ?_) hm'') hS''
      rw [hsb.2 b (fun h : b = S => hb (by rw [h]; exact List.mem_cons_self))]; exact e
end
section
variable {w : World} {A : Around} {E : Value → Shared → Prop} {s : Shared}
theorem code_set_new_led (a : Value) {Q₁ : Value → Shared → Prop}
    (h : Q₁ (.ref s.heap.objs.size) { s with heap := s.heap.push { cls := .type "set", dict := none, data := .set #[] 0 (.fresh 0 0 (!byText w)) } }) :
    codeAny (model PG w) A (.call (.builtin "set.__new__") ⟨[.type "set", a], []⟩) (wants Q₁ E) s := by
  refine codeAny_of_tree ?_
  show wpAny _ A.in1 (do checkBuiltinCall "set.__new__" ⟨[.type "set", a], []⟩; again (.builtin "set.__new__" ⟨[.type "set", a], []⟩)) _ _ s
  refine wpAny_bind (wpAny_of_eq (F.newCall_set_1 a) (wpAny_pure ⟨plainId_quiet F.plain_set_new _, codeAny_builtin F.entry_set_new ?_⟩))
  rw [Around.under_plainId F.plain_set_new _]
  unfold Builtin.«set.__new__» Builtin.Frozenset.newClass
  have hsub := sub_set_self
  obtain ⟨hp, g, d, tk, os⟩ := s
  dsimp only
  wp_walk
  refine wpAny_askSetting (wpAny_pure ?_)
  dsimp only
  simp only [newObj]
  refine wpAny_bind (wpAny_alloc (wpAny_pure ?_))
  exact wpAny_pure h

set_option maxRecDepth 100000 in
set_option maxHeartbeats 3200000 in

theorem call_set_led {l : Addr} {items : Array Value} {ns : List Int} (hx : Rise ns) {Q : Value → Shared → Prop}
    (hh : A.handled = none) (hl : s.heap.IsList l items) (hi : PyProof.Rows.IntsAre items.toList ns) 
    (h : ∀ (h' : Heap) (tk : Nat), (∃ o, h'.get? s.heap.objs.size = some o ∧ SetObj w o ns) →
      (∀ b o, b < s.heap.objs.size → s.heap.get? b = some o → h'.get? b = some o) → Q (.ref s.heap.objs.size) { s with heap := h', toks := tk }) :
    wpAny (model PG w) A (call (.type "set") [.ref l]) Q E s := by
  obtain ⟨c, tl, hmro⟩ := F.called_set.mro
  have hmade := F.called_set.made
  have hsub := F.called_set.sub
  refine wpAny_call (codeAny_of_tree ?_)
  show wpAny _ _ (callAny (.type "set") _) _ _ _
  refine wpAny_pure ⟨Code.quiet_builtin _ (by decide +kernel), codeAny_builtin F.entry_type_call ?_⟩
  rw [Around.under_plain (weight_type_call_type "set" [.ref l] []) rfl]
  have h1 := F.called_set.notType
  have h2 := F.called_set.canCreate
  have hct := F.typeCall_set_1 (.ref l)
  repeat (any_goals (first | assumption | wp_step))

  refine codeAny_mono (code_set_new_led (.ref l) (E := E) (Q₁ := fun obj s₁ => obj = .ref s.heap.objs.size ∧ s₁ = { s with heap := s.heap.push { cls := .type "set", dict := none, data := .set #[] 0 (.fresh 0 0 (!byText w)) } }) ⟨rfl, rfl⟩) fun r s₁ hr => ?_
  cases r with
  | error e => exact hr
  | ok fl =>
    cases fl with
    | ret obj =>
      obtain ⟨rfl, rfl⟩ := hr
      generalize hled : (!byText w) = led
      have hS : (s.heap.push { cls := .type "set", dict := none, data := .set #[] 0 (.fresh 0 0 led) }).get? s.heap.objs.size = some { cls := .type "set", dict := none, data := .set #[] 0 (.fresh 0 0 led) } := Heap.get?_push_size _ rfl
      have hT : Shared.TypeIs { s with heap := s.heap.push { cls := .type "set", dict := none, data := .set #[] 0 (.fresh 0 0 led) } } (.ref s.heap.objs.size) "set" := ⟨_, hS, rfl⟩
      have hli := F.called_set.init.lookup
      have hbi := F.called_set.init.bind (.ref s.heap.objs.size)
      repeat (any_goals (first | assumption | wp_step))

      refine codeAny_mono (codeAny_call_builtin (R := wants (fun r s₂ => r = .none ∧ ∃ h' tk, s₂ = { s with heap := h', toks := tk } ∧
          (∃ o, h'.get? s.heap.objs.size = some o ∧ SetObj w o ns) ∧
          (∀ b o, b < s.heap.objs.size → s.heap.get? b = some o → h'.get? b = some o)) E) F.called_set.init.plain F.entry_set_init (check_set_init_1 hT ?_)) fun r₂ s₂ hr₂ => ?_
      · obtain ⟨ol, hol, hcl, nl, hdl⟩ := hl
        obtain ⟨ocls, odict, odata, oslots⟩ := ol
        simp only at hcl hdl
        subst hcl; subst hdl
        have hol' : (s.heap.push { cls := .type "set", dict := none, data := .set #[] 0 (.fresh 0 0 led) }).get? l = some { cls := .type "list", dict := odict, data := .seq items nl, slots := oslots } := Heap.get?_push_of_some _ hol
        have hsls := F.sub_list_set
        have hslf := F.sub_list_frozenset
        have hne : (Value.type "list" == Value.type "dict") = false := by decide
        have hl1 : (s.heap.push { cls := .type "set", dict := none, data := .set #[] 0 (.fresh 0 0 led) }).IsList l items := ⟨_, hol', rfl, nl, rfl⟩
        unfold Builtin.«set.__init__» noKeywords Builtin.Frozenset.updateFrom
        generalize hPI : pyIter = PI
        wp_walk
        subst hPI

        refine wpAny_pyIter_list hl1 ?_
        refine wpAny_bind (wpAny_runValue ?_)
        have hlS : l < s.heap.objs.size := Heap.lt_size hol
        have hh3 : A.in1.in1.in1.handled = none := by simp [hh]
        have hneI : l ≠ (s.heap.push { cls := .type "set", dict := none, data := .set #[] 0 (.fresh 0 0 led) }).objs.size := by
          rw [Heap.size_push]; exact Nat.ne_of_lt (Nat.lt_succ_of_lt hlS)
        have hSf : s.heap.objs.size ∉ [(s.heap.push { cls := .type "set", dict := none, data := .set #[] 0 (.fresh 0 0 led) }).objs.size, l] := by
          rw [Heap.size_push]; simp only [List.mem_cons, List.mem_singleton, List.not_mem_nil, or_false, not_or]
          exact ⟨Nat.ne_of_lt (Nat.lt_succ_self _), Nat.ne_of_gt hlS⟩
        have hval : ∀ (i : Nat) (v : Value), items[i]? = some v → ∃ t, v = .int ((fun i => ns.getD i 0) i) t := fun i v hv =>
          PyProof.Rows.IntsAre.int_at hi i v (by rw [Array.getElem?_toList]; exact hv)
        have hzn : items.size = ns.length := by rw [← Array.length_toList]; exact IntsAre.length hi
        have WL := (Walks.list (prog := PG) (w := w) hh3 (s.heap.push { cls := .type "set", dict := none, data := .set #[] 0 (.fresh 0 0 led) }).objs.size l hneI items).toS
        rw [hzn] at WL
        refine set_loop WL s.heap.objs.size
          hSf hx hval (ns.length - 0) 0 _ (by omega) (Nat.zero_le _)
          ⟨⟨_, Heap.get?_push_size _ rfl, rfl, rfl⟩, (hl1.push _)⟩ ?hS0 ?hR
        case hS0 =>
          have hget : ((s.heap.push { cls := .type "set", dict := none, data := .set #[] 0 (.fresh 0 0 led) }).push { cls := .type "list_iterator", data := .fields #[.ref l, .int 0 0] }).get? s.heap.objs.size
              = some { cls := .type "set", dict := none, data := .set #[] 0 (.fresh 0 0 led) } := Heap.get?_push_of_some _ hS
          exact ⟨_, hget, rfl, rfl, rfl, _, _, _, rfl, rfl, hled.symm, rfl, rfl, fun e he => by simp at he, rfl, rfl⟩
        case hR =>
          intro s' hm hS'
          obtain ⟨h', g', d', tk', os'⟩ := s'
          have eg : g' = s.gens := hm.gens
          have ed : d' = s.drawn := hm.drawn
          have eo : os' = s.os := hm.os
          subst eg; subst ed; subst eo
          show wpAny _ _ _ _ _ _
          refine wpAny_pure ?_
          show wpAny _ _ (ret Value.none) _ _ _
          refine wpAny_pure ⟨rfl, h', tk', rfl, hS', fun b o hb e => ?_⟩
          have hb1 : b ≠ s.heap.objs.size := Nat.ne_of_lt hb
          have hb2 : b ≠ (s.heap.push { cls := .type "set", dict := none, data := .set #[] 0 (.fresh 0 0 led) }).objs.size := by
            rw [Heap.size_push]; exact Nat.ne_of_lt (Nat.lt_succ_of_lt hb)
          exact hm.heap b o (by simp only [List.mem_cons, List.mem_singleton, List.not_mem_nil, or_false, not_or]; exact ⟨hb1, hb2⟩) (Heap.get?_push_of_some _ (Heap.get?_push_of_some _ e))

      · cases r₂ with
        | error e => exact hr₂
        | ok fl₂ =>
          cases fl₂ with
          | ret r =>
            obtain ⟨rfl, h', tk, rfl, hS', hk'⟩ := hr₂
            repeat (any_goals (first | assumption | wp_step))
            exact h _ _ hS' hk'
          | _ => exact hr₂.elim
    | _ => exact hr.elim
end
section
variable {w : World} {A : Around} {E : Value → Shared → Prop} {s : Shared} {h₀ : Heap} {L : Addr} {m : Str → Option Value} {news : Ledger}
theorem set_made {l : Addr} {xs : List Int} {Q : Value → Shared → Prop} (hh : A.handled = none) (F : Fr h₀ L s.heap m) (N : News h₀ L s.heap news) (hl : LI s.heap l xs) (hx : Rise xs)
    (h : ∀ S o h' tk, Fr h₀ L h' m → News h₀ L h' ((S, o) :: news) → SetObj w o xs → Q (.ref S) { s with heap := h', toks := tk }) :
    wpAny (model PG w) A (call (.type "set") [.ref l]) Q E s := by
  obtain ⟨items, n, hg, hi⟩ := hl
  refine call_set_led hx hh ⟨_, hg, rfl, n, rfl⟩ hi fun h' tk hS hk => ?_
  obtain ⟨o, ho, hso⟩ := hS
  have kept : ∀ b o, s.heap.get? b = some o → h'.get? b = some o := fun b o e => hk b o (Heap.lt_size e) e
  exact h _ o h' tk (F.kept kept) (N.kept_cons F kept (Nat.le_refl _) ho) hso
end
end
local macro_rules | `(tactic| omega) => `(tactic| first | with_reducible (first | assumption | exact oA8 ‹_› rfl | exact oA9 ‹_› rfl | exact oA2 ‹_› rfl | exact oA1 ‹_› | exact oA3 ‹_› rfl | exact oA4 ‹_› rfl | exact oA5 ‹_› rfl | exact oA6 ‹_› rfl | exact Nat.le_of_lt ‹_› | exact zn8 ‹_› ‹_› | exact zn5 ‹_› ‹_› rfl | exact zn51 ‹_› ‹_› rfl | exact zn1 _ | exact Int.toNat_sub _ _ | exact zn4 ‹_› | exact Nat.sub_le _ _ | exact zk1 ‹_› ‹_› | exact zk2 ‹_› ‹_› ‹_›) | decide | lia | omega -splitDisjunctions | omega (config := {}))
local macro_rules | `(tactic| ktr_call enter $b:term) => `(tactic| (k_dflt (refine' enter $b ?k1 ?k2 ?k6 ?k7 ?k8 ?ku ?k9 ?kB ?_ ?c2 ?c3 ?c4 ?c5; (case k1 | k2 | k8 | ku => assumption); (case k6 | k7 => k_is); (case k9 => exact BindsTo.of_eq (by with_unfolding_all rfl)); (case c5 => decide); (case kB => exact locs rfl); (case c2 | c3 | c4 => exact rfl); k_whole; intro L' h' tk' cx hdx hux hfx F' N')))
local macro_rules | `(tactic| ktr_call enterC $b:term) => `(tactic| (k_dflt (refine' enterC $b ?k1 ?k2 ?k6 ?k7 ?k8 ?ku ?k9 ?kB ?kD ?_ ?c2 ?c3 ?c4; (case k1 | k2 | k8 | ku => assumption); (case k6 | k7 => k_is); (case k9 => exact BindsTo.of_eq (by with_unfolding_all rfl)); (case kB | c2 | c3 | c4 => exact rfl); (case kD => decide +kernel); k_whole; intro L' h' tk' cx hdx hux hfx cells' F' N' Y'; k_cells Y'; (try simp only [List.cons_append, List.nil_append] at N'); (try dsimp only))))
local macro_rules | `(tactic| walk_at "m_bits") => `(tactic| first | assumption | exact (by assumption : Bd _) _ (by assumption))
local macro_rules | `(tactic| walk_at "binaryOp Mult int int") => `(tactic| (refine mul_int ?_ (mul_of (by walk_at "m_bits") (by walk_at "m_bits"))))
local macro_rules | `(tactic| walk_at "m_li") => `(tactic| first | exact LI.keeps (by assumption) (Fr.keep (by assumption)) | exact LI.ofNews (by assumption) (by k_mem) (by assumption))
local macro_rules | `(tactic| walk_at "m_all") => `(tactic| (repeat first | exact True.intro | refine And.intro (by with_unfolding_all rfl) ?_))
local macro_rules | `(tactic| walk_at "m_sub") => `(tactic| (repeat first | exact SubL.nil | refine SubL.cons (by k_mem) ?_))
local macro_rules | `(tactic| walk_at "binaryOp FloorDiv int int") => `(tactic| (refine fdiv_rule (by first | assumption | omega) (by assumption) (by assumption) (by assumption) (by omega) ?k1 ?k2 ?k3 ?k4 ?_; (case k1 | k2 | k3 | k4 => with_unfolding_all rfl)))
local macro_rules | `(tactic| walk_at "m_own") => `(tactic| first | exact SubL.nil | (intro p9 hp9; (repeat first | exact hp9 | exact List.mem_append_left _ hp9 | refine List.mem_cons_of_mem _ ?_ | refine List.mem_append_right _ ?_); done) | (intro p9 hp9; simp only [List.mem_append, List.mem_cons, hp9, true_or, or_true]))
local macro_rules | `(tactic| walk_at "exec While") => `(tactic| refine halt ?_) | `(tactic| walk_at "exec While BoolOp cons nil") => `(tactic| refine halt ?_) | `(tactic| walk_at "exec While Compare cons nil") => `(tactic| refine halt ?_) | `(tactic| walk_at "exec For Name Name cons nil") => `(tactic| refine halt ?_) | `(tactic| walk_at "exec For Name Call cons nil") => `(tactic| refine halt ?_) | `(tactic| walk_at "call type:enumerate") => `(tactic| refine halt ?_) | `(tactic| walk_at "exec For Tuple Call cons nil") => `(tactic| refine halt ?_) | `(tactic| walk_at "exec For Tuple Name cons nil") => `(tactic| refine halt ?_) | `(tactic| walk_at "binaryOp Pow int int") => `(tactic| refine halt ?_)
local macro_rules | `(tactic| walk_at "eval ListComp") => `(tactic| ((with_reducible show wpAny _ _ (eval (Expr.ListComp _ [⟨Expr.Tuple _ _ _, _, _, _⟩] _ _) _) _ _ _); refine halt ?_))
local macro_rules | `(tactic| walk_at "exec Assign cons ListComp") => `(tactic| ((with_reducible show wpAny _ _ (exec (Stmt.Assign _ (Expr.ListComp _ [⟨Expr.Tuple _ _ _, _, _, _⟩] _ _) _) _) _ _ _); refine halt ?_))
local macro_rules | `(tactic| walk_at "m_lst") => `(tactic| exact Lst.li (by assumption) (by assumption) (by assumption) (by walk_at "m_own"))
local macro_rules | `(tactic| walk_at "call builtin:len") => `(tactic| (refine len_LI (by walk_at "m_lst") (by omega) ?_; intro t9 tk9))

/-! the part W2 -/
theorem gcd_ok (w : World) {h : Heap} (a b : Int) (ta tb : Tok) :
    Pure w 41 4 [.int a ta, .int b tb] h (fun _ r => ∃ t, r = .int (Int.gcd a b) t) := by
  unfold Pure
  k_fill
  intro mean mg mb dp un fr gd s Q X T hs hd hu hQ
  subst hs
  ktr_call enter [(Str.ofString "a", .int a ta), (Str.ofString "b", .int b tb)]
  refine wpZ fun Zf hZf => ?_
  k_steps
  rename Fr _ _ _ _ => F0
  rename News _ _ _ _ => N0
  unfold Halt
  refine' while_ruleZ (α := Int × Tok × Int × Tok) (fun (x, tx, y, ty) => (Int.gcd x y : Int) = Int.gcd a b ∧ 0 ≤ x ∧ 0 ≤ y) (fun (x, tx, y, ty) => y.toNat) (fun (x, tx, y, ty) => [(Str.ofString "a", .int x tx), (Str.ofString "b", .int y ty)]) (fun _ => []) (?_, ?_, ?_, ?_) F0 N0 ?hA ?hS ?hI ?turn
  case hA => walk_at "m_all"
  case hS => walk_at "m_sub"
  case hI =>
    dsimp only
    refine ⟨gcd_abs a b, ?_, ?_⟩
    · split <;> omega
    · split <;> omega
  clear F0 N0
  rintro ⟨x, tx, y, ty⟩ Z hZ u h tk ⟨hg, hx, hy⟩ F N
  simp only [ovr] at F N hg hx hy
  k_steps
  · rename y ≠ 0 => hy0
    refine hZ _ _ ?_
    refine' WEnd.next (?_, ?_, ?_, ?_) (by assumption) (by assumption) ?hA ?hS ?hI ?hμ
    case hA => walk_at "m_all"
    case hS => walk_at "m_sub"
    case hI => exact ⟨(gcd_step x y hy).trans hg, hy, (fmod_lt x y hy hy0).1⟩
    case hμ => have := fmod_lt x y hy hy0; show (x.fmod y).toNat < y.toNat; omega
  · have e : y = 0 := by omega
    subst e
    rw [gcd_zero_r x hx] at hg
    try refine hZ _ _ ?_
    try refine hZf _ _ ?_
    exact hQ _ _ _ (Fr.keep (by assumption)) (ktn_int hg)
theorem ztrim_ok (w : World) {h : Heap} {xs : List Int} {a : Addr} (hx : LI h a xs) (hl : xs.length < 1000000) :
    Pure w 55 4 [.ref a] h (fun h' r => NewL h h' r (trim xs)) := by
  unfold Pure
  k_fill
  intro mean mg mb dp un fr gd s Q X T hs hd hu hQ
  subst hs
  obtain ⟨its, La, ia⟩ := hx.isList
  ktr_call enter [(Str.ofString "row", .ref a)]
  refine wpZ fun Zf hZf => ?_
  k_steps
  rename Fr _ _ _ _ => F0
  rename News _ _ _ _ => N0
  unfold Halt
  refine' while_ruleZ (α := Nat × Int × Tok) (fun (k, i, _) => i = (k : Int) ∧ k ≤ xs.length ∧ trim (xs.take k) = trim xs) (fun (k, _, _) => k) (fun (_, i, t) => [(Str.ofString "size", .int i t), (Str.ofString "row", .ref a)]) (fun _ => []) (xs.length, ?_, ?_) F0 N0 ?hA ?hS ?hI ?turn
  case hA => walk_at "m_all"
  case hS => walk_at "m_sub"
  case hI => exact ⟨rfl, Nat.le_refl _, by rw [List.take_length]⟩
  clear F0 N0
  rintro ⟨k, i, t⟩ Z hZ u h tk ⟨hi, hk, ht⟩ F N
  simp only [ovr] at F N hi hk ht
  subst hi
  k_steps
  · refine hZ _ _ ?_
    refine' WEnd.next (k - 1, ?_, ?_) (by assumption) (by assumption) ?hA ?hS ?hI ?hμ
    case hA => walk_at "m_all"
    case hS => walk_at "m_sub"
    case hI => dsimp only; exact ⟨by omega, by omega, (trim_dec xs k (by assumption) hk (by assumption)).trans ht⟩
    case hμ => show k - 1 < k; omega
  · try refine hZ _ _ ?_
    try refine hZf _ _ ?_
    exact hQ _ _ _ (Fr.keep (by assumption)) (trim_end xs k hk ht (.inr (by assumption)) ▸ fin_list (by assumption) (by k_mem) (by assumption))
  · try refine hZ _ _ ?_
    try refine hZf _ _ ?_
    exact hQ _ _ _ (Fr.keep (by assumption)) (trim_end xs k hk ht (.inl (by assumption)) ▸ fin_list (by assumption) (by k_mem) (by assumption))
theorem zlead_ok (w : World) {h : Heap} {xs : List Int} {a : Addr} (hx : LI h a xs) (hl : xs.length < 1000000) :
    Pure w 69 4 [.ref a] h (fun _ r => ∃ t, r = .int (lead xs) t) := by
  unfold Pure
  k_fill
  intro mean mg mb dp un fr gd s Q X T hs hd hu hQ
  subst hs
  obtain ⟨its, La, ia⟩ := hx.isList
  ktr_call enter [(Str.ofString "p", .ref a)]
  refine wpZ fun Zf hZf => ?_
  k_steps
  · try refine hZf _ _ ?_
    exact hQ _ _ _ (Fr.keep (by assumption)) (ktn_int (by unfold lead; congr 1; omega))
  · try refine hZf _ _ ?_
    exact hQ _ _ _ (Fr.keep (by assumption)) (ktn_int (by unfold lead; have : xs = [] := List.length_eq_zero_iff.mp (by omega); subst this; rfl))
theorem zneg_ok (w : World) {h : Heap} {xs : List Int} {a : Addr} (hx : LI h a xs) (hl : xs.length < 1000000) :
    Pure w 79 4 [.ref a] h (fun h' r => NewL h h' r (neg xs)) := by
  unfold Pure
  k_fill
  intro mean mg mb dp un fr gd s Q X T hs hd hu hQ
  subst hs
  obtain ⟨its, La, ia⟩ := hx.isList
  ktr_call enter [(Str.ofString "p", .ref a)]
  refine wpZ fun Zf hZf => ?_
  k_steps
  try refine hZf _ _ ?_
  refine hQ _ _ _ (Fr.keep (by assumption)) (fin_plain (by assumption) (by assumption) (ints_map (by assumption) (by assumption)))

theorem zdegree_ok (w : World) {h : Heap} {xs : List Int} {a : Addr} (hx : LI h a xs) (hl : xs.length < 1000000) :
    Pure w 62 4 [.ref a] h (fun _ r => ∃ t, r = .int ((xs.length : Int) - 1) t) := by
  unfold Pure
  k_fill
  intro mean mg mb dp un fr gd s Q X T hs hd hu hQ
  subst hs
  obtain ⟨its, La, ia⟩ := hx.isList
  ktr_call enter [(Str.ofString "p", .ref a)]
  refine wpZ fun Zf hZf => ?_
  k_steps
  try refine hZf _ _ ?_
  exact hQ _ _ _ (Fr.keep (by assumption)) ⟨_, rfl⟩
theorem zadd_ok (w : World) {h : Heap} {xs ys : List Int} {a b : Addr} (hx : LI h a xs) (hy : LI h b ys) (hl : xs.length < 1000000) (hl2 : ys.length < 1000000) :
    Pure w 74 8 [.ref a, .ref b] h (fun h' r => NewL h h' r (zadd xs ys)) := by
  unfold Pure
  k_fill
  intro mean mg mb dp un fr gd s Q X T hs hd hu hQ
  subst hs
  obtain ⟨itsa, La, ia⟩ := hx.isList
  obtain ⟨itsb, Lb, ib⟩ := hy.isList
  ktr_call enterC [(Str.ofString "a", .ref a), (Str.ofString "b", .ref b)]
  refine wpZ fun Zf hZf => ?_
  k_steps
  rename IntsAre _ _ => hI
  rw [addR_eq] at hI
  refine call_listS (ztrim_ok w (LI.ofNews (by assumption) (by k_mem) hI) (by simp only [addR, List.length_map, List.length_range]; omega)) X T (by assumption) (by assumption) (by omega) (by omega) ?_
  intro r its n h' tk' F' N' i'
  try dsimp only
  try refine hZf _ _ ?_
  exact hQ _ _ _ (Fr.keep F') (fin_list N' (by k_mem) i')

/-! the part W3 -/
theorem zscale_ok (w : World) {h : Heap} {xs : List Int} {a : Addr} {k : Int} {t : Tok} (hx : LI h a xs) (hl : xs.length < 1000000) (hb : Bd xs) (hk : Small k) :
    Pure w 91 4 [.ref a, .int k t] h (fun h' r => NewL h h' r (zscale xs k)) := by
  unfold Pure
  k_fill
  intro mean mg mb dp un fr gd s Q X T hs hd hu hQ
  subst hs
  obtain ⟨its, La, ia⟩ := hx.isList
  ktr_call enterC [(Str.ofString "p", .ref a), (Str.ofString "k", .int k t)]
  refine wpZ fun Zf hZf => ?_
  k_steps
  · try refine hZf _ _ ?_
    exact hQ _ _ _ (Fr.keep (by assumption)) (by unfold zscale; rw [if_neg (by assumption)]; exact fin_list (by assumption) (by k_mem) (by assumption))
  · try refine hZf _ _ ?_
    exact hQ _ _ _ (Fr.keep (by assumption)) (by unfold zscale; rw [if_pos (by omega)]; exact fin_list (by assumption) (by k_mem) .nil)
theorem zraise_ok (w : World) {h : Heap} {xs : List Int} {a : Addr} {k : Int} {t : Tok} (hx : LI h a xs) (hl : xs.length < 1000000) (hk0 : 0 ≤ k) (hk : k < 1000000) :
    Pure w 98 4 [.ref a, .int k t] h (fun h' r => NewL h h' r (zraise xs k.toNat)) := by
  unfold Pure
  k_fill
  intro mean mg mb dp un fr gd s Q X T hs hd hu hQ
  subst hs
  obtain ⟨its, La, ia⟩ := hx.isList
  ktr_call enter [(Str.ofString "p", .ref a), (Str.ofString "many", .int k t)]
  refine wpZ fun Zf hZf => ?_
  k_steps
  · rename IntsAre _ ((List.replicate _ _).flatten ++ _) => hI
    have e : xs ≠ [] := fun e => by subst e; simp at *
    rw [krep_flat] at hI
    try refine hZf _ _ ?_
    exact hQ _ _ _ (Fr.keep (by assumption)) (by unfold zraise; rw [if_neg e]; exact fin_list (by assumption) (by k_mem) hI)
  · have e : xs = [] := List.length_eq_zero_iff.mp (by omega)
    try refine hZf _ _ ?_
    exact hQ _ _ _ (Fr.keep (by assumption)) (by unfold zraise; rw [if_pos e]; exact fin_list (by assumption) (by k_mem) .nil)
theorem zdivided_ok (w : World) {h : Heap} {xs : List Int} {a : Addr} {k : Int} {t : Tok} (hx : LI h a xs) (hl : xs.length < 1000000) (hk : k ≠ 0) :
    Pure w 117 4 [.ref a, .int k t] h (fun h' r => NewL h h' r (zdiv xs k)) := by
  unfold Pure
  k_fill
  intro mean mg mb dp un fr gd s Q X T hs hd hu hQ
  subst hs
  obtain ⟨its, La, ia⟩ := hx.isList
  ktr_call enterC [(Str.ofString "p", .ref a), (Str.ofString "k", .int k t)]
  refine wpZ fun Zf hZf => ?_
  k_steps
  try refine hZf _ _ ?_
  exact hQ _ _ _ (Fr.keep (by assumption)) (fin_list (by assumption) (by k_mem) (by assumption))
theorem gcd_all_ok (w : World) {h : Heap} {xs : List Int} {a : Addr} (hx : LI h a xs) (hl : xs.length < 1000000) :
    Pure w 48 8 [.ref a] h (fun _ r => ∃ t, r = .int (gcdAll xs) t) := by
  unfold Pure
  k_fill
  intro mean mg mb dp un fr gd s Q X T hs hd hu hQ
  subst hs
  obtain ⟨its, La, ia⟩ := hx.isList
  ktr_call enter [(Str.ofString "numbers", .ref a)]
  refine wpZ fun Zf hZf => ?_
  k_steps
  rename Fr _ _ _ _ => F0
  rename News _ _ _ _ => N0
  unfold Halt
  refine wpAny_For ?_ (fun _ => rfl)
  k_steps
  refine' iter_list (α := Int × Tok) rfl (La.at fun o e => F0.keep _ o e) ia rfl rfl (fun i (g, t) => g = gcdAll (xs.take i)) (fun (g, t) => [(Str.ofString "found", .int g t)]) (fun _ => []) (?_, ?_) (fun _ _ _ => trivial) F0 N0 ?hA ?hS ?hI ?turn ?done
  case hA => walk_at "m_all"
  case hS => walk_at "m_sub"
  case hI => rfl
  case turn =>
    clear F0 N0
    rintro i tv ⟨g, t⟩ u h tk own hi2 hg F N
    simp only [ovr] at F N hg
    refine wpZ fun Z hZ => ?_
    k_steps
    refine call_int (gcd_ok w _ _ _ _) X T (by assumption) (by assumption) (by omega) (by omega) ?_
    intro t' h' tk' F' N'
    try dsimp only
    k_steps
    refine hZ _ _ ?_
    refine' FEnd.go (?_, ?_) (by assumption) (by assumption) ?hA ?hO ?hS ?hI
    case hA => walk_at "m_all"
    case hO => walk_at "m_own"
    case hS => walk_at "m_sub"
    case hI => dsimp only; rw [gcdAll_take xs i hi2, hg]
  case done =>
    clear F0 N0
    rintro ⟨g, t⟩ u h tk hg F N
    simp only [ovr] at F N hg
    k_steps
    rw [List.take_length] at hg
    try refine hZf _ _ ?_
    exact hQ _ _ _ (Fr.keep (by assumption)) (ktn_int hg)
theorem zsub_ok (w : World) {h : Heap} {xs ys : List Int} {a b : Addr} (hx : LI h a xs) (hy : LI h b ys) (hl : xs.length < 1000000) (hl2 : ys.length < 1000000) :
    Pure w 86 12 [.ref a, .ref b] h (fun h' r => NewL h h' r (zsub xs ys)) := by
  unfold Pure
  k_fill
  intro mean mg mb dp un fr gd s Q X T hs hd hu hQ
  subst hs
  ktr_call enter [(Str.ofString "a", .ref a), (Str.ofString "b", .ref b)]
  refine wpZ fun Zf hZf => ?_
  k_steps
  refine call_list (zneg_ok w (LI.keeps hy (Fr.keep (by assumption))) hl2) X T (by assumption) (by assumption) (by omega) (by omega) ?_
  intro r its n h' tk' F' N' i' ne'
  try dsimp only
  k_steps
  refine call_listS (zadd_ok w (LI.keeps hx (Fr.keep (by assumption))) (LI.ofNews (by assumption) (by k_mem) i') hl (by unfold neg; rw [List.length_map]; exact hl2)) X T (by assumption) (by assumption) (by omega) (by omega) ?_
  intro r its n h' tk' F' N' i'
  try dsimp only
  k_steps
  try refine hZf _ _ ?_
  exact hQ _ _ _ (Fr.keep F') (fin_list N' (by k_mem) i')
theorem check_ok (w : World) {h : Heap} {xs : List Int} {a : Addr} (hx : LI h a xs) (hl : xs.length < 1000000) (h0 : 0 < xs.length) :
    Pure w 136 4 [.ref a] h (fun _ r => r = .none) := by
  unfold Pure
  k_fill
  intro mean mg mb dp un fr gd s Q X T hs hd hu hQ
  subst hs
  obtain ⟨its, La, ia⟩ := hx.isList
  ktr_call enter [(Str.ofString "p", .ref a)]
  refine wpZ fun Zf hZf => ?_
  k_steps
  all_goals first | (exfalso; omega) | (refine hZf _ _ ?_; exact hQ _ _ _ (Fr.keep (by assumption)) rfl)
theorem zcontent_ok (w : World) {h : Heap} {xs : List Int} {a : Addr} (hx : LI h a xs) (hl : xs.length < 1000000) :
    Pure w 112 12 [.ref a] h (fun _ r => ∃ t, r = .int (gcdAll xs) t) := by
  unfold Pure
  k_fill
  intro mean mg mb dp un fr gd s Q X T hs hd hu hQ
  subst hs
  ktr_call enter [(Str.ofString "p", .ref a)]
  refine wpZ fun Zf hZf => ?_
  k_steps
  refine call_int (gcd_all_ok w (LI.keeps hx (Fr.keep (by assumption))) hl) X T (by assumption) (by assumption) (by omega) (by omega) ?_
  intro t h' tk' F' N'
  try dsimp only
  try refine hZf _ _ ?_
  exact hQ _ _ _ (Fr.keep F') ⟨_, rfl⟩

/-! the part W4 -/
theorem zprim_ok (w : World) {h : Heap} {xs : List Int} {a : Addr} (hx : LI h a xs) (hl : xs.length < 1000000) (hz : xs ≠ [] → gcdAll xs ≠ 0) :
    Pure w 124 16 [.ref a] h (fun h' r => NewL h h' r (zprim xs)) := by
  unfold Pure
  k_fill
  intro mean mg mb dp un fr gd s Q X T hs hd hu hQ
  subst hs
  obtain ⟨its, La, ia⟩ := hx.isList
  ktr_call enter [(Str.ofString "p", .ref a)]
  refine wpZ fun Zf hZf => ?_
  k_steps
  · have e : xs = [] := List.length_eq_zero_iff.mp (by omega)
    try refine hZf _ _ ?_
    exact hQ _ _ _ (Fr.keep (by assumption)) (by unfold zprim; rw [if_pos e]; exact fin_list (by assumption) (by k_mem) .nil)
  have e : xs ≠ [] := fun e => by subst e; simp at *
  have hz := hz e
  refine call_int (zcontent_ok w (LI.keeps hx (Fr.keep (by assumption))) hl) X T (by assumption) (by assumption) (by omega) (by omega) ?_
  intro t h' tk' F' N'
  try dsimp only
  k_steps
  · refine call_list (zdivided_ok w (LI.keeps hx (Fr.keep (by assumption))) hl hz) X T (by assumption) (by assumption) (by omega) (by omega) ?_
    intro r its n h' tk' F' N' i' ne'
    have e2 : lead xs > 0 := by unfold lead; rename xs.getD _ _ > 0 => h1; have e3 : (-1 + (xs.length : Int)).toNat = xs.length - 1 := by omega
                                rwa [e3] at h1
    try refine hZf _ _ ?_
    exact hQ _ _ _ (Fr.keep (by assumption)) (by unfold zprim; rw [if_neg e, if_pos e2]; exact fin_list N' (by k_mem) i')
  · refine call_list (zdivided_ok w (LI.keeps hx (Fr.keep (by assumption))) hl (k := - gcdAll xs) (by omega)) X T (by assumption) (by assumption) (by omega) (by omega) ?_
    intro r its n h' tk' F' N' i' ne'
    have e2 : ¬ lead xs > 0 := by unfold lead; rename ¬ xs.getD _ _ > 0 => h1; have e3 : (-1 + (xs.length : Int)).toNat = xs.length - 1 := by omega
                                  rwa [e3] at h1
    try refine hZf _ _ ?_
    exact hQ _ _ _ (Fr.keep (by assumption)) (by unfold zprim; rw [if_neg e, if_neg e2]; exact fin_list N' (by k_mem) i')
theorem zder_ok (w : World) {h : Heap} {xs : List Int} {a : Addr} (hx : LI h a xs) (hl : xs.length < 1000000) :
    Pure w 129 4 [.ref a] h (fun h' r => NewL h h' r (zder xs)) := by
  unfold Pure
  k_fill
  intro mean mg mb dp un fr gd s Q X T hs hd hu hQ
  subst hs
  obtain ⟨its, La, ia⟩ := hx.isList
  ktr_call enter [(Str.ofString "p", .ref a)]
  refine wpZ fun Zf hZf => ?_
  k_steps
  unfold Halt
  refine comp_eval (cl := []) rfl rfl (by decide) ?_ (fun _ => rfl)
  k_steps
  unfold Halt
  rename Fr _ _ _ _ => F0
  rename News _ _ _ _ => N0
  refine enum_comp_eval rfl (La.at fun o e => F0.keep _ o e) ia hl rfl rfl (by decide) (by decide) rfl F0 N0 (fun i => xs.getD i 0 * (i : Int)) ?turn ?fin
  case turn =>
    clear F0 N0
    intro s' hs' i t tx C oC m₂ D ys h tk own hi hoC hm1 hm2 F N
    k_steps
    · exact F
    · exact N
  case fin =>
    clear F0 N0
    intro D h tk ys F N off hI
    k_steps
    refine kba_turn (value' := Expr.Name (Str.ofString "p") ⟨1, 1, 1, 1⟩) (fun _ => rfl) ?_
    have hlen : ys.length = xs.length := by rw [hI.length]; simp
    refine kmk_slice_ints F N (News.isList N (by k_mem)) (IsPart.int _ _) IsPart.none hI (kmk_from hI (by decide)) rfl ?_ (by with_unfolding_all rfl) (fun _ => rfl) (by rw [List.size_toArray, sizeLine_eq]; omega)
    intro D2 ws h2 F2 N2 l2 hI2 _ _
    k_steps
    try refine hZf _ _ ?_
    exact hQ _ _ _ (Fr.keep (by assumption)) (fin_list (by assumption) (by k_mem) hI2)

/-! the part W6 -/
structure ExSt where
  rest : List Int
  found : List Int
  r : Addr
  f : Addr
  ir : Array Value
  nr : Nat
  jf : Array Value
  nf : Nat
theorem zexact_ok (w : World) {h : Heap} {xs ys q : List Int} {a b : Addr} (hx : LI h a xs) (hy : LI h b ys) (hl : xs.length < 100000) (hl2 : ys.length < 100000) (h0 : lead ys ≠ 0) (hb : Bd ys) (hok : exOk ys (xs.length + 1) xs)
    (hq : zexact xs ys = some q) :
    Pure w 143 20 [.ref a, .ref b] h (fun h' r => NewL h h' r q) := by
  have hy0 : 0 < ys.length := by
    rcases Nat.eq_zero_or_pos ys.length with e | e
    · rw [List.length_eq_zero_iff.mp e] at h0; exact absurd rfl h0
    · exact e
  have hb0 : ys.getD (-1 + (ys.length : Int)).toNat 0 ≠ 0 := by
    have e : (-1 + (ys.length : Int)).toNat = ys.length - 1 := by omega
    rw [e]; exact h0
  unfold Pure
  k_fill
  intro mean mg mb dp un fr gd s Q X T hs hd hu hQ
  subst hs
  obtain ⟨itsa, La, ia⟩ := hx.isList
  obtain ⟨itsb, Lb, ib⟩ := hy.isList
  ktr_call enter [(Str.ofString "a", .ref a), (Str.ofString "b", .ref b)]
  refine wpZ fun Zf hZf => ?_
  k_steps
  refine call_val (check_ok w (LI.keeps hy (Fr.keep (by assumption))) (by omega) hy0) X T (by assumption) (by assumption) (by omega) (by omega) ?_
  intro h' tk' F' N'
  try dsimp only
  k_steps
  rename Fr _ _ _ _ => F0
  rename News _ _ _ _ => N0
  rename IntsAre (List.flatten _) _ => i0
  have eN : (if (xs.length : Int) - ↑ys.length + 1 > 0 then (xs.length : Int) - ↑ys.length + 1 else 0).toNat = xs.length + 1 - ys.length := by split <;> omega
  rw [krep_flat, eN] at i0
  unfold Halt
  refine' while_ruleZ (α := ExSt) (fun t => IntsAre t.ir.toList t.rest ∧ IntsAre t.jf.toList t.found ∧ t.r ≠ t.f ∧ t.found.length = xs.length + 1 - ys.length ∧ t.rest.length ≤ xs.length ∧ ∃ n, t.rest.length < n ∧ exLoop ys n t.rest t.found = some q ∧ exOk ys n t.rest)
    (fun t => t.rest.length) (fun t => [(Str.ofString "rest", .ref t.r), (Str.ofString "found", .ref t.f), (Str.ofString "b", .ref b)]) (fun t => [(t.r, listOf t.ir t.nr), (t.f, listOf t.jf t.nf)])
    ⟨xs, List.replicate (xs.length + 1 - ys.length) 0, ?_, ?_, ?_, ?_, ?_, ?_⟩ F0 N0 ?hA ?hS ?hI ?turn
  case hA => walk_at "m_all"
  case hS => walk_at "m_sub"
  case hI =>
    refine ⟨ia, by rw [eN]; exact i0, ?_, by simp, Nat.le_refl _, xs.length + 1, Nat.lt_succ_self _, hq, hok⟩
    exact neN (by dsimp only; omega)
  clear F0 N0 i0 eN
  rintro ⟨rest, found, r, f, ir, nr, jf, nf⟩ Z hZ u h tk ⟨hir, hjf, hne, hfl, hrl, n, hn, hrun, hrok⟩ F N
  simp only [ovr] at F N hir hjf hne hfl hrl hn hrun hrok
  have hne1 := neN hne
  obtain ⟨n, rfl⟩ : ∃ k, n = k + 1 := ⟨n - 1, by omega⟩
  k_steps
  · exfalso
    rename _ ≠ (0 : Int) => h9
    rw [lead_eq, lead_eq] at h9
    exact h9 (ex_none hrun (by omega))
  · have hle : ys.length ≤ rest.length := by omega
    have hm := ex_none hrun hle
    have hst := hrok hle
    have hlen := ex_len hy0 hle h0 hm
    have hrun' := ex_step hrun hle
    refine call_list (zscale_ok w (LI.keeps hy (Fr.keep (by assumption))) (by omega) hb (by rw [lead_eq, lead_eq]; exact hst.1)) X T (by assumption) (by assumption) (by omega) (by omega) ?_
    intro r1 its1 n1 h1 tk1 F1 N1 i1 ne1
    try dsimp only
    k_steps
    refine call_listS (zraise_ok w (LI.ofNews (by assumption) (by k_mem) i1) (by have := zscale_len ys ((rest.getD (-1 + (rest.length : Int)).toNat 0).fdiv (ys.getD (-1 + (ys.length : Int)).toNat 0)); omega) (by omega) (by omega)) X T (by assumption) (by assumption) (by omega) (by omega) ?_
    intro r2 its2 n2 h2 tk2 F2 N2 i2
    try dsimp only
    k_steps
    refine call_list (zsub_ok w (LI.ofNews (by assumption) (by k_mem) hir) (LI.ofNews (by assumption) (by k_mem) i2) (by omega) (by
      have e1 := zscale_len ys ((rest.getD (-1 + (rest.length : Int)).toNat 0).fdiv (ys.getD (-1 + (ys.length : Int)).toNat 0))
      have e2 := zraise_len (zscale ys ((rest.getD (-1 + (rest.length : Int)).toNat 0).fdiv (ys.getD (-1 + (ys.length : Int)).toNat 0))) ((rest.length : Int) - ys.length).toNat
      omega)) X T (by assumption) (by assumption) (by omega) (by omega) ?_
    intro r3 its3 n3 h3 tk3 F3 N3 i3 ne3
    k_steps
    rename IntsAre _ (found.set _ _) => iF
    have eP : ((rest.length : Int) - ys.length).toNat = rest.length - ys.length := by omega
    rw [lead_eq, lead_eq, eP] at i3
    have e9 : found.set ((rest.length : Int) - ys.length).toNat ((rest.getD (-1 + (rest.length : Int)).toNat 0).fdiv (ys.getD (-1 + (ys.length : Int)).toNat 0)) = found.set (rest.length - ys.length) ((lead rest).fdiv (lead ys)) := by rw [lead_eq, lead_eq, eP]
    rw [e9] at iF
    refine hZ _ _ ?_
    refine' WEnd.next (α := ExSt) ⟨zsub rest (zraise (zscale ys ((lead rest).fdiv (lead ys))) (rest.length - ys.length)), found.set (rest.length - ys.length) ((lead rest).fdiv (lead ys)), ?_, ?_, ?_, ?_, ?_, ?_⟩ (by assumption) (by assumption) ?hA ?hS ?hI ?hμ
    case hA => walk_at "m_all"
    case hS => walk_at "m_sub"
    case hI =>
      refine ⟨i3, ?_⟩
      refine ⟨iF, ?_⟩
      dsimp only
      refine ⟨(ne3 (f, _) (by k_mem)).symm, by rw [List.length_set]; exact hfl, by omega, n, by omega, hrun', hst.2⟩
    case hμ => exact hlen
  · have he := ex_end hrun (by omega)
    refine call_listS (ztrim_ok w (LI.ofNews (by assumption) (by k_mem) hjf) (by omega)) X T (by assumption) (by assumption) (by omega) (by omega) ?_
    intro r1 its1 n1 h1 tk1 F1 N1 i1
    try dsimp only
    try refine hZ _ _ ?_
    try refine hZf _ _ ?_
    exact hQ _ _ _ (Fr.keep F1) (he.2 ▸ fin_list N1 (by k_mem) i1)
  · exfalso
    have he := ex_end hrun (by omega)
    have : rest.length = 0 := by rw [he.1]; rfl
    omega

/-! the part W7 -/
structure PsSt where
  rest : List Int
  found : List Int
  left : Nat
  li : Int
  tl : Tok
  tf : Tok
  tm : Tok
  r : Addr
  f : Addr
  ir : Array Value
  nr : Nat
  jf : Array Value
  nf : Nat
  mv : Int
noncomputable def PairPost (h : Heap) (ys : List Int) (h' : Heap) (r : Value) : Prop :=
  ∃ (t f q : Addr) (ob : Obj) (n : Nat) (many : Int) (tk : Tok), r = .ref t ∧ h.get? t = none ∧ h'.get? t = some ob ∧ ob.cls = .type "tuple" ∧ ob.data = .seq #[.ref f, .ref q, .int many tk] n ∧ h.get? q = none ∧ LI h' q ys
theorem fin_pair {h₀ h : Heap} {L : Addr} {news : Ledger} {t f q : Addr} {many : Int} {tk : Tok} {its : Array Value} {n n2 : Nat} {ys : List Int} (N : News h₀ L h news) (hm : (t, ({ cls := .type "tuple", data := .seq #[.ref f, .ref q, .int many tk] n2 } : Obj)) ∈ news) (hq : (q, listOf its n) ∈ news) (hi : IntsAre its.toList ys) : PairPost h₀ ys h (.ref t) :=
  ⟨t, f, q, _, _, many, tk, rfl, (N _ hm).2.2, (N _ hm).1, rfl, rfl, (N _ hq).2.2, its, n, (N _ hq).1, hi⟩
theorem pseudo_ok (w : World) {h : Heap} {xs ys : List Int} {a b : Addr} (hx : LI h a xs) (hy : LI h b ys) (hl : xs.length < 100000) (hl2 : ys.length < 100000) (hy0 : 0 < ys.length) (hb : Bd ys) (hok : psOk ys (xs.length + 1) xs [] (xs.length + 1 - ys.length))
    (hpw : ∃ k, (lead ys).natAbs < 2 ^ k ∧ k * (xs.length + 1) < 67108864) :
    Pure w 150 24 [.ref a, .ref b] h (fun h' r => PairPost h (prem xs ys) h' r) := by
  unfold Pure
  k_fill
  intro mean mg mb dp un fr gd s Q X T hs hd hu hQ
  subst hs
  replace hpw : Hid _ := hpw
  obtain ⟨itsa, La, ia⟩ := hx.isList
  obtain ⟨itsb, Lb, ib⟩ := hy.isList
  ktr_call enter [(Str.ofString "a", .ref a), (Str.ofString "b", .ref b)]
  refine wpZ fun Zf hZf => ?_
  k_steps
  refine call_val (check_ok w (LI.keeps hy (Fr.keep (by assumption))) (by omega) hy0) X T (by assumption) (by assumption) (by omega) (by omega) ?_
  intro h' tk' F' N'
  try dsimp only
  k_steps
  refine call_int (zlead_ok w (LI.keeps hy (Fr.keep (by assumption))) (by omega)) X T (by assumption) (by assumption) (by omega) (by omega) ?_
  intro tf h' tk' F' N'
  try dsimp only
  k_steps
  rename Fr _ _ _ _ => F0
  rename News _ _ _ _ => N0
  unfold Halt
  have eN : (if (xs.length : Int) - ↑ys.length + 1 > 0 then (xs.length : Int) - ↑ys.length + 1 else 0) = ((xs.length + 1 - ys.length : Nat) : Int) := by split <;> omega
  refine' while_ruleZ (α := PsSt) (fun t => IntsAre t.ir.toList t.rest ∧ IntsAre t.jf.toList t.found ∧ t.r ≠ t.f ∧ t.li = (t.left : Int) ∧ t.rest.length + 1 ≤ t.left + ys.length ∧ t.rest.length ≤ xs.length ∧ t.found.length ≤ xs.length ∧ t.left ≤ xs.length + 1 ∧
      ∃ n, t.rest.length < n ∧ psLoop ys n t.rest t.found t.left = psEnd xs ys ∧ psOk ys n t.rest t.found t.left)
    (fun t => t.rest.length) (fun t => [(Str.ofString "rest", .ref t.r), (Str.ofString "found", .ref t.f), (Str.ofString "left", .int t.li t.tl), (Str.ofString "first", .int (lead ys) t.tf),
      (Str.ofString "many", .int t.mv t.tm), (Str.ofString "b", .ref b)]) (fun t => [(t.r, listOf t.ir t.nr), (t.f, listOf t.jf t.nf)])
    ⟨xs, [], xs.length + 1 - ys.length, ?_, ?_, ?_, ?_, ?_, ?_, ?_, ?_, ?_, ?_, ?_⟩ F0 N0 ?hA ?hS ?hI ?turn
  case hA => walk_at "m_all"
  case hS => walk_at "m_sub"
  case hI =>
    refine ⟨ia, .nil, neN (by dsimp only; omega), eN, by dsimp only; omega, Nat.le_refl _, by simp, by dsimp only; omega, xs.length + 1, Nat.lt_succ_self _, rfl, hok⟩
  clear F0 N0
  rintro ⟨rest, found, left, li, tl, tf, tm, r, f, ir, nr, jf, nf, mv⟩ Z hZ u h tk ⟨hir, hjf, hne, hli, hlf, hrl, hfl, hll, n, hn, hrun, hrok⟩ F N
  simp only [ovr] at F N hir hjf hne hli hlf hrl hfl hll hn hrun hrok
  have hne1 := neN hne
  subst hli
  obtain ⟨n, rfl⟩ : ∃ k, n = k + 1 := ⟨n - 1, by omega⟩
  have hbr := hrok.1
  have hbf := hrok.2.1
  k_steps
  · have hle : ys.length ≤ rest.length := by omega
    have hst := hrok.2.2 hle
    have hlen := ps_len hy0 hle
    have hrun' := (ps_step (found := found) (n := n) (left := left) hle).symm.trans hrun
    have hsl : Small (lead ys) := hb _ (lead_mem hy0)
    have hsr : Small (rest.getD (-1 + (rest.length : Int)).toNat 0) := by rw [lead_eq]; exact hbr _ (lead_mem (by omega))
    have eP : ((rest.length : Int) - ys.length).toNat = rest.length - ys.length := by omega
    refine call_list (zscale_ok w (LI.ofNews (by assumption) (by k_mem) hjf) (by omega) hbf hsl) X T (by assumption) (by assumption) (by omega) (by omega) ?_
    intro r1 its1 n1 h1 tk1 F1 N1 i1 ne1
    try dsimp only
    k_steps
    refine call_list (zraise_ok w (xs := [-(rest.getD (-1 + (rest.length : Int)).toNat 0)]) (LI.ofNews (by assumption) (by k_mem) (.cons _ _ .nil)) (by simp) (by omega) (by omega)) X T (by assumption) (by assumption) (by omega) (by omega) ?_
    intro r2 its2 n2 h2 tk2 F2 N2 i2 ne2
    try dsimp only
    k_steps
    have b1 := zscale_len found (lead ys)
    have b2 := zraise_len [-(rest.getD (-1 + (rest.length : Int)).toNat 0)] ((rest.length : Int) - ys.length).toNat
    have b2' : ([-(rest.getD (-1 + (rest.length : Int)).toNat 0)] : List Int).length = 1 := rfl
    refine call_listS (zsub_ok w (LI.ofNews (by assumption) (by k_mem) i1) (LI.ofNews (by assumption) (by k_mem) i2) (by omega) (by omega)) X T (by assumption) (by assumption) (by omega) (by omega) ?_
    intro r3 its3 n3 h3 tk3 F3 N3 i3
    try dsimp only
    k_steps
    refine call_listS (zscale_ok w (LI.ofNews (by assumption) (by k_mem) hir) (by omega) hbr hsl) X T (by assumption) (by assumption) (by omega) (by omega) ?_
    intro r4 its4 n4 h4 tk4 F4 N4 i4
    try dsimp only
    k_steps
    refine call_listS (zscale_ok w (LI.keeps hy (Fr.keep (by assumption))) (by omega) hb hsr) X T (by assumption) (by assumption) (by omega) (by omega) ?_
    intro r5 its5 n5 h5 tk5 F5 N5 i5
    try dsimp only
    k_steps
    have b3 := zscale_len rest (lead ys)
    have b4 := zscale_len ys (rest.getD (-1 + (rest.length : Int)).toNat 0)
    refine call_listS (zraise_ok w (LI.ofNews (by assumption) (by k_mem) i5) (by omega) (by omega) (by omega)) X T (by assumption) (by assumption) (by omega) (by omega) ?_
    intro r6 its6 n6 h6 tk6 F6 N6 i6
    try dsimp only
    k_steps
    have b5 := zraise_len (zscale ys (rest.getD (-1 + (rest.length : Int)).toNat 0)) ((rest.length : Int) - ys.length).toNat
    refine call_list (zsub_ok w (LI.ofNews (by assumption) (by k_mem) i4) (LI.ofNews (by assumption) (by k_mem) i6) (by omega) (by omega)) X T (by assumption) (by assumption) (by omega) (by omega) ?_
    intro r7 its7 n7 h7 tk7 F7 N7 i7 ne7
    try dsimp only
    k_steps
    have b6 := zsub_len_max (zscale found (lead ys)) (zraise [-(rest.getD (-1 + (rest.length : Int)).toNat 0)] ((rest.length : Int) - ys.length).toNat)
    rw [lead_eq, eP] at i3 i7 b6
    rw [lead_eq, eP] at b2
    have b2'' : ([-(lead rest)] : List Int).length = 1 := rfl
    refine hZ _ _ ?_
    refine' WEnd.next (α := PsSt) ⟨zsub (zscale rest (lead ys)) (zraise (zscale ys (lead rest)) (rest.length - ys.length)), zsub (zscale found (lead ys)) (zraise [-(lead rest)] (rest.length - ys.length)), left - 1, ?_, ?_, ?_, ?_, ?_, ?_, ?_, ?_, ?_, ?_, ?_⟩ (by assumption) (by assumption) ?hA ?hS ?hI ?hμ
    case hA => walk_at "m_all"
    case hS => walk_at "m_sub"
    case hI =>
      refine ⟨i7, ?_⟩
      refine ⟨i3, ?_⟩
      dsimp only
      refine ⟨(ne7 (r3, _) (by k_mem)).symm, by omega, by omega, by omega, by omega, by omega, n, by omega, hrun', hst⟩
    case hμ => exact hlen
  · unfold Halt
    have he := (ps_end (found := found) (n := n) (left := left) (ys := ys) (rest := rest) (by omega)).symm.trans hrun
    have hsm := small_pow hpw hll
    refine pow_int (by omega) ?_ ?_
    · obtain ⟨k, hk, hkn⟩ := hpw
      have h1 : Builtin.Int.intBits (lead ys) ≤ k := intBits_le_iff.mpr hk
      have h2 := Nat.mul_le_mul h1 hll
      have h3 : ((Builtin.Int.intBits (lead ys) * left : Nat) : Int) ≤ 67108864 := by omega
      rw [Int.natCast_mul] at h3
      omega
    rw [Int.toNat_natCast]
    k_steps
    refine call_listS (zscale_ok w (LI.ofNews (by assumption) (by k_mem) hjf) (by omega) hbf hsm) X T (by assumption) (by assumption) (by omega) (by omega) ?_
    intro r1 its1 n1 h1 tk1 F1 N1 i1
    try dsimp only
    k_steps
    refine call_listS (zscale_ok w (LI.ofNews (by assumption) (by k_mem) hir) (by omega) hbr hsm) X T (by assumption) (by assumption) (by omega) (by omega) ?_
    intro r2 its2 n2 h2 tk2 F2 N2 i2
    try dsimp only
    k_steps
    have ep : prem xs ys = zscale rest (lead ys ^ left) := by unfold prem; rw [← he]
    try refine hZ _ _ ?_
    try refine hZf _ _ ?_
    exact hQ _ _ _ (Fr.keep (by assumption)) (by rw [ep]; exact fin_pair (by assumption) (by k_mem) (by k_mem) i2)
theorem zprest_ok (w : World) {h : Heap} {xs ys : List Int} {a b : Addr} (hx : LI h a xs) (hy : LI h b ys) (hl : xs.length < 100000) (hl2 : ys.length < 100000) (hy0 : 0 < ys.length) (hb : Bd ys) (hok : psOk ys (xs.length + 1) xs [] (xs.length + 1 - ys.length))
    (hpw : ∃ k, (lead ys).natAbs < 2 ^ k ∧ k * (xs.length + 1) < 67108864) :
    Pure w 157 28 [.ref a, .ref b] h (fun h' r => NewL h h' r (prem xs ys)) := by
  unfold Pure
  k_fill
  intro mean mg mb dp un fr gd s Q X T hs hd hu hQ
  subst hs
  ktr_call enter [(Str.ofString "a", .ref a), (Str.ofString "b", .ref b)]
  refine wpZ fun Zf hZf => ?_
  k_steps
  refine pseudo_ok w (LI.keeps hx (Fr.keep (by assumption))) (LI.keeps hy (Fr.keep (by assumption))) hl hl2 hy0 hb hok hpw mean mg mb _ _ _ _ _ _ (X.keeps (Fr.keep (by assumption))) (T.keeps (Fr.keep (by assumption))) rfl (by omega) (by omega) ?_
  rintro r h' tk' hk ⟨t, f, q, ob, n, many, tk, rfl, ht0, ht, hc, hdt, hq0, hq⟩
  rename Fr _ _ _ _ => F0
  have F1 := F0.keeps hk
  k_steps
  refine item_tupleT (t := t) ⟨ob, ht, hc, n, hdt⟩ (by decide) (by decide) rfl rfl ?_
  try refine hZf _ _ ?_
  exact hQ _ _ _ F1.keep ⟨q, rfl, none_old F0 hq0, hq⟩
theorem next_ok (w : World) {h : Heap} {f g : Int} {st : Int} {tf ts tg : Tok} (hs0 : 0 ≤ st) (h1 : (Builtin.Int.intBits f : Int) * st ≤ 2 ^ 27) (h2 : (Builtin.Int.intBits g : Int) * st ≤ 2 ^ 27) (h0 : g ≠ 0) :
    Pure w 164 4 [.int f tf, .int st ts, .int g tg] h (fun _ r => ∃ t, r = .int (nextH f st.toNat g) t) := by
  unfold Pure
  k_fill
  intro mean mg mb dp un fr gd s Q X T hs hd hu hQ
  subst hs
  ktr_call enter [(Str.ofString "front", .int f tf), (Str.ofString "step", .int st ts), (Str.ofString "height", .int g tg)]
  refine wpZ fun Zf hZf => ?_
  k_steps
  · try refine hZf _ _ ?_
    exact hQ _ _ _ (Fr.keep (by assumption)) (ktn_int (by unfold nextH; rw [if_pos (by omega)]))
  · have hst : st ≠ 0 := by omega
    unfold Halt
    refine pow_int (by omega) h1 ?_
    k_steps
    unfold Halt
    refine pow_int (by omega) ?_ ?_
    · have : (Builtin.Int.intBits g : Int) * (st - 1) ≤ (Builtin.Int.intBits g : Int) * st := Int.mul_le_mul_of_nonneg_left (by omega) (by omega)
      omega
    have hne : g ^ (st - 1).toNat ≠ 0 := Int.pow_ne_zero h0
    k_steps
    try refine hZf _ _ ?_
    exact hQ _ _ _ (Fr.keep (by assumption)) (ktn_int (by
      unfold nextH
      rw [if_neg (by omega)]
      have : (st - 1).toNat = st.toNat - 1 := by omega
      rw [this]))
theorem pow_room {x : Int} {n l : Nat} (h : PowOk x n) (hl : l ≤ n) : (Builtin.Int.intBits x : Int) * (l : Int) ≤ 2 ^ 27 ∧ Small (x ^ l) := by
  refine ⟨?_, small_pow (n := n + 1) h (by omega)⟩
  obtain ⟨k, hk, hkn⟩ := h
  have h1 : Builtin.Int.intBits x ≤ k := intBits_le_iff.mpr hk
  have h2 := Nat.mul_le_mul h1 (show l ≤ n + 1 by omega)
  have h3 : ((Builtin.Int.intBits x * l : Nat) : Int) ≤ 67108864 := by omega
  rw [Int.natCast_mul] at h3
  omega

/-! the part W8 -/
theorem sub_ok (w : World) {h : Heap} {xs ys : List Int} {a b : Addr} (hx : LI h a xs) (hy : LI h b ys) (hl : xs.length < 100000) (hxy : ys.length ≤ xs.length) (hy0 : 0 < ys.length) (hok : srOk (ys.length + 1) xs ys 1 1) :
    Pure w 171 36 [.ref a, .ref b] h (fun h' r => RowPost h (srLast xs ys) h' r) := by
  unfold Pure
  k_fill
  intro mean mg mb dp un fr gd s Q X T hs hd hu hQ
  subst hs
  obtain ⟨itsa, La, ia⟩ := hx.isList
  obtain ⟨itsb, Lb, ib⟩ := hy.isList
  ktr_call enter [(Str.ofString "a", .ref a), (Str.ofString "b", .ref b)]
  refine wpZ fun Zf hZf => ?_
  k_steps
  rename Fr _ _ _ _ => F0
  rename News _ _ _ _ => N0
  unfold Halt
  have elast : srLast xs ys = srLoop (ys.length + 1) xs ys 1 1 := by unfold srLast; rw [if_neg (by omega)]
  refine' while_ruleZ (α := SrSt) (fun t => Lst s.heap t.ex t.aa t.a ∧ Lst s.heap t.ex t.ba t.b ∧ (∃ its n, (t.q, listOf its n) ∈ t.ex ∧ IntsAre its.toList t.b) ∧ (∀ p ∈ t.ex, p.1 ≠ t.rw') ∧ 0 < t.irow.size ∧ t.irow.size + t.b.length < 200000 ∧ t.irow[t.irow.size - 1]? = some (.ref t.q) ∧ t.a.length ≤ xs.length ∧ t.b.length ≤ t.a.length ∧ 0 < t.b.length ∧
      ∃ n, t.b.length < n ∧ srLoop n t.a t.b t.fr t.hg = srLast xs ys ∧ srOk n t.a t.b t.fr t.hg)
    (fun t => t.b.length) (fun t => [(Str.ofString "a", .ref t.aa), (Str.ofString "b", .ref t.ba), (Str.ofString "row", .ref t.rw'), (Str.ofString "front", .int t.fr t.tf), (Str.ofString "height", .int t.hg t.th)]) (fun t => (t.rw', listOf t.irow t.nrow) :: t.ex)
    ⟨xs, ys, 1, 1, ?_, ?_, ?_, ?_, ?_, ?_, ?_, ?_, ?_⟩ F0 N0 ?hA ?hS ?hI ?turn
  case hA => walk_at "m_all"
  case hS =>
    refine SubL.cons (by k_mem) ?_; exact SubL.two
  case hI =>
    refine' ⟨.inl hx, .inl hy, ?h3, ?h4, ?h5, ?h6, ?h7, Nat.le_refl _, hxy, hy0, ys.length + 1, Nat.lt_succ_self _, elast.symm, hok⟩
    case h7 => with_unfolding_all rfl
    case h3 => exact ⟨_, _, by k_mem, ib⟩
    case h4 =>
      dsimp only
      k_all
    case h5 => show 0 < 2; decide
    case h6 => show 2 + ys.length < 200000; omega
  clear F0 N0
  rintro ⟨A, B, ff, g, tf, th, aa, ba, rw', q, irow, nrow, ex⟩ Z hZ u h tk ⟨hA, hB, hq, hex, hi0, hi1, hi2, hAl, hBA, hB0, n, hn, hrun, hrok⟩ F N
  simp only [ovr] at F N hA hB hq hex hi0 hi1 hi2 hAl hBA hB0 hn hrun hrok
  obtain ⟨n, rfl⟩ : ∃ k, n = k + 1 := ⟨n - 1, by omega⟩
  k_steps
  · have hB1 : 1 < B.length := by omega
    have hst := hrok hB1
    have hAl' : A.length < 100000 := by omega
    refine call_listS (zprest_ok w (xs := A) (ys := B) (by walk_at "m_lst") (by walk_at "m_lst") hAl' (by omega) hB0 hst.1 hst.2.1 hst.2.2.1) X T (by assumption) (by assumption) (by omega) (by omega) ?_
    intro r1 its1 n1 h1 tk1 F1 N1 i1
    try dsimp only
    have hpl := prem_len (a := A) hB0
    k_steps
    · have ep : prem A B = [] := List.length_eq_zero_iff.mp (by omega)
      have eq : srLast xs ys = B := by rw [← hrun, srLoop, if_pos hB1, if_pos ep]
      rename News _ _ _ _ => N9
      rename Fr _ _ _ _ => F9
      try refine hZ _ _ ?_
      try refine hZf _ _ ?_
      refine hQ _ _ _ F9.keep ⟨rw', q, irow, nrow, rfl, (N9 (rw', _) (by k_mem)).2.2, (N9 (rw', _) (by k_mem)).1, hi0, by omega, hi2, ?_⟩
      obtain ⟨itq, nq, hqm, hqi⟩ := hq
      have hz := N9 (q, listOf itq nq) (SubL.tl (SubL.tl SubL.refl) _ hqm)
      rw [eq]
      exact ⟨hz.2.2, itq, nq, hz.1, hqi⟩
    · have ep : prem A B ≠ [] := fun e => by have : (prem A B).length = 0 := (by rw [e]; rfl); omega
      have hs2 := hst.2.2.2 ep
      have eT : ((A.length : Int) - B.length).toNat = A.length - B.length := by omega
      have hp1 := pow_room hs2.2.1 (l := A.length - B.length) (by omega)
      have hp2 := pow_room hst.2.2.1 (l := A.length - B.length) (by omega)
      have eC : (((A.length - B.length : Nat) : Int)) = (A.length : Int) - B.length := by omega
      unfold Halt
      refine pow_int (by omega) (by rw [← eC]; exact hp1.1) ?_
      rw [eT]
      have hsf := hs2.1
      have hsp := hp1.2
      k_steps
      have hne : ff * g ^ (A.length - B.length) ≠ 0 := Int.mul_ne_zero hs2.2.2.1 (Int.pow_ne_zero hs2.2.2.2.1)
      refine call_list (zdivided_ok w (LI.ofNews (by assumption) (by k_mem) i1) (by have := prem_len (a := A) hB0; omega) hne) X T (by assumption) (by assumption) (by omega) (by omega) ?_
      intro r2 its2 n2 h2 tk2 F2 N2 i2 ne2
      try dsimp only
      k_steps
      refine append_led (its := irow) (n := nrow) (by assumption) (by assumption) (by k_mem) ((r2, listOf its2 n2) :: ex) (SubL.cons (by k_mem) (by walk_at "m_own")) ?hne2 (by omega) ?_
      case hne2 => exact List.forall_mem_cons.mpr ⟨(ne2 (rw', _) (by k_mem)).symm, hex⟩
      intro h3 F3 N3
      have hl2 := zdiv_len (prem A B) (ff * g ^ (A.length - B.length))
      k_steps
      refine call_int (zlead_ok w (xs := B) (by walk_at "m_lst") (by omega)) X T (by assumption) (by assumption) (by omega) (by omega) ?_
      intro t4 h4 tk4 F4 N4
      try dsimp only
      k_steps
      refine call_int (next_ok w (by omega) (by rw [← eC]; exact hp2.1) (by rw [← eC]; exact hp1.1) hs2.2.2.2.1) X T (by assumption) (by assumption) (by omega) (by omega) ?_
      intro t5 h5 tk5 F5 N5
      try dsimp only
      rw [eT]
      k_steps
      have hrun' : srLoop n B (zdiv (prem A B) (ff * g ^ (A.length - B.length))) (lead B) (nextH (lead B) (A.length - B.length) g) = srLast xs ys := by
        rw [← hrun, srLoop, if_pos hB1, if_neg ep]
      have hl3 : 0 < (prem A B).length := List.length_pos_iff.mpr ep
      refine hZ _ _ ?_
      refine' WEnd.next (α := SrSt) ⟨B, zdiv (prem A B) (ff * g ^ (A.length - B.length)), lead B, nextH (lead B) (A.length - B.length) g, ?_, ?_, ba, r2, rw', r2, irow.push (.ref r2), nrow + 1, (r2, listOf its2 n2) :: ex⟩ (by assumption) (by assumption) ?hA ?hS ?hI ?hμ
      case hA => walk_at "m_all"
      case hS => first | exact SubL.refl | exact SubL.tl SubL.refl | exact SubL.tl (SubL.tl SubL.refl) | exact SubL.tl (SubL.tl (SubL.tl SubL.refl)) | exact SubL.cons (by k_mem) (SubL.cons (by k_mem) (by walk_at "m_own"))
      case hI =>
        refine ⟨hB.mono (SubL.tl SubL.refl), .inr ⟨_, _, .head _, i2⟩, ⟨_, _, .head _, i2⟩, List.forall_mem_cons.mpr ⟨(ne2 (rw', _) (by k_mem)).symm, hex⟩, ?_⟩
        dsimp only
        refine ⟨by simp, by simp; omega, by simp, by omega, by omega, by omega, n, by omega, hrun', hs2.2.2.2.2⟩
      case hμ => dsimp only; omega
  · have eq : srLast xs ys = B := by rw [← hrun, srLoop, if_neg (by omega)]
    rename News _ _ _ _ => N9
    rename Fr _ _ _ _ => F9
    try refine hZ _ _ ?_
    try refine hZf _ _ ?_
    refine hQ _ _ _ F9.keep ⟨rw', q, irow, nrow, rfl, (N9 (rw', _) (by k_mem)).2.2, (N9 (rw', _) (by k_mem)).1, hi0, by omega, hi2, ?_⟩
    obtain ⟨itq, nq, hqm, hqi⟩ := hq
    have hz := N9 (q, listOf itq nq) (SubL.tl SubL.refl _ hqm)
    rw [eq]
    exact ⟨hz.2.2, itq, nq, hz.1, hqi⟩

/-! the part W9 -/
theorem srLoop_len : ∀ (n : Nat) (a b : List Int) (f g : Int), 0 < b.length → (srLoop n a b f g).length ≤ b.length
  | 0, _, _, _, _, _ => Nat.le_refl _
  | n + 1, a, b, f, g, hb => by
    unfold srLoop
    split
    · split
      · exact Nat.le_refl _
      · rename_i h1 h2
        have h3 := zdiv_len (prem a b) (f * g ^ (a.length - b.length))
        have h4 := prem_len (a := a) hb
        have h5 : 0 < (prem a b).length := List.length_pos_iff.mpr h2
        have h6 := srLoop_len n b (zdiv (prem a b) (f * g ^ (a.length - b.length))) (lead b) (nextH (lead b) (a.length - b.length) g) (by omega)
        omega
    · exact Nat.le_refl _
theorem zgcd_ok (w : World) {h : Heap} {xs ys : List Int} {a b : Addr} (hx : LI h a xs) (hy : LI h b ys) (hl : xs.length < 100000) (hl2 : ys.length < 100000) (hok : gcOk xs ys) :
    Pure w 178 44 [.ref a, .ref b] h (fun h' r => NewL h h' r (zgcd xs ys)) := by
  obtain ⟨hxn, hxg, hk0, hk1⟩ := hok
  have hx0 : 0 < xs.length := List.length_pos_iff.mpr hxn
  unfold Pure
  k_fill
  intro mean mg mb dp un fr gd s Q X T hs hd hu hQ
  subst hs
  obtain ⟨itsa, La, ia⟩ := hx.isList
  obtain ⟨itsb, Lb, ib⟩ := hy.isList
  ktr_call enter [(Str.ofString "a", .ref a), (Str.ofString "b", .ref b)]
  refine wpZ fun Zf hZf => ?_
  k_steps
  all_goals try (exfalso; omega)
  · have ey : ys = [] := List.length_eq_zero_iff.mp (by omega)
    obtain ⟨hb1, hs1⟩ := hk0 ey
    refine call_listS (zprim_ok w (LI.keeps hx (Fr.keep (by assumption))) (by omega) (fun _ => hxg)) X T (by assumption) (by assumption) (by omega) (by omega) ?_
    intro r1 its1 n1 h1 tk1 F1 N1 i1
    try dsimp only
    k_steps
    refine call_int (zcontent_ok w (LI.keeps hx (Fr.keep (by assumption))) (by omega)) X T (by assumption) (by assumption) (by omega) (by omega) ?_
    intro t2 h2 tk2 F2 N2
    try dsimp only
    k_steps
    refine call_listS (zscale_ok w (LI.ofNews (by assumption) (by k_mem) i1) (by rw [zprim_len]; omega) hb1 hs1) X T (by assumption) (by assumption) (by omega) (by omega) ?_
    intro r3 its3 n3 h3 tk3 F3 N3 i3
    try dsimp only
    subst ey
    try refine hZf _ _ ?_
    exact hQ _ _ _ (Fr.keep F3) (by rw [zgcd_nil hxn]; exact fin_list N3 (by k_mem) i3)
  · have ey : ys ≠ [] := fun e => by have : ys.length = 0 := (by rw [e]; rfl); omega
    obtain ⟨hyg, hxy, hsr, hlast⟩ := hk1 ey
    refine call_int (zcontent_ok w (LI.keeps hx (Fr.keep (by assumption))) (by omega)) X T (by assumption) (by assumption) (by omega) (by omega) ?_
    intro t1 h1 tk1 F1 N1
    try dsimp only
    k_steps
    refine call_int (zcontent_ok w (LI.keeps hy (Fr.keep (by assumption))) (by omega)) X T (by assumption) (by assumption) (by omega) (by omega) ?_
    intro t2 h2 tk2 F2 N2
    try dsimp only
    k_steps
    refine call_int (gcd_ok w _ _ _ _) X T (by assumption) (by assumption) (by omega) (by omega) ?_
    intro t3 h3 tk3 F3 N3
    try dsimp only
    k_steps
    refine call_listS (zprim_ok w (LI.keeps hx (Fr.keep (by assumption))) (by omega) (fun _ => hxg)) X T (by assumption) (by assumption) (by omega) (by omega) ?_
    intro r4 its4 n4 h4 tk4 F4 N4 i4
    try dsimp only
    k_steps
    refine call_listS (zprim_ok w (LI.keeps hy (Fr.keep (by assumption))) (by omega) (fun _ => hyg)) X T (by assumption) (by assumption) (by omega) (by omega) ?_
    intro r5 its5 n5 h5 tk5 F5 N5 i5
    try dsimp only
    k_steps
    refine sub_ok w (LI.ofNews (by assumption) (by k_mem) i4) (LI.ofNews (by assumption) (by k_mem) i5) (by rw [zprim_len]; omega) (by rw [zprim_len, zprim_len]; omega) (by rw [zprim_len]; omega) (by rw [zprim_len]; exact hsr) mean mg mb _ _ _ _ _ _ (X.keeps (Fr.keep (by assumption))) (T.keeps (Fr.keep (by assumption))) rfl (by omega) (by omega) ?_
    rintro r h6 tk6 hk6 ⟨t, q, itst, nt, rfl, ht0, ht, hsz, hszm, hlst, hq0, itsq, nq, hq, iq⟩
    rename Fr _ _ _ _ => F0
    rename News _ _ _ _ => N0
    have F6 := F0.keeps hk6
    have N6 := news_new F0 N0 hk6 hq0 hq
    clear F0 N0
    k_steps
    refine item_last ⟨_, ht, rfl, nt, rfl⟩ hsz hlst ?_ (by with_unfolding_all rfl)
    have hsl : (srLast (zprim xs) (zprim ys)).length ≤ ys.length := by
      unfold srLast
      rw [if_neg (by rw [zprim_len, zprim_len]; omega)]
      have := srLoop_len ((zprim ys).length + 1) (zprim xs) (zprim ys) 1 1 (by rw [zprim_len]; omega)
      rw [zprim_len] at this
      rw [zprim_len]; exact this
    k_steps
    · have h1 : 1 < (srLast (zprim xs) (zprim ys)).length := by omega
      obtain ⟨hg1, hb1, hs1⟩ := hlast h1
      refine call_listS (zprim_ok w (LI.ofNews (by assumption) (by k_mem) iq) (by omega) (fun _ => hg1)) X T (by assumption) (by assumption) (by omega) (by omega) ?_
      intro r7 its7 n7 h7 tk7 F7 N7 i7
      try dsimp only
      k_steps
      refine call_listS (zscale_ok w (LI.ofNews (by assumption) (by k_mem) i7) (by rw [zprim_len]; omega) hb1 hs1) X T (by assumption) (by assumption) (by omega) (by omega) ?_
      intro r8 its8 n8 h8 tk8 F8 N8 i8
      try dsimp only
      try refine hZf _ _ ?_
      exact hQ _ _ _ (Fr.keep F8) (by rw [zgcd_long hxn ey h1]; exact fin_list N8 (by k_mem) i8)
    · have h1 : ¬ 1 < (srLast (zprim xs) (zprim ys)).length := by omega
      try refine hZf _ _ ?_
      exact hQ _ _ _ (Fr.keep (by assumption)) (by rw [zgcd_short hxn ey h1]; exact fin_list (by assumption) (by k_mem) (.cons _ _ .nil))

/-! the part W10 -/
noncomputable def exGood (a b q : List Int) : Prop := zexact a b = some q ∧ exOk b (a.length + 1) a
noncomputable def yunOk : Nat → List Int → List Int → Nat → List (List Int × Nat) → Prop
  | 0, left, rest, _, out => left.length ≤ 1 ∧ rest.length < 1000 ∧ out = []
  | n + 1, left, rest, many, out => left.length < 1000 ∧ rest.length < 1000 ∧ ((left.length ≤ 1 ∧ out = []) ∨
      (1 < left.length ∧ gcOk left rest ∧ lead (zgcd left rest) ≠ 0 ∧ Bd (zgcd left rest) ∧ (zgcd left rest).length < 1000 ∧ ∃ l r out', exGood left (zgcd left rest) l ∧ exGood rest (zgcd left rest) r ∧ l.length < 1000 ∧ r.length < 1000 ∧
        out = (if 1 < (zgcd left rest).length then (zgcd left rest, many) :: out' else out') ∧ yunOk n l (zsub r (zder l)) (many + 1) out'))
noncomputable def yunPre (xs : List Int) (out : List (List Int × Nat)) : Prop :=
  xs.length < 1000 ∧ gcdAll xs ≠ 0 ∧ gcOk (zprim xs) (zder (zprim xs)) ∧ lead (zgcd (zprim xs) (zder (zprim xs))) ≠ 0 ∧ Bd (zgcd (zprim xs) (zder (zprim xs))) ∧ (zgcd (zprim xs) (zder (zprim xs))).length < 1000 ∧
    ∃ l d n, exGood (zprim xs) (zgcd (zprim xs) (zder (zprim xs))) l ∧ exGood (zder (zprim xs)) (zgcd (zprim xs) (zder (zprim xs))) d ∧ l.length < 1000 ∧ d.length < 1000 ∧ n < 1000 ∧ yunOk n l (zsub d (zder l)) 1 out
/-- the tuple v of the ledger bears the pair -/
noncomputable def PairIn (ex : Ledger) (v : Value) (pr : List Int × Nat) : Prop :=
  ∃ (t p : Addr) (n : Nat) (tk : Tok) (its : Array Value) (k : Nat), v = .ref t ∧ (t, ({ cls := .type "tuple", data := .seq #[.ref p, .int (pr.2 : Int) tk] n } : Obj)) ∈ ex ∧ (p, listOf its k) ∈ ex ∧ IntsAre its.toList pr.1
theorem PairIn.mono {ex ex' : Ledger} {v : Value} {pr : List Int × Nat} (H : PairIn ex v pr) (S : SubL ex ex') : PairIn ex' v pr :=
  let ⟨t, p, n, tk, its, k, e, h1, h2, h3⟩ := H; ⟨t, p, n, tk, its, k, e, S _ h1, S _ h2, h3⟩
inductive PairsIn (ex : Ledger) : List Value → List (List Int × Nat) → Prop
  | nil : PairsIn ex [] []
  | cons {v vs pr prs} : PairIn ex v pr → PairsIn ex vs prs → PairsIn ex (v :: vs) (pr :: prs)
theorem PairsIn.mono {ex ex' : Ledger} {vs : List Value} {prs : List (List Int × Nat)} (H : PairsIn ex vs prs) (S : SubL ex ex') : PairsIn ex' vs prs := by
  induction H with
  | nil => exact .nil
  | cons h _ ih => exact .cons (h.mono S) ih
theorem PairsIn.snoc {ex : Ledger} {vs : List Value} {prs : List (List Int × Nat)} {v : Value} {pr : List Int × Nat} (H : PairsIn ex vs prs) (h : PairIn ex v pr) : PairsIn ex (vs ++ [v]) (prs ++ [pr]) := by
  induction H with
  | nil => exact .cons h .nil
  | cons h' _ ih => exact .cons h' ih
/-- the same of a heap -/
noncomputable def PairAt (h : Heap) (v : Value) (pr : List Int × Nat) : Prop :=
  ∃ (t p : Addr) (n : Nat) (tk : Tok), v = .ref t ∧ h.get? t = some { cls := .type "tuple", data := .seq #[.ref p, .int (pr.2 : Int) tk] n } ∧ LI h p pr.1
inductive PairsAt (h : Heap) : List Value → List (List Int × Nat) → Prop
  | nil : PairsAt h [] []
  | cons {v vs pr prs} : PairAt h v pr → PairsAt h vs prs → PairsAt h (v :: vs) (pr :: prs)
theorem PairsIn.at {h₀ h : Heap} {L : Addr} {news ex : Ledger} {vs : List Value} {prs : List (List Int × Nat)} (H : PairsIn ex vs prs) (N : News h₀ L h news) (S : SubL ex news) : PairsAt h vs prs := by
  induction H with
  | nil => exact .nil
  | cons h' _ ih =>
    obtain ⟨t, p, n, tk, its, k, e, h1, h2, h3⟩ := h'
    exact .cons ⟨t, p, n, tk, e, (N _ (S _ h1)).1, its, k, (N _ (S _ h2)).1, h3⟩ ih
noncomputable def NewPairs (h h' : Heap) (r : Value) (prs : List (List Int × Nat)) : Prop :=
  ∃ a its n ex, r = .ref a ∧ h.get? a = none ∧ h'.get? a = some (listOf its n) ∧ (∀ p ∈ ex, h'.get? p.1 = some p.2 ∧ h.get? p.1 = none) ∧ PairsIn ex its.toList prs
theorem isqf_ok (w : World) {h : Heap} {xs : List Int} {a : Addr} (hx : LI h a xs) (hl : xs.length < 1000) (hl2 : (zder xs).length < 1000) (hok : gcOk xs (zder xs)) (hl3 : (zgcd xs (zder xs)).length < 1000) :
    Pure w 185 50 [.ref a] h (fun _ r => r = .bool (decide ((zgcd xs (zder xs)).length ≤ 1))) := by
  unfold Pure
  k_fill
  intro mean mg mb dp un fr gd s Q X T hs hd hu hQ
  subst hs
  ktr_call enter [(Str.ofString "p", .ref a)]
  refine wpZ fun Zf hZf => ?_
  k_steps
  refine call_listS (zder_ok w (LI.keeps hx (Fr.keep (by assumption))) (by omega)) X T (by assumption) (by assumption) (by omega) (by omega) ?_
  intro r1 its1 n1 h1 tk1 F1 N1 i1
  try dsimp only
  k_steps
  refine call_listS (zgcd_ok w (LI.keeps hx (Fr.keep (by assumption))) (LI.ofNews (by assumption) (by k_mem) i1) (by omega) (by omega) hok) X T (by assumption) (by assumption) (by omega) (by omega) ?_
  intro r2 its2 n2 h2 tk2 F2 N2 i2
  try dsimp only
  k_steps
  refine call_int (zdegree_ok w (LI.ofNews (by assumption) (by k_mem) i2) (by omega)) X T (by assumption) (by assumption) (by omega) (by omega) ?_
  intro t3 h3 tk3 F3 N3
  try dsimp only
  k_steps
  try refine hZf _ _ ?_
  exact hQ _ _ _ (Fr.keep F3) (congrArg Value.bool (decide_eq_decide.mpr (by omega)))
theorem sqfp_ok (w : World) {h : Heap} {xs l : List Int} {a : Addr} (hx : LI h a xs) (hl : xs.length < 1000) (hl2 : (zder (zprim xs)).length < 1000) (hg : gcdAll xs ≠ 0) (hok : gcOk (zprim xs) (zder (zprim xs))) (hc : lead (zgcd (zprim xs) (zder (zprim xs))) ≠ 0)
    (hb : Bd (zgcd (zprim xs) (zder (zprim xs)))) (hl3 : (zgcd (zprim xs) (zder (zprim xs))).length < 1000) (hex : exGood (zprim xs) (zgcd (zprim xs) (zder (zprim xs))) l) :
    Pure w 192 50 [.ref a] h (fun h' r => NewL h h' r l) := by
  unfold Pure
  k_fill
  intro mean mg mb dp un fr gd s Q X T hs hd hu hQ
  subst hs
  have hzl := zprim_len xs
  ktr_call enter [(Str.ofString "p", .ref a)]
  refine wpZ fun Zf hZf => ?_
  k_steps
  refine call_listS (zprim_ok w (LI.keeps hx (Fr.keep (by assumption))) (by omega) (fun _ => hg)) X T (by assumption) (by assumption) (by omega) (by omega) ?_
  intro r1 its1 n1 h1 tk1 F1 N1 i1
  try dsimp only
  k_steps
  refine call_listS (zder_ok w (LI.ofNews (by assumption) (by k_mem) i1) (by omega)) X T (by assumption) (by assumption) (by omega) (by omega) ?_
  intro r2 its2 n2 h2 tk2 F2 N2 i2
  try dsimp only
  k_steps
  refine call_listS (zgcd_ok w (LI.ofNews (by assumption) (by k_mem) i1) (LI.ofNews (by assumption) (by k_mem) i2) (by omega) (by omega) hok) X T (by assumption) (by assumption) (by omega) (by omega) ?_
  intro r3 its3 n3 h3 tk3 F3 N3 i3
  try dsimp only
  k_steps
  refine call_listS (zexact_ok w (LI.ofNews (by assumption) (by k_mem) i1) (LI.ofNews (by assumption) (by k_mem) i3) (by omega) (by omega) hc hb hex.2 hex.1) X T (by assumption) (by assumption) (by omega) (by omega) ?_
  intro r4 its4 n4 h4 tk4 F4 N4 i4
  try dsimp only
  try refine hZf _ _ ?_
  exact hQ _ _ _ (Fr.keep F4) (fin_list N4 (by k_mem) i4)

/-! the part W11 -/
theorem zder_len (p : List Int) : (zder p).length = p.length - 1 := by unfold zder derR; simp
structure YuSt where
  left : List Int
  rest : List Int
  many : Nat
  out : List (List Int × Nat)
  done : List (List Int × Nat)
  n : Nat
  la : Addr
  ra : Addr
  mi : Int
  tm : Tok
  fd : Addr
  its : Array Value
  nfd : Nat
  ex : Ledger
theorem yun_ok (w : World) {h : Heap} {xs : List Int} {total : List (List Int × Nat)} {a : Addr} (hx : LI h a xs) (hpre : yunPre xs total) :
    Pure w 199 60 [.ref a] h (fun h' r => NewPairs h h' r total) := by
  obtain ⟨hl, hg, hok, hc, hb, hcl, lq, dq, n₀, hex1, hex2, hll, hdl, hn₀, hy⟩ := hpre
  have hzl := zprim_len xs
  have hdl2 : (zder (zprim xs)).length ≤ xs.length := by rw [zder_len]; omega
  unfold Pure
  k_fill
  intro mean mg mb dp un fr gd s Q X T hs hd hu hQ
  subst hs
  ktr_call enter [(Str.ofString "p", .ref a)]
  refine wpZ fun Zf hZf => ?_
  k_steps
  refine call_listS (zprim_ok w (LI.keeps hx (Fr.keep (by assumption))) (by omega) (fun _ => hg)) X T (by assumption) (by assumption) (by omega) (by omega) ?_
  intro r1 its1 n1 h1 tk1 F1 N1 i1
  try dsimp only
  k_steps
  refine call_listS (zder_ok w (LI.ofNews (by assumption) (by k_mem) i1) (by omega)) X T (by assumption) (by assumption) (by omega) (by omega) ?_
  intro r2 its2 n2 h2 tk2 F2 N2 i2
  try dsimp only
  k_steps
  refine call_listS (zgcd_ok w (LI.ofNews (by assumption) (by k_mem) i1) (LI.ofNews (by assumption) (by k_mem) i2) (by omega) (by omega) hok) X T (by assumption) (by assumption) (by omega) (by omega) ?_
  intro r3 its3 n3 h3 tk3 F3 N3 i3
  try dsimp only
  k_steps
  refine call_list (zexact_ok w (LI.ofNews (by assumption) (by k_mem) i1) (LI.ofNews (by assumption) (by k_mem) i3) (by omega) (by omega) hc hb hex1.2 hex1.1) X T (by assumption) (by assumption) (by omega) (by omega) ?_
  intro r4 its4 n4 h4 tk4 F4 N4 i4 ne4
  try dsimp only
  k_steps
  refine call_listS (zder_ok w (LI.ofNews (by assumption) (by k_mem) i1) (by omega)) X T (by assumption) (by assumption) (by omega) (by omega) ?_
  intro r5 its5 n5 h5 tk5 F5 N5 i5
  try dsimp only
  k_steps
  refine call_listS (zexact_ok w (LI.ofNews (by assumption) (by k_mem) i5) (LI.ofNews (by assumption) (by k_mem) i3) (by omega) (by omega) hc hb hex2.2 hex2.1) X T (by assumption) (by assumption) (by omega) (by omega) ?_
  intro r6 its6 n6 h6 tk6 F6 N6 i6
  try dsimp only
  k_steps
  refine call_listS (zder_ok w (LI.ofNews (by assumption) (by k_mem) i4) (by omega)) X T (by assumption) (by assumption) (by omega) (by omega) ?_
  intro r7 its7 n7 h7 tk7 F7 N7 i7
  try dsimp only
  have hlen7 : (zder lq).length ≤ lq.length := by rw [zder_len]; omega
  k_steps
  refine call_list (zsub_ok w (LI.ofNews (by assumption) (by k_mem) i6) (LI.ofNews (by assumption) (by k_mem) i7) (by omega) (by omega)) X T (by assumption) (by assumption) (by omega) (by omega) ?_
  intro r8 its8 n8 h8 tk8 F8 N8 i8 ne8
  try dsimp only
  k_steps
  rename Fr _ _ _ _ => F0
  rename News _ _ _ _ => N0
  unfold Halt
  refine' while_ruleZ (α := YuSt) (fun t => Lst s.heap t.ex t.la t.left ∧ Lst s.heap t.ex t.ra t.rest ∧ (∀ p ∈ t.ex, p.1 ≠ t.fd) ∧ PairsIn t.ex t.its.toList t.done ∧ t.done ++ t.out = total ∧ t.its.size + t.n < 5000 ∧ t.mi = (t.many : Int) ∧ yunOk t.n t.left t.rest t.many t.out)
    (fun t => t.n) (fun t => [(Str.ofString "left", .ref t.la), (Str.ofString "rest", .ref t.ra), (Str.ofString "many", .int t.mi t.tm), (Str.ofString "found", .ref t.fd)]) (fun t => (t.fd, listOf t.its t.nfd) :: t.ex)
    ⟨lq, zsub dq (zder lq), 1, total, [], n₀, ?_, ?_, ?_, ?_, ?_, ?_, ?_, [(r8, listOf its8 n8), (r4, listOf its4 n4)]⟩ F0 N0 ?hA ?hS ?hI ?turn
  case hA => walk_at "m_all"
  case hS => first | exact SubL.refl | exact SubL.tl SubL.refl | exact SubL.tl (SubL.tl SubL.refl) | exact SubL.tl (SubL.tl (SubL.tl SubL.refl)) | exact SubL.cons (by k_mem) (SubL.cons (by k_mem) (SubL.cons (by k_mem) SubL.nil))
  case hI =>
    refine ⟨.inr ⟨_, _, .tail _ (.head _), i4⟩, .inr ⟨_, _, .head _, i8⟩, ?_, .nil, rfl, ?_, rfl, hy⟩
    · dsimp only
      exact List.forall_mem_cons.mpr ⟨(ne8 (_, _) (by k_mem)).symm, List.forall_mem_cons.mpr ⟨(ne4 (_, _) (by k_mem)).symm, List.forall_mem_nil _⟩⟩
    · show 0 + n₀ < 5000; omega
  clear F0 N0
  rintro ⟨left, rest, many, out, dn, n, la, ra, mi, tm, fd, its, nfd, ex⟩ Z hZ u h tk ⟨hL, hR, hex, hP, htot, hsz, hmi, hyo⟩ F N
  simp only [ovr] at F N hL hR hex hP htot hsz hmi hyo
  subst hmi
  have hleft : left.length < 1000 := by
    cases n with
    | zero => have := hyo.1; omega
    | succ n => exact hyo.1
  k_steps
  refine call_int (zdegree_ok w (xs := left) (by walk_at "m_lst") (by omega)) X T (by assumption) (by assumption) (by omega) (by omega) ?_
  intro t1 h1' tk1' F1' N1'
  try dsimp only
  k_steps
  · -- the turn
    cases n with
    | zero => have := hyo.1; exfalso; omega
    | succ k =>
    obtain ⟨hb1, hb2, hor⟩ := hyo
    have hor' := hor.resolve_left (fun z => by have := z.1; omega)
    obtain ⟨hlt, hgo, hgl, hgb, hgn, l', r', out', he1, he2, hl1, hr1, hout, hnext⟩ := hor'
    have hlen13 : (zder l').length ≤ l'.length := by rw [zder_len]; omega
    refine call_list (zgcd_ok w (xs := left) (ys := rest) (by walk_at "m_lst") (by walk_at "m_lst") (by omega) (by omega) hgo) X T (by assumption) (by assumption) (by omega) (by omega) ?_
    intro r9 its9 n9 h9 tk9 F9 N9 i9 ne9
    try dsimp only
    k_steps
    refine call_int (zdegree_ok w (LI.ofNews (by assumption) (by k_mem) i9) (by omega)) X T (by assumption) (by assumption) (by omega) (by omega) ?_
    intro t10 h10 tk10 F10 N10
    try dsimp only
    k_steps
    · rename_i tp hq Fq Nq lt
      have hne' : tp ≠ fd := by have := lt.2.1; exact Nat.ne_of_gt this
      refine append_led (its := its) (n := nfd) (by assumption) (by assumption) (by k_mem) ((tp, { cls := .type "tuple", data := .seq #[.ref r9, .int (many : Int) tm] }) :: (r9, listOf its9 n9) :: ex) (SubL.cons (by k_mem) (SubL.cons (by k_mem) (by walk_at "m_own"))) ?hne2 (by omega) ?_
      case hne2 => exact List.forall_mem_cons.mpr ⟨hne', List.forall_mem_cons.mpr ⟨(ne9 (fd, _) (by k_mem)).symm, hex⟩⟩
      intro h16 F16 N16
      k_steps
      refine call_list (zexact_ok w (xs := left) (ys := zgcd left rest) (by walk_at "m_lst") (LI.ofNews (by assumption) (by k_mem) i9) (by omega) (by omega) hgl hgb he1.2 he1.1) X T (by assumption) (by assumption) (by omega) (by omega) ?_
      intro r11 its11 n11 h11 tk11 F11 N11 i11 ne11
      try dsimp only
      k_steps
      refine call_list (zexact_ok w (xs := rest) (ys := zgcd left rest) (by walk_at "m_lst") (LI.ofNews (by assumption) (by k_mem) i9) (by omega) (by omega) hgl hgb he2.2 he2.1) X T (by assumption) (by assumption) (by omega) (by omega) ?_
      intro r12 its12 n12 h12 tk12 F12 N12 i12 ne12
      try dsimp only
      k_steps
      refine call_list (zder_ok w (LI.ofNews (by assumption) (by k_mem) i11) (by omega)) X T (by assumption) (by assumption) (by omega) (by omega) ?_
      intro r13 its13 n13 h13 tk13 F13 N13 i13 ne13
      try dsimp only
      k_steps
      refine call_list (zsub_ok w (LI.ofNews (by assumption) (by k_mem) i12) (LI.ofNews (by assumption) (by k_mem) i13) (by omega) (by omega)) X T (by assumption) (by assumption) (by omega) (by omega) ?_
      intro r14 its14 n14 h14 tk14 F14 N14 i14 ne14
      try dsimp only
      k_steps
      refine hZ _ _ ?_
      refine' WEnd.next (α := YuSt) ⟨l', zsub r' (zder l'), many + 1, out', dn ++ [(zgcd left rest, many)], k, r11, r14, _, _, fd, its.push (.ref tp), nfd + 1, (r14, listOf its14 n14) :: (r11, listOf its11 n11) :: (tp, { cls := .type "tuple", data := .seq #[.ref r9, .int (many : Int) tm] }) :: (r9, listOf its9 n9) :: ex⟩ (by assumption) (by assumption) ?hA ?hS ?hI ?hμ
      case hA => walk_at "m_all"
      case hS => first | exact SubL.refl | exact SubL.tl SubL.refl | exact SubL.tl (SubL.tl SubL.refl) | exact SubL.tl (SubL.tl (SubL.tl SubL.refl)) | exact SubL.cons (by k_mem) (SubL.cons (by k_mem) (SubL.cons (by k_mem) (SubL.cons (by k_mem) (SubL.cons (by k_mem) (by walk_at "m_own")))))
      case hI =>
        refine ⟨.inr ⟨_, _, .tail _ (.head _), i11⟩, .inr ⟨_, _, .head _, i14⟩, ?_, by rw [Array.toList_push]; exact (hP.mono (SubL.tl (SubL.tl (SubL.tl (SubL.tl SubL.refl))))).snoc ⟨_, _, _, _, _, _, rfl, .tail _ (.tail _ (.head _)), .tail _ (.tail _ (.tail _ (.head _))), i9⟩, ?_, ?_, ?_, hnext⟩
        · dsimp only
          exact List.forall_mem_cons.mpr ⟨(ne14 (fd, _) (by k_mem)).symm, List.forall_mem_cons.mpr ⟨(ne11 (fd, _) (by k_mem)).symm, List.forall_mem_cons.mpr ⟨hne', List.forall_mem_cons.mpr ⟨(ne9 (fd, _) (by k_mem)).symm, hex⟩⟩⟩⟩
        · rw [← htot, hout, if_pos (by omega)]; simp
        · dsimp only; rw [Array.size_push]; omega
        · dsimp only; omega
      case hμ => dsimp only; omega
    · skip
      refine call_list (zexact_ok w (xs := left) (ys := zgcd left rest) (by walk_at "m_lst") (LI.ofNews (by assumption) (by k_mem) i9) (by omega) (by omega) hgl hgb he1.2 he1.1) X T (by assumption) (by assumption) (by omega) (by omega) ?_
      intro r11 its11 n11 h11 tk11 F11 N11 i11 ne11
      try dsimp only
      k_steps
      refine call_listS (zexact_ok w (xs := rest) (ys := zgcd left rest) (by walk_at "m_lst") (LI.ofNews (by assumption) (by k_mem) i9) (by omega) (by omega) hgl hgb he2.2 he2.1) X T (by assumption) (by assumption) (by omega) (by omega) ?_
      intro r12 its12 n12 h12 tk12 F12 N12 i12
      try dsimp only
      k_steps
      refine call_listS (zder_ok w (LI.ofNews (by assumption) (by k_mem) i11) (by omega)) X T (by assumption) (by assumption) (by omega) (by omega) ?_
      intro r13 its13 n13 h13 tk13 F13 N13 i13
      try dsimp only
      k_steps
      refine call_list (zsub_ok w (LI.ofNews (by assumption) (by k_mem) i12) (LI.ofNews (by assumption) (by k_mem) i13) (by omega) (by omega)) X T (by assumption) (by assumption) (by omega) (by omega) ?_
      intro r14 its14 n14 h14 tk14 F14 N14 i14 ne14
      try dsimp only
      k_steps
      refine hZ _ _ ?_
      refine' WEnd.next (α := YuSt) ⟨l', zsub r' (zder l'), many + 1, out', dn, k, r11, r14, _, _, fd, its, nfd, (r14, listOf its14 n14) :: (r11, listOf its11 n11) :: ex⟩ (by assumption) (by assumption) ?hA ?hS ?hI ?hμ
      case hA => walk_at "m_all"
      case hS => first | exact SubL.refl | exact SubL.tl SubL.refl | exact SubL.tl (SubL.tl SubL.refl) | exact SubL.tl (SubL.tl (SubL.tl SubL.refl)) | exact SubL.cons (by k_mem) (SubL.cons (by k_mem) (SubL.cons (by k_mem) (by walk_at "m_own")))
      case hI =>
        refine ⟨.inr ⟨_, _, .tail _ (.head _), i11⟩, .inr ⟨_, _, .head _, i14⟩, ?_, hP.mono (SubL.tl (SubL.tl SubL.refl)), ?_, ?_, ?_, hnext⟩
        · dsimp only
          exact List.forall_mem_cons.mpr ⟨(ne14 (fd, _) (by k_mem)).symm, List.forall_mem_cons.mpr ⟨(ne11 (fd, _) (by k_mem)).symm, hex⟩⟩
        · rw [← htot, hout, if_neg (by omega)]
        · dsimp only; omega
        · dsimp only; omega
      case hμ => dsimp only; omega
  · have hm1 : left.length ≤ 1 := by omega
    have hout : out = [] := by
      cases n with
      | zero => exact hyo.2.2
      | succ k => exact hyo.2.2.elim (fun z => z.2) (fun z => by have := z.1; exfalso; omega)
    rename News _ _ _ _ => N9
    rename Fr _ _ _ _ => F9
    rw [hout, List.append_nil] at htot
    try refine hZ _ _ ?_
    try refine hZf _ _ ?_
    refine hQ _ _ _ F9.keep ⟨fd, its, nfd, ex, rfl, (N9 (fd, _) (by k_mem)).2.2, (N9 (fd, _) (by k_mem)).1, fun p hp => ⟨(N9 p (.tail _ hp)).1, (N9 p (.tail _ hp)).2.2⟩, htot ▸ hP⟩
open PyProof.Rows.LCg

/-! the part W12 -/
section
variable {w : World} {A : Around} {s : Shared} {h₀ : Heap} {L : Addr} {m : Str → Option Value} {news : Ledger} {env : Env}
theorem SubL.app {a b l : Ledger} (h : SubL a l) (h' : SubL b l) : SubL (a ++ b) l := fun p hp => (List.mem_append.mp hp).elim (h p) (h' p)
theorem own_or {own : Ledger} {wr : List Addr} {l : Addr} (h1 : ∀ p ∈ own, p.1 ∈ wr ++ [l]) (h2 : ∀ p ∈ own, p.1 ∈ wr → iterCls p.2) : ∀ p ∈ own, p.1 = l ∨ iterCls p.2 := fun p hp =>
  (List.mem_append.mp (h1 p hp)).elim (fun h => .inr (h2 p hp h)) (fun h => .inl (List.mem_singleton.mp h))
theorem for_drw2 {α : Type} {target : Expr} {body : List Stmt} {Q : Flow → Shared → Prop} {J : Addr} {fp wr : List Addr} {n : Nat} {bs : Nat → List (Str × Value) → Prop} {St : Nat → Heap → Prop}
    (W : Drw w A env target J fp wr n bs St) (I : Nat → α → Prop) (ps : α → List (Str × Value)) (nn : α → Ledger) (a₀ : α)
    (hLf : env.locals ∉ fp) (hwr : ∀ b ∈ wr, h₀.get? b = none) (hit : ∀ i h o, St i h → ∀ b ∈ wr, h.get? b = some o → iterCls o) (hnn : ∀ i a, I i a → ∀ p ∈ nn a, p.1 ∈ wr → ¬ iterCls p.2)
    (hst : St 0 s.heap) (F : Fr h₀ env.locals s.heap m) (N : News h₀ env.locals s.heap news) (hm : AllIn (ps a₀) m) (hn : SubL (nn a₀) news) (hI : I 0 a₀)
    (turn : ∀ i qs a u h tk own, i < n → bs i qs → I i a → (∀ p ∈ own, p.1 ∈ fp) → (∀ p ∈ own, p.1 ∈ wr → iterCls p.2) → Fr h₀ env.locals h (ovr qs (ovr (ps a) u)) → News h₀ env.locals h (own ++ nn a) →
      wpAny (model PG w) A (execs body env) (FEnd h₀ env.locals s own I ps nn Q i) NoE { s with heap := h, toks := tk })
    (done : ∀ a u h tk, I n a → Fr h₀ env.locals h (ovr (ps a) u) → News h₀ env.locals h (nn a) → Q .next { s with heap := h, toks := tk }) :
    codeAny (model PG w) A (.forLoop target (.ref J) body [] env) (fun r s' => match r with | .ok f => Q f s' | .error e => cameBackBy (model PG w) A env NoE e s') s := by
  have hLw : env.locals ∉ wr := fun h => hLf (W.sub _ h)
  have old : ∀ b o, h₀.get? b = some o → b ∉ wr := fun b o e hb => by rw [hwr b hb] at e; cases e
  refine codeAny_forLoop_any
    (fun k s' => ∃ h' tk u a i, s' = { s with heap := h', toks := tk } ∧ St i h' ∧ Fr h₀ env.locals h' (ovr (ps a) u) ∧ News h₀ env.locals h' (nn a) ∧ I i a ∧ i ≤ n ∧ k = n + 1 - i) ?_ (n + 1)
    ⟨s.heap, s.toks, m, a₀, 0, rfl, hst, (ovr_eq hm).symm ▸ F, news_sub N hn, hI, Nat.zero_le _, rfl⟩
  intro k s' hInv
  refine wpZE fun Zi Yi hZi => ?_
  obtain ⟨h', tk, u, a, i, rfl, hst', F', N', hI', hi, rfl⟩ := hInv
  have apart : ∀ p ∈ nn a, p.1 ∉ wr := fun p hp hb => hnn i a hI' p hp hb (hit i h' p.2 hst' _ hb (N' p hp).1)
  by_cases hlt : i < n
  · refine wpAny_mono (W.item i _ _ (fun s₂ => wpAny (model PG w) A (execs body env) (FEnd h₀ env.locals s (ownOf h₀ fp s₂.heap) I ps nn Q i) NoE s₂ ∧ St (i + 1) s₂.heap ∧ ∃ m₂, Fr h₀ env.locals s₂.heap m₂) hlt hst' F'.ns hLf fun qs h₁ tk₁ hb hst₁ hn₁ hk₁ => ?_) (fun r s₁ h₁ => ?_) fun _ _ e => e.elim
    · have F₁ : Fr h₀ env.locals h₁ (ovr qs (ovr (ps a) u)) := ⟨hn₁, fun b o e => hk₁ b o (old b o e) (fun q => Nat.lt_irrefl _ (Nat.lt_of_lt_of_le (Heap.lt_size e) (q ▸ F'.above))) (F'.keep b o e), F'.above⟩
      have N₁ : News h₀ env.locals h₁ (nn a) := fun p hp => ⟨hk₁ _ _ (apart p hp) (N' p hp).2.1 (N' p hp).1, (N' p hp).2⟩
      have Nown : News h₀ env.locals h₁ (ownOf h₀ fp h₁) := news_ownOf hLf
      exact ⟨turn i qs a u h₁ tk₁ (ownOf h₀ fp h₁) hlt hb hI' ownOf_sub (fun p hp hb => hit _ h₁ p.2 hst₁ _ hb (Nown p hp).1) F₁ (Nown.append N₁), hst₁, _, F₁⟩
    · refine hZi _ _ ?_
      cases r with
      | none => exact h₁.elim
      | some v =>
        refine wpAny_mono h₁ (fun _ s₁' h₁' => ?_) fun _ _ e => e.elim
        refine wpAny_mono h₁' (fun _ s₂ h₂ => ?_) fun _ _ e => e.elim
        refine wpZE fun Zj Yj hZj => ?_
        obtain ⟨h₂, hst₁, m₂, F₁⟩ := h₂
        refine wpAny_mono h₂ (fun f s₃ h₃ => ?_) fun _ _ e => e.elim
        refine hZj _ _ ?_
        have fin : (∃ a' h' tk m' nx, s₃ = { s with heap := h', toks := tk } ∧ Fr h₀ env.locals h' m' ∧ News h₀ env.locals h' nx ∧ AllIn (ps a') m' ∧ SubL (ownOf h₀ fp s₂.heap) nx ∧ SubL (nn a') nx ∧ I (i + 1) a') →
            ∃ k', k' < n + 1 - i ∧ ∃ h' tk u a i, s₃ = { s with heap := h', toks := tk } ∧ St i h' ∧ Fr h₀ env.locals h' (ovr (ps a) u) ∧ News h₀ env.locals h' (nn a) ∧ I i a ∧ i ≤ n ∧ k' = n + 1 - i := by
          rintro ⟨a', h₃', tk₃, m', nx, rfl, F₃, N₃, hm₃, ho₃, hn₃, hI₃⟩
          refine ⟨n + 1 - (i + 1), zn9 (by assumption), h₃', tk₃, m', a', i + 1, rfl, ?_, (ovr_eq hm₃).symm ▸ F₃, news_sub N₃ hn₃, hI₃, hlt, rfl⟩
          refine W.frame _ _ _ hst₁ fun b hb o e => ?_
          cases hn : h₀.get? b with
          | some o₀ =>
            have : o₀ = o := by have := F₁.keep b o₀ hn; rw [e] at this; exact (Option.some.inj this).symm
            exact this ▸ F₃.keep b o₀ hn
          | none => exact (N₃ _ (ho₃ _ (mem_ownOf hb hn e))).1
        cases f with
        | ret v => exact h₃
        | brk => exact h₃
        | cont => exact fin h₃
        | next => exact fin h₃
  · have hin : i = n := by omega
    subst hin
    refine wpAny_mono (W.done _ (fun s₁ => Q .next s₁) hst' fun h₁ tk₁ hk₁ => ?_) (fun r s₁ h₁ => ?_) fun _ _ e => e.elim
    · exact done a u h₁ tk₁ hI' ⟨F'.ns.at' fun o e => hk₁ _ o hLw e, fun b o e => hk₁ b o (old b o e) (F'.keep b o e), F'.above⟩ fun p hp => ⟨hk₁ _ _ (apart p hp) (N' p hp).1, (N' p hp).2⟩
    · obtain ⟨rfl, h₁⟩ := h₁
      refine hZi _ _ ?_
      exact wpAny_execs_nil h₁
theorem iter_range2 {α : Type} {x : Str} {px : Pos} {body : List Stmt} {Q : Flow → Shared → Prop} {r : Addr} {b₀ : Int} {n : Nat} {t₀ u₀ v₀ : Tok} (hh : A.handled = none) (hr : IsRange s.heap r 0 b₀ 1 t₀ u₀ v₀) (hb : b₀ = (n : Int)) (hsm : n < 1000000) (hx : env.kindOf x = some .local)
    (hp : (env.scope.kind == .class || (env.scope.kind == .module && env.locals != env.globals)) = false)
    (I : Nat → α → Prop) (ps : α → List (Str × Value)) (nn : α → Ledger) (fx : Ledger) (a₀ : α) (hnn : ∀ i a, I i a → ClsOk (nn a)) (hfx : SubL fx news)
    (F : Fr h₀ env.locals s.heap m) (N : News h₀ env.locals s.heap news) (hm : AllIn (ps a₀) m) (hn : SubL (nn a₀) news) (hI : I 0 a₀)
    (turn : ∀ i t a u h tk own, i < n → I i a → Fr h₀ env.locals h (fun y => if y = x then some (.int (i : Int) t) else ovr (ps a) u y) → News h₀ env.locals h (own ++ (nn a ++ fx)) → (∀ p ∈ own,  iterCls p.2) →
      wpAny (model PG w) A (execs body env) (FEnd h₀ env.locals s own I ps (fun a => nn a ++ fx) Q i) NoE { s with heap := h, toks := tk })
    (done : ∀ a u h tk, I n a → Fr h₀ env.locals h (ovr (ps a) u) → News h₀ env.locals h (nn a ++ fx) → Q .next { s with heap := h, toks := tk }) :
    wpAny (model PG w) A (pyIter (.ref r)) (fun it s₂ => codeAny (model PG w) A (.forLoop (.Name x px) it body [] env) (fun r s' => match r with | .ok f => Q f s' | .error e => cameBackBy (model PG w) A env NoE e s') s₂) NoE s := by
  subst hb
  refine wpAny_pyIter_range hr (small_n n hsm) ?_
  have W0 : Walks PG w A s.heap.objs.size [s.heap.objs.size] [s.heap.objs.size] n (fun i v => i < n ∧ ∃ t, v = .int (0 + i * 1) t)
      (fun i h => IsRangeIter h s.heap.objs.size (0 + (i : Nat) * 1) ((n : Int) - (i : Nat)) 1) := (Walks.range hh _ 0 1 n).bound
  have W := Drw.name (px := px) W0 hx hp
  refine for_drw2 W I ps (fun a => nn a ++ fx) a₀ ?_ ?_ ?_ ?hcl (by show IsRangeIter _ _ _ _ _; rw [rsize_n]; simpa using Heap.get?_push_size _ rfl) (F.push _) (fun p hp => ⟨Heap.get?_push_of_some _ (N p hp).1, (N p hp).2⟩) hm (SubL.app hn hfx) hI ?_ done
  case hcl =>
    intro i a h p hp hb
    rcases List.mem_append.mp hp with hp | hp
    · exact (hnn i a h).all p hp
    · exact absurd (Heap.lt_size (N p (hfx p hp)).1) (by rw [List.mem_singleton.mp hb]; exact Nat.lt_irrefl _)
  · intro hmem
    exact absurd F.ns.lt ((List.mem_singleton.mp hmem) ▸ Nat.lt_irrefl _)
  · intro b hb
    rw [List.mem_singleton.mp hb]
    exact next_is_new F
  · rintro i h o e' b hb e
    rw [List.mem_singleton.mp hb] at e
    have e'' : h.get? s.heap.objs.size = some _ := e'
    rw [e''] at e
    cases e
    exact .inr (.inl rfl)
  · rintro i qs a u h tk own hi ⟨v, ⟨_, t, rfl⟩, rfl⟩ hI' ho1 ho2 F' N'
    have e : (0 + (i : Int) * 1) = (i : Int) := by omega
    rw [e] at F'
    exact turn i t a u h tk own hi hI' F' N' (fun p hp => ho2 p hp (ho1 p hp))

theorem enum_for2 {α : Type} {xi xc : Str} {pk pv pt : Pos} {x1 : Nat} {body : List Stmt} {Q : Flow → Shared → Prop} {l : Addr} {items : Array Value} {xs : List Int} (hh : A.handled = none) (hl : s.heap.IsList l items) (ia : IntsAre items.toList xs)
    (hxi : env.kindOf xi = some .local) (hxc : env.kindOf xc = some .local) (hp : (env.scope.kind == .class || (env.scope.kind == .module && env.locals != env.globals)) = false)
    (I : Nat → α → Prop) (ps : α → List (Str × Value)) (nn : α → Ledger) (fx : Ledger) (a₀ : α) (hnn : ∀ i a, I i a → ClsOk (nn a)) (hfx : SubL fx news)
    (F : Fr h₀ env.locals s.heap m) (N : News h₀ env.locals s.heap news) (hm : AllIn (ps a₀) m) (hn : SubL (nn a₀) news) (hI : I 0 a₀)
    (turn : ∀ i t tx a u h tk own, i < xs.length → I i a → Fr h₀ env.locals h (fun y => if y = xc then some (.int (xs.getD i 0) tx) else if y = xi then some (.int (i : Int) t) else ovr (ps a) u y) → News h₀ env.locals h (own ++ (nn a ++ fx)) → (∀ p ∈ own, p.1 = l ∨ iterCls p.2) →
      wpAny (model PG w) A (execs body env) (FEnd h₀ env.locals s own I ps (fun a => nn a ++ fx) Q i) NoE { s with heap := h, toks := tk })
    (done : ∀ a u h tk, I xs.length a → Fr h₀ env.locals h (ovr (ps a) u) → News h₀ env.locals h (nn a ++ fx) → Q .next { s with heap := h, toks := tk }) :
    wpAny (model PG w) A (call (.type "enumerate") [.ref l]) (fun xv s₁ => wpAny (model PG w) A (pyIter xv) (fun it s₂ => codeAny (model PG w) A (.forLoop (.Tuple [.Name xi pk, .Name xc pv] x1 pt) it body [] env) (fun r s' => match r with | .ok f => Q f s' | .error e => cameBackBy (model PG w) A env NoE e s') s₂) NoE s₁) NoE s := by
  refine go_enum hl F N (fun e it h' F' N' hl' he hit hei hli hef hLf hwr hfp off => ?_) hh
  have W := Drw.enumInts (w := w) (A := A) (env := env) (pk := pk) (pv := pv) (pt := pt) (x1 := x1) hh ia hei hli hef hxi hxc hp
  refine for_drw2 W I ps (fun a => nn a ++ fx) a₀ hLf hwr enum_cls ?hcl ⟨⟨_, he⟩, hit, hl'⟩ F' N' hm (SubL.app hn hfx) hI ?_ done
  case hcl =>
    intro i a h p hp hb
    rcases List.mem_append.mp hp with hp | hp
    · exact (hnn i a h).all p hp
    · exact absurd hb (off p (hfx p hp))
  rintro i qs a u h tk own hi ⟨_, _, ⟨t, tx, rfl, rfl⟩, rfl⟩ hI' ho1 ho2 F' N'
  exact turn i t tx a u h tk own hi hI' F' N' (fun p hp => (own_or (wr := [e, it]) (fun p hp => ho1 p hp) ho2 p hp))

end

/-! the part W13 -/
theorem own_ne {h₀ h : Heap} {L a D : Addr} {own rest : Ledger} {its jf : Array Value} {nf : Nat} (N : News h₀ L h (own ++ rest)) (hm : (D, listOf jf nf) ∈ rest) (La : h₀.IsList a its) (ho : ∀ p ∈ own, p.1 = a ∨ iterCls p.2) : ∀ p ∈ own, p.1 ≠ D := by
  intro p hp e
  have h1 := N p (List.mem_append_left _ hp)
  have h2 := N _ (List.mem_append_right _ hm)
  rcases ho p hp with h | h
  · obtain ⟨o, ho, _⟩ := La
    rw [← h, e] at ho
    have h3 := h2.2.2
    rw [ho] at h3; cases h3
  · rw [e] at h1
    have h3 := h1.1.symm.trans h2.1
    exact not_iter_list (Option.some.inj h3 ▸ h)
theorem set_led {w : World} {A : Around} {E : Value → Shared → Prop} {s : Shared} {h₀ : Heap} {L D : Addr} {m : Str → Option Value} {news : Ledger} {its : Array Value} {n : Nat} {k : Int} {t : Tok} {x : Value} {Q : Unit → Shared → Prop} (F : Fr h₀ L s.heap m) (N : News h₀ L s.heap news) (hm : (D, listOf its n) ∈ news) (keep : Ledger) (hk : SubL keep news) (hne : ∀ p ∈ keep, p.1 ≠ D)
    (h0 : 0 ≤ k) (hn : k < its.size) (hsz : its.size < 1000000) (h : ∀ h', Fr h₀ L h' m → News h₀ L h' ((D, listOf (its.setIfInBounds k.toNat x) n) :: keep) → Q () { s with heap := h' }) : wpAny (model PG w) A (setItem (.ref D) (.int k t) x) Q E s := by
  have z := N _ hm
  refine ki_setAt z.1 h0 (by omega) hn (h _ (F.change (Heap.SameBut.update ..) z.2.1 z.2.2) (ki_turn (pre := []) _ (news_sub N (SubL.cons hm hk)) (fun _ hp => nomatch hp) hne rfl ?_))
  simp
theorem ints_set {vs : List Value} {xs : List Int} (h : IntsAre vs xs) : ∀ (k : Nat) (y : Int) (t : Tok), IntsAre (vs.set k (.int y t)) (xs.set k y) := by
  induction h with
  | nil => intro k y t; exact .nil
  | cons x u h ih =>
    intro k y t
    cases k with
    | zero => exact .cons _ _ h
    | succ k => exact .cons _ _ (ih k y t)
structure MuSt where
  f : Addr
  found : List Int
  jf : Array Value
  nf : Nat
theorem zmul_ok (w : World) {h : Heap} {xs ys : List Int} {a b : Addr} (hx : LI h a xs) (hy : LI h b ys) (hl : xs.length < 1000) (hl2 : ys.length < 1000) (hbx : Bd xs) (hby : Bd ys) :
    Pure w 105 20 [.ref a, .ref b] h (fun h' r => NewL h h' r (zmul xs ys)) := by
  unfold Pure
  k_fill
  intro mean mg mb dp un fr gd s Q X T hs hd hu hQ
  subst hs
  obtain ⟨itsa, La, ia⟩ := hx.isList
  obtain ⟨itsb, Lb, ib⟩ := hy.isList
  ktr_call enter [(Str.ofString "a", .ref a), (Str.ofString "b", .ref b)]
  refine wpZ fun Zf hZf => ?_
  k_steps
  · have e : zmul xs ys = [] := by unfold zmul; rw [if_pos (.inl (List.length_eq_zero_iff.mp (by omega)))]
    rename Fr _ _ _ _ => F0
    rename News _ _ _ _ => N0
    try refine hZf _ _ ?_
    exact hQ _ _ _ F0.keep (e ▸ fin_list N0 (by k_mem) .nil)
  · have e : zmul xs ys = [] := by unfold zmul; rw [if_pos (.inr (List.length_eq_zero_iff.mp (by omega)))]
    rename Fr _ _ _ _ => F0
    rename News _ _ _ _ => N0
    try refine hZf _ _ ?_
    exact hQ _ _ _ F0.keep (e ▸ fin_list N0 (by k_mem) .nil)
  rename Fr _ _ _ _ => F0
  rename News _ _ _ _ => N0
  rename IntsAre (List.flatten _) _ => i0
  have eN : ((xs.length : Int) + ys.length - 1).toNat = xs.length + ys.length - 1 := by omega
  rw [krep_flat, eN] at i0
  have hx0 : xs ≠ [] := fun e => by have := congrArg List.length e; simp only [List.length_nil] at this; omega
  have hy0 : ys ≠ [] := fun e => by have := congrArg List.length e; simp only [List.length_nil] at this; omega
  have hm : zmul xs ys = mulL xs ys true xs.length (List.replicate (xs.length + ys.length - 1) 0) := by unfold zmul; rw [if_neg (by simp [hx0, hy0])]
  have hmem : ∀ i, i < xs.length → xs.getD i 0 ∈ xs := fun i hi => by rw [List.getD_eq_getElem?_getD, List.getElem?_eq_getElem hi]; exact List.getElem_mem hi
  have hmem2 : ∀ i, i < ys.length → ys.getD i 0 ∈ ys := fun i hi => by rw [List.getD_eq_getElem?_getD, List.getElem?_eq_getElem hi]; exact List.getElem_mem hi
  unfold Halt
  refine wpAny_For ?_ (fun _ => rfl)
  k_steps
  unfold Halt
  refine' enum_for2 (α := MuSt) rfl (La.at fun o e => F0.keep _ o e) ia rfl rfl rfl (fun i t => IntsAre t.jf.toList t.found ∧ t.found.length = xs.length + ys.length - 1 ∧ t.found = mulL xs ys true i (List.replicate (xs.length + ys.length - 1) 0))
    (fun t => [(Str.ofString "found",   .ref t.f), (Str.ofString "b", .ref b)]) (fun t => [(t.f, listOf t.jf t.nf)]) [] ⟨?_, List.replicate (xs.length + ys.length - 1) 0, ?_, ?_⟩ (fun _ _ _ => ⟨not_iter_list, trivial⟩) (fun _ h => nomatch h) F0 N0 ?hA ?hS ?hI ?turn ?done
  case hA => walk_at "m_all"
  case hS => walk_at "m_sub"
  case hI => 
    refine ⟨by rw [eN]; exact i0, by simp, rfl⟩
  case done =>
    rintro ⟨f, found, jf, nf⟩ u h tk ⟨hjf, hfl, hfe⟩ F N
    dsimp only at hjf hfl hfe
    simp only [ovr] at F N
    k_steps
    try refine hZf _ _ ?_
    exact hQ _ _ _ F.keep (hm ▸ hfe ▸ fin_list N (by k_mem) hjf)
  clear F0 N0 i0
  rintro i ti tx ⟨f, found, jf, nf⟩ u h tk own hi ⟨hjf, hfl, hfe⟩ F N hown
  simp only [ovr, List.append_nil] at F N hjf hfl hfe
  have hne := own_ne N (by k_mem) La hown
  have hsx := hbx _ (hmem i hi)
  refine wpZ fun Z hZ => ?_
  k_steps
  · unfold Halt
    refine wpAny_For ?_ (fun _ => rfl)
    k_steps
    unfold Halt
    rename Fr _ _ _ _ => F1
    rename News _ _ _ _ => N1
    refine' enum_for2 (α := MuSt) rfl (Lb.at fun o e => F1.keep _ o e) ib rfl rfl rfl (fun j t => IntsAre t.jf.toList t.found ∧ t.found.length = xs.length + ys.length - 1 ∧ t.f = f ∧ t.found = mulRow ys i (xs.getD i 0) j found)
      (fun t => [(Str.ofString "found", .ref t.f), (Str.ofString "b", .ref b), (Str.ofString "one", .int (i : Int) ti), (Str.ofString "left", .int (xs.getD i 0) tx)]) (fun t => [(t.f, listOf t.jf t.nf)]) own ⟨f, found, jf, nf⟩ (fun _ _ _ => ⟨not_iter_list, trivial⟩) (by walk_at "m_own") F1 N1 ?hA2 ?hS2 ?hI2 ?turn2 ?done2
    case hA2 => walk_at "m_all"
    case hS2 => first | exact SubL.refl | exact SubL.tl SubL.refl | exact SubL.tl (SubL.tl SubL.refl) | exact SubL.tl (SubL.tl (SubL.tl SubL.refl)) | exact SubL.cons (by k_mem) SubL.nil
    case hI2 => exact ⟨hjf, hfl, rfl, rfl⟩
    case done2 =>
      rintro ⟨f', found', jf', nf'⟩ u' h' tk' ⟨hjf', hfl', hff, hfe'⟩ F' N'
      dsimp only at hjf' hfl' hff hfe'
      subst hff
      simp only [ovr] at F' N'
      k_steps
      refine hZ _ _ ?_
      refine' FEnd.go (α := MuSt) ⟨f', found', jf', nf'⟩ F' N' ?hA5 ?hO5 ?hS5 ?hI5
      case hA5 => walk_at "m_all"
      case hO5 => walk_at "m_own"
      case hS5 => first | exact SubL.refl | exact SubL.tl SubL.refl | exact SubL.tl (SubL.tl SubL.refl) | exact SubL.tl (SubL.tl (SubL.tl SubL.refl)) | exact SubL.cons (by k_mem) SubL.nil
      case hI5 =>
        refine ⟨hjf', hfl', ?_⟩
        dsimp only
        rw [mulL, if_neg (fun z => by have := z.2; contradiction), hfe', hfe]
    clear F1 N1
    rintro j tj ty ⟨f', found', jf', nf'⟩ u' h' tk' own' hj ⟨hjf', hfl', hff, hfe'⟩ F' N' hown'
    dsimp only at hjf' hfl' hff hfe'
    subst hff
    simp only [ovr] at F' N'
    have hne' := own_ne N' (by k_mem) Lb hown'
    have hsy := hby _ (hmem2 j hj)
    refine wpZ fun Z hZ => ?_
    k_steps
    refine set_led (its := jf') (n := nf') F' N' (by k_mem) (own' ++ own) (by intro p9 hp9; simp only [List.mem_append, List.mem_cons] at hp9 ⊢; rcases hp9 with h | h <;> simp [h]) (fun p hp => (List.mem_append.mp hp).elim (hne' p) (hne p)) (by omega) (by have := ints_size hjf'; omega) (by have := ints_size hjf'; omega) ?_
    intro h9 F9 N9
    k_steps
    have eij : ((i : Int) + (j : Int)).toNat = i + j := by omega
    rw [eij] at N9
    have hset := ints_set hjf' (i + j) (found'.getD (i + j) 0 + xs.getD i 0 * ys.getD j 0)
    refine hZ _ _ ?_
    refine' FEnd.go (α := MuSt) ⟨f', mulRow ys i (xs.getD i 0) (j + 1) found, jf'.setIfInBounds (i + j) (.int (found'.getD (i + j) 0 + xs.getD i 0 * ys.getD j 0) ?_), nf'⟩ (by assumption) (by assumption) ?hA3 ?hO3 ?hS3 ?hI3
    case hA3 => walk_at "m_all"
    case hO3 => walk_at "m_own"
    case hS3 => exact SubL.app (SubL.cons (by k_mem) SubL.nil) (by walk_at "m_own")
    case hI3 =>
      refine ⟨?_, ?_, rfl, rfl⟩
      · dsimp only
        rw [Array.toList_setIfInBounds]
        show IntsAre _ ((mulRow ys i (xs.getD i 0) j found).set (i + j) ((mulRow ys i (xs.getD i 0) j found).getD (i + j) 0 + xs.getD i 0 * ys.getD j 0))
        rw [← hfe']
        exact hset _
      · dsimp only
        show ((mulRow ys i (xs.getD i 0) j found).set (i + j) ((mulRow ys i (xs.getD i 0) j found).getD (i + j) 0 + xs.getD i 0 * ys.getD j 0)).length = _
        rw [List.length_set, ← hfe']; exact hfl'
  · rename Fr _ _ _ _ => F1
    rename News _ _ _ _ => N1
    refine hZ _ _ ?_
    refine' FEnd.go (α := MuSt) ⟨f, found, jf, nf⟩ F1 N1 ?hA4 ?hO4 ?hS4 ?hI4
    case hA4 => walk_at "m_all"
    case hO4 => walk_at "m_own"
    case hS4 => first | exact SubL.refl | exact SubL.tl SubL.refl | exact SubL.tl (SubL.tl SubL.refl) | exact SubL.tl (SubL.tl (SubL.tl SubL.refl)) | exact SubL.cons (by k_mem) SubL.nil
    case hI4 =>
      refine ⟨hjf, hfl, ?_⟩
      dsimp only
      rw [mulL, if_pos ⟨rfl, by assumption⟩]; exact hfe

/-! the part W14 -/
theorem times_ok (w : World) {h : Heap} {xs ys : List Int} {a b : Addr} (hx : LI h a xs) (hy : LI h b ys) (hl : xs.length < 1000) (hl2 : ys.length < 1000) (hbx : Bd xs) (hby : Bd ys) :
    Pure w 225 20 [.ref a, .ref b] h (fun h' r => NewL h h' r (times xs ys)) := by
  unfold Pure
  k_fill
  intro mean mg mb dp un fr gd s Q X T hs hd hu hQ
  subst hs
  obtain ⟨itsa, La, ia⟩ := hx.isList
  obtain ⟨itsb, Lb, ib⟩ := hy.isList
  ktr_call enter [(Str.ofString "a", .ref a), (Str.ofString "b", .ref b)]
  refine wpZ fun Zf hZf => ?_
  k_steps
  rename Fr _ _ _ _ => F0
  rename News _ _ _ _ => N0
  rename IntsAre (List.flatten _) _ => i0
  have eN : (if (xs.length : Int) + ys.length - 1 > 0 then (xs.length : Int) + ys.length - 1 else 0).toNat = xs.length + ys.length - 1 := by split <;> omega
  rw [krep_flat, eN] at i0
  have hmem : ∀ i, i < xs.length → xs.getD i 0 ∈ xs := fun i hi => by rw [List.getD_eq_getElem?_getD, List.getElem?_eq_getElem hi]; exact List.getElem_mem hi
  have hmem2 : ∀ i, i < ys.length → ys.getD i 0 ∈ ys := fun i hi => by rw [List.getD_eq_getElem?_getD, List.getElem?_eq_getElem hi]; exact List.getElem_mem hi
  unfold Halt
  refine wpAny_For ?_ (fun _ => rfl)
  k_steps
  unfold Halt
  refine' enum_for2 (α := MuSt) rfl (La.at fun o e => F0.keep _ o e) ia rfl rfl rfl (fun i t => IntsAre t.jf.toList t.found ∧ t.found.length = xs.length + ys.length - 1 ∧ t.found = mulL xs ys false i (List.replicate (xs.length + ys.length - 1) 0))
    (fun t => [(Str.ofString "row",   .ref t.f), (Str.ofString "b", .ref b)]) (fun t => [(t.f, listOf t.jf t.nf)]) [] ⟨?_, List.replicate (xs.length + ys.length - 1) 0, ?_, ?_⟩ (fun _ _ _ => ⟨not_iter_list, trivial⟩) (fun _ h => nomatch h) F0 N0 ?hA ?hS ?hI ?turn ?done
  case hA => walk_at "m_all"
  case hS => walk_at "m_sub"
  case hI => 
    refine ⟨by rw [eN]; exact i0, by simp, rfl⟩
  case done =>
    rintro ⟨f, found, jf, nf⟩ u h tk ⟨hjf, hfl, hfe⟩ F N
    dsimp only at hjf hfl hfe
    simp only [ovr] at F N
    k_steps
    try refine hZf _ _ ?_
    exact hQ _ _ _ F.keep (show NewL _ _ _ (mulL xs ys false xs.length (List.replicate (xs.length + ys.length - 1) 0)) from hfe ▸ fin_list N (by k_mem) hjf)
  clear F0 N0 i0
  rintro i ti tx ⟨f, found, jf, nf⟩ u h tk own hi ⟨hjf, hfl, hfe⟩ F N hown
  simp only [ovr, List.append_nil] at F N hjf hfl hfe
  have hne := own_ne N (by k_mem) La hown
  have hsx := hbx _ (hmem i hi)
  refine wpZ fun Z hZ => ?_
  k_steps
  unfold Halt
  refine wpAny_For ?_ (fun _ => rfl)
  k_steps
  unfold Halt
  rename Fr _ _ _ _ => F1
  rename News _ _ _ _ => N1
  refine' enum_for2 (α := MuSt) rfl (Lb.at fun o e => F1.keep _ o e) ib rfl rfl rfl (fun j t => IntsAre t.jf.toList t.found ∧ t.found.length = xs.length + ys.length - 1 ∧ t.f = f ∧ t.found = mulRow ys i (xs.getD i 0) j found)
    (fun t => [(Str.ofString "row", .ref t.f), (Str.ofString "b", .ref b), (Str.ofString "one", .int (i : Int) ti), (Str.ofString "left", .int (xs.getD i 0) tx)]) (fun t => [(t.f, listOf t.jf t.nf)]) own ⟨f, found, jf, nf⟩ (fun _ _ _ => ⟨not_iter_list, trivial⟩) (by walk_at "m_own") F1 N1 ?hA2 ?hS2 ?hI2 ?turn2 ?done2
  case hA2 => walk_at "m_all"
  case hS2 => first | exact SubL.refl | exact SubL.tl SubL.refl | exact SubL.tl (SubL.tl SubL.refl) | exact SubL.tl (SubL.tl (SubL.tl SubL.refl)) | exact SubL.cons (by k_mem) SubL.nil
  case hI2 => exact ⟨hjf, hfl, rfl, rfl⟩
  case done2 =>
    rintro ⟨f', found', jf', nf'⟩ u' h' tk' ⟨hjf', hfl', hff, hfe'⟩ F' N'
    dsimp only at hjf' hfl' hff hfe'
    subst hff
    simp only [ovr] at F' N'
    k_steps
    refine hZ _ _ ?_
    refine' FEnd.go (α := MuSt) ⟨f', found', jf', nf'⟩ F' N' ?hA5 ?hO5 ?hS5 ?hI5
    case hA5 => walk_at "m_all"
    case hO5 => walk_at "m_own"
    case hS5 => first | exact SubL.refl | exact SubL.tl SubL.refl | exact SubL.tl (SubL.tl SubL.refl) | exact SubL.tl (SubL.tl (SubL.tl SubL.refl)) | exact SubL.cons (by k_mem) SubL.nil
    case hI5 =>
      refine ⟨hjf', hfl', ?_⟩
      dsimp only
      rw [mulL, if_neg (fun z => by have := z.1; contradiction), hfe', hfe]
  clear F1 N1
  rintro j tj ty ⟨f', found', jf', nf'⟩ u' h' tk' own' hj ⟨hjf', hfl', hff, hfe'⟩ F' N' hown'
  dsimp only at hjf' hfl' hff hfe'
  subst hff
  simp only [ovr] at F' N'
  have hne' := own_ne N' (by k_mem) Lb hown'
  have hsy := hby _ (hmem2 j hj)
  refine wpZ fun Z hZ => ?_
  k_steps
  refine set_led (its := jf') (n := nf') F' N' (by k_mem) (own' ++ own) (by intro p9 hp9; simp only [List.mem_append, List.mem_cons] at hp9 ⊢; rcases hp9 with h | h <;> simp [h]) (fun p hp => (List.mem_append.mp hp).elim (hne' p) (hne p)) (by omega) (by have := ints_size hjf'; omega) (by have := ints_size hjf'; omega) ?_
  intro h9 F9 N9
  k_steps
  have eij : ((i : Int) + (j : Int)).toNat = i + j := by omega
  rw [eij] at N9
  have hset := ints_set hjf' (i + j) (found'.getD (i + j) 0 + xs.getD i 0 * ys.getD j 0)
  refine hZ _ _ ?_
  refine' FEnd.go (α := MuSt) ⟨f', mulRow ys i (xs.getD i 0) (j + 1) found, jf'.setIfInBounds (i + j) (.int (found'.getD (i + j) 0 + xs.getD i 0 * ys.getD j 0) ?_), nf'⟩ (by assumption) (by assumption) ?hA3 ?hO3 ?hS3 ?hI3
  case hA3 => walk_at "m_all"
  case hO3 => walk_at "m_own"
  case hS3 => exact SubL.app (SubL.cons (by k_mem) SubL.nil) (by walk_at "m_own")
  case hI3 =>
    refine ⟨?_, ?_, rfl, rfl⟩
    · dsimp only
      rw [Array.toList_setIfInBounds]
      show IntsAre _ ((mulRow ys i (xs.getD i 0) j found).set (i + j) ((mulRow ys i (xs.getD i 0) j found).getD (i + j) 0 + xs.getD i 0 * ys.getD j 0))
      rw [← hfe']
      exact hset _
    · dsimp only
      show ((mulRow ys i (xs.getD i 0) j found).set (i + j) ((mulRow ys i (xs.getD i 0) j found).getD (i + j) 0 + xs.getD i 0 * ys.getD j 0)).length = _
      rw [List.length_set, ← hfe']; exact hfl'

/-! the part W15 -/
/-- the tuples of a list of pairs, as they stand in h; of the parts G holds -/
inductive PairsG (G : Addr → List Int → Prop) (h : Heap) : List Value → List (List Int × Nat) → Prop
  | nil : PairsG G h [] []
  | cons {t p : Addr} {n : Nat} {tk : Tok} {vs pr prs} : h.get? t = some { cls := .type "tuple", data := .seq #[.ref p, .int (pr.2 : Int) tk] n } → G p pr.1 → PairsG G h vs prs → PairsG G h (.ref t :: vs) (pr :: prs)
theorem PairsAt.g {h₀ h : Heap} {vs : List Value} {prs : List (List Int × Nat)} (H : PairsAt h₀ vs prs) (hk : ∀ b o, h₀.get? b = some o → h.get? b = some o) : PairsG (fun p xs => Lst h₀ [] p xs) h vs prs := by
  induction H with
  | nil => exact .nil
  | cons h' _ ih =>
    obtain ⟨t, p, n, tk, rfl, ht, hp⟩ := h'
    exact .cons (hk _ _ ht) (.inl hp) ih
theorem PairsG.length {G : Addr → List Int → Prop} {h : Heap} {vs : List Value} {prs : List (List Int × Nat)} (H : PairsG G h vs prs) : vs.length = prs.length := by
  induction H with
  | nil => rfl
  | cons _ _ _ ih => simp [ih]
theorem PairsG.lists {G : Addr → List Int → Prop} {h : Heap} {vs : List Value} {prs : List (List Int × Nat)} (H : PairsG G h vs prs) :
    ∃ (ts : List Addr) (pv : List (Value × Value)), (∀ (i : Nat) (v : Value), vs[i]? = some v → ∃ t : Addr, ts[i]? = some t ∧ v = Value.ref t) ∧ pv.length = prs.length ∧ (∀ t ∈ ts, ∃ o, h.get? t = some o ∧ ∃ q n, o = ({ cls := .type "tuple", data := .seq q n } : Obj)) ∧
      (∀ (k : Nat) (t : Addr) (p : Value × Value), ts[k]? = some t → pv[k]? = some p → h.IsTuple t #[p.1, p.2]) ∧
      (∀ (k : Nat) (p : Value × Value), pv[k]? = some p → ∃ pa tk, p = (.ref pa, .int ((prs.getD k ([], 0)).2 : Int) tk) ∧ G pa (prs.getD k ([], 0)).1) := by
  induction H with
  | nil => exact ⟨[], [], by simp, rfl, by simp, by simp, by simp⟩
  | @cons t p n tk vs pr prs h1 h2 _ ih =>
    obtain ⟨ts, pv, i1, i2, i3, i4, i5⟩ := ih
    refine ⟨t :: ts, (.ref p, .int (pr.2 : Int) tk) :: pv, ?_, by simp [i2], ?_, ?_, ?_⟩
    · intro i v hv
      cases i with
      | zero => simp at hv; exact ⟨t, by simp, hv.symm⟩
      | succ i => simpa using i1 i v (by simpa using hv)
    · intro t' ht'
      rcases List.mem_cons.mp ht' with rfl | ht'
      · exact ⟨_, h1, _, _, rfl⟩
      · exact i3 _ ht'
    · intro k t' p' ht' hp'
      cases k with
      | zero => simp at ht' hp'; subst ht' hp'; exact ⟨_, h1, rfl, n, rfl⟩
      | succ k => exact i4 k t' p' (by simpa using ht') (by simpa using hp')
    · intro k p' hp'
      cases k with
      | zero => simp at hp'; subst hp'; exact ⟨p, tk, rfl, h2⟩
      | succ k => simpa using i5 k p' (by simpa using hp')
section
variable {w : World} {A : Around} {s : Shared} {h₀ : Heap} {L : Addr} {m : Str → Option Value} {news : Ledger} {env : Env}
theorem pairs_for2 {α : Type} {xi xc : Str} {pk pv' pt : Pos} {x1 : Nat} {body : List Stmt} {Q : Flow → Shared → Prop} {l : Addr} {items : Array Value} {nl : Nat} {prs : List (List Int × Nat)} {G : Addr → List Int → Prop} (hh : A.handled = none) (hl : s.heap.get? l = some (listOf items nl)) (ia : PairsG G s.heap items.toList prs)
    (hxi : env.kindOf xi = some .local) (hxc : env.kindOf xc = some .local) (hp : (env.scope.kind == .class || (env.scope.kind == .module && env.locals != env.globals)) = false)
    (I : Nat → α → Prop) (ps : α → List (Str × Value)) (nn : α → Ledger) (fx : Ledger) (a₀ : α) (hnn : ∀ i a, I i a → ClsOk (nn a)) (hfx : SubL fx news)
    (F : Fr h₀ env.locals s.heap m) (N : News h₀ env.locals s.heap news) (hm : AllIn (ps a₀) m) (hn : SubL (nn a₀) news) (hI : I 0 a₀)
    (turn : ∀ i t pa a u h tk own, i < prs.length → G pa (prs.getD i ([], 0)).1 → I i a → Fr h₀ env.locals h (fun y => if y = xc then some (.int ((prs.getD i ([], 0)).2 : Int) t) else if y = xi then some (.ref pa) else ovr (ps a) u y) → News h₀ env.locals h (own ++ (nn a ++ fx)) →
      wpAny (model PG w) A (execs body env) (FEnd h₀ env.locals s own I ps (fun a => nn a ++ fx) Q i) NoE { s with heap := h, toks := tk })
    (done : ∀ a u h tk, I prs.length a → Fr h₀ env.locals h (ovr (ps a) u) → News h₀ env.locals h (nn a ++ fx) → Q .next { s with heap := h, toks := tk }) :
    wpAny (model PG w) A (pyIter (.ref l)) (fun it s₂ => codeAny (model PG w) A (.forLoop (.Tuple [.Name xi pk, .Name xc pv'] x1 pt) it body [] env) (fun r s' => match r with | .ok f => Q f s' | .error e => cameBackBy (model PG w) A env NoE e s') s₂) NoE s := by
  have hL : s.heap.IsList l items := ⟨_, hl, rfl, nl, rfl⟩
  have hlL := list_ne_L F hL
  have hlt : l < s.heap.objs.size := Heap.lt_size hl
  have hne : l ≠ s.heap.objs.size := Nat.ne_of_lt hlt
  obtain ⟨ts, pv, i1, i2, i3, i4, i5⟩ := ia.lists
  have hsz : items.size = prs.length := by have := ia.length; simpa using this
  have hJ : s.heap.objs.size ∉ ts := fun hm => by obtain ⟨o, ho, _⟩ := i3 _ hm; exact Nat.lt_irrefl _ (Heap.lt_size ho)
  refine wpAny_pyIter_list hL ?_
  have W := Drw.pairs (w := w) (A := A) (env := env) (xi := xi) (xc := xc) (pk := pk) (pv := pv') (pt := pt) (x1 := x1) hh hne pv ts hJ (fun i v hv => i1 i v (by simpa using hv)) (by omega) hxi hxc hp
  rw [hsz] at W
  refine for_drw2 W I ps (fun a => nn a ++ fx) a₀ ?_ ?_ ?_ ?hcl ⟨⟨⟨_, Heap.get?_push_size _ rfl, rfl, rfl⟩, hL.at fun o e => Heap.get?_push_of_some _ e⟩, fun k t p h1 h2 => (i4 k t p h1 h2).at fun o e => Heap.get?_push_of_some _ e⟩ (F.push _) (fun p hp => ⟨Heap.get?_push_of_some _ (N p hp).1, (N p hp).2⟩) hm (SubL.app hn hfx) hI ?_ done
  case hcl =>
    intro i a h p hp hb
    rcases List.mem_append.mp hp with hp | hp
    · exact (hnn i a h).all p hp
    · exact absurd (Heap.lt_size (N p (hfx p hp)).1) (by rw [List.mem_singleton.mp hb]; exact Nat.lt_irrefl _)
  · intro hmem
    rcases List.mem_cons.mp hmem with e | hmem
    · exact absurd F.ns.lt (e ▸ Nat.lt_irrefl _)
    · rcases List.mem_cons.mp hmem with e | hmem
      · exact hlL e.symm
      · obtain ⟨o, ho, q, n, rfl⟩ := i3 _ hmem
        obtain ⟨oL, esL, epL, hL', hdL, _⟩ := F.ns
        rw [ho] at hL'
        rw [← Option.some.inj hL'] at hdL
        cases hdL
  · intro b hb
    rw [List.mem_singleton.mp hb]
    exact next_is_new F
  · rintro i h o ⟨⟨⟨o', e', c', _⟩, _⟩, _⟩ b hb e
    rw [List.mem_singleton.mp hb, e'] at e
    cases e
    exact .inl c'
  · rintro i qs a u h tk own hi ⟨p, hpv, rfl⟩ hI' _ _ F' N'
    obtain ⟨pa, tk', rfl, hG⟩ := i5 _ _ hpv
    exact turn i tk' pa a u h tk own hi hG hI' F' N'
end

/-! the part W16 -/
noncomputable def powMul (mul : List Int → List Int → List Int) (found part : List Int) : Nat → List Int
  | 0 => found
  | k + 1 => mul (powMul mul found part k) part
noncomputable def prodAt (mul : List Int → List Int → List Int) (prs : List (List Int × Nat)) : Nat → List Int
  | 0 => [1]
  | i + 1 => powMul mul (prodAt mul prs i) (prs.getD i ([], 0)).1 (prs.getD i ([], 0)).2
noncomputable def Mid (xs : List Int) : Prop := Bd xs ∧ xs.length < 1000
noncomputable def prodOk (mul : List Int → List Int → List Int) (prs : List (List Int × Nat)) : Prop :=
  ∀ i, i < prs.length → Mid (prs.getD i ([], 0)).1 ∧ (prs.getD i ([], 0)).2 < 1000 ∧ ∀ k, k < (prs.getD i ([], 0)).2 → Mid (powMul mul (prodAt mul prs i) (prs.getD i ([], 0)).1 k)
structure PrSt where
  f : Addr
  jf : Array Value
  nf : Nat
theorem prod_ok (w : World) {h : Heap} {a : Addr} {its : Array Value} {n : Nat} {prs : List (List Int × Nat)} (ha : h.get? a = some (listOf its n)) (hp : PairsAt h its.toList prs) (hok : prodOk zmul prs) :
    Pure w 206 40 [.ref a] h (fun h' r => NewL h h' r (prodAt zmul prs prs.length)) := by
  unfold Pure
  k_fill
  intro mean mg mb dp un fr gd s Q X T hs hd hu hQ
  subst hs
  ktr_call enter [(Str.ofString "pairs", .ref a)]
  refine wpZ fun Zf hZf => ?_
  k_steps
  unfold Halt
  refine wpAny_For ?_ (fun _ => rfl)
  k_steps
  rename Fr _ _ _ _ => F0
  rename News _ _ _ _ => N0
  refine' pairs_for2 (α := PrSt) rfl (F0.keep _ _ ha) (hp.g F0.keep) rfl rfl rfl (fun i t => IntsAre t.jf.toList (prodAt zmul prs i))
    (fun t => [(Str.ofString "found", .ref t.f)]) (fun t => [(t.f, listOf t.jf t.nf)]) [] ⟨?_, ?_, ?_⟩ (fun _ _ _ => ⟨not_iter_list, trivial⟩) (fun _ h => nomatch h) F0 N0 ?hA ?hS ?hI ?turn ?done
  case hA => walk_at "m_all"
  case hS => walk_at "m_sub"
  case hI => exact .cons _ _ .nil
  case done =>
    rintro ⟨f, jf, nf⟩ u h tk hjf F N
    dsimp only at hjf
    simp only [ovr] at F N
    k_steps
    try refine hZf _ _ ?_
    exact hQ _ _ _ F.keep (fin_list N (by k_mem) hjf)
  clear F0 N0
  rintro i t pa ⟨f, jf, nf⟩ u h tk own hi hG hjf F N
  simp only [ovr, List.append_nil] at F N hjf
  obtain ⟨hpart, hmany, hmid⟩ := hok i hi
  generalize ePart : (prs.getD i ([], 0)).1 = part at *
  generalize eMany : (prs.getD i ([], 0)).2 = many at *
  refine wpZ fun Z hZ => ?_
  k_steps
  unfold Halt
  refine wpAny_For ?_ (fun _ => rfl)
  k_steps
  rename Fr _ _ _ _ => F1
  rename News _ _ _ _ => N1
  refine' iter_range2 (α := PrSt) rfl (by assumption) rfl (by omega) rfl rfl (fun k t => IntsAre t.jf.toList (powMul zmul (prodAt zmul prs i) part k))
    (fun t => [(Str.ofString "found", .ref t.f), (Str.ofString "part", .ref pa)]) (fun t => [(t.f, listOf t.jf t.nf)]) own ⟨f, jf, nf⟩ (fun _ _ _ => ⟨not_iter_list, trivial⟩) (by walk_at "m_own") F1 N1 ?hA2 ?hS2 ?hI2 ?turn2 ?done2
  case hA2 => walk_at "m_all"
  case hS2 => first | exact SubL.refl | exact SubL.tl SubL.refl | exact SubL.tl (SubL.tl SubL.refl) | exact SubL.tl (SubL.tl (SubL.tl SubL.refl)) | exact SubL.cons (by k_mem) SubL.nil
  case hI2 => exact hjf
  case done2 =>
    rintro ⟨f', jf', nf'⟩ u' h' tk' hjf' F' N'
    dsimp only at hjf'
    simp only [ovr] at F' N'
    k_steps
    refine hZ _ _ ?_
    refine' FEnd.go (α := PrSt) ⟨f', jf', nf'⟩ F' N' ?hA5 ?hO5 ?hS5 ?hI5
    case hA5 => walk_at "m_all"
    case hO5 => walk_at "m_own"
    case hS5 => first | exact SubL.refl | exact SubL.tl SubL.refl | exact SubL.tl (SubL.tl SubL.refl) | exact SubL.tl (SubL.tl (SubL.tl SubL.refl)) | exact SubL.cons (by k_mem) SubL.nil
    case hI5 => show IntsAre _ (powMul zmul (prodAt zmul prs i) (prs.getD i ([], 0)).1 (prs.getD i ([], 0)).2); rw [ePart, eMany]; exact hjf'
  clear F1 N1
  rintro k tk1 ⟨f', jf', nf'⟩ u' h' tk' own' hk hjf' F' N' hown'
  simp only [ovr] at F' N' hjf'
  have hst := hmid k hk
  refine wpZ fun Z hZ => ?_
  k_steps
  refine call_listS (zmul_ok w (LI.ofNews (by assumption) (by k_mem) hjf') (Lst.li hG F' N' (fun _ h => nomatch h)) (by have := hst.2; omega) (by have := hpart.2; omega) hst.1 hpart.1) X T (by assumption) (by assumption) (by omega) (by omega) ?_
  intro r1 its1 n1 h1 tk2 F2 N2 i1
  try dsimp only
  k_steps
  refine hZ _ _ ?_
  refine' FEnd.go (α := PrSt) ⟨r1, its1, n1⟩ (by assumption) (by assumption) ?hA3 ?hO3 ?hS3 ?hI3
  case hA3 => walk_at "m_all"
  case hO3 => walk_at "m_own"
  case hS3 => exact SubL.app (SubL.cons (by k_mem) SubL.nil) (by walk_at "m_own")
  case hI3 => exact i1

/-! the part W17 -/
/-- the heap without the object at b -/
noncomputable def dropH (h : Heap) (b : Addr) : Heap := h.update b (fun o => { o with data := .freed })
theorem dropH_size (h : Heap) (b : Addr) : (dropH h b).objs.size = h.objs.size := by
  unfold dropH Heap.update
  simp
theorem dropH_none (h : Heap) (b : Addr) : (dropH h b).get? b = none := by
  unfold dropH Heap.update Heap.get?
  simp only [Array.getElem?_modify, if_true]
  cases h.objs[b]? with
  | none => rfl
  | some o => rfl
theorem dropH_other {h : Heap} {b c : Addr} (e : c ≠ b) : (dropH h b).get? c = h.get? c := Heap.get?_update_ne h c b _ e
theorem dropH_keep {h : Heap} {b : Addr} : ∀ c o, (dropH h b).get? c = some o → h.get? c = some o := fun c o e => by
  by_cases q : c = b
  · rw [q, dropH_none] at e; cases e
  · rw [dropH_other q] at e; exact e
theorem dropH_base {h₀ h : Heap} {b : Addr} (k : ∀ c o, h₀.get? c = some o → h.get? c = some o) (hn : h₀.get? b = none) : ∀ c o, h₀.get? c = some o → (dropH h b).get? c = some o := fun c o e => by
  rw [dropH_other (fun q => by rw [q, hn] at e; cases e)]; exact k c o e
theorem dropH_fr {h h₁ : Heap} {b L : Addr} {m : Str → Option Value} (F : Fr h L h₁ m) : Fr (dropH h b) L h₁ m := ⟨F.ns, fun c o e => F.keep c o (dropH_keep c o e), by rw [dropH_size]; exact F.above⟩
theorem dropH_news {h h₁ : Heap} {b L : Addr} {m : Str → Option Value} {o : Obj} {news : Ledger} (F : Fr h L h₁ m) (N : News h L h₁ news) (e : h.get? b = some o) : News (dropH h b) L h₁ ((b, o) :: news) := fun p hp => by
  rcases List.mem_cons.mp hp with rfl | hp
  · exact ⟨F.keep _ _ e, Nat.ne_of_lt (Nat.lt_of_lt_of_le (Heap.lt_size e) F.above), dropH_none _ _⟩
  · refine ⟨(N p hp).1, (N p hp).2.1, ?_⟩
    by_cases q : p.1 = b
    · rw [q]; exact dropH_none _ _
    · rw [dropH_other q]; exact (N p hp).2.2
/-- a call that may change the list at bx -/
noncomputable def Mut (w : World) (f : Addr) (D : Nat) (vs : List Value) (h00 h : Heap) (bx : Addr) (Post : Heap → Value → Prop) : Prop :=
  ∀ (mean : ExcName → Option Value) (mg mb : Str → Option Value) (dp un : Nat) (fr : List Env) (gd : Option (List Code)) (s : Shared) (Q : Value → Shared → Prop),
    (Mine.hd.heap_39 w.params).In h00 → Tp mean mg mb h00 → s.heap = h → dp + D < 800 → un + 3 * D < 9000 →
    (∀ r h' tk', (∀ b o, b ≠ bx → h.get? b = some o → h'.get? b = some o) → Post h' r → Q r { s with heap := h', toks := tk' }) →
    wpAny (model PySem.Challenge.rw_pq0216_01.row.prog w) (Ar dp un fr gd) (call (.ref f) vs) Q NoE s
structure Bx where
  x : Int
  c : Nat
noncomputable def bstep (row : List Int) (b : Bx) : Bx := ⟨(b.x * 4021 + 9973 + row.getD (b.c % row.length) 0).fmod 1000003, b.c + 1⟩
/-- the box stands at bx -/
noncomputable def BoxAt (h : Heap) (bx row : Addr) (b : Bx) : Prop := ∃ t u n, h.get? bx = some (listOf #[.int b.x t, .ref row, .int (b.c : Int) u] n)
theorem next_box (w : World) {h00 h : Heap} {bx row : Addr} {ws : List Int} {b : Bx} (hk : ∀ c o, h00.get? c = some o → h.get? c = some o) (hn : h00.get? bx = none) (hb : BoxAt h bx row b) (hr : LI h row ws) (hne : row ≠ bx) (hw : 0 < ws.length) (hwl : ws.length < 1000) :
    Mut w 213 6 [.ref bx] h00 h bx (fun h' r => BoxAt h' bx row (bstep ws b) ∧ ∃ t, r = .int ((bstep ws b).x.fdiv 13) t) := by
  obtain ⟨t, u, n, eb⟩ := hb
  unfold Mut
  k_fill
  intro mean mg mb dp un fr gd s Q X00 T00 hs0 hd hu hQ
  subst hs0
  have X1 := X00.keeps hk
  have T1 := T00.keeps hk
  have X := X00.keeps (dropH_base hk hn)
  have T := T00.keeps (dropH_base hk hn)
  have hr' : LI (dropH s.heap bx) row ws := let ⟨i, k, e, z⟩ := hr; ⟨i, k, (dropH_other hne).trans e, z⟩
  ktr_call enter [(Str.ofString "box", .ref bx)]
  refine wpZ fun Zf hZf => ?_
  rename Fr _ _ _ _ => F0
  rename News _ _ _ _ => N0
  have F := dropH_fr (b := bx) F0
  have N := dropH_news F0 N0 eb
  clear F0 N0 X1 T1
  obtain ⟨itr, Lr, ir⟩ := hr'.isList
  k_steps
  rename Fr _ _ _ _ => F9
  rename News _ _ _ _ => N9
  have e : (((b.c : Int)).fmod (ws.length : Int)).toNat = b.c % ws.length := by
    rw [Int.fmod_eq_emod_of_nonneg _ (by omega), ← Int.natCast_emod]; rfl
  rw [e] at N9
  have e2 : (b.x * 4021 + 9973 + ws.getD (((b.c : Int)).fmod (ws.length : Int)).toNat 0).fmod 1000003 = (bstep ws b).x := by rw [e]; rfl
  rw [e2]
  try refine hZf _ _ ?_
  exact hQ _ _ _ (fun c o hc ec => F9.keep c o ((dropH_other hc).trans ec)) ⟨⟨_, _, _, (N9 _ (.head _)).1⟩, _, rfl⟩
/-! the box's caller: the box in the ledger -/
section
variable {w : World} {mean : ExcName → Option Value} {mg mb : Str → Option Value} {dp un : Nat} {fr : List Env} {gd : Option (List Code)} {s : Shared} {h₀ : Heap} {L bx row : Addr} {m : Str → Option Value} {news : Ledger} {f : Addr} {D : Nat} {vs : List Value} {Q : Value → Shared → Prop} {o : Obj}
theorem mut_fr {h h' : Heap} (F : Fr h₀ L h m) (N : News h₀ L h news) (hm : (bx, o) ∈ news) (k : ∀ b o, b ≠ bx → h.get? b = some o → h'.get? b = some o) : Fr h₀ L h' m := by
  have z := N _ hm
  refine ⟨F.ns.at' fun o e => k _ _ (Ne.symm z.2.1) e, fun b o e => k b o (fun q => ?_) (F.keep b o e), F.above⟩
  have z2 := z.2.2
  rw [← q, e] at z2; cases z2
theorem mut_news {h h' : Heap} {keep : Ledger} {o' : Obj} (N : News h₀ L h news) (hm : (bx, o) ∈ news) (hk : SubL keep news) (hne : ∀ p ∈ keep, p.1 ≠ bx) (k : ∀ b o, b ≠ bx → h.get? b = some o → h'.get? b = some o) (e : h'.get? bx = some o') : News h₀ L h' ((bx, o') :: keep) := fun p hp => by
  rcases List.mem_cons.mp hp with rfl | hp
  · exact ⟨e, (N _ hm).2⟩
  · exact ⟨k _ _ (hne p hp) (N p (hk p hp)).1, (N p (hk p hp)).2⟩
theorem call_next {b' : Bx} {x : Int} (keep : Ledger) (P : Mut w f D vs h₀ s.heap bx (fun h' r => BoxAt h' bx row b' ∧ ∃ t, r = .int x t)) (X : (Mine.hd.heap_39 w.params).In h₀) (T : Tp mean mg mb h₀) (F : Fr h₀ L s.heap m) (N : News h₀ L s.heap news) (hm : (bx, o) ∈ news) (hk : SubL keep news) (hne : ∀ p ∈ keep, p.1 ≠ bx)
    (hd : dp + D < 800) (hu : un + 3 * D < 9000)
    (h : ∀ t u n t' h' tk', Fr h₀ L h' m → News h₀ L h' ((bx, listOf #[.int b'.x t, .ref row, .int (b'.c : Int) u] n) :: keep) → Q (.int x t') { s with heap := h', toks := tk' }) :
    wpAny (model PySem.Challenge.rw_pq0216_01.row.prog w) (Ar dp un fr gd) (call (.ref f) vs) Q NoE s := by
  refine P mean mg mb dp un fr gd s Q X T rfl hd hu fun r h' tk' k hp => ?_
  obtain ⟨⟨t, u, n, e⟩, t', rfl⟩ := hp
  exact h t u n t' h' tk' (mut_fr F N hm k) (mut_news N hm hk hne k e)
theorem call_piece {b' : Bx} {ys : List Int} (keep : Ledger) (P : Mut w f D vs h₀ s.heap bx (fun h' r => BoxAt h' bx row b' ∧ NewL s.heap h' r ys)) (X : (Mine.hd.heap_39 w.params).In h₀) (T : Tp mean mg mb h₀) (F : Fr h₀ L s.heap m) (N : News h₀ L s.heap news) (hm : (bx, o) ∈ news) (hk : SubL keep news) (hne : ∀ p ∈ keep, p.1 ≠ bx)
    (hd : dp + D < 800) (hu : un + 3 * D < 9000)
    (h : ∀ t u n r its nr h' tk', Fr h₀ L h' m → News h₀ L h' ((r, listOf its nr) :: (bx, listOf #[.int b'.x t, .ref row, .int (b'.c : Int) u] n) :: keep) → IntsAre its.toList ys → r ≠ bx → (∀ p ∈ keep, p.1 ≠ r) → Q (.ref r) { s with heap := h', toks := tk' }) :
    wpAny (model PySem.Challenge.rw_pq0216_01.row.prog w) (Ar dp un fr gd) (call (.ref f) vs) Q NoE s := by
  refine P mean mg mb dp un fr gd s Q X T rfl hd hu fun r h' tk' k hp => ?_
  obtain ⟨⟨t, u, n, e⟩, r, rfl, hn, its, nr, hg, hi⟩ := hp
  have N' := mut_news N hm hk hne k e
  have hr := none_news N hn
  refine h t u n r its nr h' tk' (mut_fr F N hm k) (fun p hp => ?_) hi (fun q => hr _ hm q.symm) (fun p hp => hr _ (hk p hp))
  rcases List.mem_cons.mp hp with rfl | hp
  · exact ⟨hg, none_L F hn, none_old F hn⟩
  · exact N' p hp
end

/-! the part W18 -/
section
variable {w : World} {A : Around} {s : Shared} {h₀ : Heap} {L : Addr} {m : Str → Option Value} {news : Ledger} {env : Env}
theorem block_drw2 {α : Type} {elt iter target : Expr} {ifs : List Expr} {scope : Scope} {cl : List (Str × Addr)} {pos : Pos} {J : Addr} {fp wr : List Addr} {n : Nat} {bs : Nat → List (Str × Value) → Prop} {St : Nat → Heap → Prop} {RR : Value → Addr → Result → Shared → Prop}
    (W : ∀ C, Drw w A (compEnvC scope cl C env) target J fp wr n bs St) (hbs : ∀ i ps u, bs i ps → AllIn ps (ovr ps u)) (hsz : n < 1000000)
    (hcell : ∀ y ∈ scope.names, y.2 ≠ .cell) (hkind : scope.kind = .function) (hst : St 0 s.heap) (hfp : ∀ b ∈ fp, b < s.heap.objs.size)
    (I : Nat → List Value → α → Prop) (nn : α → Ledger) (a₀ : α) (adr : List Addr) (hadr : ∀ a, (nn a).map (·.1) = adr)
    (F : Fr h₀ L s.heap m) (N : News h₀ L s.heap news) (hn : SubL (nn a₀) news) (hI : I 0 [] a₀) (hLf : L ∉ fp) (hwr : ∀ b ∈ wr, h₀.get? b = none) (hnw : ∀ b ∈ adr, b ∉ wr)
    (turn : ∀ i ps ys a C oC m₂ D h tk own, i < n → bs i ps → I i ys a → ys.length ≤ i → NsObj oC m₂ → AllIn ps m₂ → Fr h₀ L h m → News h₀ L h ((C, oC) :: (D, lst ys) :: (own ++ nn a)) → C ≠ D → (∀ b ∈ adr, b ≠ C ∧ b ≠ D) → (∀ p ∈ own, (p.1 ≠ C ∧ p.1 ≠ D) ∧ p.1 ∈ fp) →
      wpAny (model PG w) A (forIn ifs true fun c r => if r = true then do let ok ← isTrue c (compEnvC scope cl C env) (eval c (compEnvC scope cl C env)); pure (ForInStep.yield ok) else pure (ForInStep.yield r)) (fun ok s₃ =>
        if ok = true then wpAny (model PG w) A (eval elt (compEnvC scope cl C env)) (fun y s₄ => CEnd h₀ L m s ((C, oC) :: (D, lst ys) :: own) (I (i + 1)) nn (ys ++ [y]) s₄) NoE s₃
        else CEnd h₀ L m s ((C, oC) :: (D, lst ys) :: own) (I (i + 1)) nn ys s₃) NoE { s with heap := h, toks := tk })
    (hRR : ∀ D C h tk m' ys a, Fr h₀ L h m → News h₀ L h ((D, lst ys) :: nn a) → (∀ b ∈ adr, b ≠ D) → h.Ns C m' → h₀.get? C = none → h₀.get? D = none → C ≠ L → D ≠ L → C ≠ D → (∀ b ∈ adr, b ≠ C) → I n ys a → RR (.ref D) C (.ok .next) { s with heap := h, toks := tk }) :
    wpAny (model PG w) A (newList []) (fun acc s₃ => wpAny (model PG w) A (newFunctionEnv scope env.globals cl [] env.qual none .none (some env)) (fun cenv s₄ =>
      codeAny (model PG w) A (.compStart (.ListComp elt [⟨target, iter, ifs, 0⟩] scope pos) 0 (.ref J) acc { cenv with scope := relabel scope env }) (RR acc cenv.locals) s₄) NoE s₃) NoE s := by
  refine wpAny_newObj_type (wpAny_newFunctionEnv hcell (by intro y hy; simp at hy) (fun h₁ hns₁ hsb₁ => ?_) hkind)
  dsimp only at hns₁ hsb₁ ⊢
  generalize hH2 : s.heap.push { cls := .type "list", dict := none, data := .seq ([] : List Value).toArray } = H2 at hns₁ hsb₁ ⊢
  have hC : H2.objs.size = s.heap.objs.size + 1 := by rw [← hH2, Heap.size_push]
  have hDC : s.heap.objs.size ≠ H2.objs.size := by rw [hC]; exact Nat.ne_of_lt (Nat.lt_succ_self _)
  have below : ∀ b, b < s.heap.objs.size → b ≠ H2.objs.size ∧ b ≠ s.heap.objs.size := fun b hb => ⟨by rw [hC]; exact Nat.ne_of_lt (Nat.lt_succ_of_lt hb), Nat.ne_of_lt hb⟩
  have hDf : s.heap.objs.size ∉ fp := fun hm => Nat.lt_irrefl _ (hfp _ hm)
  have hCf : H2.objs.size ∉ fp := fun hm => by have := hfp _ hm; rw [hC] at this; exact Nat.lt_irrefl _ (Nat.lt_of_succ_lt this)
  have old : ∀ b o, s.heap.get? b = some o → h₁.get? b = some o := fun b o e => hsb₁.extBut b o (below b (Heap.lt_size e)).1 (Heap.get?_push_of_some _ (hH2 ▸ Heap.get?_push_of_some _ e))
  have hacc : h₁.get? s.heap.objs.size = some (lst []) := hsb₁.extBut _ _ hDC (Heap.get?_push_of_some _ (hH2 ▸ Heap.get?_push_size _ rfl))
  have fresh : ∀ a, s.heap.objs.size ≤ a → s.heap.get? a = none := fun a ha => by
    cases e : s.heap.get? a with
    | none => rfl
    | some o' => exact absurd (Heap.lt_size e) (Nat.not_lt.mpr ha)
  have fresh₀ : ∀ a, s.heap.objs.size ≤ a → h₀.get? a = none := fun a ha => by
    cases e : h₀.get? a with
    | none => rfl
    | some o' => have := F.keep a o' e; rw [fresh a ha] at this; cases this
  have hD₀ : h₀.get? s.heap.objs.size = none := fresh₀ _ (Nat.le_refl _)
  have hC₀ : h₀.get? H2.objs.size = none := fresh₀ _ (by rw [hC]; exact Nat.le_succ _)
  have hLlt : L < s.heap.objs.size := F.ns.lt
  have hDL : s.heap.objs.size ≠ L := Ne.symm (below L hLlt).2
  have hCL : H2.objs.size ≠ L := Ne.symm (below L hLlt).1
  have hLw : L ∉ wr := fun h => hLf ((W 0).sub _ h)
  have oldw : ∀ b o, h₀.get? b = some o → b ∉ wr := fun b o e hb => by rw [hwr b hb] at e; cases e
  have hCw : H2.objs.size ∉ wr := fun h => hCf ((W 0).sub _ h)
  have hDw : s.heap.objs.size ∉ wr := fun h => hDf ((W 0).sub _ h)
  have adrlt : ∀ b ∈ adr, b < s.heap.objs.size := fun b hb => by
    rw [← hadr a₀] at hb
    obtain ⟨p, hp, rfl⟩ := List.mem_map.mp hb
    exact Heap.lt_size (N p (hn p hp)).1
  have offA : ∀ b ∈ adr, b ≠ H2.objs.size ∧ b ≠ s.heap.objs.size := fun b hb => below b (adrlt b hb)
  have mem_adr : ∀ {a p}, p ∈ nn a → p.1 ∈ adr := fun {a p} hp => hadr a ▸ List.mem_map.mpr ⟨p, hp, rfl⟩
  have loop : ∀ s₃ : Shared, (∃ h tk, s₃ = { s with heap := h, toks := tk } ∧ St 0 h ∧ Fr h₀ L h m ∧ h.Ns H2.objs.size (fun _ => none) ∧ News h₀ L h ((s.heap.objs.size, lst []) :: nn a₀)) →
      codeAny (model PG w) A (.compLoop (.ListComp elt [⟨target, iter, ifs, 0⟩] scope pos) 0 (.ref J) (.ref s.heap.objs.size) (compEnvC scope cl H2.objs.size env))
        (RR (.ref s.heap.objs.size) H2.objs.size) s₃ := by
    rintro s₃ ⟨hh₃, tk₃, rfl, hst₃, F₃, hns₃, N₃⟩
    refine compLoop_any
      (fun k s' => ∃ h' tk i ys m' a, s' = { s with heap := h', toks := tk } ∧ i ≤ n ∧ k = n + 1 - i ∧ ys.length ≤ i ∧ St i h' ∧ Fr h₀ L h' m ∧ h'.Ns H2.objs.size m' ∧ News h₀ L h' ((s.heap.objs.size, lst ys) :: nn a) ∧ I i ys a) ?_ (n + 1)
      ⟨hh₃, tk₃, 0, [], _, a₀, rfl, Nat.zero_le _, rfl, Nat.le_refl _, hst₃, F₃, hns₃, N₃, hI⟩
    intro k s' hInv
    refine wpZE fun Zi Yi hZi => ?_
    obtain ⟨h', tk, i, ys, m', a, rfl, hi, rfl, hyl, hst', F', hn', N', hI'⟩ := hInv
    by_cases hlt : i < n
    · refine wpAny_mono ((W H2.objs.size).item i _ _ (fun s₂ => ∃ oC own, wpAny (model PG w) A (forIn ifs true fun c r => if r = true then do let ok ← isTrue c (compEnvC scope cl H2.objs.size env) (eval c (compEnvC scope cl H2.objs.size env)); pure (ForInStep.yield ok) else pure (ForInStep.yield r)) (fun ok s₃ =>
          if ok = true then wpAny (model PG w) A (eval elt (compEnvC scope cl H2.objs.size env)) (fun y s₄ => CEnd h₀ L m s ((H2.objs.size, oC) :: (s.heap.objs.size, lst ys) :: own) (I (i + 1)) nn (ys ++ [y]) s₄) NoE s₃
          else CEnd h₀ L m s ((H2.objs.size, oC) :: (s.heap.objs.size, lst ys) :: own) (I (i + 1)) nn ys s₃) NoE s₂ ∧ St (i + 1) s₂.heap ∧ own = ownOf h₀ fp s₂.heap ∧ (∃ m₂, NsObj oC m₂) ∧ Fr h₀ L s₂.heap m) hlt hst' hn' hCf fun qs h₁' tk₁ hb hst₁ hn₁ hk₁ => ?_) (fun r s₁ h₁ => ?_) fun _ _ e => e.elim
      · have F₁ : Fr h₀ L h₁' m := ⟨F'.ns.at' fun o e => hk₁ _ o hLw (Ne.symm hCL) e, fun b o e => hk₁ b o (oldw b o e) (fun q => by have q' : b = H2.objs.size := q; rw [q', hC₀] at e; cases e) (F'.keep b o e), F'.above⟩
        have N₁ : News h₀ L h₁' ((s.heap.objs.size, lst ys) :: nn a) := fun p hp => by
          refine ⟨hk₁ _ _ ?_ ?_ (N' p hp).1, (N' p hp).2⟩
          · rcases List.mem_cons.mp hp with rfl | hp
            · exact hDw
            · exact hnw _ (mem_adr hp)
          · rcases List.mem_cons.mp hp with rfl | hp
            · exact hDC
            · exact (offA _ (mem_adr hp)).1
        have Nown : News h₀ L h₁' (ownOf h₀ fp h₁') := news_ownOf hLf
        obtain ⟨oC, heC, hoC⟩ := ns_obj hn₁
        have hps : AllIn qs (ovr qs m') := hbs i qs m' hb
        refine ⟨oC, _, turn i qs ys a H2.objs.size oC _ s.heap.objs.size h₁' tk₁ (ownOf h₀ fp h₁') hlt hb hI' hyl hoC hps F₁ (fun p hp => ?_) (Ne.symm hDC) offA (fun p hp => ?_), hst₁, rfl, ⟨_, hoC⟩, F₁⟩
        · rcases List.mem_cons.mp hp with rfl | hp
          · exact ⟨heC, hCL, hC₀⟩
          · rcases List.mem_cons.mp hp with rfl | hp
            · exact N₁ _ List.mem_cons_self
            · rcases List.mem_append.mp hp with hp | hp
              · exact Nown p hp
              · exact N₁ _ (List.mem_cons_of_mem _ hp)
        · have := ownOf_sub p hp
          exact ⟨⟨fun q => hCf (q ▸ this), fun q => hDf (q ▸ this)⟩, this⟩
      · refine hZi _ _ ?_
        cases r with
        | none => exact h₁.elim
        | some v =>
          refine wpAny_mono h₁ (fun _ s₁' h₁' => ?_) fun _ _ e => e.elim
          refine wpAny_mono h₁' (fun _ s₂ h₂ => ?_) fun _ _ e => e.elim
          refine wpZE fun Zj Yj hZj => ?_
          obtain ⟨oC, own, h₂, hst₁, rfl, ⟨m₂, hoC⟩, F₁⟩ := h₂
          have stNext : ∀ {h₄ : Heap} {nx : Ledger}, Fr h₀ L h₄ m → News h₀ L h₄ nx → SubL ((H2.objs.size, oC) :: (s.heap.objs.size, lst ys) :: ownOf h₀ fp s₂.heap) nx → St (i + 1) h₄ := fun {h₄ nx} F₄ N₄ hk => (W 0).frame _ _ _ hst₁ fun b hb o e => by
            cases hn : h₀.get? b with
            | some o₀ =>
              have : o₀ = o := by have := F₁.keep b o₀ hn; rw [e] at this; exact (Option.some.inj this).symm
              exact this ▸ F₄.keep b o₀ hn
            | none => exact (N₄ _ (hk _ (List.mem_cons_of_mem _ (List.mem_cons_of_mem _ (mem_ownOf hb hn e))))).1
          refine wpAny_mono h₂ (fun ok s₃ h₃ => ?_) fun _ _ e => e.elim
          refine hZj _ _ ?_
          cases ok with
          | false =>
            simp only [Bool.false_eq_true, if_false] at h₃ ⊢
            obtain ⟨a', h₄, tk₄, nx, rfl, F₄, N₄, hk₄, hn₄, hI₄⟩ := h₃
            refine ⟨n + 1 - (i + 1), zn9 (by assumption), h₄, tk₄, i + 1, ys, _, a', rfl, hlt, rfl, Nat.le_succ_of_le hyl, stNext F₄ N₄ hk₄, F₄, hoC.ns (N₄ _ (hk₄ _ List.mem_cons_self)).1, fun p hp => ?_, hI₄⟩
            rcases List.mem_cons.mp hp with rfl | hp
            · exact N₄ _ (hk₄ _ (List.mem_cons_of_mem _ List.mem_cons_self))
            · exact N₄ _ (hn₄ _ hp)
          | true =>
            simp only [if_true] at h₃ ⊢
            refine wpAny_mono h₃ (fun y s₄ h₄ => ?_) fun _ _ e => e.elim
            obtain ⟨a', h₄, tk₄, nx, rfl, F₄, N₄, hk₄, hn₄, hI₄⟩ := h₄
            have zD := (N₄ (s.heap.objs.size, lst ys) (hk₄ _ (List.mem_cons_of_mem _ List.mem_cons_self))).1
            have zC := (N₄ (H2.objs.size, oC) (hk₄ _ List.mem_cons_self)).1
            refine append_at (hsz := by show ys.toArray.size ≤ sizeLine; rw [List.size_toArray, sizeLine_eq]; omega) zD fun h₅ hs₅ hD₅ => ?_
            refine ⟨n + 1 - (i + 1), zn9 (by assumption), h₅, tk₄, i + 1, ys ++ [y], _, a', rfl, hlt, rfl, by rw [List.length_append, List.length_singleton]; omega, (W 0).frame _ _ _ (stNext F₄ N₄ hk₄) fun b hb o e => hs₅.extBut b o (fun q => hDf (q ▸ hb)) e, F₄.change hs₅ hDL hD₀,
              (hoC.ns zC).sameBut hs₅ (Ne.symm hDC), fun p hp => ?_, hI₄⟩
            rcases List.mem_cons.mp hp with rfl | hp
            · exact ⟨hD₅.trans (congrArg some (lst_snoc ys y)), hDL, hD₀⟩
            · exact ⟨hs₅.extBut _ _ (offA _ (mem_adr hp)).2 (N₄ _ (hn₄ _ hp)).1, (N₄ _ (hn₄ _ hp)).2⟩
    · obtain rfl : i = n := Nat.le_antisymm hi (Nat.not_lt.mp hlt)
      refine wpAny_mono ((W 0).done _ (fun s₁ => RR (.ref s.heap.objs.size) H2.objs.size (.ok .next) s₁) hst' fun h₂ tk₂ hk₂ => ?_) (fun r s₁ h₁ => ?_) fun _ _ e => e.elim
      · refine hRR _ _ h₂ tk₂ _ ys a ⟨F'.ns.at' fun o e => hk₂ _ o hLw e, fun b o e => hk₂ b o (oldw b o e) (F'.keep b o e), F'.above⟩ (fun p hp => ⟨hk₂ _ _ ?_ (N' p hp).1, (N' p hp).2⟩) (fun b hb => (offA b hb).2) (hn'.at' fun o e => hk₂ _ o hCw e) hC₀ hD₀ hCL hDL (Ne.symm hDC) (fun b hb => (offA b hb).1) hI'
        rcases List.mem_cons.mp hp with rfl | hp
        · exact hDw
        · exact hnw _ (mem_adr hp)
      · obtain ⟨rfl, h₁⟩ := h₁
        refine hZi _ _ ?_
        exact h₁
  have start : ∃ h tk, ({ s with heap := h₁, toks := s.toks + ([] : List (Str × Value)).length } : Shared) = { s with heap := h, toks := tk } ∧ St 0 h ∧ Fr h₀ L h m ∧ h.Ns H2.objs.size (fun _ => none) ∧ News h₀ L h ((s.heap.objs.size, lst []) :: nn a₀) :=
    ⟨h₁, _, rfl, (W 0).frame _ _ _ hst fun b _ o e => old b o e, F.keeps old, hns₁, fun p hp => by
      rcases List.mem_cons.mp hp with rfl | hp
      · exact ⟨hacc, hDL, hD₀⟩
      · exact ⟨old _ _ (N p (hn p hp)).1, (N p (hn p hp)).2⟩⟩
  exact codeAny_compStart_list (loop _ start) (wpAny_mono ((W 0).self 0 _ (fun it' s' => codeAny (model PG w) A (.compLoop (.ListComp elt [⟨target, iter, ifs, 0⟩] scope pos) 0 it' (.ref s.heap.objs.size) (compEnvC scope cl H2.objs.size env)) (RR (.ref s.heap.objs.size) H2.objs.size) s') ((W 0).frame _ _ _ hst fun b _ o e => old b o e) (loop _ start)) (fun _ _ x => x) fun _ _ e => e.elim)

theorem compGo_eval2 {α : Type} {elt iter target : Expr} {ifs : List Expr} {scope : Scope} {cl : List (Str × Addr)} {pos : Pos} {Q : Value → Shared → Prop} {J : Addr} {fp wr : List Addr} {n : Nat} {bs : Nat → List (Str × Value) → Prop} {St : Nat → Heap → Prop}
    (W : ∀ C, Drw w A (compEnvC scope cl C env) target J fp wr n bs St) (hbs : ∀ i ps u, bs i ps → AllIn ps (ovr ps u)) (hsz : n < 1000000)
    (hcell : ∀ y ∈ scope.names, y.2 ≠ .cell) (hkind : scope.kind = .function) (hst : St 0 s.heap) (hfp : ∀ b ∈ fp, b < s.heap.objs.size)
    (I : Nat → List Value → α → Prop) (nn : α → Ledger) (a₀ : α) (adr : List Addr) (hadr : ∀ a, (nn a).map (·.1) = adr)
    (F : Fr h₀ L s.heap m) (N : News h₀ L s.heap news) (hn : SubL (nn a₀) news) (hI : I 0 [] a₀) (hLf : L ∉ fp) (hwr : ∀ b ∈ wr, h₀.get? b = none) (hnw : ∀ b ∈ adr, b ∉ wr)
    (turn : ∀ i ps ys a C oC m₂ D h tk own, i < n → bs i ps → I i ys a → ys.length ≤ i → NsObj oC m₂ → AllIn ps m₂ → Fr h₀ L h m → News h₀ L h ((C, oC) :: (D, lst ys) :: (own ++ nn a)) → C ≠ D → (∀ b ∈ adr, b ≠ C ∧ b ≠ D) → (∀ p ∈ own, (p.1 ≠ C ∧ p.1 ≠ D) ∧ p.1 ∈ fp) →
      wpAny (model PG w) A (forIn ifs true fun c r => if r = true then do let ok ← isTrue c (compEnvC scope cl C env) (eval c (compEnvC scope cl C env)); pure (ForInStep.yield ok) else pure (ForInStep.yield r)) (fun ok s₃ =>
        if ok = true then wpAny (model PG w) A (eval elt (compEnvC scope cl C env)) (fun y s₄ => CEnd h₀ L m s ((C, oC) :: (D, lst ys) :: own) (I (i + 1)) nn (ys ++ [y]) s₄) NoE s₃
        else CEnd h₀ L m s ((C, oC) :: (D, lst ys) :: own) (I (i + 1)) nn ys s₃) NoE { s with heap := h, toks := tk })
    (fin : ∀ D h tk ys a, Fr h₀ L h m → News h₀ L h ((D, lst ys) :: nn a) → (∀ b ∈ adr, b ≠ D) → I n ys a → Q (.ref D) { s with heap := h, toks := tk }) :
    CompGo w A (.ListComp elt [⟨target, iter, ifs, 0⟩] scope pos) scope cl env none Q (.ref J) s := by
  unfold CompGo
  refine block_drw2 W hbs hsz hcell hkind hst hfp I nn a₀ adr hadr F N hn hI hLf hwr hnw turn fun D C h tk m' ys a F' N' oD hns hC₀ hD₀ hCL hDL hCD oC hI' => ?_
  refine ⟨m', hns, fun h'' hs'' => fin D h'' tk ys a (F'.change hs'' hCL hC₀) (fun p hp => ⟨hs''.extBut _ _ ?_ (N' p hp).1, (N' p hp).2⟩) oD hI'⟩
  rcases List.mem_cons.mp hp with rfl | hp
  · exact Ne.symm hCD
  · exact oC _ (hadr a ▸ List.mem_map.mpr ⟨p, hp, rfl⟩)
theorem compGo_assign2 {α : Type} {elt iter target : Expr} {ifs : List Expr} {scope : Scope} {cl : List (Str × Addr)} {pos py : Pos} {y : Str} {Q : Flow → Shared → Prop} {J : Addr} {fp wr : List Addr} {n : Nat} {bs : Nat → List (Str × Value) → Prop} {St : Nat → Heap → Prop}
    (hL : env.locals = L) (hy : env.kindOf y = some .local) (hp : (env.scope.kind == .class || (env.scope.kind == .module && env.locals != env.globals)) = false)
    (W : ∀ C, Drw w A (compEnvC scope cl C env) target J fp wr n bs St) (hbs : ∀ i ps u, bs i ps → AllIn ps (ovr ps u)) (hsz : n < 1000000)
    (hcell : ∀ y ∈ scope.names, y.2 ≠ .cell) (hkind : scope.kind = .function) (hst : St 0 s.heap) (hfp : ∀ b ∈ fp, b < s.heap.objs.size)
    (I : Nat → List Value → α → Prop) (nn : α → Ledger) (a₀ : α) (adr : List Addr) (hadr : ∀ a, (nn a).map (·.1) = adr)
    (F : Fr h₀ L s.heap m) (N : News h₀ L s.heap news) (hn : SubL (nn a₀) news) (hI : I 0 [] a₀) (hLf : L ∉ fp) (hwr : ∀ b ∈ wr, h₀.get? b = none) (hnw : ∀ b ∈ adr, b ∉ wr)
    (turn : ∀ i ps ys a C oC m₂ D h tk own, i < n → bs i ps → I i ys a → ys.length ≤ i → NsObj oC m₂ → AllIn ps m₂ → Fr h₀ L h m → News h₀ L h ((C, oC) :: (D, lst ys) :: (own ++ nn a)) → C ≠ D → (∀ b ∈ adr, b ≠ C ∧ b ≠ D) → (∀ p ∈ own, (p.1 ≠ C ∧ p.1 ≠ D) ∧ p.1 ∈ fp) →
      wpAny (model PG w) A (forIn ifs true fun c r => if r = true then do let ok ← isTrue c (compEnvC scope cl C env) (eval c (compEnvC scope cl C env)); pure (ForInStep.yield ok) else pure (ForInStep.yield r)) (fun ok s₃ =>
        if ok = true then wpAny (model PG w) A (eval elt (compEnvC scope cl C env)) (fun y s₄ => CEnd h₀ L m s ((C, oC) :: (D, lst ys) :: own) (I (i + 1)) nn (ys ++ [y]) s₄) NoE s₃
        else CEnd h₀ L m s ((C, oC) :: (D, lst ys) :: own) (I (i + 1)) nn ys s₃) NoE { s with heap := h, toks := tk })
    (fin : ∀ D h tk ys a, Fr h₀ L h (fun z => if z = y then some (.ref D) else m z) → News h₀ L h ((D, lst ys) :: nn a) → (∀ b ∈ adr, b ≠ D) → I n ys a → Q .next { s with heap := h, toks := tk }) :
    CompGo w A (.ListComp elt [⟨target, iter, ifs, 0⟩] scope pos) scope cl env (some (assign (.Name y py) env)) (fun _ s' => Q .next s') (.ref J) s := by
  subst hL
  unfold CompGo
  refine block_drw2 W hbs hsz hcell hkind hst hfp I nn a₀ adr hadr F N hn hI hLf hwr hnw turn fun D C h tk m' ys a F' N' oD hns hC₀ hD₀ hCL hDL hCD oC hI' => ?_
  show wpAny _ A (assign (.Name y py) env (.ref D)) _ _ _
  refine wpAny_assign_Name (wpAny_storeName_local hy F'.ns (fun h₂ hn₂ hs₂ => ?_) hp)
  have hL₀ : h₀.get? env.locals = none := Heap.get?_none_of_le F'.above
  have F₂ : Fr h₀ env.locals h₂ (fun z => if z = y then some (.ref D) else m z) := ⟨hn₂, fun b o e => hs₂.extBut b o (fun q => by rw [q, hL₀] at e; cases e) (F'.keep b o e), F'.above⟩
  refine ⟨m', hns.sameBut hs₂ hCL, fun h'' hs'' => fin D h'' _ ys a (F₂.change hs'' hCL hC₀) (fun p hp => ?_) oD hI'⟩
  have z : h₂.get? p.1 = some p.2 := hs₂.extBut _ _ (N' p hp).2.1 (N' p hp).1
  refine ⟨hs''.extBut _ _ ?_ z, (N' p hp).2⟩
  rcases List.mem_cons.mp hp with rfl | hp
  · exact Ne.symm hCD
  · exact oC _ (hadr a ▸ List.mem_map.mpr ⟨p, hp, rfl⟩)
theorem range_comp_assign {α : Type} {elt iter : Expr} {scope : Scope} {cl : List (Str × Addr)} {pos px py : Pos} {x yn : Str} {R : Shared → Prop} {r : Addr} {b₀ : Int} {n : Nat} {t₀ u₀ v₀ : Tok} (hh : A.handled = none) (hr : IsRange s.heap r 0 b₀ 1 t₀ u₀ v₀) (hb : b₀ = (n : Int)) (hsm : n < 1000000)
    (hL : env.locals = L) (hy : env.kindOf yn = some .local) (hp : (env.scope.kind == .class || (env.scope.kind == .module && env.locals != env.globals)) = false)
    (hx : scope.names.lookup x = some .local) (hcell : ∀ y ∈ scope.names, y.2 ≠ .cell) (hkind : scope.kind = .function)
    (I : Nat → List Value → α → Prop) (nn : α → Ledger) (a₀ : α) (adr : List Addr) (hadr : ∀ a, (nn a).map (·.1) = adr)
    (F : Fr h₀ L s.heap m) (N : News h₀ L s.heap news) (hn : SubL (nn a₀) news) (hI : I 0 [] a₀)
    (turn : ∀ i t ys a C oC m₂ D h tk own, i < n → I i ys a → NsObj oC m₂ → m₂ x = some (.int (i : Int) t) → Fr h₀ L h m → News h₀ L h ((C, oC) :: (D, lst ys) :: (own ++ nn a)) → C ≠ D → (∀ b ∈ adr, b ≠ C ∧ b ≠ D) → (∀ p ∈ own, p.1 ∉ adr) →
      wpAny (model PG w) A (eval elt (compEnvC scope cl C env)) (fun y s₄ => CEnd h₀ L m s ((C, oC) :: (D, lst ys) :: own) (I (i + 1)) nn (ys ++ [y]) s₄) NoE { s with heap := h, toks := tk })
    (fin : ∀ D h tk ys a, Fr h₀ L h (fun z => if z = yn then some (.ref D) else m z) → News h₀ L h ((D, lst ys) :: nn a) → (∀ b ∈ adr, b ≠ D) → I n ys a → R { s with heap := h, toks := tk }) :
    wpAny (model PG w) A (pyIter (.ref r)) (fun it s₂ => CompGo w A (.ListComp elt [⟨.Name x px, iter, [], 0⟩] scope pos) scope cl env (some (assign (.Name yn py) env)) (fun _ s' => R s') it s₂) NoE s := by
  subst hb
  have hlow : ∀ b ∈ adr, b < s.heap.objs.size := fun b hb => by
    rw [← hadr a₀] at hb
    obtain ⟨p, hp, rfl⟩ := List.mem_map.mp hb
    exact Heap.lt_size (N p (hn p hp)).1
  refine wpAny_pyIter_range hr (small_n n hsm) ?_
  have W0 : Walks PG w A s.heap.objs.size [s.heap.objs.size] [s.heap.objs.size] n (fun i v => i < n ∧ ∃ t, v = .int (0 + i * 1) t)
      (fun i h => IsRangeIter h s.heap.objs.size (0 + (i : Nat) * 1) ((n : Int) - (i : Nat)) 1) := (Walks.range hh _ 0 1 n).bound
  refine compGo_assign2 (Q := fun _ s' => R s') hL hy hp (fun C => Drw.name (px := px) W0 (lookup_relabel_local hx) (by simp [compEnvC, relabel, hkind])) (fun i ps u ⟨v, _, e⟩ => by subst e; exact ⟨if_pos rfl, trivial⟩) hsm hcell hkind
    (by show IsRangeIter _ _ _ _ _; rw [rsize_n]; simpa using Heap.get?_push_size _ rfl) ?_ I nn a₀ adr hadr (F.push _) (fun p hp => ⟨Heap.get?_push_of_some _ (N p hp).1, (N p hp).2⟩) hn hI ?_ ?_ ?_ ?_ fin
  · intro b hb
    rw [List.mem_singleton.mp hb]
    show _ < (s.heap.objs.push _).size
    rw [Array.size_push]; exact Nat.lt_succ_self _
  · intro hmem
    exact absurd F.ns.lt ((List.mem_singleton.mp hmem) ▸ Nat.lt_irrefl _)
  · intro b hb
    rw [List.mem_singleton.mp hb]
    exact next_is_new F
  · intro b hb hw
    exact absurd (hlow b hb) (by rw [List.mem_singleton.mp hw]; exact Nat.lt_irrefl _)
  · rintro i ps ys a C oC m₂ D h tk own hi ⟨v, ⟨_, t, rfl⟩, rfl⟩ hI' _ hoC hm F' N' hCD hadr' hown
    refine wpAny_tests_nil ?_
    simp only [if_true]
    have e : (0 + (i : Int) * 1) = (i : Int) := by omega
    have hm1 := hm.1
    rw [e] at hm1
    exact turn i t ys a C oC m₂ D h tk own hi hI' hoC hm1 F' N' hCD hadr' (fun p hp q => absurd (hlow _ q) (by rw [List.mem_singleton.mp (hown p hp).2]; exact Nat.lt_irrefl _))
end

/-! the part W19 -/
noncomputable def bval (b : Bx) : Int := b.x.fdiv 13
noncomputable def bn (ws : List Int) (b : Bx) : Nat → Bx
  | 0 => b
  | i + 1 => bstep ws (bn ws b i)
noncomputable def pieceN (ws : List Int) (b : Bx) : Nat := (1 + (bval (bn ws b 1)).fmod 2).toNat
noncomputable def piece (ws : List Int) (b : Bx) : List Int := (List.range (pieceN ws b)).map (fun i => (bval (bn ws b (i + 2))).fmod 7 - 3) ++ [1 + (bval (bn ws b (pieceN ws b + 2))).fmod 3]
structure BxSt where
  i : Nat
  t : Tok
  u : Tok
  n : Nat
section
local macro_rules | `(tactic| walk_at "exec Assign cons ListComp") => `(tactic| refine halt ?_)
theorem piece_box (w : World) {h00 h : Heap} {bx row : Addr} {ws : List Int} {b : Bx} (hk : ∀ c o, h00.get? c = some o → h.get? c = some o) (hn : h00.get? bx = none) (hb : BoxAt h bx row b) (hr : LI h row ws) (hne : row ≠ bx) (hw : 0 < ws.length) (hwl : ws.length < 1000) :
    Mut w 259 12 [.ref bx] h00 h bx (fun h' r => BoxAt h' bx row (bn ws b (pieceN ws b + 2)) ∧ NewL h h' r (piece ws b)) := by
  obtain ⟨t, u, n, eb⟩ := hb
  unfold Mut
  k_fill
  intro mean mg mb dp un fr gd s Q X00 T00 hs0 hd hu hQ
  subst hs0
  have X1 := X00.keeps hk
  have T1 := T00.keeps hk
  have X := X00.keeps (dropH_base hk hn)
  have T := T00.keeps (dropH_base hk hn)
  have hr' : LI (dropH s.heap bx) row ws := let ⟨i, k, e, z⟩ := hr; ⟨i, k, (dropH_other hne).trans e, z⟩
  ktr_call enterC [(Str.ofString "box", .ref bx)]
  refine wpZ fun Zf hZf => ?_
  rename Fr _ _ _ _ => F0
  rename News _ _ _ _ => N0
  have F := dropH_fr (b := bx) F0
  have N := dropH_news F0 N0 eb
  clear F0 N0 X1 T1
  obtain ⟨itr, Lr, ir⟩ := hr'.isList
  k_steps
  unfold Halt
  rename_i L' _ _ _ _ _ _ o' d1
  refine comp_assign (cl := [(Str.ofString "box", L' + 1)]) rfl rfl rfl (by decide) ?_ (fun _ => rfl)
  have hbL : bx ≠ L' + 1 := by
    have h1 := Heap.lt_size eb
    have h2 := F.above
    rw [dropH_size] at h2
    exact Nat.ne_of_lt (Nat.lt_succ_of_lt (Nat.lt_of_lt_of_le h1 h2))
  have hcnt : 1 + (bval (bn ws b 1)).fmod 2 = (pieceN ws b : Int) := by
    unfold pieceN
    have := Int.fmod_nonneg_of_pos (bval (bn ws b 1)) (b := 2) (by decide)
    omega
  have hcnt2 : pieceN ws b < 1000 := by
    unfold pieceN
    have := Int.fmod_lt_of_pos (bval (bn ws b 1)) (b := 2) (by decide)
    omega
  k_steps
  refine call_next (b' := bn ws b 1) (x := bval (bn ws b 1)) [(L' + 1, o')] (next_box w (h00 := dropH s.heap bx) F.keep (dropH_none _ _) ⟨_, _, _, (N _ (.head _)).1⟩ (hr'.keeps F.keep) hne hw hwl) X T F N (.head _) (SubL.cons (by k_mem) SubL.nil) (by intro p hp; rw [List.mem_singleton.mp hp]; exact hbL.symm) (by omega) (by omega) ?_
  intro t1 u1 n1 t1' h1 tk1 F1 N1
  try dsimp only
  k_steps
  rename Fr _ _ _ _ => F2
  rename News _ _ _ _ => N2
  refine' range_comp_assign (α := BxSt) rfl ?hr hcnt (by omega) rfl rfl rfl rfl ?hcell rfl
    (fun i ys a => a.i = i ∧ IntsAre ys ((List.range i).map (fun i => (bval (bn ws b (i + 2))).fmod 7 - 3))) (fun a => [(bx, listOf #[.int (bn ws b (a.i + 1)).x a.t, .ref row, .int ((bn ws b (a.i + 1)).c : Int) a.u] a.n), (L' + 1, o')]) ⟨0, t1, u1, n1⟩ [bx, L' + 1] (fun _ => rfl) F2 N2 ?hS ⟨rfl, .nil⟩ ?turn ?fin
  case hr => assumption
  case hcell => decide
  case hS => first | exact SubL.refl | exact SubL.tl SubL.refl | exact SubL.tl (SubL.tl SubL.refl) | exact SubL.tl (SubL.tl (SubL.tl SubL.refl)) | exact SubL.cons (by k_mem) (SubL.cons (by k_mem) SubL.nil)
  case turn =>
    clear F2 N2 F N
    rintro i ti ys ⟨i', t2, u2, n2⟩ C oC m₂ D h2 tk2 own hi ⟨hii, hys⟩ hoC hm2 F N hCD hadr hown
    dsimp only at hii hys F N
    subst hii
    replace N := news_sub (news' := (C, oC) :: (D, lst ys) :: (bx, listOf #[.int (bn ws b (i' + 1)).x t2, .ref row, .int ((bn ws b (i' + 1)).c : Int) u2] n2) :: (L' + 1, o') :: own) N (by intro p hp; simp only [List.mem_cons, List.mem_append, List.not_mem_nil, or_false] at hp ⊢; rcases hp with h | h | h | h | h <;> simp [h])
    refine wpZ fun Z hZ => ?_
    k_steps
    refine call_next (b' := bn ws b (i' + 2)) (x := bval (bn ws b (i' + 2))) ((C, oC) :: (D, lst ys) :: (L' + 1, o') :: own) (next_box w (h00 := dropH s.heap bx) F.keep (dropH_none _ _) ⟨_, _, _, (N (bx, _) (by k_mem)).1⟩ (hr'.keeps F.keep) hne hw hwl) X T F N (by k_mem) ?hk9 ?hn9 (by omega) (by omega) ?_
    case hk9 => first | exact SubL.refl | exact SubL.tl SubL.refl | exact SubL.tl (SubL.tl SubL.refl) | exact SubL.tl (SubL.tl (SubL.tl SubL.refl)) | exact SubL.cons (by k_mem) (SubL.cons (by k_mem) (SubL.cons (by k_mem) (by walk_at "m_own")))
    case hn9 =>
      refine List.forall_mem_cons.mpr ⟨(hadr bx (by k_mem)).1.symm, List.forall_mem_cons.mpr ⟨(hadr bx (by k_mem)).2.symm, List.forall_mem_cons.mpr ⟨hbL.symm, fun p hp q => hown p hp (q ▸ by k_mem)⟩⟩⟩
    intro t3 u3 n3 t3' h3 tk3 F3 N3
    k_steps
    refine hZ _ _ ?_
    refine CEnd.go ⟨i' + 1, t3, u3, n3⟩ F3 N3 ?_ ?_ ⟨rfl, ?_⟩
    · exact SubL.cons (by k_mem) (SubL.cons (by k_mem) (by walk_at "m_own"))
    · exact SubL.cons (by k_mem) (SubL.cons (by k_mem) SubL.nil)
    · rw [List.range_succ, List.map_append]
      exact IntsAre.append hys (.cons _ _ .nil)
  case fin =>
    clear F2 N2 F N
    rintro D h2 tk2 ys ⟨i', t2, u2, n2⟩ F N hadr ⟨hii, hys⟩
    dsimp only at hii hys F N
    subst hii
    k_steps
    refine call_next (b' := bn ws b (pieceN ws b + 2)) (x := bval (bn ws b (pieceN ws b + 2))) [(D, lst ys)] (next_box w (h00 := dropH s.heap bx) F.keep (dropH_none _ _) ⟨_, _, _, (N (bx, _) (by k_mem)).1⟩ (hr'.keeps F.keep) hne hw hwl) X T F N (by k_mem) (SubL.cons (by k_mem) SubL.nil) (by intro p hp; rw [List.mem_singleton.mp hp]; exact (hadr bx (by k_mem)).symm) (by omega) (by omega) ?_
    intro t3 u3 n3 t3' h3 tk3 F3 N3
    try dsimp only
    k_steps
    rename Fr _ _ _ _ => F9
    rename News _ _ _ _ => N9
    refine add_arrays_ints F9 N9 (News.isList N9 (by k_mem)) (News.isList N9 (by k_mem)) hys (.cons _ _ .nil) ?_ (by simp [sizeLine_eq]; omega)
    intro h10 F10 N10 i10
    try refine hZf _ _ ?_
    refine hQ _ _ _ (fun c o hc ec => F10.keep c o ((dropH_other hc).trans ec)) ⟨⟨_, _, _, (N10 (bx, _) (by k_mem)).1⟩, ?_⟩
    have hz := N10 _ (.head _)
    refine ⟨_, rfl, ?_, _, _, hz.1, i10⟩
    have hz2 := hz.2.2
    rwa [dropH_other (Nat.ne_of_gt (Heap.lt_size (N9 (bx, _) (by k_mem)).1))] at hz2
end

/-! the part W20 -/
/-- the list itself or a new one -/
noncomputable def RetL (h : Heap) (a : Addr) (h' : Heap) (r : Value) (ys : List Int) : Prop := (r = .ref a ∧ LI h' a ys) ∨ NewL h h' r ys
section
variable {w : World} {A : Around} {E : Value → Shared → Prop} {s : Shared}
theorem ne_LI {a b : Addr} {xs ys : List Int} {Q : Value → Shared → Prop} (H1 : LI s.heap a xs) (H2 : LI s.heap b ys) (hu : A.units + 64 < cLine) (h : Q (.bool (!decide (xs = ys))) s) : wpAny (model PG w) A (compareOp .NotEq (.ref a) (.ref b)) Q E s := by
  obtain ⟨i1, L1, j1⟩ := H1.isList
  obtain ⟨i2, L2, j2⟩ := H2.isList
  exact ne_intsK (vs := i1.toList) (us := i2.toList) L1 j1 L2 j2 hu h
theorem eq_LI {a b : Addr} {xs ys : List Int} {Q : Value → Shared → Prop} (H1 : LI s.heap a xs) (H2 : LI s.heap b ys) (hu : A.units + 64 < cLine) (h : Q (.bool (decide (xs = ys))) s) : wpAny (model PG w) A (compareOp .Eq (.ref a) (.ref b)) Q E s := by
  obtain ⟨i1, L1, j1⟩ := H1.isList
  obtain ⟨i2, L2, j2⟩ := H2.isList
  exact eq_intsK (vs := i1.toList) (us := i2.toList) L1 j1 L2 j2 hu h
end
structure TrSt where
  ys : List Int
  r : Addr
  ex : Ledger
theorem trim_row (w : World) {h : Heap} {xs : List Int} {a : Addr} (hx : LI h a xs) (hl : xs.length < 1000000) :
    Pure w 232 4 [.ref a] h (fun h' r => RetL h a h' r (trim xs)) := by
  unfold Pure
  k_fill
  intro mean mg mb dp un fr gd s Q X T hs hd hu hQ
  subst hs
  ktr_call enter [(Str.ofString "row", .ref a)]
  refine wpZ fun Zf hZf => ?_
  k_steps
  rename Fr _ _ _ _ => F0
  rename News _ _ _ _ => N0
  unfold Halt
  refine' while_ruleZ (α := TrSt) (fun t => ((t.r = a ∧ t.ys = xs) ∨ ∃ its n, (t.r, listOf its n) ∈ t.ex ∧ IntsAre its.toList t.ys) ∧ t.ys.length ≤ xs.length ∧ trim t.ys = trim xs) (fun t => t.ys.length) (fun t => [(Str.ofString "row", .ref t.r)]) (fun t => t.ex) ⟨xs, a, []⟩ F0 N0 ?hA ?hS ?hI ?turn
  case hA => walk_at "m_all"
  case hS => walk_at "m_sub"
  case hI => exact ⟨.inl ⟨rfl, rfl⟩, Nat.le_refl _, rfl⟩
  clear F0 N0
  rintro ⟨ys, r, ex⟩ Z hZ u h tk ⟨hr, hk, ht⟩ F N
  simp only [ovr] at F N hr hk ht
  have hL : Lst s.heap ex r ys := hr.elim (fun z => .inl (by rw [z.1, z.2]; exact hx)) .inr
  k_steps
  rename Fr _ _ _ _ => F1
  rename News _ _ _ _ => N1
  refine ne_LI (hL.li F1 N1 (SubL.tl SubL.refl)) (LI.ofNews (xs := []) N1 (.head _) .nil) (by units_room) ?_
  obtain ⟨its, La, ia⟩ := (hL.li F1 N1 (SubL.tl SubL.refl)).isList
  by_cases hys : ys = []
  · rw [show (!decide (ys = [])) = false by simp [hys]]
    k_steps
    try refine hZ _ _ ?_
    try refine hZf _ _ ?_
    refine hQ _ _ _ F1.keep ?_
    rw [← ht, hys]
    subst hys
    rcases hr with ⟨rfl, _⟩ | ⟨its', n', hm', hi'⟩
    · exact .inl ⟨rfl, hL.li F1 N1 (SubL.tl SubL.refl)⟩
    · exact .inr (fin_list N1 (.tail _ hm') hi')
  · rw [show (!decide (ys = [])) = true by simp [hys]]
    have hy0 : 0 < ys.length := List.length_pos_iff.mpr hys
    k_steps
    · rename IntsAre _ (List.take _ _) => hI
      have h0 : ys.getD (-1 + (ys.length : Int)).toNat 0 = 0 := by assumption
      rw [show (-1 + (ys.length : Int)).toNat = ys.length - 1 by omega] at h0
      have et := trim_take ys (ys.length - 1) (by omega) h0
      rw [show ys.length - 1 + 1 = ys.length by omega, List.take_length] at et
      rename Fr _ _ _ _ => F2
      rename News _ _ _ _ => N2
      refine hZ _ _ ?_
      refine' WEnd.next (α := TrSt) ⟨ys.take (ys.length - 1), _, _⟩ F2 N2 ?hA ?hS ?hI ?hμ
      case hA => walk_at "m_all"
      case hS => exact SubL.refl
      case hI => exact ⟨.inr ⟨_, _, .head _, hI⟩, by rw [List.length_take]; omega, et.symm.trans ht⟩
      case hμ => dsimp only; rw [List.length_take]; omega
    · have h0 : ys.getD (-1 + (ys.length : Int)).toNat 0 ≠ 0 := by assumption
      rw [show (-1 + (ys.length : Int)).toNat = ys.length - 1 by omega] at h0
      try refine hZ _ _ ?_
      try refine hZf _ _ ?_
      refine hQ _ _ _ F1.keep ?_
      rw [← ht, trim_stop ys (.inr h0)]
      rcases hr with ⟨rfl, _⟩ | ⟨its', n', hm', hi'⟩
      · exact .inl ⟨rfl, hL.li F1 N1 (SubL.tl SubL.refl)⟩
      · exact .inr (fin_list N1 (.tail _ hm') hi')
theorem slope_ok (w : World) {h : Heap} {xs : List Int} {a : Addr} (hx : LI h a xs) (hl : xs.length < 1000000) :
    Pure w 254 4 [.ref a] h (fun h' r => NewL h h' r (zder xs)) := by
  unfold Pure
  k_fill
  intro mean mg mb dp un fr gd s Q X T hs hd hu hQ
  subst hs
  obtain ⟨its, La, ia⟩ := hx.isList
  ktr_call enter [(Str.ofString "row", .ref a)]
  refine wpZ fun Zf hZf => ?_
  k_steps
  unfold Halt
  refine comp_eval (cl := []) rfl rfl (by decide) ?_ (fun _ => rfl)
  k_steps
  unfold Halt
  rename Fr _ _ _ _ => F0
  rename News _ _ _ _ => N0
  refine enum_comp_eval rfl (La.at fun o e => F0.keep _ o e) ia hl rfl rfl (by decide) (by decide) rfl F0 N0 (fun i => xs.getD i 0 * (i : Int)) ?turn ?fin
  case turn =>
    clear F0 N0
    intro s' hs' i t tx C oC m₂ D ys h tk own hi hoC hm1 hm2 F N
    k_steps
    · exact F
    · exact N
  case fin =>
    clear F0 N0
    intro D h tk ys F N off hI
    k_steps
    refine kba_turn (value' := Expr.Name (Str.ofString "row") ⟨1, 1, 1, 1⟩) (fun _ => rfl) ?_
    have hlen : ys.length = xs.length := by rw [hI.length]; simp
    refine kmk_slice_ints F N (News.isList N (by k_mem)) (IsPart.int _ _) IsPart.none hI (kmk_from hI (by decide)) rfl ?_ (by with_unfolding_all rfl) (fun _ => rfl) (by rw [List.size_toArray, sizeLine_eq]; omega)
    intro D2 ws h2 F2 N2 l2 hI2 _ _
    k_steps
    try refine hZf _ _ ?_
    exact hQ _ _ _ (Fr.keep (by assumption)) (fin_list (by assumption) (by k_mem) hI2)


/-! the part W21 -/
section
variable {w : World} {A : Around} {s : Shared} {h₀ : Heap} {L : Addr} {m : Str → Option Value} {news : Ledger} {env : Env}
/-- may stand beside a loop's iterators: no iterator, or there before the loop -/
noncomputable def Aside (news : Ledger) (l : Ledger) : Prop := ∀ p ∈ l, ¬ iterCls p.2 ∨ ∃ o, (p.1, o) ∈ news
theorem Aside.nil {news : Ledger} : Aside news [] := fun _ h => nomatch h
theorem Aside.list {news l : Ledger} {a : Addr} {its : Array Value} {n : Nat} (h : Aside news l) : Aside news ((a, listOf its n) :: l) := fun p hp => by
  rcases List.mem_cons.mp hp with rfl | hp
  · exact .inl not_iter_list
  · exact h p hp
theorem Aside.old {news l : Ledger} {a : Addr} {o o' : Obj} (hm : (a, o) ∈ news) (h : Aside news l) : Aside news ((a, o') :: l) := fun p hp => by
  rcases List.mem_cons.mp hp with rfl | hp
  · exact .inr ⟨o, hm⟩
  · exact h p hp
theorem Aside.off {news l : Ledger} {h : Heap} (N : News h₀ L h news) (ha : Aside news l) {p : Addr × Obj} (hp : p ∈ l) (e : h.get? p.1 = none) : ¬ iterCls p.2 := by
  rcases ha p hp with q | ⟨o, q⟩
  · exact q
  · have := (N _ q).1; rw [e] at this; cases this
theorem iter_list3 {α : Type} {x : Str} {px : Pos} {body : List Stmt} {Q : Flow → Shared → Prop} {l : Addr} {items : Array Value} {xs : List Int} (hh : A.handled = none) (hl : s.heap.IsList l items) (ia : IntsAre items.toList xs) (hx : env.kindOf x = some .local)
    (hp : (env.scope.kind == .class || (env.scope.kind == .module && env.locals != env.globals)) = false)
    (I : Nat → α → Prop) (ps : α → List (Str × Value)) (nn : α → Ledger) (a₀ : α) (hnn : ∀ i a, I i a → Aside news (nn a))
    (F : Fr h₀ env.locals s.heap m) (N : News h₀ env.locals s.heap news) (hm : AllIn (ps a₀) m) (hn : SubL (nn a₀) news) (hI : I 0 a₀)
    (turn : ∀ i t a u h tk own, i < xs.length → I i a → Fr h₀ env.locals h (fun y => if y = x then some (.int (xs.getD i 0) t) else ovr (ps a) u y) → News h₀ env.locals h (nn a ++ own) → (∀ p ∈ own, p.1 = l ∨ (iterCls p.2 ∧ s.heap.get? p.1 = none)) →
      wpAny (model PG w) A (execs body env) (FEnd h₀ env.locals s own I ps nn Q i) NoE { s with heap := h, toks := tk })
    (done : ∀ a u h tk, I xs.length a → Fr h₀ env.locals h (ovr (ps a) u) → News h₀ env.locals h (nn a) → Q .next { s with heap := h, toks := tk }) :
    wpAny (model PG w) A (pyIter (.ref l)) (fun it s₂ => codeAny (model PG w) A (.forLoop (.Name x px) it body [] env) (fun r s' => match r with | .ok f => Q f s' | .error e => cameBackBy (model PG w) A env NoE e s') s₂) NoE s := by
  have hlL := list_ne_L F hl
  obtain ⟨ol, hol, hcl, nl, hdl⟩ := id hl
  have hlt : l < s.heap.objs.size := Heap.lt_size hol
  have hne : l ≠ s.heap.objs.size := Nat.ne_of_lt hlt
  have hJ : s.heap.get? s.heap.objs.size = none := by
    cases e : s.heap.get? s.heap.objs.size with
    | none => rfl
    | some o => exact absurd (Heap.lt_size e) (Nat.lt_irrefl _)
  refine wpAny_pyIter_list hl ?_
  have W := Drw.name (px := px) (Walks.list (prog := PG) (w := w) hh s.heap.objs.size l hne items) hx hp
  rw [ints_size ia] at W
  refine for_drw2 W I ps nn a₀ ?_ ?_ ?_ ?hcl ⟨⟨_, Heap.get?_push_size _ rfl, rfl, rfl⟩, hl.at fun o e => Heap.get?_push_of_some _ e⟩ (F.push _) (fun p hp => ⟨Heap.get?_push_of_some _ (N p hp).1, (N p hp).2⟩) hm hn hI ?_ done
  case hcl =>
    intro i a h p hp hb
    exact (hnn i a h).off N hp (by rw [List.mem_singleton.mp hb]; exact hJ)
  · intro hmem
    rcases List.mem_cons.mp hmem with e | hmem
    · exact absurd F.ns.lt (e ▸ Nat.lt_irrefl _)
    · exact hlL (List.mem_singleton.mp hmem).symm
  · intro b hb
    rw [List.mem_singleton.mp hb]
    exact next_is_new F
  · rintro i h o ⟨⟨o', e', c', _⟩, _⟩ b hb e
    rw [List.mem_singleton.mp hb, e'] at e
    cases e
    exact .inl c'
  · rintro i qs a u h tk own hi ⟨v, hv, rfl⟩ hI' ho1 ho2 F' N'
    obtain ⟨t, hi2, rfl⟩ := ints_item ia hv
    refine turn i t a u h tk own hi hI' F' (fun p hp => N' p ((List.mem_append.mp hp).elim (List.mem_append_right _) (List.mem_append_left _))) fun p hp => ?_
    rcases List.mem_cons.mp (ho1 p hp) with e | e
    · exact .inr ⟨ho2 p hp (by rw [e]; exact .head _), by rw [e]; exact hJ⟩
    · exact .inl (List.mem_singleton.mp e)
theorem iter_range3 {α : Type} {x : Str} {px : Pos} {body : List Stmt} {Q : Flow → Shared → Prop} {r : Addr} {b₀ : Int} {n : Nat} {t₀ u₀ v₀ : Tok} (hh : A.handled = none) (hr : IsRange s.heap r 0 b₀ 1 t₀ u₀ v₀) (hb : b₀ = (n : Int)) (hsm : n < 1000000) (hx : env.kindOf x = some .local)
    (hp : (env.scope.kind == .class || (env.scope.kind == .module && env.locals != env.globals)) = false)
    (I : Nat → α → Prop) (ps : α → List (Str × Value)) (nn : α → Ledger) (a₀ : α) (hnn : ∀ i a, I i a → Aside news (nn a))
    (F : Fr h₀ env.locals s.heap m) (N : News h₀ env.locals s.heap news) (hm : AllIn (ps a₀) m) (hn : SubL (nn a₀) news) (hI : I 0 a₀)
    (turn : ∀ i t a u h tk own, i < n → I i a → Fr h₀ env.locals h (fun y => if y = x then some (.int (i : Int) t) else ovr (ps a) u y) → News h₀ env.locals h (nn a ++ own) → (∀ p ∈ own, iterCls p.2 ∧ s.heap.get? p.1 = none) →
      wpAny (model PG w) A (execs body env) (FEnd h₀ env.locals s own I ps nn Q i) NoE { s with heap := h, toks := tk })
    (done : ∀ a u h tk, I n a → Fr h₀ env.locals h (ovr (ps a) u) → News h₀ env.locals h (nn a) → Q .next { s with heap := h, toks := tk }) :
    wpAny (model PG w) A (pyIter (.ref r)) (fun it s₂ => codeAny (model PG w) A (.forLoop (.Name x px) it body [] env) (fun r s' => match r with | .ok f => Q f s' | .error e => cameBackBy (model PG w) A env NoE e s') s₂) NoE s := by
  subst hb
  have hJ : s.heap.get? s.heap.objs.size = none := by
    cases e : s.heap.get? s.heap.objs.size with
    | none => rfl
    | some o => exact absurd (Heap.lt_size e) (Nat.lt_irrefl _)
  refine wpAny_pyIter_range hr (small_n n hsm) ?_
  have W0 : Walks PG w A s.heap.objs.size [s.heap.objs.size] [s.heap.objs.size] n (fun i v => i < n ∧ ∃ t, v = .int (0 + i * 1) t)
      (fun i h => IsRangeIter h s.heap.objs.size (0 + (i : Nat) * 1) ((n : Int) - (i : Nat)) 1) := (Walks.range hh _ 0 1 n).bound
  have W := Drw.name (px := px) W0 hx hp
  refine for_drw2 W I ps nn a₀ ?_ ?_ ?_ ?hcl (by show IsRangeIter _ _ _ _ _; rw [rsize_n]; simpa using Heap.get?_push_size _ rfl) (F.push _) (fun p hp => ⟨Heap.get?_push_of_some _ (N p hp).1, (N p hp).2⟩) hm hn hI ?_ done
  case hcl =>
    intro i a h p hp hb
    exact (hnn i a h).off N hp (by rw [List.mem_singleton.mp hb]; exact hJ)
  · intro hmem
    exact absurd F.ns.lt ((List.mem_singleton.mp hmem) ▸ Nat.lt_irrefl _)
  · intro b hb
    rw [List.mem_singleton.mp hb]
    exact next_is_new F
  · rintro i h o e' b hb e
    rw [List.mem_singleton.mp hb] at e
    have e'' : h.get? s.heap.objs.size = some _ := e'
    rw [e''] at e
    cases e
    exact .inr (.inl rfl)
  · rintro i qs a u h tk own hi ⟨v, ⟨_, t, rfl⟩, rfl⟩ hI' ho1 ho2 F' N'
    have e : (0 + (i : Int) * 1) = (i : Int) := by simp
    rw [e] at F'
    exact turn i t a u h tk own hi hI' F' (fun p hp => N' p ((List.mem_append.mp hp).elim (List.mem_append_right _) (List.mem_append_left _))) fun p hp => ⟨ho2 p hp (ho1 p hp), by rw [List.mem_singleton.mp (ho1 p hp)]; exact hJ⟩
/-- the keys that a store of the loop's may not touch -/
theorem off_at {h : Heap} {l c : Addr} {own : Ledger} {o : Obj} (hc : h.get? c = some o) (hl : l ≠ c) (ho : ∀ p ∈ own, p.1 = l ∨ (iterCls p.2 ∧ h.get? p.1 = none)) : ∀ p ∈ own, p.1 ≠ c := fun p hp e => by
  rcases ho p hp with q | q
  · exact hl (q ▸ e)
  · rw [← e, q.2] at hc; cases hc
theorem store_cell {E : Value → Shared → Prop} {x : Str} {v : Value} {c : Addr} {o : Obj} {v₀ : Option Value} {Q : Unit → Shared → Prop} {qual : Str} {cs : Scope} {cd : Value} {a : Addr}
    (F : Fr h₀ L s.heap m) (N : News h₀ L s.heap news) (hc : (cellsFrom (L + 1) cs.names []).lookup x = some c) (hm : (c, o) ∈ news) (hd : o.data = .cell v₀) (keep : Ledger) (hk : SubL keep news) (hne : ∀ p ∈ keep, p.1 ≠ c)
    (h : ∀ h' o', Fr h₀ L h' m → News h₀ L h' ((c, o') :: keep) → o'.data = .cell (some v) → Q () { s with heap := h' })
    (hkk : cs.kind = .function) (hx : (envOfC qual cs L a cd).kindOf x = some .cell) : wpAny (model PG w) A (storeName (envOfC qual cs L a cd) x v) Q E s := by
  have hmem := N (c, o) hm
  refine wpAny_storeName_cell hkk hx hc ⟨o, hmem.1, hd⟩ fun h' hv hs => ?_
  obtain ⟨o', ho', hd'⟩ := hv
  refine h h' o' ⟨F.ns.sameBut hs (Ne.symm hmem.2.1), fun b ob e => (hs.2 b (fun q => ?_)).trans (F.keep b ob e), F.above⟩ (fun p hp => ?_) hd'
  · rw [q, hmem.2.2] at e; cases e
  · rcases List.mem_cons.mp hp with rfl | hp
    · exact ⟨ho', hmem.2⟩
    · exact ⟨hs.extBut _ _ (hne p hp) (N p (hk p hp)).1, (N p (hk p hp)).2⟩
theorem halt_cell {M : Model} {E : Value → Shared → Prop} {x : Str} {v : Value} {Q : Unit → Shared → Prop} {env : Env} (hk : env.kindOf x = some .cell) (h : Halt (wpAny M A (storeName env x v) Q E s)) : wpAny M A (storeName env x v) Q E s := h
end


/-! the part W22 -/
noncomputable def lsmall (xs : List Int) : List Int := if gcdAll xs > 1 then zdiv xs (gcdAll xs) else xs
theorem gcdAll_nn (xs : List Int) : 0 ≤ gcdAll xs := by
  have : ∀ (l : List Int) (g : Int), 0 ≤ g → 0 ≤ l.foldl (fun g x => (Int.gcd g x : Int)) g := by
    intro l
    induction l with
    | nil => intro g h; exact h
    | cons x l ih => intro g _; exact ih _ (Int.natCast_nonneg _)
  exact this xs 0 (Int.le_refl _)
structure SmSt where
  v : Int
  t : Tok
  o : Obj
section
local macro_rules | `(tactic| walk_at "exec While Name") => `(tactic| refine halt ?_)
theorem small_row (w : World) {h : Heap} {xs : List Int} {a : Addr} (hx : LI h a xs) (hl : xs.length < 1000000) :
    Pure w 242 8 [.ref a] h (fun h' r => RetL h a h' r (lsmall xs)) := by
  unfold Pure
  k_fill
  intro mean mg mb dp un fr gd s Q X T hs hd hu hQ
  subst hs
  obtain ⟨its, La, ia⟩ := hx.isList
  ktr_call enterC [(Str.ofString "row", .ref a)]
  refine wpZ fun Zf hZf => ?_
  k_steps
  unfold Halt
  refine wpAny_For ?_ (fun _ => rfl)
  k_steps
  rename Fr _ _ _ _ => F0
  rename News _ _ _ _ => N0
  rename Obj.data _ = Data.cell (some (Value.int 0 _)) => d0
  rename_i L' _ _ _ _ _ _ _ _ _ o0 
  have hc0 := (N0 _ (.head _)).1
  have haL : a ≠ L' + 1 := by
    obtain ⟨oa, ea, _, na, da⟩ := La
    intro e
    have h1 := F0.keep _ _ ea
    rw [e, hc0] at h1
    have h3 := d0
    have h4 : o0 = oa := Option.some.inj h1
    rw [h4, da] at h3
    cases h3
  refine' iter_list3 (α := SmSt) rfl (La.at fun o e => F0.keep _ o e) ia rfl rfl (fun i t => t.o.data = .cell (some (.int t.v t.t)) ∧ t.v = gcdAll (xs.take i)) (fun t => [(Str.ofString "row", .ref a)]) (fun t => [(L' + 1, t.o)]) ⟨0, _, o0⟩ (fun i t _ => Aside.old (.head _) Aside.nil) F0 N0 ?hA ?hS ⟨d0, rfl⟩ ?turn ?done
  case hA => walk_at "m_all"
  case hS => walk_at "m_sub"
  case turn =>
    rintro i ti ⟨v, tv, o⟩ u h tk own hi ⟨hd1, hv⟩ F N hown
    dsimp only at hd1 hv N
    simp only [ovr] at F N
    refine wpZ fun Z hZ => ?_
    k_steps
    rename Fr _ _ _ _ => F1
    rename News _ _ _ _ => N1
    unfold Halt
    have hv0 : 0 ≤ v := by rw [hv]; exact gcdAll_nn _
    refine' while_ruleZ (α := Int × Tok × Int × Tok) (fun (x, tx, y, ty) => (Int.gcd x y : Int) = Int.gcd v (xs.getD i 0) ∧ 0 ≤ x ∧ 0 ≤ y) (fun (x, tx, y, ty) => y.toNat) (fun (x, tx, y, ty) => [(Str.ofString "one", .int x tx), (Str.ofString "other", .int y ty), (Str.ofString "row", .ref a)]) (fun _ => (L' + 1, o) :: own) (?_, ?_, ?_, ?_) F1 N1 ?hA2 ?hS2 ?hI2 ?turn2
    case hA2 => walk_at "m_all"
    case hS2 => exact SubL.tl SubL.refl
    case hI2 =>
      dsimp only
      refine ⟨?_, hv0, ?_⟩
      · split <;> simp
      · split <;> omega
    clear F1 N1
    rintro ⟨x, tx, y, ty⟩ Z2 hZ2 u h tk ⟨hg, hx', hy'⟩ F N
    simp only [ovr] at F N hg hx' hy'
    k_steps
    · have hy0 : y ≠ 0 := by assumption
      rename News _ _ _ _ => N2
      rename Fr _ _ _ _ => F2
      refine hZ2 _ _ ?_
      refine' WEnd.next (α := Int × Tok × Int × Tok) (?_, ?_, ?_, ?_) F2 N2 ?hA4 ?hS4 ?hI4 ?hμ
      case hA4 => walk_at "m_all"
      case hS4 => exact SubL.tl SubL.refl
      case hI4 => exact ⟨(gcd_step x y hy').trans hg, hy', (fmod_lt x y hy' hy0).1⟩
      case hμ => have := fmod_lt x y hy' hy0; show (x.fmod y).toNat < y.toNat; omega
    · have e : y = 0 := by assumption
      subst e
      rw [gcd_zero_r x hx'] at hg
      have hoff := off_at hc0 haL hown
      refine store_cell F N rfl (.head _) hd1 own (SubL.tl SubL.refl) hoff ?_ rfl rfl
      intro h9 o9 F9 N9 d9
      k_steps
      refine hZ _ _ ?_
      refine' FEnd.go (α := SmSt) ⟨x, _, o9⟩ F9 N9 ?hA3 ?hO3 ?hS3 ⟨d9, ?_⟩
      case hA3 => walk_at "m_all"
      case hO3 => exact SubL.tl SubL.refl
      case hS3 => first | exact SubL.refl | exact SubL.tl SubL.refl | exact SubL.tl (SubL.tl SubL.refl) | exact SubL.tl (SubL.tl (SubL.tl SubL.refl)) | exact SubL.cons (by k_mem) SubL.nil
      rw [gcdAll_take xs i hi, ← hv]; exact hg
  case done =>
    rintro ⟨v, tv, o⟩ u h tk ⟨hd1, hv⟩ F N
    dsimp only at hd1 hv N
    simp only [ovr] at F N
    rw [List.take_length] at hv
    subst hv
    k_steps
    · try refine hZ _ _ ?_
      try refine hZf _ _ ?_
      exact hQ _ _ _ (Fr.keep (by assumption)) (.inr (by unfold lsmall; rw [if_pos (by omega)]; exact fin_list (by assumption) (by k_mem) (by assumption)))
    · try refine hZ _ _ ?_
      try refine hZf _ _ ?_
      exact hQ _ _ _ (Fr.keep (by assumption)) (.inl ⟨rfl, by unfold lsmall; rw [if_neg (by omega)]; exact hx.keeps F.keep⟩)
end


/-! the part W23 -/
section
variable {w : World} {mean : ExcName → Option Value} {mg mb : Str → Option Value} {dp un : Nat} {fr : List Env} {gd : Option (List Code)} {s : Shared} {h₀ h h' : Heap} {L a : Addr} {m : Str → Option Value} {news : Ledger} {f : Addr} {D : Nat} {vs : List Value} {Q : Value → Shared → Prop}
theorem call_ret {ys : List Int} {its0 : Array Value} {n0 : Nat} (P : Pure w f D vs s.heap (fun h' r => RetL s.heap a h' r ys)) (X : (Mine.hd.heap_39 w.params).In h₀) (T : Tp mean mg mb h₀) (F : Fr h₀ L s.heap m) (N : News h₀ L s.heap news)
    (hm : (a, listOf its0 n0) ∈ news) (hd : dp + D < 800) (hu : un + 3 * D < 9000)
    (h : ∀ r its n h' tk', Fr h₀ L h' m → News h₀ L h' ((r, listOf its n) :: news) → IntsAre its.toList ys → (r = a ∨ ∀ p ∈ news, p.1 ≠ r) → Q (.ref r) { s with heap := h', toks := tk' }) :
    wpAny (model PySem.Challenge.rw_pq0216_01.row.prog w) (Ar dp un fr gd) (call (.ref f) vs) Q NoE s :=
  P mean mg mb dp un fr gd s Q (X.keeps F.keep) (T.keeps F.keep) rfl hd hu fun r h' tk' k hp => by
    rcases hp with ⟨rfl, its, n, e, i⟩ | ⟨r, rfl, hn, its, n, hg, hi⟩
    · exact h a its n h' tk' (F.keeps k) (fun p hp => by
        rcases List.mem_cons.mp hp with rfl | hp
        · exact ⟨e, (N _ hm).2⟩
        · exact news_grown N k p hp) i (.inl rfl)
    · exact h r its n h' tk' (F.keeps k) (news_new F N k hn hg) hi (.inr (none_news N hn))
end
section
variable {w : World} {A : Around} {s : Shared} {h₀ : Heap} {L : Addr} {m : Str → Option Value} {news : Ledger} {env : Env}
theorem enum_comp_assign3 {elt iter : Expr} {scope : Scope} {cl : List (Str × Addr)} {pos py : Pos} {yn : Str} {R : Shared → Prop} {xi xc : Str} {pk pv pt : Pos} {x1 : Nat} {l : Addr} {items : Array Value} {xs : List Int} (hh : A.handled = none) (hl : s.heap.IsList l items) (ia : IntsAre items.toList xs) (hsz : xs.length < 1000000)
    (hL : env.locals = L) (hy : env.kindOf yn = some .local) (hp : (env.scope.kind == .class || (env.scope.kind == .module && env.locals != env.globals)) = false)
    (hxi : scope.names.lookup xi = some .local) (hxc : scope.names.lookup xc = some .local) (hne : xc ≠ xi) (hcell : ∀ y ∈ scope.names, y.2 ≠ .cell) (hkind : scope.kind = .function)
    (F : Fr h₀ L s.heap m) (N : News h₀ L s.heap news) (f : Nat → Int)
    (turn : ∀ (s' : Shared), (∃ g tk, s' = { s with heap := g, toks := tk }) → ∀ i t tx C oC m₂ D ys h tk own, i < xs.length → NsObj oC m₂ → m₂ xc = some (.int (xs.getD i 0) tx) → m₂ xi = some (.int (i : Int) t) → Fr h₀ L h m → News h₀ L h ((C, oC) :: (D, lst ys) :: (own ++ news)) →
      wpAny (model PG w) A (eval elt (compEnvC scope cl C env)) (fun y s₄ => ∃ h' tk' ty, s₄ = { s' with heap := h', toks := tk' } ∧ y = .int (f i) ty ∧ Fr h₀ L h' m ∧ News h₀ L h' ((C, oC) :: (D, lst ys) :: (own ++ news))) NoE { s' with heap := h, toks := tk })
    (fin : ∀ D h tk ys, Fr h₀ L h (fun z => if z = yn then some (.ref D) else m z) → News h₀ L h ((D, lst ys) :: news) → (∀ p ∈ news, p.1 ≠ D) → IntsAre ys ((List.range xs.length).map f) → R { s with heap := h, toks := tk }) :
    wpAny (model PG w) A (call (.type "enumerate") [.ref l]) (fun xv s₁ => wpAny (model PG w) A (pyIter xv) (fun it s₂ => CompGo w A (.ListComp elt [⟨.Tuple [.Name xi pk, .Name xc pv] x1 pt, iter, [], 0⟩] scope pos) scope cl env (some (assign (.Name yn py) env)) (fun _ s' => R s') it s₂) NoE s₁) NoE s :=
  enum_comp_assign (Q := fun _ s' => R s') hh hl ia hsz hL hy hp hxi hxc hne hcell hkind F N f turn fin
end
noncomputable def lrRow (a b : List Int) : List Int := (List.range a.length).map fun i => a.getD i 0 * lead b - (if a.length - b.length ≤ i then lead a * b.getD (i - (a.length - b.length)) 0 else 0)
noncomputable def lrStep (a b : List Int) : List Int := lsmall (trim (lrRow a b))
noncomputable def lrLoop (b : List Int) : Nat → List Int → List Int
  | 0, a => a
  | n + 1, a => if b.length ≤ a.length then lrLoop b n (lrStep a b) else a
noncomputable def lrest (a b : List Int) : List Int := lrLoop b (a.length + 1) a
noncomputable def lrOk (b : List Int) : Nat → List Int → Prop
  | 0, _ => True
  | n + 1, a => b.length ≤ a.length → Bd a ∧ Small (lead b) ∧ lrOk b n (lrStep a b)
theorem lsmall_len (p : List Int) : (lsmall p).length = p.length := by
  unfold lsmall; split
  · exact zdiv_len _ _
  · rfl
theorem lrRow_len (a b : List Int) : (lrRow a b).length = a.length := by unfold lrRow; simp
theorem lrRow_last {a b : List Int} (hb : 0 < b.length) (hl : b.length ≤ a.length) : ∀ i, a.length - 1 ≤ i → (lrRow a b).getD i 0 = 0 := by
  intro i hi
  unfold lrRow
  by_cases h : i < a.length
  · have e : i = a.length - 1 := by omega
    simp only [List.getD_eq_getElem?_getD, List.getElem?_map, List.getElem?_range h, Option.map_some, Option.getD_some]
    rw [if_pos (by omega)]
    unfold lead
    subst e
    rw [show a.length - 1 - (a.length - b.length) = b.length - 1 by omega]
    simp only [List.getD_eq_getElem?_getD]
    omega
  · simp [List.getD_eq_getElem?_getD, h]
theorem lrStep_len {a b : List Int} (hb : 0 < b.length) (hl : b.length ≤ a.length) : (lrStep a b).length < a.length := by
  unfold lrStep
  rw [lsmall_len]
  have := trim_len_le (lrRow a b) (a.length - 1) (lrRow_last hb hl)
  omega
theorem small_zero : Small 0 := ⟨1, by decide, by decide⟩
theorem bd_getD {xs : List Int} (h : Bd xs) (j : Nat) : Small (xs.getD j 0) := by
  rw [List.getD_eq_getElem?_getD]
  cases e : xs[j]? with
  | none => exact small_zero
  | some x => exact h x (List.mem_of_getElem? e)
theorem lead_small {xs : List Int} (h : Bd xs) : Small (lead xs) := bd_getD h _
structure LrSt where
  xs : List Int
  r : Addr
  its : Array Value
  n : Nat
  ot : Obj
  ol : Obj
  ex : Ledger
  k : Nat
section
local macro_rules | `(tactic| walk_at "m_bits") => `(tactic| first | exact bd_getD (by assumption) _ | exact lead_small (by assumption))
local macro_rules | `(tactic| walk_at "storeName") => `(tactic| (with_reducible refine halt_cell (by rfl) ?_))
theorem rest_ok (w : World) {h : Heap} {xs ys : List Int} {a b : Addr} (hx : LI h a xs) (hy : LI h b ys) (hl : xs.length < 1000) (hl2 : ys.length < 1000) (hy0 : 0 < ys.length) (hb : Bd ys) (hok : lrOk ys (xs.length + 1) xs) :
    Pure w 237 12 [.ref a, .ref b] h (fun h' r => NewL h h' r (lrest xs ys)) := by
  unfold Pure
  k_fill
  intro mean mg mb dp un fr gd s Q X T hs hd hu hQ
  subst hs
  obtain ⟨itsa, La, ia⟩ := hx.isList
  obtain ⟨itsb, Lb, ib⟩ := hy.isList
  ktr_call enterC [(Str.ofString "a", .ref a), (Str.ofString "b", .ref b)]
  refine wpZ fun Zf hZf => ?_
  k_steps
  rename Fr _ _ _ _ => F0
  rename News _ _ _ _ => N0
  unfold Halt
  rename_i L' hh1 tkk _ _ _ _ ol ot ob d1 d2 d3 r0 n0 hh2 l1 hh3
  have db : ob.data = .cell (some (.ref b)) := d3
  have hlt3 : L' + 1 + 1 + 1 < r0 ∧ L' + 1 + 1 < r0 ∧ L' + 1 < r0 := l1
  refine' while_ruleZ (α := LrSt) (fun t => IntsAre t.its.toList t.xs ∧ t.xs.length ≤ xs.length ∧ (∃ v, t.ot.data = .cell v) ∧ (∃ v, t.ol.data = .cell v) ∧ (∀ p ∈ (t.r, listOf t.its t.n) :: t.ex, p.1 ≠ L' + 1 ∧ p.1 ≠ L' + 1 + 1 ∧ p.1 ≠ L' + 1 + 1 + 1) ∧ t.xs.length < t.k ∧ lrLoop ys t.k t.xs = lrest xs ys ∧ lrOk ys t.k t.xs)
    (fun t => t.xs.length) (fun t => [(Str.ofString "a", .ref t.r)]) (fun t => (t.r, listOf t.its t.n) :: (L' + 1, ob) :: (L' + 1 + 1, t.ot) :: (L' + 1 + 1 + 1, t.ol) :: t.ex)
    ⟨xs, r0, itsa, n0, ot, ol, [], xs.length + 1⟩ F0 N0 ?hA ?hS ?hI ?turn
  case hA => walk_at "m_all"
  case hS => first | exact SubL.refl | exact SubL.tl SubL.refl | exact SubL.tl (SubL.tl SubL.refl) | exact SubL.tl (SubL.tl (SubL.tl SubL.refl)) | exact SubL.cons (by k_mem) (SubL.cons (by k_mem) (SubL.cons (by k_mem) (SubL.cons (by k_mem) SubL.nil)))
  case hI =>
    refine ⟨ia, Nat.le_refl _, ⟨_, d2⟩, ⟨_, d1⟩, ?_, Nat.lt_succ_self _, rfl, hok⟩
    intro p hp
    rw [List.mem_singleton.mp hp]
    exact ⟨Nat.ne_of_gt hlt3.2.2, Nat.ne_of_gt hlt3.2.1, Nat.ne_of_gt hlt3.1⟩
  clear F0 N0
  rintro ⟨as, r, its, n, ot', ol', ex, k⟩ Z hZ u h tk ⟨hi, hlen, ⟨v1, hd1⟩, ⟨v2, hd2⟩, hex, hk, hrun, hlok⟩ F N
  simp only [ovr] at F N hi hlen hd1 hd2 hex hk hrun hlok
  obtain ⟨k, rfl⟩ : ∃ j, k = j + 1 := ⟨k - 1, by omega⟩
  have hr := hex (r, listOf its n) (.head _)
  have hex' : ∀ p ∈ ex, p.1 ≠ L' + 1 ∧ p.1 ≠ L' + 1 + 1 ∧ p.1 ≠ L' + 1 + 1 + 1 := fun p hp => hex p (.tail _ hp)
  have n12 : L' + 1 ≠ L' + 1 + 1 := Nat.ne_of_lt (Nat.lt_succ_self _)
  have n23 : L' + 1 + 1 ≠ L' + 1 + 1 + 1 := Nat.ne_of_lt (Nat.lt_succ_self _)
  have n13 : L' + 1 ≠ L' + 1 + 1 + 1 := Nat.ne_of_lt (Nat.lt_succ_of_lt (Nat.lt_succ_self _))
  k_steps
  · have hle : ys.length ≤ as.length := by omega
    obtain ⟨hbd, hsl, hlok'⟩ := hlok hle
    rename Fr _ _ _ _ => F1
    rename News _ _ _ _ => N1
    refine store_cell F1 N1 rfl (by k_mem) hd1 ((r, listOf its n) :: (L' + 1, ob) :: (L' + 1 + 1 + 1, ol') :: ex) (SubL.cons (by k_mem) (SubL.cons (by k_mem) (SubL.cons (by k_mem) (by walk_at "m_own")))) (List.forall_mem_cons.mpr ⟨hr.2.1, List.forall_mem_cons.mpr ⟨n12, List.forall_mem_cons.mpr ⟨n23.symm, fun p hp => (hex' p hp).2.1⟩⟩⟩) ?_ rfl rfl
    intro h2 o2 F2 N2 e2
    k_steps
    refine store_cell F2 N2 rfl (by k_mem) hd2 ((r, listOf its n) :: (L' + 1, ob) :: (L' + 1 + 1, o2) :: ex) (SubL.cons (by k_mem) (SubL.cons (by k_mem) (SubL.cons (by k_mem) (by walk_at "m_own")))) (List.forall_mem_cons.mpr ⟨hr.2.2, List.forall_mem_cons.mpr ⟨n13, List.forall_mem_cons.mpr ⟨n23, fun p hp => (hex' p hp).2.2⟩⟩⟩) ?_ rfl rfl
    intro h3 o3 F3 N3 e3
    k_steps
    unfold Halt
    refine comp_assign (cl := [(Str.ofString "top", L' + 1 + 1), (Str.ofString "low", L' + 1 + 1 + 1), (Str.ofString "b", L' + 1)]) rfl rfl rfl (by decide) ?_ (fun _ => rfl)
    rw [lead_eq] at e2
    k_steps
    unfold Halt
    rename Fr _ _ _ _ => F4
    rename News _ _ _ _ => N4
    refine enum_comp_assign3 rfl (News.isList N4 (by k_mem)) hi (by omega) rfl rfl rfl rfl rfl (by decide) (by decide) rfl F4 N4 (fun i => as.getD i 0 * lead ys - (if as.length - ys.length ≤ i then lead as * ys.getD (i - (as.length - ys.length)) 0 else 0)) ?turn2 ?fin2
    case turn2 =>
      clear F4 N4
      intro s' hs' i t tx C oC m₂ D zs h tk own hi2 hoC hm1 hm2 F N
      replace N := news_sub (news' := (C, oC) :: (D, lst zs) :: (L' + 1, ob) :: (L' + 1 + 1, o2) :: (L' + 1 + 1 + 1, o3) :: (r, listOf its n) :: (ex ++ own)) N (by intro p hp; simp only [List.mem_cons, List.mem_append] at hp ⊢; grind)
      have hback : ∀ p ∈ ((C, oC) :: (D, lst zs) :: (own ++ ((L' + 1 + 1 + 1, o3) :: (r, listOf its n) :: (L' + 1, ob) :: (L' + 1 + 1, o2) :: ex))), p ∈ ((C, oC) :: (D, lst zs) :: (L' + 1, ob) :: (L' + 1 + 1, o2) :: (L' + 1 + 1 + 1, o3) :: (r, listOf its n) :: (ex ++ own)) := by
        intro p hp; simp only [List.mem_cons, List.mem_append] at hp ⊢; grind
      have el := lead_eq ys
      have e0 : ∀ z : Int, z = (if as.length - ys.length ≤ i then lead as * ys.getD (i - (as.length - ys.length)) 0 else 0) → as.getD i 0 * ys.getD (-1 + (ys.length : Int)).toNat 0 - z = as.getD i 0 * lead ys - (if as.length - ys.length ≤ i then lead as * ys.getD (i - (as.length - ys.length)) 0 else 0) := fun z hz => by rw [el, hz]
      k_steps
      · exact congrArg (fun z => Value.int z _) (e0 (lead as * ys.getD ((i : Int) - ((as.length : Int) - (ys.length : Int))).toNat 0) (by rw [if_pos (by omega)]; congr 2; omega))
      · exact F
      · exact news_sub N hback
      · exact congrArg (fun z => Value.int z _) (e0 0 (by rw [if_neg (by omega)]))
      · exact F
      · exact news_sub N hback
    case fin2 =>
      clear F4 N4
      intro D h tk zs F N off hI
      have hoD := off
      k_steps
      have hlr : (lrRow as ys).length = as.length := lrRow_len _ _
      refine call_ret (a := D) (trim_row w (xs := lrRow as ys) (LI.ofNews (by assumption) (by k_mem) hI) (by omega)) X T (by assumption) (by assumption) (by k_mem) (by omega) (by omega) ?_
      intro r1 its1 n1 h1' tk1 F5 N5 i5 ne5
      try dsimp only
      k_steps
      have hlt : (trim (lrRow as ys)).length < as.length := by have := lrStep_len hy0 hle; unfold lrStep at this; rw [lsmall_len] at this; exact this
      refine call_ret (a := r1) (small_row w (xs := trim (lrRow as ys)) (LI.ofNews (by assumption) (by k_mem) i5) (by omega)) X T (by assumption) (by assumption) (by k_mem) (by omega) (by omega) ?_
      intro r2 its2 n2 h2' tk2 F6 N6 i6 ne6
      try dsimp only
      k_steps
      have cD : D ≠ L' + 1 ∧ D ≠ L' + 1 + 1 ∧ D ≠ L' + 1 + 1 + 1 := ⟨(hoD (L' + 1, ob) (by k_mem)).symm, (hoD (L' + 1 + 1, o2) (by k_mem)).symm, (hoD (L' + 1 + 1 + 1, o3) (by k_mem)).symm⟩
      have c1 : r1 ≠ L' + 1 ∧ r1 ≠ L' + 1 + 1 ∧ r1 ≠ L' + 1 + 1 + 1 := by
        rcases ne5 with e | e
        · rw [e]; exact cD
        · exact ⟨(e (L' + 1, ob) (by k_mem)).symm, (e (L' + 1 + 1, o2) (by k_mem)).symm, (e (L' + 1 + 1 + 1, o3) (by k_mem)).symm⟩
      have c2 : r2 ≠ L' + 1 ∧ r2 ≠ L' + 1 + 1 ∧ r2 ≠ L' + 1 + 1 + 1 := by
        rcases ne6 with e | e
        · rw [e]; exact c1
        · exact ⟨(e (L' + 1, ob) (by k_mem)).symm, (e (L' + 1 + 1, o2) (by k_mem)).symm, (e (L' + 1 + 1 + 1, o3) (by k_mem)).symm⟩
      refine hZ _ _ ?_
      refine' WEnd.next (α := LrSt) ⟨lrStep as ys, r2, its2, n2, o2, o3, ex, k⟩ (by assumption) (by assumption) ?hA9 ?hS9 ?hI9 ?hμ9
      case hA9 => walk_at "m_all"
      case hS9 => first | exact SubL.refl | exact SubL.tl SubL.refl | exact SubL.tl (SubL.tl SubL.refl) | exact SubL.tl (SubL.tl (SubL.tl SubL.refl)) | exact SubL.cons (by k_mem) (SubL.cons (by k_mem) (SubL.cons (by k_mem) (SubL.cons (by k_mem) (by walk_at "m_own"))))
      case hI9 =>
        refine ⟨i6, ?_, ⟨_, e2⟩, ⟨_, e3⟩, List.forall_mem_cons.mpr ⟨c2, hex'⟩, ?_, ?_, hlok'⟩
        · have := lrStep_len hy0 hle; dsimp only; omega
        · have := lrStep_len hy0 hle; dsimp only; omega
        · dsimp only; rw [← hrun, lrLoop, if_pos hle]
      case hμ9 => exact lrStep_len hy0 hle
  · have hnle : ¬ ys.length ≤ as.length := by omega
    have e : lrest xs ys = as := by rw [← hrun, lrLoop, if_neg hnle]
    try refine hZ _ _ ?_
    try refine hZf _ _ ?_
    exact hQ _ _ _ F.keep (by rw [e]; exact fin_list N (.head _) hi)
end


/-! the part W24 -/
theorem lrLoop_len {b : List Int} (hb : 0 < b.length) : ∀ (n : Nat) (a : List Int), a.length < n → (lrLoop b n a).length < b.length
  | 0, _, h => absurd h (Nat.not_lt_zero _)
  | n + 1, a, h => by
    unfold lrLoop
    split
    · rename_i hl
      exact lrLoop_len hb n _ (by have := lrStep_len hb hl; omega)
    · rename_i hl; omega
theorem lrest_len {a b : List Int} (hb : 0 < b.length) : (lrest a b).length < b.length := lrLoop_len hb _ _ (Nat.lt_succ_self _)
noncomputable def lapLoop : Nat → List Int → List Int → Bool
  | 0, a, _ => decide (a.length = 1)
  | n + 1, a, b => if b = [] then decide (a.length = 1) else lapLoop n b (lrest a b)
noncomputable def lapart (a b : List Int) : Bool := lapLoop (b.length + 1) a b
noncomputable def lapOk : Nat → List Int → List Int → Prop
  | 0, _, _ => True
  | n + 1, a, b => b ≠ [] → Bd b ∧ lrOk b (a.length + 1) a ∧ lapOk n b (lrest a b)
structure LaSt where
  a : List Int
  b : List Int
  aa : Addr
  ba : Addr
  ex : Ledger
  k : Nat
theorem apart_ok (w : World) {h : Heap} {xs ys : List Int} {a b : Addr} (hx : LI h a xs) (hy : LI h b ys) (hl : xs.length < 1000) (hl2 : ys.length < 1000) (hok : lapOk (ys.length + 1) xs ys) :
    Pure w 249 20 [.ref a, .ref b] h (fun _ r => r = .bool (lapart xs ys)) := by
  unfold Pure
  k_fill
  intro mean mg mb dp un fr gd s Q X T hs hd hu hQ
  subst hs
  ktr_call enter [(Str.ofString "a", .ref a), (Str.ofString "b", .ref b)]
  refine wpZ fun Zf hZf => ?_
  k_steps
  rename Fr _ _ _ _ => F0
  rename News _ _ _ _ => N0
  unfold Halt
  refine' while_ruleZ (α := LaSt) (fun t => Lst s.heap t.ex t.aa t.a ∧ Lst s.heap t.ex t.ba t.b ∧ t.a.length < 1000 ∧ t.b.length < 1000 ∧ t.b.length < t.k ∧ lapLoop t.k t.a t.b = lapart xs ys ∧ lapOk t.k t.a t.b)
    (fun t => t.b.length) (fun t => [(Str.ofString "a", .ref t.aa), (Str.ofString "b", .ref t.ba)]) (fun t => t.ex) ⟨xs, ys, a, b, [], ys.length + 1⟩ F0 N0 ?hA ?hS ?hI ?turn
  case hA => walk_at "m_all"
  case hS => walk_at "m_sub"
  case hI => exact ⟨.inl hx, .inl hy, hl, hl2, Nat.lt_succ_self _, rfl, hok⟩
  clear F0 N0
  rintro ⟨as, bs, aa, ba, ex, k⟩ Z hZ u h tk ⟨hA, hB, hal, hbl, hk, hrun, hlok⟩ F N
  simp only [ovr] at F N hA hB hal hbl hk hrun hlok
  obtain ⟨k, rfl⟩ : ∃ j, k = j + 1 := ⟨k - 1, by omega⟩
  k_steps
  rename Fr _ _ _ _ => F1
  rename News _ _ _ _ => N1
  refine ne_LI (hB.li F1 N1 (SubL.tl SubL.refl)) (LI.ofNews (xs := []) N1 (.head _) .nil) (by units_room) ?_
  by_cases hbs : bs = []
  · rw [show (!decide (bs = [])) = false by simp [hbs]]
    have hLa := hA.li F1 N1 (SubL.tl SubL.refl)
    have e : lapart xs ys = decide (as.length = 1) := by rw [← hrun, lapLoop, if_pos hbs]
    k_steps
    try refine hZ _ _ ?_
    try refine hZf _ _ ?_
    refine hQ _ _ _ F1.keep ?_
    dsimp only
    rw [e]
    congr 1
    rw [Bool.eq_iff_iff]; simp; omega
  · rw [show (!decide (bs = [])) = true by simp [hbs]]
    have hb0 : 0 < bs.length := List.length_pos_iff.mpr hbs
    obtain ⟨hbd, hlr, hnext⟩ := hlok hbs
    k_steps
    refine call_listS (rest_ok w (xs := as) (ys := bs) (hA.li (by assumption) (by assumption) (SubL.tl SubL.refl)) (hB.li (by assumption) (by assumption) (SubL.tl SubL.refl)) hal hbl hb0 hbd hlr) X T (by assumption) (by assumption) (by omega) (by omega) ?_
    intro r1 its1 n1 h1 tk1 F2 N2 i2
    try dsimp only
    k_steps
    rename Fr _ _ _ _ => F3
    rename News _ _ _ _ => N3
    refine hZ _ _ ?_
    refine' WEnd.next (α := LaSt) ⟨bs, lrest as bs, ba, r1, (r1, listOf its1 n1) :: ex, k⟩ F3 N3 ?hA9 ?hS9 ?hI9 ?hμ9
    case hA9 => walk_at "m_all"
    case hS9 => first | exact SubL.refl | exact SubL.tl SubL.refl | exact SubL.tl (SubL.tl SubL.refl) | exact SubL.tl (SubL.tl (SubL.tl SubL.refl)) | exact SubL.cons (by k_mem) (by walk_at "m_own")
    case hI9 =>
      have hlt := lrest_len (a := as) hb0
      refine ⟨hB.mono (SubL.tl SubL.refl), .inr ⟨_, _, .head _, i2⟩, hbl, ?_, ?_, ?_, hnext⟩
      · dsimp only; omega
      · dsimp only; omega
      · dsimp only; rw [← hrun, lapLoop, if_neg hbs]
    case hμ9 => exact lrest_len hb0


/-! the part W25 -/
noncomputable def boxRow (xs : List Int) : List Int := (xs.take 20).map (fun x => (if x < 0 then -x else x).fmod 99991) ++ [(xs.length : Int) + 3]
noncomputable def NewBox (h h' : Heap) (r : Value) (xs : List Int) : Prop :=
  ∃ bx row its n, r = .ref bx ∧ BoxAt h' bx row ⟨(xs.length : Int) * 17 + 5, 0⟩ ∧ h'.get? row = some (listOf its n) ∧ IntsAre its.toList (boxRow xs) ∧ h.get? bx = none ∧ h.get? row = none ∧ row ≠ bx
/-- some list of ints -/
noncomputable def ILI (h : Heap) (a : Addr) (xs : List Int) : Prop := ∃ its : Array Value, h.IsList a its ∧ IntsAre its.toList xs
theorem ILI.keeps {h h' : Heap} {a : Addr} {xs : List Int} (H : ILI h a xs) (k : ∀ b o, h.get? b = some o → h'.get? b = some o) : ILI h' a xs :=
  let ⟨its, e, i⟩ := H; ⟨its, e.at fun o z => k _ o z, i⟩
theorem box_ok (w : World) {h : Heap} {xs : List Int} {a : Addr} (hx : ILI h a xs) (hl : xs.length < 1000) :
    Pure w 218 8 [.ref a] h (fun h' r => NewBox h h' r xs) := by
  unfold Pure
  k_fill
  intro mean mg mb dp un fr gd s Q X T hs hd hu hQ
  subst hs
  obtain ⟨its, La, ia⟩ := hx
  ktr_call enter [(Str.ofString "script", .ref a)]
  refine wpZ fun Zf hZf => ?_
  k_steps
  rename Fr _ _ _ _ => F9
  rename News _ _ _ _ => N9
  rename IntsAre _ (List.map _ _ ++ _) => hI
  rename (_ : Addr) < _ ∧ _ ∧ _ ∧ _ => lt
  have z1 := N9 _ (.head _)
  have z2 := N9 _ (.tail _ (.head _))
  try refine hZf _ _ ?_
  exact hQ _ _ _ F9.keep ⟨_, _, _, _, rfl, ⟨_, _, _, z1.1⟩, z2.1, hI, z1.2.2, z2.2.2, Nat.ne_of_lt lt.1⟩


/-! the part W26 -/
theorem Aside.sub {news l : Ledger} (h : SubL l news) : Aside news l := fun p hp => .inr ⟨p.2, h p hp⟩
noncomputable def box0 (xs : List Int) : Bx := ⟨(xs.length : Int) * 17 + 5, 0⟩
section
variable {w : World} {mean : ExcName → Option Value} {mg mb : Str → Option Value} {dp un : Nat} {fr : List Env} {gd : Option (List Code)} {s : Shared} {h₀ h h' : Heap} {L a : Addr} {m : Str → Option Value} {news : Ledger} {f : Addr} {D : Nat} {vs : List Value} {Q : Value → Shared → Prop}
theorem call_box {xs : List Int} (P : Pure w f D vs s.heap (fun h' r => NewBox s.heap h' r xs)) (X : (Mine.hd.heap_39 w.params).In h₀) (T : Tp mean mg mb h₀) (F : Fr h₀ L s.heap m) (N : News h₀ L s.heap news)
    (hd : dp + D < 800) (hu : un + 3 * D < 9000)
    (h : ∀ bx row its n t u n' h' tk', Fr h₀ L h' m → News h₀ L h' ((bx, listOf #[.int (box0 xs).x t, .ref row, .int ((box0 xs).c : Int) u] n') :: (row, listOf its n) :: news) → IntsAre its.toList (boxRow xs) → row ≠ bx → (∀ p ∈ news, p.1 ≠ bx ∧ p.1 ≠ row) → Q (.ref bx) { s with heap := h', toks := tk' }) :
    wpAny (model PySem.Challenge.rw_pq0216_01.row.prog w) (Ar dp un fr gd) (call (.ref f) vs) Q NoE s :=
  P mean mg mb dp un fr gd s Q (X.keeps F.keep) (T.keeps F.keep) rfl hd hu fun r h' tk' k hp => by
    obtain ⟨bx, row, its, n, rfl, ⟨t, u, n', hb⟩, hr, hi, hnb, hnr, hne⟩ := hp
    have N1 := news_new F N k hnr hr
    exact h bx row its n t u n' h' tk' (F.keeps k) (fun p hp => by
      rcases List.mem_cons.mp hp with rfl | hp
      · exact ⟨hb, none_L F hnb, none_old F hnb⟩
      · exact N1 p hp) hi hne (fun p hp => ⟨none_news N hnb p hp, none_news N hnr p hp⟩)
end
noncomputable def menu (i : Int) : Int := if i = 0 then 1 else if i = 1 then -1 else if i = 2 then 6 else -4
noncomputable def innerW (p : List Int) : Nat → List Int → List Int
  | 0, v => v
  | k + 1, v => if (k = 0 ∧ (innerW p k v).length + p.length < 9) ∨ (innerW p k v).length + p.length < 7 then times (innerW p k v) p else innerW p k v
noncomputable def nextB (ws : List Int) (b : Bx) : Bx := bstep ws (bn ws b (pieceN ws b + 2))
noncomputable def innerN (ws : List Int) (b : Bx) : Nat := (1 + (bval (nextB ws b)).fmod 2).toNat
noncomputable def outerW (ws : List Int) : Nat → Bx × List Int → Bx × List Int
  | 0, s => s
  | k + 1, s => (nextB ws (outerW ws k s).1, innerW (piece ws (outerW ws k s).1) (innerN ws (outerW ws k s).1) (outerW ws k s).2)
noncomputable def Pc (p : List Int) : Prop := 2 ≤ p.length ∧ p.length ≤ 3 ∧ (∀ x ∈ p, -3 ≤ x ∧ x ≤ 3) ∧ 1 ≤ lead p
noncomputable def Wh (w : List Int) : Prop := ∃ ps : List (List Int), (∀ p ∈ ps, Pc p) ∧ w = ps.foldl times [1] ∧ w.length ≤ 7
structure WhFacts : Prop where
  one : Wh [1]
  bd : ∀ w, Wh w → Bd w
  pos : ∀ w, Wh w → 0 < w.length
  pc : ∀ ws b, 0 < ws.length → Pc (piece ws b)
  step : ∀ w p, Wh w → Pc p → w.length + p.length < 9 → Wh (times w p) ∧ (times w p).length = w.length + p.length - 1
theorem Wh.le {w : List Int} (h : Wh w) : w.length ≤ 7 := let ⟨_, _, _, h⟩ := h; h
theorem pc_bd {p : List Int} (h : Pc p) : Bd p := fun x hx => by
  have := h.2.2.1 x hx
  exact ⟨2, by decide, by omega⟩
theorem inner_ok (W : WhFacts) {p v : List Int} (hp : Pc p) (hv : Wh v) : ∀ k, Wh (innerW p k v) ∧ v.length ≤ (innerW p k v).length ∧ (0 < k → v.length + p.length < 9 → 2 ≤ (innerW p k v).length)
  | 0 => ⟨hv, Nat.le_refl _, fun h => absurd h (Nat.lt_irrefl _)⟩
  | k + 1 => by
    obtain ⟨h1, h2, h3⟩ := inner_ok W hp hv k
    have hv0 := W.pos _ h1
    unfold innerW
    split
    · rename_i hc
      obtain ⟨h4, h5⟩ := W.step _ _ h1 hp (by rcases hc with hc | hc <;> omega)
      have := hp.1
      exact ⟨h4, by omega, fun _ _ => by omega⟩
    · rename_i hc
      refine ⟨h1, h2, fun _ hl => ?_⟩
      cases k with
      | zero =>
        exfalso; apply hc; left
        exact ⟨rfl, by simpa [innerW] using hl⟩
      | succ k => exact h3 (by omega) hl
theorem innerN_pos (ws : List Int) (b : Bx) : 0 < innerN ws b ∧ innerN ws b < 3 := by
  unfold innerN
  have h1 := Int.fmod_nonneg_of_pos (bval (nextB ws b)) (b := 2) (by decide)
  have h2 := Int.fmod_lt_of_pos (bval (nextB ws b)) (b := 2) (by decide)
  omega
theorem outer_ok (W : WhFacts) {ws : List Int} (hw : 0 < ws.length) (b : Bx) : ∀ k, Wh (outerW ws k (b, [1])).2 ∧ (k = 0 → (outerW ws k (b, [1])).2 = [1]) ∧ (0 < k → 2 ≤ (outerW ws k (b, [1])).2.length)
  | 0 => ⟨W.one, fun _ => rfl, fun h => absurd h (Nat.lt_irrefl _)⟩
  | k + 1 => by
    obtain ⟨h1, h2, h3⟩ := outer_ok W hw b k
    have hp := W.pc ws (outerW ws k (b, [1])).1 hw
    obtain ⟨h4, h5, h6⟩ := inner_ok W hp h1 (innerN ws (outerW ws k (b, [1])).1)
    refine ⟨h4, fun h => by omega, fun _ => ?_⟩
    show 2 ≤ (innerW _ _ _).length
    by_cases e : k = 0
    · refine h6 (innerN_pos _ _).1 ?_
      rw [h2 e]
      have := hp.2.1
      simp; omega
    · have := h3 (by omega); omega
structure LwSt where
  b : Bx
  wa : Addr
  its : Array Value
  n : Nat
  t : Tok
  u : Tok
  nb : Nat
structure LiSt where
  wa : Addr
  its : Array Value
  n : Nat
theorem boxRow_pos (xs : List Int) : 0 < (boxRow xs).length ∧ (boxRow xs).length ≤ 21 := by
  unfold boxRow; simp; omega


/-! the part W27 -/
noncomputable def CellV (o : Obj) : Prop := ∃ v, o.data = .cell v
section
variable {w : World} {A : Around} {s : Shared} {h₀ : Heap} {L : Addr} {m : Str → Option Value} {news : Ledger} {env : Env}
/-- a for over pairs whose names are cells -/
theorem pairs_cell {α : Type} {xi xc : Str} {pk pv' pt : Pos} {x1 : Nat} {body : List Stmt} {Q : Flow → Shared → Prop} {l c1 c2 : Addr} {items : Array Value} {nl : Nat} {prs : List (List Int × Nat)} {G : Addr → List Int → Prop} (hh : A.handled = none) (hl : s.heap.get? l = some (listOf items nl)) (ia : PairsG G s.heap items.toList prs)
    (hki : env.kindOf xi = some .cell) (hkc : env.kindOf xc = some .cell) (hk : env.scope.kind = .function) (hci : env.cells.lookup xi = some c1) (hcc : env.cells.lookup xc = some c2) (hne12 : c1 ≠ c2)
    (I : Nat → α → Prop) (ps : α → List (Str × Value)) (nn : α → Ledger) (a₀ : α) (oi oc : Obj) (hv1 : CellV oi) (hv2 : CellV oc) (hnn : ∀ i a, I i a → Aside news (nn a)) (hcl : ∀ i a, I i a → ∀ p ∈ nn a, p.1 ≠ c1 ∧ p.1 ≠ c2)
    (F : Fr h₀ env.locals s.heap m) (N : News h₀ env.locals s.heap news) (hm : AllIn (ps a₀) m) (hn : SubL ((c1, oi) :: (c2, oc) :: nn a₀) news) (hI : I 0 a₀)
    (turn : ∀ i t pa a u h tk own o1 o2, i < prs.length → G pa (prs.getD i ([], 0)).1 → I i a → Fr h₀ env.locals h (ovr (ps a) u) → News h₀ env.locals h ((c1, o1) :: (c2, o2) :: (nn a ++ own)) →
      o1.data = .cell (some (.ref pa)) → o2.data = .cell (some (.int ((prs.getD i ([], 0)).2 : Int) t)) → (∀ p ∈ own, p.1 ≠ c1 ∧ p.1 ≠ c2) →
      wpAny (model PG w) A (execs body env) (FEnd h₀ env.locals s own (fun i (z : α × Obj × Obj) => I i z.1 ∧ CellV z.2.1 ∧ CellV z.2.2) (fun z => ps z.1) (fun z => (c1, z.2.1) :: (c2, z.2.2) :: nn z.1) Q i) NoE { s with heap := h, toks := tk })
    (done : ∀ a u h tk o1 o2, I prs.length a → CellV o1 → CellV o2 → Fr h₀ env.locals h (ovr (ps a) u) → News h₀ env.locals h ((c1, o1) :: (c2, o2) :: nn a) → Q .next { s with heap := h, toks := tk }) :
    wpAny (model PG w) A (pyIter (.ref l)) (fun it s₂ => codeAny (model PG w) A (.forLoop (.Tuple [.Name xi pk, .Name xc pv'] x1 pt) it body [] env) (fun r s' => match r with | .ok f => Q f s' | .error e => cameBackBy (model PG w) A env NoE e s') s₂) NoE s := by
  have hL : s.heap.IsList l items := ⟨_, hl, rfl, nl, rfl⟩
  have hlL := list_ne_L F hL
  have hlt : l < s.heap.objs.size := Heap.lt_size hl
  have hne : l ≠ s.heap.objs.size := Nat.ne_of_lt hlt
  obtain ⟨ts, pv, i1, i2, i3, i4, i5⟩ := ia.lists
  have hsz : items.size = prs.length := by have := ia.length; simpa using this
  have hJ : s.heap.objs.size ∉ ts := fun hm => by obtain ⟨o, ho, _⟩ := i3 _ hm; exact Nat.lt_irrefl _ (Heap.lt_size ho)
  have hc1 := (N _ (hn _ (.head _))).1
  have hc2 := (N _ (hn _ (.tail _ (.head _)))).1
  have offc : ∀ (c : Addr) (o : Obj), s.heap.get? c = some o → CellV o → c ≠ s.heap.objs.size ∧ c ≠ l ∧ c ∉ ts := fun c o e ⟨v, hv⟩ => by
    refine ⟨Nat.ne_of_lt (Heap.lt_size e), fun q => ?_, fun q => ?_⟩
    · rw [q, hl] at e
      rw [← Option.some.inj e] at hv; cases hv
    · obtain ⟨o', ho', z, n, rfl⟩ := i3 _ q
      rw [ho'] at e
      rw [← Option.some.inj e] at hv; cases hv
  have oc1 := offc _ _ hc1 hv1
  have oc2 := offc _ _ hc2 hv2
  refine wpAny_pyIter_list hL ?_
  generalize hJe : s.heap.objs.size = J at *
  let fp : List Addr := J :: l :: ts
  have W := Walks.list (prog := PG) (w := w) hh J l hne items
  let St : Nat → Heap → Prop := fun i h => (h.IsListIter J l i ∧ h.IsList l items) ∧ ∀ (k : Nat) (t : Addr) (p : Value × Value), ts[k]? = some t → pv[k]? = some p → h.IsTuple t #[p.1, p.2]
  have hframe : ∀ i h h', St i h → (∀ b ∈ fp, ∀ o, h.get? b = some o → h'.get? b = some o) → St i h' := fun i h h' st hk => ⟨W.frame i h h' st.1 fun b hb o e => hk b (by
      rcases List.mem_cons.mp hb with rfl | hb
      · exact List.mem_cons_self
      · rw [List.mem_singleton.mp hb]; exact List.mem_cons_of_mem _ List.mem_cons_self) o e,
    fun k t p ht hp => (st.2 k t p ht hp).at fun o e => hk t (List.mem_cons_of_mem _ (List.mem_cons_of_mem _ (List.mem_of_getElem? ht))) o e⟩
  have fpc : ∀ b ∈ fp, b ≠ c1 ∧ b ≠ c2 := fun b hb => by
    rcases List.mem_cons.mp hb with rfl | hb
    · exact ⟨oc1.1.symm, oc2.1.symm⟩
    · rcases List.mem_cons.mp hb with rfl | hb
      · exact ⟨oc1.2.1.symm, oc2.2.1.symm⟩
      · exact ⟨fun q => oc1.2.2 (q ▸ hb), fun q => oc2.2.2 (q ▸ hb)⟩
  have hLf : env.locals ∉ fp := fun hmem => by
    rcases List.mem_cons.mp hmem with e | hmem
    · exact absurd F.ns.lt (by rw [hJe]; exact e ▸ Nat.lt_irrefl _)
    · rcases List.mem_cons.mp hmem with e | hmem
      · exact hlL e.symm
      · obtain ⟨o, ho, q, n, rfl⟩ := i3 _ hmem
        obtain ⟨oL, esL, epL, hL', hdL, _⟩ := F.ns
        rw [ho] at hL'
        rw [← Option.some.inj hL'] at hdL
        cases hdL
  have hJn : h₀.get? J = none := hJe ▸ next_is_new F
  have hJs : s.heap.get? J = none := by
    cases e : s.heap.get? J with
    | none => rfl
    | some o => exact absurd (Heap.lt_size e) (by rw [hJe]; exact Nat.lt_irrefl _)
  have hLJ : env.locals ≠ J := fun e => hLf (e ▸ .head _)
  have hLc1 : env.locals ≠ c1 := fun e => (N _ (hn _ (.head _))).2.1 e.symm
  have hLc2 : env.locals ≠ c2 := fun e => (N _ (hn _ (.tail _ (.head _)))).2.1 e.symm
  have hc1n : h₀.get? c1 = none := (N _ (hn _ (.head _))).2.2
  have hc2n : h₀.get? c2 = none := (N _ (hn _ (.tail _ (.head _)))).2.2
  have nnJ : ∀ i a, I i a → ∀ (h : Heap), h.IsListIter J l i → News h₀ env.locals h (nn a) → ∀ p ∈ nn a, p.1 ≠ J := fun i a hI h hit N' p hp e => by
    obtain ⟨o', e', c', _⟩ := hit
    have h1 := (N' p hp).1
    rw [e, e'] at h1
    exact (hnn i a hI).off N hp (by rw [e]; exact hJs) (.inl (Option.some.inj h1 ▸ c'))
  refine codeAny_forLoop_any
    (fun k s' => ∃ h' tk u a i o1 o2, s' = { s with heap := h', toks := tk } ∧ St i h' ∧ Fr h₀ env.locals h' (ovr (ps a) u) ∧ News h₀ env.locals h' ((c1, o1) :: (c2, o2) :: nn a) ∧ I i a ∧ CellV o1 ∧ CellV o2 ∧ i ≤ prs.length ∧ k = prs.length + 1 - i) ?_ (prs.length + 1)
    ⟨_, _, m, a₀, 0, oi, oc, rfl, ⟨⟨⟨_, hJe ▸ Heap.get?_push_size _ rfl, rfl, rfl⟩, hL.at fun o e => Heap.get?_push_of_some _ e⟩, fun k t p h1 h2 => (i4 k t p h1 h2).at fun o e => Heap.get?_push_of_some _ e⟩, (ovr_eq hm).symm ▸ F.push _, fun p hp => ⟨Heap.get?_push_of_some _ (N p (hn p hp)).1, (N p (hn p hp)).2⟩, hI, hv1, hv2, Nat.zero_le _, rfl⟩
  intro k s' hInv
  refine wpZE fun Zi Yi hZi => ?_
  obtain ⟨h', tk, u, a, i, o1, o2, rfl, hst', F', N', hI', hV1, hV2, hi, rfl⟩ := hInv
  have Nn : News h₀ env.locals h' (nn a) := fun p hp => N' p (.tail _ (.tail _ hp))
  have apJ := nnJ i a hI' h' hst'.1.1 Nn
  by_cases hlt : i < prs.length
  · have item : wpAny (model PG w) A (pyNext (.ref J)) (fun r s₁ => match r with
        | none => False
        | some v => wpAny (model PG w) A (letOwnedTupleGo (.Tuple [.Name xi pk, .Name xc pv'] x1 pt) (.ref J) v) (fun _ s₁' => wpAny (model PG w) A (assign (.Tuple [.Name xi pk, .Name xc pv'] x1 pt) env v) (fun _ s₂ =>
            wpAny (model PG w) A (execs body env) (FEnd h₀ env.locals s (ownOf h₀ fp s₂.heap) (fun i (z : α × Obj × Obj) => I i z.1 ∧ CellV z.2.1 ∧ CellV z.2.2) (fun z => ps z.1) (fun z => (c1, z.2.1) :: (c2, z.2.2) :: nn z.1) Q i) NoE s₂ ∧ St (i + 1) s₂.heap ∧ ∃ m₂, Fr h₀ env.locals s₂.heap m₂) NoE s₁') NoE s₁) NoE { s with heap := h', toks := tk } := by
      refine W.item i _ _ _ (by omega) hst'.1 fun v h₁ tk₁ hP hst₁ hk₁ => ?_
      obtain ⟨t, ht, rfl⟩ := i1 i v (by simpa using hP)
      obtain ⟨p, hpp⟩ : ∃ p, pv[i]? = some p := ⟨pv[i]'(by omega), List.getElem?_eq_getElem _⟩
      obtain ⟨pa, tkm, rfl, hG⟩ := i5 _ _ hpp
      have nJ : ∀ b, b ≠ J → b ∉ [J] := fun b hb h => hb (List.mem_singleton.mp h)
      have htu : ∀ (k : Nat) (t : Addr) (p : Value × Value), ts[k]? = some t → pv[k]? = some p → h₁.IsTuple t #[p.1, p.2] := fun k t p h1 h2 => (hst'.2 k t p h1 h2).at fun o e => hk₁ t o (nJ _ fun q => hJ (q ▸ List.mem_of_getElem? h1)) e
      dsimp only
      refine wpAny_letOwnedTupleGo_listiter hst₁.1 ?_
      refine wpAny_assign_Tuple hh (htu i t _ ht hpp) rfl rfl fun h₃ hx₃ => ?_
      replace hx₃ : Heap.ExtBut h₁.objs.size h₁ h₃ := hx₃
      have up₃ : ∀ b o, h₁.get? b = some o → h₃.get? b = some o := fun b o x => hx₃ b o (Nat.ne_of_lt (Heap.lt_size x)) x
      have hn₃ : h₃.Ns env.locals (ovr (ps a) u) := F'.ns.at' fun o e => up₃ _ o (hk₁ _ o (nJ _ hLJ) e)
      have g1 : h₃.get? c1 = some o1 := up₃ _ _ (hk₁ _ _ (nJ _ oc1.1) (N' (c1, o1) (.head _)).1)
      have g2 : h₃.get? c2 = some o2 := up₃ _ _ (hk₁ _ _ (nJ _ oc2.1) (N' (c2, o2) (.tail _ (.head _))).1)
      show wpAny _ A (do holding [Value.int ((prs.getD i ([], 0)).2 : Int) tkm] (assign (.Name xi pk) env (.ref pa)); do holding [] (assign (.Name xc pv') env (.int ((prs.getD i ([], 0)).2 : Int) tkm)); pure ()) _ _ _
      obtain ⟨w1, hw1⟩ := hV1
      obtain ⟨w2, hw2⟩ := hV2
      refine wpAny_bind (wpAny_holding (wpAny_assign_Name (wpAny_storeName_cell hk hki hci ⟨o1, g1, hw1⟩ (fun h₄ hv₄ hs₄ => ?_))))
      have g2' : h₄.get? c2 = some o2 := hs₄.extBut _ _ hne12.symm g2
      refine wpAny_bind (wpAny_holding (wpAny_assign_Name (wpAny_storeName_cell hk hkc hcc ⟨o2, g2', hw2⟩ (fun h₅ hv₅ hs₅ => wpAny_pure ?_))))
      obtain ⟨o1', ge1, hd1⟩ := hv₄
      obtain ⟨o2', ge2, hd2⟩ := hv₅
      have ge1' : h₅.get? c1 = some o1' := hs₅.extBut _ _ hne12 ge1
      have up : ∀ b o, b ≠ c1 → b ≠ c2 → h₁.get? b = some o → h₅.get? b = some o := fun b o h1 h2 e => hs₅.extBut b o h2 (hs₄.extBut b o h1 (up₃ b o e))
      have hst₅ : St (i + 1) h₅ := hframe _ h₁ _ ⟨hst₁, htu⟩ fun b hb o e => up b o (fpc b hb).1 (fpc b hb).2 e
      have hn₅ : h₅.Ns env.locals (ovr (ps a) u) := (hn₃.sameBut hs₄ hLc1).sameBut hs₅ hLc2
      have F₅ : Fr h₀ env.locals h₅ (ovr (ps a) u) := ⟨hn₅, fun b o e => up b o (fun q => by rw [q, hc1n] at e; cases e) (fun q => by rw [q, hc2n] at e; cases e) (hk₁ b o (nJ _ fun q => by rw [q, hJn] at e; cases e) (F'.keep b o e)), F'.above⟩
      have Nown : News h₀ env.locals h₅ (ownOf h₀ fp h₅) := news_ownOf hLf
      have N₅ : News h₀ env.locals h₅ ((c1, o1') :: (c2, o2') :: (nn a ++ ownOf h₀ fp h₅)) := fun p hp => by
        rcases List.mem_cons.mp hp with rfl | hp
        · exact ⟨ge1', hLc1.symm, hc1n⟩
        · rcases List.mem_cons.mp hp with rfl | hp
          · exact ⟨ge2, hLc2.symm, hc2n⟩
          · rcases List.mem_append.mp hp with hp | hp
            · exact ⟨up _ _ (hcl i a hI' p hp).1 (hcl i a hI' p hp).2 (hk₁ _ _ (nJ _ (apJ p hp)) (Nn p hp).1), (Nn p hp).2⟩
            · exact Nown p hp
      exact ⟨turn i tkm pa a u h₅ _ (ownOf h₀ fp h₅) o1' o2' hlt hG hI' F₅ N₅ hd1 hd2 (fun p hp => fpc _ (ownOf_sub p hp)), hst₅, _, F₅⟩
    refine wpAny_mono item (fun r s₁ h₁ => ?_) fun _ _ e => e.elim
    refine hZi _ _ ?_
    cases r with
    | none => exact h₁.elim
    | some v =>
      refine wpAny_mono h₁ (fun _ s₁' h₁' => ?_) fun _ _ e => e.elim
      refine wpAny_mono h₁' (fun _ s₂ h₂ => ?_) fun _ _ e => e.elim
      refine wpZE fun Zj Yj hZj => ?_
      obtain ⟨h₂, hst₁, m₂, F₁⟩ := h₂
      refine wpAny_mono h₂ (fun f s₃ h₃ => ?_) fun _ _ e => e.elim
      refine hZj _ _ ?_
      have fin : (∃ (a' : α × Obj × Obj) (h' : Heap) (tk : Nat) (m' : Str → Option Value) (nx : Ledger), s₃ = { s with heap := h', toks := tk } ∧ Fr h₀ env.locals h' m' ∧ News h₀ env.locals h' nx ∧ AllIn (ps a'.1) m' ∧ SubL (ownOf h₀ fp s₂.heap) nx ∧ SubL ((c1, a'.2.1) :: (c2, a'.2.2) :: nn a'.1) nx ∧ (I (i + 1) a'.1 ∧ CellV a'.2.1 ∧ CellV a'.2.2)) →
          ∃ k', k' < prs.length + 1 - i ∧ ∃ h' tk u a i o1 o2, s₃ = { s with heap := h', toks := tk } ∧ St i h' ∧ Fr h₀ env.locals h' (ovr (ps a) u) ∧ News h₀ env.locals h' ((c1, o1) :: (c2, o2) :: nn a) ∧ I i a ∧ CellV o1 ∧ CellV o2 ∧ i ≤ prs.length ∧ k' = prs.length + 1 - i := by
        rintro ⟨⟨a', z1, z2⟩, h₃', tk₃, m', nx, rfl, F₃, N₃, hm₃, ho₃, hn₃, hI₃, hz1, hz2⟩
        refine ⟨prs.length + 1 - (i + 1), by omega, h₃', tk₃, m', a', i + 1, z1, z2, rfl, ?_, (ovr_eq hm₃).symm ▸ F₃, news_sub N₃ hn₃, hI₃, hz1, hz2, hlt, rfl⟩
        refine hframe _ _ _ hst₁ fun b hb o e => ?_
        cases hn : h₀.get? b with
        | some o₀ =>
          have : o₀ = o := by have := F₁.keep b o₀ hn; rw [e] at this; exact (Option.some.inj this).symm
          exact this ▸ F₃.keep b o₀ hn
        | none => exact (N₃ _ (ho₃ _ (mem_ownOf hb hn e))).1
      cases f with
      | ret v => exact h₃
      | brk => exact h₃
      | cont => exact fin h₃
      | next => exact fin h₃
  · have hin : i = prs.length := by omega
    subst hin
    have hLJ' : env.locals ∉ [J] := fun h => hLJ (List.mem_singleton.mp h)
    have dn : wpAny (model PG w) A (pyNext (.ref J)) (fun r s₁ => r = none ∧ Q .next s₁) NoE { s with heap := h', toks := tk } := by
      refine W.done _ _ _ (by rw [hsz]; exact hst'.1) fun h₁ tk₁ hk₁ => ⟨rfl, ?_⟩
      refine done a u h₁ tk₁ o1 o2 hI' hV1 hV2 ⟨F'.ns.at' fun o e => hk₁ _ o hLJ' e, fun b o e => hk₁ b o (fun q => by rw [List.mem_singleton.mp q, hJn] at e; cases e) (F'.keep b o e), F'.above⟩ fun p hp => ⟨hk₁ _ _ (fun q => ?_) (N' p hp).1, (N' p hp).2⟩
      have q := List.mem_singleton.mp q
      rcases List.mem_cons.mp hp with rfl | hp
      · exact oc1.1 q
      · rcases List.mem_cons.mp hp with rfl | hp
        · exact oc2.1 q
        · exact apJ p hp q
    refine wpAny_mono dn (fun r s₁ h₁ => ?_) fun _ _ e => e.elim
    obtain ⟨rfl, h₁⟩ := h₁
    refine hZi _ _ ?_
    exact wpAny_execs_nil h₁
end


/-! the part W28 -/
section
variable {w : World} {A : Around} {s : Shared} {h₀ : Heap} {L : Addr} {m : Str → Option Value} {news : Ledger} {env : Env}
abbrev PTurn {α : Type} (w : World) (A : Around) (s : Shared) (h₀ : Heap) (L : Addr) (m : Str → Option Value) (env : Env) (elt : Expr) (ifs : List Expr) (scope : Scope) (cl : List (Str × Addr)) (xi xc : Str) (prs : List (List Int × Nat)) (G : Addr → List Int → Prop) (I : Nat → List Value → α → Prop) (nn : α → Ledger) : Prop :=
  ∀ i t pa ys a C oC m₂ D h tk own, i < prs.length → G pa (prs.getD i ([], 0)).1 → I i ys a → NsObj oC m₂ → m₂ xi = some (.ref pa) → m₂ xc = some (.int ((prs.getD i ([], 0)).2 : Int) t) → Fr h₀ L h m → News h₀ L h ((C, oC) :: (D, lst ys) :: (nn a ++ own)) →
      wpAny (model PG w) A (forIn ifs true fun c r => if r = true then do let ok ← isTrue c (compEnvC scope cl C env) (eval c (compEnvC scope cl C env)); pure (ForInStep.yield ok) else pure (ForInStep.yield r)) (fun ok s₃ =>
        if ok = true then wpAny (model PG w) A (eval elt (compEnvC scope cl C env)) (fun y s₄ => CEnd h₀ L m s ((C, oC) :: (D, lst ys) :: own) (I (i + 1)) nn (ys ++ [y]) s₄) NoE s₃
        else CEnd h₀ L m s ((C, oC) :: (D, lst ys) :: own) (I (i + 1)) nn ys s₃) NoE { s with heap := h, toks := tk }
theorem pairs_setup {α : Type} {elt : Expr} {ifs : List Expr} {scope : Scope} {cl : List (Str × Addr)} {xi xc : Str} {pk pv' pt : Pos} {x1 : Nat} {l : Addr} {items : Array Value} {nl : Nat} {prs : List (List Int × Nat)} {G : Addr → List Int → Prop}
    (hh : A.handled = none) (hl : s.heap.get? l = some (listOf items nl)) (ia : PairsG G s.heap items.toList prs) (hsm : prs.length < 1000000)
    (hxi : scope.names.lookup xi = some .local) (hxc : scope.names.lookup xc = some .local) (hne2 : xc ≠ xi) (hcell : ∀ y ∈ scope.names, y.2 ≠ .cell) (hkind : scope.kind = .function)
    (I : Nat → List Value → α → Prop) (nn : α → Ledger) (a₀ : α) (hadr : ∀ a, (nn a).map (·.1) = (nn a₀).map (·.1))
    (F : Fr h₀ L s.heap m) (N : News h₀ L s.heap news) (hn : SubL (nn a₀) news) (hI : I 0 [] a₀)
    (turn : PTurn w A s h₀ L m env elt ifs scope cl xi xc prs G I nn)
    {R : Value → Shared → Prop}
    (go : ∀ (J : Addr) (fp wr : List Addr) (bs : Nat → List (Str × Value) → Prop) (St : Nat → Heap → Prop) (h' : Heap), (∀ C, Drw w A (compEnvC scope cl C env) (.Tuple [.Name xi pk, .Name xc pv'] x1 pt) J fp wr prs.length bs St) → (∀ i ps u, bs i ps → AllIn ps (ovr ps u)) → St 0 h' → (∀ b ∈ fp, b < h'.objs.size) →
      (∀ a, (nn a).map (·.1) = (nn a₀).map (·.1)) → Fr h₀ L h' m → News h₀ L h' news → L ∉ fp → (∀ b ∈ wr, h₀.get? b = none) → (∀ b ∈ (nn a₀).map (·.1), b ∉ wr) →
      (∀ i ps ys a C oC m₂ D h tk own, i < prs.length → bs i ps → I i ys a → ys.length ≤ i → NsObj oC m₂ → AllIn ps m₂ → Fr h₀ L h m → News h₀ L h ((C, oC) :: (D, lst ys) :: (own ++ nn a)) → C ≠ D → (∀ b ∈ (nn a₀).map (·.1), b ≠ C ∧ b ≠ D) → (∀ p ∈ own, (p.1 ≠ C ∧ p.1 ≠ D) ∧ p.1 ∈ fp) →
        wpAny (model PG w) A (forIn ifs true fun c r => if r = true then do let ok ← isTrue c (compEnvC scope cl C env) (eval c (compEnvC scope cl C env)); pure (ForInStep.yield ok) else pure (ForInStep.yield r)) (fun ok s₃ =>
        if ok = true then wpAny (model PG w) A (eval elt (compEnvC scope cl C env)) (fun y s₄ => CEnd h₀ L m s ((C, oC) :: (D, lst ys) :: own) (I (i + 1)) nn (ys ++ [y]) s₄) NoE s₃
        else CEnd h₀ L m s ((C, oC) :: (D, lst ys) :: own) (I (i + 1)) nn ys s₃) NoE { s with heap := h, toks := tk }) →
      R (.ref J) { s with heap := h' }) :
    wpAny (model PG w) A (pyIter (.ref l)) R NoE s := by
  have hL : s.heap.IsList l items := ⟨_, hl, rfl, nl, rfl⟩
  have hlL := list_ne_L F hL
  have hlt : l < s.heap.objs.size := Heap.lt_size hl
  have hne : l ≠ s.heap.objs.size := Nat.ne_of_lt hlt
  obtain ⟨ts, pv, i1, i2, i3, i4, i5⟩ := ia.lists
  have hsz : items.size = prs.length := by have := ia.length; simpa using this
  have hJ : s.heap.objs.size ∉ ts := fun hm => by obtain ⟨o, ho, _⟩ := i3 _ hm; exact Nat.lt_irrefl _ (Heap.lt_size ho)
  have hlow : ∀ b ∈ (nn a₀).map (·.1), b < s.heap.objs.size := fun b hb => by
    obtain ⟨p, hp, rfl⟩ := List.mem_map.mp hb
    exact Heap.lt_size (N p (hn p hp)).1
  refine wpAny_pyIter_list hL ?_
  have W : ∀ C, Drw w A (compEnvC scope cl C env) (.Tuple [.Name xi pk, .Name xc pv'] x1 pt) s.heap.objs.size (s.heap.objs.size :: l :: ts) [s.heap.objs.size] prs.length _ _ := fun C =>
    hsz ▸ Drw.pairs (w := w) (A := A) (env := compEnvC scope cl C env) (xi := xi) (xc := xc) (pk := pk) (pv := pv') (pt := pt) (x1 := x1) hh hne pv ts hJ (fun i v hv => i1 i v (by simpa using hv)) (by omega) (lookup_relabel_local hxi) (lookup_relabel_local hxc) (by simp [compEnvC, relabel, hkind])
  refine go _ _ _ _ _ _ W (fun i ps u ⟨p, _, e⟩ => by subst e; exact ⟨if_pos rfl, (if_neg (Ne.symm hne2)).trans (if_pos rfl), trivial⟩)
    ⟨⟨⟨_, Heap.get?_push_size _ rfl, rfl, rfl⟩, hL.at fun o e => Heap.get?_push_of_some _ e⟩, fun k t p h1 h2 => (i4 k t p h1 h2).at fun o e => Heap.get?_push_of_some _ e⟩ ?_ hadr (F.push _) (fun p hp => ⟨Heap.get?_push_of_some _ (N p hp).1, (N p hp).2⟩) ?_ ?_ ?_ ?_
  · intro b hb
    rw [Heap.size_push]
    rcases List.mem_cons.mp hb with rfl | hb
    · exact Nat.lt_succ_self _
    · rcases List.mem_cons.mp hb with rfl | hb
      · exact Nat.lt_succ_of_lt hlt
      · obtain ⟨o, ho, _⟩ := i3 _ hb; exact Nat.lt_succ_of_lt (Heap.lt_size ho)
  · intro hmem
    rcases List.mem_cons.mp hmem with e | hmem
    · exact absurd F.ns.lt (e ▸ Nat.lt_irrefl _)
    · rcases List.mem_cons.mp hmem with e | hmem
      · exact hlL e.symm
      · obtain ⟨o, ho, q, n, rfl⟩ := i3 _ hmem
        obtain ⟨oL, esL, epL, hL', hdL, _⟩ := F.ns
        rw [ho] at hL'
        rw [← Option.some.inj hL'] at hdL
        cases hdL
  · intro b hb
    rw [List.mem_singleton.mp hb]
    exact next_is_new F
  · intro b hb hw
    exact absurd (hlow b hb) (by rw [List.mem_singleton.mp hw]; exact Nat.lt_irrefl _)
  · rintro i qs ys a C oC m₂ D h tk own hi ⟨p, hpv, rfl⟩ hI' _ hoC hm F' N' _ _ _
    obtain ⟨pa, tk', rfl, hG⟩ := i5 _ _ hpv
    exact turn i tk' pa ys a C oC m₂ D h tk own hi hG hI' hoC hm.2.1 hm.1 F' (fun p hp => N' p (by simp only [List.mem_cons, List.mem_append] at hp ⊢; rcases hp with h | h | h | h <;> simp [h]))
theorem pairs_comp_eval {α : Type} {elt iter : Expr} {ifs : List Expr} {scope : Scope} {cl : List (Str × Addr)} {pos : Pos} {Q : Value → Shared → Prop} {xi xc : Str} {pk pv' pt : Pos} {x1 : Nat} {l : Addr} {items : Array Value} {nl : Nat} {prs : List (List Int × Nat)} {G : Addr → List Int → Prop}
    (hh : A.handled = none) (hl : s.heap.get? l = some (listOf items nl)) (ia : PairsG G s.heap items.toList prs) (hsm : prs.length < 1000000)
    (hxi : scope.names.lookup xi = some .local) (hxc : scope.names.lookup xc = some .local) (hne2 : xc ≠ xi) (hcell : ∀ y ∈ scope.names, y.2 ≠ .cell) (hkind : scope.kind = .function)
    (I : Nat → List Value → α → Prop) (nn : α → Ledger) (a₀ : α) (hadr : ∀ a, (nn a).map (·.1) = (nn a₀).map (·.1))
    (F : Fr h₀ L s.heap m) (N : News h₀ L s.heap news) (hn : SubL (nn a₀) news) (hI : I 0 [] a₀)
    (turn : PTurn w A s h₀ L m env elt ifs scope cl xi xc prs G I nn)
    (fin : ∀ D h tk ys a, Fr h₀ L h m → News h₀ L h ((D, lst ys) :: nn a) → (∀ b ∈ (nn a₀).map (·.1), b ≠ D) → I prs.length ys a → Q (.ref D) { s with heap := h, toks := tk }) :
    wpAny (model PG w) A (pyIter (.ref l)) (fun it s₂ => CompGo w A (.ListComp elt [⟨.Tuple [.Name xi pk, .Name xc pv'] x1 pt, iter, ifs, 0⟩] scope pos) scope cl env none Q it s₂) NoE s :=
  pairs_setup (pk := pk) (pv' := pv') (pt := pt) (x1 := x1) hh hl ia hsm hxi hxc hne2 hcell hkind I nn a₀ hadr F N hn hI turn fun J fp wr bs St h' W hbs hst hfp hadr F' N' hLf hwr hnw turn' =>
    compGo_eval2 W hbs hsm hcell hkind hst hfp I nn a₀ _ hadr F' N' hn hI hLf hwr hnw turn' fin
theorem pairs_comp_assign {α : Type} {elt iter : Expr} {ifs : List Expr} {scope : Scope} {cl : List (Str × Addr)} {pos py : Pos} {y : Str} {R : Shared → Prop} {xi xc : Str} {pk pv' pt : Pos} {x1 : Nat} {l : Addr} {items : Array Value} {nl : Nat} {prs : List (List Int × Nat)} {G : Addr → List Int → Prop}
    (hh : A.handled = none) (hl : s.heap.get? l = some (listOf items nl)) (ia : PairsG G s.heap items.toList prs) (hsm : prs.length < 1000000)
    (hL : env.locals = L) (hy : env.kindOf y = some .local) (hp : (env.scope.kind == .class || (env.scope.kind == .module && env.locals != env.globals)) = false)
    (hxi : scope.names.lookup xi = some .local) (hxc : scope.names.lookup xc = some .local) (hne2 : xc ≠ xi) (hcell : ∀ y ∈ scope.names, y.2 ≠ .cell) (hkind : scope.kind = .function)
    (I : Nat → List Value → α → Prop) (nn : α → Ledger) (a₀ : α) (hadr : ∀ a, (nn a).map (·.1) = (nn a₀).map (·.1))
    (F : Fr h₀ L s.heap m) (N : News h₀ L s.heap news) (hn : SubL (nn a₀) news) (hI : I 0 [] a₀)
    (turn : PTurn w A s h₀ L m env elt ifs scope cl xi xc prs G I nn)
    (fin : ∀ D h tk ys a, Fr h₀ L h (fun z => if z = y then some (.ref D) else m z) → News h₀ L h ((D, lst ys) :: nn a) → (∀ b ∈ (nn a₀).map (·.1), b ≠ D) → I prs.length ys a → R { s with heap := h, toks := tk }) :
    wpAny (model PG w) A (pyIter (.ref l)) (fun it s₂ => CompGo w A (.ListComp elt [⟨.Tuple [.Name xi pk, .Name xc pv'] x1 pt, iter, ifs, 0⟩] scope pos) scope cl env (some (assign (.Name y py) env)) (fun _ s' => R s') it s₂) NoE s :=
  pairs_setup (pk := pk) (pv' := pv') (pt := pt) (x1 := x1) hh hl ia hsm hxi hxc hne2 hcell hkind I nn a₀ hadr F N hn hI turn fun J fp wr bs St h' W hbs hst hfp hadr F' N' hLf hwr hnw turn' =>
    compGo_assign2 (Q := fun _ s' => R s') hL hy hp W hbs hsm hcell hkind hst hfp I nn a₀ _ hadr F' N' hn hI hLf hwr hnw turn' fin
/-- the pairs come into the ledger -/
theorem call_pairs {mean : ExcName → Option Value} {mg mb : Str → Option Value} {dp un : Nat} {fr : List Env} {gd : Option (List Code)} {f : Addr} {D : Nat} {vs : List Value} {Q : Value → Shared → Prop} {prs : List (List Int × Nat)} (P : Pure w f D vs s.heap (fun h' r => NewPairs s.heap h' r prs)) (X : (Mine.hd.heap_39 w.params).In h₀) (T : Tp mean mg mb h₀) (F : Fr h₀ L s.heap m) (N : News h₀ L s.heap news)
    (hd : dp + D < 800) (hu : un + 3 * D < 9000)
    (h : ∀ r its n ex h' tk', Fr h₀ L h' m → News h₀ L h' ((r, listOf its n) :: (news ++ ex)) → PairsIn ex its.toList prs → (∀ p ∈ news, p.1 ≠ r ∧ ∀ q ∈ ex, q.1 ≠ p.1) → Q (.ref r) { s with heap := h', toks := tk' }) :
    wpAny (model PySem.Challenge.rw_pq0216_01.row.prog w) (Ar dp un fr gd) (call (.ref f) vs) Q NoE s :=
  P mean mg mb dp un fr gd s Q (X.keeps F.keep) (T.keeps F.keep) rfl hd hu fun r h' tk' k hp => by
    obtain ⟨r, its, n, ex, rfl, hn, hg, hex, hpi⟩ := hp
    refine h r its n ex h' tk' (F.keeps k) (fun p hp => ?_) hpi (fun p hp => ⟨none_news N hn p hp, fun q hq => (none_news N (hex q hq).2 p hp).symm⟩)
    rcases List.mem_cons.mp hp with rfl | hp
    · exact ⟨hg, none_L F hn, none_old F hn⟩
    · rcases List.mem_append.mp hp with hp | hp
      · exact news_grown N k p hp
      · exact ⟨(hex p hp).1, none_L F (hex p hp).2, none_old F (hex p hp).2⟩
end


/-! the part W29 -/
section
variable {w : World} {A : Around} {E : Value → Shared → Prop} {s : Shared}
theorem item_menu {value slice : Expr} {l : Addr} {k : Int} {u a b c d : Tok} {n : Nat} {Q : Value → Shared → Prop} (hl : s.heap.get? l = some (listOf #[.int 1 a, .int (0 - 1) b, .int 6 c, .int (0 - 4) d] n)) (h0 : 0 ≤ k) (h4 : k < 4) (h : ∀ t, Q (.int (menu k) t) s)
    (hs : subscripted slice false (.ref l) (.int k u) = operate [.ref l, .int k u] (getItem (.ref l) (.int k u))) : wpAny (model PG w) A (subscriptTail value slice (.ref l) (.int k u)) Q E s := by
  have hL : s.heap.IsList l #[.int 1 a, .int (0 - 1) b, .int 6 c, .int (0 - 4) d] := ⟨_, hl, rfl, n, rfl⟩
  refine tail_any hL.typeIs slot_list_getitem.lookup ?_ hs
  have e : k = 0 ∨ k = 1 ∨ k = 2 ∨ k = 3 := by omega
  rcases e with rfl | rfl | rfl | rfl
  · exact wpAny_getItem_list hL (by decide) (by decide) rfl (h a)
  · exact wpAny_getItem_list hL (by decide) (by decide) rfl (h b)
  · exact wpAny_getItem_list hL (by decide) (by decide) rfl (h c)
  · exact wpAny_getItem_list hL (by decide) (by decide) rfl (h d)
end
theorem menu_small (k : Int) : Small (menu k) := by
  unfold menu
  refine ⟨4, by decide, ?_⟩
  split
  · decide
  · split
    · decide
    · split <;> decide
section
local macro_rules | `(tactic| walk_at "subscriptTail") => `(tactic| ((with_reducible show wpAny _ _ (subscriptTail (Expr.List _ _) _ _ _) _ _ _); refine halt ?_))
local macro_rules | `(tactic| walk_at "compareOp NotEq ref ref") => `(tactic| refine halt ?_)
local macro_rules | `(tactic| walk_at "compareOp Eq ref ref") => `(tactic| refine halt ?_)
local macro_rules | `(tactic| walk_at "storeName") => `(tactic| (with_reducible refine halt_cell (by rfl) ?_))
local macro_rules | `(tactic| walk_at "m_bits") => `(tactic| first | exact bd_getD (by assumption) _ | exact lead_small (by assumption) | exact menu_small _)
theorem off_cell {h₀ h : Heap} {L a c : Addr} {news : Ledger} {its : Array Value} {n : Nat} {o : Obj} (N : News h₀ L h news) (h1 : (a, listOf its n) ∈ news) (h2 : (c, o) ∈ news) (hv : CellV o) : a ≠ c := fun e => by
  have z1 := (N _ h1).1
  have z2 := (N _ h2).1
  dsimp only at z1 z2
  rw [e, z2] at z1
  obtain ⟨v, hv⟩ := hv
  rw [Option.some.inj z1] at hv
  cases hv
theorem PairsIn.g2 {h₀ h : Heap} {L : Addr} {ex news : Ledger} {vs : List Value} {prs : List (List Int × Nat)} (H : PairsIn ex vs prs) (N : News h₀ L h news) (S : SubL ex news) : PairsG (fun p xs => ∃ its n, (p, listOf its n) ∈ ex ∧ IntsAre its.toList xs) h vs prs := by
  induction H with
  | nil => exact .nil
  | cons h' _ ih =>
    obtain ⟨t, p, n, tk, its, k, rfl, h1, h2, h3⟩ := h'
    exact .cons (N _ (S _ h1)).1 ⟨_, _, h2, h3⟩ ih
theorem subL_of {h₀ h : Heap} {L : Addr} {news l : Ledger} (_ : News h₀ L h news) (h : SubL l news) : SubL l news := h
structure LpSt where
  oa : Addr
  oi : Array Value
  on : Nat
  ba : Addr
  bi : Array Value
  bn : Nat
noncomputable def onceAt (prs : List (List Int × Nat)) : Nat → List Int
  | 0 => [1]
  | i + 1 => times (onceAt prs i) (prs.getD i ([], 0)).1
noncomputable def manyL (prs : List (List Int × Nat)) (n : Nat) : List Int := (List.range n).map fun i => ((prs.getD i ([], 0)).2 : Int)
structure LawFin (v : List Int) (k : Int) (prs : List (List Int × Nat)) : Prop where
  len : prs.length < 100
  yun : yunPre (v.map (fun x => k * x)) prs
  part : ∀ i, i < prs.length → Bd (prs.getD i ([], 0)).1 ∧ 2 ≤ (prs.getD i ([], 0)).1.length ∧ (prs.getD i ([], 0)).1.length < 1000 ∧ 0 < lead (prs.getD i ([], 0)).1 ∧ lsmall (prs.getD i ([], 0)).1 = (prs.getD i ([], 0)).1 ∧
    lapOk ((zder (prs.getD i ([], 0)).1).length + 1) (prs.getD i ([], 0)).1 (zder (prs.getD i ([], 0)).1) ∧ lapart (prs.getD i ([], 0)).1 (zder (prs.getD i ([], 0)).1) = true ∧ (prs.getD i ([], 0)).2 < 1000
  apart : ∀ i j, i < prs.length → j < prs.length → (prs.getD i ([], 0)).2 ≠ (prs.getD j ([], 0)).2 → lapOk ((prs.getD j ([], 0)).1.length + 1) (prs.getD i ([], 0)).1 (prs.getD j ([], 0)).1 ∧ lapart (prs.getD i ([], 0)).1 (prs.getD j ([], 0)).1 = true
  once : ∀ i, i ≤ prs.length → Mid (onceAt prs i)
  back : ∀ i, i < prs.length → ∀ k, k ≤ (prs.getD i ([], 0)).2 → Mid (powMul times (prodAt times prs i) (prs.getD i ([], 0)).1 k)
  backEq : prodAt times prs prs.length = lsmall v
  prodOk : prodOk zmul prs
  prodEq : prodAt zmul prs prs.length = lsmall v
  rise : Rise (manyL prs prs.length)
  some : 0 < prs.length
  sqpart : exGood (zprim (v.map (fun x => k * x))) (zgcd (zprim (v.map (fun x => k * x))) (zder (zprim (v.map (fun x => k * x))))) (onceAt prs prs.length)
  sqOk : gcOk (v.map (fun x => k * x)) (zder (v.map (fun x => k * x)))
  sqLen : (zgcd (v.map (fun x => k * x)) (zder (v.map (fun x => k * x)))).length < 1000
  sqEq : decide ((zgcd (v.map (fun x => k * x)) (zder (v.map (fun x => k * x)))).length ≤ 1) = decide (manyL prs prs.length = [1])
noncomputable def LawHyp : Prop := ∀ (v : List Int) (k : Int), Wh v → 2 ≤ v.length → (∃ i : Int, 0 ≤ i ∧ i < 4 ∧ k = menu i) → ∃ prs, LawFin v k prs
theorem law_ok (w : World) {h : Heap} {xs : List Int} {a : Addr} (hx : ILI h a xs) (hl : xs.length ≤ 63) (W : WhFacts) (hfin : LawHyp) :
    Pure w 264 100 [.ref a] h (fun h' r => r = .bool true) := by
  have hws := (boxRow_pos xs).1
  have hwl : (boxRow xs).length < 1000 := by have := (boxRow_pos xs).2; omega
  unfold Pure
  k_fill
  intro mean mg mb dp un fr gd s Q X T hs hd hu hQ
  subst hs
  ktr_call enterC [(Str.ofString "script", .ref a)]
  refine wpZ fun Zf hZf => ?_
  k_steps
  rename Fr _ _ _ _ => F0
  rename News _ _ _ _ => N0
  rename_i L' _ _ _ _ _ _ om op on d1 d2 d3
  refine call_box (box_ok w (ILI.keeps hx (Fr.keep (by assumption))) (by omega)) X T (by assumption) (by assumption) (by omega) (by omega) ?_
  intro bx row itr nr t0 u0 nb0 h1 tk1 F1 N1 ir hrb hoff
  try dsimp only
  generalize hW : boxRow xs = ws at ir hws hwl
  have lbx := Heap.lt_size (N1 (bx, _) (.head _)).1
  k_steps
  unfold Halt
  refine wpAny_For ?_ (fun _ => rfl)
  k_steps
  rename Fr _ _ _ _ => F2
  rename News _ _ _ _ => N2
  rename_i _ _ wa hh2 lwa _ _ _ _ _ _
  have hwa : wa ≠ bx := Nat.ne_of_gt lwa.1
  have owa : wa ≠ L' + 1 ∧ wa ≠ L' + 1 + 1 ∧ wa ≠ L' + 1 + 1 + 1 := ⟨Nat.ne_of_gt lwa.2.2.2.2, Nat.ne_of_gt lwa.2.2.2.1, Nat.ne_of_gt lwa.2.2.1⟩
  have obx : L' + 1 ≠ bx ∧ L' + 1 + 1 ≠ bx ∧ L' + 1 + 1 + 1 ≠ bx := ⟨(hoff (L' + 1, on) (by k_mem)).1, (hoff (L' + 1 + 1, op) (by k_mem)).1, (hoff (L' + 1 + 1 + 1, om) (by k_mem)).1⟩
  refine call_next (b' := bstep ws (box0 xs)) (x := bval (bstep ws (box0 xs))) ((wa, listOf #[.int 1 tk1] 0) :: (row, listOf itr nr) :: (L' + 1, on) :: (L' + 1 + 1, op) :: (L' + 1 + 1 + 1, om) :: [])
    (next_box w (h00 := s.heap) F2.keep (N2 (bx, _) (by k_mem)).2.2 ⟨_, _, _, (N2 (bx, _) (by k_mem)).1⟩ (LI.ofNews N2 (by k_mem) ir) hrb hws hwl) X T F2 N2 (by k_mem) ?hk1 ?hn1 (by omega) (by omega) ?_
  case hk1 => first | exact SubL.refl | exact SubL.tl SubL.refl | exact SubL.tl (SubL.tl SubL.refl) | exact SubL.tl (SubL.tl (SubL.tl SubL.refl)) | exact SubL.cons (by k_mem) (SubL.cons (by k_mem) (SubL.cons (by k_mem) (SubL.cons (by k_mem) (SubL.cons (by k_mem) SubL.nil))))
  case hn1 => exact List.forall_mem_cons.mpr ⟨hwa, List.forall_mem_cons.mpr ⟨hrb, List.forall_mem_cons.mpr ⟨obx.1, List.forall_mem_cons.mpr ⟨obx.2.1, List.forall_mem_cons.mpr ⟨obx.2.2, List.forall_mem_nil _⟩⟩⟩⟩⟩
  intro t1 u1 n1 t1' h3 tk3 F3 N3
  generalize hb1 : bstep ws (box0 xs) = b1 at F3 N3
  have hcnt : 2 + (bval b1).fmod 2 = ((2 + (bval b1).fmod 2).toNat : Int) := by
    have := Int.fmod_nonneg_of_pos (bval b1) (b := 2) (by decide)
    omega
  have hcnt2 : (2 + (bval b1).fmod 2).toNat < 4 ∧ 0 < (2 + (bval b1).fmod 2).toNat := by
    have := Int.fmod_nonneg_of_pos (bval b1) (b := 2) (by decide)
    have := Int.fmod_lt_of_pos (bval b1) (b := 2) (by decide)
    omega
  generalize hn : (2 + (bval b1).fmod 2).toNat = cnt at hcnt hcnt2
  k_steps
  rename Fr _ _ _ _ => F4
  rename News _ _ _ _ => N4
  have OK := outer_ok W hws b1
  have hbx4 := (N4 (bx, _) (by k_mem)).1
  refine' iter_range3 (α := LwSt) rfl ?hr hcnt (by omega) rfl rfl
    (fun i t => t.b = (outerW ws i (b1, [1])).1 ∧ IntsAre t.its.toList (outerW ws i (b1, [1])).2 ∧ t.wa ≠ bx ∧ t.wa ≠ L' + 1 ∧ t.wa ≠ L' + 1 + 1 ∧ t.wa ≠ L' + 1 + 1 + 1)
    (fun t => [(Str.ofString "box", .ref bx), (Str.ofString "whole", .ref t.wa)])
    (fun t => (bx, listOf #[.int t.b.x t.t, .ref row, .int (t.b.c : Int) t.u] t.nb) :: (t.wa, listOf t.its t.n) :: (row, listOf itr nr) :: (L' + 1, on) :: (L' + 1 + 1, op) :: (L' + 1 + 1 + 1, om) :: [])
    ⟨b1, wa, #[.int 1 tk1], 0, t1, u1, n1⟩ ?hnn F4 N4 ?hA ?hS ?hI ?turn ?done
  case hr => assumption
  case hnn => exact fun i t _ => Aside.list (Aside.list (Aside.list (Aside.old (by k_mem) (Aside.old (by k_mem) (Aside.old (by k_mem) Aside.nil)))))
  case hA => walk_at "m_all"
  case hS => walk_at "m_sub"
  case hI => exact ⟨rfl, .cons _ _ .nil, hwa, owa⟩
  case turn =>
    clear F4 N4
    rintro i ti ⟨b, wa', its, n, t, u, nb⟩ u' h4 tk4 own hi ⟨hb, hits, owa'⟩ F N hown
    dsimp only at hb hits owa' N
    simp only [ovr] at F
    obtain ⟨hWh, _, _⟩ := OK i
    have hob : ∀ p ∈ own, p.1 ≠ bx := fun p hp e => by
      have := (hown p hp).2
      rw [e] at this
      exact absurd (this.symm.trans hbx4) (by simp)
    have hPc : Pc (piece ws b) := W.pc ws b hws
    refine wpZ fun Z hZ => ?_
    k_steps
    refine call_piece (b' := bn ws b (pieceN ws b + 2)) (ys := piece ws b) ((wa', listOf its n) :: (row, listOf itr nr) :: (L' + 1, on) :: (L' + 1 + 1, op) :: (L' + 1 + 1 + 1, om) :: own)
      (piece_box w (h00 := s.heap) F.keep (N (bx, _) (by k_mem)).2.2 ⟨_, _, _, (N (bx, _) (by k_mem)).1⟩ (LI.ofNews (N := N) (hm := by k_mem) (hi := ir)) hrb hws hwl) X T F N (by k_mem) ?hk2 ?hn2 (by omega) (by omega) ?_
    case hk2 => first | exact SubL.refl | exact SubL.tl SubL.refl | exact SubL.tl (SubL.tl SubL.refl) | exact SubL.tl (SubL.tl (SubL.tl SubL.refl)) | exact SubL.cons (by k_mem) (SubL.cons (by k_mem) (SubL.cons (by k_mem) (SubL.cons (by k_mem) (SubL.cons (by k_mem) (fun p hp => List.mem_append_right _ hp)))))
    case hn2 => exact List.forall_mem_cons.mpr ⟨owa'.1, List.forall_mem_cons.mpr ⟨hrb, List.forall_mem_cons.mpr ⟨obx.1, List.forall_mem_cons.mpr ⟨obx.2.1, List.forall_mem_cons.mpr ⟨obx.2.2, hob⟩⟩⟩⟩⟩
    intro t5 u5 n5 pa itp np h5 tk5 F5 N5 ip hpb hpo
    k_steps
    unfold Halt
    refine wpAny_For ?_ (fun _ => rfl)
    k_steps
    rename Fr _ _ _ _ => F6
    rename News _ _ _ _ => N6
    refine call_next (b' := nextB ws b) (x := bval (nextB ws b)) ((pa, listOf itp np) :: (wa', listOf its n) :: (row, listOf itr nr) :: (L' + 1, on) :: (L' + 1 + 1, op) :: (L' + 1 + 1 + 1, om) :: own)
      (next_box w (h00 := s.heap) F6.keep (N6 (bx, _) (by k_mem)).2.2 ⟨_, _, _, (N6 (bx, _) (by k_mem)).1⟩ (LI.ofNews (N := N6) (hm := by k_mem) (hi := ir)) hrb hws hwl) X T F6 N6 (by k_mem) ?hk3 ?hn3 (by omega) (by omega) ?_
    case hk3 => first | exact SubL.refl | exact SubL.tl SubL.refl | exact SubL.tl (SubL.tl SubL.refl) | exact SubL.tl (SubL.tl (SubL.tl SubL.refl)) | exact SubL.cons (by k_mem) (SubL.cons (by k_mem) (SubL.cons (by k_mem) (SubL.cons (by k_mem) (SubL.cons (by k_mem) (SubL.cons (by k_mem) (by walk_at "m_own"))))))
    case hn3 => exact List.forall_mem_cons.mpr ⟨hpb, List.forall_mem_cons.mpr ⟨owa'.1, List.forall_mem_cons.mpr ⟨hrb, List.forall_mem_cons.mpr ⟨obx.1, List.forall_mem_cons.mpr ⟨obx.2.1, List.forall_mem_cons.mpr ⟨obx.2.2, hob⟩⟩⟩⟩⟩⟩
    intro t7 u7 n7 t7' h7 tk7 F7 N7
    have hcn : 1 + (bval (nextB ws b)).fmod 2 = (innerN ws b : Int) := by
      unfold innerN
      have := Int.fmod_nonneg_of_pos (bval (nextB ws b)) (b := 2) (by decide)
      omega
    have hcn2 := innerN_pos ws b
    generalize hv : (outerW ws i (b1, [1])).2 = v at *
    generalize hpp : piece ws b = pc at *
    k_steps
    rename Fr _ _ _ _ => F8
    rename News _ _ _ _ => N8
    have OI := inner_ok W hPc hWh
    refine' iter_range3 (α := LiSt) rfl ?hr2 hcn (by omega) rfl rfl
      (fun j t => IntsAre t.its.toList (innerW pc j v) ∧ t.wa ≠ bx ∧ t.wa ≠ L' + 1 ∧ t.wa ≠ L' + 1 + 1 ∧ t.wa ≠ L' + 1 + 1 + 1)
      (fun t => [(Str.ofString "box", .ref bx), (Str.ofString "whole", .ref t.wa), (Str.ofString "piece", .ref pa)])
      (fun t => (t.wa, listOf t.its t.n) :: (pa, listOf itp np) :: (bx, listOf #[.int (nextB ws b).x t7, .ref row, .int ((nextB ws b).c : Int) u7] n7) :: (row, listOf itr nr) :: (L' + 1, on) :: (L' + 1 + 1, op) :: (L' + 1 + 1 + 1, om) :: own)
      ⟨wa', its, n⟩ ?hnn2 F8 N8 ?hA2 ?hS2 ?hI2 ?turn2 ?done2
    case hr2 => assumption
    case hnn2 => exact fun i t _ => Aside.list (Aside.list (Aside.list (Aside.list (Aside.sub (SubL.cons (by k_mem) (SubL.cons (by k_mem) (SubL.cons (by k_mem) (by walk_at "m_own"))))))))
    case hA2 => walk_at "m_all"
    case hS2 => first | exact SubL.refl | exact SubL.tl SubL.refl | exact SubL.tl (SubL.tl SubL.refl) | exact SubL.tl (SubL.tl (SubL.tl SubL.refl)) | exact SubL.cons (by k_mem) (SubL.cons (by k_mem) (SubL.cons (by k_mem) (SubL.cons (by k_mem) (SubL.cons (by k_mem) (SubL.cons (by k_mem) (SubL.cons (by k_mem) (by walk_at "m_own")))))))
    case hI2 => exact ⟨hits, owa'⟩
    case turn2 =>
      clear F8 N8
      rintro j tj ⟨wa2, its2, n2⟩ u2 h9 tk9 own2 hj ⟨hits2, owa2⟩ F N hown2
      dsimp only at hits2 owa2 N
      simp only [ovr] at F
      obtain ⟨hU, hUl, _⟩ := OI j
      have hU7 := hU.le
      have hPl := hPc.2.1
      generalize hu9 : innerW pc j v = uu at *
      refine wpZ fun Z hZ => ?_
      k_steps
      · refine call_list (times_ok w (xs := uu) (ys := pc) (LI.ofNews (by assumption) (by k_mem) hits2) (LI.ofNews (by assumption) (by k_mem) ip) (by omega) (by omega) (W.bd _ hU) (pc_bd hPc)) X T (by assumption) (by assumption) (by omega) (by omega) ?_
        intro r9 its9 n9 h10 tk10 F10 N10 i10 ne10
        k_steps
        have e9 : innerW pc (j + 1) v = times uu pc := by rw [innerW, hu9, if_pos (by omega)]
        refine hZ _ _ ?_
        exact FEnd.go (α := LiSt) ⟨r9, its9, n9⟩ (by assumption) (by assumption) (by walk_at "m_all") (by walk_at "m_own") (SubL.cons (by k_mem) (SubL.cons (by k_mem) (SubL.cons (by k_mem) (SubL.cons (by k_mem) (SubL.cons (by k_mem) (SubL.cons (by k_mem) (SubL.cons (by k_mem) (by walk_at "m_own"))))))))
          ⟨e9 ▸ i10, (ne10 (bx, _) (by k_mem)).symm, (ne10 (L' + 1, on) (by k_mem)).symm, (ne10 (L' + 1 + 1, op) (by k_mem)).symm, (ne10 (L' + 1 + 1 + 1, om) (by k_mem)).symm⟩
      · have e9 : innerW pc (j + 1) v = uu := by rw [innerW, hu9, if_neg (by omega)]
        refine hZ _ _ ?_
        exact FEnd.go (α := LiSt) ⟨wa2, its2, n2⟩ (by assumption) (by assumption) (by walk_at "m_all") (by walk_at "m_own") (SubL.cons (by k_mem) (SubL.cons (by k_mem) (SubL.cons (by k_mem) (SubL.cons (by k_mem) (SubL.cons (by k_mem) (SubL.cons (by k_mem) (SubL.cons (by k_mem) (by walk_at "m_own")))))))) ⟨e9 ▸ hits2, owa2⟩
      · refine call_list (times_ok w (xs := uu) (ys := pc) (LI.ofNews (by assumption) (by k_mem) hits2) (LI.ofNews (by assumption) (by k_mem) ip) (by omega) (by omega) (W.bd _ hU) (pc_bd hPc)) X T (by assumption) (by assumption) (by omega) (by omega) ?_
        intro r9 its9 n9 h10 tk10 F10 N10 i10 ne10
        k_steps
        have e9 : innerW pc (j + 1) v = times uu pc := by rw [innerW, hu9, if_pos (by omega)]
        refine hZ _ _ ?_
        exact FEnd.go (α := LiSt) ⟨r9, its9, n9⟩ (by assumption) (by assumption) (by walk_at "m_all") (by walk_at "m_own") (SubL.cons (by k_mem) (SubL.cons (by k_mem) (SubL.cons (by k_mem) (SubL.cons (by k_mem) (SubL.cons (by k_mem) (SubL.cons (by k_mem) (SubL.cons (by k_mem) (by walk_at "m_own"))))))))
          ⟨e9 ▸ i10, (ne10 (bx, _) (by k_mem)).symm, (ne10 (L' + 1, on) (by k_mem)).symm, (ne10 (L' + 1 + 1, op) (by k_mem)).symm, (ne10 (L' + 1 + 1 + 1, om) (by k_mem)).symm⟩
      · have e9 : innerW pc (j + 1) v = uu := by rw [innerW, hu9, if_neg (by omega)]
        refine hZ _ _ ?_
        exact FEnd.go (α := LiSt) ⟨wa2, its2, n2⟩ (by assumption) (by assumption) (by walk_at "m_all") (by walk_at "m_own") (SubL.cons (by k_mem) (SubL.cons (by k_mem) (SubL.cons (by k_mem) (SubL.cons (by k_mem) (SubL.cons (by k_mem) (SubL.cons (by k_mem) (SubL.cons (by k_mem) (by walk_at "m_own")))))))) ⟨e9 ▸ hits2, owa2⟩
    case done2 =>
      clear F8 N8
      rintro ⟨wa2, its2, n2⟩ u2 h9 tk9 ⟨hits2, owa2⟩ F N
      dsimp only at hits2 owa2 N
      simp only [ovr] at F
      k_steps
      have ho : outerW ws (i + 1) (b1, [1]) = (nextB ws b, innerW pc (innerN ws b) v) := by
        show (nextB ws (outerW ws i (b1, [1])).1, innerW (piece ws (outerW ws i (b1, [1])).1) (innerN ws (outerW ws i (b1, [1])).1) (outerW ws i (b1, [1])).2) = _
        rw [hv, ← hb, hpp]
      refine hZ _ _ ?_
      refine' FEnd.go (α := LwSt) ⟨nextB ws b, wa2, its2, n2, t7, u7, n7⟩ F N ?hA3 ?hO3 ?hS3 ?hI3
      case hA3 => walk_at "m_all"
      case hO3 => exact fun p hp => .tail _ (.tail _ (.tail _ (.tail _ (.tail _ (.tail _ (.tail _ hp))))))
      case hS3 => first | exact SubL.refl | exact SubL.tl SubL.refl | exact SubL.tl (SubL.tl SubL.refl) | exact SubL.tl (SubL.tl (SubL.tl SubL.refl)) | exact SubL.cons (by k_mem) (SubL.cons (by k_mem) (SubL.cons (by k_mem) (SubL.cons (by k_mem) (SubL.cons (by k_mem) (SubL.cons (by k_mem) SubL.nil)))))
      case hI3 =>
        show _ = (outerW ws (i + 1) (b1, [1])).1 ∧ IntsAre _ (outerW ws (i + 1) (b1, [1])).2 ∧ _
        rw [ho]; exact ⟨rfl, hits2, owa2⟩
  case done =>
    clear F4 N4
    rintro ⟨b, wa', its, n, t, u, nb⟩ u' h4 tk4 ⟨hb, hits, owa'⟩ F N
    dsimp only at hb hits owa' N
    simp only [ovr] at F
    obtain ⟨hWh, _, hW2⟩ := OK cnt
    have hw2 := hW2 hcnt2.2
    have hw7 := hWh.le
    have hwbd := W.bd _ hWh
    generalize outerW ws cnt (b1, [1]) = ow at *
    obtain ⟨b', v⟩ := ow
    dsimp only at hb hits hWh hw2 hw7 hwbd
    subst hb
    k_steps
    rename_i lm hm9 Fm Nm ltm
    have hlm : lm ≠ bx := Nat.ne_of_gt ltm.1
    refine call_next (b' := bstep ws b) (x := bval (bstep ws b)) ((lm, listOf #[.int 1 tk4, .int (0 - 1) (tk4 + 1 + 1 + 1), .int 6 (tk4 + 1 + 1 + 1 + 1), .int (0 - 4) (tk4 + 1 + 1 + 1 + 1 + 1 + 1 + 1)] 0) :: (wa', listOf its n) :: (row, listOf itr nr) :: (L' + 1, on) :: (L' + 1 + 1, op) :: (L' + 1 + 1 + 1, om) :: [])
      (next_box w (h00 := s.heap) Fm.keep (Nm (bx, _) (by k_mem)).2.2 ⟨_, _, _, (Nm (bx, _) (by k_mem)).1⟩ (LI.ofNews Nm (by k_mem) ir) hrb hws hwl) X T Fm Nm (by k_mem) ?hk4 ?hn4 (by omega) (by omega) ?_
    case hk4 => exact SubL.cons (.head _) (SubL.cons (by k_mem) (SubL.cons (by k_mem) (SubL.cons (by k_mem) (SubL.cons (by k_mem) (SubL.cons (by k_mem) SubL.nil)))))
    case hn4 => exact List.forall_mem_cons.mpr ⟨hlm, List.forall_mem_cons.mpr ⟨owa'.1, List.forall_mem_cons.mpr ⟨hrb, List.forall_mem_cons.mpr ⟨obx.1, List.forall_mem_cons.mpr ⟨obx.2.1, List.forall_mem_cons.mpr ⟨obx.2.2, List.forall_mem_nil _⟩⟩⟩⟩⟩⟩
    intro t10 u10 n10 t10' h10 tk10 F10 N10
    have hm0 := Int.fmod_nonneg_of_pos (bval (bstep ws b)) (b := 4) (by decide)
    have hm1 := Int.fmod_lt_of_pos (bval (bstep ws b)) (b := 4) (by decide)
    k_steps
    unfold Halt
    refine item_menu (N10 (lm, _) (by k_mem)).1 hm0 hm1 ?_ (by with_unfolding_all rfl)
    intro tm
    generalize hkn : menu ((bval (bstep ws b)).fmod 4) = kn
    have hks : Small kn := hkn ▸ menu_small _
    k_steps
    refine store_cell F10 N10 rfl (by k_mem) d3 ((wa', listOf its n) :: (bx, listOf #[.int (bstep ws b).x t10, .ref row, .int ((bstep ws b).c : Int) u10] n10) :: (L' + 1 + 1, op) :: (L' + 1 + 1 + 1, om) :: []) (SubL.cons (by k_mem) (SubL.cons (by k_mem) (SubL.cons (by k_mem) (SubL.cons (by k_mem) SubL.nil)))) ?hn5 ?_ rfl rfl
    case hn5 => exact List.forall_mem_cons.mpr ⟨owa'.2.1, List.forall_mem_cons.mpr ⟨obx.1.symm, List.forall_mem_cons.mpr ⟨Nat.ne_of_gt (Nat.lt_succ_self _), List.forall_mem_cons.mpr ⟨Nat.ne_of_gt (Nat.lt_succ_of_lt (Nat.lt_succ_self _)), List.forall_mem_nil _⟩⟩⟩⟩
    intro h11 on2 F11 N11 d11
    k_steps
    rename IntsAre _ (List.map _ v) => ip
    rename Fr _ _ _ _ => F12
    rename News _ _ _ _ => N12
    rename_i pd _ _ _
    obtain ⟨prs, LF⟩ := hfin v kn hWh hw2 ⟨_, hm0, hm1, hkn.symm⟩
    refine call_pairs (yun_ok w (LI.ofNews N12 (.head _) ip) LF.yun) X T F12 N12 (by omega) (by omega) ?_
    intro qa itq nq ex h13 tk13 F13 N13 hpi hqe
    try dsimp only
    k_steps
    refine call_ret (a := wa') (small_row w (xs := v) (LI.ofNews (by assumption) (by k_mem) hits) (by omega)) X T (by assumption) (by assumption) (by k_mem) (by omega) (by omega) ?_
    intro sa its14 n14 h14 tk14 F14 N14 i14 ne14
    try dsimp only
    k_steps
    unfold Halt
    refine wpAny_For ?_ (fun _ => rfl)
    k_steps
    rename Fr _ _ _ _ => F15
    rename News _ _ _ _ => N15
    rename_i ba _ lba oa _ loa td _ ltd _ _ _ _
    have v2 : CellV op := ⟨_, d2⟩
    have v3 : CellV om := ⟨_, d1⟩
    have q1 : oa ≠ L' + 1 + 1 ∧ oa ≠ L' + 1 + 1 + 1 := ⟨off_cell (a := oa) N15 (by k_mem) (by k_mem) v2, off_cell (a := oa) N15 (by k_mem) (by k_mem) v3⟩
    have q2 : ba ≠ L' + 1 + 1 ∧ ba ≠ L' + 1 + 1 + 1 := ⟨off_cell (a := ba) N15 (by k_mem) (by k_mem) v2, off_cell (a := ba) N15 (by k_mem) (by k_mem) v3⟩
    have q3 : sa ≠ L' + 1 + 1 ∧ sa ≠ L' + 1 + 1 + 1 := ⟨off_cell (a := sa) N15 (by k_mem) (by k_mem) v2, off_cell (a := sa) N15 (by k_mem) (by k_mem) v3⟩
    have q4 : qa ≠ L' + 1 + 1 ∧ qa ≠ L' + 1 + 1 + 1 := ⟨off_cell (a := qa) N15 (by k_mem) (by k_mem) v2, off_cell (a := qa) N15 (by k_mem) (by k_mem) v3⟩
    have q5 : pd ≠ L' + 1 + 1 ∧ pd ≠ L' + 1 + 1 + 1 := ⟨off_cell (a := pd) N15 (by k_mem) (by k_mem) v2, off_cell (a := pd) N15 (by k_mem) (by k_mem) v3⟩
    have q6 : ∀ p ∈ ex, p.1 ≠ L' + 1 + 1 ∧ p.1 ≠ L' + 1 + 1 + 1 := fun p hp => ⟨(hqe (L' + 1 + 1, op) (by k_mem)).2 p hp, (hqe (L' + 1 + 1 + 1, om) (by k_mem)).2 p hp⟩
    have hsub := subL_of (l := (sa, listOf its14 n14) :: (qa, listOf itq nq) :: (pd, lst ys) :: ex) N15 <| SubL.cons (by k_mem) (SubL.cons (by k_mem) (SubL.cons (by k_mem) (fun p hp => (by simp only [List.mem_cons, List.mem_append, hp, or_true]))))
    refine' pairs_cell (α := LpSt) (c1 := L' + 1 + 1) (c2 := L' + 1 + 1 + 1) rfl (N15 (qa, listOf itq nq) (by k_mem)).1 (hpi.g2 N15 (fun p hp => hsub p (.tail _ (.tail _ (.tail _ hp))))) rfl rfl rfl rfl rfl (Nat.ne_of_lt (Nat.lt_succ_self _))
      (fun i t => IntsAre t.oi.toList (onceAt prs i) ∧ IntsAre t.bi.toList (prodAt times prs i) ∧ (t.oa ≠ L' + 1 + 1 ∧ t.oa ≠ L' + 1 + 1 + 1) ∧ (t.ba ≠ L' + 1 + 1 ∧ t.ba ≠ L' + 1 + 1 + 1))
      (fun t => [(Str.ofString "once", .ref t.oa), (Str.ofString "back", .ref t.ba), (Str.ofString "whole", .ref sa), (Str.ofString "pairs", .ref qa), (Str.ofString "p", .ref pd)])
      (fun t => (t.oa, listOf t.oi t.on) :: (t.ba, listOf t.bi t.bn) :: (sa, listOf its14 n14) :: (qa, listOf itq nq) :: (pd, lst ys) :: ex)
      ⟨oa, ?_, ?_, ba, ?_, ?_⟩ op om v2 v3 ?hnn7 ?hcl7 F15 N15 ?hA7 ?hS7 ?hI7 ?turn7 ?done7
    case hnn7 => exact fun i t _ => Aside.list (Aside.list (Aside.sub hsub))
    case hcl7 => exact fun i t hI => List.forall_mem_cons.mpr ⟨hI.2.2.1, List.forall_mem_cons.mpr ⟨hI.2.2.2, List.forall_mem_cons.mpr ⟨q3, List.forall_mem_cons.mpr ⟨q4, List.forall_mem_cons.mpr ⟨q5, q6⟩⟩⟩⟩⟩
    case hA7 => walk_at "m_all"
    case hS7 => first | exact SubL.refl | exact SubL.tl SubL.refl | exact SubL.tl (SubL.tl SubL.refl) | exact SubL.tl (SubL.tl (SubL.tl SubL.refl)) | exact SubL.cons (by k_mem) (SubL.cons (by k_mem) (SubL.cons (by k_mem) (SubL.cons (by k_mem) hsub)))
    case hI7 => exact ⟨.cons _ _ .nil, .cons _ _ .nil, q1, q2⟩
    case turn7 =>
      clear F15 N15
      rintro i ti pa ⟨oa', oi', on', ba', bi', bn'⟩ u h16 tk16 own o1 o2 hi hG ⟨ho, hb2, r1, r2⟩ F N e1 e2 hown
      dsimp only at ho hb2 r1 r2 N
      simp only [ovr, List.cons_append] at F N
      obtain ⟨hpbd, hp2, hp1000, hplead, hpsmall, hplok, hplap, hmany⟩ := LF.part i hi
      have hon := LF.once i (by omega)
      have hbk := LF.back i hi
      have hone : onceAt prs (i + 1) = times (onceAt prs i) (prs.getD i ([], 0)).1 := rfl
      have hbke : prodAt times prs (i + 1) = powMul times (prodAt times prs i) (prs.getD i ([], 0)).1 (prs.getD i ([], 0)).2 := rfl
      generalize hqr : prs.getD i ([], 0) = qr at hG e2 hpbd hp2 hp1000 hplead hpsmall hplok hplap hmany hbk hone hbke
      obtain ⟨pt, mn⟩ := qr
      dsimp only at hG e2 hpbd hp2 hp1000 hplead hpsmall hplok hplap hmany hbk hone hbke
      have hG2 : Lst s.heap ex pa pt := .inr hG
      refine wpZ fun Z hZ => ?_
      k_steps
      refine call_list (times_ok w (xs := onceAt prs i) (ys := pt) (LI.ofNews (by assumption) (by k_mem) ho) (by walk_at "m_lst") hon.2 hp1000 hon.1 hpbd) X T (by assumption) (by assumption) (by omega) (by omega) ?_
      intro r17 its17 n17 h17 tk17 F17 N17 i17 ne17
      try dsimp only
      k_steps
      unfold Halt
      refine wpAny_For ?_ (fun _ => rfl)
      k_steps
      rename Fr _ _ _ _ => F18
      rename News _ _ _ _ => N18
      refine' iter_range3 (α := LiSt) (n := mn) rfl ?hr18 rfl (by omega) rfl rfl
        (fun j t => IntsAre t.its.toList (powMul times (prodAt times prs i) pt j) ∧ t.wa ≠ L' + 1 + 1 ∧ t.wa ≠ L' + 1 + 1 + 1)
        (fun t => [(Str.ofString "once", .ref r17), (Str.ofString "back", .ref t.wa), (Str.ofString "whole", .ref sa), (Str.ofString "pairs", .ref qa), (Str.ofString "p", .ref pd)])
        (fun t => (t.wa, listOf t.its t.n) :: (L' + 1 + 1, o1) :: (L' + 1 + 1 + 1, o2) :: (r17, listOf its17 n17) :: (sa, listOf its14 n14) :: (qa, listOf itq nq) :: (pd, lst ys) :: (ex ++ own))
        ⟨ba', bi', bn'⟩ ?hnn18 F18 N18 ?hA18 ?hS18 ?hI18 ?turn18 ?done18
      case hr18 => assumption
      case hnn18 => exact fun i t _ => Aside.list (Aside.sub (subL_of N18 (SubL.cons (by k_mem) (SubL.cons (by k_mem) (SubL.cons (by k_mem) (SubL.cons (by k_mem) (SubL.cons (by k_mem) (SubL.cons (by k_mem) (by walk_at "m_own")))))))))
      case hA18 => walk_at "m_all"
      case hS18 => first | exact SubL.refl | exact SubL.tl SubL.refl | exact SubL.tl (SubL.tl SubL.refl) | exact SubL.tl (SubL.tl (SubL.tl SubL.refl)) | exact SubL.cons (by k_mem) (SubL.cons (by k_mem) (SubL.cons (by k_mem) (SubL.cons (by k_mem) (SubL.cons (by k_mem) (SubL.cons (by k_mem) (SubL.cons (by k_mem) (by walk_at "m_own")))))))
      case hI18 => exact ⟨hb2, r2⟩
      case turn18 =>
        clear F18 N18
        rintro j tj ⟨wa2, its2, n2⟩ u2 h19 tk19 own2 hj ⟨hits2, owa2⟩ F N hown2
        dsimp only at hits2 owa2 N
        simp only [ovr, List.cons_append] at F N
        have hm := hbk j (by omega)
        refine wpZ fun Z hZ => ?_
        k_steps
        refine call_list (times_ok w (xs := powMul times (prodAt times prs i) pt j) (ys := pt) (LI.ofNews (by assumption) (by k_mem) hits2) (by walk_at "m_lst") hm.2 hp1000 hm.1 hpbd) X T (by assumption) (by assumption) (by omega) (by omega) ?_
        intro r20 its20 n20 h20 tk20 F20 N20 i20 ne20
        try dsimp only
        k_steps
        refine hZ _ _ ?_
        exact FEnd.go (α := LiSt) ⟨r20, its20, n20⟩ (by assumption) (by assumption) (by walk_at "m_all") (by walk_at "m_own") (SubL.cons (by k_mem) (SubL.cons (by k_mem) (SubL.cons (by k_mem) (SubL.cons (by k_mem) (SubL.cons (by k_mem) (SubL.cons (by k_mem) (SubL.cons (by k_mem) (fun p hp => by simp only [List.mem_cons, List.mem_append] at hp ⊢; rcases hp with hp | hp <;> simp [hp]))))))))
          ⟨i20, (ne20 (L' + 1 + 1, o1) (by k_mem)).symm, (ne20 (L' + 1 + 1 + 1, o2) (by k_mem)).symm⟩
      case done18 =>
        clear F18 N18
        rintro ⟨wa2, its2, n2⟩ u2 h19 tk19 ⟨hits2, owa2⟩ F N
        dsimp only at hits2 owa2 N
        simp only [ovr] at F

        obtain ⟨itp, Lp, ip2⟩ := (hG2.li F N (by walk_at "m_own")).isList
        have hple := lead_eq pt
        k_steps
        obtain ⟨its0, n0, hgm, hgi⟩ := id hG
        refine call_ret (a := pa) (its0 := its0) (n0 := n0) (small_row w (xs := pt) (hG2.li (by assumption) (by assumption) (by walk_at "m_own")) (by omega)) X T (by assumption) (by assumption) ((by walk_at "m_own" : SubL ex _) _ hgm) (by omega) (by omega) ?_
        intro r21 its21 n21 h21 tk21 F21 N21 i21 ne21
        try dsimp only
        k_steps
        unfold Halt
        refine ne_LI (LI.ofNews N21 (by k_mem) i21) (hG2.li F21 N21 (by walk_at "m_own")) (by units_room) ?_
        rw [hpsmall, show (!decide (pt = pt)) = false by simp]
        k_steps
        refine call_listS (slope_ok w (xs := pt) (hG2.li (by assumption) (by assumption) (by walk_at "m_own")) (by omega)) X T (by assumption) (by assumption) (by omega) (by omega) ?_
        intro r22 its22 n22 h22 tk22 F22 N22 i22
        try dsimp only
        k_steps
        refine call_val (apart_ok w (xs := pt) (ys := zder pt) (hG2.li (by assumption) (by assumption) (by walk_at "m_own")) (LI.ofNews N22 (by k_mem) i22) (by omega) (by rw [zder_len]; omega) hplok) X T (by assumption) (by assumption) (by omega) (by omega) ?_
        intro h23 tk23 F23 N23
        try dsimp only
        rw [hplap]
        k_steps
        unfold Halt
        refine comp_eval (cl := [(Str.ofString "part", L' + 1 + 1), (Str.ofString "many", L' + 1 + 1 + 1)]) rfl rfl (by decide) ?_ (fun _ => rfl)
        k_steps
        rename Fr _ _ _ _ => F24
        rename News _ _ _ _ => N24
        have hsub24 := subL_of (l := (L' + 1 + 1, o1) :: (L' + 1 + 1 + 1, o2) :: (wa2, listOf its2 n2) :: (r17, listOf its17 n17) :: (sa, listOf its14 n14) :: (qa, listOf itq nq) :: (pd, lst ys) :: (ex ++ own)) N24 (SubL.cons (by k_mem) (SubL.cons (by k_mem) (SubL.cons (by k_mem) (SubL.cons (by k_mem) (SubL.cons (by k_mem) (SubL.cons (by k_mem) (SubL.cons (by k_mem) (by walk_at "m_own"))))))))
        refine' pairs_comp_eval (α := Unit) rfl (N24 (qa, listOf itq nq) (by k_mem)).1 (hpi.g2 N24 (by walk_at "m_own")) (by have := LF.len; omega) rfl rfl (by decide) (by decide) rfl (fun _ zs _ => zs = [])
          (fun _ => (L' + 1 + 1, o1) :: (L' + 1 + 1 + 1, o2) :: (wa2, listOf its2 n2) :: (r17, listOf its17 n17) :: (sa, listOf its14 n14) :: (qa, listOf itq nq) :: (pd, lst ys) :: (ex ++ own)) () (fun _ => rfl) F24 N24 hsub24 rfl ?turn24 ?fin24
        case turn24 =>
          clear F24 N24 hsub24
          rintro j tj pb zs _ C oC m₂ D h25 tk25 own3 hj hG3 hzs hoC hm1 hm2 F N
          subst hzs
          dsimp only [List.cons_append] at N
          have hap := LF.apart i j hi hj
          have hoth := LF.part j hj
          rw [hqr] at hap
          generalize hqj : prs.getD j ([], 0) = qj at hG3 hm2 hap hoth
          obtain ⟨pj, mj⟩ := qj
          dsimp only at hG3 hm2 hap hoth
          have hG4 : Lst s.heap ex pb pj := .inr hG3
          refine wpAny_tests_one ?_
          k_steps
          · refine call_val (apart_ok w (xs := pt) (ys := pj) (hG2.li (by assumption) (by assumption) (by walk_at "m_own")) (hG4.li (by assumption) (by assumption) (by walk_at "m_own")) (by omega) (by have := hoth.2.2.1; omega) (hap (by omega)).1) X T (by assumption) (by assumption) (by omega) (by omega) ?_
            intro h26 tk26 F26 N26
            rw [(hap (by omega)).2]
            k_steps
            exact CEnd.go (α := Unit) () (by assumption) (by assumption) (SubL.cons (by k_mem) (SubL.cons (by k_mem) (by walk_at "m_own"))) (SubL.cons (by k_mem) (SubL.cons (by k_mem) (SubL.cons (by k_mem) (SubL.cons (by k_mem) (SubL.cons (by k_mem) (SubL.cons (by k_mem) (SubL.cons (by k_mem) (fun p hp => by simp only [List.mem_cons, List.mem_append] at hp ⊢; rcases hp with hp | hp <;> simp [hp])))))))) rfl
          · exact CEnd.go (α := Unit) () (by assumption) (by assumption) (SubL.cons (by k_mem) (SubL.cons (by k_mem) (by walk_at "m_own"))) (SubL.cons (by k_mem) (SubL.cons (by k_mem) (SubL.cons (by k_mem) (SubL.cons (by k_mem) (SubL.cons (by k_mem) (SubL.cons (by k_mem) (SubL.cons (by k_mem) (fun p hp => by simp only [List.mem_cons, List.mem_append] at hp ⊢; rcases hp with hp | hp <;> simp [hp])))))))) rfl
        case fin24 =>
          clear F24 N24 hsub24
          rintro D h25 tk25 zs _ F N off hzs
          subst hzs
          k_steps
          unfold Halt
          rename Fr _ _ _ _ => F27
          rename News _ _ _ _ => N27
          refine ne_LI (a := D) (xs := []) (ys := []) (LI.ofNews N27 (by k_mem) .nil) (LI.ofNews N27 (.head _) .nil) (by units_room) ?_
          rw [show (!decide (([] : List Int) = [])) = false by simp]
          k_steps
          refine hZ _ _ ?_
          exact FEnd.go (α := LpSt × Obj × Obj) (⟨r17, its17, n17, wa2, its2, n2⟩, o1, o2) F27 N27 (by walk_at "m_all") (by walk_at "m_own") (SubL.cons (by k_mem) (SubL.cons (by k_mem) (SubL.cons (by k_mem) (SubL.cons (by k_mem) (SubL.cons (by k_mem) (SubL.cons (by k_mem) (SubL.cons (by k_mem) (by walk_at "m_own"))))))))
            ⟨⟨hone ▸ i17, hbke ▸ hits2, ⟨(ne17 (L' + 1 + 1, o1) (by k_mem)).symm, (ne17 (L' + 1 + 1 + 1, o2) (by k_mem)).symm⟩, owa2⟩, ⟨_, e1⟩, ⟨_, e2⟩⟩
    case done7 =>
      clear F15 N15
      rintro ⟨oa', oi', on', ba', bi', bn'⟩ u h16 tk16 o1 o2 ⟨ho, hb2, r1, r2⟩ hv1 hv2 F N
      dsimp only at ho hb2 r1 r2 N
      simp only [ovr] at F
      k_steps
      unfold Halt
      refine comp_assign (cl := []) rfl rfl rfl (by decide) ?_ (fun _ => rfl)
      k_steps
      rename Fr _ _ _ _ => F30
      rename News _ _ _ _ => N30
      have hsub30 := subL_of (l := (oa', listOf oi' on') :: (ba', listOf bi' bn') :: (sa, listOf its14 n14) :: (qa, listOf itq nq) :: (pd, lst ys) :: ex) N30 (SubL.cons (by k_mem) (SubL.cons (by k_mem) (SubL.cons (by k_mem) (SubL.cons (by k_mem) (SubL.cons (by k_mem) (by walk_at "m_own"))))))
      refine' pairs_comp_assign (α := Unit) rfl (N30 (qa, listOf itq nq) (by k_mem)).1 (hpi.g2 N30 (by walk_at "m_own")) (by have := LF.len; omega) rfl rfl rfl rfl rfl (by decide) (by decide) rfl (fun j zs _ => IntsAre zs (manyL prs j))
          (fun _ => (oa', listOf oi' on') :: (ba', listOf bi' bn') :: (sa, listOf its14 n14) :: (qa, listOf itq nq) :: (pd, lst ys) :: ex) () (fun _ => rfl) F30 N30 hsub30 .nil ?turn30 ?fin30
      case turn30 =>
        clear F30 N30 hsub30
        rintro j tj pb zs _ C oC m₂ D h31 tk31 own3 hj hG3 hzs hoC hm1 hm2 F N
        dsimp only [List.cons_append] at N
        refine wpAny_tests_nil ?_
        simp only [if_true]
        k_steps
        refine CEnd.go (α := Unit) () F N (SubL.cons (by k_mem) (SubL.cons (by k_mem) (by walk_at "m_own"))) (SubL.cons (by k_mem) (SubL.cons (by k_mem) (SubL.cons (by k_mem) (SubL.cons (by k_mem) (SubL.cons (by k_mem) (by walk_at "m_own")))))) ?_
        unfold manyL at hzs ⊢
        rw [List.range_succ, List.map_append]
        exact IntsAre.append hzs (.cons _ _ .nil)
      case fin30 =>
        clear F30 N30 hsub30
        rintro D h31 tk31 zs _ F N off hzs
        k_steps
        unfold Halt
        rename Fr _ _ _ _ => F32
        rename News _ _ _ _ => N32
        refine ne_LI (LI.ofNews N32 (by k_mem) hb2) (LI.ofNews N32 (by k_mem) i14) (by units_room) ?_
        rw [LF.backEq, show (!decide (lsmall v = lsmall v)) = false by simp]
        k_steps
        refine call_listS (prod_ok w (prs := prs) ((by assumption : News _ _ _ _) (qa, listOf itq nq) (by k_mem)).1 (hpi.at (by assumption) (by walk_at "m_own")) LF.prodOk) X T (by assumption) (by assumption) (by omega) (by omega) ?_
        intro r33 its33 n33 h33 tk33 F33 N33 i33
        try dsimp only
        k_steps
        unfold Halt
        refine ne_LI (LI.ofNews N33 (by k_mem) i33) (LI.ofNews N33 (by k_mem) hb2) (by units_room) ?_
        rw [LF.backEq, LF.prodEq, show (!decide (lsmall v = lsmall v)) = false by simp]
        k_steps
        rename Fr _ _ _ _ => F34
        rename News _ _ _ _ => N34
        refine set_made rfl F34 N34 (LI.ofNews N34 (by k_mem) hzs) LF.rise ?_
        intro S so h35 tk35 F35 N35 hso
        k_steps
        refine sorted_set rfl F35 N35 (.head _) hso LF.rise ?_
        intro r36 its36 n36 h36 tk36 F36 N36 i36
        k_steps
        unfold Halt
        refine ne_LI (LI.ofNews N36 (by k_mem) hzs) (LI.ofNews N36 (.head _) i36) (by units_room) ?_
        rw [show (!decide (manyL prs prs.length = manyL prs prs.length)) = false by simp]
        k_steps
        refine min_list_N rfl F36 N36 (News.isList N36 (by k_mem)) hzs (by unfold manyL; simp; exact LF.some) ?_
        intro h37 M tM tk37 F37 N37 hM _
        have hM1 := (LF.rise.2.1 M hM).1
        obtain ⟨_, hyg, hyok, hyl, hyb, hyl2, _⟩ := LF.yun
        have hvl : (v.map (fun x => kn * x)).length ≤ 7 := by rw [List.length_map]; exact hw7
        k_steps
        refine call_listS (sqfp_ok w (xs := v.map (fun x => kn * x)) (l := onceAt prs prs.length) (LI.ofNews N37 (by k_mem) ip) (by omega) (by rw [zder_len, zprim_len]; omega) hyg hyok hyl hyb hyl2 LF.sqpart) X T (by assumption) (by assumption) (by omega) (by omega) ?_
        intro r38 its38 n38 h38 tk38 F38 N38 i38
        try dsimp only
        k_steps
        unfold Halt
        refine eq_LI (LI.ofNews N38 (.head _) i38) (LI.ofNews N38 (by k_mem) ho) (by units_room) ?_
        rw [show (decide (onceAt prs prs.length = onceAt prs prs.length)) = true by simp]
        k_steps
        refine call_val (isqf_ok w (xs := v.map (fun x => kn * x)) (LI.ofNews N38 (by k_mem) ip) (by omega) (by rw [zder_len]; omega) LF.sqOk LF.sqLen) X T F38 N38 (by omega) (by omega) ?_
        intro h39 tk39 F39 N39
        try dsimp only
        k_steps
        unfold Halt
        rename Fr _ _ _ _ => F40
        rename News _ _ _ _ => N40
        refine eq_LI (LI.ofNews N40 (by k_mem) hzs) (LI.ofNews (xs := [1]) N40 (.head _) (.cons _ _ .nil)) (by units_room) ?_
        k_steps
        try refine hZf _ _ ?_
        exact hQ _ _ _ (Fr.keep (by assumption)) (by rw [LF.sqEq]; simp)
end


/-! the part W30 -/
theorem join (W : WhFacts) (H : LawHyp) : PySem.Challenge.rw_pq0216_01.Holds := by
  refine hd.openT.2 ?_
  unfold hd.openT
  dsimp only
  k_fill
  intro w s₀ s₁ mg mb G Y fa o pm cd doc dV kV ho hd hcd hD hmg hg args vals as hpre hlay hrd hwl hlo
  have KX := kIn_of Y
  have X := (Ground.X G).1
  have V := (Ground.X G).2
  refine Ground.open G ?_
  intro T B D TE TW
  wrow_args hpre hlay hrd hwl hlo
  rename IntsAre _ _ => hI
  rename Heap.IsList _ _ _ => hL
  rename ¬ (_ < _) => hlen
  have hfa : mg (Str.ofString "law") = some (.ref 264) := mg_of KX T.g rfl
  have efa : fa = 264 := by
    have h1 : mg (Str.ofString "law") = some (.ref fa) := hmg
    rw [hfa] at h1
    injection h1 with h1
    injection h1 with h1
    exact h1.symm
  subst efa
  have hA : callerA = Ar 301 4 [] (some []) := by
    show ({ depth := 1 + claimMargin, frames := some [], guards := some [], units := 4 } : Around) = _
    rw [show claimMargin = 300 by decide +kernel]
  rw [hA]
  have hx : ILI s₁.heap _ _ := ⟨_, hL, hI⟩
  refine wpAny_mono (law_ok w hx (by omega) W H (ExcName.means s₀.heap) mg mb 301 4 [] (some []) s₁ (fun v s' =>
      GoodWG Challenge.rw_pq0216_01.row.claim (classAt s₀.heap) (ExcName.means s₀.heap) _ s₁ (Except.ok (Flow.ret v)) s') KX T rfl (by decide) (by decide) ?_) (fun _ _ h => h) (fun _ _ (e : False) => e.elim)
  intro r h' tk' k e
  subst e
  exact GoodW.toG ⟨.inl ⟨.bool true, .bool true, [], rfl, fun _ => rfl, .bool true, postW_of (X := true) (by rfl) (by show WTm.value [] (.eq .res (.lit (.bool true))) _ = _; simp [WTm.value]; first | rfl | decide | decide +kernel | simp [PySem.W.same]) rfl, unshared_nil⟩, k, rfl, hg⟩
end Mine
end

section
/-! the part M11 -/
/-! the pieces and their products -/
set_option maxRecDepth 100000
namespace Mine
theorem N1_le : ∀ (p : List Int) (m : Nat), (∀ i, (p.getD i 0).natAbs ≤ m) → N1 p ≤ m * p.length
  | [], _, _ => by simp [N1]
  | c :: p, m, h => by
    have h0 := h 0
    have ih := N1_le p m fun i => by simpa using h (i + 1)
    simp only [N1, List.length_cons, Nat.mul_succ]
    simp at h0
    omega -splitDisjunctions -splitNatSub -splitNatAbs -splitMinMax
theorem part_small {p w : List Int} {c : Int} (hc : c ≠ 0) (h : ∀ i, p.getD i 0 = c * w.getD i 0) (i : Nat) : (w.getD i 0).natAbs ≤ (p.getD i 0).natAbs := by
  rw [h i, Int.natAbs_mul]
  exact Nat.le_mul_of_pos_left _ (by exact Int.natAbs_pos.mpr ‹_›)
theorem pc_coef {p : List Int} (h : Pc p) (i : Nat) : (p.getD i 0).natAbs ≤ 3 := by
  by_cases hi : i < p.length
  · have := h.2.2.1 _ (getD_mem' hi); omega
  · rw [getD_out (by exact Nat.not_lt.mp (by assumption))]; decide
theorem piece_dec {p : List Int} (hp : Pc p) : ∃ ps : List (List Int), (∀ q ∈ ps, Irr q ∧ N1 q ≤ 9) ∧ ps.length + 1 ≤ p.length ∧ ∃ c : Int, c ≠ 0 ∧ ∀ x, ev p x = c * ev (Lp ps) x := by
  have hl : lead p ≠ 0 := by have := hp.2.2.2; omega
  obtain ⟨hw, hwl, c, hc, _, hco⟩ := zprim_spec hl
  generalize zprim p = w at *
  have hws : ∀ i, (w.getD i 0).natAbs ≤ 3 := fun i => Nat.le_trans (part_small hc hco i) (pc_coef hp i)
  have hN : N1 w ≤ 9 := Nat.le_trans (N1_le w 3 hws) (by have := hp.2.1; omega)
  have hev := ev_factor hco
  have hlw : lead w ≠ 0 := by have := hw.2; omega
  have hlen1 := hp.1
  have hlen2 := hp.2.1
  have one : Irr w → ∃ ps : List (List Int), (∀ q ∈ ps, Irr q ∧ N1 q ≤ 9) ∧ ps.length + 1 ≤ p.length ∧ ∃ c : Int, c ≠ 0 ∧ ∀ x, ev p x = c * ev (Lp ps) x := fun hi =>
    ⟨[w], fun q hq => by rw [List.mem_singleton.mp hq]; exact ⟨hi, hN⟩, by simp; omega, c, hc, fun x => by rw [hev x]; simp only [Lp]; rw [(ev_mulP _ _ x).1]; simp [ev]⟩
  by_cases h2 : p.length = 2
  · exact one (irr_linear hw (by lia))
  · have h3 : w.length = 3 := by lia
    by_cases hi : Irr w
    · exact one hi
    · have : ∃ f, ¬ (Dv w f ∨ Cop w f) := by
        by_cases hex : ∃ f, ¬ (Dv w f ∨ Cop w f)
        · exact hex
        · exact absurd ⟨hw, by omega, fun f => by
            by_cases hf : Dv w f ∨ Cop w f
            · exact hf
            · exact absurd ⟨f, hf⟩ hex⟩ hi
      obtain ⟨f, hf⟩ := this
      have hnd : ¬ Dv w f := fun h => hf (.inl h)
      have hnc : ¬ Cop w f := fun h => hf (.inr h)
      have hrt := tr_prem (b := w) (tr_trim f)
      have hrl := prem_len (a := trim f) (b := w) (by omega)
      have hcf : Cop w (prem (trim f) w) → False := fun h => hnc (Cop.congr (cop_prem (by exact Nat.zero_lt_of_lt (by assumption)) h hlw) (fun _ => rfl) (fun x => ev_trim f x))
      have hr0 : prem (trim f) w ≠ [] := fun e => hnd (dv_trim_iff (dv_prem (by exact Nat.zero_lt_of_lt (by assumption)) hlw e))
      generalize prem (trim f) w = r at *
      have hr2 : r.length = 2 := by
        have := List.length_pos_iff.mpr hr0
        by_cases e : r.length = 1
        · exfalso
          obtain ⟨k, hk, he⟩ := const_list (by exact Nat.le_of_eq ‹_›) hr0 hrt
          exact hcf (Cop.const hk he)
        · lia
      have hlr := hrt.resolve_left hr0
      have hst := tr_prem (b := r) hw.tr
      have hsl := prem_len (a := w) (b := r) (by omega)
      have hs0 : prem w r = [] := by
        by_cases e : prem w r = []
        · exact e
        · exfalso
          obtain ⟨k, hk, he⟩ := const_list (by lia) e hst
          exact hcf (cop_prem (by exact Nat.zero_lt_of_lt (by assumption)) (Cop.const hk he) hlr).symm
      obtain ⟨c1, hc1, q, hq⟩ := dv_prem (by exact Nat.zero_lt_of_lt (by assumption)) hlr hs0
      have hq0 : trim q ≠ [] := fun e => by
        have : w.map (fun y => y * c1) = [] := tr_ev (by right; rw [lead_map (by simp)]; exact Int.mul_ne_zero hlw hc1) (.inl rfl) fun x _ => by
          rw [(ev_map_mul _ _ x).1, Int.mul_comm, hq x, ← ev_trim q, e]; simp [ev]
        exact hw.ne (List.map_eq_nil_iff.mp this)
      obtain ⟨p1, p1l, k1, hk1, _, hk1c⟩ := zprim_spec hlr
      obtain ⟨p2, p2l, k2, hk2, _, hk2c⟩ := zprim_spec ((tr_trim q).resolve_left hq0)
      have e1 := ev_factor hk1c
      have e2 := ev_factor hk2c
      generalize zprim r = l1 at *
      generalize zprim (trim q) = l2 at *
      have hprod : w = mulP l1 l2 := prim_unique hw (gauss p1 p2) hc1 (b := k1 * k2) (Int.mul_ne_zero hk1 hk2) fun x => by
        rw [hq x, (ev_mulP _ _ x).1, ← ev_trim q, e2 x, e1 x]; grind
      have hl2 : l2.length = 2 := by
        have h4 := (mulP_len l1 l2 p1.ne p2.ne).1
        rw [← hprod] at h4
        have := List.length_pos_iff.mpr p2.ne
        lia
      obtain ⟨n1, n2⟩ := small_factors (by lia) hl2 hprod hws hlw
      refine ⟨[l1, l2], fun z hz => ?_, by simp; lia, c, hc, fun x => ?_⟩
      · rcases List.mem_cons.mp hz with rfl | hz
        · exact ⟨irr_linear p1 (by lia), n1⟩
        · rw [List.mem_singleton.mp hz]; exact ⟨irr_linear p2 hl2, n2⟩
      · rw [hev x, hprod]
        simp only [Lp]
        rw [(ev_mulP _ _ x).1, (ev_mulP _ _ x).1, (ev_mulP _ _ x).1]
        simp [ev]
theorem ev_Lp_append (a b : List (List Int)) (x : Int) : ev (Lp (a ++ b)) x = ev (Lp a) x * ev (Lp b) x := by
  induction a with
  | nil => simp [Lp, ev]
  | cons c a ih => simp only [List.cons_append, Lp]; rw [(ev_mulP _ _ x).1, (ev_mulP _ _ x).1, ih, Int.mul_assoc]
/-- what is known of a product of pieces -/
structure PD (v : List Int) : Prop where
  pos : 0 < lead v
  nn : N1 v ≤ 9 ^ (v.length - 1)
  dec : ∃ qs : List (List Int), (∀ q ∈ qs, Irr q ∧ N1 q ≤ 9) ∧ qs.length + 1 ≤ v.length ∧ ∃ c : Int, c ≠ 0 ∧ ∀ x, ev v x = c * ev (Lp qs) x
theorem pd_one : PD [1] := ⟨by decide, by decide, [], fun _ h => (nomatch h), by simp, 1, by decide, fun x => by simp [Lp, ev]⟩
theorem PD.ne {v : List Int} (h : PD v) : v ≠ [] := fun e => by have := h.pos; rw [e] at this; exact absurd this (by decide)
theorem pc_ne {p : List Int} (h : Pc p) : p ≠ [] := fun e => by have := h.1; rw [e] at this; simp at this
theorem times_len {v p : List Int} (hv : v ≠ []) (hp : p ≠ []) : (times v p).length = v.length + p.length - 1 := by rw [times_eq hv hp]; exact (mulP_len v p hv hp).1
theorem pd_step {v p : List Int} (h : PD v) (hp : Pc p) : PD (times v p) := by
  have hlen := times_len h.ne (pc_ne hp)
  have he := times_eq h.ne (pc_ne hp)
  have h0 := List.length_pos_iff.mpr h.ne
  have hp1 := hp.1
  have hp2 := hp.2.1
  refine ⟨?_, ?_, ?_⟩
  · rw [he, (mulP_len v p h.ne (pc_ne hp)).2]
    exact Int.mul_pos h.pos (by have := hp.2.2.2; assumption)
  · rw [hlen, he]
    have h1 : N1 p ≤ 9 := Nat.le_trans (N1_le p 3 (pc_coef hp)) (by lia)
    refine Nat.le_trans (N1_mulP v p) (Nat.le_trans (Nat.mul_le_mul h.nn h1) ?_)
    rw [← Nat.pow_succ]
    exact Nat.pow_le_pow_right (by decide) (by omega)
  · obtain ⟨qs, i1, i2, c, hc, i3⟩ := h.dec
    obtain ⟨ps, j1, j2, d, hd, j3⟩ := piece_dec hp
    refine ⟨qs ++ ps, fun q hq => (List.mem_append.mp hq).elim (i1 q) (j1 q), by rw [hlen, List.length_append]; omega, c * d, Int.mul_ne_zero hc hd, fun x => ?_⟩
    rw [he, (ev_mulP _ _ x).1, i3 x, j3 x, ev_Lp_append]; grind
theorem pd_fold : ∀ (ps : List (List Int)) (v : List Int), PD v → (∀ p ∈ ps, Pc p) → PD (ps.foldl times v)
  | [], _, h, _ => h
  | p :: ps, v, h, hp => by
    simp only [List.foldl_cons]
    exact pd_fold ps _ (pd_step h (hp p (.head _))) fun q hq => hp q (.tail _ hq)
theorem wh_pd {v : List Int} (h : Wh v) : PD v := by
  obtain ⟨ps, hp, rfl, _⟩ := h
  exact pd_fold ps [1] pd_one hp
theorem wh_N1 {v : List Int} (h : Wh v) : N1 v ≤ 2 ^ 20 := by
  refine Nat.le_trans (wh_pd h).nn (Nat.le_trans (Nat.pow_le_pow_right (by decide) (by have := h.le; exact Nat.sub_le_sub_right ‹_› _ : v.length - 1 ≤ 6)) (by decide))
theorem whFacts : WhFacts where
  one := ⟨[], fun _ h => (nomatch h), rfl, by simp⟩
  bd := fun w h => (lim_N1 (wh_N1 h)).bd (by decide)
  pos := fun w h => List.length_pos_iff.mpr (wh_pd h).ne
  pc := fun ws b _ => by
    have h1 := Int.fmod_nonneg_of_pos (bval (bn ws b 1)) (b := 2) (by decide)
    have h2 := Int.fmod_lt_of_pos (bval (bn ws b 1)) (b := 2) (by decide)
    have h3 := Int.fmod_nonneg_of_pos (bval (bn ws b (pieceN ws b + 2))) (b := 3) (by decide)
    have h4 := Int.fmod_lt_of_pos (bval (bn ws b (pieceN ws b + 2))) (b := 3) (by decide)
    have hn : pieceN ws b = 1 ∨ pieceN ws b = 2 := by unfold pieceN; lia
    have hlen : (piece ws b).length = pieceN ws b + 1 := by unfold piece; simp
    refine ⟨by omega, by omega, fun x hx => ?_, ?_⟩
    · unfold piece at hx
      rcases List.mem_append.mp hx with hx | hx
      · obtain ⟨i, _, rfl⟩ := List.mem_map.mp hx
        have h5 := Int.fmod_nonneg_of_pos (bval (bn ws b (i + 2))) (b := 7) (by decide)
        have h6 := Int.fmod_lt_of_pos (bval (bn ws b (i + 2))) (b := 7) (by decide)
        omega
      · rw [List.mem_singleton.mp hx]; omega
    · unfold piece
      rw [lead_append _ _ (by simp)]
      simp [lead]; omega
  step := fun w p hw hp hl => by
    have hlen := times_len (wh_pd hw).ne (pc_ne hp)
    have := hp.1
    obtain ⟨ps, i1, i2, i3⟩ := hw
    refine ⟨⟨ps ++ [p], fun q hq => ?_, ?_, by omega⟩, by omega⟩
    · rcases List.mem_append.mp hq with hq | hq
      · exact i1 q hq
      · rw [List.mem_singleton.mp hq]; exact hp
    · rw [List.foldl_append, ← i2]; rfl
end Mine
end

section
/-! the part M12 -/
/-! Yun's loop gives the decomposition back -/
set_option maxRecDepth 100000
namespace Mine
noncomputable def outY : List (List Int) → Nat → List (List Int × Nat)
  | [], _ => []
  | a :: as, k => if 1 < a.length then (a, k) :: outY as (k + 1) else outY as (k + 1)
noncomputable def KN : List (List Int) → Nat
  | [] => 1
  | a :: as => N1 a * KN as
theorem N1_Lp : ∀ as : List (List Int), N1 (Lp as) ≤ KN as
  | [] => by decide
  | a :: as => Nat.le_trans (N1_mulP _ _) (Nat.mul_le_mul_left _ (N1_Lp as))
theorem KN_pos : ∀ {as : List (List Int)}, (∀ a ∈ as, Prim a) → 1 ≤ KN as
  | [], _ => Nat.le_refl _
  | a :: as, h => Nat.mul_pos (N1_pos (by have := (h a (.head _)).2; omega)) (KN_pos fun b hb => h b (.tail _ hb))
theorem KN_tail {a : List Int} {as : List (List Int)} (h : ∀ b ∈ a :: as, Prim b) : KN as ≤ KN (a :: as) ∧ N1 a ≤ KN (a :: as) :=
  ⟨Nat.le_mul_of_pos_left _ (N1_pos (by have := (h a (.head _)).2; omega)), Nat.le_mul_of_pos_right _ (KN_pos fun b hb => h b (.tail _ hb))⟩
theorem N1_X (as : List (List Int)) (h7 : (Lp as).length ≤ 7) (hD : N1 (Dt as) ≤ as.length * 7 * KN as) : N1 (trim (sumL (Dt as) (zder (Lp as)))) ≤ (as.length + 1) * 7 * KN as := by
  rw [N1_trim]
  refine Nat.le_trans (N1_sumL _ _) ?_
  have h1 : N1 (zder (Lp as)) ≤ KN as * 7 := Nat.le_trans (N1_zder _) (Nat.mul_le_mul (N1_Lp as) h7)
  have : (as.length + 1) * 7 * KN as = as.length * 7 * KN as + KN as * 7 := by rw [Nat.add_mul, Nat.add_mul]; lia
  omega
theorem N1_Dt : ∀ as : List (List Int), (∀ a ∈ as, Prim a) → (Lp as).length ≤ 7 → N1 (Dt as) ≤ as.length * 7 * KN as
  | [], _, _ => by simp [Dt, N1]
  | a :: as, h, h7 => by
    have h' : ∀ b ∈ as, Prim b := fun b hb => h b (.tail _ hb)
    have hl := Lp_cons_len h
    have ha := List.length_pos_iff.mpr (h a (.head _)).ne
    have ih := N1_X as (by omega) (N1_Dt as h' (by omega))
    simp only [Dt]
    split
    · simp [N1]
    · refine Nat.le_trans (N1_mulP _ _) (Nat.le_trans (Nat.mul_le_mul_left _ ih) ?_)
      simp only [List.length_cons, KN]
      rw [Nat.mul_left_comm]
      exact Nat.le_refl _
theorem outY_nil : ∀ (as : List (List Int)) (k : Nat), (∀ a ∈ as, Prim a) → (Lp as).length ≤ 1 → outY as k = []
  | [], _, _, _ => rfl
  | a :: as, k, h, hl => by
    have h' : ∀ b ∈ as, Prim b := fun b hb => h b (.tail _ hb)
    have h1 := Lp_cons_len h
    have ha := List.length_pos_iff.mpr (h a (.head _)).ne
    have hp := Lp_pos h'
    simp only [outY]
    rw [if_neg (by omega)]
    exact outY_nil as (k + 1) h' (by omega)
theorem small_bd {p : List Int} {γ : Nat} (h : N1 p ≤ 2 ^ γ) (hg : γ ≤ 1000) : Bd p := (lim_N1 h).bd (Nat.lt_of_le_of_lt hg (by decide))
/-- a part of the loop -/
theorem part_ok {a : List Int} {as : List (List Int)} (h : ∀ b ∈ a :: as, Prim b) (hs : Sqf (a :: as)) (hK : KN (a :: as) ≤ 2 ^ 20) (h7 : (Lp (a :: as)).length ≤ 7) (hn : (a :: as).length ≤ 7) :
    gcOk (Lp (a :: as)) (Dt (a :: as)) ∧ zgcd (Lp (a :: as)) (Dt (a :: as)) = a := by
  have h' : ∀ b ∈ as, Prim b := fun b hb => h b (.tail _ hb)
  have hpa := h a (.head _)
  have hpL := Lp_prim h
  have hpL' := Lp_prim h'
  have hll : lead (Lp (a :: as)) ≠ 0 := by have := hpL.2; omega
  have hNL : N1 (Lp (a :: as)) ≤ 2 ^ 20 := Nat.le_trans (N1_Lp _) hK
  have hcD := cop_D hs.head.2.2 1 (Nat.le_refl _)
  have hX : ∀ x, ev (trim (sumL (Dt as) (zder (Lp as)))) x = ev (Dt as) x + dv (Lp as) x := fun x => by rw [ev_trim, (ev_sumL _ _ x).1, ev_zder]
  have hcX : Cop (Lp as) (trim (sumL (Dt as) (zder (Lp as)))) := Cop.congr hcD (fun _ => rfl) fun x => by
    rw [hX x, (ev_sumL _ _ x).1, ev_zscale, ev_zder]; simp
  have hal := List.length_pos_iff.mpr hpa.ne
  have hlc := Lp_cons_len h
  by_cases e : trim (sumL (Dt as) (zder (Lp as))) = []
  · have hD : Dt (a :: as) = [] := by simp only [Dt]; rw [if_pos e]
    rw [hD]
    have hL1 : Lp as = [1] := by
      obtain ⟨c, hc, u, v, he⟩ := hcX
      obtain ⟨k, hk, hkx⟩ := const_of_mul (w1 := Lp as) (w2 := u) hc (fun x => by
        rw [he x, e]; simp only [ev]; grind)
      exact prim_unique hpL' prim_1 (a := 1) (b := k) (by decide) hk fun x => by rw [hkx x]; simp [ev]
    have hLa : Lp (a :: as) = a := by
      refine tr_ev hpL.tr hpa.tr fun x _ => ?_
      simp only [Lp]
      rw [(ev_mulP _ _ x).1, hL1]; simp [ev]
    refine ⟨⟨hpL.ne, cont_ne hll, fun _ => ⟨?_, ?_⟩, fun z => absurd rfl z⟩, ?_⟩
    · rw [prim_self hpL]; exact small_bd hNL (by decide)
    · rw [hpL.1]; exact ⟨1, by decide, by decide⟩
    · rw [zgcd_nil hpL.ne, prim_self hpL, hpL.1, hLa]
      unfold zscale; simp
  · have hD : Dt (a :: as) = mulP a (trim (sumL (Dt as) (zder (Lp as)))) := by simp only [Dt]; rw [if_neg e]
    have hne : Dt (a :: as) ≠ [] := by rw [hD]; exact mulP_ne hpa.ne e
    have hld : lead (Dt (a :: as)) ≠ 0 := (tr_Dt _ h).resolve_left hne
    have hdl := Dt_len _ h
    have hND : N1 (Dt (a :: as)) ≤ 2 ^ 26 := by
      refine Nat.le_trans (N1_Dt _ h h7) ?_
      calc (a :: as).length * 7 * KN (a :: as) ≤ 7 * 7 * 2 ^ 20 := Nat.mul_le_mul (Nat.mul_le_mul_right _ hn) hK
        _ ≤ 2 ^ 26 := by decide
    obtain ⟨g1, _, g3⟩ := zgcd_main (a := Lp (a :: as)) (b := Dt (a :: as)) (g := a) (s := Lp as) (t := trim (sumL (Dt as) (zder (Lp as)))) (γ := 26) hll hld (by omega) h7 (lim_N1 (Nat.le_trans hNL (by decide))) (lim_N1 hND) (by decide) hpa
      (small_bd (Nat.le_trans (KN_tail h).2 hK) (by decide)) (fun x => by simp only [Lp]; rw [(ev_mulP _ _ x).1]) (fun x => by rw [ev_Dt, hX x]) hcX
    exact ⟨g1, g3 hpL.1⟩
theorem yun_loop : ∀ (as : List (List Int)) (many n : Nat), (∀ a ∈ as, Prim a) → Sqf as → KN as ≤ 2 ^ 20 → as.length ≤ 7 → (Lp as).length ≤ 7 → as.length ≤ n → yunOk n (Lp as) (Dt as) many (outY as many)
  | [], _, 0, _, _, _, _, _, _ => ⟨by simp [Lp], by simp [Dt], rfl⟩
  | [], _, n + 1, _, _, _, _, _, _ => ⟨by simp [Lp], by simp [Dt], .inl ⟨by simp [Lp], rfl⟩⟩
  | a :: as, _, 0, _, _, _, _, _, h => absurd h (by simp)
  | a :: as, many, n + 1, h, hs, hK, hn, h7, hnn => by
    have h' : ∀ b ∈ as, Prim b := fun b hb => h b (.tail _ hb)
    have hpa := h a (.head _)
    have hpL := Lp_prim h
    have hpL' := Lp_prim h'
    have hlc := Lp_cons_len h
    have hal := List.length_pos_iff.mpr hpa.ne
    have hdl := Dt_len _ h
    have hdl' := Dt_len _ h'
    refine ⟨by omega, by omega, ?_⟩
    by_cases hl : (Lp (a :: as)).length ≤ 1
    · exact .inl ⟨hl, outY_nil _ _ h hl⟩
    · right
      obtain ⟨g1, g2⟩ := part_ok h hs hK h7 hn
      rw [g2]
      simp only [List.length_cons] at hn hnn
      have hX : ∀ x, ev (trim (sumL (Dt as) (zder (Lp as)))) x = ev (Dt as) x + dv (Lp as) x := fun x => by rw [ev_trim, (ev_sumL _ _ x).1, ev_zder]
      have hKt := Nat.le_trans (KN_tail h).1 hK
      have hNX : N1 (trim (sumL (Dt as) (zder (Lp as)))) ≤ 2 ^ 26 := by
        refine Nat.le_trans (N1_X as (by omega) (N1_Dt as h' (by omega))) ?_
        calc (as.length + 1) * 7 * KN as ≤ 7 * 7 * 2 ^ 20 := Nat.mul_le_mul (Nat.mul_le_mul_right _ hn) hKt
          _ ≤ 2 ^ 26 := by decide
      have hXl := trim_le (sumL (Dt as) (zder (Lp as)))
      rw [sumL_len, zder_length] at hXl
      refine ⟨by exact Nat.not_le.mp (by assumption), g1, by have := hpa.2; omega, small_bd (Nat.le_trans (KN_tail h).2 hK) (by decide), by omega, Lp as, trim (sumL (Dt as) (zder (Lp as))), outY as (many + 1), ?_, ?_, by omega, by omega, ?_, ?_⟩
      · exact exact_ok hpL.tr (by have := hpa.2; omega) hpL'.tr (fun x => by simp only [Lp]; rw [(ev_mulP _ _ x).1]) (small_bd (Nat.le_trans (N1_Lp _) hKt) (by decide))
      · exact exact_ok (tr_Dt _ h) (by have := hpa.2; omega) (tr_trim _) (fun x => by rw [ev_Dt, hX x]) (small_bd hNX (by decide))
      · simp only [outY]
      · have e : zsub (trim (sumL (Dt as) (zder (Lp as)))) (zder (Lp as)) = Dt as := tr_ev (tr_zsub _ _) (tr_Dt _ h') fun x _ => by
          rw [ev_zsub, hX x, ev_zder]; simp
        rw [e]
        exact yun_loop as (many + 1) n h' hs.head.2.2 hKt (by exact Nat.le_of_lt (by assumption)) (by omega) (by exact Nat.le_of_succ_le_succ (by assumption))
/-- all that the law starts from -/
structure St (v : List Int) (as : List (List Int)) : Prop where
  prim : ∀ a ∈ as, Prim a
  sqf : Sqf as
  kn : KN as ≤ 2 ^ 20
  len : as.length ≤ 7
  wlen : v.length = (Pw 1 as).length
  w7 : v.length ≤ 7
  w2 : 2 ≤ v.length
  pos : 0 < lead v
  n1 : N1 v ≤ 2 ^ 20
  g1 : N1 (Pw 0 as) ≤ 2 ^ 20
  zp : zprim v = Pw 1 as
theorem scaled_zprim {v : List Int} {k : Int} (hk : k ≠ 0) (hl : lead v ≠ 0) : zprim (v.map fun x => k * x) = zprim v := by
  have e : (v.map fun x => k * x) = v.map fun x => x * k := by congr 1; funext x; rw [Int.mul_comm]
  have hl2 : lead (v.map fun x => k * x) ≠ 0 := by rw [lead_map (by simp)]; exact Int.mul_ne_zero hk hl
  obtain ⟨p1, _, c1, hc1, _, h1⟩ := zprim_spec hl2
  obtain ⟨p2, _, c2, hc2, _, h2⟩ := zprim_spec hl
  refine prim_unique p1 p2 hc1 (b := k * c2) (Int.mul_ne_zero hk hc2) fun x => ?_
  rw [← ev_factor h1 x, e, (ev_map_mul _ _ x).1, ev_factor h2 x]; grind
theorem Lp_le_Pw : ∀ (as : List (List Int)) (n : Nat), (∀ a ∈ as, Prim a) → (Lp as).length ≤ (Pw (n + 1) as).length
  | [], _, _ => Nat.le_refl _
  | a :: as, n, h => by
    have h' : ∀ b ∈ as, Prim b := fun b hb => h b (.tail _ hb)
    have ih := Lp_le_Pw as (n + 1) h'
    have h1 := Lp_cons_len h
    have hpa := h a (.head _)
    have h2 : (Pw (n + 1) (a :: as)).length = (powL a (n + 1)).length + (Pw (n + 1 + 1) as).length - 1 := (mulP_len _ _ (powL_prim hpa _).ne (Pw_prim _ h').ne).1
    have h3 : (powL a (n + 1)).length = a.length + (powL a n).length - 1 := (mulP_len _ _ hpa.ne (powL_prim hpa n).ne).1
    have h4 := List.length_pos_iff.mpr (powL_prim hpa n).ne
    have h5 := Lp_pos h'
    omega
theorem St.l7 {v : List Int} {as : List (List Int)} (S : St v as) : (Lp as).length ≤ 7 := by
  have h1 : (Lp as).length ≤ (Pw 1 as).length := Lp_le_Pw as 0 S.prim
  have := S.wlen
  have := S.w7
  lia
theorem St.cop {v : List Int} {as : List (List Int)} (S : St v as) : Cop (Lp as) (trim (sumL (Dt as) (zder (Lp as)))) := Cop.congr (cop_D S.sqf 1 (Nat.le_refl _)) (fun _ => rfl) fun x => by
    rw [ev_trim, (ev_sumL _ _ x).1, (ev_sumL _ _ x).1, ev_zscale]; simp
theorem St.X {v : List Int} {as : List (List Int)} (_ : St v as) (x : Int) : ev (trim (sumL (Dt as) (zder (Lp as)))) x = ev (Dt as) x + dv (Lp as) x := by rw [ev_trim, (ev_sumL _ _ x).1, ev_zder]
theorem St.start {v : List Int} {as : List (List Int)} (S : St v as) : gcOk (Pw 1 as) (zder (Pw 1 as)) ∧ zgcd (Pw 1 as) (zder (Pw 1 as)) = Pw 0 as := by
  have hw := Pw_prim 1 S.prim
  have hl : lead (Pw 1 as) ≠ 0 := by have := hw.2; omega
  have h2 : 2 ≤ (Pw 1 as).length := by have := S.w2; have := S.wlen; omega
  have hv : lead v ≠ 0 := by have := S.pos; omega
  obtain ⟨_, zl, c, hc, _, hco⟩ := zprim_spec hv
  rw [S.zp] at hco zl
  have hN : N1 (Pw 1 as) ≤ 2 ^ 20 := by
    have := N1_of_getD (Pw 1 as) v 1 (by lia) fun i _ => by rw [Nat.mul_one]; exact part_small hc hco i
    have := S.n1
    lia
  have hN2 : N1 (zder (Pw 1 as)) ≤ 2 ^ 23 := Nat.le_trans (N1_zder _) (by
    calc N1 (Pw 1 as) * (Pw 1 as).length ≤ 2 ^ 20 * 7 := Nat.mul_le_mul hN (by have := S.w7; omega)
      _ ≤ 2 ^ 23 := by decide)
  obtain ⟨g1, _, g3⟩ := zgcd_main (a := Pw 1 as) (b := zder (Pw 1 as)) (g := Pw 0 as) (s := Lp as) (t := trim (sumL (Dt as) (zder (Lp as)))) (γ := 23) hl (lead_zder h2 hl) (by rw [zder_length]; exact Nat.sub_le _ _) (by have := S.w7; omega)
    (lim_N1 (Nat.le_trans hN (by decide))) (lim_N1 hN2) (by decide) (Pw_prim 0 S.prim) (small_bd S.g1 (by decide)) (fun x => Pw_succ as 0 x) (fun x => by rw [ev_zder, dv_Pw as 0 x, S.X x]; simp) S.cop
  exact ⟨g1, g3 hw.1⟩
theorem St.xlen {v : List Int} {as : List (List Int)} (S : St v as) : (trim (sumL (Dt as) (zder (Lp as)))).length ≤ 7 := by
  have h1 := trim_le (sumL (Dt as) (zder (Lp as)))
  have h2 := Dt_len as S.prim
  have h3 := S.l7
  rw [sumL_len, zder_length] at h1
  omega
theorem St.sqpart {v : List Int} {as : List (List Int)} (S : St v as) : exGood (Pw 1 as) (Pw 0 as) (Lp as) :=
  exact_ok (Pw_prim 1 S.prim).tr (by have := (Pw_prim 0 S.prim).2; omega) (Lp_prim S.prim).tr (fun x => Pw_succ as 0 x) (small_bd (Nat.le_trans (N1_Lp _) S.kn) (by decide))
theorem St.yun {v : List Int} {as : List (List Int)} (S : St v as) {k : Int} (hk : k ≠ 0) : yunPre (v.map fun x => k * x) (outY as 1) := by
  have hv : lead v ≠ 0 := by have := S.pos; omega
  have hl : lead (v.map fun x => k * x) ≠ 0 := by rw [lead_map (by simp)]; exact Int.mul_ne_zero hk hv
  have hz : zprim (v.map fun x => k * x) = Pw 1 as := by rw [scaled_zprim hk hv, S.zp]
  obtain ⟨s1, s2⟩ := S.start
  have hG := Pw_prim 0 S.prim
  have hGl : (Pw 0 as).length ≤ 7 := by
    have h1 : Pw 1 as = mulP (Pw 0 as) (Lp as) := tr_ev (Pw_prim 1 S.prim).tr (tr_mulP hG.tr (Lp_prim S.prim).tr hG.ne (Lp_prim S.prim).ne) fun x _ => by rw [(ev_mulP _ _ x).1]; exact Pw_succ as 0 x
    have h2 := (mulP_len _ _ hG.ne (Lp_prim S.prim).ne).1
    rw [← h1] at h2
    have := Lp_pos S.prim
    have := S.wlen
    have := S.w7
    omega
  have hNX : N1 (trim (sumL (Dt as) (zder (Lp as)))) ≤ 2 ^ 26 := by
    refine Nat.le_trans (N1_X as S.l7 (N1_Dt as S.prim S.l7)) ?_
    calc (as.length + 1) * 7 * KN as ≤ 8 * 7 * 2 ^ 20 := Nat.mul_le_mul (Nat.mul_le_mul_right _ (by have := S.len; lia)) S.kn
      _ ≤ 2 ^ 26 := by decide
  unfold yunPre
  rw [hz, s2]
  refine ⟨by rw [List.length_map]; have := S.w7; omega, cont_ne hl, s1, by have := hG.2; omega, small_bd S.g1 (by decide), by omega, Lp as, trim (sumL (Dt as) (zder (Lp as))), as.length, S.sqpart, ?_, by have := S.l7; omega, by have := S.xlen; omega, by have := S.len; omega, ?_⟩
  · exact exact_ok (tr_zder (Pw_prim 1 S.prim).tr) (by have := hG.2; omega) (tr_trim _) (fun x => by rw [ev_zder, dv_Pw as 0 x, S.X x]; simp) (small_bd hNX (by decide))
  · have e : zsub (trim (sumL (Dt as) (zder (Lp as)))) (zder (Lp as)) = Dt as := tr_ev (tr_zsub _ _) (tr_Dt _ S.prim) fun x _ => by
      rw [ev_zsub, S.X x, ev_zder]; simp
    rw [e]
    exact yun_loop as 1 as.length S.prim S.sqf S.kn S.len S.l7 (Nat.le_refl _)
end Mine
end

section
/-! the part M13 -/
/-! the law's own division by fractions -/
set_option maxRecDepth 100000
namespace Mine
theorem lrRow_getD (a b : List Int) (hb : 0 < b.length) (hl : b.length ≤ a.length) (i : Nat) : (lrRow a b).getD i 0 = (zsub (zscale a (lead b)) (zraise (zscale b (lead a)) (a.length - b.length))).getD i 0 := by
  rw [zsub_getD, zscale_getD, zraise_getD, zscale_getD]
  unfold lrRow
  by_cases h : i < a.length
  · have e : ((List.range a.length).map fun i => a.getD i 0 * lead b - (if a.length - b.length ≤ i then lead a * b.getD (i - (a.length - b.length)) 0 else 0)).getD i 0 = a.getD i 0 * lead b - (if a.length - b.length ≤ i then lead a * b.getD (i - (a.length - b.length)) 0 else 0) := by
      simp only [List.getD_eq_getElem?_getD, List.getElem?_map, List.getElem?_range h, Option.map_some, Option.getD_some]
    rw [e]
    by_cases h2 : i < a.length - b.length
    · rw [if_neg (by omega), if_pos h2]
    · rw [if_pos (by exact Nat.not_lt.mp (by assumption)), if_neg h2, Int.mul_comm (lead a)]
  · rw [getD_out (by simp; omega), getD_out (p := a) (by omega), if_neg (by omega), getD_out (p := b) (by omega)]; simp
theorem ev_lrRow (a b : List Int) (hb : 0 < b.length) (hl : b.length ≤ a.length) (x : Int) : ev (lrRow a b) x = ev a x * lead b - x ^ (a.length - b.length) * (ev b x * lead a) := by
  rw [(ev_congr (lrRow_getD a b hb hl) x).1, ev_zsub, ev_zscale, ev_zraise, ev_zscale]
theorem lsmall_spec (p : List Int) : ∃ c : Int, c ≠ 0 ∧ ∀ i, p.getD i 0 = c * (lsmall p).getD i 0 := by
  unfold lsmall
  split
  · rename_i h
    refine ⟨gcdAll p, by omega, fun i => ?_⟩
    unfold zdiv
    rw [cf_map (by simp)]
    obtain ⟨y, hy⟩ := cont_dvd_getD p i
    rw [hy, Int.mul_fdiv_cancel_left _ (by omega)]
  · exact ⟨1, by decide, fun i => by simp⟩
theorem tr_lsmall {p : List Int} (h : Tr p) : Tr (lsmall p) := by
  rcases h with e | e
  · left
    apply List.length_eq_zero_iff.mp
    rw [lsmall_len, e]; rfl
  · right
    obtain ⟨c, _, hco⟩ := lsmall_spec p
    intro z
    apply e
    unfold lead at z ⊢
    rw [lsmall_len] at z
    rw [hco, z]; simp
theorem lr_ev {b : List Int} (hb : lead b ≠ 0) : ∀ (n : Nat) (a : List Int), Tr a → a.length < n → Tr (lrLoop b n a) ∧ ∃ E : Int, E ≠ 0 ∧ ∃ k : Int, k ≠ 0 ∧ ∃ q : List Int, ∀ x, E * ev a x = ev q x * ev b x + k * ev (lrLoop b n a) x
  | 0, _, _, h => absurd h (Nat.not_lt_zero _)
  | n + 1, a, ha, h => by
    have hb0 := List.length_pos_iff.mpr (lead_ne hb)
    unfold lrLoop
    split
    · rename_i hl
      have hlen := lrStep_len hb0 hl
      obtain ⟨t, E, hE, k, hk, q, he⟩ := lr_ev hb n (lrStep a b) (tr_lsmall (tr_trim _)) (by exact nb12 ‹_› ‹_›)
      obtain ⟨c, hc, hco⟩ := lsmall_spec (trim (lrRow a b))
      have hc2 : ∀ x, ev (lrRow a b) x = c * ev (lrStep a b) x := fun x => by rw [← ev_trim]; exact ev_factor hco x
      refine ⟨t, E * lead b, Int.mul_ne_zero hE hb, c * k, Int.mul_ne_zero hc hk, sumL (zscale (zraise [lead a] (a.length - b.length)) E) (zscale q c), fun x => ?_⟩
      rw [(ev_sumL _ _ x).1, ev_zscale, ev_zscale, ev_zraise]
      have z1 := hc2 x
      have z2 := he x
      rw [ev_lrRow a b hb0 hl] at z1
      simp only [ev]
      generalize x ^ (a.length - b.length) = X at *
      generalize ev (lrLoop b n (lrStep a b)) x = R at *
      generalize ev (lrStep a b) x = Y at *
      calc E * lead b * ev a x = E * (ev a x * lead b) := by grind
        _ = E * (X * (ev b x * lead a)) + c * (E * Y) := by
          have : ev a x * lead b = X * (ev b x * lead a) + c * Y := by lia
          rw [this]; grind
        _ = _ := by rw [z2]; grind
    · exact ⟨ha, 1, by decide, 1, by decide, [], fun x => by simp [ev]⟩
theorem lap_true : ∀ (n : Nat) (a b : List Int), Tr a → a ≠ [] → Tr b → b.length < n → Cop a b → lapLoop n a b = true
  | 0, _, _, _, _, _, h, _ => absurd h (Nat.not_lt_zero _)
  | n + 1, a, b, ha, han, hb, h, hc => by
    unfold lapLoop
    by_cases e : b = []
    · rw [if_pos e]
      subst e
      obtain ⟨c, hc0, u, v, he⟩ := hc
      obtain ⟨k, hk, hkx⟩ := const_of_mul (w1 := a) (w2 := u) hc0 (fun x => by rw [he x]; simp only [ev]; grind)
      have : a = [k] := tr_ev ha (.inr (by simpa [lead] using hk)) fun x _ => by rw [hkx x]; simp [ev]
      rw [this]; rfl
    · rw [if_neg e]
      have hlb := hb.resolve_left e
      have hb0 := List.length_pos_iff.mpr e
      obtain ⟨t, E, hE, k, hk, q, he⟩ := lr_ev hlb (a.length + 1) a ha (Nat.lt_succ_self _)
      have hlt := lrest_len (a := a) hb0
      refine lap_true n b (lrest a b) hb e t (by exact nb12 ‹_› ‹_›) ?_
      obtain ⟨c, hc0, u, v, hx⟩ := hc
      refine ⟨E * c, Int.mul_ne_zero hE hc0, sumL (mulP u q) (zscale v E), zscale u k, fun x => ?_⟩
      rw [(ev_sumL _ _ x).1, ev_zscale, ev_zscale, (ev_mulP _ _ x).1]
      have z1 := hx x
      have z2 := he x
      show _ = _ + _ * ev (lrLoop b (a.length + 1) a) x
      calc E * c = ev u x * (E * ev a x) + E * (ev v x * ev b x) := by rw [z1]; grind
        _ = _ := by rw [z2]; grind
theorem lr_lim {b : List Int} {β : Nat} (hb0 : 0 < b.length) (hb : Lim β b) : ∀ (n : Nat) (a : List Int) (c : Nat), Lim c a → a.length < n → c + (β + 1) * (a.length + 1 - b.length) < 67108864 → lrOk b n a ∧ Lim (c + (β + 1) * (a.length + 1 - b.length)) (lrLoop b n a)
  | 0, _, _, _, h, _ => absurd h (Nat.not_lt_zero _)
  | n + 1, a, c, ha, h, hc => by
    unfold lrLoop
    by_cases hl : b.length ≤ a.length
    · rw [if_pos hl]
      have hlen := lrStep_len hb0 hl
      obtain ⟨s, hs⟩ : ∃ s, a.length + 1 - b.length = s + 1 := ⟨a.length - b.length, by grind⟩
      have hmul : (β + 1) * (a.length + 1 - b.length) = (β + 1) * s + (β + 1) := by rw [hs, Nat.mul_succ]
      have hle : (β + 1) * ((lrStep a b).length + 1 - b.length) ≤ (β + 1) * s := Nat.mul_le_mul_left _ (by omega)
      have hst : Lim (c + β + 1) (lrStep a b) := fun j => by
        obtain ⟨d, hd, hco⟩ := lsmall_spec (trim (lrRow a b))
        have h1 := part_small hd hco j
        rw [trim_getD, lrRow_getD a b hb0 hl, zsub_getD, zscale_getD, zraise_getD, zscale_getD] at h1
        refine Nat.le_trans h1 ?_
        have h2 : (a.getD j 0 * lead b).natAbs ≤ 2 ^ (c + β) := by rw [Int.natAbs_mul, Nat.pow_add]; exact Nat.mul_le_mul (ha j) hb.lead
        rw [Nat.pow_succ]
        split
        · lia
        · have h3 : (b.getD (j - (a.length - b.length)) 0 * lead a).natAbs ≤ 2 ^ (c + β) := by rw [Int.natAbs_mul, Nat.pow_add, Nat.mul_comm]; exact Nat.mul_le_mul ha.lead (hb _)
          omega
      obtain ⟨i1, i2⟩ := lr_lim hb0 hb n (lrStep a b) (c + β + 1) hst (by exact nb12 ‹_› ‹_›) (by omega)
      have hββ : β < 67108864 := by
        have : β + 1 ≤ (β + 1) * s + (β + 1) := Nat.le_add_left _ _
        omega
      exact ⟨fun _ => ⟨ha.bd (by omega), small_of hb.lead hββ, i1⟩, i2.mono (by omega)⟩
    · rw [if_neg hl]
      exact ⟨fun h => absurd h hl, ha.mono (by exact Nat.le_add_right _ _)⟩
theorem three_pow (s : Nat) : 1 + s ≤ 3 ^ s := by
  induction s with
  | zero => decide
  | succ s ih => rw [Nat.pow_succ]; lia
theorem lap_lim : ∀ (n : Nat) (a b : List Int) (B : Nat), Lim B a → Lim B b → (B + 1) * 3 ^ (a.length + b.length) < 67108864 → lapOk n a b
  | 0, _, _, _, _, _, _ => trivial
  | n + 1, a, b, B, ha, hb, hB => by
    intro e
    have hb0 := List.length_pos_iff.mpr e
    have hp : 1 ≤ 3 ^ (a.length + b.length) := Nat.one_le_pow _ _ (by decide)
    have hBB : B + 1 ≤ (B + 1) * 3 ^ (a.length + b.length) := Nat.le_mul_of_pos_right _ hp
    have hs : (B + 1) * (1 + (a.length + 1 - b.length)) ≤ (B + 1) * 3 ^ (a.length + b.length) := Nat.mul_le_mul_left _ (Nat.le_trans (three_pow _) (Nat.pow_le_pow_right (by decide) (by omega)))
    rw [Nat.mul_add, Nat.mul_one] at hs
    obtain ⟨i1, i2⟩ := lr_lim hb0 hb (a.length + 1) a B ha (Nat.lt_succ_self _) (by omega)
    refine ⟨hb.bd (by exact Nat.le_of_lt (Nat.lt_of_le_of_lt ‹_› ‹_›)), i1, lap_lim n b (lrest a b) (B + (B + 1) * (a.length + 1 - b.length)) (hb.mono (Nat.le_add_right _ _)) i2 (Nat.lt_of_le_of_lt ?_ hB)⟩
    have e1 : B + (B + 1) * (a.length + 1 - b.length) + 1 = (B + 1) * (1 + (a.length + 1 - b.length)) := by rw [Nat.mul_add, Nat.mul_one]; lia
    rw [e1, Nat.mul_assoc]
    refine Nat.mul_le_mul_left _ ?_
    by_cases hl : b.length ≤ a.length
    · have hlt := lrest_len (a := a) hb0
      calc (1 + (a.length + 1 - b.length)) * 3 ^ (b.length + (lrest a b).length) ≤ 3 ^ (a.length + 1 - b.length) * 3 ^ (b.length + (lrest a b).length) := Nat.mul_le_mul_right _ (three_pow _)
        _ = 3 ^ (a.length + 1 - b.length + (b.length + (lrest a b).length)) := (Nat.pow_add ..).symm
        _ ≤ _ := Nat.pow_le_pow_right (by decide) (by omega)
    · have h1 : lrest a b = a := by unfold lrest; rw [lrLoop, if_neg hl]
      have h2 : a.length + 1 - b.length = 0 := by omega
      rw [h1, h2, Nat.add_comm b.length]; simp
end Mine
end

section
/-! the part M14 -/
/-! the law's facts -/
set_option maxRecDepth 100000
namespace Mine
theorem KN_le : ∀ (l : List (List Int)), (∀ q ∈ l, N1 q ≤ 9) → KN l ≤ 9 ^ l.length
  | [], _ => Nat.le_refl _
  | q :: l, h => by
    simp only [KN, List.length_cons, Nat.pow_succ]
    rw [Nat.mul_comm (9 ^ _)]
    exact Nat.mul_le_mul (h q (.head _)) (KN_le l fun r hr => h r (.tail _ hr))
theorem N1_powL (a : List Int) : ∀ n, N1 (powL a n) ≤ N1 a ^ n
  | 0 => by simp [powL, N1]
  | n + 1 => by
    rw [Nat.pow_succ, Nat.mul_comm]
    exact Nat.le_trans (N1_mulP _ _) (Nat.mul_le_mul_left _ (N1_powL a n))
theorem KN_vl : ∀ (as : MM) (n : Nat), 1 ≤ n → (∀ q, Mem q as → N1 q ≤ 9) → KN (vl as) ≤ 9 ^ wt n as
  | [], _, _, _ => Nat.le_refl _
  | l :: as, n, hn, h => by
    have h1 : N1 (Lp l) ≤ 9 ^ (n * l.length) := Nat.le_trans (N1_Lp l) (Nat.le_trans (KN_le l fun q hq => h q ⟨l, .head _, hq⟩) (Nat.pow_le_pow_right (by decide) (Nat.le_mul_of_pos_left _ hn)))
    have h2 := KN_vl as (n + 1) (by exact Nat.succ_pos _) fun q ⟨k, hk, hq⟩ => h q ⟨k, .tail _ hk, hq⟩
    show N1 (Lp l) * KN (vl as) ≤ _
    simp only [wt, Nat.pow_add]
    exact Nat.mul_le_mul h1 h2
theorem N1_Pw : ∀ (as : MM) (n : Nat), (∀ q, Mem q as → N1 q ≤ 9) → N1 (Pw n (vl as)) ≤ 9 ^ wt n as
  | [], _, _ => by simp [Pw, vl, wt, N1]
  | l :: as, n, h => by
    have h1 : N1 (Lp l) ≤ 9 ^ l.length := Nat.le_trans (N1_Lp l) (KN_le l fun q hq => h q ⟨l, .head _, hq⟩)
    have h2 := N1_Pw as (n + 1) fun q ⟨k, hk, hq⟩ => h q ⟨k, .tail _ hk, hq⟩
    have h3 : N1 (powL (Lp l) n) ≤ 9 ^ (n * l.length) := by
      refine Nat.le_trans (N1_powL _ _) (Nat.le_trans (Nat.pow_le_pow_left h1 n) ?_)
      rw [← Nat.pow_mul, Nat.mul_comm]; exact Nat.le_refl _
    show N1 (mulP (powL (Lp l) n) (Pw (n + 1) (vl as))) ≤ _
    simp only [wt, Nat.pow_add]
    exact Nat.le_trans (N1_mulP _ _) (Nat.mul_le_mul h3 h2)
theorem wt_mono : ∀ (as : MM) (n : Nat), wt n as ≤ wt (n + 1) as
  | [], _ => Nat.le_refl _
  | l :: as, n => by
    have := wt_mono as (n + 1)
    simp only [wt, Nat.succ_mul]
    omega
theorem nine6 {m : Nat} (h : m ≤ 6) : 9 ^ m ≤ 2 ^ 20 := Nat.le_trans (Nat.pow_le_pow_right (by decide) h) (by decide)
theorem start_of {v : List Int} (hw : Wh v) (h2 : 2 ≤ v.length) : ∃ as, St v as := by
  have hp := wh_pd hw
  have h7 := hw.le
  obtain ⟨qs, i1, i2, c, hc, i3⟩ := hp.dec
  obtain ⟨as, j1, j2, j3, j4, j5⟩ := decomp qs fun q hq => (i1 q hq).1
  have hn9 : ∀ q, Mem q as → N1 q ≤ 9 := fun q hq => (i1 q (j1 q hq)).2
  have hprim : ∀ a ∈ vl as, Prim a := fun a ha => by
    obtain ⟨l, hl, rfl⟩ := List.mem_map.mp ha
    exact Lp_prim fun q hq => (i1 q (j1 q ⟨l, hl, hq⟩)).1.1
  have hl : lead v ≠ 0 := by have := hp.pos; omega
  obtain ⟨z1, z2, k, hk, _, z3⟩ := zprim_spec hl
  have hz : zprim v = Pw 1 (vl as) := prim_unique z1 (Pw_prim 1 hprim) hk hc fun x => by rw [← ev_factor z3 x, i3 x, j2 x]
  refine ⟨vl as, hprim, j3, ?_, ?_, by rw [← hz, z2], h7, h2, hp.pos, wh_N1 hw, ?_, hz⟩
  · exact Nat.le_trans (KN_vl as 1 (Nat.le_refl _) hn9) (nine6 (by lia))
  · unfold vl; rw [List.length_map]; lia
  · exact Nat.le_trans (N1_Pw as 0 hn9) (nine6 (by have h1 : wt 0 as ≤ wt 1 as := wt_mono as 0; lia))
/-! what the pairs are -/
theorem outY_mem : ∀ (as : List (List Int)) (k : Nat) (q : List Int × Nat), q ∈ outY as k → q.1 ∈ as ∧ 1 < q.1.length ∧ k ≤ q.2
  | [], _, _, h => nomatch h
  | a :: as, k, q, h => by
    simp only [outY] at h
    split at h
    · rename_i h1
      rcases List.mem_cons.mp h with rfl | h
      · exact ⟨.head _, h1, Nat.le_refl _⟩
      · obtain ⟨i1, i2, i3⟩ := outY_mem as (k + 1) q h
        exact ⟨.tail _ i1, i2, by exact Nat.le_of_lt (by assumption)⟩
    · obtain ⟨i1, i2, i3⟩ := outY_mem as (k + 1) q h
      exact ⟨.tail _ i1, i2, by exact Nat.le_of_lt (by assumption)⟩
theorem outY_len : ∀ (as : List (List Int)) (k : Nat), (outY as k).length ≤ as.length
  | [], _ => Nat.le_refl _
  | a :: as, k => by
    have := outY_len as (k + 1)
    simp only [outY, List.length_cons]
    split
    · simp only [List.length_cons]; exact Nat.succ_le_succ ‹_›
    · exact Nat.le_succ_of_le (by assumption)
theorem cop_mem {a : List Int} : ∀ {as : List (List Int)}, Cop a (Lp as) → ∀ b ∈ as, Cop a b
  | [], _, _, h => nomatch h
  | c :: as, hc, b, h => by
    rcases List.mem_cons.mp h with rfl | h
    · exact hc.left
    · exact cop_mem hc.right b h
theorem sqf_mem : ∀ {as : List (List Int)}, Sqf as → ∀ a ∈ as, Cop a (zder a)
  | [], _, _, h => nomatch h
  | b :: as, hs, a, h => by
    rcases List.mem_cons.mp h with rfl | h
    · exact hs.head.1
    · exact sqf_mem hs.head.2.2 a h
theorem outY_pair : ∀ (as : List (List Int)) (k : Nat), Sqf as → (outY as k).Pairwise fun q r => q.2 < r.2 ∧ Cop q.1 r.1
  | [], _, _ => .nil
  | a :: as, k, hs => by
    have ih := outY_pair as (k + 1) hs.head.2.2
    simp only [outY]
    split
    · refine .cons (fun q hq => ?_) ih
      obtain ⟨i1, _, i3⟩ := outY_mem as (k + 1) q hq
      exact ⟨by dsimp only; assumption, cop_mem hs.head.2.1 _ i1⟩
    · exact ih
noncomputable def sumW (f : List Int × Nat → Nat) : List (List Int × Nat) → Nat
  | [] => 0
  | q :: l => f q + sumW f l
theorem powL_len {a : List Int} (h : Prim a) : ∀ n, (powL a n).length = 1 + n * (a.length - 1)
  | 0 => by simp [powL]
  | n + 1 => by
    have h1 : (powL a (n + 1)).length = a.length + (powL a n).length - 1 := (mulP_len _ _ h.ne (powL_prim h n).ne).1
    have h2 := List.length_pos_iff.mpr h.ne
    rw [h1, powL_len h n, Nat.succ_mul]; lia
theorem Pw_cons_len {a : List Int} {as : List (List Int)} (h : ∀ b ∈ a :: as, Prim b) (n : Nat) : (Pw n (a :: as)).length = n * (a.length - 1) + (Pw (n + 1) as).length := by
  have h' : ∀ b ∈ as, Prim b := fun b hb => h b (.tail _ hb)
  have hpa := h a (.head _)
  have h2 : (Pw n (a :: as)).length = (powL a n).length + (Pw (n + 1) as).length - 1 := (mulP_len _ _ (powL_prim hpa _).ne (Pw_prim _ h').ne).1
  rw [h2, powL_len hpa]
  lia
theorem outY_sum : ∀ (as : List (List Int)) (k : Nat), (∀ a ∈ as, Prim a) → (Pw k as).length = 1 + sumW (fun q => (q.2 - 1) * (q.1.length - 1)) (outY as (k + 1)) ∧ (Pw (k + 1) as).length = 1 + sumW (fun q => q.2 * (q.1.length - 1)) (outY as (k + 1))
  | [], _, _ => ⟨rfl, rfl⟩
  | a :: as, k, h => by
    have h' : ∀ b ∈ as, Prim b := fun b hb => h b (.tail _ hb)
    obtain ⟨i1, i2⟩ := outY_sum as (k + 1) h'
    have hal := List.length_pos_iff.mpr (h a (.head _)).ne
    rw [Pw_cons_len h, Pw_cons_len h, i1, i2]
    simp only [outY]
    split
    · simp only [sumW]
      constructor
      · show _ = 1 + ((k + 1 - 1) * _ + _); rw [Nat.add_sub_cancel]; lia
      · lia
    · have : a.length - 1 = 0 := by omega
      rw [this]
      simp
noncomputable def PV : List (List Int × Nat) → Int → Int
  | [], _ => 1
  | q :: l, x => ev q.1 x ^ q.2 * PV l x
noncomputable def OV : List (List Int × Nat) → Int → Int
  | [], _ => 1
  | q :: l, x => ev q.1 x * OV l x
theorem outY_val : ∀ (as : List (List Int)) (k : Nat) (x : Int), (∀ a ∈ as, Prim a) → ev (Pw k as) x = PV (outY as k) x ∧ ev (Lp as) x = OV (outY as k) x
  | [], _, _, _ => by simp [Pw, Lp, outY, PV, OV, ev]
  | a :: as, k, x, h => by
    obtain ⟨i1, i2⟩ := outY_val as (k + 1) x fun b hb => h b (.tail _ hb)
    simp only [Pw, Lp, outY]
    rw [(ev_mulP _ _ x).1, (ev_mulP _ _ x).1, i1, i2, ev_powL]
    split
    · simp only [PV, OV]; exact ⟨trivial, trivial⟩
    · rename_i hl
      rw [prim_one (h a (.head _)) (by exact Nat.not_lt.mp (by assumption))]
      simp [ev, Int.one_pow]
/-! products by index -/
theorem PV_snoc : ∀ (l : List (List Int × Nat)) (q : List Int × Nat) (x : Int), PV (l ++ [q]) x = PV l x * ev q.1 x ^ q.2
  | [], q, x => by simp [PV]
  | r :: l, q, x => by simp only [List.cons_append, PV, PV_snoc l q x, Int.mul_assoc]
theorem OV_snoc : ∀ (l : List (List Int × Nat)) (q : List Int × Nat) (x : Int), OV (l ++ [q]) x = OV l x * ev q.1 x
  | [], q, x => by simp [OV]
  | r :: l, q, x => by simp only [List.cons_append, OV, OV_snoc l q x, Int.mul_assoc]
theorem powMul_spec {f p : List Int} (hf : Prim f) (hp : Prim p) : ∀ k, powMul times f p k = powMul zmul f p k ∧ Prim (powMul times f p k) ∧ (∀ x, ev (powMul times f p k) x = ev f x * ev p x ^ k) ∧ N1 (powMul times f p k) ≤ N1 f * N1 p ^ k ∧ (powMul times f p k).length = f.length + k * (p.length - 1)
  | 0 => ⟨rfl, hf, fun x => by simp [powMul], by simp [powMul], by simp [powMul]⟩
  | k + 1 => by
    obtain ⟨i0, i1, i2, i3, i4⟩ := powMul_spec hf hp k
    have e : powMul times f p (k + 1) = mulP (powMul times f p k) p := times_eq i1.ne hp.ne
    have e2 : powMul zmul f p (k + 1) = mulP (powMul times f p k) p := by
      show zmul (powMul zmul f p k) p = _
      rw [← i0]; exact zmul_eq i1.ne hp.ne
    have hpl := List.length_pos_iff.mpr hp.ne
    refine ⟨by rw [e, e2], e ▸ gauss i1 hp, fun x => by rw [e, (ev_mulP _ _ x).1, i2 x, Int.pow_succ, Int.mul_assoc], ?_, ?_⟩
    · rw [e, Nat.pow_succ, ← Nat.mul_assoc]
      exact Nat.le_trans (N1_mulP _ _) (Nat.mul_le_mul_right _ i3)
    · rw [e, (mulP_len _ _ i1.ne hp.ne).1, i4, Nat.succ_mul]; lia
theorem getD_mem2 {l : List (List Int × Nat)} {i : Nat} (h : i < l.length) : l.getD i ([], 0) ∈ l := by
  rw [List.getD_eq_getElem?_getD, List.getElem?_eq_getElem h]; exact List.getElem_mem h
theorem take_snoc {l : List (List Int × Nat)} {i : Nat} (h : i < l.length) : l.take (i + 1) = l.take i ++ [l.getD i ([], 0)] := by
  rw [List.take_succ, List.getD_eq_getElem?_getD, List.getElem?_eq_getElem h]; rfl
/-- what holds of each pair -/
structure QG (q : List Int × Nat) : Prop where
  prim : Prim q.1
  n1 : N1 q.1 ≤ 2 ^ 20
  len : q.1.length ≤ 7
  two : 2 ≤ q.1.length
  many : q.2 ≤ 6
theorem prodAt_spec {prs : List (List Int × Nat)} (h : ∀ q ∈ prs, QG q) : ∀ i, i ≤ prs.length → prodAt times prs i = prodAt zmul prs i ∧ Prim (prodAt times prs i) ∧ (∀ x, ev (prodAt times prs i) x = PV (prs.take i) x) ∧ N1 (prodAt times prs i) ≤ 2 ^ (120 * i) ∧ (prodAt times prs i).length ≤ 1 + 36 * i
  | 0, _ => ⟨rfl, prim_1, fun x => by simp [prodAt, PV, ev], by simp [prodAt, N1], by simp [prodAt]⟩
  | i + 1, hi => by
    obtain ⟨i0, i1, i2, i3, i4⟩ := prodAt_spec h i (by exact Nat.le_of_lt (by assumption))
    have hq := h _ (getD_mem2 (by assumption : i < prs.length))
    have e : prodAt times prs (i + 1) = powMul times (prodAt times prs i) (prs.getD i ([], 0)).1 (prs.getD i ([], 0)).2 := rfl
    have e2 : prodAt zmul prs (i + 1) = powMul zmul (prodAt zmul prs i) (prs.getD i ([], 0)).1 (prs.getD i ([], 0)).2 := rfl
    obtain ⟨j0, j1, j2, j3, j4⟩ := powMul_spec i1 hq.prim (prs.getD i ([], 0)).2
    refine ⟨by rw [e, e2, ← i0, j0], e ▸ j1, fun x => by rw [e, j2 x, i2 x, take_snoc (by assumption), PV_snoc], ?_, ?_⟩
    · rw [e]
      refine Nat.le_trans j3 ?_
      have h1 : N1 (prs.getD i ([], 0)).1 ^ (prs.getD i ([], 0)).2 ≤ 2 ^ 120 := by
        refine Nat.le_trans (Nat.pow_le_pow_left hq.n1 _) ?_
        rw [← Nat.pow_mul]
        exact Nat.pow_le_pow_right (by decide) (by have := hq.many; lia)
      rw [Nat.mul_succ, Nat.pow_add]
      exact Nat.mul_le_mul i3 h1
    · rw [e, j4]
      have h1 : (prs.getD i ([], 0)).2 * ((prs.getD i ([], 0)).1.length - 1) ≤ 6 * 6 := Nat.mul_le_mul hq.many (by have := hq.len; exact Nat.sub_le_sub_right ‹_› _)
      lia
theorem onceAt_spec {prs : List (List Int × Nat)} (h : ∀ q ∈ prs, QG q) : ∀ i, i ≤ prs.length → Prim (onceAt prs i) ∧ (∀ x, ev (onceAt prs i) x = OV (prs.take i) x) ∧ N1 (onceAt prs i) ≤ 2 ^ (20 * i) ∧ (onceAt prs i).length ≤ 1 + 6 * i
  | 0, _ => ⟨prim_1, fun x => by simp [onceAt, OV, ev], by simp [onceAt, N1], by simp [onceAt]⟩
  | i + 1, hi => by
    obtain ⟨i1, i2, i3, i4⟩ := onceAt_spec h i (by exact Nat.le_of_lt (by assumption))
    have hq := h _ (getD_mem2 (by assumption : i < prs.length))
    have e : onceAt prs (i + 1) = mulP (onceAt prs i) (prs.getD i ([], 0)).1 := times_eq i1.ne hq.prim.ne
    refine ⟨e ▸ gauss i1 hq.prim, fun x => by rw [e, (ev_mulP _ _ x).1, i2 x, take_snoc (by assumption), OV_snoc], ?_, ?_⟩
    · rw [e]
      refine Nat.le_trans (N1_mulP _ _) ?_
      rw [Nat.mul_succ, Nat.pow_add]
      exact Nat.mul_le_mul i3 hq.n1
    · rw [e, (mulP_len _ _ i1.ne hq.prim.ne).1]
      have := hq.len
      omega
theorem manyL_eq (prs : List (List Int × Nat)) : manyL prs prs.length = prs.map fun q => (q.2 : Int) := by
  unfold manyL
  refine List.ext_getElem (by simp) fun i h1 h2 => ?_
  simp at h1
  simp [List.getD_eq_getElem?_getD, h1]
theorem sumW_mem (f : List Int × Nat → Nat) : ∀ (l : List (List Int × Nat)) (q : List Int × Nat), q ∈ l → f q ≤ sumW f l
  | [], _, h => nomatch h
  | r :: l, q, h => by
    simp only [sumW]
    rcases List.mem_cons.mp h with rfl | h
    · exact Nat.le_add_right _ _
    · have := sumW_mem f l q h; lia
theorem sumW_less : ∀ prs : List (List Int × Nat), sumW (fun q => (q.2 - 1) * (q.1.length - 1)) prs ≤ sumW (fun q => q.2 * (q.1.length - 1)) prs
  | [] => Nat.le_refl _
  | q :: l => by
    have h1 := sumW_less l
    have h2 : (q.2 - 1) * (q.1.length - 1) ≤ q.2 * (q.1.length - 1) := Nat.mul_le_mul_right _ (by exact Nat.sub_le _ _)
    simp only [sumW]
    omega
theorem single_of : ∀ {prs : List (List Int × Nat)}, 0 < prs.length → (prs.Pairwise fun q r => q.2 < r.2 ∧ Cop q.1 r.1) → (∀ q ∈ prs, q.2 = 1) → (prs.map fun q => (q.2 : Int)) = [1]
  | [], h, _, _ => absurd h (Nat.lt_irrefl _)
  | [q], _, _, h => by simp [h q (.head _)]
  | a :: b :: l, _, hp, h => by
    exfalso
    cases hp with
    | cons ha _ =>
      have h1 := (ha b (.head _)).1
      have h2 := h a (.head _)
      have h3 := h b (.tail _ (.head _))
      lia
theorem sumW_single : ∀ {prs : List (List Int × Nat)}, (prs.map fun q => (q.2 : Int)) = [1] → 1 + sumW (fun q => (q.2 - 1) * (q.1.length - 1)) prs ≤ 1
  | [], h => by simp at h
  | [q], h => by
    have : q.2 = 1 := by simp at h; lia
    simp [sumW, this]
  | _ :: _ :: _, h => by simp at h
theorem rise_of {prs : List (List Int × Nat)} (hp : prs.Pairwise fun q r => q.2 < r.2 ∧ Cop q.1 r.1) (h : ∀ q ∈ prs, QG q ∧ 1 ≤ q.2) (hs : sumW (fun q => q.2 * (q.1.length - 1)) prs ≤ 6) : Rise (prs.map fun q => (q.2 : Int)) := by
  refine ⟨?_, fun x hx => ?_, ?_⟩
  · exact List.pairwise_map.mpr (hp.imp fun h => by have := h.1; omega)
  · obtain ⟨q, hq, rfl⟩ := List.mem_map.mp hx
    have := (h q hq).1.many
    have := (h q hq).2
    omega
  · rw [List.length_map]
    match prs, hp, h, hs with
    | [], _, _, _ => decide
    | [_], _, _, _ => simp
    | [_, _], _, _, _ => simp
    | [_, _, _], _, _, _ => simp
    | a :: b :: c :: d :: l, hp, h, hs =>
      exfalso
      have h1 := (h a (.head _)).2
      have f : ∀ q, QG q → q.2 ≤ q.2 * (q.1.length - 1) := fun q hq => Nat.le_mul_of_pos_right _ (by have := hq.two; exact Nat.le_sub_one_of_lt ‹_›)
      have fa := f a (h a (.head _)).1
      have fb := f b (h b (.tail _ (.head _))).1
      have fc := f c (h c (.tail _ (.tail _ (.head _)))).1
      have fd := f d (h d (.tail _ (.tail _ (.tail _ (.head _))))).1
      cases hp with
      | cons ha hp =>
        cases hp with
        | cons hb hp =>
          cases hp with
          | cons hc hp =>
            have z1 := (ha b (.head _)).1
            have z2 := (hb c (.head _)).1
            have z3 := (hc d (.head _)).1
            simp only [sumW] at hs
            lia
theorem lsmall_prim {p : List Int} (h : Prim p) : lsmall p = p := by unfold lsmall; rw [h.1, if_neg (by decide)]
theorem lsmall_pos {v : List Int} (h : 0 < lead v) : lsmall v = zprim v := by
  have hl : lead v ≠ 0 := by omega
  have hg := cont_ne hl
  have hn := cont_nn v
  unfold lsmall
  by_cases h1 : gcdAll v > 1
  · rw [if_pos h1]
    unfold zprim
    rw [if_neg (lead_ne hl), if_pos h]
  · rw [if_neg h1]
    exact (prim_self ⟨by lia, h⟩).symm
theorem menu_ne (i : Int) : menu i ≠ 0 := by
  unfold menu
  split
  · decide
  · split
    · decide
    · split <;> decide
theorem pair_at {R : (List Int × Nat) → (List Int × Nat) → Prop} {prs : List (List Int × Nat)} (hp : prs.Pairwise R) {i j : Nat} (hij : i < j) (hj : j < prs.length) : R (prs.getD i ([], 0)) (prs.getD j ([], 0)) := by
  have := List.pairwise_iff_getElem.mp hp i j (by exact Nat.le_of_lt (Nat.lt_of_le_of_lt ‹_› ‹_›)) hj hij
  simpa [List.getD_eq_getElem?_getD, hj, (by omega : i < prs.length)] using this
set_option maxHeartbeats 1000000 in
theorem lawHyp : LawHyp := by
  intro v k hw h2 ⟨i, _, _, hk⟩
  have hk0 : k ≠ 0 := by rw [hk]; exact menu_ne i
  obtain ⟨as, S⟩ := start_of hw h2
  have hsum := outY_sum as 0 S.prim
  have hpair := outY_pair as 1 S.sqf
  have hlen := outY_len as 1
  have hmem := outY_mem as 1
  have hval : ∀ x, ev (Pw 1 as) x = PV (outY as 1) x ∧ ev (Lp as) x = OV (outY as 1) x := fun x => outY_val as 1 x S.prim
  have hyun := S.yun hk0
  simp only [Nat.zero_add] at hsum
  generalize outY as 1 = prs at *
  have hW : (Pw 1 as).length ≤ 7 := by have := S.wlen; have := S.w7; omega
  have hs6 : sumW (fun q => q.2 * (q.1.length - 1)) prs ≤ 6 := by have := hsum.2; omega
  have hN : ∀ a ∈ as, N1 a ≤ KN as := by
    have : ∀ (as : List (List Int)), (∀ a ∈ as, Prim a) → ∀ a ∈ as, N1 a ≤ KN as := by
      intro as
      induction as with
      | nil => intro _ _ h; cases h
      | cons b as ih =>
        intro h a ha
        rcases List.mem_cons.mp ha with rfl | ha
        · exact (KN_tail h).2
        · exact Nat.le_trans (ih (fun c hc => h c (.tail _ hc)) a ha) (KN_tail h).1
    exact this as S.prim
  have hQ : ∀ q ∈ prs, QG q ∧ 1 ≤ q.2 := fun q hq => by
    obtain ⟨m1, m2, m3⟩ := hmem q hq
    have h1 := sumW_mem (fun q => q.2 * (q.1.length - 1)) prs q hq
    try dsimp only at h1
    have h3 : q.2 ≤ q.2 * (q.1.length - 1) := Nat.le_mul_of_pos_right _ (by exact Nat.le_sub_one_of_lt ‹_›)
    have h4 : q.1.length - 1 ≤ q.2 * (q.1.length - 1) := Nat.le_mul_of_pos_left _ m3
    exact ⟨⟨S.prim _ m1, Nat.le_trans (hN _ m1) S.kn, by omega, m2, by omega⟩, m3⟩
  have hQ1 : ∀ q ∈ prs, QG q := fun q hq => (hQ q hq).1
  have hpl : prs.length ≤ 7 := by have := S.len; exact Nat.le_trans (by assumption) (by assumption)
  obtain ⟨p0, p1, p2, p3, p4⟩ := prodAt_spec hQ1 prs.length (Nat.le_refl _)
  obtain ⟨o1, o2, o3, o4⟩ := onceAt_spec hQ1 prs.length (Nat.le_refl _)
  rw [List.take_length] at p2 o2
  have hback : prodAt times prs prs.length = Pw 1 as := tr_ev p1.tr (Pw_prim 1 S.prim).tr fun x _ => by rw [p2 x, (hval x).1]
  have honce : onceAt prs prs.length = Lp as := tr_ev o1.tr (Lp_prim S.prim).tr fun x _ => by rw [o2 x, (hval x).2]
  have hv0 : lead v ≠ 0 := by have := S.pos; lia
  have hzk : zprim (v.map fun x => k * x) = Pw 1 as := by rw [scaled_zprim hk0 hv0, S.zp]
  have hls : lsmall v = Pw 1 as := by rw [lsmall_pos S.pos, S.zp]
  have hsome : 0 < prs.length := by
    apply List.length_pos_iff.mpr
    intro e
    have := hsum.2
    rw [e] at this
    have := S.wlen
    simp only [sumW] at *
    lia
  have hmid : ∀ i, i < prs.length → ∀ j, j ≤ (prs.getD i ([], 0)).2 → Mid (powMul times (prodAt times prs i) (prs.getD i ([], 0)).1 j) := fun i hi j hj => by
    obtain ⟨_, i1, _, i3, i4⟩ := prodAt_spec hQ1 i (by exact Nat.le_of_lt (by assumption))
    have hq := hQ1 _ (getD_mem2 hi)
    obtain ⟨_, _, _, j3, j4⟩ := powMul_spec i1 hq.prim j
    have hm := hq.many
    refine ⟨small_bd (γ := 120 * i + 120) (Nat.le_trans j3 ?_) (by lia), ?_⟩
    · have h1 : N1 (prs.getD i ([], 0)).1 ^ j ≤ 2 ^ 120 := by
        refine Nat.le_trans (Nat.pow_le_pow_left hq.n1 _) ?_
        rw [← Nat.pow_mul]
        exact Nat.pow_le_pow_right (by decide) (by omega)
      rw [Nat.pow_add]
      exact Nat.mul_le_mul i3 h1
    · rw [j4]
      have h1 : j * ((prs.getD i ([], 0)).1.length - 1) ≤ 6 * 6 := Nat.mul_le_mul (by exact Nat.le_trans (by assumption) (by assumption)) (by have := hq.len; exact Nat.sub_le_sub_right ‹_› _)
      lia
  -- is_square_free's greatest common divisor
  have hG := Pw_prim 0 S.prim
  have hsq : gcOk (v.map fun x => k * x) (zder (v.map fun x => k * x)) ∧ (zgcd (v.map fun x => k * x) (zder (v.map fun x => k * x))).length = (Pw 0 as).length := by
    have hlk : lead (v.map fun x => k * x) ≠ 0 := by rw [lead_map (by simp)]; exact Int.mul_ne_zero hk0 hv0
    have hlen2 : (v.map fun x => k * x).length = v.length := List.length_map ..
    obtain ⟨_, _, c, hc, _, hco⟩ := zprim_spec hlk
    rw [hzk] at hco
    have hev := ev_factor hco
    have hNk : N1 (v.map fun x => k * x) ≤ 2 ^ 23 := by
      have e : (v.map fun x => k * x) = v.map fun x => x * k := by congr 1; funext x; rw [Int.mul_comm]
      rw [e, N1_map]
      have : k.natAbs ≤ 8 := by
        rw [hk]; unfold menu
        split
        · decide
        · split
          · decide
          · split <;> decide
      calc N1 v * k.natAbs ≤ 2 ^ 20 * 8 := Nat.mul_le_mul S.n1 this
        _ ≤ 2 ^ 23 := by decide
    have hNd : N1 (zder (v.map fun x => k * x)) ≤ 2 ^ 26 := Nat.le_trans (N1_zder _) (by
      calc N1 (v.map fun x => k * x) * (v.map fun x => k * x).length ≤ 2 ^ 23 * 7 := Nat.mul_le_mul hNk (by have := S.w7; omega)
        _ ≤ 2 ^ 26 := by decide)
    have hdv : ∀ x, dv (v.map fun x => k * x) x = c * dv (Pw 1 as) x := fun x => by
      have := dv_congr (p := v.map fun x => k * x) (q := (Pw 1 as).map fun y => y * c) (fun x => by rw [hev x, (ev_map_mul _ _ x).1, Int.mul_comm]) x
      rw [this, (ev_map_mul _ _ x).2, Int.mul_comm]
    obtain ⟨g1, g2, _⟩ := zgcd_main (a := v.map fun x => k * x) (b := zder (v.map fun x => k * x)) (g := Pw 0 as) (s := (Lp as).map fun y => y * c) (t := (trim (sumL (Dt as) (zder (Lp as)))).map fun y => y * c) (γ := 26) hlk (lead_zder (by omega) hlk) (by rw [zder_length]; exact Nat.sub_le _ _) (by have := S.w7; omega)
      (lim_N1 (Nat.le_trans hNk (by decide))) (lim_N1 hNd) (by decide) hG (small_bd S.g1 (by decide))
      (fun x => by rw [hev x, Pw_succ as 0 x, (ev_map_mul _ _ x).1]; grind)
      (fun x => by
        rw [ev_zder, hdv x, (ev_map_mul _ _ x).1, S.X x]
        have := dv_Pw as 0 x
        simp only [Nat.zero_add] at this
        rw [this]
        grind)
      (by
        obtain ⟨c0, hc0, u, w, he⟩ := S.cop
        refine ⟨c * c0, Int.mul_ne_zero hc hc0, u, w, fun x => ?_⟩
        rw [(ev_map_mul _ _ x).1, (ev_map_mul _ _ x).1]
        have z := he x
        calc c * c0 = c * (ev u x * ev (Lp as) x + ev w x * ev (trim (sumL (Dt as) (zder (Lp as)))) x) := by rw [← z]
          _ = _ := by grind)
    exact ⟨g1, g2⟩
  refine ⟨prs, ⟨by lia, hyun, fun i hi => ?_, fun i j hi hj hne => ?_, fun i hi => ?_, hmid, by rw [hback, hls], fun i hi => ?_, ?_, ?_, hsome, ?_, hsq.1, ?_, ?_⟩⟩
  · have hm := getD_mem2 hi
    have hq := hQ1 _ hm
    obtain ⟨m1, m2, m3⟩ := hmem _ hm
    have hc := sqf_mem S.sqf _ m1
    have hl1 := hq.len
    have hl2 := hq.two
    have hNd : N1 (zder (prs.getD i ([], 0)).1) ≤ 2 ^ 23 := Nat.le_trans (N1_zder _) (by
      calc N1 (prs.getD i ([], 0)).1 * (prs.getD i ([], 0)).1.length ≤ 2 ^ 20 * 7 := Nat.mul_le_mul hq.n1 hl1
        _ ≤ 2 ^ 23 := by decide)
    refine ⟨small_bd hq.n1 (by decide), hl2, by omega, hq.prim.2, lsmall_prim hq.prim, ?_, ?_, by have := hq.many; omega⟩
    · refine lap_lim _ _ _ 23 (lim_N1 (Nat.le_trans hq.n1 (by decide))) (lim_N1 hNd) ?_
      rw [zder_length]
      calc (23 + 1) * 3 ^ ((prs.getD i ([], 0)).1.length + ((prs.getD i ([], 0)).1.length - 1)) ≤ (23 + 1) * 3 ^ 13 := Nat.mul_le_mul_left _ (Nat.pow_le_pow_right (by decide) (by omega))
        _ < _ := by decide
    · exact lap_true _ _ _ hq.prim.tr hq.prim.ne (tr_zder hq.prim.tr) (Nat.lt_succ_self _) hc
  · have hmi := getD_mem2 hi
    have hmj := getD_mem2 hj
    have hqi := hQ1 _ hmi
    have hqj := hQ1 _ hmj
    have hcop : Cop (prs.getD i ([], 0)).1 (prs.getD j ([], 0)).1 := by
      rcases Nat.lt_trichotomy i j with h | h | h
      · exact (pair_at hpair h hj).2
      · subst h; exact absurd rfl hne
      · exact (pair_at hpair h hi).2.symm
    have hlens : (prs.getD i ([], 0)).1.length + (prs.getD j ([], 0)).1.length ≤ 13 ∨ True := .inr trivial
    have hli := hqi.len
    have hlj := hqj.len
    have h2i := hqi.two
    have h2j := hqj.two
    have hsmall : (prs.getD i ([], 0)).1.length + (prs.getD j ([], 0)).1.length ≤ 8 := by
      have key : ∀ (l : List (List Int × Nat)) (a b : Nat), a < b → b < l.length → (∀ q ∈ l, 1 ≤ q.2) → ((l.getD a ([], 0)).1.length - 1) + ((l.getD b ([], 0)).1.length - 1) ≤ sumW (fun q => q.2 * (q.1.length - 1)) l := by
        intro l
        induction l with
        | nil => intro a b _ h _; simp at h
        | cons q l ih =>
          intro a b hab hb h1
          have hq1 : q.1.length - 1 ≤ q.2 * (q.1.length - 1) := Nat.le_mul_of_pos_left _ (h1 q (.head _))
          simp only [sumW]
          obtain ⟨b, rfl⟩ : ∃ c, b = c + 1 := ⟨b - 1, by lia⟩
          simp only [List.length_cons] at hb
          cases a with
          | zero =>
            have hm := getD_mem2 (l := l) (i := b) (by exact Nat.le_of_succ_le_succ (by assumption))
            have h3 := sumW_mem (fun q => q.2 * (q.1.length - 1)) l _ hm
            try dsimp only at h3
            have h4 : (l.getD b ([], 0)).1.length - 1 ≤ (l.getD b ([], 0)).2 * ((l.getD b ([], 0)).1.length - 1) := Nat.le_mul_of_pos_left _ (h1 _ (.tail _ hm))
            simp only [List.getD_cons_zero, List.getD_cons_succ]
            omega
          | succ a =>
            have := ih a b (by exact Nat.le_of_succ_le_succ (by assumption)) (by exact Nat.le_of_succ_le_succ (by assumption)) fun q hq => h1 q (.tail _ hq)
            simp only [List.getD_cons_succ]
            lia
      have hge : ∀ q ∈ prs, 1 ≤ q.2 := fun q hq => (hQ q hq).2
      rcases Nat.lt_trichotomy i j with h | h | h
      · have := key prs i j h hj hge; omega
      · subst h; exact absurd rfl hne
      · have := key prs j i h hi hge; omega
    refine ⟨lap_lim _ _ _ 23 (lim_N1 (Nat.le_trans hqi.n1 (by decide))) (lim_N1 (Nat.le_trans hqj.n1 (by decide))) ?_, lap_true _ _ _ hqi.prim.tr hqi.prim.ne hqj.prim.tr (Nat.lt_succ_self _) hcop⟩
    calc (23 + 1) * 3 ^ ((prs.getD i ([], 0)).1.length + (prs.getD j ([], 0)).1.length) ≤ (23 + 1) * 3 ^ 8 := Nat.mul_le_mul_left _ (Nat.pow_le_pow_right (by decide) (by omega))
      _ < _ := by decide
  · obtain ⟨_, _, i3, i4⟩ := onceAt_spec hQ1 i hi
    exact ⟨small_bd (γ := 20 * i) i3 (by lia), by lia⟩
  · have hq := hQ1 _ (getD_mem2 hi)
    obtain ⟨j0, _⟩ := prodAt_spec hQ1 i (by exact Nat.le_of_lt (by assumption))
    refine ⟨⟨small_bd hq.n1 (by decide), by have := hq.len; omega⟩, by have := hq.many; omega, fun m hm => ?_⟩
    obtain ⟨_, i1, _⟩ := prodAt_spec hQ1 i (by exact Nat.le_of_lt (by assumption))
    rw [← j0, ← (powMul_spec i1 hq.prim m).1]
    exact hmid i hi m (by exact Nat.le_of_lt (by assumption))
  · rw [← p0, hback, hls]
  · rw [manyL_eq]
    exact rise_of hpair hQ hs6
  · rw [hzk, S.start.2, honce]
    exact S.sqpart
  · rw [hsq.2]
    have := hsum.1
    have h1 := sumW_less prs
    lia
  · rw [hsq.2, manyL_eq, decide_eq_decide, hsum.1]
    constructor
    · intro h
      have hall : ∀ q ∈ prs, q.2 = 1 := fun q hq => by
        have h1 := sumW_mem (fun q => (q.2 - 1) * (q.1.length - 1)) prs q hq
        try dsimp only at h1
        have h2 := (hQ q hq).2
        have h3 := (hQ q hq).1.two
        have h4 : (q.2 - 1) * (q.1.length - 1) = 0 := by lia
        rcases Nat.mul_eq_zero.mp h4 with h5 | h5 <;> lia
      exact single_of hsome hpair hall
    · intro h
      exact sumW_single h
end Mine
end

theorem PySem.Challenge.cw_pq0216_01_holds : PySem.Challenge.rw_pq0216_01.Holds :=
  Mine.join Mine.whFacts Mine.lawHyp
