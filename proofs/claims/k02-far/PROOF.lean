import PyProof.Rows.All
import Wide.All
import OpenK.AllK
import Wide.FinOn
import KE.KStateDown
import HandS.ForMost
import HandS.WordsExc
import HandS.Defaults
import HandS.Codes
import HandS.StrMore
import HandS.Replace
import HandS.IsInst
import HandS.Walk
import HandS.Evl
import HandS.RevRange
import HandS.Style
import HandS.Head0
import HandS.Head1
import HandS.Head2
import HandS.HeadEnd
import HandS.HeadHook1
import HandS.HeadHook2
import PySem.Challenge.RW_growrow_k02_whole_far
set_option Elab.async false
set_option linter.all false
set_option maxRecDepth 100000
set_option maxHeartbeats 4000000
/-! The mathematics of growrow, in plain Lean: rows as lists of letters' numbers, rules as lists of rows. -/
namespace Gw
abbrev GRow := List Nat
abbrev GRules := List GRow

def ruleOf (R : GRules) (n : Nat) : GRow := R.getD n []
def once (R : GRules) (r : GRow) : GRow := (r.map (ruleOf R)).flatten
def grow (R : GRules) : Nat → GRow → GRow
  | 0, r => r
  | t + 1, r => grow R t (once R r)
def RowOk (k : Nat) (r : GRow) : Prop := ∀ n ∈ r, n < k
structure RulesOk (R : GRules) : Prop where
  pos : 1 ≤ R.length
  few : R.length ≤ 26
  rows : ∀ r ∈ R, RowOk R.length r

theorem once_nil (R : GRules) : once R [] = [] := rfl
theorem once_cons (R : GRules) (n : Nat) (r : GRow) : once R (n :: r) = ruleOf R n ++ once R r := by simp [once]
theorem once_append (R : GRules) (a b : GRow) : once R (a ++ b) = once R a ++ once R b := by simp [once]
theorem once_one (R : GRules) (n : Nat) : once R [n] = ruleOf R n := by simp [once]
theorem grow_nil (R : GRules) : ∀ t, grow R t [] = []
  | 0 => rfl
  | t + 1 => by show grow R t (once R []) = []; rw [once_nil, grow_nil R t]
theorem grow_append (R : GRules) : ∀ (t : Nat) (a b : GRow), grow R t (a ++ b) = grow R t a ++ grow R t b
  | 0, _, _ => rfl
  | t + 1, a, b => by
    show grow R t (once R (a ++ b)) = grow R t (once R a) ++ grow R t (once R b)
    rw [once_append, grow_append R t]
theorem grow_succ (R : GRules) : ∀ (t : Nat) (r : GRow), grow R (t + 1) r = once R (grow R t r)
  | 0, _ => rfl
  | t + 1, r => by
    show grow R (t + 1) (once R r) = once R (grow R (t + 1) r)
    rw [grow_succ R t (once R r)]
    rfl
theorem grow_add (R : GRules) : ∀ (s t : Nat) (r : GRow), grow R (s + t) r = grow R t (grow R s r)
  | 0, t, r => by rw [Nat.zero_add]; rfl
  | s + 1, t, r => by
    have e : s + 1 + t = (s + t) + 1 := by omega
    rw [e]
    show grow R (s + t) (once R r) = grow R t (grow R s (once R r))
    exact grow_add R s t (once R r)

theorem RowOk.nil (k : Nat) : RowOk k [] := fun _ h => absurd h (by simp)
theorem RowOk.append {k : Nat} {a b : GRow} (ha : RowOk k a) (hb : RowOk k b) : RowOk k (a ++ b) := fun n h => (List.mem_append.mp h).elim (ha n) (hb n)
theorem RowOk.left {k : Nat} {a b : GRow} (h : RowOk k (a ++ b)) : RowOk k a := fun n q => h n (List.mem_append_left _ q)
theorem RowOk.right {k : Nat} {a b : GRow} (h : RowOk k (a ++ b)) : RowOk k b := fun n q => h n (List.mem_append_right _ q)
theorem RowOk.cons {k n : Nat} {a : GRow} (hn : n < k) (ha : RowOk k a) : RowOk k (n :: a) := fun m h => (List.mem_cons.mp h).elim (fun e => e ▸ hn) (ha m)
theorem RowOk.head {k n : Nat} {a : GRow} (h : RowOk k (n :: a)) : n < k := h n List.mem_cons_self
theorem RowOk.tail {k n : Nat} {a : GRow} (h : RowOk k (n :: a)) : RowOk k a := fun m q => h m (List.mem_cons_of_mem _ q)
theorem RowOk.take {k : Nat} {a : GRow} (i : Nat) (h : RowOk k a) : RowOk k (a.take i) := fun m q => h m (List.mem_of_mem_take q)
theorem RowOk.get {k : Nat} {a : GRow} {i n : Nat} (h : RowOk k a) (e : a[i]? = some n) : n < k := h n (List.mem_of_getElem? e)
theorem RowOk.of_mono {k k' : Nat} {a : GRow} (h : RowOk k a) (hk : k ≤ k') : RowOk k' a := fun n q => Nat.lt_of_lt_of_le (h n q) hk
theorem rule_get {R : GRules} {n : Nat} (h : n < R.length) : R[n]? = some (ruleOf R n) := by
  unfold ruleOf
  rw [List.getD_eq_getElem?_getD, List.getElem?_eq_getElem h]
  rfl
theorem rule_ok {R : GRules} (ok : RulesOk R) (n : Nat) : RowOk R.length (ruleOf R n) := by
  by_cases h : n < R.length
  · exact ok.rows _ (List.mem_of_getElem? (rule_get h))
  · have e : ruleOf R n = [] := by
      unfold ruleOf
      rw [List.getD_eq_getElem?_getD, List.getElem?_eq_none (by omega)]
      rfl
    rw [e]
    exact RowOk.nil _
theorem once_ok {R : GRules} (ok : RulesOk R) (r : GRow) : RowOk R.length (once R r) := fun n h => by
  unfold once at h
  obtain ⟨l, hl, hn⟩ := List.mem_flatten.mp h
  obtain ⟨m, _, rfl⟩ := List.mem_map.mp hl
  exact rule_ok ok m n hn
theorem grow_ok {R : GRules} (ok : RulesOk R) : ∀ (t : Nat) {r : GRow}, RowOk R.length r → RowOk R.length (grow R t r)
  | 0, _, h => h
  | t + 1, r, _ => grow_ok ok t (once_ok ok r)

/-! ### lengths -/
def longBy (T : List Int) (r : GRow) : Int := (r.map fun n => T.getD n 0).sum
def lens (R : GRules) : Nat → List Int
  | 0 => R.map fun _ => 1
  | t + 1 => R.map fun r => longBy (lens R t) r
theorem lens_length (R : GRules) : ∀ t, (lens R t).length = R.length
  | 0 => List.length_map _
  | _ + 1 => List.length_map _
theorem longBy_nil (T : List Int) : longBy T [] = 0 := rfl
theorem longBy_cons (T : List Int) (n : Nat) (r : GRow) : longBy T (n :: r) = T.getD n 0 + longBy T r := by
  unfold longBy
  rw [List.map_cons, List.sum_cons]
theorem longBy_append (T : List Int) (a b : GRow) : longBy T (a ++ b) = longBy T a + longBy T b := by
  unfold longBy
  rw [List.map_append, List.sum_append]
/-- what the table says of each letter, told of rows -/
theorem longBy_row {R : GRules} {T : List Int} {t : Nat} (h : ∀ n, n < R.length → T.getD n 0 = ((grow R t [n]).length : Int)) : ∀ {r : GRow}, RowOk R.length r → longBy T r = ((grow R t r).length : Int)
  | [], _ => by rw [longBy_nil, grow_nil]; rfl
  | n :: r, ok => by
    rw [longBy_cons, h n ok.head, longBy_row h ok.tail, show n :: r = [n] ++ r from rfl, grow_append, List.length_append, Int.natCast_add]
theorem lens_letter {R : GRules} (ok : RulesOk R) : ∀ (t n : Nat), n < R.length → (lens R t).getD n 0 = ((grow R t [n]).length : Int)
  | 0, n, h => by
    show (R.map fun _ => (1 : Int)).getD n 0 = 1
    rw [List.getD_eq_getElem?_getD, List.getElem?_map, List.getElem?_eq_getElem h]
    rfl
  | t + 1, n, h => by
    show (R.map fun r => longBy (lens R t) r).getD n 0 = ((grow R t (once R [n])).length : Int)
    rw [List.getD_eq_getElem?_getD, List.getElem?_map, rule_get h, once_one]
    exact longBy_row (lens_letter ok t) (rule_ok ok n)
theorem longBy_lens {R : GRules} (ok : RulesOk R) (t : Nat) {r : GRow} (h : RowOk R.length r) : longBy (lens R t) r = ((grow R t r).length : Int) := longBy_row (lens_letter ok t) h

/-! ### counts -/
def counted (k : Nat) (r : GRow) : List Int := (List.range k).map fun n => (r.count n : Int)
theorem counted_length (k : Nat) (r : GRow) : (counted k r).length = k := by simp [counted]
theorem counted_getD {k n : Nat} {r : GRow} (h : n < k) : (counted k r).getD n 0 = (r.count n : Int) := by
  unfold counted
  rw [List.getD_eq_getElem?_getD, List.getElem?_map, List.getElem?_range h]
  rfl
theorem counted_get {k n : Nat} {r : GRow} (h : n < k) : (counted k r)[n]? = some (r.count n : Int) := by
  unfold counted
  rw [List.getElem?_map, List.getElem?_range h]
  rfl
/-- the sum of now's numbers times told's at k, side by side -/
def dot (k : Nat) : List Int → List (List Int) → Int
  | a :: now, r :: told => a * r.getD k 0 + dot k now told
  | _, _ => 0
def gstep (told : List (List Int)) (n : Nat) (now : List Int) : List Int := (List.range n).map fun k => dot k now told
def gtimes (told : List (List Int)) (n : Nat) : Nat → List Int → List Int
  | 0, now => now
  | t + 1, now => gtimes told n t (gstep told n now)
theorem gtimes_succ (told : List (List Int)) (n : Nat) : ∀ (t : Nat) (now : List Int), gtimes told n (t + 1) now = gstep told n (gtimes told n t now)
  | 0, _ => rfl
  | t + 1, now => gtimes_succ told n t (gstep told n now)
def gcs (R : GRules) (t : Nat) (now : List Int) : List Int := gtimes (R.map (counted R.length)) R.length t now
theorem dot_nil (k : Nat) (told : List (List Int)) : dot k [] told = 0 := by cases told <;> rfl
theorem dot_add (k : Nat) : ∀ (a b : List Int) (told : List (List Int)), a.length = b.length → dot k (List.zipWith (· + ·) a b) told = dot k a told + dot k b told
  | [], [], told, _ => by rw [dot_nil]; simp [dot_nil]
  | [], _ :: _, _, h => absurd h (by simp)
  | _ :: _, [], _, h => absurd h (by simp)
  | _ :: _, _ :: _, [], _ => rfl
  | x :: a, y :: b, r :: told, h => by
    show (x + y) * r.getD k 0 + dot k (List.zipWith (· + ·) a b) told = x * r.getD k 0 + dot k a told + (y * r.getD k 0 + dot k b told)
    rw [dot_add k a b told (by simpa using h), Int.add_mul]
    omega
theorem counted_append (k : Nat) (a b : GRow) : counted k (a ++ b) = List.zipWith (· + ·) (counted k a) (counted k b) := by
  apply List.ext_getElem?
  intro i
  by_cases h : i < k
  · rw [counted_get h, List.getElem?_zipWith, counted_get h, counted_get h, List.count_append, Int.natCast_add]
  · rw [List.getElem?_eq_none (by rw [counted_length]; omega), List.getElem?_eq_none (by rw [List.length_zipWith, counted_length, counted_length]; omega)]
/-- counts of one letter: only its rule is met -/
theorem dot_one (k : Nat) (f : Nat → Int) : ∀ (told : List (List Int)) (m : Nat), (∀ i, f i = if i = m then 1 else 0) → ∀ (j : Nat),
    dot k ((List.range told.length).map fun i => f (j + i)) told = if j ≤ m ∧ m < j + told.length then (told.getD (m - j) []).getD k 0 else 0
  | [], m, _, j => by
    rw [if_neg (by simp; try omega)]
    rfl
  | r :: told, m, hf, j => by
    have e : (List.range (r :: told).length).map (fun i => f (j + i)) = f j :: (List.range told.length).map fun i => f (j + 1 + i) := by
      rw [List.length_cons, List.range_succ_eq_map, List.map_cons, List.map_map]
      congr 1
      apply List.map_congr_left
      intro i _
      show f (j + (i + 1)) = f (j + 1 + i)
      congr 1
      omega
    rw [e]
    show f j * r.getD k 0 + dot k ((List.range told.length).map fun i => f (j + 1 + i)) told = _
    rw [dot_one k f told m hf (j + 1), hf j]
    by_cases h1 : j = m
    · subst h1
      rw [if_pos rfl, if_neg (by omega), if_pos (by simp), Nat.sub_self]
      simp
    · rw [if_neg h1]
      by_cases h2 : j + 1 ≤ m ∧ m < j + 1 + told.length
      · rw [if_pos h2, if_pos (by rw [List.length_cons]; omega)]
        have e2 : m - j = (m - (j + 1)) + 1 := by omega
        rw [e2]
        simp
      · rw [if_neg h2, if_neg (by rw [List.length_cons]; omega)]
        simp
theorem gstep_one {R : GRules} {n : Nat} (h : n < R.length) : gstep (R.map (counted R.length)) R.length (counted R.length [n]) = counted R.length (ruleOf R n) := by
  unfold gstep
  show (List.range R.length).map (fun k => dot k (counted R.length [n]) (R.map (counted R.length))) = (List.range R.length).map fun k => ((ruleOf R n).count k : Int)
  apply List.map_congr_left
  intro k hk
  have hk : k < R.length := List.mem_range.mp hk
  have e := dot_one k (fun i => (([n] : GRow).count i : Int)) (R.map (counted R.length)) n (fun i => by
    show ((([n] : GRow).count i : Nat) : Int) = _
    rw [List.count_cons, List.count_nil]
    by_cases q : i = n
    · subst q
      simp
    · rw [if_neg q]
      have : ¬ (n == i) = true := by simp; omega
      simp [this]) 0
  rw [List.length_map] at e
  have e0 : (List.range R.length).map (fun i => (([n] : GRow).count (0 + i) : Int)) = counted R.length [n] := by
    unfold counted
    apply List.map_congr_left
    intro i _
    rw [Nat.zero_add]
  rw [e0, if_pos (by omega)] at e
  rw [e, Nat.sub_zero]
  have e3 : (R.map (counted R.length)).getD n [] = counted R.length (ruleOf R n) := by
    rw [List.getD_eq_getElem?_getD, List.getElem?_map, rule_get h]
    rfl
  rw [e3, counted_getD hk]
theorem gstep_counted {R : GRules} : ∀ {r : GRow}, RowOk R.length r → gstep (R.map (counted R.length)) R.length (counted R.length r) = counted R.length (once R r)
  | [], _ => by
    have z : ∀ (told : List (List Int)) (k m : Nat), dot k ((List.range m).map fun _ => (0 : Int)) told = 0 := by
      intro told
      induction told with
      | nil => intro k m; cases m <;> simp [dot, List.range_succ_eq_map]
      | cons a told ih =>
        intro k m
        cases m with
        | zero => rfl
        | succ m =>
          have e : (List.range (m + 1)).map (fun _ => (0 : Int)) = 0 :: (List.range m).map fun _ => 0 := by
            rw [List.range_succ_eq_map, List.map_cons, List.map_map]
            rfl
          rw [e]
          show 0 * a.getD k 0 + dot k ((List.range m).map fun _ => 0) told = 0
          rw [ih]
          simp
    show (List.range R.length).map (fun k => dot k ((List.range R.length).map fun _ => (0 : Int)) (R.map (counted R.length))) = (List.range R.length).map fun _ => (0 : Int)
    apply List.map_congr_left
    intro k _
    exact z _ k _
  | n :: r, ok => by
    have h1 := gstep_one ok.head
    have h2 := gstep_counted ok.tail
    rw [show n :: r = [n] ++ r from rfl, counted_append, once_append, counted_append, once_one, ← h1, ← h2]
    unfold gstep
    apply List.ext_getElem?
    intro i
    by_cases hi : i < R.length
    · rw [List.getElem?_map, List.getElem?_range hi, List.getElem?_zipWith, List.getElem?_map, List.getElem?_map, List.getElem?_range hi]
      have e := dot_add i (counted R.length [n]) (counted R.length r) (R.map (counted R.length)) (by rw [counted_length, counted_length])
      exact congrArg some e
    · rw [List.getElem?_eq_none (by simp; omega), List.getElem?_eq_none (by simp; omega)]
theorem gcs_counted {R : GRules} (ok : RulesOk R) : ∀ (t : Nat) {r : GRow}, RowOk R.length r → gcs R t (counted R.length r) = counted R.length (grow R t r)
  | 0, _, _ => rfl
  | t + 1, r, h => by
    show gtimes _ _ t (gstep _ _ (counted R.length r)) = counted R.length (grow R t (once R r))
    rw [gstep_counted h]
    exact gcs_counted ok t (once_ok ok r)
theorem counted_sum {k : Nat} : ∀ {r : GRow}, RowOk k r → (counted k r).sum = (r.length : Int)
  | [], _ => by
    show ((List.range k).map fun _ => (0 : Int)).sum = 0
    generalize List.range k = l
    induction l with
    | nil => rfl
    | cons a l ih => rw [List.map_cons, List.sum_cons, ih]; rfl
  | n :: r, ok => by
    have e1 : (List.zipWith (· + ·) (counted k [n]) (counted k r)).sum = (counted k [n]).sum + (counted k r).sum := by
      have z : ∀ (a b : List Int), a.length = b.length → (List.zipWith (· + ·) a b).sum = a.sum + b.sum := by
        intro a
        induction a with
        | nil => intro b h; cases b with
          | nil => rfl
          | cons _ _ => exact absurd h (by simp)
        | cons x a ih => intro b h; cases b with
          | nil => exact absurd h (by simp)
          | cons y b =>
            rw [List.zipWith_cons_cons, List.sum_cons, List.sum_cons, List.sum_cons, ih b (by simpa using h)]
            omega
      exact z _ _ (by rw [counted_length, counted_length])
    have e2 : (counted k [n]).sum = 1 := by
      have z : ∀ (m : Nat), ((List.range m).map fun i => (([n] : GRow).count i : Int)).sum = if n < m then 1 else 0 := by
        intro m
        induction m with
        | zero => rfl
        | succ m ih =>
          rw [List.range_succ, List.map_append, List.sum_append, ih]
          have e : (([n] : GRow).count m : Int) = if m = n then 1 else 0 := by
            rw [List.count_cons, List.count_nil]
            by_cases q : m = n
            · subst q; simp
            · have : ¬ (n == m) = true := by simp; omega
              simp [this, q]
          simp only [List.map_cons, List.map_nil, List.sum_cons, List.sum_nil, e]
          by_cases q : m = n
          · subst q; simp
          · by_cases q2 : n < m
            · rw [if_pos q2, if_neg q, if_pos (by omega)]; rfl
            · rw [if_neg q2, if_neg q, if_neg (by omega)]; rfl
      have := z k
      rw [if_pos ok.head] at this
      exact this
    rw [show n :: r = [n] ++ r from rfl, counted_append, e1, e2, counted_sum ok.tail, List.length_append]
    simp
end Gw

/-! growrow: what skipped reckons, turn by turn. -/
namespace Gw
theorem counted_snoc {k n : Nat} {r : GRow} (h : n < k) : (counted k r).set n ((r.count n : Int) + 1) = counted k (r ++ [n]) := by
  apply List.ext_getElem?
  intro i
  by_cases hi : i < k
  · rw [counted_get hi, List.getElem?_set]
    by_cases e : n = i
    · subst e
      rw [if_pos rfl, if_pos (by rw [counted_length]; exact h), List.count_append]
      simp
    · rw [if_neg e, counted_get hi, List.count_append]
      simp [List.count_cons, e]
  · rw [List.getElem?_eq_none (by rw [List.length_set, counted_length]; omega), List.getElem?_eq_none (by rw [counted_length]; omega)]
theorem take_snoc {r : GRow} {j n : Nat} (h : r[j]? = some n) : r.take (j + 1) = r.take j ++ [n] := by
  rw [List.take_add_one, h]
  rfl
theorem split_at {r : GRow} {j n : Nat} (h : r[j]? = some n) : r = r.take j ++ n :: r.drop (j + 1) := by
  obtain ⟨hj, e⟩ := List.getElem?_eq_some_iff.mp h
  subst e
  exact (List.take_append_drop j r).symm.trans (by rw [List.drop_eq_getElem_cons hj])
theorem grow_len_append (R : GRules) (t : Nat) (a b : GRow) : (grow R t (a ++ b)).length = (grow R t a).length + (grow R t b).length := by
  rw [grow_append, List.length_append]

/-- where a turn of skipped begins: at t times to go; A was passed over, now comes next, left letters of it -/
structure SkipAt (R : GRules) (G : GRow) (many t : Nat) (A now : GRow) (left : Nat) : Prop where
  okA : RowOk R.length A
  okN : RowOk R.length now
  row : ∃ rest, G = grow R t A ++ (grow R t now ++ rest)
  sum : many = (grow R t A).length + left
  le : left ≤ (grow R t now).length
  lt : many < G.length → left < (grow R t now).length
/-- within the turn, behind j letters of now -/
def SkipIn (R : GRules) (t : Nat) (A now : GRow) (left j : Nat) (f : List Int) (l : Int) : Option Nat → Prop
  | none => f = counted R.length (A ++ now.take j) ∧ ∃ m : Nat, l = (m : Int) ∧ left = (grow R t (now.take j)).length + m
  | some n => ∃ p q, now = p ++ n :: q ∧ f = counted R.length (A ++ p) ∧ ∃ m : Nat, l = (m : Int) ∧ left = (grow R t p).length + m ∧ m < (grow R t [n]).length
section
variable {R : GRules} {G A now : GRow} {many t left j n : Nat} {f : List Int} {l : Int}
theorem skip_first (ok : RulesOk R) {row : GRow} (hr : RowOk R.length row) (hm : many ≤ (grow R t row).length) : SkipAt R (grow R t row) many t [] row many :=
  ⟨RowOk.nil _, hr, ⟨[], by rw [grow_nil]; simp⟩, by rw [grow_nil]; simp, hm, id⟩
theorem skipIn_start : SkipIn R t A now left 0 (counted R.length A) (left : Int) none := ⟨by simp, left, rfl, by simp [grow_nil]⟩
theorem skipIn_take (ok : RulesOk R) (hn : RowOk R.length now) (h : now[j]? = some n) (I : SkipIn R t A now left j f l none) (hl : (lens R t).getD n 0 ≤ l) :
    SkipIn R t A now left (j + 1) (f.set n (f.getD n 0 + 1)) (l - (lens R t).getD n 0) none := by
  obtain ⟨rfl, m, rfl, e⟩ := I
  have hk : n < R.length := hn.get h
  rw [lens_letter ok t n hk] at hl ⊢
  refine ⟨?_, m - (grow R t [n]).length, by omega, ?_⟩
  · rw [counted_getD hk, counted_snoc hk, take_snoc h, List.append_assoc]
  · rw [take_snoc h, grow_len_append]
    omega
theorem skipIn_stop (ok : RulesOk R) (hn : RowOk R.length now) (h : now[j]? = some n) (I : SkipIn R t A now left j f l none) (hl : ¬ (lens R t).getD n 0 ≤ l) :
    SkipIn R t A now left (j + 1) f l (some n) := by
  obtain ⟨rfl, m, rfl, e⟩ := I
  rw [lens_letter ok t n (hn.get h)] at hl
  exact ⟨now.take j, now.drop (j + 1), split_at h, rfl, m, rfl, e, by omega⟩
theorem skipIn_over {x : Nat} (I : SkipIn R t A now left j f l (some x)) : SkipIn R t A now left (j + 1) f l (some x) := I
/-- no letter was met: all of now is passed over -/
theorem skip_none (ok : RulesOk R) (S : SkipAt R G many t A now left) (I : SkipIn R t A now left now.length f l none) : gcs R t f = counted R.length (G.take many) ∧ many = G.length := by
  obtain ⟨rfl, m, rfl, e⟩ := I
  rw [List.take_length] at e ⊢
  obtain ⟨rest, hG⟩ := S.row
  have hle := S.le
  have hm : m = 0 := by omega
  subst hm
  have hs := S.sum
  have e1 : many = (grow R t (A ++ now)).length := by rw [grow_len_append]; omega
  have e2 : G = grow R t (A ++ now) ++ rest := by rw [hG, grow_append, List.append_assoc]
  refine ⟨?_, ?_⟩
  · rw [gcs_counted ok t (S.okA.append S.okN), e2, e1, List.take_left]
  · have hlt := S.lt
    have : G.length = (grow R t A).length + (grow R t now).length + rest.length := by rw [hG]; simp; omega
    by_cases q : many < G.length
    · have := hlt q
      omega
    · omega
/-- a letter was met, at no times to go -/
theorem skip_last (ok : RulesOk R) (S : SkipAt R G many 0 A now left) {x : Nat} (I : SkipIn R 0 A now left j f l (some x)) : gcs R 0 f = counted R.length (G.take many) ∧ G[many]? = some x := by
  obtain ⟨p, q, e, rfl, m, rfl, e1, e2⟩ := I
  obtain ⟨rest, hG⟩ := S.row
  have hs := S.sum
  have hm : m = 0 := by
    have : (grow R 0 [x]).length = 1 := rfl
    omega
  subst hm
  have e3 : (grow R 0 p).length = p.length := rfl
  have e4 : (grow R 0 A).length = A.length := rfl
  have e5 : G = (A ++ p) ++ x :: (q ++ rest) := by
    rw [hG, e]
    show A ++ ((p ++ x :: q) ++ rest) = _
    simp
  have e6 : many = (A ++ p).length := by rw [List.length_append]; omega
  refine ⟨?_, ?_⟩
  · show counted R.length (A ++ p) = counted R.length (G.take many)
    rw [e5, e6, List.take_left]
  · rw [e5, e6, List.getElem?_append_right (Nat.le_refl _), Nat.sub_self]
    rfl
/-- a letter was met: within its rule, one time less -/
theorem skip_next (ok : RulesOk R) (S : SkipAt R G many (t + 1) A now left) {x : Nat} (I : SkipIn R (t + 1) A now left j f l (some x)) :
    x < R.length ∧ ∃ (A' : GRow) (left' : Nat), gcs R 1 f = counted R.length A' ∧ l = (left' : Int) ∧ SkipAt R G many t A' (ruleOf R x) left' := by
  obtain ⟨p, q, e, rfl, m, rfl, e1, e2⟩ := I
  obtain ⟨rest, hG⟩ := S.row
  have hs := S.sum
  have okN : RowOk R.length (p ++ x :: q) := e ▸ S.okN
  have hx : x < R.length := okN.right.head
  refine ⟨hx, once R (A ++ p), m, gcs_counted ok 1 (S.okA.append okN.left), rfl, once_ok ok _, rule_ok ok _, ⟨grow R (t + 1) q ++ rest, ?_⟩, ?_, ?_, fun _ => ?_⟩
  · rw [hG, e]
    show grow R (t + 1) A ++ (grow R (t + 1) (p ++ ([x] ++ q)) ++ rest) = grow R (t + 1) (A ++ p) ++ (grow R t (ruleOf R x) ++ (grow R (t + 1) q ++ rest))
    rw [grow_append, grow_append, grow_append, show grow R t (ruleOf R x) = grow R (t + 1) [x] by rw [← once_one]; rfl]
    simp
  · show many = (grow R (t + 1) (A ++ p)).length + m
    rw [grow_len_append]
    omega
  · have : grow R t (ruleOf R x) = grow R (t + 1) [x] := by rw [← once_one]; rfl
    rw [this]
    omega
  · have : grow R t (ruleOf R x) = grow R (t + 1) [x] := by rw [← once_one]; rfl
    rw [this]
    exact e2
end
end Gw

namespace Gw
/-- the sum over places is the dot product -/
theorem dot_range (k : Nat) : ∀ (now : List Int) (told : List (List Int)), now.length = told.length →
    ((List.range now.length).map fun i => now.getD i 0 * (told.getD i []).getD k 0).sum = dot k now told
  | [], [], _ => rfl
  | [], _ :: _, h => absurd h (by simp)
  | _ :: _, [], h => absurd h (by simp)
  | a :: now, r :: told, h => by
    have ih := dot_range k now told (by simpa using h)
    rw [List.length_cons, List.range_succ_eq_map, List.map_cons, List.sum_cons, List.map_map]
    show a * r.getD k 0 + _ = a * r.getD k 0 + dot k now told
    rw [← ih]
    rfl
theorem gstep_length (told : List (List Int)) (n : Nat) (now : List Int) : (gstep told n now).length = n := by simp [gstep]
theorem gtimes_length (told : List (List Int)) (n : Nat) : ∀ (t : Nat) (now : List Int), now.length = n → (gtimes told n t now).length = n
  | 0, _, h => h
  | t + 1, now, _ => gtimes_length told n t (gstep told n now) (gstep_length told n now)
end Gw

namespace Gw
theorem rep_take_len {R : GRules} {n : Nat} (hR : 1 ≤ R.length) (hn : n ≤ 26) : ((List.replicate 26 R).flatten.take n).length = n := by
  rw [List.length_take]
  have : (List.replicate 26 R).flatten.length = R.length * 26 := by
    have z : ∀ k, (List.replicate k R).flatten.length = R.length * k := by
      intro k
      induction k with
      | zero => rfl
      | succ k ih =>
        rw [List.replicate_succ, List.flatten_cons, List.length_append, ih, Nat.mul_succ]
        omega
    exact z 26
  rw [this]
  omega
theorem once_beh (R S : GRules) (hl : R.length = S.length) : ∀ r : GRow, RowOk R.length r → once (R.map (once S)) r = once S (once R r)
  | [], _ => rfl
  | n :: r, h => by
    rw [once_cons, once_cons, once_append, once_beh R S hl r h.tail]
    congr 1
    unfold ruleOf
    have hn := h.head
    rw [List.getD_eq_getElem?_getD, List.getD_eq_getElem?_getD, List.getElem?_map, List.getElem?_eq_getElem hn]
    rfl
theorem beh_ok {R S : GRules} (hR : RulesOk R) (hS : RulesOk S) (hl : R.length = S.length) : RulesOk (R.map (once S)) :=
  ⟨by rw [List.length_map]; exact hR.pos, by rw [List.length_map]; exact hR.few, fun r hr => by
    rw [List.length_map]
    obtain ⟨q, _, rfl⟩ := List.mem_map.mp hr
    rw [hl]
    exact once_ok hS q⟩
/-- rules that grow as others do so many times -/
theorem grow_times {R S : GRules} (hS : RulesOk S) (k : Nat) (hk : ∀ r, RowOk S.length r → once R r = grow S k r) : ∀ (t : Nat) {r : GRow}, RowOk S.length r → grow R t r = grow S (k * t) r
  | 0, _, _ => rfl
  | t + 1, r, h => by
    show grow R t (once R r) = grow S (k * (t + 1)) r
    rw [hk r h, grow_times hS k hk t (grow_ok hS k h), Nat.mul_succ, Nat.add_comm, grow_add]
theorem once_bound {R : GRules} {c : Nat} (h : ∀ r ∈ R, r.length ≤ c) : ∀ r : GRow, (once R r).length ≤ r.length * c
  | [] => Nat.zero_le _
  | n :: r => by
    rw [once_cons, List.length_append, List.length_cons, Nat.succ_mul]
    have ih := once_bound h r
    have : (ruleOf R n).length ≤ c := by
      unfold ruleOf
      rw [List.getD_eq_getElem?_getD]
      cases e : R[n]? with
      | none => exact Nat.zero_le _
      | some q => exact h q (List.mem_of_getElem? e)
    omega
end Gw

/-! growrow: letters as texts, what readings evaluate to (over Evl), own rules. -/
namespace Gw
open PySem PySem.Spec PyProof.Rows L2 Evl

/-! ### letters -/
def cd (l : List Nat) : List Nat := l.map (97 + ·)
def enc (l : GRow) : Str := ⟨(cd l).toArray⟩
def sg (n : Nat) : Str := ⟨#[97 + n]⟩
def ALPH : Str := enc (List.range 26)
theorem enc_one (n : Nat) : enc [n] = sg n := rfl
theorem enc_len (l : GRow) : (enc l).length = l.length := by simp [enc, cd, Str.length]
theorem enc_inj {a b : GRow} (h : enc a = enc b) : a = b := by
  have e : cd a = cd b := congrArg (fun x : Str => x.cps.toList) h
  exact List.map_inj_right (fun x y h => Nat.add_left_cancel h) |>.mp e
theorem sg_inj {a b : Nat} (h : sg a = sg b) : a = b := by
  have := enc_inj (a := [a]) (b := [b]) h
  simpa using this
theorem enc_nil : enc [] = Str.ofString "" := by decide +kernel
theorem alph_eq : (Str.ofString "abcdefghijklmnopqrstuvwxyz") = ALPH := by decide +kernel
theorem alph_len : ALPH.length = 26 := by decide +kernel
theorem cd_range_get {n : Nat} (h : n < 26) : ALPH.cps.toList[n]? = some (97 + n) := by
  show (cd (List.range 26))[n]? = some (97 + n)
  unfold cd
  rw [List.getElem?_map, List.getElem?_range h]
  rfl
theorem alph_at {i : Int} {n : Nat} (e : i = (n : Int)) (h : n < 26) : atI ALPH.cps.toList i = some (97 + n) := by
  rw [e]
  exact atI_nat (cd_range_get h)
/-- each letter's place among the letters -/
theorem alph_occ {n : Nat} (h : n < 26) : ∃ rest, Builtin.Str.occurrences ALPH (sg n) 0 ALPH.length 1 = n :: rest := by
  have z : ∀ n, n < 26 → (Builtin.Str.occurrences ALPH (sg n) 0 ALPH.length 1).head? = some n := by decide +kernel
  have e := z n h
  cases q : Builtin.Str.occurrences ALPH (sg n) 0 ALPH.length 1 with
  | nil => rw [q] at e; cases e
  | cons a r =>
    rw [q] at e
    cases e
    exact ⟨r, rfl⟩

theorem enc_get {l : GRow} {i c : Nat} (h : (enc l).cps[i]? = some c) : ∃ n, l[i]? = some n ∧ c = 97 + n := by
  have e : (cd l)[i]? = some c := by
    have q : (enc l).cps.toList[i]? = some c := by
      rw [Array.getElem?_toList]
      exact h
    exact q
  unfold cd at e
  rw [List.getElem?_map] at e
  cases q : l[i]? with
  | none => rw [q] at e; cases e
  | some n =>
    rw [q] at e
    exact ⟨n, rfl, (Option.some.inj e).symm⟩
theorem enc_size (l : GRow) : (enc l).cps.size = l.length := by simp [enc, cd]
theorem enc_append (a b : GRow) : enc a ++ enc b = enc (a ++ b) := by
  have e := SX.S_cat (cd a) (cd b)
  show SX.S (cd a) ++ SX.S (cd b) = SX.S (cd (a ++ b))
  rw [e]
  simp [cd]
theorem joinL_nil : ∀ l : List (List Nat), TL.joinL [] l = l.flatten
  | [] => rfl
  | [a] => by simp [TL.joinL]
  | a :: b :: l => by
    have ih := joinL_nil (b :: l)
    show a ++ ([] ++ TL.joinL [] (b :: l)) = (a :: b :: l).flatten
    rw [ih]
    simp
theorem join_enc (ls : List GRow) : Txt.join (enc []) (ls.map enc) = enc ls.flatten := by
  have e := SX.join_S [] (ls.map cd)
  rw [joinL_nil, List.map_map] at e
  have e2 : (ls.map cd).flatten = cd ls.flatten := by
    unfold cd
    rw [List.map_flatten]
  rw [e2] at e
  exact e
theorem cut_take {l : GRow} {i : Int} (h : 0 ≤ i) : cutS (enc l) none (some i) = enc (l.take i.toNat) := by
  rw [C8.cutS_slice]
  refine (SX.slice_to (a := cd l) h).trans ?_
  show SX.S _ = SX.S _
  unfold cd
  rw [List.map_take]
theorem alph_cut {k : Nat} (h : k ≤ 26) : cutS ALPH none (some (k : Int)) = enc (List.range k) := by
  unfold ALPH
  rw [cut_take (by omega), Int.toNat_natCast]
  congr 1
  apply List.ext_getElem?
  intro i
  by_cases hi : i < k
  · rw [List.getElem?_take_of_lt hi, List.getElem?_range hi, List.getElem?_range (by omega)]
  · rw [List.getElem?_eq_none (by simp; omega), List.getElem?_eq_none (by simp; omega)]

theorem count_enc (l : GRow) (n : Nat) : Txt.count (enc l) (sg n) = (l.count n : Int) := by
  rw [show sg n = ⟨#[97 + n]⟩ from rfl, count_cnt]
  show cnt (97 + n) (cd l) = _
  induction l with
  | nil => rfl
  | cons a l ih =>
    show cnt (97 + n) ((97 + a) :: cd l) = _
    rw [cnt_cons, ih, List.count_cons]
    by_cases e : a = n
    · subst e
      simp
      omega
    · rw [if_neg (by omega)]
      have : ¬ (a == n) = true := by simpa using e
      simp [e]
theorem tw_all {p : Nat → Bool} : ∀ {l : List Nat}, (∀ a ∈ l, p a = true) → l.takeWhile p = l
  | [], _ => rfl
  | a :: l, h => by rw [List.takeWhile_cons, if_pos (h a List.mem_cons_self), tw_all fun b hb => h b (List.mem_cons_of_mem _ hb)]
theorem tw_mem {p : Nat → Bool} : ∀ {l : List Nat} {a : Nat}, a ∈ l.takeWhile p → p a = true
  | [], a, h => absurd h (by simp)
  | b :: l, a, h => by
    rw [List.takeWhile_cons] at h
    by_cases hb : p b = true
    · rw [if_pos hb] at h
      rcases List.mem_cons.mp h with e | h
      · rw [e]; exact hb
      · exact tw_mem h
    · rw [if_neg hb] at h
      cases h
theorem strip_all {x y : Str} (h : x.cps.toList.all y.cps.contains = true) : Txt.stripChars x y = Str.ofString "" := by
  have lo : PySem.stripLo y.cps.contains true x = x.length := by
    unfold PySem.stripLo
    rw [if_pos rfl, tw_all (fun a ha => List.all_eq_true.mp h a ha)]
    simp [Str.length]
  unfold Txt.stripChars Txt.stripBy PySem.stripSame PySem.stripped
  rw [lo]
  by_cases hz : x.length = 0
  · have e : x = Str.ofString "" := by
      apply TL.ext_tl
      have : x.cps.toList = [] := by
        apply List.eq_nil_of_length_eq_zero
        simpa [Str.length] using hz
      show x.cps.toList = _
      rw [this]
      decide +kernel
    by_cases q : (x.length == 0 && PySem.stripHi y.cps.contains true x x.length == x.length) = true
    · rw [if_pos q, e]
    · rw [if_neg q]
      subst e
      apply TL.ext_tl
      rw [show TL.tl (Builtin.Str.strSub (Str.ofString "") _ _) = _ from StrLaws.strSub_toList .., show (Str.ofString "").cps.toList = [] by decide +kernel, show TL.tl (Str.ofString "") = [] by decide +kernel]
      simp
  · rw [if_neg (by simp [hz])]
    apply TL.ext_tl
    rw [show TL.tl (Str.ofString "") = [] by decide +kernel]
    show (Builtin.Str.strSub x x.length _).cps.toList = []
    rw [StrLaws.strSub_toList]
    rw [List.drop_eq_nil_of_le (by simp [Str.length])]
    simp
theorem strip_some {x y : Str} (h : ¬ x.cps.toList.all y.cps.contains = true) : Txt.stripChars x y ≠ Str.ofString "" := by
  intro e
  have tl0 : TL.tl (Str.ofString "") = [] := by decide +kernel
  have ex : ∃ a ∈ x.cps.toList, ¬ y.cps.contains a = true := by
    by_cases q : ∃ a ∈ x.cps.toList, ¬ y.cps.contains a = true
    · exact q
    · refine absurd (List.all_eq_true.mpr fun a ha => ?_) h
      by_cases z : y.cps.contains a = true
      · exact z
      · exact absurd ⟨a, ha, z⟩ q
  obtain ⟨a, ha, hna⟩ := ex
  unfold Txt.stripChars Txt.stripBy at e
  by_cases q : PySem.stripSame y.cps.contains true true x = true
  · rw [if_pos q] at e
    rw [e] at ha
    rw [show (Str.ofString "").cps.toList = [] from tl0] at ha
    cases ha
  · rw [if_neg q] at e
    have e2 : TL.tl (PySem.stripped y.cps.contains true true x) = [] := by rw [e]; exact tl0
    unfold PySem.stripped at e2
    rw [show TL.tl (Builtin.Str.strSub x _ _) = _ from StrLaws.strSub_toList ..] at e2
    -- the letters of x: those taken off its head, the rest
    have hsplit : x.cps.toList = x.cps.toList.takeWhile y.cps.contains ++ x.cps.toList.dropWhile y.cps.contains := (List.takeWhile_append_dropWhile).symm
    have hlo : PySem.stripLo y.cps.contains true x = (x.cps.toList.takeWhile y.cps.contains).length := by
      unfold PySem.stripLo
      rw [if_pos rfl]
    have hdrop : x.cps.toList.drop (PySem.stripLo y.cps.contains true x) = x.cps.toList.dropWhile y.cps.contains := by
      rw [hlo]
      have z := List.drop_left (l₁ := x.cps.toList.takeWhile y.cps.contains) (l₂ := x.cps.toList.dropWhile y.cps.contains)
      rw [← hsplit] at z
      exact z
    have hne : x.cps.toList.dropWhile y.cps.contains ≠ [] := by
      intro z
      rw [z, List.append_nil] at hsplit
      rw [hsplit] at ha
      exact hna (tw_mem ha)
    unfold PySem.stripHi at e2
    rw [if_pos rfl, hdrop] at e2
    have hl : x.length = (x.cps.toList.takeWhile y.cps.contains).length + (x.cps.toList.dropWhile y.cps.contains).length := by
      rw [← List.length_append, List.takeWhile_append_dropWhile]
      simp [Str.length]
    have hlt : ((x.cps.toList.dropWhile y.cps.contains).reverse.takeWhile y.cps.contains).length < (x.cps.toList.dropWhile y.cps.contains).length := by
      have hle := (List.takeWhile_sublist (p := y.cps.contains) (l := (x.cps.toList.dropWhile y.cps.contains).reverse)).length_le
      rw [List.length_reverse] at hle
      rcases Nat.lt_or_ge ((x.cps.toList.dropWhile y.cps.contains).reverse.takeWhile y.cps.contains).length (x.cps.toList.dropWhile y.cps.contains).length with z | z
      · exact z
      · exfalso
        have heq : (x.cps.toList.dropWhile y.cps.contains).reverse.takeWhile y.cps.contains = (x.cps.toList.dropWhile y.cps.contains).reverse :=
          (List.takeWhile_sublist _).eq_of_length (by rw [List.length_reverse]; omega)
        have hall : ∀ a ∈ (x.cps.toList.dropWhile y.cps.contains).reverse, y.cps.contains a = true := fun a ha => by rw [← heq] at ha; exact tw_mem ha
        cases hd : x.cps.toList.dropWhile y.cps.contains with
        | nil => exact hne hd
        | cons c r =>
          have h1 := hall c (by rw [hd]; simp)
          have h2 := List.head_dropWhile_not (p := y.cps.contains) (l := x.cps.toList) (by rw [hd]; simp)
          have h3 : (x.cps.toList.dropWhile y.cps.contains).head (by rw [hd]; simp) = c := by simp [hd]
          rw [h3, h1] at h2
          cases h2
    have := congrArg List.length e2
    rw [List.length_take, List.length_nil, hlo] at this
    omega
/-- a text of the first k letters alone -/
def isLet (k : Nat) (z : Str) : Bool := z.cps.toList.all (enc (List.range k)).cps.contains
theorem strip_eq (k : Nat) (z : Str) : decide (V.str (Txt.stripChars z (enc (List.range k))) = V.str (Str.ofString "")) = isLet k z := by
  cases h : isLet k z with
  | true =>
    rw [strip_all h]
    exact decide_eq_true rfl
  | false =>
    refine decide_eq_false fun e => ?_
    have h2 : ¬ isLet k z = true := by rw [h]; exact Bool.false_ne_true
    exact strip_some h2 (V.str.inj e)
theorem let_mem {k c : Nat} : (enc (List.range k)).cps.contains c = true ↔ ∃ n, n < k ∧ c = 97 + n := by
  rw [Array.contains_iff]
  have e : c ∈ (enc (List.range k)).cps ↔ c ∈ cd (List.range k) := by
    rw [← Array.mem_toList_iff]
    exact Iff.rfl
  rw [e]
  unfold cd
  rw [List.mem_map]
  constructor
  · rintro ⟨n, hn, rfl⟩
    exact ⟨n, List.mem_range.mp hn, rfl⟩
  · rintro ⟨n, hn, rfl⟩
    exact ⟨n, List.mem_range.mpr hn, rfl⟩
theorem isLet_enc {k : Nat} {l : GRow} (h : RowOk k l) : isLet k (enc l) = true := by
  refine List.all_eq_true.mpr fun c hc => let_mem.mpr ?_
  have hc : c ∈ cd l := hc
  unfold cd at hc
  obtain ⟨n, hn, rfl⟩ := List.mem_map.mp hc
  exact ⟨n, h n hn, rfl⟩
theorem isLet_iff {k : Nat} {l : GRow} : isLet k (enc l) = true ↔ RowOk k l := by
  constructor
  · intro h n hn
    have := List.all_eq_true.mp h (97 + n) (by show _ ∈ cd l; unfold cd; exact List.mem_map.mpr ⟨n, hn, rfl⟩)
    obtain ⟨m, hm, e⟩ := let_mem.mp this
    omega
  · exact isLet_enc
end Gw

namespace Gw
open PySem PySem.Spec PyProof.Rows L2 Evl
/-! ### a reading of two kinds -/
theorem pe_or2 {X : Cx} {e : Expr} {t1 t2 : TE} (h1 : PE X e t1) (h2 : PE X e t2) : PE X e (fun σ H Q => t1 σ H Q ∨ t2 σ H Q) :=
  ⟨fun pins s σ H Q I h => h.elim (h1.run pins s σ H Q I) (h2.run pins s σ H Q I)⟩

/-! ### texts -/
section
variable {K : PySem.W.Frag} {σ : L2.St} {H H' : Hp} {ta tb te to : TE} {t u : TT} {x y v : V} {z : Str} {l : GRow} {n : Nat}
def rSIdx : V → List V → Hp → VK → Prop := fun x xs H Q => ∃ a b i rest, x = .str a ∧ xs = [.str b] ∧ Builtin.Str.occurrences a b 0 a.length 1 = i :: rest ∧ Q (.int (i : Nat)) H
theorem ev_bmS {r : V → List V → Hp → VK → Prop} {ta : TA} {vs : List V} (ho : Ev to σ H (.str z)) (ha : EvA ta σ H vs) (hr : ∀ H1 Q, Q v H1 → r (.str z) vs H1 Q) : Ev (tBM K "str" r to ta) σ H v := fun H1 e Q q =>
  ho H1 e _ fun H2 e2 => ⟨rfl, ha H2 (e.trans e2) _ fun H3 e3 => hr H3 Q (q H3 (e2.trans e3))⟩
theorem ea_one (h : Ev te σ H x) : EvA (tCons te tNil) σ H [x] := ea_cons h ea_nil
theorem ea_two (h : Ev ta σ H x) (h2 : Ev tb σ H y) : EvA (tCons ta (tCons tb tNil)) σ H [x, y] := ea_cons h (ea_cons h2 ea_nil)
theorem ea_three {w : V} (h : Ev ta σ H x) (h2 : Ev tb σ H y) (h3 : Ev te σ H w) : EvA (tCons ta (tCons tb (tCons te tNil))) σ H [x, y, w] := ea_cons h (ea_cons h2 (ea_cons h3 ea_nil))
/-- LETTERS.index(letter) -/
theorem ev_idx (ho : Ev to σ H (.str ALPH)) (h : Ev te σ H (.str (sg n))) (hn : n < 26) : Ev (tBM K "str" rSIdx to (tCons te tNil)) σ H (.int (n : Int)) :=
  ev_bmS ho (ea_one h) fun H1 Q q => by
    obtain ⟨rest, e⟩ := alph_occ hn
    exact ⟨ALPH, sg n, n, rest, rfl, rfl, e, q⟩
def rSCount : V → List V → Hp → VK → Prop := fun x xs H Q => ∃ a b, x = .str a ∧ xs = [.str b] ∧ Q (.int (Txt.count a b)) H
theorem ev_count (ho : Ev to σ H (.str (enc l))) (h : Ev te σ H (.str (sg n))) : Ev (tBM K "str" rSCount to (tCons te tNil)) σ H (.int (l.count n : Int)) :=
  ev_bmS ho (ea_one h) fun H1 Q q => ⟨enc l, sg n, rfl, rfl, by rw [count_enc]; exact q⟩
def rSStrip : V → List V → Hp → VK → Prop := fun x xs H Q => ∃ a b, x = .str a ∧ xs = [.str b] ∧ a.length ≤ sizeLine ∧ Q (.str (Txt.stripChars a b)) H
theorem ev_strip {b : Str} (ho : Ev to σ H (.str z)) (h : Ev te σ H (.str b)) (hz : z.length ≤ sizeLine) : Ev (tBM K "str" rSStrip to (tCons te tNil)) σ H (.str (Txt.stripChars z b)) :=
  ev_bmS ho (ea_one h) fun H1 Q q => ⟨z, b, rfl, rfl, hz, q⟩
theorem ev_slS {tl th : TO} {lo hi : Option Int} (h : Ev te σ H (.str z)) (h1 : EvO tl σ H lo) (h2 : EvO th σ H hi) (hz : z.length ≤ sizeLine) : Ev (tSl rSlS te tl th) σ H (.str (cutS z lo hi)) := fun H1 e Q q =>
  h H1 e _ fun H2 e2 => h1 H2 (e.trans e2) _ fun H3 e3 => h2 H3 ((e.trans e2).trans e3) _ fun H4 e4 => ⟨z, rfl, hz, q H4 ((e2.trans e3).trans e4)⟩
theorem alph_sz : ALPH.length ≤ sizeLine := by rw [alph_len]; decide
/-- LETTERS[:k] -/
theorem ev_alphCut {th : TO} {k : Nat} (h : Ev te σ H (.str ALPH)) (h2 : EvO th σ H (some (k : Int))) (hk : k ≤ 26) : Ev (tSl rSlS te tNoPart th) σ H (.str (enc (List.range k))) :=
  ev_is (ev_slS h eo_none h2 alph_sz) (by rw [alph_cut hk])
theorem ev_take {th : TO} {i : Int} (h : Ev te σ H (.str (enc l))) (h2 : EvO th σ H (some i)) (hi : 0 ≤ i) (hz : l.length ≤ sizeLine) : Ev (tSl rSlS te tNoPart th) σ H (.str (enc (l.take i.toNat))) :=
  ev_is (ev_slS h eo_none h2 (by rw [enc_len]; exact hz)) (by rw [cut_take hi])
def rSLen : List V → Hp → VK → Prop := fun xs H Q => ∃ z, xs = [.str z] ∧ z.length ≤ sizeLine ∧ Q (.int z.length) H
theorem ev_lenS (h : Ev te σ H (.str z)) (hz : z.length ≤ sizeLine) : Ev (tCB rSLen (tCons te tNil)) σ H (.int (z.length : Int)) := fun H1 e Q q =>
  h H1 e _ fun H2 e2 => ⟨z, rfl, hz, q H2 e2⟩
theorem ev_lenE (h : Ev te σ H (.str (enc l))) (hz : l.length ≤ sizeLine) : Ev (tCB rSLen (tCons te tNil)) σ H (.int (l.length : Int)) :=
  ev_is (ev_lenS h (by rw [enc_len]; exact hz)) (by rw [enc_len])
def rSJoin (K : PySem.W.Frag) : V → List V → Hp → VK → Prop := fun x xs H Q => ∃ a p, ∃ ys : List Str, x = .str a ∧ xs = [.ref p] ∧ (SqL K H p (ys.map V.str) ∨ SqT K H p (ys.map V.str)) ∧
  (ys.map (·.length)).sum + ys.length * a.length ≤ 16777216 ∧ Q (.str (Txt.join a ys)) H
theorem flat_len : ∀ ls : List GRow, ((ls.map enc).map (·.length)).sum = ls.flatten.length
  | [] => rfl
  | a :: ls => by rw [List.map_cons, List.map_cons, List.sum_cons, flat_len ls, enc_len, List.flatten_cons, List.length_append]
/-- "".join([..]), a new list of letters' texts -/
theorem ev_join {ls : List GRow} (ho : Ev to σ H (.str (enc []))) (h : EvL te σ H (ls.map fun r => V.str (enc r))) (hz : ls.flatten.length ≤ 16777216) : Ev (tM1 (rSJoin K) to te) σ H (.str (enc ls.flatten)) := fun H1 e Q q =>
  ho H1 e _ fun H2 e2 => ⟨⟨enc [], rfl⟩, h H2 (e.trans e2) _ fun p H3 _ e3 h3 => ⟨enc [], p, ls.map enc, rfl, rfl, Or.inl (sq_of (by rw [h3, List.map_map]; rfl)), by
    rw [flat_len, enc_len]
    show ls.flatten.length + (ls.map enc).length * 0 ≤ 16777216
    omega, by rw [join_enc]; exact q H3 (e2.trans e3)⟩⟩
theorem ev_eqS (s : Str) (ha : Ev ta σ H (.str z)) (hb : Ev tb σ H (.str s)) : Ev (tOp rEq ta tb) σ H (.bl (decide (V.str z = V.str s))) := ev_op ha hb (rv_eq rfl)
theorem ev_sumN {ns : List Int} (h : EvL te σ H (ns.map V.int)) : Ev (tCB (rSum K) (tCons te tNil)) σ H (.int ns.sum) := fun H1 e Q q =>
  h H1 e _ fun p H2 _ e2 h2 => ⟨p, ns, rfl, sq_of h2, q H2 e2⟩
theorem ev_sum {a : Addr} {ns : List Int} (h : Ev te σ H (.ref a)) (hs : SqL K H a (ns.map V.int)) : Ev (tCB (rSum K) (tCons te tNil)) σ H (.int ns.sum) := fun H1 e Q q =>
  h H1 e _ fun H2 e2 => ⟨a, ns, rfl, ex_l (e.trans e2) hs, q H2 e2⟩
theorem ev_allN {bs : List Bool} (h : EvL te σ H (bs.map V.bl)) : Ev (tCB (rAll K) (tCons te tNil)) σ H (.bl (bs.all id)) := fun H1 e Q q =>
  h H1 e _ fun p H2 _ e2 h2 => ⟨p, bs, rfl, sq_of h2, q H2 e2⟩
theorem ev_anyN {bs : List Bool} (h : EvL te σ H (bs.map V.bl)) : Ev (tCB (rAny K) (tCons te tNil)) σ H (.bl (bs.any id)) := fun H1 e Q q =>
  h H1 e _ fun p H2 _ e2 h2 => ⟨p, bs, rfl, sq_of h2, q H2 e2⟩
/-- isinstance(x, T) -/
theorem ty_ex {w : Value} (h : TyX K H x w) (e : Ex H H') : TyX K H' x w := by
  cases h with
  | base h => cases h with
    | non => exact .base .non
    | bl b => exact .base (.bl b)
    | int i => exact .base (.int i)
    | str s => exact .base (.str s)
    | flt f => exact .base (.flt f)
    | lst h => exact .base (.lst (e _ _ h))
    | frz h => exact .base (.frz (e _ _ h))
    | tup h => exact .base (.tup (e _ _ h))
    | dK h => exact .base (.dK (e _ _ h))
    | dT h => exact .base (.dT (e _ _ h))
    | ins h c1 c2 c3 c4 c5 => exact .base (.ins (e _ _ h) c1 c2 c3 c4 c5)
  | byt b => exact .byt b
  | set h => exact .set (e _ _ h)
  | kList h c => exact .kList h c
  | kTuple h c => exact .kTuple h c
  | kDict h c => exact .kDict h c
  | fTuple h => exact .fTuple (e _ _ h)
  | fDict h => exact .fDict (e _ _ h)
theorem ev_isi {T : String} {w : Value} {b : Bool} (h : Ev te σ H x) (ht : TyX K H x w) (hk : PySem.W.kitOne K w (.type T) = some b) : Ev (tCB (rIsi K) (tCons te (tCons (tC (.ty T)) tNil))) σ H (.bl b) := fun H1 e Q q =>
  h H1 e _ fun H2 e2 => ⟨x, .ty T, w, .type T, b, rfl, .ty T, ty_ex ht (e.trans e2), hk, q H2 e2⟩
theorem ev_isiC {C : Addr} {w : Value} {b : Bool} (h : Ev te σ H x) (ht : TyX K H x w) (hk : PySem.W.kitOne K w (.ref C) = some b) : Ev (tCB (rIsi K) (tCons te (tCons (tC (.ref C)) tNil))) σ H (.bl b) := fun H1 e Q q =>
  h H1 e _ fun H2 e2 => ⟨x, .ref C, w, .ref C, b, rfl, .own C, ty_ex ht (e.trans e2), hk, q H2 e2⟩
/-- a list's type, wherever it stands -/
theorem ty_list {a : Addr} {xs : List V} (h : SqL K H a xs) : TyX K H (.ref a) (.type "list") := by
  rcases h with (h | ⟨o, h⟩) | ⟨o, its, n, h, c, _⟩
  · exact .base (.lst h)
  · exact .base (.frz h)
  · exact .kList h c
/-- a < b < c -/
theorem ev_chain {r r' : R2} {tc : TE} {w : V} {a b : Bool} (ha : Ev ta σ H x) (hb : Ev tb σ H y) (hc : a = true → Ev tc σ H w) (h1 : RV r x y H (.bl a)) (h2 : a = true → RV r' y w H (.bl b)) : Ev (tChain r r' ta tb tc) σ H (.bl (a && b)) := fun H1 e Q q =>
  ha H1 e _ fun H2 e2 => hb H2 (e.trans e2) _ fun H3 e3 => h1 H3 ((e.trans e2).trans e3) _ fun H4 e4 => ⟨a, rfl, by
    cases a with
    | true =>
      rw [if_pos rfl]
      exact hc rfl H4 (((e.trans e2).trans e3).trans e4) _ fun H5 e5 => h2 rfl H5 ((((e.trans e2).trans e3).trans e4).trans e5) Q fun H6 e6 => q H6 ((((e2.trans e3).trans e4).trans e5).trans e6)
    | false =>
      rw [if_neg Bool.false_ne_true]
      exact q H4 ((e2.trans e3).trans e4)⟩
/-- pe_one: the last of an and, or -/
theorem ev_mul {i j : Int} (ha : Ev ta σ H (.int i)) (hb : Ev tb σ H (.int j)) (hc : CMul i j) : Ev (tOp (rI CMul fun i j => .int (i * j)) ta tb) σ H (.int (i * j)) := ev_op ha hb (rv_I hc)
end

/-! ### what is walked: n turns, its items -/
structure WI (wi : TI) (σ : L2.St) (H : Hp) (n : Nat) (Y : Nat → Hp → V → Hp → Prop) : Prop where
  go : ∀ H1, Ex H H1 → ∀ R : It → Hp → Prop, (∀ J G H2, Ex H1 H2 → Walk J n G Y → (∀ H3, Ex H2 H3 → G H3) → R J H2) → wi σ H1 R
section
variable {K : PySem.W.Frag} {σ : L2.St} {H H' : Hp} {te : TE} {ta : TA} {wi : TI} {n : Nat} {Y : Nat → Hp → V → Hp → Prop}
theorem WI.mono (e : Ex H H') (w : WI wi σ H n Y) : WI wi σ H' n Y := ⟨fun H1 e1 R k => w.go H1 (e.trans e1) R k⟩
theorem wi_list {a : Addr} {xs : List V} (h : Ev te σ H (.ref a)) (hx : SqL K H a xs) : WI (iList K te) σ H xs.length (YAt xs) :=
  ⟨fun H1 e R k => h H1 e _ fun H2 e2 => ⟨a, rfl, ⟨xs, ex_l (e.trans e2) hx⟩, k _ _ H2 e2 walk_list fun H3 e3 => ex_l ((e.trans e2).trans e3) hx⟩⟩
theorem wi_listN {xs : List V} (h : EvL te σ H xs) : WI (iList K te) σ H xs.length (YAt xs) :=
  ⟨fun H1 e R k => h H1 e _ fun p H2 _ e2 h2 => ⟨p, rfl, ⟨xs, sq_of h2⟩, k _ _ H2 e2 walk_list fun H3 e3 => sq_of (e3 _ _ h2)⟩⟩
theorem yat_str {l : GRow} {i : Nat} {v : V} {H H' : Hp} (h : H' = H ∧ ∃ c, (enc l).cps[i]? = some c ∧ v = .str ⟨#[c]⟩) : YAt (l.map fun n => V.str (sg n)) i H v H' := by
  obtain ⟨rfl, c, hc, rfl⟩ := h
  obtain ⟨m, hm, rfl⟩ := enc_get hc
  exact ⟨rfl, by rw [List.getElem?_map, hm]; rfl⟩
theorem wi_str {l : GRow} (h : Ev te σ H (.str (enc l))) : WI (iStr te) σ H l.length (YAt (l.map fun n => V.str (sg n))) :=
  ⟨fun H1 e R k => h H1 e _ fun H2 e2 => ⟨enc l, rfl, k _ (fun _ => True) H2 e2 (by
    have w := (walk_str (z := enc l)).mono (G' := fun _ => True) (Y' := YAt (l.map fun n => V.str (sg n))) (fun _ h => h) fun i H x H' _ _ y => yat_str y
    rw [enc_size] at w
    exact w) fun _ _ => True.intro⟩⟩
theorem wi_rng1 {m : Int} (h : EvA ta σ H [.int m]) (hm : -(2 ^ 62) ≤ m ∧ m < 2 ^ 62) : WI (iRng1 ta) σ H m.toNat (YFn fun i => .int (i : Int)) :=
  ⟨fun H1 e R k => h H1 e _ fun H2 e2 => ⟨m, rfl, hm.1, hm.2, k _ (fun _ => True) H2 e2 ((walk_range (lo := 0) (n := m.toNat)).mono (fun _ h => h) fun i H x H' _ _ y => ⟨y.1, y.2.trans (congrArg V.int (Int.zero_add _))⟩) fun _ _ => True.intro⟩⟩
theorem wi_zip {a b : Addr} {xs ys : List V} (h : EvA ta σ H [.ref a, .ref b]) (hx : SqL K H a xs) (hy : SqL K H b ys) (hn : n = min xs.length ys.length) : WI (iZip K ta) σ H n (YPair (fun i => xs[i]?) (fun i => ys[i]?)) :=
  ⟨fun H1 e R k => h H1 e _ fun H2 e2 => ⟨a, b, xs, ys, rfl, ex_l (e.trans e2) hx, ex_l (e.trans e2) hy, k _ _ H2 e2 (walk_zip hn) fun H3 e3 => ⟨ex_l ((e.trans e2).trans e3) hx, ex_l ((e.trans e2).trans e3) hy⟩⟩⟩
theorem wi_enum {a : Addr} {xs : List V} (h : EvA ta σ H [.ref a]) (hx : SqL K H a xs) : WI (iEnum K ta) σ H xs.length (YPair (fun i => some (.int (i : Nat))) (fun i => xs[i]?)) :=
  ⟨fun H1 e R k => h H1 e _ fun H2 e2 => ⟨a, xs, rfl, ex_l (e.trans e2) hx, k _ _ H2 e2 walk_enum fun H3 e3 => ex_l ((e.trans e2).trans e3) hx⟩⟩
/-- reversed(range(m)) -/
theorem wi_revR {tr : L2.St → Hp → (Int → Int → Hp → Prop) → Prop} {m : Nat} (h : ∀ H1, Ex H H1 → ∀ R : Int → Int → Hp → Prop, (∀ H2, Ex H1 H2 → R 0 (m : Int) H2) → tr σ H1 R) (hm : m < 1000000) :
    WI (iRevR tr) σ H m (YFn fun i => .int ((m : Int) - 1 - (i : Int))) :=
  ⟨fun H1 e R k => h H1 e _ fun H2 e2 => ⟨by omega, by omega, by omega, by omega, by
    have e0 : ((m : Int) - 0).toNat = m := by omega
    rw [e0]
    exact k _ (fun _ => True) H2 e2 ((walk_rangeC (lo := 0 + (m : Int) - 1) (c := -1) (n := m)).mono (fun _ h => h) fun i H x H' _ _ y => ⟨y.1, y.2.trans (congrArg V.int (by omega))⟩) fun _ _ => True.intro⟩⟩
end
/-! ### comprehensions -/
section
variable {K : PySem.W.Frag} {σ : L2.St} {H H' : Hp} {te : TE} {t : TT} {ta : TA} {wi : TI} {g : TG} {n j : Nat} {vs : List Nat} {Y : Nat → Hp → V → Hp → Prop}
/-- the list so far -/
def Lw (H : Hp) (v : Nat → V) (Dl : Addr) (i : Nat) (H' : Hp) : Prop := H Dl = none ∧ Ex H H' ∧ H' Dl = some (.lst ((List.range i).map v))
theorem range_snoc (v : Nat → V) (i : Nat) : (List.range (i + 1)).map v = (List.range i).map v ++ [v i] := by
  rw [List.range_succ, List.map_append]
  rfl
theorem tyes_go {P N : Hp → Prop} {σ : L2.St} {H : Hp} (h : P H) : tYes σ H fun b H3 => if b = true then P H3 else N H3 := by
  show if true = true then P H else N H
  rw [if_pos rfl]
  exact h
theorem el_any (w : WI wi σ H n Y) (v : Nat → V) (hn : n < sizeLine)
    (hs : ∀ i x H1 H2, i < n → Ex H H1 → Y i H1 x H2 → ∀ Q : L2.St → Hp → Prop, (∀ σ2 H3, wipe σ2 vs = wipe σ vs → Ex H1 H3 → Ev te σ2 H3 (v i) → Q σ2 H3) → g x (wipe σ vs) H2 Q) :
    EvL (tLc wi g tYes te vs) σ H ((List.range n).map v) := fun H0 e Q q => w.go H0 e _ fun J G H1 e1 wk hG Dl hD =>
  lc_it wk (Lw H1 v Dl) ⟨hD, Ex.new hD, upd_same⟩ (fun i H' _ p => hG H' p.2.1) (fun i x H2 H3 hi p y => hs i x H2 H3 hi ((e.trans e1).trans p.2.1) y _ fun σ2 H4 hw e4 hv => ⟨hw, by
    refine tyes_go ?_
    refine hv H4 (Ex.refl H4) _ fun H5 e5 => ⟨(List.range i).map v, e5 Dl _ (e4 Dl _ p.2.2), by rw [List.length_map, List.length_range]; omega, p.1, Ex.mut ((p.2.1.trans e4).trans e5) p.1, ?_⟩
    rw [range_snoc]
    exact upd_same⟩) fun H' p => q Dl H' (fresh_back e1 p.1) (e1.trans p.2.1) p.2.2
/-- .. with a test -/
theorem el_anyF (w : WI wi σ H n Y) (f : Nat → Bool) (v : Nat → V) (hn : n < sizeLine)
    (hs : ∀ i x H1 H2, i < n → Ex H H1 → Y i H1 x H2 → ∀ Q : L2.St → Hp → Prop, (∀ σ2 H3, wipe σ2 vs = wipe σ vs → Ex H1 H3 → EvT t σ2 H3 (f i) → (f i = true → Ev te σ2 H3 (v i)) → Q σ2 H3) → g x (wipe σ vs) H2 Q) :
    EvL (tLc wi g t te vs) σ H (given n f v) := fun H0 e Q q => w.go H0 e _ fun J G H1 e1 wk hG Dl hD =>
  lc_it wk (Cw H1 f v Dl) ⟨hD, Ex.new hD, upd_same⟩ (fun i H' _ p => hG H' p.2.1) (fun i x H2 H3 hi p y => hs i x H2 H3 hi ((e.trans e1).trans p.2.1) y _ fun σ2 H4 hw e4 ht hv => ⟨hw, by
    refine ht H4 (Ex.refl H4) _ fun H5 e5 => ?_
    cases hf : f i with
    | true =>
      rw [if_pos rfl]
      refine hv hf H5 e5 _ fun H6 e6 => ⟨given i f v, e6 Dl _ (e5 Dl _ (e4 Dl _ p.2.2)), by have := given_len i f v; omega, p.1, Ex.mut (((p.2.1.trans e4).trans e5).trans e6) p.1, ?_⟩
      rw [given_yes hf]
      exact upd_same
    | false =>
      rw [if_neg Bool.false_ne_true]
      refine ⟨p.1, (p.2.1.trans e4).trans e5, ?_⟩
      rw [given_no hf]
      exact e5 Dl _ (e4 Dl _ p.2.2)⟩) fun H' p => q Dl H' (fresh_back e1 p.1) (e1.trans p.2.1) p.2.2
/-- a list of new lists at p -/
def LL (H : Hp) (p : Addr) (as : List Addr) (xss : List (List V)) : Prop := H p = some (.lst (as.map V.ref)) ∧ as.length = xss.length ∧ ∀ (i : Nat) (a : Addr) (xs : List V), as[i]? = some a → xss[i]? = some xs → H a = some (.lst xs)
def EvLL (te : TE) (σ : L2.St) (H : Hp) (xss : List (List V)) : Prop := ∀ H1, Ex H H1 → ∀ Q : VK, (∀ p as H2, H1 p = none → (∀ a ∈ as, H1 a = none ∧ a ≠ p) → Ex H1 H2 → LL H2 p as xss → Q (.ref p) H2) → te σ H1 Q
theorem LL.mono {p : Addr} {as : List Addr} {xss : List (List V)} (e : Ex H H') (h : LL H p as xss) : LL H' p as xss := ⟨e _ _ h.1, h.2.1, fun i a xs h1 h2 => e _ _ (h.2.2 i a xs h1 h2)⟩
theorem LL.get {p : Addr} {as : List Addr} {xss : List (List V)} {i : Nat} {xs : List V} (h : LL H p as xss) (hx : xss[i]? = some xs) : ∃ a, (as.map V.ref)[i]? = some (V.ref a) ∧ H a = some (.lst xs) := by
  have hi : i < as.length := by rw [h.2.1]; exact (List.getElem?_eq_some_iff.mp hx).1
  exact ⟨as[i], by rw [List.getElem?_map, List.getElem?_eq_getElem hi]; rfl, h.2.2 i _ xs (List.getElem?_eq_getElem hi) hx⟩
def LLw (H : Hp) (v : Nat → List V) (Dl : Addr) (i : Nat) (H' : Hp) : Prop := H Dl = none ∧ Ex H H' ∧ ∃ as, (∀ a ∈ as, H a = none ∧ a ≠ Dl) ∧ LL H' Dl as ((List.range i).map v)
theorem ll_snoc {p a : Addr} {as : List Addr} {xss : List (List V)} {xs : List V} (h : LL H p as xss) (ha : H a = some (.lst xs)) (hp : p ≠ a) (hps : ∀ b ∈ as, b ≠ p) : LL (upd H p (.lst (as.map V.ref ++ [V.ref a]))) p (as ++ [a]) (xss ++ [xs]) := by
  refine ⟨by rw [upd_same, List.map_append]; rfl, by rw [List.length_append, List.length_append, h.2.1]; rfl, fun i b ys h1 h2 => ?_⟩
  by_cases hi : i < as.length
  · rw [List.getElem?_append_left hi] at h1
    rw [List.getElem?_append_left (by rw [← h.2.1]; exact hi)] at h2
    rw [upd_ne (hps b (List.mem_of_getElem? h1))]
    exact h.2.2 i b ys h1 h2
  · rw [List.getElem?_append_right (by omega)] at h1
    rw [List.getElem?_append_right (by rw [← h.2.1]; omega), ← h.2.1] at h2
    obtain ⟨k, hk⟩ : ∃ k, i - as.length = k := ⟨_, rfl⟩
    rw [hk] at h1 h2
    cases k with
    | zero =>
      cases h1
      cases h2
      rw [upd_ne hp.symm]
      exact ha
    | succ k => cases h1
theorem ell_any (w : WI wi σ H n Y) (v : Nat → List V) (hn : n < sizeLine)
    (hs : ∀ i x H1 H2, i < n → Ex H H1 → Y i H1 x H2 → ∀ Q : L2.St → Hp → Prop, (∀ σ2 H3, wipe σ2 vs = wipe σ vs → Ex H1 H3 → EvL te σ2 H3 (v i) → Q σ2 H3) → g x (wipe σ vs) H2 Q) :
    EvLL (tLc wi g tYes te vs) σ H ((List.range n).map v) := fun H0 e Q q => w.go H0 e _ fun J G H1 e1 wk hG Dl hD =>
  lc_it wk (LLw H1 v Dl) ⟨hD, Ex.new hD, [], fun a ha => absurd ha (by simp), upd_same, rfl, fun i a xs h1 => absurd h1 (by simp)⟩ (fun i H' _ p => hG H' p.2.1) (fun i x H2 H3 hi p y => hs i x H2 H3 hi ((e.trans e1).trans p.2.1) y _ fun σ2 H4 hw e4 hv => ⟨hw, by
    refine tyes_go ?_
    obtain ⟨p1, p2, as, p3, p4⟩ := p
    refine hv H4 (Ex.refl H4) _ fun b H5 hb e5 h5 => ⟨as.map V.ref, (p4.mono (e4.trans e5)).1, by rw [List.length_map, p4.2.1, List.length_map, List.length_range]; omega, p1, Ex.mut ((p2.trans e4).trans e5) p1, as ++ [b], ?_, ?_⟩
    · intro c hc
      rcases List.mem_append.mp hc with h | h
      · exact p3 c h
      · rw [List.mem_singleton.mp h]
        exact ⟨fresh_back (p2.trans e4) hb, Ne.symm (ne_of_none ((p4.mono e4).1) hb)⟩
    · rw [List.range_succ, List.map_append]
      have hDb : Dl ≠ b := ne_of_none ((p4.mono e4).1) hb
      refine ll_snoc (p4.mono (e4.trans e5)) h5 hDb fun c hc => ?_
      exact (p3 c hc).2⟩) fun H' p => by
    obtain ⟨p1, p2, as, p3, p4⟩ := p
    exact q Dl as H' (fresh_back e1 p1) (fun a ha => ⟨fresh_back e1 (p3 a ha).1, (p3 a ha).2⟩) (e1.trans p2) p4
end
end Gw
namespace Gw
open PySem PySem.Spec PyProof.Rows L2 Evl
/-! ### a def of the text -/
structure Df (K : PySem.W.Frag) (mg : Str → Option Value) (x : Str) (st : Stmt) : Prop where
  ex : ∃ f fd, FunD K x x (defArgs st) (defBody st) (defScope st) [] [] f fd ∧ mg x = some (.ref f)
section
variable {P : Program} {w : World} {K : PySem.W.Frag} {mg : Str → Option Value} {base : Heap} {x : Str} {st : Stmt} {N ps : List Str} {k : Nat} {sp : Sp}
theorem fn_ok {f : Addr} {fd : FuncData} (F : FunD K x x (defArgs st) (defBody st) (defScope st) [] [] f fd) (S : FnScope N ps (defScope st))
    (len : ∀ vs H Q E, sp vs H Q E → vs.length = ps.length)
    (hbody : ∀ (cdv : Value) (A : Around) (outer : List Env) (s : Shared) (H : Hp) (vs : List V) (Q : VK) (E : XK), Room k (A.deeper (envOfC x (defScope st) s.heap.objs.size f cdv)) → sp vs H Q E →
      ∃ t, PSs (cxOf CX0 P w K mg base N x (defScope st) f cdv A outer s H E).nox (defBody st) t ∧ t { nx := fun _ H' => Q .non H', rt := Q } (start N vs) H) : FnOk P w K mg base CX0 (k + 1) f fd ps sp := by
  refine F.ok S len (fun cdv A outer s H vs Q E hr h => ?_)
  obtain ⟨t, p, q⟩ := hbody cdv A outer s H vs Q E hr h
  exact ⟨t, p.nox, q⟩
theorem cal_of (D : Df K mg x st) (S : FnScope N ps (defScope st))
    (hb : ∀ (kV doc pm : Value) (an : Option Addr) (cdv ct : Value) (us : List Value), us.length = ps.length → bindArgs (PySem.W.fnOf x x (defArgs st) (defBody st) (defScope st) .none kV doc pm an cdv ct) ⟨us, []⟩ = pure (ps.zip us))
    (len : ∀ vs H Q E, sp vs H Q E → vs.length = ps.length)
    (hbody : ∀ (f : Addr) (cdv : Value) (A : Around) (outer : List Env) (s : Shared) (H : Hp) (vs : List V) (Q : VK) (E : XK), Room k (A.deeper (envOfC x (defScope st) s.heap.objs.size f cdv)) → sp vs H Q E →
      ∃ t, PSs (cxOf CX0 P w K mg base N x (defScope st) f cdv A outer s H E).nox (defBody st) t ∧ t { nx := fun _ H' => Q .non H', rt := Q } (start N vs) H) : C8.Cal P w K mg base (k + 1) x sp [] := by
  obtain ⟨f, fd, F, hm⟩ := D.ex
  refine ⟨f, fd, ps, [], F.ok S len (fun cdv A outer s H vs Q E hr h => ?_), hm, F.kp, F.bindsN hb, .nil⟩
  obtain ⟨t, p, q⟩ := hbody f cdv A outer s H vs Q E hr h
  exact ⟨t, p.nox, q⟩
end
/-- a value handed back | a new list -/
def spV (pre : List V → Hp → V → Prop) : Sp := fun vs H Q _ => ∃ v, pre vs H v ∧ RetV v H Q
def spL (pre : List V → Hp → List V → Prop) : Sp := fun vs H Q _ => ∃ xs, pre vs H xs ∧ RetL xs H Q
def RetLL (xss : List (List V)) (H : Hp) (Q : VK) : Prop := ∀ p as H2, H p = none → (∀ a ∈ as, H a = none ∧ a ≠ p) → Ex H H2 → LL H2 p as xss → Q (.ref p) H2
def spLL (pre : List V → Hp → List (List V) → Prop) : Sp := fun vs H Q _ => ∃ xss, pre vs H xss ∧ RetLL xss H Q
section
variable {σ : L2.St} {H : Hp} {ta : TA} {E : XK} {vs : List V}
theorem ev_spV {pre : List V → Hp → V → Prop} {v : V} (h : EvA ta σ H vs) (hp : ∀ H1, Ex H H1 → pre vs H1 v) : Ev (tCall (spV pre) [] E ta) σ H v := fun H1 e Q q =>
  h H1 e _ fun H2 e2 => by
    rw [List.append_nil]
    exact ⟨v, hp H2 (e.trans e2), fun H3 e3 => q H3 (e2.trans e3)⟩
theorem el_spL {pre : List V → Hp → List V → Prop} {xs : List V} (h : EvA ta σ H vs) (hp : ∀ H1, Ex H H1 → pre vs H1 xs) : EvL (tCall (spL pre) [] E ta) σ H xs := fun H1 e Q q =>
  h H1 e _ fun H2 e2 => by
    rw [List.append_nil]
    exact ⟨xs, hp H2 (e.trans e2), fun p H3 h0 e3 h3 => q p H3 (fresh_back e2 h0) (e2.trans e3) h3⟩
theorem ell_spLL {pre : List V → Hp → List (List V) → Prop} {xss : List (List V)} (h : EvA ta σ H vs) (hp : ∀ H1, Ex H H1 → pre vs H1 xss) : EvLL (tCall (spLL pre) [] E ta) σ H xss := fun H1 e Q q =>
  h H1 e _ fun H2 e2 => by
    rw [List.append_nil]
    exact ⟨xss, hp H2 (e.trans e2), fun p as H3 h0 ha e3 h3 => q p as H3 (fresh_back e2 h0) (fun a h => ⟨fresh_back e2 (ha a h).1, (ha a h).2⟩) (e2.trans e3) h3⟩
end
/-- rules as a list of texts at a -/
def RL (R : GRules) : List V := R.map fun r => V.str (enc r)
theorem RL_len (R : GRules) : (RL R).length = R.length := List.length_map _
theorem RL_get {R : GRules} {i : Nat} {x : V} (h : (RL R)[i]? = some x) : ∃ r, R[i]? = some r ∧ x = .str (enc r) := by
  unfold RL at h
  rw [List.getElem?_map] at h
  cases q : R[i]? with
  | none => rw [q] at h; cases h
  | some r => rw [q] at h; exact ⟨r, rfl, (Option.some.inj h).symm⟩
theorem RL_at {R : GRules} {n : Nat} (h : n < R.length) : (RL R)[n]? = some (.str (enc (ruleOf R n))) := by
  unfold RL
  rw [List.getElem?_map, rule_get h]
  rfl
end Gw
namespace Gw
open PySem PySem.Spec PyProof.Rows L2 Evl
/-! ### readings by name -/
theorem pe_alph {X : Cx} {j : Nat} {pos : Pos} : PE X (.Constant (.str (Str.ofString "abcdefghijklmnopqrstuvwxyz")) j pos) (tC (.str ALPH)) := by
  rw [← alph_eq]
  exact pe_str
theorem pe_empty {X : Cx} {j : Nat} {pos : Pos} : PE X (.Constant (.str (Str.ofString "")) j pos) (tC (.str (enc []))) := by
  rw [enc_nil]
  exact pe_str
abbrev tAl : TE := tC (.str ALPH)
/-- ALPH.index(e) -/
abbrev tIdx (K : PySem.W.Frag) (te : TE) : TE := tBM K "str" rSIdx tAl (tCons te tNil)
section
variable {K : PySem.W.Frag} {σ : L2.St} {H : Hp} {te : TE} {i n : Nat} {vs : List Nat}
theorem ev_ix {a : Addr} {xs : List V} {ta : TE} {v : V} (h : Ev ta σ H (.ref a)) (hs : SqL K H a xs) (hi : Ev te σ H (.int (n : Int))) (hn : xs[n]? = some v) : Ev (tOp (rIxL K) ta te) σ H v := ev_op h hi (rv_ixL hs (atI_nat hn))
theorem tidx (h : σ[i]? = some (some (.str (sg n)))) (hn : n < 26) : Ev (tIdx K (tVar i)) σ H (.int (n : Int)) := ev_idx ev_c (ev_var h) hn
end
/-- a comprehension over a text, its target a name -/
theorem el_str {K : PySem.W.Frag} {σ : L2.St} {H : Hp} {ti te : TE} {j : Nat} {vs : List Nat} {l : GRow} (h : Ev ti σ H (.str (enc l))) (v : Nat → V) (hl : l.length < sizeLine)
    (hw : ∀ x, wipe ((wipe σ vs).set j (some x)) vs = wipe σ vs) (hs : ∀ n ∈ l, ∀ H1, Ex H H1 → Ev te ((wipe σ vs).set j (some (.str (sg n)))) H1 (v n)) : EvL (tLc (iStr ti) (gName j) tYes te vs) σ H (l.map v) := by
  have e : l.map v = (List.range l.length).map fun i => v (l.getD i 0) := by
    apply List.ext_getElem?
    intro i
    rw [List.getElem?_map, List.getElem?_map]
    by_cases hi : i < l.length
    · rw [List.getElem?_range hi, List.getElem?_eq_getElem hi]
      simp [hi]
    · rw [List.getElem?_eq_none (by omega), List.getElem?_eq_none (by simp; omega)]
      rfl
  rw [e]
  refine el_any (wi_str h) _ hl fun i x H1 H2 hi e1 y Q k => ?_
  obtain ⟨rfl, hx⟩ := y
  rw [List.getElem?_map, List.getElem?_eq_getElem hi] at hx
  have hx : V.str (sg l[i]) = x := Option.some.inj hx
  subst hx
  refine k _ _ (hw _) (Ex.refl _) ?_
  have e2 : l.getD i 0 = l[i] := by simp [hi]
  rw [e2]
  exact hs l[i] (List.getElem_mem hi) _ e1
/-- .. over a list -/
theorem el_list {K : PySem.W.Frag} {σ : L2.St} {H : Hp} {ti te : TE} {j : Nat} {vs : List Nat} {α : Type} {l : List α} {u : α → V} (h : WI (iList K ti) σ H (l.map u).length (YAt (l.map u))) (v : α → V) (hl : l.length < sizeLine)
    (hw : ∀ x, wipe ((wipe σ vs).set j (some x)) vs = wipe σ vs) (hs : ∀ a ∈ l, ∀ H1, Ex H H1 → Ev te ((wipe σ vs).set j (some (u a))) H1 (v a)) : EvL (tLc (iList K ti) (gName j) tYes te vs) σ H (l.map v) := by
  have e : l.map v = (List.range (l.map u).length).map fun i => ((l[i]?).map v).getD .non := by
    apply List.ext_getElem?
    intro i
    rw [List.getElem?_map, List.getElem?_map]
    by_cases hi : i < l.length
    · rw [List.getElem?_range (by rw [List.length_map]; exact hi), List.getElem?_eq_getElem hi]
      simp [hi]
    · rw [List.getElem?_eq_none (by omega), List.getElem?_eq_none (by simp; omega)]
      rfl
  rw [e]
  refine el_any h _ (by rw [List.length_map]; exact hl) fun i x H1 H2 hi e1 y Q k => ?_
  rw [List.length_map] at hi
  obtain ⟨rfl, hx⟩ := y
  rw [List.getElem?_map, List.getElem?_eq_getElem hi] at hx
  have hx : u l[i] = x := Option.some.inj hx
  subst hx
  refine k _ _ (hw _) (Ex.refl _) ?_
  have e2 : ((l[i]?).map v).getD .non = v l[i] := by simp [hi]
  rw [e2]
  exact hs l[i] (List.getElem_mem hi) _ e1
/-- .. each item a new list -/
theorem ell_list {K : PySem.W.Frag} {σ : L2.St} {H : Hp} {ti te : TE} {j : Nat} {vs : List Nat} {α : Type} {l : List α} {u : α → V} (h : WI (iList K ti) σ H (l.map u).length (YAt (l.map u))) (v : α → List V) (hl : l.length < sizeLine)
    (hw : ∀ x, wipe ((wipe σ vs).set j (some x)) vs = wipe σ vs) (hs : ∀ a ∈ l, ∀ H1, Ex H H1 → EvL te ((wipe σ vs).set j (some (u a))) H1 (v a)) : EvLL (tLc (iList K ti) (gName j) tYes te vs) σ H (l.map v) := by
  have e : l.map v = (List.range (l.map u).length).map fun i => ((l[i]?).map v).getD [] := by
    apply List.ext_getElem?
    intro i
    rw [List.getElem?_map, List.getElem?_map]
    by_cases hi : i < l.length
    · rw [List.getElem?_range (by rw [List.length_map]; exact hi), List.getElem?_eq_getElem hi]
      simp [hi]
    · rw [List.getElem?_eq_none (by omega), List.getElem?_eq_none (by simp; omega)]
      rfl
  rw [e]
  refine ell_any h _ (by rw [List.length_map]; exact hl) fun i x H1 H2 hi e1 y Q k => ?_
  rw [List.length_map] at hi
  obtain ⟨rfl, hx⟩ := y
  rw [List.getElem?_map, List.getElem?_eq_getElem hi] at hx
  have hx : u l[i] = x := Option.some.inj hx
  subst hx
  refine k _ _ (hw _) (Ex.refl _) ?_
  have e2 : ((l[i]?).map v).getD [] = v l[i] := by simp [hi]
  rw [e2]
  exact hs l[i] (List.getElem_mem hi) _ e1
/-- .. over range(n) -/
theorem el_rng {σ : L2.St} {H : Hp} {ta : TA} {te : TE} {j : Nat} {vs : List Nat} {m : Nat} (h : EvA ta σ H [.int (m : Int)]) (v : Nat → V) (hm : m < sizeLine)
    (hw : ∀ x, wipe ((wipe σ vs).set j (some x)) vs = wipe σ vs) (hs : ∀ i, i < m → ∀ H1, Ex H H1 → Ev te ((wipe σ vs).set j (some (.int (i : Int)))) H1 (v i)) : EvL (tLc (iRng1 ta) (gName j) tYes te vs) σ H ((List.range m).map v) := by
  have hz : m < 2 ^ 62 := Nat.lt_trans hm (by decide)
  have w := wi_rng1 h ⟨by omega, by omega⟩
  rw [Int.toNat_natCast] at w
  refine el_any w v hm fun i x H1 H2 hi e1 y Q k => ?_
  obtain ⟨rfl, rfl⟩ := y
  exact k _ _ (hw _) (Ex.refl _) (hs i hi _ e1)
end Gw

namespace Gw
open PySem PySem.Spec PyProof.Rows L2 Evl
/-! ### short words for often met calls -/
section
variable {X : Cx} {o e e2 : Expr} {to te te2 : TE} {t : TA} {es : List Expr} {p pos apos cpos : Pos}
theorem pe_idx (ho : PE X o tAl) (he : PE X e te)
    (hbase : attributeBase o "index" X.env (eval o X.env) = eval o X.env := by rfl)
    (hfew : ((backTo cpos (starEach [e] X.env)).all (fun x => !x.1) && (backToKw cpos (keywordEach [] X.env)).all (fun x => x.1.isSome)
      && decide ([e].length + ([] : List Keyword).length + (if ([] : List Keyword).isEmpty then 0 else 1) < 30)) = true := by rfl)
    (hline : (apos.endLine == cpos.line) = true := by rfl) (hs : starEach [e] X.env = (false, eval e X.env) :: starEach [] X.env := by rfl) (hplain : (backTo cpos (starEach [] X.env)).any (·.1) = false := by rfl) :
    PE X (.Call (.Attribute o "index" apos) [e] [] cpos) (tIdx X.K te) :=
  pe_bm PySem.F.plainAttrs_str PySem.F.slot_str_index PySem.F.type_str_index mt_sindex ho (pa_cons he pa_nil hs) hbase hfew hline hs hplain
abbrev tCnt (K : PySem.W.Frag) (to te : TE) : TE := tBM K "str" rSCount to (tCons te tNil)
theorem pe_count (ho : PE X o to) (he : PE X e te)
    (hbase : attributeBase o "count" X.env (eval o X.env) = eval o X.env := by rfl)
    (hfew : ((backTo cpos (starEach [e] X.env)).all (fun x => !x.1) && (backToKw cpos (keywordEach [] X.env)).all (fun x => x.1.isSome)
      && decide ([e].length + ([] : List Keyword).length + (if ([] : List Keyword).isEmpty then 0 else 1) < 30)) = true := by rfl)
    (hline : (apos.endLine == cpos.line) = true := by rfl) (hs : starEach [e] X.env = (false, eval e X.env) :: starEach [] X.env := by rfl) (hplain : (backTo cpos (starEach [] X.env)).any (·.1) = false := by rfl) :
    PE X (.Call (.Attribute o "count" apos) [e] [] cpos) (tCnt X.K to te) :=
  pe_bm PySem.F.plainAttrs_str PySem.F.slot_str_count PySem.F.type_str_count mt_count ho (pa_cons he pa_nil hs) hbase hfew hline hs hplain
abbrev tStrip (K : PySem.W.Frag) (to te : TE) : TE := tBM K "str" rSStrip to (tCons te tNil)
theorem pe_strip1 (ho : PE X o to) (he : PE X e te)
    (hbase : attributeBase o "strip" X.env (eval o X.env) = eval o X.env := by rfl)
    (hfew : ((backTo cpos (starEach [e] X.env)).all (fun x => !x.1) && (backToKw cpos (keywordEach [] X.env)).all (fun x => x.1.isSome)
      && decide ([e].length + ([] : List Keyword).length + (if ([] : List Keyword).isEmpty then 0 else 1) < 30)) = true := by rfl)
    (hline : (apos.endLine == cpos.line) = true := by rfl) (hs : starEach [e] X.env = (false, eval e X.env) :: starEach [] X.env := by rfl) (hplain : (backTo cpos (starEach [] X.env)).any (·.1) = false := by rfl) :
    PE X (.Call (.Attribute o "strip" apos) [e] [] cpos) (tStrip X.K to te) :=
  pe_bm PySem.F.plainAttrs_str PySem.F.slot_str_strip PySem.F.type_str_strip mt_stripChars ho (pa_cons he pa_nil hs) hbase hfew hline hs hplain
abbrev tApp (K : PySem.W.Frag) (to te : TE) : TE := tBM K "list" rAppend to (tCons te tNil)
theorem pe_app (ho : PE X o to) (he : PE X e te)
    (hbase : attributeBase o "append" X.env (eval o X.env) = eval o X.env := by rfl)
    (hfew : ((backTo cpos (starEach [e] X.env)).all (fun x => !x.1) && (backToKw cpos (keywordEach [] X.env)).all (fun x => x.1.isSome)
      && decide ([e].length + ([] : List Keyword).length + (if ([] : List Keyword).isEmpty then 0 else 1) < 30)) = true := by rfl)
    (hline : (apos.endLine == cpos.line) = true := by rfl) (hs : starEach [e] X.env = (false, eval e X.env) :: starEach [] X.env := by rfl) (hplain : (backTo cpos (starEach [] X.env)).any (·.1) = false := by rfl) :
    PE X (.Call (.Attribute o "append" apos) [e] [] cpos) (tApp X.K to te) :=
  pe_bm PySem.F.plainAttrs_list PySem.F.slot_list_append PySem.F.type_list_append mt_append ho (pa_cons he pa_nil hs) hbase hfew hline hs hplain
abbrev tLen (K : PySem.W.Frag) (te : TE) : TE := tCB (rLenS K) (tCons te tNil)
theorem pe_len (z : X.mg "len" = none) (he : PE X e te) (hg : Gl X "len" := by exact rfl)
    (hs : starEach [e] X.env = (false, eval e X.env) :: starEach [] X.env := by rfl) (hpl : (backTo pos (starEach [] X.env)).any (·.1) = false := by rfl) : PE X (.Call (.Name "len" p) [e] [] pos) (tLen X.K te) :=
  pe_callB call_len_seq hg z PySem.boot_len (pa_cons he pa_nil hs) (by decide) (by decide) hs hpl
abbrev tLenT (te : TE) : TE := tCB rSLen (tCons te tNil)
theorem pe_lenT (z : X.mg "len" = none) (he : PE X e te) (hg : Gl X "len" := by exact rfl)
    (hs : starEach [e] X.env = (false, eval e X.env) :: starEach [] X.env := by rfl) (hpl : (backTo pos (starEach [] X.env)).any (·.1) = false := by rfl) : PE X (.Call (.Name "len" p) [e] [] pos) (tLenT te) :=
  pe_callB call_len_str hg z PySem.boot_len (pa_cons he pa_nil hs) (by decide) (by decide) hs hpl
abbrev tSum (K : PySem.W.Frag) (te : TE) : TE := tCB (rSum K) (tCons te tNil)
theorem pe_sum (hc : X.calm = true) (z : X.mg "sum" = none) (he : PE X e te) (hg : Gl X "sum" := by exact rfl)
    (hs : starEach [e] X.env = (false, eval e X.env) :: starEach [] X.env := by rfl) (hpl : (backTo pos (starEach [] X.env)).any (·.1) = false := by rfl) : PE X (.Call (.Name "sum" p) [e] [] pos) (tSum X.K te) :=
  pe_callB (cr_sum hc) hg z boot_sum (pa_cons he pa_nil hs) (by decide) (by decide) hs hpl
abbrev tAll (K : PySem.W.Frag) (te : TE) : TE := tCB (rAll K) (tCons te tNil)
theorem pe_all (hc : X.calm = true) (z : X.mg "all" = none) (he : PE X e te) (hg : Gl X "all" := by exact rfl)
    (hs : starEach [e] X.env = (false, eval e X.env) :: starEach [] X.env := by rfl) (hpl : (backTo pos (starEach [] X.env)).any (·.1) = false := by rfl) : PE X (.Call (.Name "all" p) [e] [] pos) (tAll X.K te) :=
  pe_callB (cr_all hc) hg z boot_all (pa_cons he pa_nil hs) (by decide) (by decide) hs hpl
abbrev tAny (K : PySem.W.Frag) (te : TE) : TE := tCB (rAny K) (tCons te tNil)
theorem pe_any (hc : X.calm = true) (z : X.mg "any" = none) (he : PE X e te) (hg : Gl X "any" := by exact rfl)
    (hs : starEach [e] X.env = (false, eval e X.env) :: starEach [] X.env := by rfl) (hpl : (backTo pos (starEach [] X.env)).any (·.1) = false := by rfl) : PE X (.Call (.Name "any" p) [e] [] pos) (tAny X.K te) :=
  pe_callB (cr_any hc) hg z boot_any (pa_cons he pa_nil hs) (by decide) (by decide) hs hpl
abbrev tIsi (K : PySem.W.Frag) (te : TE) (T : String) : TE := tCB (rIsi K) (tCons te (tCons (tC (.ty T)) tNil))
theorem pe_isi {x : Str} {T : String} (z : X.mg "isinstance" = none) (zt : X.mg x = none) (hb : bootBuiltins x = some (.type T)) (he : PE X e te) (hg : Gl X "isinstance" := by exact rfl) (hgt : Gl X x := by exact rfl)
    (hn : x ≠ "__name__" := by decide) (hd : (x == ("__debug__" : Str)) = false := by decide)
    (hs : starEach [e, .Name x p] X.env = (false, eval e X.env) :: starEach [.Name x p] X.env := by rfl) (hs2 : starEach [.Name x p] X.env = (false, eval (.Name x p) X.env) :: starEach [] X.env := by rfl)
    (hpl : (backTo pos (starEach [.Name x p] X.env)).any (·.1) = false := by rfl) : PE X (.Call (.Name "isinstance" apos) [e, .Name x p] [] pos) (tIsi X.K te T) :=
  pe_callB call_isi hg z boot_isinstance (pa_cons he (pa_cons (pe_bltn (v := .ty T) hgt zt hb rfl hn hd) pa_nil hs2) hs) (by decide) (by decide) hs hpl
end
section
variable {K : PySem.W.Frag} {σ : L2.St} {H : Hp} {te : TE} {x : V}
theorem ev_isT {T S : String} {b : Bool} (h : Ev te σ H x) (ht : TyX K H x (.type S)) (hk : kitB S T = some b) : Ev (tIsi K te T) σ H (.bl b) := ev_isi h ht (kit_ty hk)
theorem isi_ii : kitB "int" "int" = some true := by decide +kernel
theorem isi_ib : kitB "int" "bool" = some false := by decide +kernel
theorem isi_bb : kitB "bool" "bool" = some true := by decide +kernel
theorem isi_ss : kitB "str" "str" = some true := by decide +kernel
theorem isi_ll : kitB "list" "list" = some true := by decide +kernel
end
theorem ell_one {σ : L2.St} {H : Hp} {te : TE} {xs : List V} (h : EvL te σ H xs) : EvLL (tLst (tCons te tNil)) σ H [xs] := fun H1 e Q q =>
  h H1 e _ fun a H2 ha e2 h2 => ⟨(by show 1 ≤ sizeLine; decide), fun p hp => q p [a] _ (fresh_back e2 hp) (fun b hb => by rw [List.mem_singleton.mp hb]; exact ⟨ha, ne_of_none h2 hp⟩) (e2.trans (Ex.new hp)) ⟨upd_same, rfl, fun i b ys h1 h3 => by
    cases i with
    | zero =>
      cases h1
      cases h3
      rw [upd_ne (ne_of_none h2 hp)]
      exact h2
    | succ i => cases h1⟩⟩
section
variable {σ : L2.St} {H : Hp} {te : TE} {D : Ends} {tz tu : TS} {t : TT}
theorem s_asgLL {i : Nat} {xss : List (List V)} (h : EvLL te σ H xss) (k : ∀ p as H1, H p = none → (∀ a ∈ as, H a = none ∧ a ≠ p) → Ex H H1 → LL H1 p as xss → D.nx (σ.set i (some (.ref p))) H1) : tAsg te (gName i) D σ H := h H (Ex.refl H) _ k
theorem q_asgLL {i : Nat} {xss : List (List V)} (h : EvLL te σ H xss) (k : ∀ p as H1, H p = none → (∀ a ∈ as, H a = none ∧ a ≠ p) → Ex H H1 → LL H1 p as xss → tz D (σ.set i (some (.ref p))) H1) : tSeq (tAsg te (gName i)) tz D σ H := s_asgLL (D := { D with nx := tz D }) h k
/-- an if that is never taken: a raise behind it -/
theorem q_no (h : EvT t σ H false) (k : ∀ H1, Ex H H1 → tz D σ H1) : tSeq (tIfS t tNever tNext) tz D σ H := q_when h (fun b => Bool.noConfusion b) fun _ H1 e => k H1 e
theorem s_no (h : EvT t σ H false) (k : ∀ H1, Ex H H1 → D.nx σ H1) : tIfS t tNever tNext D σ H := s_when h (fun b => Bool.noConfusion b) fun _ H1 e => k H1 e
theorem s_retLL {xss : List (List V)} (h : EvLL te σ H xss) (k : ∀ p as H1, H p = none → (∀ a ∈ as, H a = none ∧ a ≠ p) → Ex H H1 → LL H1 p as xss → D.rt (.ref p) H1) : tRet te D σ H := h H (Ex.refl H) _ k
end
end Gw

namespace Gw
open PySem PySem.Spec PyProof.Rows L2 Evl
/-! ### a text again and again -/
theorem mul_enc (l : GRow) (k : Int) : Txt.mul (enc l) k = enc (List.replicate k.toNat l).flatten := by
  unfold Txt.mul
  by_cases h1 : k < 1
  · rw [if_pos h1]
    have : k.toNat = 0 := by omega
    rw [this]
    show Str.empty = enc []
    decide +kernel
  · rw [if_neg h1]
    by_cases h2 : (k == 1 || (enc l).length == 0) = true
    · rw [if_pos h2]
      rw [Bool.or_eq_true] at h2
      rcases h2 with h2 | h2
      · have : k = 1 := by simpa using h2
        subst this
        show enc l = enc (List.replicate 1 l).flatten
        simp
      · have : l.length = 0 := by rw [enc_len] at h2; simpa using h2
        have : l = [] := List.eq_nil_of_length_eq_zero this
        subst this
        congr 1
        have z : ∀ n, (List.replicate n ([] : GRow)).flatten = [] := by
          intro n
          induction n with
          | zero => rfl
          | succ n ih => rw [List.replicate_succ, List.flatten_cons, ih]; rfl
        rw [z]
    · rw [if_neg h2]
      apply TL.ext_tl
      have z : ∀ (n : Nat) (acc : Array Nat), ((List.replicate n (enc l).cps).foldl (· ++ ·) acc).toList = acc.toList ++ cd (List.replicate n l).flatten := by
        intro n
        induction n with
        | zero => intro acc; simp [cd]
        | succ n ih =>
          intro acc
          rw [List.replicate_succ, List.foldl_cons, ih, List.replicate_succ, List.flatten_cons, Array.toList_append]
          show acc.toList ++ cd l ++ _ = acc.toList ++ cd (l ++ _)
          unfold cd
          rw [List.map_append, List.append_assoc]
      show ((List.replicate k.toNat (enc l).cps).foldl (· ++ ·) #[]).toList = cd _
      rw [z]
      rfl
def rRepS : R2 := fun x y H Q => ∃ z k, x = .str z ∧ y = .int k ∧ MulOk z k ∧ Q (.str (Txt.mul z k)) H
theorem op_repS {X : Cx} : OpR X (binaryOp .Mult) rRepS := by
  intro pins s σ H x y v u Q I rx ry h
  obtain ⟨z, k, rfl, rfl, hok, q⟩ := h
  obtain ⟨t, rfl⟩ := rx
  obtain ⟨t2, rfl⟩ := ry
  exact SB.mul hok fun t' tk => ⟨.str (Txt.mul z k), H, I.tok tk, ⟨t', rfl⟩, q⟩
theorem mulOk_enc {l : GRow} {k : Int} (hk : k ≤ 100000) (h0 : 0 ≤ k) (hl : l.length ≤ 100000) (hz : l.length * k.toNat ≤ 16000000) : MulOk (enc l) k := by
  refine ⟨by simp; omega, fun h1 _ => ?_, fun h1 _ => ?_⟩
  · rw [enc_len]
    intro h
    have hk1 : 0 < k := by omega
    have h3 : (l.length : Int) * k = ((l.length * k.toNat : Nat) : Int) := by rw [Int.natCast_mul, Int.toNat_of_nonneg h0]
    have h4 : (l.length : Int) ≤ (2 ^ 63 - 1) / k := Int.le_ediv_of_mul_le hk1 (by rw [h3]; omega)
    omega
  · rw [enc_len]
    have : ¬ l.length * k.toNat > sizeLine := by
      rw [sizeLine_eq]
      omega
    simpa [Builtin.Str.tooLong] using this
theorem ev_repS {σ : L2.St} {H : Hp} {ta tb : TE} {l : GRow} {k : Int} (ha : Ev ta σ H (.str (enc l))) (hb : Ev tb σ H (.int k)) (h : MulOk (enc l) k) : Ev (tOp rRepS ta tb) σ H (.str (enc (List.replicate k.toNat l).flatten)) :=
  ev_op ha hb fun H1 _ Q q => ⟨enc l, k, rfl, rfl, h, by rw [mul_enc]; exact q H1 (Ex.refl H1)⟩
/-! ### small readings -/
def rCatS : R2 := fun x y H Q => ∃ i j, x = .str i ∧ y = .str j ∧ i.length + j.length ≤ sizeLine ∧ Q (.str (i ++ j)) H
section
variable {K : PySem.W.Frag} {σ : L2.St} {H : Hp} {ta tb te : TE} {l m : GRow} {i j : Int} {n : Nat}
theorem ev_addI (ha : Ev ta σ H (.int i)) (hb : Ev tb σ H (.int j)) : Ev (tOp (rI0 fun i j => .int (i + j)) ta tb) σ H (.int (i + j)) := ev_op ha hb rv_I0
theorem ev_subI (ha : Ev ta σ H (.int i)) (hb : Ev tb σ H (.int j)) : Ev (tOp (rI0 fun i j => .int (i - j)) ta tb) σ H (.int (i - j)) := ev_op ha hb rv_I0
theorem ev_mod (ha : Ev ta σ H (.int i)) (hb : Ev tb σ H (.int j)) (h : 0 < j) : Ev (tOp (rI (fun _ j => 0 < j) fun i j => .int (i % j)) ta tb) σ H (.int (i % j)) := ev_op ha hb (rv_I h)
theorem ev_div (ha : Ev ta σ H (.int i)) (hb : Ev tb σ H (.int j)) (h : 0 < j) (h2 : j < 1073741824) : Ev (tOp (rI CDiv fun i j => .int (i / j)) ta tb) σ H (.int (i / j)) := ev_op ha hb (rv_I ⟨h, h2⟩)
/-- ALPH[i] -/
theorem ev_alphAt (ha : Ev ta σ H (.str ALPH)) (hb : Ev tb σ H (.int i)) (hi : i = (n : Int)) (hn : n < 26) : Ev (tOp rIxS ta tb) σ H (.str (sg n)) := ev_op ha hb (rv_ixS (by rw [alph_len]; decide) (alph_at hi hn))
theorem ev_addS (ha : Ev ta σ H (.str (enc l))) (hb : Ev tb σ H (.str (enc m))) (h : l.length + m.length ≤ sizeLine) : Ev (tOp rCatS ta tb) σ H (.str (enc (l ++ m))) :=
  ev_op ha hb fun H1 _ Q q => ⟨enc l, enc m, rfl, rfl, by rw [enc_len, enc_len]; exact h, by rw [enc_append]; exact q H1 (Ex.refl H1)⟩
theorem ev_ixU {xs : List V} {v : V} (ha : EvU ta σ H xs) (hb : Ev tb σ H (.int i)) (h : atI xs i = some v) : Ev (tOp (rIxT K) ta tb) σ H v := fun H1 e Q q =>
  ha H1 e _ fun p H2 _ e2 h2 => hb H2 (e.trans e2) _ fun H3 e3 => ⟨p, xs, i, v, rfl, rfl, st_of (e3 _ _ h2), h, q H3 (e2.trans e3)⟩
theorem ev_ixN {xs : List V} {v : V} (ha : EvL ta σ H xs) (hb : Ev tb σ H (.int (n : Int))) (h : xs[n]? = some v) : Ev (tOp (rIxL K) ta tb) σ H v := fun H1 e Q q =>
  ha H1 e _ fun p H2 _ e2 h2 => hb H2 (e.trans e2) _ fun H3 e3 => ⟨p, xs, (n : Int), v, rfl, rfl, sq_of (e3 _ _ h2), atI_nat h, q H3 (e2.trans e3)⟩
end
/-- xs[:n] of a list -/
theorem el_take {K : PySem.W.Frag} {σ : L2.St} {H : Hp} {te : TE} {th : TO} {a : Addr} {xs : List V} {n : Nat} (h : Ev te σ H (.ref a)) (h2 : EvO th σ H (some (n : Int))) (hs : SqL K H a xs) : EvL (tSl (rSlL K) te tNoPart th) σ H (xs.take n) := by
  have e : cutV xs none (some (n : Int)) = xs.take n := by
    unfold cutV
    rw [HT.sIx_nat, HT.sIx_none, Nat.sub_zero, List.drop_zero]
    by_cases h : n ≤ xs.length
    · rw [Nat.min_eq_left h]
    · rw [Nat.min_eq_right (by omega), List.take_of_length_le (Nat.le_refl _), List.take_of_length_le (by omega)]
  rw [← e]
  exact el_sl h eo_none h2 hs
end Gw

namespace Gw
open PySem PySem.Spec PyProof.Rows L2 Evl
/-! ### lists compared -/
def dInts (ns : List Int) : PyData := .list (ns.map PyData.int)
def dRules (R : GRules) : PyData := .list (R.map fun r => PyData.str (enc r))
section
variable {K : PySem.W.Frag} {σ : L2.St} {H H' : Hp} {ta tb te : TE} {a b : Addr} {x y : V}
theorem dpAll_ints : ∀ ns : List Int, DpAll K H (ns.map V.int) (ns.map PyData.int)
  | [] => .nil
  | i :: ns => .cons (.int i) (dpAll_ints ns)
theorem dpAll_rules : ∀ R : GRules, DpAll K H (RL R) (R.map fun r => PyData.str (enc r))
  | [] => .nil
  | r :: R => .cons (.str _) (dpAll_rules R)
theorem dp_ints {ns : List Int} (h : SqL K H a (ns.map V.int)) : Dp K H (.ref a) (dInts ns) := .lst h (dpAll_ints ns)
theorem dp_rules {R : GRules} (h : SqL K H a (RL R)) : Dp K H (.ref a) (dRules R) := .lst h (dpAll_rules R)
theorem dp_two {p : Addr} {d e : PyData} (h : SqL K H p [x, y]) (h1 : Dp K H x d) (h2 : Dp K H y e) : Dp K H (.ref p) (.list [d, e]) := .lst h (.cons h1 (.cons h2 .nil))
mutual
theorem dp_ex (e : Ex H H') : ∀ (d : PyData) (x : V), Dp K H x d → Dp K H' x d
  | .none, _, h => by cases h; exact .non
  | .bool b, _, h => by cases h; exact .bl b
  | .int i, _, h => by cases h; exact .int i
  | .str s, _, h => by cases h; exact .str s
  | .list ds, _, h => by
    cases h with
    | lst hs ha => exact .lst (ex_l e hs) (dpAll_ex e ds _ ha)
  | .tuple ds, _, h => by
    cases h with
    | tup hs ha => exact .tup (ex_t e hs) (dpAll_ex e ds _ ha)
  | .dict _, _, h => by cases h
theorem dpAll_ex (e : Ex H H') : ∀ (ds : List PyData) (xs : List V), DpAll K H xs ds → DpAll K H' xs ds
  | [], _, h => by cases h; exact .nil
  | d :: ds, _, h => by
    cases h with
    | cons h1 h2 => exact .cons (dp_ex e d _ h1) (dpAll_ex e ds _ h2)
end
theorem rv_eqD {d : PyData} (h1 : Dp K H x d) (h2 : Dp K H y d) (hd : SeqAt.shaped d = true) : RV (rEqD K) x y H (.bl true) := fun H1 e Q q => ⟨d, d, dp_ex e _ _ h1, dp_ex e _ _ h2, hd, hd, by
  rw [SeqAt.eqv_refl d (SeqAt.canLay_of_shaped hd)]
  exact q H1 (Ex.refl H1)⟩
theorem rv_neD {d : PyData} (h1 : Dp K H x d) (h2 : Dp K H y d) (hd : SeqAt.shaped d = true) : RV (rNeD K) x y H (.bl false) := fun H1 e Q q => ⟨d, d, dp_ex e _ _ h1, dp_ex e _ _ h2, hd, hd, by
  rw [SeqAt.eqv_refl d (SeqAt.canLay_of_shaped hd)]
  exact q H1 (Ex.refl H1)⟩
end
theorem lay_ints : ∀ ns : List Int, PyData.canLayAll0 (ns.map PyData.int) = true ∧ PyData.depthAll (ns.map PyData.int) = 0
  | [] => ⟨by simp [PyData.canLayAll0], by simp [PyData.depthAll]⟩
  | i :: ns => by
    obtain ⟨h1, h2⟩ := lay_ints ns
    refine ⟨?_, ?_⟩
    · rw [List.map_cons, PyData.canLayAll0, h1]
      simp [PyData.canLay0]
    · rw [List.map_cons, PyData.depthAll, h2]
      simp [PyData.depth]
theorem shaped_ints (ns : List Int) : SeqAt.shaped (dInts ns) = true := by
  obtain ⟨h1, h2⟩ := lay_ints ns
  unfold SeqAt.shaped dInts
  rw [PyData.canLay0, PyData.depth, h1, h2]
  decide
theorem strOk_enc {r : GRow} (h : RowOk 26 r) : PyData.strOk (enc r) = true := by
  unfold PyData.strOk
  rw [← Array.all_toList]
  refine List.all_eq_true.mpr fun c hc => ?_
  have hc : c ∈ cd r := hc
  unfold cd at hc
  obtain ⟨n, hn, rfl⟩ := List.mem_map.mp hc
  have := h n hn
  exact decide_eq_true (by omega)
theorem lay_rules : ∀ R : GRules, (∀ r ∈ R, RowOk 26 r) → PyData.canLayAll0 (R.map fun r => PyData.str (enc r)) = true ∧ PyData.depthAll (R.map fun r => PyData.str (enc r)) = 0
  | [], _ => ⟨by simp [PyData.canLayAll0], by simp [PyData.depthAll]⟩
  | r :: R, h => by
    obtain ⟨h1, h2⟩ := lay_rules R fun q hq => h q (List.mem_cons_of_mem _ hq)
    refine ⟨?_, ?_⟩
    · rw [List.map_cons, PyData.canLayAll0, h1]
      simp [PyData.canLay0, strOk_enc (h r List.mem_cons_self)]
    · rw [List.map_cons, PyData.depthAll, h2]
      simp [PyData.depth]
theorem shaped_rules {R : GRules} (h : ∀ r ∈ R, RowOk 26 r) : SeqAt.shaped (dRules R) = true := by
  obtain ⟨h1, h2⟩ := lay_rules R h
  unfold SeqAt.shaped dRules
  rw [PyData.canLay0, PyData.depth, h1, h2]
  decide
theorem shaped_two {R S : GRules} (h1 : ∀ r ∈ R, RowOk 26 r) (h2 : ∀ r ∈ S, RowOk 26 r) : SeqAt.shaped (.list [dRules R, dRules S]) = true := by
  obtain ⟨a1, a2⟩ := lay_rules R h1
  obtain ⟨b1, b2⟩ := lay_rules S h2
  unfold SeqAt.shaped dRules
  simp [PyData.canLay0, PyData.canLayAll0, PyData.depth, PyData.depthAll, a1, a2, b1, b2]
/-! ### written texts -/
theorem pe_strV {X : Cx} {j : Nat} {pos : Pos} {s : Str} (l : GRow) (h : s = enc l) : PE X (.Constant (.str s) j pos) (tC (.str (enc l))) := by
  rw [h]
  exact pe_str
/-! ### max, min -/
theorem ev_maxN {K : PySem.W.Frag} {σ : L2.St} {H : Hp} {te : TE} {ns : List Int} {m : Int} (h : EvL te σ H (ns.map V.int)) (hm : m ∈ ns) (hle : ∀ y ∈ ns, y ≤ m) : Ev (tCB (rMax K) (tCons te tNil)) σ H (.int m) := fun H1 e Q q =>
  h H1 e _ fun p H2 _ e2 h2 => ⟨p, ns, rfl, sq_of h2, List.length_pos_of_mem hm, fun m' hm' hle' => by
    have : m' = m := Int.le_antisymm (hle m' hm') (hle' m hm)
    rw [this]
    exact q H2 e2⟩
theorem ev_minN {K : PySem.W.Frag} {σ : L2.St} {H : Hp} {te : TE} {ns : List Int} {m : Int} (h : EvL te σ H (ns.map V.int)) (hm : m ∈ ns) (hle : ∀ y ∈ ns, m ≤ y) : Ev (tCB (rMin K) (tCons te tNil)) σ H (.int m) := fun H1 e Q q =>
  h H1 e _ fun p H2 _ e2 h2 => ⟨p, ns, rfl, sq_of h2, List.length_pos_of_mem hm, fun m' hm' hle' => by
    have : m' = m := Int.le_antisymm (hle' m hm) (hle m' hm')
    rw [this]
    exact q H2 e2⟩
theorem max_ex : ∀ {ns : List Int}, ns ≠ [] → ∃ m, m ∈ ns ∧ ∀ y ∈ ns, y ≤ m
  | [], h => absurd rfl h
  | [a], _ => ⟨a, by simp, fun y hy => by rw [List.mem_singleton.mp hy]; exact Int.le_refl _⟩
  | a :: b :: ns, _ => by
    obtain ⟨m, hm, hle⟩ := max_ex (ns := b :: ns) (by simp)
    by_cases h : a ≤ m
    · exact ⟨m, List.mem_cons_of_mem _ hm, fun y hy => (List.mem_cons.mp hy).elim (fun e => e ▸ h) (hle y)⟩
    · exact ⟨a, by simp, fun y hy => (List.mem_cons.mp hy).elim (fun e => e ▸ Int.le_refl _) fun hy => Int.le_trans (hle y hy) (by omega)⟩
theorem min_ex : ∀ {ns : List Int}, ns ≠ [] → ∃ m, m ∈ ns ∧ ∀ y ∈ ns, m ≤ y
  | [], h => absurd rfl h
  | [a], _ => ⟨a, by simp, fun y hy => by rw [List.mem_singleton.mp hy]; exact Int.le_refl _⟩
  | a :: b :: ns, _ => by
    obtain ⟨m, hm, hle⟩ := min_ex (ns := b :: ns) (by simp)
    by_cases h : m ≤ a
    · exact ⟨m, List.mem_cons_of_mem _ hm, fun y hy => (List.mem_cons.mp hy).elim (fun e => e ▸ h) (hle y)⟩
    · exact ⟨a, by simp, fun y hy => (List.mem_cons.mp hy).elim (fun e => e ▸ Int.le_refl _) fun hy => Int.le_trans (by omega) (hle y hy)⟩
/-! ### a text's letters that a test leaves -/
theorem filt_range (p : Nat → Bool) (v : Nat → V) (l : GRow) : given l.length (fun i => p (l.getD i 0)) (fun i => v (l.getD i 0)) = (l.filter p).map v := by
  have e : (List.range l.length).map (fun i => l.getD i 0) = l := by
    apply List.ext_getElem?
    intro i
    rw [List.getElem?_map]
    by_cases hi : i < l.length
    · rw [List.getElem?_range hi]
      simp [hi]
    · rw [List.getElem?_eq_none (by simp; omega), List.getElem?_eq_none (by omega)]
      rfl
  conv => rhs; rw [← e]
  unfold given
  rw [List.filter_map, List.map_map]
  rfl
theorem el_strF {K : PySem.W.Frag} {σ : L2.St} {H : Hp} {ti te : TE} {t : TT} {j : Nat} {vs : List Nat} {l : GRow} (h : Ev ti σ H (.str (enc l))) (p : Nat → Bool) (v : Nat → V) (hl : l.length < sizeLine)
    (hw : ∀ x, wipe ((wipe σ vs).set j (some x)) vs = wipe σ vs) (ht : ∀ n ∈ l, ∀ H1, Ex H H1 → EvT t ((wipe σ vs).set j (some (.str (sg n)))) H1 (p n)) (hs : ∀ n ∈ l, ∀ H1, Ex H H1 → Ev te ((wipe σ vs).set j (some (.str (sg n)))) H1 (v n)) :
    EvL (tLc (iStr ti) (gName j) t te vs) σ H ((l.filter p).map v) := by
  rw [← filt_range]
  refine el_anyF (wi_str h) _ _ hl fun i x H1 H2 hi e1 y Q k => ?_
  obtain ⟨rfl, hx⟩ := y
  rw [List.getElem?_map, List.getElem?_eq_getElem hi] at hx
  have hx : V.str (sg l[i]) = x := Option.some.inj hx
  subst hx
  have e2 : l.getD i 0 = l[i] := by simp [hi]
  refine k _ _ (hw _) (Ex.refl _) ?_ fun _ => ?_
  · rw [e2]
    exact ht l[i] (List.getElem_mem hi) _ e1
  · rw [e2]
    exact hs l[i] (List.getElem_mem hi) _ e1
/-- a sign in a text -/
def rInC : R2 := fun x y H Q => ∃ (c : Nat) (z : Str), x = .str ⟨#[c]⟩ ∧ y = .str z ∧ Q (.bl (decide (c ∈ z.cps.toList))) H
theorem mem_enc {n : Nat} {l : GRow} : (97 + n ∈ (enc l).cps.toList) ↔ n ∈ l := by
  show 97 + n ∈ cd l ↔ n ∈ l
  unfold cd
  rw [List.mem_map]
  constructor
  · rintro ⟨m, hm, e⟩
    have : m = n := by omega
    exact this ▸ hm
  · exact fun h => ⟨n, h, rfl⟩
theorem ev_inC {σ : L2.St} {H : Hp} {ta tb : TE} {n : Nat} {l : GRow} (ha : Ev ta σ H (.str (sg n))) (hb : Ev tb σ H (.str (enc l))) : Ev (tOp rInC ta tb) σ H (.bl (decide (n ∈ l))) := ev_op ha hb fun H1 _ Q q => ⟨97 + n, enc l, rfl, rfl, by
  have e : decide (97 + n ∈ (enc l).cps.toList) = decide (n ∈ l) := decide_eq_decide.mpr mem_enc
  rw [e]
  exact q H1 (Ex.refl H1)⟩
end Gw

namespace Gw
open PySem PySem.Spec PyProof.Rows L2 Evl
section
variable {σ : L2.St} {H : Hp} {te : TE} {D : Ends} {tz tu : TS} {t : TT}
theorem q_skip (h : EvT t σ H false) (k : ∀ H1, Ex H H1 → tz D σ H1) : tSeq (tIfS t tu tNext) tz D σ H := q_when h (fun b => Bool.noConfusion b) fun _ H1 e => k H1 e
theorem s_skip (h : EvT t σ H false) (k : ∀ H1, Ex H H1 → D.nx σ H1) : tIfS t tu tNext D σ H := s_when h (fun b => Bool.noConfusion b) fun _ H1 e => k H1 e
end
theorem ell_two {σ : L2.St} {H : Hp} {ta tb : TE} {xs ys : List V} (h : EvL ta σ H xs) (h2 : EvL tb σ H ys) : EvLL (tLst (tCons ta (tCons tb tNil))) σ H [xs, ys] := fun H1 e Q q =>
  h H1 e _ fun a H2 ha e2 ha2 => h2 H2 (e.trans e2) _ fun b H3 hb e3 hb3 => ⟨(by show 2 ≤ sizeLine; decide), fun p hp => q p [a, b] _ (fresh_back (e2.trans e3) hp) (fun c hc => by
    have ha3 := e3 _ _ ha2
    rcases List.mem_cons.mp hc with rfl | hc
    · exact ⟨ha, ne_of_none ha3 hp⟩
    · rw [List.mem_singleton.mp hc]
      exact ⟨fresh_back e2 hb, ne_of_none hb3 hp⟩) ((e2.trans e3).trans (Ex.new hp)) ⟨upd_same, rfl, fun i c zs h1 h3 => by
    have ha3 := e3 _ _ ha2
    match i with
    | 0 =>
      cases h1
      cases h3
      rw [upd_ne (ne_of_none ha3 hp)]
      exact ha3
    | 1 =>
      cases h1
      cases h3
      rw [upd_ne (ne_of_none hb3 hp)]
      exact hb3
    | i + 2 => cases h1⟩⟩
theorem LL.two {H : Hp} {p : Addr} {as : List Addr} {xs ys : List V} (h : LL H p as [xs, ys]) : ∃ a b, as = [a, b] ∧ H p = some (.lst [.ref a, .ref b]) ∧ H a = some (.lst xs) ∧ H b = some (.lst ys) := by
  obtain ⟨h1, h2, h3⟩ := h
  match as, h2 with
  | [a, b], _ => exact ⟨a, b, rfl, h1, h3 0 a xs rfl rfl, h3 1 b ys rfl rfl⟩
/-- some rules: a new list -/
def EvX (te : TE) (σ : L2.St) (H : Hp) (C : GRules → Prop) : Prop := ∀ H1, Ex H H1 → ∀ Q : VK, (∀ p H2 R, H1 p = none → Ex H1 H2 → H2 p = some (.lst (RL R)) → C R → Q (.ref p) H2) → te σ H1 Q
theorem RL_rep (k : Nat) (R : GRules) : (List.replicate k (RL R)).flatten = RL (List.replicate k R).flatten := by
  unfold RL
  rw [List.map_flatten, List.map_replicate]
theorem ex_rep {σ : L2.St} {H : Hp} {te tn : TE} {C : GRules → Prop} {k : Nat} (h : EvX te σ H C) (hn : Ev tn σ H (.int (k : Int))) (hk : k ≤ 1000) (hC : ∀ R, C R → R.length ≤ 1000) : EvX (tOp rRep te tn) σ H (fun S => ∃ R, C R ∧ S = (List.replicate k R).flatten) := fun H1 e Q q =>
  h H1 e _ fun p H2 R hp e2 h2 hR => hn H2 (e.trans e2) _ fun H3 e3 => ⟨p, (k : Int), RL R, rfl, rfl, e3 _ _ h2, by omega, by omega, by
    rw [RL_len, Int.toNat_natCast, sizeLine_eq]
    have := Nat.mul_le_mul (hC R hR) hk
    omega, fun p2 hp2 => q p2 _ _ (fresh_back (e2.trans e3) hp2) ((e2.trans e3).trans (Ex.new hp2)) (by rw [upd_same, Int.toNat_natCast, RL_rep]) ⟨R, hR, rfl⟩⟩
theorem ex_take {K : PySem.W.Frag} {σ : L2.St} {H : Hp} {te : TE} {th : TO} {C : GRules → Prop} {n : Nat} (h : EvX te σ H C) (hn : EvO th σ H (some (n : Int))) : EvX (tSl (rSlL K) te tNoPart th) σ H (fun S => ∃ R, C R ∧ S = R.take n) := fun H1 e Q q =>
  h H1 e _ fun p H2 R hp e2 h2 hR => hn H2 (e.trans e2) _ fun H3 e3 => ⟨p, RL R, rfl, sq_of (e3 _ _ h2), fun p2 hp2 => q p2 _ _ (fresh_back (e2.trans e3) hp2) ((e2.trans e3).trans (Ex.new hp2)) (by
    rw [upd_same]
    have e : cutV (RL R) none (some (n : Int)) = RL (R.take n) := by
      unfold cutV
      rw [HT.sIx_nat, HT.sIx_none, Nat.sub_zero, List.drop_zero]
      unfold RL
      rw [List.map_take]
      by_cases h : n ≤ (R.map fun r => V.str (enc r)).length
      · rw [Nat.min_eq_left h]
      · rw [Nat.min_eq_right (by omega), List.take_of_length_le (Nat.le_refl _), List.take_of_length_le (by omega)]
    rw [e]) ⟨R, hR, rfl⟩⟩
theorem s_asgX {σ : L2.St} {H : Hp} {D : Ends} {te : TE} {tz : TS} {i : Nat} {C : GRules → Prop} (h : EvX te σ H C) (k : ∀ p H1 R, H p = none → Ex H H1 → H1 p = some (.lst (RL R)) → C R → tz D (σ.set i (some (.ref p))) H1) : tSeq (tAsg te (gName i)) tz D σ H := h H (Ex.refl H) _ k
/-- list(xs) -/
theorem el_copy {K : PySem.W.Frag} {σ : L2.St} {H : Hp} {ta : TE} {p : Addr} {xs : List V} (ha : Ev ta σ H (.ref p)) (h : SqL K H p xs) : EvL (tCB (rListS K) (tCons ta tNil)) σ H xs := Evl.el_list ha h
/-- xs[::-1] -/
theorem el_rev {K : PySem.W.Frag} {σ : L2.St} {H : Hp} {te : TE} {a : Addr} {xs : List V} (h : Ev te σ H (.ref a)) (hs : SqL K H a xs) : EvL (tRevL K te) σ H xs.reverse := fun H1 e Q q =>
  h H1 e _ fun H2 e2 => ⟨a, xs, rfl, ex_l (e.trans e2) hs, fun p hp => q p _ (fresh_back e2 hp) (e2.trans (Ex.new hp)) upd_same⟩
/-- rules at a -/
structure RAt (K : PySem.W.Frag) (H : Hp) (a : Addr) (R : GRules) : Prop where
  at_ : SqL K H a (RL R)
  ok : RulesOk R
  sz : ∀ r ∈ R, r.length ≤ 100000
theorem RAt.ex {K : PySem.W.Frag} {H H' : Hp} {a : Addr} {R : GRules} (h : RAt K H a R) (e : Ex H H') : RAt K H' a R := ⟨ex_l e h.at_, h.ok, h.sz⟩
/-! ### calls whose arguments are new lists -/
theorem el_spLNN {σ : L2.St} {H : Hp} {ta tb : TE} {E : XK} {xs ys zs : List V} {pre : List V → Hp → List V → Prop} (ha : EvL ta σ H xs) (hb : EvL tb σ H ys) (hp : ∀ a b H1, Ex H H1 → H1 a = some (.lst xs) → H1 b = some (.lst ys) → pre [.ref a, .ref b] H1 zs) :
    EvL (tCall (spL pre) [] E (tCons ta (tCons tb tNil))) σ H zs := fun H1 e Q q =>
  ha H1 e _ fun a H2 _ e2 h2 => hb H2 (e.trans e2) _ fun b H3 _ e3 h3 => by
    show spL pre [V.ref a, V.ref b] H3 Q E
    exact ⟨zs, hp a b H3 ((e.trans e2).trans e3) (e3 _ _ h2) h3, fun p H4 hp0 e4 h4 => q p H4 (fresh_back (e2.trans e3) hp0) ((e2.trans e3).trans e4) h4⟩
theorem ev_spVN3 {σ : L2.St} {H : Hp} {ta tb tc : TE} {E : XK} {y z v : V} {xs : List V} {pre : List V → Hp → V → Prop} (ha : EvL ta σ H xs) (hb : Ev tb σ H y) (hc : Ev tc σ H z) (hp : ∀ a H1, Ex H H1 → H1 a = some (.lst xs) → pre [.ref a, y, z] H1 v) :
    Ev (tCall (spV pre) [] E (tCons ta (tCons tb (tCons tc tNil)))) σ H v := fun H1 e Q q =>
  ha H1 e _ fun a H2 _ e2 h2 => hb H2 (e.trans e2) _ fun H3 e3 => hc H3 ((e.trans e2).trans e3) _ fun H4 e4 => by
    show spV pre [V.ref a, y, z] H4 Q E
    exact ⟨v, hp a H4 (((e.trans e2).trans e3).trans e4) ((e3.trans e4) _ _ h2), fun H5 e5 => q H5 (((e2.trans e3).trans e4).trans e5)⟩
theorem el_spLN3 {σ : L2.St} {H : Hp} {ta tb tc : TE} {E : XK} {y z : V} {xs ys : List V} {pre : List V → Hp → List V → Prop} (ha : EvL ta σ H xs) (hb : Ev tb σ H y) (hc : Ev tc σ H z) (hp : ∀ a H1, Ex H H1 → H1 a = some (.lst xs) → pre [.ref a, y, z] H1 ys) :
    EvL (tCall (spL pre) [] E (tCons ta (tCons tb (tCons tc tNil)))) σ H ys := fun H1 e Q q =>
  ha H1 e _ fun a H2 _ e2 h2 => hb H2 (e.trans e2) _ fun H3 e3 => hc H3 ((e.trans e2).trans e3) _ fun H4 e4 => by
    show spL pre [V.ref a, y, z] H4 Q E
    exact ⟨ys, hp a H4 (((e.trans e2).trans e3).trans e4) ((e3.trans e4) _ _ h2), fun p H5 hp0 e5 h5 => q p H5 (fresh_back ((e2.trans e3).trans e4) hp0) (((e2.trans e3).trans e4).trans e5) h5⟩
end Gw

namespace Gw
open PySem PySem.Spec PyProof.Rows L2 Evl
/-! ### walks that lean on no object: the heap may change under them -/
structure WF (wi : TI) (σ : L2.St) (H : Hp) (n : Nat) (f : Nat → V) : Prop where
  go : ∀ H1, Ex H H1 → ∀ R : It → Hp → Prop, (∀ J H2, Ex H1 H2 → Walk J n (fun _ => True) (YFn f) → R J H2) → wi σ H1 R
section
variable {σ : L2.St} {H : Hp} {te : TE} {ta : TA} {wi : TI} {n : Nat} {f : Nat → V} {D : Ends} {tb tz : TS}
theorem wf_rng1 {m : Nat} (h : EvA ta σ H [.int (m : Int)]) (hm : m < 1000000) : WF (iRng1 ta) σ H m (fun i => .int (i : Int)) :=
  ⟨fun H1 e R k => h H1 e _ fun H2 e2 => ⟨(m : Int), rfl, by omega, by omega, by
    rw [Int.toNat_natCast]
    exact k _ H2 e2 ((walk_range (lo := 0) (n := m)).mono (fun _ h => h) fun i H x H' _ _ y => ⟨y.1, y.2.trans (congrArg V.int (Int.zero_add _))⟩)⟩⟩
theorem wf_revR {tr : L2.St → Hp → (Int → Int → Hp → Prop) → Prop} {m : Nat} (h : ∀ H1, Ex H H1 → ∀ R : Int → Int → Hp → Prop, (∀ H2, Ex H1 H2 → R 0 (m : Int) H2) → tr σ H1 R) (hm : m < 1000000) :
    WF (iRevR tr) σ H m (fun i => .int ((m : Int) - 1 - (i : Int))) :=
  ⟨fun H1 e R k => h H1 e _ fun H2 e2 => ⟨by omega, by omega, by omega, by omega, by
    have e0 : ((m : Int) - 0).toNat = m := by omega
    rw [e0]
    exact k _ H2 e2 ((walk_rangeC (lo := 0 + (m : Int) - 1) (c := -1) (n := m)).mono (fun _ h => h) fun i H x H' _ _ y => ⟨y.1, y.2.trans (congrArg V.int (by omega))⟩)⟩⟩
theorem wf_str {l : GRow} (h : Ev te σ H (.str (enc l))) : WF (iStr te) σ H l.length (fun i => .str (sg (l.getD i 0))) :=
  ⟨fun H1 e R k => h H1 e _ fun H2 e2 => ⟨enc l, rfl, k _ H2 e2 (by
    have w := (walk_str (z := enc l)).mono (G' := fun _ => True) (Y' := YFn fun i => .str (sg (l.getD i 0))) (fun _ h => h) fun i H x H' _ _ y => by
      obtain ⟨rfl, hx⟩ := yat_str y
      rw [List.getElem?_map] at hx
      cases q : l[i]? with
      | none => rw [q] at hx; cases hx
      | some c =>
        rw [q] at hx
        have hx : V.str (sg c) = x := Option.some.inj hx
        refine ⟨rfl, ?_⟩
        rw [← hx]
        show V.str (sg c) = V.str (sg (l.getD i 0))
        rw [List.getD_eq_getElem?_getD, q]
        rfl
    rw [enc_size] at w
    exact w)⟩⟩
/-- range(a, b, c), c positive -/
theorem wf_rng3 {a b c : Int} {m : Nat} (h : EvA ta σ H [.int a, .int b, .int c]) (hr : RgC a b c m) : WF (iRng3 ta) σ H m (fun i => .int (a + (i : Nat) * c)) :=
  ⟨fun H1 e R k => h H1 e _ fun H2 e2 => ⟨a, b, c, m, rfl, hr, k _ H2 e2 walk_rangeC⟩⟩
theorem s_forF {j : Nat} (w : WF wi σ H n f) (Pv : Nat → L2.St → Hp → Prop) (h0 : ∀ H1, Ex H H1 → Pv 0 σ H1)
    (hs : ∀ i σ' H', i < n → Pv i σ' H' → tb { D with nx := Pv (i + 1), ct := Pv (i + 1), bk := D.nx } (σ'.set j (some (f i))) H') (hd : ∀ σ' H', Pv n σ' H' → D.nx σ' H') : tFor wi (gName j) tb D σ H :=
  w.go H (Ex.refl H) _ fun J H2 e2 wk => for_it wk Pv (h0 H2 e2) (fun _ _ _ _ _ => True.intro) (fun i x σ' H' H'' hi p y => by
    obtain ⟨rfl, rfl⟩ := y
    exact hs i σ' _ hi p) hd
theorem q_forF {j : Nat} (w : WF wi σ H n f) (Pv : Nat → L2.St → Hp → Prop) (h0 : ∀ H1, Ex H H1 → Pv 0 σ H1)
    (hs : ∀ i σ' H', i < n → Pv i σ' H' → tb { D with nx := Pv (i + 1), ct := Pv (i + 1), bk := tz D } (σ'.set j (some (f i))) H') (hd : ∀ σ' H', Pv n σ' H' → tz D σ' H') : tSeq (tFor wi (gName j) tb) tz D σ H :=
  s_forF (D := { D with nx := tz D }) w Pv h0 hs hd
end
/-- a letter, or none -/
def textOf : Option Nat → Str
  | none => enc []
  | some x => sg x
theorem textOf_eq (o : Option Nat) : decide (V.str (textOf o) = V.str (enc [])) = o.isNone := by
  cases o with
  | none => exact decide_eq_true rfl
  | some x =>
    refine decide_eq_false fun e => ?_
    have := enc_inj (a := [x]) (b := []) (V.str.inj e)
    cases this
end Gw

open PySem PySem.Spec PyProof.Rows L2 Evl
namespace Gw
def top (i : Nat) : Stmt := PySem.Challenge.pw_growrow_k02_whole_far.main.body.getD i (.Pass ⟨0, 0, 0, 0⟩)
abbrev cGrowError : Stmt := top 1
abbrev cBadRules : Stmt := top 2
abbrev cBadRow : Stmt := top 3
abbrev cBadTimes : Stmt := top 4
abbrev cBadPlace : Stmt := top 5
abbrev sIs_number : Stmt := top 9
abbrev sIs_row : Stmt := top 10
abbrev sAsked_rules : Stmt := top 11
abbrev sAsked_row : Stmt := top 12
abbrev sAsked_times : Stmt := top 13
abbrev sLengths_of : Stmt := top 14
abbrev sLong_by : Stmt := top 15
abbrev sCounted : Stmt := top 16
abbrev sGrown_counts : Stmt := top 17
abbrev sCounts : Stmt := top 19
abbrev sLength : Stmt := top 20
abbrev sSkipped : Stmt := top 21
abbrev sLetter : Stmt := top 22
abbrev sFirst : Stmt := top 23
abbrev sLaw_rules : Stmt := top 25
abbrev sLaw_row : Stmt := top 26
abbrev sLaw_once : Stmt := top 27
abbrev sLaw_at : Stmt := top 28
abbrev sLaw : Stmt := top 29
/-- what the top has written -/
structure T (K : PySem.W.Frag) (mg : Str → Option Value) : Prop where
  z_isinstance : mg "isinstance" = none
  z_int : mg "int" = none
  z_str : mg "str" = none
  z_list : mg "list" = none
  z_bool : mg "bool" = none
  z_len : mg "len" = none
  z_all : mg "all" = none
  z_sum : mg "sum" = none
  z_range : mg "range" = none
  z_reversed : mg "reversed" = none
  z_zip : mg "zip" = none
  z_enumerate : mg "enumerate" = none
  z_ValueError : mg "ValueError" = none
  LETTERS : ∃ u, mg "LETTERS" = some u ∧ RelV (.str ALPH) u
  TIMES : ∃ u, mg "TIMES" = some u ∧ RelV (.int 300) u
  d_is_number : Df K mg "is_number" sIs_number
  d_is_row : Df K mg "is_row" sIs_row
  d_asked_rules : Df K mg "asked_rules" sAsked_rules
  d_asked_row : Df K mg "asked_row" sAsked_row
  d_asked_times : Df K mg "asked_times" sAsked_times
  d_lengths_of : Df K mg "lengths_of" sLengths_of
  d_long_by : Df K mg "long_by" sLong_by
  d_counted : Df K mg "counted" sCounted
  d_grown_counts : Df K mg "grown_counts" sGrown_counts
  d_counts : Df K mg "counts" sCounts
  d_length : Df K mg "length" sLength
  d_skipped : Df K mg "skipped" sSkipped
  d_letter : Df K mg "letter" sLetter
  d_first : Df K mg "first" sFirst
  d_law_rules : Df K mg "_law_rules" sLaw_rules
  d_law_row : Df K mg "_law_row" sLaw_row
  d_law_once : Df K mg "_law_once" sLaw_once
  d_law_at : Df K mg "_law_at" sLaw_at
end Gw

namespace Gw
open PySem PySem.Spec PyProof.Rows L2 Evl
section
variable {P : Program} {w : World} {K : PySem.W.Frag} {mg : Str → Option Value} {base : Heap}
/-! ### is_number, is_row -/
theorem sc_is_number : FnScope ["thing", "least"] ["thing", "least"] (defScope sIs_number) := ⟨rfl, rfl, rfl, by decide +kernel, rfl, by decide +kernel, by decide +kernel⟩
def preIsNumber : List V → Hp → V → Prop := fun vs _ v => ∃ i j : Int, vs = [.int i, .int j] ∧ v = .bl (decide (j ≤ i))
theorem ok_is_number (X : T K mg) : C8.Cal P w K mg base 1 "is_number" (spV preIsNumber) [] := by
  refine cal_of X.d_is_number sc_is_number (fun _ _ _ _ _ _ us hl => match us, hl with | [_, _], _ => rfl) (fun vs H Q E h => ?_) (fun f cdv A outer s H vs Q E hr h => ?_)
  · obtain ⟨v, ⟨i, j, rfl, _⟩, _⟩ := h
    rfl
  · obtain ⟨v, ⟨i, j, rfl, rfl⟩, k⟩ := h
    refine ⟨_, pss_one (ps_ret (pe_and (pe_isi X.z_isinstance X.z_int boot_int (pv 0)) (pe_and (pe_not (pe_isi X.z_isinstance X.z_bool boot_bool (pv 0))) (pe_one (pe_cmpR op_ge (pv 0) (pv 1) (nomark _)))))), ?_⟩
    refine s_ret (ev_is (ev_andV (ev_isT (ev_var rfl) (.base (.int i)) isi_ii) fun _ => ev_andV (ev_notV (ev_isT (ev_var rfl) (.base (.int i)) isi_ib)) fun _ => ev_op (ev_var rfl) (ev_var rfl) rv_I0) ?_) k
    simp
theorem sc_is_row : FnScope ["rules", "thing"] ["rules", "thing"] (defScope sIs_row) := ⟨rfl, rfl, rfl, by decide +kernel, rfl, by decide +kernel, by decide +kernel⟩
def preIsRow (K : PySem.W.Frag) : List V → Hp → V → Prop := fun vs H v => ∃ a xs z, vs = [.ref a, .str z] ∧ SqL K H a xs ∧ xs.length ≤ 26 ∧ z.length ≤ sizeLine ∧ v = .bl (isLet xs.length z)
theorem ok_is_row (X : T K mg) : C8.Cal P w K mg base 1 "is_row" (spV (preIsRow K)) [] := by
  refine cal_of X.d_is_row sc_is_row (fun _ _ _ _ _ _ us hl => match us, hl with | [_, _], _ => rfl) (fun vs H Q E h => ?_) (fun f cdv A outer s H vs Q E hr h => ?_)
  · obtain ⟨v, ⟨a, xs, z, rfl, _⟩, _⟩ := h
    rfl
  · obtain ⟨v, ⟨a, xs, z, rfl, hx, h26, hz, rfl⟩, k⟩ := h
    refine ⟨_, pss_one (ps_ret (pe_and (pe_isi X.z_isinstance X.z_str boot_str (pv 1)) (pe_one (pe_cmpR op_eq (pe_strip1 (pv 1) (pe_slice sl_str (C8.pe_gc (by exact rfl) X.LETTERS) po_none (po_some (pe_len X.z_len (pv 0))))) pe_str (nomark _))))), ?_⟩
    refine s_ret (ev_is (ev_andV (ev_isT (ev_var rfl) (.base (.str z)) isi_ss) fun _ => ev_eqS _ (ev_strip (ev_var rfl) (ev_alphCut ev_c (eo_some (ev_len (ev_var rfl) hx)) h26) hz) ev_c) ?_) k
    rw [strip_eq]
    rfl
/-! ### refusals that don't come -/
theorem sc_asked_rules : FnScope ["rules", "rule"] ["rules"] (defScope sAsked_rules) := ⟨rfl, rfl, rfl, by decide +kernel, rfl, by decide +kernel, by decide +kernel⟩
def preAskRules (K : PySem.W.Frag) : List V → Hp → V → Prop := fun vs H v => ∃ a R, vs = [.ref a] ∧ RAt K H a R ∧ v = .non
theorem ok_asked_rules (X : T K mg) : C8.Cal P w K mg base 2 "asked_rules" (spV (preAskRules K)) [] := by
  refine cal_of X.d_asked_rules sc_asked_rules (fun _ _ _ _ _ _ us hl => match us, hl with | [_], _ => rfl) (fun vs H Q E h => ?_) (fun f cdv A outer s H vs Q E hr h => ?_)
  · obtain ⟨v, ⟨a, R, rfl, _⟩, _⟩ := h
    rfl
  · obtain ⟨v, ⟨a, R, rfl, hR, rfl⟩, k⟩ := h
    refine ⟨_, pss_cons (ps_if (PW.pt (pw_or (pt_not (pt_val (pe_isi X.z_isinstance X.z_list boot_list (pv 0)))) (pw_or1 (pt_not (pt_chain op_le op_le pe_int (pe_len X.z_len (pv 0)) (pe_lenT X.z_len (C8.pe_gc (by exact rfl) X.LETTERS))))))) pss_never pss_nil)
      (pss_one (ps_if (pt_not (pt_val (pe_all rfl X.z_all (pe_lc (own := [("rule", 1)]) (g := gName 1) (tt := tYes) (te := tCall (spV (preIsRow K)) [] E0 (tCons (tVar 0) (tCons (tVar 1) tNil))) (by rfl) sc_asked_rules.nd (pi_list (pv 0)) (blkOk_by (N := ["rules", "rule"]) (sc := defScope sAsked_rules) (by decide +kernel))
        (fun _ _ _ _ _ => pg_name (i := 1) sc_asked_rules.nd rfl (Or.inl rfl)) (fun _ _ _ _ _ => pts_nil)
        (fun _ _ _ _ _ => C8.pe_c (ok_is_row X) hr (by decide) rfl (pa_cons (pv 0) (pa_cons (pv 1) pa_nil))))))) pss_never pss_nil)), ?_⟩
    refine q_no (et_is (et_or (et_not (et_B (ev_isT (ev_var rfl) (ty_list hR.at_) isi_ll))) fun _ => et_not (et_test (ev_chain ev_c (ev_len (ev_var rfl) hR.at_) (fun _ => ev_lenS ev_c alph_sz) rv_I0 fun _ => rv_I0))) ?_) fun H1 e1 => ?_
    · have h1 := hR.ok.pos
      have h2 := hR.ok.few
      rw [RL_len, alph_len]
      simp
      omega
    · have hL : EvL (tLc (iList K (tVar 0)) (gName 1) tYes (tCall (spV (preIsRow K)) [] E0 (tCons (tVar 0) (tCons (tVar 1) tNil))) [1]) (L2.start ["rules", "rule"] [V.ref a]) H1 ((R.map fun r => isLet R.length (enc r)).map V.bl) := by
        rw [List.map_map]
        refine el_list (u := fun r => V.str (enc r)) (wi_list (ev_var rfl) (ex_l e1 hR.at_)) _ (Nat.lt_of_le_of_lt hR.ok.few (by decide)) (fun _ => rfl) fun r hr H2 e2 => ?_
        refine ev_spV (ea_two (ev_var rfl) (ev_var rfl)) fun H3 e3 => ⟨a, RL R, enc r, rfl, ex_l ((e1.trans e2).trans e3) hR.at_, by rw [RL_len]; exact hR.ok.few, by rw [enc_len]; exact Nat.le_trans (hR.sz r hr) (by decide), by rw [RL_len]; rfl⟩
      refine s_no (et_is (et_not (et_B (ev_allN hL))) ?_) fun H2 e2 => k H2 (e1.trans e2)
      have : (R.map fun r => isLet R.length (enc r)).all id = true := List.all_eq_true.mpr fun b hb => by
        obtain ⟨r, hr, rfl⟩ := List.mem_map.mp hb
        exact isLet_enc (hR.ok.rows r hr)
      rw [this]
      rfl
theorem sc_asked_row : FnScope ["rules", "row"] ["rules", "row"] (defScope sAsked_row) := ⟨rfl, rfl, rfl, by decide +kernel, rfl, by decide +kernel, by decide +kernel⟩
def preAskRow (K : PySem.W.Frag) : List V → Hp → V → Prop := fun vs H v => ∃ a R r, vs = [.ref a, .str (enc r)] ∧ RAt K H a R ∧ RowOk R.length r ∧ r.length ≤ sizeLine ∧ v = .non
theorem ok_asked_row (X : T K mg) : C8.Cal P w K mg base 2 "asked_row" (spV (preAskRow K)) [] := by
  refine cal_of X.d_asked_row sc_asked_row (fun _ _ _ _ _ _ us hl => match us, hl with | [_, _], _ => rfl) (fun vs H Q E h => ?_) (fun f cdv A outer s H vs Q E hr h => ?_)
  · obtain ⟨v, ⟨a, R, r, rfl, _⟩, _⟩ := h
    rfl
  · obtain ⟨v, ⟨a, R, r, rfl, hR, hr0, hz, rfl⟩, k⟩ := h
    refine ⟨_, pss_one (ps_if (pt_not (pt_val (C8.pe_c (ok_is_row X) hr (by decide) rfl (pa_cons (pv 0) (pa_cons (pv 1) pa_nil))))) pss_never pss_nil), ?_⟩
    refine s_no (et_is (et_not (et_B (ev_spV (v := .bl true) (ea_two (ev_var rfl) (ev_var rfl)) fun H3 e3 => ⟨a, RL R, enc r, rfl, ex_l e3 hR.at_, by rw [RL_len]; exact hR.ok.few, by rw [enc_len]; exact hz, by rw [RL_len, isLet_enc hr0]⟩))) rfl) k
theorem sc_asked_times : FnScope ["times"] ["times"] (defScope sAsked_times) := ⟨rfl, rfl, rfl, by decide +kernel, rfl, by decide +kernel, by decide +kernel⟩
def preAskTimes : List V → Hp → V → Prop := fun vs _ v => ∃ t : Nat, vs = [.int (t : Int)] ∧ t ≤ 300 ∧ v = .non
theorem ok_asked_times (X : T K mg) : C8.Cal P w K mg base 2 "asked_times" (spV preAskTimes) [] := by
  refine cal_of X.d_asked_times sc_asked_times (fun _ _ _ _ _ _ us hl => match us, hl with | [_], _ => rfl) (fun vs H Q E h => ?_) (fun f cdv A outer s H vs Q E hr h => ?_)
  · obtain ⟨v, ⟨t, rfl, _⟩, _⟩ := h
    rfl
  · obtain ⟨v, ⟨t, rfl, ht, rfl⟩, k⟩ := h
    refine ⟨_, pss_one (ps_if (PW.pt (pw_or (pt_not (pt_val (C8.pe_c (ok_is_number X) hr (by decide) rfl (pa_cons (pv 0) (pa_cons pe_int pa_nil))))) (pw_or1 (pt_cmpR op_gt (pv 0) (C8.pe_gc (by exact rfl) X.TIMES) (nomark _))))) pss_never pss_nil), ?_⟩
    refine s_no (et_is (et_or (et_not (et_B (ev_spV (v := .bl true) (ea_two (ev_var rfl) ev_c) fun H3 e3 => ⟨t, 0, rfl, by simp⟩))) fun _ => et_test (ev_op (ev_var rfl) ev_c rv_I0)) ?_) k
    simp
    omega
/-! ### once -/
def preOnce (K : PySem.W.Frag) : List V → Hp → V → Prop := fun vs H v => ∃ a R r, vs = [.ref a, .str (enc r)] ∧ SqL K H a (RL R) ∧ R.length ≤ 26 ∧ RowOk R.length r ∧ r.length < sizeLine ∧ (once R r).length ≤ 16777216 ∧ v = .str (enc (once R r))
end
end Gw

namespace Gw
open PySem PySem.Spec PyProof.Rows L2 Evl
theorem int_get {T : List Int} {n : Nat} (h : n < T.length) : (T.map V.int)[n]? = some (.int (T.getD n 0)) := by
  rw [List.getElem?_map, List.getElem?_eq_getElem h]
  simp [h]
section
variable {P : Program} {w : World} {K : PySem.W.Frag} {mg : Str → Option Value} {base : Heap}
/-! ### long_by, counted -/
theorem sc_long_by : FnScope ["table", "row", "letter"] ["table", "row"] (defScope sLong_by) := ⟨rfl, rfl, rfl, by decide +kernel, rfl, by decide +kernel, by decide +kernel⟩
def preLongBy (K : PySem.W.Frag) : List V → Hp → V → Prop := fun vs H v => ∃ a T r, vs = [.ref a, .str (enc r)] ∧ SqL K H a (T.map V.int) ∧ T.length ≤ 26 ∧ RowOk T.length r ∧ r.length < sizeLine ∧ v = .int (longBy T r)
theorem ok_long_by (X : T K mg) : C8.Cal P w K mg base 1 "long_by" (spV (preLongBy K)) [] := by
  refine cal_of X.d_long_by sc_long_by (fun _ _ _ _ _ _ us hl => match us, hl with | [_, _], _ => rfl) (fun vs H Q E h => ?_) (fun f cdv A outer s H vs Q E hr h => ?_)
  · obtain ⟨v, ⟨a, R, r, rfl, _⟩, _⟩ := h
    rfl
  · obtain ⟨v, ⟨a, T, r, rfl, hT, h26, hr0, hl, rfl⟩, k⟩ := h
    refine ⟨_, pss_one (ps_ret (pe_sum rfl X.z_sum (pe_lc (own := [("letter", 2)]) (g := gName 2) (tt := tYes) (te := tOp (rIxL K) (tVar 0) (tIdx K (tVar 2))) (by rfl) sc_long_by.nd (pi_str (pv 1)) (blkOk_by (N := ["table", "row", "letter"]) (sc := defScope sLong_by) (by decide +kernel))
      (fun _ _ _ _ _ => pg_name (i := 2) sc_long_by.nd rfl (Or.inl rfl)) (fun _ _ _ _ _ => pts_nil)
      (fun _ _ _ _ _ => pe_ix ix_list (pv 0) (pe_idx (C8.pe_gc (by exact rfl) X.LETTERS) (pv 2)) (fun _ _ => rfl))))), ?_⟩
    refine s_ret (ev_sumN (K := K) (ns := r.map fun n => T.getD n 0) ?_) k
    rw [List.map_map]
    exact el_str (K := K) (ev_var rfl) _ hl (fun _ => rfl) fun n hn H1 e1 => ev_ix (ev_var rfl) (ex_l e1 hT) (tidx rfl (Nat.lt_of_lt_of_le (hr0 n hn) h26)) (int_get (hr0 n hn))
theorem sc_counted : FnScope ["rules", "row", "letter"] ["rules", "row"] (defScope sCounted) := ⟨rfl, rfl, rfl, by decide +kernel, rfl, by decide +kernel, by decide +kernel⟩
def preCounted (K : PySem.W.Frag) : List V → Hp → List V → Prop := fun vs H xs => ∃ a ys r, vs = [.ref a, .str (enc r)] ∧ SqL K H a ys ∧ ys.length ≤ 26 ∧ xs = (counted ys.length r).map V.int
theorem ok_counted (X : T K mg) : C8.Cal P w K mg base 1 "counted" (spL (preCounted K)) [] := by
  refine cal_of X.d_counted sc_counted (fun _ _ _ _ _ _ us hl => match us, hl with | [_, _], _ => rfl) (fun vs H Q E h => ?_) (fun f cdv A outer s H vs Q E hr h => ?_)
  · obtain ⟨v, ⟨a, R, r, rfl, _⟩, _⟩ := h
    rfl
  · obtain ⟨v, ⟨a, ys, r, rfl, hy, h26, rfl⟩, k⟩ := h
    refine ⟨_, pss_one (ps_ret (pe_lc (own := [("letter", 2)]) (g := gName 2) (tt := tYes) (te := tCnt K (tVar 1) (tVar 2)) (by rfl) sc_counted.nd (pi_str (pe_slice sl_str (C8.pe_gc (by exact rfl) X.LETTERS) po_none (po_some (pe_len X.z_len (pv 0))))) (blkOk_by (N := ["rules", "row", "letter"]) (sc := defScope sCounted) (by decide +kernel))
      (fun _ _ _ _ _ => pg_name (i := 2) sc_counted.nd rfl (Or.inl rfl)) (fun _ _ _ _ _ => pts_nil)
      (fun _ _ _ _ _ => pe_count (pv 1) (pv 2)))), ?_⟩
    unfold counted at k
    rw [List.map_map] at k
    exact s_retL (el_str (K := K) (ev_alphCut ev_c (eo_some (ev_len (ev_var rfl) hy)) h26) _ (by rw [List.length_range]; exact Nat.lt_of_le_of_lt h26 (by decide)) (fun _ => rfl) fun n hn H1 e1 => ev_count (ev_var rfl) (ev_var rfl)) k
/-! ### lengths_of -/
abbrev nLengthsOf : List Str := ["rules", "times", "found", "turn", "last", "rule", "letter"]
theorem sc_lengths_of : FnScope nLengthsOf ["rules", "times"] (defScope sLengths_of) := ⟨rfl, rfl, rfl, by decide +kernel, rfl, by decide +kernel, by decide +kernel⟩
/-- the tables up to times -/
def tabs (R : GRules) (t : Nat) : List (List V) := (List.range (t + 1)).map fun i => (lens R i).map V.int
theorem tabs_snoc (R : GRules) (t : Nat) : tabs R (t + 1) = tabs R t ++ [(lens R (t + 1)).map V.int] := by
  unfold tabs
  rw [List.range_succ, List.map_append]
  rfl
theorem tabs_get {R : GRules} {t i : Nat} (h : i ≤ t) : (tabs R t)[i]? = some ((lens R i).map V.int) := by
  unfold tabs
  rw [List.getElem?_map, List.getElem?_range (by omega)]
  rfl
theorem tabs_length (R : GRules) (t : Nat) : (tabs R t).length = t + 1 := by simp [tabs]
def preLengthsOf (K : PySem.W.Frag) : List V → Hp → List (List V) → Prop := fun vs H xss => ∃ a R, ∃ t : Nat, vs = [.ref a, .int (t : Int)] ∧ RAt K H a R ∧ t ≤ 300 ∧ xss = tabs R t
theorem ok_lengths_of (X : T K mg) : C8.Cal P w K mg base 1 "lengths_of" (spLL (preLengthsOf K)) [] := by
  refine cal_of X.d_lengths_of sc_lengths_of (fun _ _ _ _ _ _ us hl => match us, hl with | [_, _], _ => rfl) (fun vs H Q E h => ?_) (fun f cdv A outer s H vs Q E hr h => ?_)
  · obtain ⟨v, ⟨a, R, t, rfl, _⟩, _⟩ := h
    rfl
  · obtain ⟨v, ⟨a, R, t, rfl, hR, ht, rfl⟩, k⟩ := h
    have nd := sc_lengths_of.nd
    refine ⟨_, pss_cons (ps_set (i := 2) nd rfl (Or.inl rfl) (pe_lst (pa_cons (pe_lc (own := [("rule", 5)]) (g := gName 5) (tt := tYes) (te := tC (.int 1)) (by rfl) nd (pi_list (pv 0)) (blkOk_by (N := nLengthsOf) (sc := defScope sLengths_of) (by decide +kernel))
        (fun _ _ _ _ _ => pg_name (i := 5) nd rfl (Or.inl rfl)) (fun _ _ _ _ _ => pts_nil) (fun _ _ _ _ _ => pe_int)) pa_nil)))
      (pss_cons (ps_for PassesOwn.never rfl (pi_range1 rfl X.z_range (pa_cons (pv 1) pa_nil)) (pg_name (i := 3) nd rfl (Or.inl rfl))
        (pss_cons (ps_set (i := 4) nd rfl (Or.inr rfl) (pe_ix ix_list (pv 2) (pe_un un_neg pe_int) (fun _ _ => rfl)))
        (pss_one (ps_expr (pe_app (pv 2) (pe_lc (own := [("rule", 5)]) (g := gName 5) (tt := tYes)
          (te := tSum K (tLc (iStr (tVar 5)) (gName 6) tYes (tOp (rIxL K) (tVar 4) (tIdx K (tVar 6))) [6])) (by rfl) nd (pi_list (pv 0)) (blkOk_by (N := nLengthsOf) (sc := defScope sLengths_of) (by decide +kernel))
          (fun _ _ _ _ _ => pg_name (i := 5) nd rfl (Or.inl rfl)) (fun _ _ _ _ _ => pts_nil)
          (fun _ _ _ _ _ => pe_sum rfl X.z_sum (pe_lc (own := [("letter", 6)]) (g := gName 6) (tt := tYes) (te := tOp (rIxL K) (tVar 4) (tIdx K (tVar 6))) (by rfl) nd (pi_str (pv 5)) (blkOk_by (by rfl))
            (fun _ _ _ _ _ => pg_name (i := 6) nd rfl (Or.inl rfl)) (fun _ _ _ _ _ => pts_nil)
            (fun _ _ _ _ _ => pe_ix ix_list (pv 4) (pe_idx (C8.pe_gc (by exact rfl) X.LETTERS) (pv 6)) (fun _ _ => rfl))))))))))
      (pss_one (ps_ret (pv 2)))), ?_⟩
    have e0 : EvL (tLc (iList K (tVar 0)) (gName 5) tYes (tC (.int 1)) [5]) (L2.start nLengthsOf [V.ref a, V.int (t : Int)]) H ((lens R 0).map V.int) := by
      show EvL _ _ _ ((R.map fun _ => (1 : Int)).map V.int)
      rw [List.map_map]
      exact el_list (u := fun r => V.str (enc r)) (wi_list (ev_var rfl) hR.at_) _ (Nat.lt_of_le_of_lt hR.ok.few (by decide)) (fun _ => rfl) fun r hr H1 e1 => ev_c
    refine q_asgLL (ell_one e0) fun p as H1 hp has e1 hLL => ?_
    refine q_forR1 (ea_one (ev_var rfl)) ⟨by omega, by omega⟩ (fun i σ' H' => ∃ as u v, σ' = [some (.ref a), some (.int (t : Int)), some (.ref p), u, v, none, none] ∧ Ex H H' ∧ (∀ b ∈ as, H b = none ∧ b ≠ p) ∧ LL H' p as (tabs R i))
      (fun H2 e2 => ⟨as, none, none, rfl, e1.trans e2, has, hLL.mono e2⟩) ?_ ?_
    · rintro i σ' H' hi ⟨as, u, v, rfl, eH, hf, hL⟩
      have hlast : atI (as.map V.ref) (-1) = some (.ref (as.getD i 0)) ∧ H' (as.getD i 0) = some (.lst ((lens R i).map V.int)) := by
        have hl : as.length = i + 1 := by rw [hL.2.1, tabs_length]
        have hi2 : i < as.length := by omega
        refine ⟨?_, hL.2.2 i _ _ (by rw [List.getD_eq_getElem?_getD, List.getElem?_eq_getElem hi2]; rfl) (tabs_get (Nat.le_refl i))⟩
        have e : as.map V.ref = (as.take i).map V.ref ++ [V.ref (as.getD i 0)] := by
          have e2 : as = as.take i ++ [as.getD i 0] := by
            have e3 := List.take_append_drop i as
            rw [List.drop_eq_getElem_cons hi2, List.drop_eq_nil_of_le (by omega)] at e3
            have e4 : as.getD i 0 = as[i] := by simp [hi2]
            rw [e4]
            exact e3.symm
          conv => lhs; rw [e2]
          rw [List.map_append]
          rfl
        rw [e]
        exact atI_last _ _
      obtain ⟨hl1, hl2⟩ := hlast
      refine q_asg (v := .ref (as.getD i 0)) (ev_op (ev_var rfl) (ev_un ev_c ru_neg) (rv_ixL (sq_of hL.1) hl1)) fun H2 e2 => ?_
      have eN : EvL (tLc (iList K (tVar 0)) (gName 5) tYes (tSum K (tLc (iStr (tVar 5)) (gName 6) tYes (tOp (rIxL K) (tVar 4) (tIdx K (tVar 6))) [6])) [5])
          ([some (.ref a), some (.int (t : Int)), some (.ref p), some (.int (i : Int)), some (.ref (as.getD i 0)), none, none] : L2.St) H2 ((lens R (i + 1)).map V.int) := by
        show EvL _ _ _ ((R.map fun r => longBy (lens R i) r).map V.int)
        rw [List.map_map]
        refine el_list (u := fun r => V.str (enc r)) (wi_list (ev_var rfl) (ex_l (eH.trans e2) hR.at_)) _ (Nat.lt_of_le_of_lt hR.ok.few (by decide)) (fun _ => rfl) fun r hr H3 e3 => ?_
        refine ev_sumN (K := K) (ns := r.map fun n => (lens R i).getD n 0) ?_
        rw [List.map_map]
        have hrow := hR.ok.rows r hr
        exact el_str (K := K) (ev_var rfl) _ (Nat.lt_of_le_of_lt (hR.sz r hr) (by decide)) (fun _ => rfl) fun n hn H4 e4 => ev_ix (ev_var rfl) (sq_of (((e2.trans e3).trans e4) _ _ hl2)) (tidx rfl (Nat.lt_of_lt_of_le (hrow n hn) hR.ok.few)) (int_get (by rw [lens_length]; exact hrow n hn))
      refine s_appL (e2 _ _ hL.1) (ev_var rfl) eN (by rw [List.length_map, hL.2.1, tabs_length]; omega) fun b H3 hb e3 h3 => ?_
      have hp3 : H3 p = some (.lst (as.map V.ref)) := e3 _ _ (e2 _ _ hL.1)
      have hpb : b ≠ p := Ne.symm (ne_of_none (e2 _ _ hL.1) hb)
      refine ⟨as ++ [b], _, _, rfl, (eH.trans (e2.trans e3)).mut hp, fun c hc => ?_, ?_⟩
      · rcases List.mem_append.mp hc with hc | hc
        · exact hf c hc
        · rw [List.mem_singleton.mp hc]
          exact ⟨fresh_back (eH.trans e2) hb, hpb⟩
      · rw [tabs_snoc]
        exact ll_snoc (hL.mono (e2.trans e3)) h3 hpb.symm fun c hc => (hf c hc).2
    · rintro σ' H' ⟨as, u, v, rfl, eH, hf, hL⟩
      rw [Int.toNat_natCast] at hL
      exact s_ret (ev_var rfl) fun H2 e2 => k p as H2 hp hf (eH.trans e2) (hL.mono e2)
end
end Gw

namespace Gw
open PySem PySem.Spec PyProof.Rows L2 Evl
/-- a list handed back: the one handed in, or a new one -/
def spQ (pre : List V → Hp → Addr → List V → Prop) : Sp := fun vs H Q _ => ∃ b xs, pre vs H b xs ∧ ∀ q H2, Ex H H2 → (q = b ∨ H q = none) → H2 q = some (.lst xs) → Q (.ref q) H2
theorem el_spQ {σ : L2.St} {H : Hp} {ta tb tc : TE} {E : XK} {x y : V} {ys xs : List V} {pre : List V → Hp → Addr → List V → Prop} (ha : Ev ta σ H x) (hb : EvL tb σ H ys) (hc : Ev tc σ H y)
    (hp : ∀ b H1, Ex H H1 → H1 b = some (.lst ys) → pre [x, .ref b, y] H1 b xs) : EvL (tCall (spQ pre) [] E (tCons ta (tCons tb (tCons tc tNil)))) σ H xs := fun H1 e Q q =>
  ha H1 e _ fun H2 e2 => hb H2 (e.trans e2) _ fun b H3 hb0 e3 h3 => hc H3 ((e.trans e2).trans e3) _ fun H4 e4 => by
    show spQ pre [x, V.ref b, y] H4 Q E
    refine ⟨b, xs, hp b H4 (((e.trans e2).trans e3).trans e4) (e4 _ _ h3), fun p H5 e5 hp0 h5 => q p H5 ?_ (((e2.trans e3).trans e4).trans e5) h5⟩
    rcases hp0 with rfl | hp0
    · exact fresh_back e2 hb0
    · exact fresh_back ((e2.trans e3).trans e4) hp0
/-- the same of an old list -/
theorem s_asgQ {σ : L2.St} {H : Hp} {D : Ends} {tz : TS} {i : Nat} {b : Addr} {ta : TA} {E : XK} {vs xs : List V} {pre : List V → Hp → Addr → List V → Prop} (ha : EvA ta σ H vs) (hp : ∀ H1, Ex H H1 → pre vs H1 b xs)
    (k : ∀ q H1, Ex H H1 → (q = b ∨ H q = none) → H1 q = some (.lst xs) → tz D (σ.set i (some (.ref q))) H1) : tSeq (tAsg (tCall (spQ pre) [] E ta) (gName i)) tz D σ H := ha H (Ex.refl H) _ fun H1 e1 => by
  rw [List.append_nil]
  exact ⟨b, xs, hp H1 e1, fun q H2 e2 hq h2 => k q H2 (e1.trans e2) (hq.imp id fun h => fresh_back e1 h) h2⟩
section
variable {P : Program} {w : World} {K : PySem.W.Frag} {mg : Str → Option Value} {base : Heap}
/-! ### grown_counts -/
abbrev nGC : List Str := ["rules", "now", "times", "told", "turn", "rule", "many", "k"]
theorem sc_gc : FnScope nGC ["rules", "now", "times"] (defScope sGrown_counts) := ⟨rfl, rfl, rfl, by decide +kernel, rfl, by decide +kernel, by decide +kernel⟩
def toldOf (R : GRules) : List (List Int) := R.map (counted R.length)
theorem told_get {R : GRules} {i : Nat} (h : i < R.length) : ((toldOf R).map fun l => l.map V.int)[i]? = some (((toldOf R).getD i []).map V.int) := by
  have h2 : i < (toldOf R).length := by unfold toldOf; rw [List.length_map]; exact h
  rw [List.getElem?_map, List.getElem?_eq_getElem h2]
  simp [h2]
theorem told_len {R : GRules} {i : Nat} (h : i < R.length) : ((toldOf R).getD i []).length = R.length := by
  unfold toldOf
  rw [List.getD_eq_getElem?_getD, List.getElem?_map, List.getElem?_eq_getElem h]
  exact counted_length _ _
theorem told_small {R : GRules} (hz : ∀ r ∈ R, r.length ≤ 100000) (i k : Nat) : -(2 ^ 64) < ((toldOf R).getD i []).getD k 0 ∧ ((toldOf R).getD i []).getD k 0 < 2 ^ 64 := by
  have e : (toldOf R).getD i [] = ((R[i]?).map (counted R.length)).getD [] := by
    unfold toldOf
    rw [List.getD_eq_getElem?_getD, List.getElem?_map]
  rw [e]
  cases h : R[i]? with
  | none => simp
  | some r =>
    show -(2 ^ 64) < (counted R.length r).getD k 0 ∧ (counted R.length r).getD k 0 < 2 ^ 64
    by_cases hk : k < R.length
    · rw [counted_getD hk]
      have h1 := hz r (List.mem_of_getElem? h)
      have h2 : r.count k ≤ r.length := List.count_le_length
      omega
    · rw [List.getD_eq_getElem?_getD, List.getElem?_eq_none (by rw [counted_length]; omega)]
      simp
def preGC (K : PySem.W.Frag) : List V → Hp → Addr → List V → Prop := fun vs H b xs => ∃ a R, ∃ now : List Int, ∃ t : Nat, vs = [.ref a, .ref b, .int (t : Int)] ∧ RAt K H a R ∧ H b = some (.lst (now.map V.int)) ∧ now.length = R.length ∧ t ≤ 300 ∧ xs = (gcs R t now).map V.int
abbrev tZip (K : PySem.W.Frag) : TE := tLc (iZip K (tCons (tVar 1) (tCons (tVar 3) tNil))) (gTup K 2 (gCons (gName 6) (gCons (gName 5) gNil))) tYes (tOp (rI CMul fun i j => .int (i * j)) (tVar 6) (tOp (rIxL K) (tVar 5) (tVar 7))) [6, 5]
theorem ev_zipSum {σ : L2.St} {H : Hp} {q p : Addr} {as : List Addr} {R : GRules} {now : List Int} {k : Nat} (hR : RulesOk R) (hz : ∀ r ∈ R, r.length ≤ 100000) (hk : k < R.length) (h1 : σ[1]? = some (some (.ref q))) (h3 : σ[3]? = some (some (.ref p))) (h7 : σ[7]? = some (some (.int (k : Int)))) (hl : 8 = σ.length)
    (hq : H q = some (.lst (now.map V.int))) (hn : now.length = R.length) (hL : LL H p as ((toldOf R).map fun l => l.map V.int)) : Ev (tSum K (tZip K)) σ H (.int (dot k now (toldOf R))) := by
  have tl : (toldOf R).length = R.length := List.length_map _
  rw [← dot_range k now (toldOf R) (by rw [hn, tl])]
  refine ev_sumN ?_
  rw [List.map_map]
  have al : as.length = R.length := by rw [hL.2.1, List.length_map, tl]
  refine el_any (wi_zip (ea_two (ev_var h1) (ev_var h3)) (sq_of hq) (sq_of hL.1) (by rw [List.length_map, List.length_map, al, hn, Nat.min_self])) _ (by have := hR.few; rw [hn]; exact Nat.lt_of_le_of_lt this (by decide)) fun i x H1 H2 hi e1 y Q kk => ?_
  obtain ⟨T, u, v, rfl, hT, rfl, hu, hv⟩ := y
  have hu : (now.map V.int)[i]? = some u := hu
  rw [int_get hi] at hu
  cases hu
  have hiR : i < R.length := by rw [← hn]; exact hi
  obtain ⟨c, hc1, hc2⟩ := hL.get (told_get hiR)
  have hv : (as.map V.ref)[i]? = some v := hv
  rw [hc1] at hv
  cases hv
  have eT : Ex H1 (upd H1 T (.tup [V.int (now.getD i 0), V.ref c])) := Ex.new hT
  refine ⟨T, _, rfl, st_of upd_same, rfl, _, _, rfl, _, _, rfl, rfl, kk _ _ ?_ eT ?_⟩
  · match σ, hl with
    | [_, _, _, _, _, _, _, _], _ => rfl
  · match σ, hl, h7 with
    | [_, _, _, _, _, _, _, s7], _, h7 =>
      refine ev_mul (ev_var rfl) (ev_ix (n := k) (ev_var rfl) (sq_of ((e1.trans eT) _ _ hc2)) ?_ (int_get (by rw [told_len hiR]; exact hk))) (.inr (told_small hz i k))
      exact ev_var h7
theorem ok_gc (X : T K mg) : C8.Cal P w K mg base 2 "grown_counts" (spQ (preGC K)) [] := by
  refine cal_of X.d_grown_counts sc_gc (fun _ _ _ _ _ _ us hl => match us, hl with | [_, _, _], _ => rfl) (fun vs H Q E h => ?_) (fun f cdv A outer s H vs Q E hr h => ?_)
  · obtain ⟨v, xs, ⟨a, R, now, t, rfl, _⟩, _⟩ := h
    rfl
  · obtain ⟨b, xs, ⟨a, R, now, t, rfl, hR, hb, hnow, ht, rfl⟩, k⟩ := h
    have nd := sc_gc.nd
    refine ⟨_, pss_cons (ps_set (i := 3) nd rfl (Or.inr rfl) (pe_lc (own := [("rule", 5)]) (g := gName 5) (tt := tYes) (te := tCall (spL (preCounted K)) [] E0 (tCons (tVar 0) (tCons (tVar 5) tNil))) (by rfl) nd (pi_list (pv 0)) (blkOk_by (N := nGC) (sc := defScope sGrown_counts) (by decide +kernel))
        (fun _ _ _ _ _ => pg_name (i := 5) nd rfl (Or.inl rfl)) (fun _ _ _ _ _ => pts_nil) (fun _ _ _ _ _ => C8.pe_c (ok_counted X) hr (by decide) rfl (pa_cons (pv 0) (pa_cons (pv 5) pa_nil)))))
      (pss_cons (ps_for PassesOwn.never rfl (pi_range1 rfl X.z_range (pa_cons (pv 2) pa_nil)) (pg_name (i := 4) nd rfl (Or.inl rfl))
        (pss_one (ps_set (i := 1) nd rfl (Or.inr rfl) (pe_lc (own := [("k", 7)]) (g := gName 7) (tt := tYes) (te := tSum K (tZip K)) (by rfl) nd (pi_range1 rfl X.z_range (pa_cons (pe_len X.z_len (pv 0)) pa_nil)) (blkOk_by (N := nGC) (sc := defScope sGrown_counts) (by decide +kernel))
          (fun _ _ _ _ _ => pg_name (i := 7) nd rfl (Or.inr rfl)) (fun _ _ _ _ _ => pts_nil)
          (fun _ _ _ _ _ => pe_sum rfl X.z_sum (pe_lc (own := [("many", 6), ("rule", 5)]) (g := gTup K 2 (gCons (gName 6) (gCons (gName 5) gNil))) (tt := tYes) (te := tOp (rI CMul fun i j => .int (i * j)) (tVar 6) (tOp (rIxL K) (tVar 5) (tVar 7))) (by rfl) nd (pi_zip (by exact rfl) X.z_zip (pa_cons (pv 1) (pa_cons (pv 3) pa_nil))) (blkOk_by (by rfl))
            (fun _ _ _ _ _ => pg_tup rfl (pgs_cons (pg_name (i := 6) nd rfl (Or.inl rfl)) (pgs_cons (pg_name (i := 5) nd rfl (Or.inl rfl)) pgs_nil))) (fun _ _ _ _ _ => pts_nil)
            (fun _ _ _ _ _ => pe_op op_mul (pv 6) (pe_ix ix_list (pv 5) (pv 7) (fun _ _ => rfl)))))))))
      (pss_one (ps_ret (pv 1)))), ?_⟩
    have e0 : EvLL (tLc (iList K (tVar 0)) (gName 5) tYes (tCall (spL (preCounted K)) [] E0 (tCons (tVar 0) (tCons (tVar 5) tNil))) [5]) (L2.start nGC [V.ref a, V.ref b, V.int (t : Int)]) H ((toldOf R).map fun l => l.map V.int) := by
      unfold toldOf
      rw [List.map_map]
      refine ell_list (u := fun r => V.str (enc r)) (wi_list (ev_var rfl) hR.at_) _ (Nat.lt_of_le_of_lt hR.ok.few (by decide)) (fun _ => rfl) fun r hr H1 e1 => ?_
      exact el_spL (ea_two (ev_var rfl) (ev_var rfl)) fun H2 e2 => ⟨a, RL R, r, rfl, ex_l (e1.trans e2) hR.at_, by rw [RL_len]; exact hR.ok.few, by rw [RL_len]; rfl⟩
    refine q_asgLL e0 fun p as H1 hp has e1 hLL => ?_
    refine q_forR1 (ea_one (ev_var rfl)) ⟨by omega, by omega⟩ (fun i σ' H' => ∃ q u, σ' = [some (.ref a), some (.ref q), some (.int (t : Int)), some (.ref p), u, none, none, none] ∧ Ex H H' ∧ (q = b ∨ H q = none) ∧ H' q = some (.lst ((gtimes (toldOf R) R.length i now).map V.int)) ∧ LL H' p as ((toldOf R).map fun l => l.map V.int))
      (fun H2 e2 => ⟨b, none, rfl, e1.trans e2, .inl rfl, (e1.trans e2) _ _ hb, hLL.mono e2⟩) ?_ ?_
    · rintro i σ' H' hi ⟨q, u, rfl, eH, hq0, hq, hL⟩
      refine s_asgL (xs := (gtimes (toldOf R) R.length (i + 1) now).map V.int) ?_ fun q' H2 hq' e2 h2 => ⟨q', _, rfl, eH.trans e2, .inr (fresh_back eH hq'), h2, hL.mono e2⟩
      rw [gtimes_succ]
      unfold gstep
      rw [List.map_map]
      refine el_rng (by have z := ev_len (K := K) (σ := ([some (.ref a), some (.ref q), some (.int (t : Int)), some (.ref p), some (.int (i : Int)), none, none, none] : L2.St)) (ta := tVar 0) (ev_var rfl) (ex_l eH hR.at_); rw [RL_len] at z; exact ea_one z) _ (Nat.lt_of_le_of_lt hR.ok.few (by decide)) (fun _ => rfl) fun j hj H2 e2 => ?_
      exact ev_zipSum hR.ok hR.sz hj rfl rfl rfl rfl (e2 _ _ hq) (gtimes_length _ _ _ _ hnow) (hL.mono e2)
    · rintro σ' H' ⟨q, u, rfl, eH, hq0, hq, hL⟩
      rw [Int.toNat_natCast] at hq
      exact s_ret (ev_var rfl) fun H2 e2 => k q H2 (eH.trans e2) hq0 (e2 _ _ hq)
end
end Gw

namespace Gw
open PySem PySem.Spec PyProof.Rows L2 Evl
theorem once_length (R : GRules) : ∀ r : GRow, (r.map fun n => ((ruleOf R n).length : Int)).sum = ((once R r).length : Int)
  | [] => rfl
  | n :: r => by rw [List.map_cons, List.sum_cons, once_length R r, once_cons, List.length_append, Int.natCast_add]
/-- an item of a new list of new lists -/
theorem el_ixLL {K : PySem.W.Frag} {σ : L2.St} {H : Hp} {te ti : TE} {xss : List (List V)} {xs : List V} {i : Nat} (h : EvLL te σ H xss) (hi : Ev ti σ H (.int (i : Int))) (hx : xss[i]? = some xs) : EvL (tOp (rIxL K) te ti) σ H xs := fun H1 e Q q =>
  h H1 e _ fun p as H2 hp has e2 hL => hi H2 (e.trans e2) _ fun H3 e3 => by
    obtain ⟨c, hc1, hc2⟩ := (hL.mono e3).get hx
    have hm : c ∈ as := by
      have := List.mem_of_getElem? hc1
      obtain ⟨d, hd, e⟩ := List.mem_map.mp this
      cases e
      exact hd
    exact ⟨p, as.map V.ref, (i : Int), .ref c, rfl, rfl, sq_of (e3 _ _ hL.1), atI_nat hc1, q c H3 (has c hm).1 (e2.trans e3) hc2⟩
/-- a call whose first argument is a new list -/
theorem ev_spVL {σ : L2.St} {H : Hp} {ta tb : TE} {E : XK} {y v : V} {xs : List V} {pre : List V → Hp → V → Prop} (ha : EvL ta σ H xs) (hb : Ev tb σ H y) (hp : ∀ b H1, Ex H H1 → H1 b = some (.lst xs) → pre [.ref b, y] H1 v) :
    Ev (tCall (spV pre) [] E (tCons ta (tCons tb tNil))) σ H v := fun H1 e Q q =>
  ha H1 e _ fun b H2 _ e2 h2 => hb H2 (e.trans e2) _ fun H3 e3 => by
    show spV pre [V.ref b, y] H3 Q E
    exact ⟨v, hp b H3 ((e.trans e2).trans e3) (e3 _ _ h2), fun H4 e4 => q H4 ((e2.trans e3).trans e4)⟩
section
variable {P : Program} {w : World} {K : PySem.W.Frag} {mg : Str → Option Value} {base : Heap}
theorem ev_ask (K : PySem.W.Frag) {σ : L2.St} {H : Hp} {a : Addr} {R : GRules} (h0 : σ[0]? = some (some (.ref a))) (hR : RAt K H a R) : Ev (tCall (spV (preAskRules K)) [] E0 (tCons (tVar 0) tNil)) σ H .non := ev_spV (ea_one (ev_var h0)) fun H1 e1 => ⟨a, R, rfl, hR.ex e1, rfl⟩
theorem ev_askRow (K : PySem.W.Frag) {σ : L2.St} {H : Hp} {a : Addr} {R : GRules} {r : GRow} (h0 : σ[0]? = some (some (.ref a))) (h1 : σ[1]? = some (some (.str (enc r)))) (hR : RAt K H a R) (hr : RowOk R.length r) (hz : r.length ≤ sizeLine) : Ev (tCall (spV (preAskRow K)) [] E0 (tCons (tVar 0) (tCons (tVar 1) tNil))) σ H .non :=
  ev_spV (ea_two (ev_var h0) (ev_var h1)) fun H1 e1 => ⟨a, R, r, rfl, hR.ex e1, hr, hz, rfl⟩
theorem ev_askTimes {σ : L2.St} {H : Hp} {t : Nat} (h2 : σ[2]? = some (some (.int (t : Int)))) (ht : t ≤ 300) : Ev (tCall (spV preAskTimes) [] E0 (tCons (tVar 2) tNil)) σ H .non := ev_spV (ea_one (ev_var h2)) fun H1 e1 => ⟨t, rfl, ht, rfl⟩
/-- what counts, length, letter, first ask at their doors -/
structure Asked (K : PySem.W.Frag) (H : Hp) (a : Addr) (R : GRules) (r : GRow) (t : Nat) : Prop where
  rules : RAt K H a R
  row : RowOk R.length r
  sz : r.length < sizeLine
  times : t ≤ 300
theorem Asked.ex {H H' : Hp} {a : Addr} {R : GRules} {r : GRow} {t : Nat} (h : Asked K H a R r t) (e : Ex H H') : Asked K H' a R r t := ⟨h.rules.ex e, h.row, h.sz, h.times⟩
/-! ### counts, length -/
theorem sc_counts : FnScope ["rules", "row", "times"] ["rules", "row", "times"] (defScope sCounts) := ⟨rfl, rfl, rfl, by decide +kernel, rfl, by decide +kernel, by decide +kernel⟩
def preCounts (K : PySem.W.Frag) : List V → Hp → List V → Prop := fun vs H xs => ∃ a R r, ∃ t : Nat, vs = [.ref a, .str (enc r), .int (t : Int)] ∧ Asked K H a R r t ∧ xs = (counted R.length (grow R t r)).map V.int
theorem ok_counts (X : T K mg) : C8.Cal P w K mg base 3 "counts" (spL (preCounts K)) [] := by
  refine cal_of X.d_counts sc_counts (fun _ _ _ _ _ _ us hl => match us, hl with | [_, _, _], _ => rfl) (fun vs H Q E h => ?_) (fun f cdv A outer s H vs Q E hr h => ?_)
  · obtain ⟨v, ⟨a, R, r, t, rfl, _⟩, _⟩ := h
    rfl
  · obtain ⟨v, ⟨a, R, r, t, rfl, hA, rfl⟩, k⟩ := h
    refine ⟨_, pss_cons (ps_expr (C8.pe_c (ok_asked_rules X) hr (by decide) rfl (pa_cons (pv 0) pa_nil)))
      (pss_cons (ps_expr (C8.pe_c (ok_asked_row X) hr (by decide) rfl (pa_cons (pv 0) (pa_cons (pv 1) pa_nil))))
      (pss_cons (ps_expr (C8.pe_c (ok_asked_times X) hr (by decide) rfl (pa_cons (pv 2) pa_nil)))
      (pss_one (ps_ret (C8.pe_c (ok_gc X) hr (by decide) rfl (pa_cons (pv 0) (pa_cons (C8.pe_c (ok_counted X) hr (by decide) rfl (pa_cons (pv 0) (pa_cons (pv 1) pa_nil))) (pa_cons (pv 2) pa_nil)))))))), ?_⟩
    refine q_drop (ev_ask K rfl hA.rules) fun H1 e1 => q_drop (ev_askRow K rfl rfl (hA.rules.ex e1) hA.row (Nat.le_of_lt hA.sz)) fun H2 e2 => q_drop (ev_askTimes rfl hA.times) fun H3 e3 => ?_
    have e := (e1.trans e2).trans e3
    refine s_retL (el_spQ (ys := (counted R.length r).map V.int) (ev_var rfl) (el_spL (ea_two (ev_var rfl) (ev_var rfl)) fun H4 e4 => ⟨a, RL R, r, rfl, ex_l (e.trans e4) hA.rules.at_, by rw [RL_len]; exact hA.rules.ok.few, by rw [RL_len]⟩) (ev_var rfl) fun b H4 e4 hb =>
      ⟨a, R, counted R.length r, t, rfl, hA.rules.ex (e.trans e4), hb, counted_length _ _, hA.times, rfl⟩) fun p H4 hp e4 h4 => ?_
    rw [gcs_counted hA.rules.ok t hA.row] at h4
    exact k p H4 (fresh_back e hp) (e.trans e4) h4
theorem sc_length : FnScope ["rules", "row", "times"] ["rules", "row", "times"] (defScope sLength) := ⟨rfl, rfl, rfl, by decide +kernel, rfl, by decide +kernel, by decide +kernel⟩
def preLength (K : PySem.W.Frag) : List V → Hp → V → Prop := fun vs H v => ∃ a R r, ∃ t : Nat, vs = [.ref a, .str (enc r), .int (t : Int)] ∧ Asked K H a R r t ∧ v = .int ((grow R t r).length : Int)
theorem ok_length (X : T K mg) : C8.Cal P w K mg base 3 "length" (spV (preLength K)) [] := by
  refine cal_of X.d_length sc_length (fun _ _ _ _ _ _ us hl => match us, hl with | [_, _, _], _ => rfl) (fun vs H Q E h => ?_) (fun f cdv A outer s H vs Q E hr h => ?_)
  · obtain ⟨v, ⟨a, R, r, t, rfl, _⟩, _⟩ := h
    rfl
  · obtain ⟨v, ⟨a, R, r, t, rfl, hA, rfl⟩, k⟩ := h
    refine ⟨_, pss_cons (ps_expr (C8.pe_c (ok_asked_rules X) hr (by decide) rfl (pa_cons (pv 0) pa_nil)))
      (pss_cons (ps_expr (C8.pe_c (ok_asked_row X) hr (by decide) rfl (pa_cons (pv 0) (pa_cons (pv 1) pa_nil))))
      (pss_cons (ps_expr (C8.pe_c (ok_asked_times X) hr (by decide) rfl (pa_cons (pv 2) pa_nil)))
      (pss_one (ps_ret (C8.pe_c (ok_long_by X) hr (by decide) rfl (pa_cons (pe_ix ix_list (C8.pe_c (ok_lengths_of X) hr (by decide) rfl (pa_cons (pv 0) (pa_cons (pv 2) pa_nil))) (pv 2) (fun _ _ => rfl)) (pa_cons (pv 1) pa_nil))))))), ?_⟩
    refine q_drop (ev_ask K rfl hA.rules) fun H1 e1 => q_drop (ev_askRow K rfl rfl (hA.rules.ex e1) hA.row (Nat.le_of_lt hA.sz)) fun H2 e2 => q_drop (ev_askTimes rfl hA.times) fun H3 e3 => ?_
    have e := (e1.trans e2).trans e3
    refine s_ret (ev_spVL (v := .int ((grow R t r).length : Int)) (el_ixLL (ell_spLL (ea_two (ev_var rfl) (ev_var rfl)) fun H4 e4 => ⟨a, R, t, rfl, hA.rules.ex (e.trans e4), hA.times, rfl⟩) (ev_var rfl) (tabs_get (Nat.le_refl t))) (ev_var rfl) fun b H4 e4 hb => ?_) fun H4 e4 => k H4 (e.trans e4)
    exact ⟨b, lens R t, r, rfl, sq_of hb, by rw [lens_length]; exact hA.rules.ok.few, by rw [lens_length]; exact hA.row, hA.sz, by rw [longBy_lens hA.rules.ok t hA.row]⟩
/-! ### grown -/
abbrev nGrown : List Str := ["rules", "row", "times", "now", "turn", "letter"]
def preGrown (K : PySem.W.Frag) : List V → Hp → V → Prop := fun vs H v => ∃ a R r, ∃ t : Nat, vs = [.ref a, .str (enc r), .int (t : Int)] ∧ Asked K H a R r t ∧ (∀ i, i < t → (grow R (i + 1) r).length ≤ 100000) ∧ v = .str (enc (grow R t r))
end
end Gw

namespace Gw
open PySem PySem.Spec PyProof.Rows L2 Evl
theorem LL.mem_ne {H : Hp} {p q : Addr} {as : List Addr} {xss : List (List V)} (h : LL H p as xss) (hq : H q = none) : p ≠ q ∧ ∀ a ∈ as, a ≠ q := by
  refine ⟨ne_of_none h.1 hq, fun a ha => ?_⟩
  obtain ⟨k, hk⟩ := List.getElem?_of_mem ha
  have hk2 : k < xss.length := by rw [← h.2.1]; exact (List.getElem?_eq_some_iff.mp hk).1
  exact ne_of_none (h.2.2 k a _ hk (List.getElem?_eq_getElem hk2)) hq
theorem ret_tup2 {sp : Sp} {ta : TA} {tb : TE} {σ : L2.St} {H : Hp} {vs : List V} {D : Ends} (hA : EvA ta σ H vs)
    (k : ∀ H1, Ex H H1 → sp vs H1 (fun x H2 => tb σ H2 fun y H3 => [x, y].length ≤ sizeLine ∧ ∀ p, H3 p = none → D.rt (.ref p) (upd H3 p (.tup [x, y]))) E0) :
    tRet (tTup (tCons (tCall sp [] E0 ta) (tCons tb tNil))) D σ H := hA H (Ex.refl _) _ fun H1 e => by
  have := k H1 e
  rw [List.append_nil]
  exact this
section
variable {P : Program} {w : World} {K : PySem.W.Frag} {mg : Str → Option Value} {base : Heap}
abbrev nSk : List Str := ["rules", "row", "times", "many", "told", "found", "left", "now", "turn", "inner", "letter", "part", "rule"]
theorem sc_skipped : FnScope nSk ["rules", "row", "times", "many"] (defScope sSkipped) := ⟨rfl, rfl, rfl, by decide +kernel, rfl, by decide +kernel, by decide +kernel⟩
def spSk (K : PySem.W.Frag) : Sp := fun vs H Q _ => ∃ a R r, ∃ t m : Nat, vs = [.ref a, .str (enc r), .int (t : Int), .int (m : Int)] ∧ Asked K H a R r t ∧ m ≤ (grow R t r).length ∧
  ∀ p q o H2, H p = none → H q = none → Ex H H2 → H2 p = some (.tup [.ref q, .str (textOf o)]) → H2 q = some (.lst ((counted R.length ((grow R t r).take m)).map V.int)) →
    (o = none → m = (grow R t r).length) → (∀ x, o = some x → (grow R t r)[m]? = some x) → Q (.ref p) H2
abbrev tPart' (K : PySem.W.Frag) : TE := tOp (rIxL K) (tOp (rIxL K) (tVar 4) (tVar 8)) (tIdx K (tVar 10))
theorem ok_skipped (X : T K mg) : C8.Cal P w K mg base 3 "skipped" (spSk K) [] := by
  refine cal_of X.d_skipped sc_skipped (fun _ _ _ _ _ _ us hl => match us, hl with | [_, _, _, _], _ => rfl) (fun vs H Q E h => ?_) (fun f cdv A outer s H vs Q E hr h => ?_)
  · obtain ⟨a, R, r, t, m, rfl, _⟩ := h
    rfl
  · obtain ⟨a, R, r, t, m, rfl, hA, hm, k⟩ := h
    have nd := sc_skipped.nd
    refine ⟨_, (pss_cons (ps_set (i := 4) nd rfl (Or.inl rfl) (C8.pe_c (ok_lengths_of X) hr (by decide) rfl (pa_cons (pv 0) (pa_cons (pv 2) pa_nil))))
      (pss_cons (ps_setLc (i := 5) (own := [("rule", 12)]) (g := gName 12) (tt := tYes) (te := tC (.int 0)) rfl nd rfl rfl (sw_true rfl rfl rfl (by decide +kernel)) (pi_list (pv 0)) (blkOk_by (N := nSk) (sc := defScope sSkipped) (by decide +kernel))
          (fun _ _ _ _ _ => pg_name (i := 12) nd rfl (Or.inl rfl)) (fun _ _ _ _ _ => pts_nil) (fun _ _ _ _ _ => pe_int))
      (pss_cons (ps_set (i := 6) nd rfl (Or.inl rfl) (pv 3))
      (pss_cons (ps_set (i := 7) nd rfl (Or.inl rfl) (pv 1))
      (pss_cons (ps_for PassesOwn.never rfl (pi_revR rfl X.z_reversed (prg_1 rfl X.z_range (pe_op op_add (pv 2) pe_int))) (pg_name (i := 8) nd rfl (Or.inl rfl))
        (pss_cons (ps_set (i := 9) nd rfl (Or.inl rfl) pe_empty)
      (pss_cons (ps_for PassesOwn.never rfl (pi_str (pv 7)) (pg_name (i := 10) nd rfl (Or.inl rfl))
          (pss_cons (ps_set (i := 11) nd rfl (Or.inl rfl) (pe_ix ix_list (pe_ix ix_list (pv 4) (pv 8) (fun _ _ => rfl)) (pe_idx (C8.pe_gc rfl X.LETTERS) (pv 10)) (fun _ _ => rfl)))
      (pss_one (ps_if (PW.pt (pw_and (pt_cmpR op_eq (pv 9) pe_empty (nomark _)) (pw_and1 (pt_cmpR op_le (pv 11) (pv 6) (nomark _)))))
            (pss_cons (ps_set (i := 6) nd rfl (Or.inl rfl) (pe_op op_sub (pv 6) (pv 11)))
      (pss_one (ps_asg (pe_op op_add (pe_ix ix_list (pv 5) (pe_idx (C8.pe_gc rfl X.LETTERS) (pv 10)) (fun _ _ => rfl)) pe_int) (pg_sub (pv 5) (pe_idx (C8.pe_gc rfl X.LETTERS) (pv 10)) set_list))))
            (pss_one (ps_if (pt_cmpR op_eq (pv 9) pe_empty (nomark _)) (pss_one (ps_set (i := 9) nd rfl (Or.inl rfl) (pv 10))) pss_nil))))))
      (pss_cons (ps_if (PW.pt (pw_or (pt_cmpR op_eq (pv 9) pe_empty (nomark _)) (pw_or1 (pt_cmpR op_eq (pv 8) pe_int (nomark _)))))
            (pss_one (ps_ret (pe_tup (pa_cons (C8.pe_c (ok_gc X) hr (by decide) rfl (pa_cons (pv 0) (pa_cons (pv 5) (pa_cons (pv 8) pa_nil)))) (pa_cons (pv 9) pa_nil))))) pss_nil)
      (pss_cons (ps_set (i := 5) nd rfl (Or.inl rfl) (C8.pe_c (ok_gc X) hr (by decide) rfl (pa_cons (pv 0) (pa_cons (pv 5) (pa_cons pe_int pa_nil)))))
      (pss_one (ps_set (i := 7) nd rfl (Or.inl rfl) (pe_ix ix_list (pv 0) (pe_idx (C8.pe_gc rfl X.LETTERS) (pv 9)) (fun _ _ => rfl)))))))))
      (pss_one (ps_ret (pe_tup (pa_cons (pv 5) (pa_cons pe_empty pa_nil)))))))))), ?_⟩
    have ok := hA.rules.ok
    have h26 := ok.few
    have ht := hA.times
    refine q_asgLL (ell_spLL (ea_two (ev_var rfl) (ev_var rfl)) fun H1 e1 => ⟨a, R, t, rfl, hA.rules.ex e1, ht, rfl⟩) fun p as H1 hp has e1 hLL => ?_
    refine q_asgL (xs := (counted R.length []).map V.int) ?_ fun q0 H2 hq0 e2 h2 => ?_
    · have e : (counted R.length []).map V.int = R.map fun _ => V.int 0 := by
        apply List.ext_getElem?
        intro i
        rw [List.getElem?_map, List.getElem?_map]
        by_cases hi : i < R.length
        · rw [counted_get hi, List.getElem?_eq_getElem hi]
          rfl
        · rw [List.getElem?_eq_none (by rw [counted_length]; omega), List.getElem?_eq_none (by omega)]
          rfl
      rw [e]
      exact el_list (u := fun r => V.str (enc r)) (wi_list (ev_var rfl) (hA.rules.ex e1).at_) _ (Nat.lt_of_le_of_lt h26 (by decide)) (fun _ => rfl) fun r hr H1 e1 => ev_c
    refine q_asg (ev_var rfl) fun H3 e3 => q_asg (ev_var rfl) fun H4 e4 => ?_
    have e24 := e2.trans (e3.trans e4)
    obtain ⟨G, hG⟩ : ∃ G, grow R t r = G := ⟨_, rfl⟩
    rw [hG] at hm k
    have w8 : WF (iRevR (tRg1 (tOp (rI0 fun i j => .int (i + j)) (tVar 2) (tC (.int 1))))) ([some (.ref a), some (.str (enc r)), some (.int (t : Int)), some (.int (m : Int)), some (.ref p), some (.ref q0), some (.int (m : Int)), some (.str (enc r)), none, none, none, none, none] : L2.St) H4 (t + 1) (fun i => .int (((t + 1 : Nat) : Int) - 1 - (i : Int))) :=
      wf_revR (fun H5 e5 R' k' => ev_addI (i := (t : Int)) (j := 1) (ev_var rfl) ev_c H5 e5 _ fun H6 e6 => ⟨_, rfl, by
        have := k' H6 e6
        rw [Int.natCast_add] at this
        exact this⟩) (by omega)
    refine q_forF w8 (fun i σ' H' => ∃ A now left, ∃ q u8 u9 u10 u11, i ≤ t ∧ SkipAt R G m (t - i) A now left ∧ now.length < sizeLine ∧
        σ' = [some (.ref a), some (.str (enc r)), some (.int (t : Int)), some (.int (m : Int)), some (.ref p), some (.ref q), some (.int (left : Int)), some (.str (enc now)), u8, u9, u10, u11, none] ∧ Ex H1 H' ∧ H1 q = none ∧ H' q = some (.lst ((counted R.length A).map V.int)))
      (fun H5 e5 => ⟨[], r, m, q0, none, none, none, none, Nat.zero_le _, hG ▸ skip_first ok hA.row (hG ▸ hm), hA.sz, rfl, e24.trans e5, hq0, (e3.trans (e4.trans e5)) _ _ h2⟩) ?_ ?_
    · rintro i σ' H' hi ⟨A, now, left, q, u8, u9, u10, u11, hit, hS, hnz, rfl, eH, hq, hqA⟩
      obtain ⟨tt, htt⟩ : ∃ tt, t - i = tt := ⟨_, rfl⟩
      rw [htt] at hS
      have eturn : V.int (((t + 1 : Nat) : Int) - 1 - (i : Int)) = V.int (tt : Int) := congrArg V.int (by omega)
      show _
      rw [eturn]
      have httl : tt ≤ t := by omega
      refine q_asg (v := .str (textOf none)) ev_c fun H5 e5 => ?_
      -- the inner loop
      refine q_forF (wf_str (l := now) (ev_var rfl)) (fun j σ' H' => ∃ f l o u10 u11, SkipIn R tt A now left j f l o ∧ f.length = R.length ∧
          σ' = [some (.ref a), some (.str (enc r)), some (.int (t : Int)), some (.int (m : Int)), some (.ref p), some (.ref q), some (.int l), some (.str (enc now)), some (.int (tt : Int)), some (.str (textOf o)), u10, u11, none] ∧ Ex H1 H' ∧ H' q = some (.lst (f.map V.int)))
        (fun H6 e6 => ⟨counted R.length A, (left : Int), none, u10, u11, skipIn_start, counted_length _ _, rfl, eH.trans (e5.trans e6), (e5.trans e6) _ _ hqA⟩) ?_ ?_
      · rintro j σ6 H6 hj ⟨f, l, o, u10, u11, hI, hfl, rfl, e6, hqf⟩
        have hn : now[j]? = some (now.getD j 0) := by
          rw [List.getElem?_eq_getElem hj]
          simp [hj]
        generalize now.getD j 0 = n at hn
        have hnR : n < R.length := hS.okN.get hn
        have hn26 : n < 26 := Nat.lt_of_lt_of_le hnR h26
        obtain ⟨hpq, haq⟩ := hLL.mem_ne hq
        obtain ⟨c, hc1, hc2⟩ := (hLL.mono e6).get (tabs_get httl)
        refine q_asg (v := .int ((lens R tt).getD n 0)) (ev_ix (n := n) (ev_ix (n := tt) (ev_var rfl) (sq_of (e6 _ _ hLL.1)) (ev_var rfl) hc1) (sq_of hc2) (tidx rfl hn26) (int_get (by rw [lens_length]; exact hnR))) fun H7 e7 => ?_
        cases o with
        | some x =>
          refine s_if (b := false) (et_is (et_and (b := false) (et_test (ev_eqS _ (z := textOf (some x)) (ev_var rfl) ev_c)) fun hb => absurd hb (by rw [textOf_eq]; exact Bool.false_ne_true)) (by rw [textOf_eq]; rfl)) (fun hb => absurd hb Bool.false_ne_true) fun _ H8 e8 => ?_
          refine s_skip (et_is (et_test (ev_eqS _ (z := textOf (some x)) (ev_var rfl) ev_c)) (by rw [textOf_eq]; rfl)) fun H9 e9 => ?_
          exact ⟨f, l, some x, _, _, skipIn_over hI, hfl, rfl, e6.trans (e7.trans (e8.trans e9)), (e7.trans (e8.trans e9)) _ _ hqf⟩
        | none =>
          by_cases hle : (lens R tt).getD n 0 ≤ l
          · refine s_if (b := true) (et_is (et_and (et_test (ev_eqS _ (z := textOf none) (ev_var rfl) ev_c)) fun _ => et_test (ev_op (ev_var rfl) (ev_var rfl) rv_I0)) (by rw [textOf_eq, decide_eq_true hle]; rfl)) (fun _ H8 e8 => ?_) fun hb => absurd hb (by decide)
            refine q_asg (ev_subI (ev_var rfl) (ev_var rfl)) fun H9 e9 => ?_
            have e79 := e7.trans (e8.trans e9)
            refine s_setL (j := n) (e79 _ _ hqf) (v := .int (f.getD n 0 + 1)) (ev_addI (ev_ix (n := n) (ev_var rfl) (sq_of (e79 _ _ hqf)) (tidx rfl hn26) (int_get (by rw [hfl]; exact hnR))) ev_c) (ev_var rfl) (tidx rfl hn26) (by rw [List.length_map, hfl]; exact hnR) fun H10 e10 => ?_
            refine ⟨f.set n (f.getD n 0 + 1), _, none, _, _, skipIn_take ok hS.okN hn hI hle, by rw [List.length_set, hfl], rfl, Ex.mut (e6.trans (e79.trans e10)) hq, ?_⟩
            rw [upd_same, List.map_set]
          · refine s_if (b := false) (et_is (et_and (et_test (ev_eqS _ (z := textOf none) (ev_var rfl) ev_c)) fun _ => et_test (ev_op (ev_var rfl) (ev_var rfl) rv_I0)) (by rw [textOf_eq, decide_eq_false hle]; rfl)) (fun hb => absurd hb Bool.false_ne_true) fun _ H8 e8 => ?_
            refine s_when (b := true) (et_is (et_test (ev_eqS _ (z := textOf none) (ev_var rfl) ev_c)) (by rw [textOf_eq]; rfl)) (fun _ H9 e9 => s_asg (v := .str (textOf (some n))) (ev_var rfl) fun H10 e10 => ?_) fun hb => absurd hb (by decide)
            have e := e7.trans (e8.trans (e9.trans e10))
            exact ⟨f, l, some n, _, _, skipIn_stop ok hS.okN hn hI hle, hfl, rfl, e6.trans e, e _ _ hqf⟩
      · rintro σ6 H6 ⟨f, l, o, u10, u11, hI, hfl, rfl, e6, hqf⟩
        have hgc : ∀ (s : Nat) {H' : Hp}, s ≤ 300 → Ex H6 H' → preGC K [.ref a, .ref q, .int (s : Int)] H' q ((gcs R s f).map V.int) := fun s {H'} hs e => ⟨a, R, f, s, rfl, hA.rules.ex (e1.trans (e6.trans e)), e _ _ hqf, hfl, hs, rfl⟩
        have fin : ∀ {H7 : Hp}, Ex H6 H7 → (gcs R tt f = counted R.length (G.take m)) → (o = none → m = G.length) → (∀ x, o = some x → G[m]? = some x) →
            tRet (tTup (tCons (tCall (spQ (preGC K)) [] E0 (tCons (tVar 0) (tCons (tVar 5) (tCons (tVar 8) tNil)))) (tCons (tVar 9) tNil))) { nx := (fun _ _ => False), rt := Q, bk := (fun _ _ => False), ct := (fun _ _ => False) } ([some (.ref a), some (.str (enc r)), some (.int (t : Int)), some (.int (m : Int)), some (.ref p), some (.ref q), some (.int l), some (.str (enc now)), some (.int (tt : Int)), some (.str (textOf o)), u10, u11, none] : L2.St) H7 := fun {H7} e7 hc h1 h2 => by
          refine ret_tup2 (ea_three (ev_var rfl) (ev_var rfl) (ev_var rfl)) fun H8 e8 => ?_
          refine ⟨q, _, hgc tt (by omega) (e7.trans e8), fun q9 H9 e9 hq9 h9 => ⟨.str (textOf o), rfl, (by show 2 ≤ sizeLine; decide), fun p10 hp10 => ?_⟩⟩
          have e69 := e7.trans (e8.trans e9)
          have hq9H : H1 q9 = none := by
            rcases hq9 with rfl | hq9
            · exact hq
            · exact fresh_back (e6.trans (e7.trans e8)) hq9
          refine k p10 q9 o _ (fresh_back (e1.trans (e6.trans e69)) hp10) (fresh_back e1 hq9H) ((e1.trans (e6.trans e69)).trans (Ex.new hp10)) upd_same ?_ h1 h2
          rw [upd_ne (ne_of_none h9 hp10), h9, hc]
        cases o with
        | none =>
          obtain ⟨hc, hml⟩ := skip_none ok hS hI
          refine q_when (b := true) (et_is (et_or (b := true) (et_test (ev_eqS _ (z := textOf none) (ev_var rfl) ev_c)) fun hb => absurd hb (by rw [textOf_eq]; decide)) (by rw [textOf_eq]; rfl)) (fun _ H7 e7 => fin e7 hc (fun _ => hml) fun x hx => nomatch hx) fun hb => absurd hb (by decide)
        | some x =>
          by_cases h0 : tt = 0
          · subst h0
            obtain ⟨hc, hx⟩ := skip_last ok hS hI
            refine q_when (b := true) (et_is (et_or (et_test (ev_eqS _ (z := textOf (some x)) (ev_var rfl) ev_c)) fun _ => et_test (ev_op (ev_var rfl) ev_c (rv_eq rfl))) (by rw [textOf_eq]; rfl)) (fun _ H7 e7 => fin e7 hc (fun h => nomatch h) fun y hy => by cases hy; exact hx) fun hb => absurd hb (by decide)
          · obtain ⟨t1, rfl⟩ : ∃ t1, tt = t1 + 1 := ⟨tt - 1, by omega⟩
            obtain ⟨hxR, A', left', hc, rfl, hS'⟩ := skip_next ok hS hI
            refine q_skip (et_is (et_or (et_test (ev_eqS _ (z := textOf (some x)) (ev_var rfl) ev_c)) fun _ => et_test (ev_op (ev_var rfl) ev_c (rv_eq rfl))) (by
              rw [textOf_eq]
              have : ¬ V.int ((t1 + 1 : Nat) : Int) = V.int 0 := fun h => by
                have := V.int.inj h
                omega
              rw [decide_eq_false this]
              rfl)) fun H7 e7 => ?_
            refine s_asgQ (b := q) (xs := (gcs R 1 f).map V.int) (ea_three (ev_var rfl) (ev_var rfl) ev_c) (fun H8 e8 => hgc 1 (by decide) (e7.trans e8)) fun q9 H9 e9 hq9 h9 => ?_
            have e69 := e7.trans e9
            refine s_asg (v := .str (enc (ruleOf R x))) (ev_ix (n := x) (ev_var rfl) (hA.rules.ex (e1.trans (e6.trans e69))).at_ (tidx rfl (Nat.lt_of_lt_of_le hxR h26)) (RL_at hxR)) fun H10 e10 => ?_
            have e11 : t - (i + 1) = t1 := by omega
            refine ⟨A', ruleOf R x, left', q9, _, _, _, _, by omega, e11 ▸ hS', Nat.lt_of_le_of_lt (hA.rules.sz _ (List.mem_of_getElem? (rule_get hxR))) (by decide), rfl, e6.trans (e69.trans e10), ?_, by rw [← hc]; exact e10 _ _ h9⟩
            rcases hq9 with rfl | hq9
            · exact hq
            · exact fresh_back (e6.trans e7) hq9
    · rintro σ' H' ⟨A, now, left, q, u8, u9, u10, u11, hit, _⟩
      omega
end
end Gw

namespace Gw
open PySem PySem.Spec PyProof.Rows L2 Evl
theorem ev_skLetter {K : PySem.W.Frag} {σ : L2.St} {H : Hp} {ta : TA} {te : TE} {a : Addr} {R : GRules} {r : GRow} {t m x : Nat} (hA : EvA ta σ H [.ref a, .str (enc r), .int (t : Int), .int (m : Int)]) (ask : Asked K H a R r t) (hx : (grow R t r)[m]? = some x) (h1 : Ev te σ H (.int 1)) :
    Ev (tOp (rIxT K) (tCall (spSk K) [] E0 ta) te) σ H (.str (sg x)) := fun H1 e Q q => hA H1 e _ fun H2 e2 => by
  have hm : m < (grow R t r).length := (List.getElem?_eq_some_iff.mp hx).1
  rw [List.append_nil]
  refine ⟨a, R, r, t, m, rfl, ask.ex (e.trans e2), Nat.le_of_lt hm, fun p qq o H3 hp hq e3 hp3 hq3 hn ho => h1 H3 ((e.trans e2).trans e3) _ fun H4 e4 => ⟨p, _, 1, .str (sg x), rfl, rfl, st_of (e4 _ _ hp3), ?_, q H4 ((e2.trans e3).trans e4)⟩⟩
  cases o with
  | none => exact absurd (hn rfl) (Nat.ne_of_lt hm)
  | some y =>
    have := ho y rfl
    rw [hx] at this
    cases this
    rfl
theorem el_skFirst {K : PySem.W.Frag} {σ : L2.St} {H : Hp} {ta : TA} {te : TE} {a : Addr} {R : GRules} {r : GRow} {t m : Nat} (hA : EvA ta σ H [.ref a, .str (enc r), .int (t : Int), .int (m : Int)]) (ask : Asked K H a R r t) (hm : m ≤ (grow R t r).length) (h1 : Ev te σ H (.int 0)) :
    EvL (tOp (rIxT K) (tCall (spSk K) [] E0 ta) te) σ H ((counted R.length ((grow R t r).take m)).map V.int) := fun H1 e Q q => hA H1 e _ fun H2 e2 => by
  rw [List.append_nil]
  exact ⟨a, R, r, t, m, rfl, ask.ex (e.trans e2), hm, fun p qq o H3 hp hq e3 hp3 hq3 hn ho => h1 H3 ((e.trans e2).trans e3) _ fun H4 e4 => ⟨p, _, 0, .ref qq, rfl, rfl, st_of (e4 _ _ hp3), rfl, q qq H4 (fresh_back e2 hq) ((e2.trans e3).trans e4) (e4 _ _ hq3)⟩⟩
section
variable {P : Program} {w : World} {K : PySem.W.Frag} {mg : Str → Option Value} {base : Heap}
theorem sc_letter : FnScope ["rules", "row", "times", "place"] ["rules", "row", "times", "place"] (defScope sLetter) := ⟨rfl, rfl, rfl, by decide +kernel, rfl, by decide +kernel, by decide +kernel⟩
def preLetter (K : PySem.W.Frag) : List V → Hp → V → Prop := fun vs H v => ∃ a R r x, ∃ t m : Nat, vs = [.ref a, .str (enc r), .int (t : Int), .int (m : Int)] ∧ Asked K H a R r t ∧ (grow R t r)[m]? = some x ∧ v = .str (sg x)
theorem ok_letter (X : T K mg) : C8.Cal P w K mg base 4 "letter" (spV (preLetter K)) [] := by
  refine cal_of X.d_letter sc_letter (fun _ _ _ _ _ _ us hl => match us, hl with | [_, _, _, _], _ => rfl) (fun vs H Q E h => ?_) (fun f cdv A outer s H vs Q E hr h => ?_)
  · obtain ⟨v, ⟨a, R, r, x, t, m, rfl, _⟩, _⟩ := h
    rfl
  · obtain ⟨v, ⟨a, R, r, x, t, m, rfl, hA, hx, rfl⟩, k⟩ := h
    refine ⟨_, (pss_cons (ps_expr (C8.pe_c (ok_asked_rules X) hr (by decide) rfl (pa_cons (pv 0) pa_nil)))
      (pss_cons (ps_expr (C8.pe_c (ok_asked_row X) hr (by decide) rfl (pa_cons (pv 0) (pa_cons (pv 1) pa_nil))))
      (pss_cons (ps_expr (C8.pe_c (ok_asked_times X) hr (by decide) rfl (pa_cons (pv 2) pa_nil)))
      (pss_cons (ps_if (PW.pt (pw_or (pt_not (pt_val (C8.pe_c (ok_is_number X) hr (by decide) rfl (pa_cons (pv 3) (pa_cons pe_int pa_nil)))))
          (pw_or1 (pt_cmpR op_ge (pv 3) (C8.pe_c (ok_length X) hr (by decide) rfl (pa_cons (pv 0) (pa_cons (pv 1) (pa_cons (pv 2) pa_nil)))) (nomark _))))) pss_never pss_nil)
      (pss_one (ps_ret (pe_ix ix_tup (C8.pe_c (ok_skipped X) hr (by decide) rfl (pa_cons (pv 0) (pa_cons (pv 1) (pa_cons (pv 2) (pa_cons (pv 3) pa_nil))))) pe_int (fun _ _ => rfl)))))))), ?_⟩
    have hm : m < (grow R t r).length := (List.getElem?_eq_some_iff.mp hx).1
    refine q_drop (ev_ask K rfl hA.rules) fun H1 e1 => q_drop (ev_askRow K rfl rfl (hA.rules.ex e1) hA.row (Nat.le_of_lt hA.sz)) fun H2 e2 => q_drop (ev_askTimes rfl hA.times) fun H3 e3 => ?_
    have e := (e1.trans e2).trans e3
    refine q_no (et_is (et_or (et_not (et_B (ev_spV (v := .bl true) (ea_two (ev_var rfl) ev_c) fun H4 e4 => ⟨m, 0, rfl, by simp⟩))) fun _ => et_test (ev_op (ev_var rfl) (ev_spV (v := .int ((grow R t r).length : Int)) (ea_three (ev_var rfl) (ev_var rfl) (ev_var rfl)) fun H4 e4 => ⟨a, R, r, t, rfl, hA.ex (e.trans e4), rfl⟩) rv_I0)) (by
      simp
      omega)) fun H4 e4 => ?_
    exact s_ret (ev_skLetter (ea_cons (ev_var rfl) (ea_three (ev_var rfl) (ev_var rfl) (ev_var rfl))) (hA.ex (e.trans e4)) hx ev_c) fun H5 e5 => k H5 ((e.trans e4).trans e5)
theorem sc_first : FnScope ["rules", "row", "times", "many"] ["rules", "row", "times", "many"] (defScope sFirst) := ⟨rfl, rfl, rfl, by decide +kernel, rfl, by decide +kernel, by decide +kernel⟩
def preFirst (K : PySem.W.Frag) : List V → Hp → List V → Prop := fun vs H xs => ∃ a R r, ∃ t m : Nat, vs = [.ref a, .str (enc r), .int (t : Int), .int (m : Int)] ∧ Asked K H a R r t ∧ m ≤ (grow R t r).length ∧ xs = (counted R.length ((grow R t r).take m)).map V.int
theorem ok_first (X : T K mg) : C8.Cal P w K mg base 4 "first" (spL (preFirst K)) [] := by
  refine cal_of X.d_first sc_first (fun _ _ _ _ _ _ us hl => match us, hl with | [_, _, _, _], _ => rfl) (fun vs H Q E h => ?_) (fun f cdv A outer s H vs Q E hr h => ?_)
  · obtain ⟨v, ⟨a, R, r, t, m, rfl, _⟩, _⟩ := h
    rfl
  · obtain ⟨v, ⟨a, R, r, t, m, rfl, hA, hm, rfl⟩, k⟩ := h
    refine ⟨_, (pss_cons (ps_expr (C8.pe_c (ok_asked_rules X) hr (by decide) rfl (pa_cons (pv 0) pa_nil)))
      (pss_cons (ps_expr (C8.pe_c (ok_asked_row X) hr (by decide) rfl (pa_cons (pv 0) (pa_cons (pv 1) pa_nil))))
      (pss_cons (ps_expr (C8.pe_c (ok_asked_times X) hr (by decide) rfl (pa_cons (pv 2) pa_nil)))
      (pss_cons (ps_if (PW.pt (pw_or (pt_not (pt_val (C8.pe_c (ok_is_number X) hr (by decide) rfl (pa_cons (pv 3) (pa_cons pe_int pa_nil)))))
          (pw_or1 (pt_cmpR op_gt (pv 3) (C8.pe_c (ok_length X) hr (by decide) rfl (pa_cons (pv 0) (pa_cons (pv 1) (pa_cons (pv 2) pa_nil)))) (nomark _))))) pss_never pss_nil)
      (pss_one (ps_ret (pe_ix ix_tup (C8.pe_c (ok_skipped X) hr (by decide) rfl (pa_cons (pv 0) (pa_cons (pv 1) (pa_cons (pv 2) (pa_cons (pv 3) pa_nil))))) pe_int (fun _ _ => rfl)))))))), ?_⟩
    refine q_drop (ev_ask K rfl hA.rules) fun H1 e1 => q_drop (ev_askRow K rfl rfl (hA.rules.ex e1) hA.row (Nat.le_of_lt hA.sz)) fun H2 e2 => q_drop (ev_askTimes rfl hA.times) fun H3 e3 => ?_
    have e := (e1.trans e2).trans e3
    refine q_no (et_is (et_or (et_not (et_B (ev_spV (v := .bl true) (ea_two (ev_var rfl) ev_c) fun H4 e4 => ⟨m, 0, rfl, by simp⟩))) fun _ => et_test (ev_op (ev_var rfl) (ev_spV (v := .int ((grow R t r).length : Int)) (ea_three (ev_var rfl) (ev_var rfl) (ev_var rfl)) fun H4 e4 => ⟨a, R, r, t, rfl, hA.ex (e.trans e4), rfl⟩) rv_I0)) (by
      simp
      omega)) fun H4 e4 => ?_
    have e' := e.trans e4
    exact s_retL (el_skFirst (ea_cons (ev_var rfl) (ea_three (ev_var rfl) (ev_var rfl) (ev_var rfl))) (hA.ex e') hm ev_c) fun p H5 hp e5 h5 => k p H5 (fresh_back e' hp) (e'.trans e5) h5
end
end Gw

namespace Gw
open PySem PySem.Spec PyProof.Rows L2 Evl
section
variable {P : Program} {w : World} {K : PySem.W.Frag} {mg : Str → Option Value} {base : Heap}
/-! ### the law's own rules -/
structure GoodR (R : GRules) : Prop where
  ok : RulesOk R
  sz : ∀ r ∈ R, r.length ≤ 100
abbrev nLR : List Str := ["_law_script", "_law_kind", "_law_many", "_law_rules_here", "_law_cell", "_law_at_here", "_law_put", "_law_again", "_law_place", "_law_rule"]
theorem sc_lr : FnScope nLR ["_law_script"] (defScope sLaw_rules) := ⟨rfl, rfl, rfl, by decide +kernel, rfl, by decide +kernel, by decide +kernel⟩
def spLR (K : PySem.W.Frag) : Sp := fun vs H Q _ => ∃ a, ∃ ns : List Int, vs = [.ref a] ∧ SqL K H a (ns.map V.int) ∧ ns.length ≤ 63 ∧ ∀ p H2 R, H p = none → Ex H H2 → H2 p = some (.lst (RL R)) → GoodR R → Q (.ref p) H2
/-- rules while they are made: m of them, of at most i letters -/
structure HalfR (R : GRules) (m : Int) (i : Nat) : Prop where
  len : (R.length : Int) = m
  lo : 1 ≤ m
  hi : m ≤ 26
  rows : ∀ r ∈ R, RowOk R.length r
  sz : ∀ r ∈ R, r.length ≤ i
theorem HalfR.set {R : GRules} {m : Int} {i j n : Nat} (h : HalfR R m i) (hn : n < R.length) : HalfR (R.set j (ruleOf R j ++ [n])) m (i + 1) := by
  have hl : (R.set j (ruleOf R j ++ [n])).length = R.length := List.length_set ..
  refine ⟨by rw [hl]; exact h.len, h.lo, h.hi, fun r hr => ?_, fun r hr => ?_⟩
  · rw [hl]
    rcases List.mem_or_eq_of_mem_set hr with hr | rfl
    · exact h.rows r hr
    · refine RowOk.append ?_ (RowOk.cons hn (RowOk.nil _))
      by_cases hj : j < R.length
      · exact h.rows _ (List.mem_of_getElem? (rule_get hj))
      · have : ruleOf R j = [] := by
          unfold ruleOf
          rw [List.getD_eq_getElem?_getD, List.getElem?_eq_none (by omega)]
          rfl
        rw [this]
        exact RowOk.nil _
  · rcases List.mem_or_eq_of_mem_set hr with hr | rfl
    · exact Nat.le_succ_of_le (h.sz r hr)
    · rw [List.length_append]
      by_cases hj : j < R.length
      · have := h.sz _ (List.mem_of_getElem? (rule_get hj))
        simp
        omega
      · have : ruleOf R j = [] := by
          unfold ruleOf
          rw [List.getD_eq_getElem?_getD, List.getElem?_eq_none (by omega)]
          rfl
        rw [this]
        simp
theorem RL_set {R : GRules} {j : Nat} {r : GRow} : (RL R).set j (.str (enc r)) = RL (R.set j r) := by
  unfold RL
  rw [List.map_set]
/-- each one begun with its own letter -/
def begun (R : GRules) : GRules := (List.range R.length).map fun i => i :: ruleOf R i
theorem begun_half {R : GRules} {m : Int} {i : Nat} (h : HalfR R m i) : HalfR (begun R) m (i + 1) := by
  have hl : (begun R).length = R.length := by simp [begun]
  refine ⟨by rw [hl]; exact h.len, h.lo, h.hi, fun r hr => ?_, fun r hr => ?_⟩
  · rw [hl]
    obtain ⟨j, hj, rfl⟩ := List.mem_map.mp hr
    have hj := List.mem_range.mp hj
    exact RowOk.cons hj (h.rows _ (List.mem_of_getElem? (rule_get hj)))
  · obtain ⟨j, hj, rfl⟩ := List.mem_map.mp hr
    have hj := List.mem_range.mp hj
    have := h.sz _ (List.mem_of_getElem? (rule_get hj))
    rw [List.length_cons]
    omega
/-- long ones, cut -/
def again (R : GRules) (k : Nat) : GRules := R.map fun r => ((List.replicate k r).flatten).take 100
theorem rep_ok {n k : Nat} {r : GRow} (h : RowOk n r) : RowOk n (List.replicate k r).flatten := fun m hm => by
  obtain ⟨l, hl, hm⟩ := List.mem_flatten.mp hm
  rw [List.eq_of_mem_replicate hl] at hm
  exact h m hm
theorem rep_len (k : Nat) (r : GRow) : (List.replicate k r).flatten.length = r.length * k := by
  induction k with
  | zero => rfl
  | succ k ih =>
    rw [List.replicate_succ, List.flatten_cons, List.length_append, ih, Nat.mul_succ]
    omega
theorem again_half {R : GRules} {m : Int} {i : Nat} (h : HalfR R m i) (k : Nat) : HalfR (again R k) m 100 := by
  have hl : (again R k).length = R.length := by simp [again]
  refine ⟨by rw [hl]; exact h.len, h.lo, h.hi, fun r hr => ?_, fun r hr => ?_⟩
  · rw [hl]
    obtain ⟨q, hq, rfl⟩ := List.mem_map.mp hr
    exact RowOk.take 100 (rep_ok (h.rows q hq))
  · obtain ⟨q, hq, rfl⟩ := List.mem_map.mp hr
    rw [List.length_take]
    omega
theorem HalfR.good {R : GRules} {m : Int} {i : Nat} (h : HalfR R m i) (hi : i ≤ 100) : GoodR R :=
  ⟨⟨by have := h.len; have := h.lo; omega, by have := h.len; have := h.hi; omega, h.rows⟩, fun r hr => Nat.le_trans (h.sz r hr) hi⟩
abbrev tBegin : TE := tOp rCatS (tOp rIxS tAl (tVar 5)) (tVar 9)
abbrev tAgain : TE := tSl rSlS (tOp rRepS (tVar 9) (tVar 7)) tNoPart (tPart (tC (.int 100)))
theorem four {xs : List V} {i : Int} (x0 x1 x2 x3 : V) (h : xs = [x0, x1, x2, x3]) (h0 : 0 ≤ i) (h4 : i < 4) {C : V → Prop} (c0 : C x0) (c1 : C x1) (c2 : C x2) (c3 : C x3) : ∃ v, atI xs i = some v ∧ C v := by
  subst h
  have : i = ((0 : Nat) : Int) ∨ i = ((1 : Nat) : Int) ∨ i = ((2 : Nat) : Int) ∨ i = ((3 : Nat) : Int) := by omega
  rcases this with rfl | rfl | rfl | rfl
  · exact ⟨x0, atI_nat rfl, c0⟩
  · exact ⟨x1, atI_nat rfl, c1⟩
  · exact ⟨x2, atI_nat rfl, c2⟩
  · exact ⟨x3, atI_nat rfl, c3⟩
theorem ok_lr (X : T K mg) : C8.Cal P w K mg base 1 "_law_rules" (spLR K) [] := by
  refine cal_of X.d_law_rules sc_lr (fun _ _ _ _ _ _ us hl => match us, hl with | [_], _ => rfl) (fun vs H Q E h => ?_) (fun f cdv A outer s H vs Q E hr h => ?_)
  · obtain ⟨a, ns, rfl, _⟩ := h
    rfl
  · obtain ⟨a, ns, rfl, hS, hns, k⟩ := h
    have nd := sc_lr.nd
    refine ⟨_, pss_cons (ps_set (i := 1) nd rfl (Or.inl rfl) (pe_op op_mod (pe_sum rfl X.z_sum (pv 0)) pe_int))
      (pss_cons (ps_set (i := 2) nd rfl (Or.inl rfl) (pe_ix ix_tup (pe_tup (pa_cons pe_int (pa_cons pe_int (pa_cons (pe_op op_add pe_int (pe_op op_mod (pe_op op_fdiv (pe_len X.z_len (pv 0)) pe_int) pe_int)) (pa_cons pe_int pa_nil))))) (pv 1) (fun _ _ => rfl)))
      (pss_cut (ps_if (pt_cmpR op_eq (pe_op op_mod (pe_op op_fdiv (pe_sum rfl X.z_sum (pv 0)) pe_int) pe_int) pe_int (nomark _)) (pss_one (ps_set (i := 2) nd rfl (Or.inl rfl) (pe_op op_add pe_int (pe_op op_mod (pe_op op_fdiv (pe_sum rfl X.z_sum (pv 0)) pe_int) pe_int)))) pss_nil)
      (pss_cons (ps_setLc (i := 3) (own := [("_law_place", 8)]) (g := gName 8) (tt := tYes) (te := tC (.str (enc []))) rfl nd rfl rfl (sw_true rfl rfl rfl (by decide +kernel)) (pi_range1 rfl X.z_range (pa_cons (pv 2) pa_nil)) (blkOk_by (N := nLR) (sc := defScope sLaw_rules) (by decide +kernel))
          (fun _ _ _ _ _ => pg_name (i := 8) nd rfl (Or.inl rfl)) (fun _ _ _ _ _ => pts_nil) (fun _ _ _ _ _ => pe_empty))
      (pss_cons (ps_for PassesOwn.never rfl (pi_list (pe_slice sl_list (pv 0) po_none (po_some pe_int))) (pg_name (i := 4) nd rfl (Or.inl rfl))
        (pss_cons (ps_set (i := 5) nd rfl (Or.inl rfl) (pe_op op_mod (pe_op op_fdiv (pv 4) (pv 2)) (pv 2)))
        (pss_cons (ps_set (i := 6) nd rfl (Or.inl rfl) (pe_ix ix_str pe_alph (pe_op op_mod (pv 4) (pv 2)) (fun _ _ => rfl)))
        (pss_one (ps_asg (pe_op op_add_str (pe_ix ix_list (pv 3) (pv 5) (fun _ _ => rfl)) (pv 6)) (pg_sub (pv 3) (pv 5) set_list))))))
      (pss_cut (ps_if (pt_cmpR op_eq (pv 1) pe_int (nomark _)) (pss_one (ps_setLc (i := 3) (own := [("_law_at_here", 5), ("_law_rule", 9)]) (g := gTup K 2 (gCons (gName 5) (gCons (gName 9) gNil))) (tt := tYes) (te := tBegin) rfl nd rfl rfl (sw_true rfl rfl rfl (by decide +kernel))
          (pi_enum (by exact rfl) X.z_enumerate (pa_cons (pv 3) pa_nil)) (blkOk_by (N := nLR) (sc := defScope sLaw_rules) (by decide +kernel))
          (fun _ _ _ _ _ => pg_tup rfl (pgs_cons (pg_name (i := 5) nd rfl (Or.inl rfl)) (pgs_cons (pg_name (i := 9) nd rfl (Or.inl rfl)) pgs_nil))) (fun _ _ _ _ _ => pts_nil)
          (fun _ _ _ _ _ => pe_op op_add_str (pe_ix ix_str pe_alph (pv 5) (fun _ _ => rfl)) (pv 9)))) pss_nil)
      (pss_cut (ps_if (pt_cmpR op_eq (pe_op op_mod (pe_op op_fdiv (pe_sum rfl X.z_sum (pv 0)) pe_int) pe_int) pe_int (nomark _))
          (pss_cons (ps_set (i := 7) nd rfl (Or.inr rfl) (pe_op op_add pe_int (pe_op op_mod (pe_op op_fdiv (pe_sum rfl X.z_sum (pv 0)) pe_int) pe_int)))
          (pss_one (ps_setLc (i := 3) (own := [("_law_rule", 9)]) (g := gName 9) (tt := tYes) (te := tAgain) rfl nd rfl rfl (sw_true rfl rfl rfl (by decide +kernel)) (pi_list (pv 3)) (blkOk_by (N := nLR) (sc := defScope sLaw_rules) (by decide +kernel))
            (fun _ _ _ _ _ => pg_name (i := 9) nd rfl (Or.inl rfl)) (fun _ _ _ _ _ => pts_nil) (fun _ _ _ _ _ => pe_slice sl_str (pe_op op_repS (pv 9) (pv 7)) po_none (po_some pe_int))))) pss_nil)
      (pss_one (ps_ret (pv 3))))))))), ?_⟩
    have hsum : ∀ {σ : L2.St} {H' : Hp}, σ[0]? = some (some (.ref a)) → Ex H H' → Ev (tSum K (tVar 0)) σ H' (.int ns.sum) := fun h0 e => ev_sum (ev_var h0) (ex_l e hS)
    -- kind, many
    refine q_asg (ev_mod (hsum rfl (Ex.refl H)) ev_c (by decide)) fun H1 e1 => ?_
    have hk0 : 0 ≤ ns.sum % 4 := Int.emod_nonneg _ (by decide)
    have hk4 : ns.sum % 4 < 4 := Int.emod_lt_of_pos _ (by decide)
    have hm0 : 0 ≤ ((ns.map V.int).length : Int) / 5 % 12 := Int.emod_nonneg _ (by decide)
    have hm1 : ((ns.map V.int).length : Int) / 5 % 12 < 12 := Int.emod_lt_of_pos _ (by decide)
    obtain ⟨v, hv, m, rfl, hlo, hhi⟩ : ∃ v, atI [V.int 2, V.int 3, V.int (1 + ((ns.map V.int).length : Int) / 5 % 12), V.int 4] (ns.sum % 4) = some v ∧ ∃ m : Int, v = .int m ∧ 1 ≤ m ∧ m ≤ 26 :=
      four _ _ _ _ rfl hk0 hk4 ⟨2, rfl, by decide, by decide⟩ ⟨3, rfl, by decide, by decide⟩ ⟨_, rfl, by omega, by omega⟩ ⟨4, rfl, by decide, by decide⟩
    refine q_asg (v := .int m) (ev_ixU (eu_tup (ea_cons ev_c (ea_cons ev_c (ea_cons (ev_addI ev_c (ev_mod (ev_div (ev_len (ev_var rfl) (ex_l e1 hS)) ev_c (by decide) (by decide)) ev_c (by decide))) (ea_one ev_c)))) (by show 4 ≤ 100000; decide)) (ev_var rfl) hv) fun H2 e2 => ?_
    -- perhaps more of them
    refine q_cut (M := fun σ' H' => ∃ m : Int, σ' = [some (.ref a), some (.int (ns.sum % 4)), some (.int m), none, none, none, none, none, none, none] ∧ Ex H H' ∧ 1 ≤ m ∧ m ≤ 26)
      (s_when (et_test (ev_op (ev_mod (ev_div (hsum rfl (e1.trans e2)) ev_c (by decide) (by decide)) ev_c (by decide)) ev_c (rv_eq rfl)))
        (fun _ H3 e3 => s_asg (ev_addI ev_c (ev_mod (ev_div (hsum rfl ((e1.trans e2).trans e3)) ev_c (by decide) (by decide)) ev_c (by decide))) fun H4 e4 => ⟨_, rfl, ((e1.trans e2).trans e3).trans e4, by
          have h1 : 0 ≤ ns.sum / 36 % 14 := Int.emod_nonneg _ (by decide)
          omega, by
          have h2 : ns.sum / 36 % 14 < 14 := Int.emod_lt_of_pos _ (by decide)
          omega⟩)
        fun _ H3 e3 => ⟨m, rfl, (e1.trans e2).trans e3, hlo, hhi⟩) ?_
    rintro _ H5 ⟨m, rfl, e5, hlo, hhi⟩
    -- none of them has a letter
    obtain ⟨mn, rfl⟩ : ∃ mn : Nat, m = (mn : Int) := ⟨m.toNat, by omega⟩
    refine q_asgL (xs := RL ((List.range mn).map fun _ => [])) (by
      unfold RL
      rw [List.map_map]
      exact el_rng (ea_one (ev_var rfl)) _ (Nat.lt_of_le_of_lt (show mn ≤ 26 by omega) (by decide)) (fun _ => rfl) fun _ _ _ _ => ev_c) fun q H6 hq e6 h6 => ?_
    have hq0 : H q = none := fresh_back e5 hq
    have e06 := e5.trans e6
    have hR0 : HalfR ((List.range mn).map fun _ => []) (mn : Int) 0 := ⟨by simp, hlo, hhi, fun r hr => by
      obtain ⟨_, _, rfl⟩ := List.mem_map.mp hr
      exact RowOk.nil _, fun r hr => by
      obtain ⟨_, _, rfl⟩ := List.mem_map.mp hr
      exact Nat.zero_le _⟩
    refine q_forNLn (el_take (n := 63) (ev_var rfl) (eo_some ev_c) (ex_l e06 hS)) (fun p i σ' H' => ∃ R c u v, σ' = [some (.ref a), some (.int (ns.sum % 4)), some (.int (mn : Int)), some (.ref q), c, u, v, none, none, none] ∧ Ex H H' ∧ H' q = some (.lst (RL R)) ∧ HalfR R (mn : Int) i ∧ H' p = some (.lst ((ns.map V.int).take 63)) ∧ p ≠ q)
      (fun p H7 hp7 e7 h7 => ⟨_, none, none, none, rfl, e06.trans e7, e7 _ _ h6, hR0, h7, Ne.symm (ne_of_none h6 hp7)⟩) (fun p i σ' H' _ ⟨_, _, _, _, _, _, _, _, hp, _⟩ => sq_of hp) ?_ ?_
    · rintro p i x σ' H' hx ⟨R, c, u, v, rfl, eH, hRq, hR, hp, hpq⟩
      have hxm := List.mem_of_getElem? hx
      obtain ⟨z, hz, rfl⟩ := List.mem_map.mp (List.mem_of_mem_take hxm)
      have hmp : (0 : Int) < (mn : Int) := by omega
      have ha0 : 0 ≤ z / (mn : Int) % (mn : Int) := Int.emod_nonneg _ (by omega)
      have ha1 : z / (mn : Int) % (mn : Int) < (mn : Int) := Int.emod_lt_of_pos _ hmp
      have hb0 : 0 ≤ z % (mn : Int) := Int.emod_nonneg _ (by omega)
      have hb1 : z % (mn : Int) < (mn : Int) := Int.emod_lt_of_pos _ hmp
      obtain ⟨j, hj⟩ : ∃ j : Nat, z / (mn : Int) % (mn : Int) = (j : Int) := ⟨_, (Int.toNat_of_nonneg ha0).symm⟩
      obtain ⟨n, hn⟩ : ∃ n : Nat, z % (mn : Int) = (n : Int) := ⟨_, (Int.toNat_of_nonneg hb0).symm⟩
      have hlen := hR.len
      have hjR : j < R.length := by omega
      have hnR : n < R.length := by omega
      refine q_asg (ev_is (ev_mod (ev_div (ev_var rfl) (ev_var rfl) hmp (by omega)) (ev_var rfl) hmp) (congrArg V.int hj)) fun H8 e8 => ?_
      refine q_asg (ev_alphAt (n := n) ev_c (ev_is (ev_mod (ev_var rfl) (ev_var rfl) hmp) (congrArg V.int hn)) rfl (by omega)) fun H9 e9 => ?_
      have e89 := e8.trans e9
      refine s_setL (e89 _ _ hRq) (v := .str (enc (ruleOf R j ++ [n]))) (ev_addS (m := [n]) (ev_ix (ev_var rfl) (sq_of (e89 _ _ hRq)) (ev_var rfl) (RL_at hjR)) (ev_var rfl) ?_) (ev_var rfl) (ev_var rfl) (by rw [RL_len]; exact hjR) fun H10 e10 => ?_
      · have h1 := hR.sz _ (List.mem_of_getElem? (rule_get hjR))
        have h2 : i < 63 := by
          have := (List.getElem?_eq_some_iff.mp hx).1
          rw [List.length_take] at this
          omega
        rw [sizeLine_eq]
        simp
        omega
      · refine ⟨R.set j (ruleOf R j ++ [n]), _, _, _, rfl, Ex.mut (eH.trans (e89.trans e10)) hq0, by rw [upd_same, RL_set], hR.set hnR, by rw [upd_ne hpq]; exact (e89.trans e10) _ _ hp, hpq⟩
    · rintro p σ' H' ⟨R, c, u, v, rfl, eH, hRq, hR, hp, hpq⟩
      have hR64 : HalfR R (mn : Int) 63 := ⟨hR.len, hR.lo, hR.hi, hR.rows, fun r hr => Nat.le_trans (hR.sz r hr) (by rw [List.length_take]; exact Nat.min_le_left _ _)⟩
      have hlt : R.length < sizeLine := by
        have := hR.len
        exact Nat.lt_of_le_of_lt (show R.length ≤ 26 by omega) (by decide)
      refine q_cut (M := fun σ' H' => ∃ q R c u v, σ' = [some (.ref a), some (.int (ns.sum % 4)), some (.int (mn : Int)), some (.ref q), c, u, v, none, none, none] ∧ Ex H H' ∧ H q = none ∧ H' q = some (.lst (RL R)) ∧ HalfR R (mn : Int) 64)
        (s_when (et_test (ev_op (ev_var rfl) ev_c (rv_eq rfl))) (fun _ H7 e7 => s_asgL (xs := RL (begun R)) ?_ fun p2 H8 hp2 e8 h8 => ⟨p2, begun R, c, u, v, rfl, (eH.trans e7).trans e8, fresh_back (eH.trans e7) hp2, h8, begun_half hR64⟩)
          fun _ H7 e7 => ⟨q, R, c, u, v, rfl, eH.trans e7, hq0, e7 _ _ hRq, ⟨hR.len, hR.lo, hR.hi, hR.rows, fun r hr => Nat.le_succ_of_le (hR64.sz r hr)⟩⟩) ?_
      · unfold RL begun
        rw [List.map_map]
        have w := wi_enum (K := K) (σ := ([some (.ref a), some (.int (ns.sum % 4)), some (.int (mn : Int)), some (.ref q), c, u, v, none, none, none] : L2.St)) (ta := tCons (tVar 3) tNil) (ea_one (ev_var rfl)) (sq_of (e7 _ _ hRq))
        rw [RL_len] at w
        refine el_any w _ hlt fun i x H1 H2 hi e1 y Q kk => ?_
        obtain ⟨Tt, x1, x2, rfl, hT, rfl, hu, hv⟩ := y
        cases hu
        have hv : (RL R)[i]? = some x2 := hv
        rw [RL_at hi] at hv
        cases hv
        have hlen := hR.len
        refine ⟨Tt, _, rfl, st_of upd_same, rfl, _, _, rfl, _, _, rfl, rfl, kk _ _ rfl (Ex.new hT) ?_⟩
        refine ev_addS (l := [i]) (ev_alphAt (n := i) ev_c (ev_var rfl) rfl (by omega)) (ev_var rfl) ?_
        have := hR64.sz _ (List.mem_of_getElem? (rule_get hi))
        rw [sizeLine_eq, List.length_singleton]
        show 1 + (ruleOf R i).length ≤ 16777216
        omega
      rintro _ H8 ⟨q8, R8, c8, u8, v8, rfl, e8, hq8, hRq8, hR8⟩
      refine q_cut (M := fun σ' H' => ∃ q R, σ'[3]? = some (some (.ref q)) ∧ Ex H H' ∧ H q = none ∧ H' q = some (.lst (RL R)) ∧ GoodR R)
        (s_when (et_test (ev_op (ev_mod (ev_div (hsum rfl e8) ev_c (by decide) (by decide)) ev_c (by decide)) ev_c (rv_eq rfl)))
          (fun _ H9 e9 => q_asg (ev_addI ev_c (ev_mod (ev_div (hsum rfl (e8.trans e9)) ev_c (by decide) (by decide)) ev_c (by decide))) fun H10 e10 => ?_)
          fun _ H9 e9 => ⟨q8, R8, rfl, e8.trans e9, hq8, e9 _ _ hRq8, hR8.good (by decide)⟩) ?_
      · have h0 : 0 ≤ ns.sum / 28 % 30 := Int.emod_nonneg _ (by decide)
        have h1 : ns.sum / 28 % 30 < 30 := Int.emod_lt_of_pos _ (by decide)
        have e910 := (e8.trans e9).trans e10
        refine s_asgL (xs := RL (again R8 (2 + ns.sum / 28 % 30).toNat)) ?_ fun p2 H11 hp2 e11 h11 => ⟨p2, _, rfl, e910.trans e11, fresh_back e910 hp2, h11, (again_half hR8 _).good (by decide)⟩
        unfold RL again
        rw [List.map_map]
        have hl8 : R8.length < sizeLine := by
          have := hR8.len
          exact Nat.lt_of_le_of_lt (show R8.length ≤ 26 by omega) (by decide)
        refine el_list (u := fun r => V.str (enc r)) (wi_list (ev_var rfl) (sq_of ((e9.trans e10) _ _ hRq8))) _ hl8 (fun _ => rfl) fun r hr H11 e11 => ?_
        have hz := hR8.sz r hr
        have hk : (2 + ns.sum / 28 % 30).toNat ≤ 31 := by omega
        have hp : r.length * (2 + ns.sum / 28 % 30).toNat ≤ 64 * 31 := Nat.mul_le_mul hz hk
        refine ev_take (i := 100) (ev_repS (ev_var rfl) (ev_var rfl) (mulOk_enc (by omega) (by omega) (by omega) (by omega))) (eo_some ev_c) (by decide) ?_
        rw [rep_len, sizeLine_eq]
        omega
      rintro σ9 H9 ⟨q9, R9, h3, e9, hq9, hRq9, hR9⟩
      exact s_ret (ev_var h3) fun H10 e10 => k q9 H10 R9 hq9 (e9.trans e10) (e10 _ _ hRq9) hR9
/-! ### a short row, the row grown once -/
theorem sc_lrow : FnScope ["_law_rules_here", "_law_script", "_law_cell"] ["_law_rules_here", "_law_script"] (defScope sLaw_row) := ⟨rfl, rfl, rfl, by decide +kernel, rfl, by decide +kernel, by decide +kernel⟩
def spLRow (K : PySem.W.Frag) : Sp := fun vs H Q _ => ∃ b a xs, ∃ ns : List Int, vs = [.ref b, .ref a] ∧ SqL K H b xs ∧ 1 ≤ xs.length ∧ xs.length ≤ 26 ∧ SqL K H a (ns.map V.int) ∧ ∀ r H2, Ex H H2 → RowOk xs.length r → r.length ≤ 5 → Q (.str (enc r)) H2
abbrev tRowEl (K : PySem.W.Frag) : TE := tOp rIxS tAl (tOp (rI (fun _ j => 0 < j) fun i j => .int (i % j)) (tOp (rI CDiv fun i j => .int (i / j)) (tVar 2) (tC (.int 5))) (tLen K (tVar 0)))
theorem ok_lrow (X : T K mg) : C8.Cal P w K mg base 1 "_law_row" (spLRow K) [] := by
  refine cal_of X.d_law_row sc_lrow (fun _ _ _ _ _ _ us hl => match us, hl with | [_, _], _ => rfl) (fun vs H Q E h => ?_) (fun f cdv A outer s H vs Q E hr h => ?_)
  · obtain ⟨b, a, xs, ns, rfl, _⟩ := h
    rfl
  · obtain ⟨b, a, xs, ns, rfl, hx, h1, h26, hS, k⟩ := h
    have nd := sc_lrow.nd
    refine ⟨_, pss_one (ps_ret (pe_join pe_empty (pe_lc (own := [("_law_cell", 2)]) (g := gName 2) (tt := tYes) (te := tRowEl K) (by rfl) nd (pi_list (pe_slice sl_list (pv 1) po_none (po_some pe_int))) (blkOk_by (N := ["_law_rules_here", "_law_script", "_law_cell"]) (sc := defScope sLaw_row) (by decide +kernel))
      (fun _ _ _ _ _ => pg_name (i := 2) nd rfl (Or.inl rfl)) (fun _ _ _ _ _ => pts_nil)
      (fun _ _ _ _ _ => pe_ix ix_str pe_alph (pe_op op_mod (pe_op op_fdiv (pv 2) pe_int) (pe_len X.z_len (pv 0))) (fun _ _ => rfl))))), ?_⟩
    have hk : (0 : Int) < (xs.length : Int) := by omega
    refine s_ret (ev_join (K := K) (ls := (ns.take 5).map fun z => [(z / 5 % (xs.length : Int)).toNat]) ev_c ?_ ?_) fun H2 e2 => k _ H2 e2 ?_ ?_
    · rw [List.map_map]
      have w := wi_listN (K := K) (el_take (K := K) (σ := L2.start ["_law_rules_here", "_law_script", "_law_cell"] [V.ref b, V.ref a]) (te := tVar 1) (th := tPart (tC (.int 5))) (n := 5) (ev_var rfl) (eo_some ev_c) hS)
      rw [← List.map_take] at w
      refine el_list (u := V.int) w _ (Nat.lt_of_le_of_lt (show (ns.take 5).length ≤ 5 by rw [List.length_take]; exact Nat.min_le_left _ _) (by decide)) (fun _ => rfl) fun z hz H1 e1 => ?_
      have h0 : 0 ≤ z / 5 % (xs.length : Int) := Int.emod_nonneg _ (by omega)
      have h2 : z / 5 % (xs.length : Int) < (xs.length : Int) := Int.emod_lt_of_pos _ hk
      exact ev_alphAt (n := (z / 5 % (xs.length : Int)).toNat) ev_c (ev_mod (ev_div (ev_var rfl) ev_c (by decide) (by decide)) (ev_len (ev_var rfl) (ex_l e1 hx)) hk) (Int.toNat_of_nonneg h0).symm (by omega)
    · rw [List.length_flatten, List.map_map]
      have : ((ns.take 5).map (List.length ∘ fun z => [(z / 5 % (xs.length : Int)).toNat])).sum = (ns.take 5).length := by
        generalize ns.take 5 = l
        induction l with
        | nil => rfl
        | cons a l ih => rw [List.map_cons, List.sum_cons, ih, List.length_cons]; show 1 + l.length = l.length + 1; omega
      rw [this, List.length_take]
      omega
    · intro n hn
      obtain ⟨l, hl, hn⟩ := List.mem_flatten.mp hn
      obtain ⟨z, _, rfl⟩ := List.mem_map.mp hl
      have h0 : 0 ≤ z / 5 % (xs.length : Int) := Int.emod_nonneg _ (by omega)
      have h2 : z / 5 % (xs.length : Int) < (xs.length : Int) := Int.emod_lt_of_pos _ hk
      rw [List.mem_singleton.mp hn]
      omega
    · rw [List.length_flatten, List.map_map]
      have : ((ns.take 5).map (List.length ∘ fun z => [(z / 5 % (xs.length : Int)).toNat])).sum = (ns.take 5).length := by
        generalize ns.take 5 = l
        induction l with
        | nil => rfl
        | cons a l ih => rw [List.map_cons, List.sum_cons, ih, List.length_cons]; show 1 + l.length = l.length + 1; omega
      rw [this, List.length_take]
      omega
theorem sc_lonce : FnScope ["_law_rules_here", "_law_row_here", "_law_sign"] ["_law_rules_here", "_law_row_here"] (defScope sLaw_once) := ⟨rfl, rfl, rfl, by decide +kernel, rfl, by decide +kernel, by decide +kernel⟩
def preLOnce (K : PySem.W.Frag) : List V → Hp → V → Prop := fun vs H v => ∃ a R r, vs = [.ref a, .str (enc r)] ∧ SqL K H a (RL R) ∧ R.length ≤ 26 ∧ RowOk R.length r ∧ r.length < sizeLine ∧ (once R r).length ≤ 16777216 ∧ v = .str (enc (once R r))
theorem ok_lonce (X : T K mg) : C8.Cal P w K mg base 1 "_law_once" (spV (preLOnce K)) [] := by
  refine cal_of X.d_law_once sc_lonce (fun _ _ _ _ _ _ us hl => match us, hl with | [_, _], _ => rfl) (fun vs H Q E h => ?_) (fun f cdv A outer s H vs Q E hr h => ?_)
  · obtain ⟨v, ⟨a, R, r, rfl, _⟩, _⟩ := h
    rfl
  · obtain ⟨v, ⟨a, R, r, rfl, hR, h26, hr, hl, hz, rfl⟩, k⟩ := h
    refine ⟨_, pss_one (ps_ret (pe_join pe_empty (pe_lc (own := [("_law_sign", 2)]) (g := gName 2) (tt := tYes) (te := tOp (rIxL K) (tVar 0) (tIdx K (tVar 2))) (by rfl) sc_lonce.nd (pi_str (pv 1)) (blkOk_by (N := ["_law_rules_here", "_law_row_here", "_law_sign"]) (sc := defScope sLaw_once) (by decide +kernel))
      (fun _ _ _ _ _ => pg_name (i := 2) sc_lonce.nd rfl (Or.inl rfl)) (fun _ _ _ _ _ => pts_nil)
      (fun _ _ _ _ _ => pe_ix ix_list (pv 0) (pe_idx pe_alph (pv 2)) (fun _ _ => rfl))))), ?_⟩
    refine s_ret (ev_join (K := K) (ls := r.map (ruleOf R)) ev_c ?_ hz) k
    rw [List.map_map]
    exact el_str (K := K) (ev_var rfl) _ hl (fun _ => rfl) fun n hn H1 e1 => ev_ix (ev_var rfl) (ex_l e1 hR) (tidx rfl (Nat.lt_of_lt_of_le (hr n hn) h26)) (RL_at (hr n hn))
theorem ex_lr {σ : L2.St} {H : Hp} {te : TE} {E : XK} {a : Addr} {ns : List Int} (h : Ev te σ H (.ref a)) (hs : SqL K H a (ns.map V.int)) (hn : ns.length ≤ 63) : EvX (tCall (spLR K) [] E (tCons te tNil)) σ H GoodR := fun H1 e Q q =>
  h H1 e _ fun H2 e2 => by
    show spLR K [V.ref a] H2 Q E
    exact ⟨a, ns, rfl, ex_l (e.trans e2) hs, hn, fun p H3 R hp e3 h3 hR => q p H3 R (fresh_back e2 hp) (e2.trans e3) h3 hR⟩
theorem ex_lrN {σ : L2.St} {H : Hp} {te : TE} {E : XK} {ns : List Int} (h : EvL te σ H (ns.map V.int)) (hn : ns.length ≤ 63) : EvX (tCall (spLR K) [] E (tCons te tNil)) σ H GoodR := fun H1 e Q q =>
  h H1 e _ fun a H2 _ e2 h2 => by
    show spLR K [V.ref a] H2 Q E
    exact ⟨a, ns, rfl, sq_of h2, hn, fun p H3 R hp e3 h3 hR => q p H3 R (fresh_back e2 hp) (e2.trans e3) h3 hR⟩
theorem s_asgRow {σ : L2.St} {H : Hp} {D : Ends} {ta tb : TE} {tz : TS} {E : XK} {i : Nat} {b a : Addr} {xs : List V} {ns : List Int} (ha : Ev ta σ H (.ref b)) (hb : Ev tb σ H (.ref a)) (hx : SqL K H b xs) (h1 : 1 ≤ xs.length) (h26 : xs.length ≤ 26) (hs : SqL K H a (ns.map V.int))
    (k : ∀ r H1, Ex H H1 → RowOk xs.length r → r.length ≤ 5 → tz D (σ.set i (some (.str (enc r)))) H1) : tSeq (tAsg (tCall (spLRow K) [] E (tCons ta (tCons tb tNil))) (gName i)) tz D σ H := ha H (Ex.refl H) _ fun H1 e1 => hb H1 e1 _ fun H2 e2 => by
    show spLRow K [V.ref b, V.ref a] H2 (fun x H1 => tz D (σ.set i (some x)) H1) E
    exact ⟨b, a, xs, ns, rfl, ex_l (e1.trans e2) hx, h1, h26, ex_l (e1.trans e2) hs, fun r H3 e3 h1 h2 => k r H3 ((e1.trans e2).trans e3) h1 h2⟩
theorem GoodR.rat {H : Hp} {a : Addr} {R : GRules} (h : GoodR R) (hs : SqL K H a (RL R)) : RAt K H a R := ⟨hs, h.ok, fun r hr => Nat.le_trans (h.sz r hr) (by decide)⟩
end
end Gw

namespace Gw
open PySem PySem.Spec PyProof.Rows L2 Evl
theorem ev_ixRow {σ : L2.St} {H : Hp} {ta tb : TE} {l : GRow} {m x : Nat} (ha : Ev ta σ H (.str (enc l))) (hb : Ev tb σ H (.int (m : Int))) (hx : l[m]? = some x) (hz : l.length ≤ 100000) : Ev (tOp rIxS ta tb) σ H (.str (sg x)) :=
  ev_op ha hb (rv_ixS (by rw [enc_len]; exact hz) (atI_nat (by simp [enc, cd, hx])))
theorem counted_none (R : GRules) : (counted R.length []).map V.int = R.map fun _ => V.int 0 := by
  apply List.ext_getElem?
  intro i
  rw [List.getElem?_map, List.getElem?_map]
  by_cases hi : i < R.length
  · rw [counted_get hi, List.getElem?_eq_getElem hi]
    rfl
  · rw [List.getElem?_eq_none (by rw [counted_length]; omega), List.getElem?_eq_none (by omega)]
    rfl
theorem rg_ok {a L : Nat} (ha : a < 3) (hL : L < 400) : ∃ n, RgC (a : Int) (L : Int) (1 + (L : Int) / 2) n ∧ ∀ i, i < n → ∃ m : Nat, (a : Int) + (i : Int) * (1 + (L : Int) / 2) = (m : Int) ∧ m < L := by
  have z : ∀ a : Nat, a < 3 → ∀ L : Nat, L < 400 → (let c : Int := 1 + (L : Int) / 2
      let n := (Builtin.Range.rangeSize (a : Int) (L : Int) c).toNat
      decide (c ≠ 0) && decide (c.natAbs < 1073741824) && Builtin.Range.small (a : Int) (L : Int) c && decide (Builtin.Range.rangeSize (a : Int) (L : Int) c = (n : Int)) && (List.range n).all fun i => decide (a + i * (1 + L / 2) < L)) = true := by decide +kernel
  have h := z a ha L hL
  simp only [Bool.and_eq_true, decide_eq_true_eq, List.all_eq_true] at h
  obtain ⟨⟨⟨⟨h1, h2⟩, h3⟩, h4⟩, h5⟩ := h
  refine ⟨_, ⟨h1, h2, h3, h4⟩, fun i hi => ⟨a + i * (1 + L / 2), ?_, h5 i (List.mem_range.mpr hi)⟩⟩
  rw [Int.natCast_add, Int.natCast_mul, Int.natCast_add]
  rfl
section
variable {P : Program} {w : World} {K : PySem.W.Frag} {mg : Str → Option Value} {base : Heap}
def preLNumbers (K : PySem.W.Frag) : List V → Hp → V → Prop := fun vs H v => ∃ a, ∃ ns : List Int, vs = [.ref a] ∧ SqL K H a (ns.map V.int) ∧ ns.length < sizeLine ∧ v = .bl true
end
end Gw

namespace Gw
open PySem PySem.Spec PyProof.Rows L2 Evl
section
variable {P : Program} {w : World} {K : PySem.W.Frag} {mg : Str → Option Value} {base : Heap}
abbrev nAt : List Str := ["_law_rules_here", "_law_row_here", "_law_times", "_law_place", "_law_left", "_law_sign", "_law_part", "_law_inner"]
theorem sc_lat : FnScope nAt ["_law_rules_here", "_law_row_here", "_law_times", "_law_place"] (defScope sLaw_at) := ⟨rfl, rfl, rfl, by decide +kernel, rfl, by decide +kernel, by decide +kernel⟩
theorem one_ok {k n : Nat} (h : n < k) : RowOk k [n] := fun m hm => by
  rw [List.mem_singleton.mp hm]
  exact h
theorem ok_lat (X : T K mg) : C8.Cal P w K mg base 5 "_law_at" (spV (preLetter K)) [] := by
  refine cal_of X.d_law_at sc_lat (fun _ _ _ _ _ _ us hl => match us, hl with | [_, _, _, _], _ => rfl) (fun vs H Q E h => ?_) (fun f cdv A outer s H vs Q E hr h => ?_)
  · obtain ⟨v, ⟨a, R, r, x, t, m, rfl, _⟩, _⟩ := h
    rfl
  · obtain ⟨v, ⟨a, R, r, x, t, m, rfl, hA, hx, rfl⟩, k⟩ := h
    have nd := sc_lat.nd
    refine ⟨_, (pss_cons (ps_set (i := 4) nd rfl (Or.inl rfl) (pv 3))
      (pss_cons (ps_for PassesOwn.never rfl (pi_str (pv 1)) (pg_name (i := 5) nd rfl (Or.inl rfl))
        (pss_cons (ps_set (i := 6) nd rfl (Or.inl rfl) (C8.pe_c (ok_length X) hr (by decide) rfl (pa_cons (pv 0) (pa_cons (pv 5) (pa_cons (pv 2) pa_nil)))))
      (pss_cons (ps_if (pt_cmpR op_lt (pv 4) (pv 6) (nomark _))
          (pss_cons (ps_set (i := 7) nd rfl (Or.inl rfl) (pe_ix ix_list (pv 0) (pe_idx pe_alph (pv 5)) (fun _ _ => rfl)))
      (pss_one (ps_ret (pe_ifExp (pt_cmpR op_gt (pv 2) pe_int (nomark _)) (C8.pe_c (ok_letter X) hr (by decide) rfl (pa_cons (pv 0) (pa_cons (pv 7) (pa_cons (pe_op op_sub (pv 2) pe_int) (pa_cons (pv 4) pa_nil))))) (pv 5))))) pss_nil)
      (pss_one (ps_set (i := 4) nd rfl (Or.inl rfl) (pe_op op_sub (pv 4) (pv 6)))))))
      (pss_one (ps_ret pe_empty)))), ?_⟩
    have ok := hA.rules.ok
    have h26 := ok.few
    have hm : m < (grow R t r).length := (List.getElem?_eq_some_iff.mp hx).1
    refine q_asg (ev_var rfl) fun H1 e1 => ?_
    refine q_forF (wf_str (l := r) (ev_var rfl)) (fun j σ' H' => ∃ l : Nat, ∃ u5 u6 u7, σ' = [some (.ref a), some (.str (enc r)), some (.int (t : Int)), some (.int (m : Int)), some (.int (l : Int)), u5, u6, u7] ∧ Ex H H' ∧ (grow R t (r.take j)).length + l = m)
      (fun H2 e2 => ⟨m, none, none, none, rfl, e1.trans e2, by rw [List.take_zero, grow_nil]; exact Nat.zero_add m⟩) ?_ ?_
    · rintro j σ' H2 hj ⟨l, u5, u6, u7, rfl, eH, hl⟩
      have hn : r[j]? = some (r.getD j 0) := by
        rw [List.getElem?_eq_getElem hj]
        simp [hj]
      generalize r.getD j 0 = n at hn
      have hnR : n < R.length := hA.row.get hn
      have hn26 : n < 26 := Nat.lt_of_lt_of_le hnR h26
      refine q_asg (v := .int ((grow R t [n]).length : Int)) (ev_spV (ea_three (ev_var rfl) (ev_var rfl) (ev_var rfl)) fun H3 e3 => ⟨a, R, [n], t, rfl, ⟨hA.rules.ex (eH.trans e3), one_ok hnR, by show 1 < sizeLine; decide, hA.times⟩, rfl⟩) fun H3 e3 => ?_
      have hsp : (grow R t r)= grow R t (r.take j) ++ (grow R t [n] ++ grow R t (r.drop (j + 1))) := by
        rw [← grow_append, ← grow_append]
        exact congrArg _ (split_at hn)
      by_cases hlt : l < (grow R t [n]).length
      · have hgx : (grow R t [n])[l]? = some x := by
          rw [hsp, ← hl, List.getElem?_append_right (Nat.le_add_right _ _), Nat.add_sub_cancel_left, List.getElem?_append_left hlt] at hx
          exact hx
        refine q_when (b := true) (et_is (et_test (ev_op (ev_var rfl) (ev_var rfl) rv_I0)) (by simp; omega)) (fun _ H4 e4 => ?_) fun hb => absurd hb (by decide)
        have e24 := e3.trans e4
        refine q_asg (v := .str (enc (ruleOf R n))) (ev_ix (n := n) (ev_var rfl) (hA.rules.ex (eH.trans e24)).at_ (tidx rfl hn26) (RL_at hnR)) fun H5 e5 => ?_
        have e25 := eH.trans (e24.trans e5)
        cases t with
        | zero =>
          have : x = n := by
            have h0 : l < 1 := hlt
            have h1 : l = 0 := by omega
            subst h1
            exact (Option.some.inj hgx).symm
          subst this
          exact s_ret (ev_if (b := false) (et_is (et_test (ev_op (ev_var rfl) ev_c rv_I0)) rfl) (fun hb => absurd hb (by decide)) fun _ => ev_var rfl) fun H6 e6 => k H6 (e25.trans e6)
        | succ t =>
          refine s_ret (ev_if (b := true) (et_is (et_test (ev_op (ev_var rfl) ev_c rv_I0)) (by simp)) (fun _ => ?_) fun hb => absurd hb (by decide)) fun H6 e6 => k H6 (e25.trans e6)
          refine ev_spV (ea_cons (ev_var rfl) (ea_three (ev_var rfl) (ev_is (ev_subI (i := ((t + 1 : Nat) : Int)) (j := 1) (ev_var rfl) ev_c) (show V.int (((t + 1 : Nat) : Int) - 1) = V.int (t : Int) from congrArg V.int (by omega))) (ev_var rfl))) fun H6 e6 => ⟨a, R, ruleOf R n, x, t, l, rfl, ⟨hA.rules.ex (e25.trans e6), rule_ok ok n, Nat.lt_of_le_of_lt (hA.rules.sz _ (List.mem_of_getElem? (rule_get hnR))) (by decide), by have := hA.times; omega⟩, ?_, rfl⟩
          have e : grow R (t + 1) [n] = grow R t (once R [n]) := rfl
          rw [e, once_one] at hgx
          exact hgx
      · refine q_skip (et_is (et_test (ev_op (ev_var rfl) (ev_var rfl) rv_I0)) (by simp; omega)) fun H4 e4 => ?_
        refine s_asg (v := .int ((l - (grow R t [n]).length : Nat) : Int)) (ev_is (ev_subI (ev_var rfl) (ev_var rfl)) (congrArg V.int (by omega))) fun H5 e5 => ⟨_, _, _, _, rfl, eH.trans (e3.trans (e4.trans e5)), ?_⟩
        rw [take_snoc hn, grow_append, List.length_append]
        omega
    · rintro σ' H2 ⟨l, u5, u6, u7, rfl, eH, hl⟩
      rw [List.take_length] at hl
      omega
end
end Gw

namespace Gw
open PySem PySem.Spec PyProof.Rows L2 Evl
theorem grow_letters (R : GRules) (t : Nat) : ∀ r : GRow, (r.map fun n => ((grow R t [n]).length : Int)).sum = ((grow R t r).length : Int)
  | [] => by rw [grow_nil]; rfl
  | n :: r => by
    have e : grow R t (n :: r) = grow R t [n] ++ grow R t r := grow_append R t [n] r
    rw [List.map_cons, List.sum_cons, grow_letters R t r, e, List.length_append, Int.natCast_add]
section
variable {P : Program} {w : World} {K : PySem.W.Frag} {mg : Str → Option Value} {base : Heap}
abbrev nLaw : List Str := ["_law_script", "_law_rules_here", "_law_row_here", "_law_mixed", "_law_long", "_law_times", "_law_told", "_law_places", "_law_cell", "_law_place", "_law_sign", "_law_ahead", "_law_more", "_law_at_here", "_law_due", "_law_rule", "_law_k"]
theorem sc_law : FnScope nLaw ["_law_script"] (defScope sLaw) := ⟨rfl, rfl, rfl, by decide +kernel, rfl, by decide +kernel, by decide +kernel⟩
def spLaw (K : PySem.W.Frag) : Sp := fun vs H Q _ => ∃ a, ∃ ns : List Int, vs = [.ref a] ∧ SqL K H a (ns.map V.int) ∧ ns.length ≤ 63 ∧ ∀ H', Q (.bl true) H'
abbrev tLenCall (K : PySem.W.Frag) : TE := tCall (spV (preLength K)) [] E0 (tCons (tVar 1) (tCons (tVar 10) (tCons (tVar 5) tNil)))
abbrev tDiff (K : PySem.W.Frag) : TE := tOp (rI0 fun i j => .int (i - j)) (tOp (rIxL K) (tVar 12) (tVar 16)) (tOp (rIxL K) (tVar 11) (tVar 16))
abbrev tDue : TE := tIf (tTest (tOp rEq (tVar 16) (tVar 13))) (tC (.int 1)) (tC (.int 0))
def dueOf (n x : Nat) : List Int := (List.range n).map fun i => if i = x then 1 else 0
theorem ok_law (X : T K mg) {f : Addr} {fd : FuncData} (F : FunD K "law" "law" (defArgs sLaw) (defBody sLaw) (defScope sLaw) [] [] f fd) : FnOk P w K mg base CX0 6 f fd ["_law_script"] (spLaw K) := by
  refine fn_ok F sc_law (fun vs H Q E h => ?_) (fun cdv A outer s H vs Q E hr h => ?_)
  · obtain ⟨a, ns, rfl, _⟩ := h
    rfl
  · obtain ⟨sa, ns, rfl, hS, hns, k⟩ := h
    have nd := sc_law.nd
    refine ⟨_, (pss_cons (ps_set (i := 1) nd rfl (Or.inr rfl) (C8.pe_c (ok_lr X) hr (by decide) rfl (pa_cons (pv 0) pa_nil)))
      (pss_cons (ps_set (i := 2) nd rfl (Or.inl rfl) (C8.pe_c (ok_lrow X) hr (by decide) rfl (pa_cons (pv 1) (pa_cons (pv 0) pa_nil))))
      (pss_cons (ps_set (i := 3) nd rfl (Or.inl rfl) (pe_sum rfl X.z_sum (pv 0)))
      (pss_cons (ps_set (i := 4) nd rfl (Or.inl rfl) (pe_sum rfl X.z_sum (pe_lc (own := [("_law_rule", 15)]) (g := gName 15) (tt := tYes) (te := tLenT (tVar 15)) (by rfl) nd (pi_list (pv 1)) (blkOk_by (N := nLaw) (sc := defScope sLaw) (by decide +kernel))
            (fun _ _ _ _ _ => pg_name (i := 15) nd rfl (Or.inl rfl)) (fun _ _ _ _ _ => pts_nil) (fun _ _ _ _ _ => pe_lenT X.z_len (pv 15)))))
      (pss_cons (ps_set (i := 5) nd rfl (Or.inr rfl) (pe_ifExp (PW.pt (pw_and (pt_cmpR op_lt (pe_len X.z_len (pv 1)) pe_int (nomark _)) (pw_and (pt_cmpR op_lt (pv 4) pe_int (nomark _)) (pw_and1 (pt_cmpR op_eq (pe_op op_mod (pe_op op_fdiv (pv 3) pe_int) pe_int) pe_int (nomark _)))))) pe_int (pe_op op_add pe_int (pe_op op_mod (pe_op op_fdiv (pv 3) pe_int) pe_int))))
      (pss_cut (ps_if (PW.pt (pw_or (pt_cmpR op_gt (pe_len X.z_len (pv 1)) pe_int (nomark _)) (pw_or1 (pt_cmpR op_gt (pv 4) pe_int (nomark _)))))
          (pss_one (ps_set (i := 5) nd rfl (Or.inr rfl) (pe_op op_add pe_int (pe_op op_mod (pe_op op_fdiv (pv 3) pe_int) pe_int)))) pss_nil)
      (pss_cons (ps_set (i := 6) nd rfl (Or.inl rfl) (C8.pe_c (ok_length X) hr (by decide) rfl (pa_cons (pv 1) (pa_cons (pv 2) (pa_cons (pv 5) pa_nil)))))
      (pss_cons (ps_if (PW.pt (pw_or (pt_val (pe_isi X.z_isinstance X.z_bool boot_bool (pv 6))) (pw_or1 (pt_cmpR op_ne (pv 6) (C8.pe_c (ok_length X) hr (by decide) rfl (pa_cons (pv 1) (pa_cons (C8.pe_c (ok_lonce X) hr (by decide) rfl (pa_cons (pv 1) (pa_cons (pv 2) pa_nil))) (pa_cons (pe_op op_sub (pv 5) pe_int) pa_nil)))) (nomark _))))) (pss_one (ps_ret pe_bl)) pss_nil)
      (pss_cons (ps_if (PW.pt (pw_or (pt_cmpR op_ne (pv 6) (pe_sum rfl X.z_sum (C8.pe_c (ok_counts X) hr (by decide) rfl (pa_cons (pv 1) (pa_cons (pv 2) (pa_cons (pv 5) pa_nil))))) (nomark _))
            (pw_or1 (pt_cmpR op_ne (pv 6) (pe_sum rfl X.z_sum (pe_lc (own := [("_law_sign", 10)]) (g := gName 10) (tt := tYes) (te := tLenCall K) (by rfl) nd (pi_str (pv 2)) (blkOk_by (N := nLaw) (sc := defScope sLaw) (by decide +kernel))
              (fun _ _ _ _ _ => pg_name (i := 10) nd rfl (Or.inl rfl)) (fun _ _ _ _ _ => pts_nil) (fun _ _ _ _ _ => C8.pe_c (ok_length X) hr (by decide) rfl (pa_cons (pv 1) (pa_cons (pv 10) (pa_cons (pv 5) pa_nil)))))) (nomark _))))) (pss_one (ps_ret pe_bl)) pss_nil)
      (pss_cons (ps_if (pt_cmpR op_eq (pv 6) pe_int (nomark _)) (pss_one (ps_ret (pe_cmpR (op_eqD hr.units) (C8.pe_c (ok_first X) hr (by decide) rfl (pa_cons (pv 1) (pa_cons (pv 2) (pa_cons (pv 5) (pa_cons pe_int pa_nil))))) (pe_lc (own := [("_law_rule", 15)]) (g := gName 15) (tt := tYes) (te := tC (.int 0)) (by rfl) nd (pi_list (pv 1)) (blkOk_by (N := nLaw) (sc := defScope sLaw) (by decide +kernel))
            (fun _ _ _ _ _ => pg_name (i := 15) nd rfl (Or.inl rfl)) (fun _ _ _ _ _ => pts_nil) (fun _ _ _ _ _ => pe_int)) (nomark _)))) pss_nil)
      (pss_cons (ps_set (i := 7) nd rfl (Or.inl rfl) (pe_lst (pa_cons pe_int (pa_cons (pe_op op_sub (pv 6) pe_int) pa_nil))))
      (pss_cons (ps_for PassesOwn.never rfl (pi_list (pe_slice sl_list (pv 0) po_none (po_some pe_int))) (pg_name (i := 8) nd rfl (Or.inl rfl))
        (pss_one (ps_expr (pe_app (pv 7) (pe_op op_mod (pe_op op_add (pe_op op_mul (pv 8) (pe_op op_pow pe_int pe_int)) (pv 3)) (pv 6))))))
      (pss_cons (ps_for PassesOwn.never rfl (pi_list (pv 7)) (pg_name (i := 9) nd rfl (Or.inl rfl))
        (pss_cons (ps_set (i := 10) nd rfl (Or.inl rfl) (C8.pe_c (ok_letter X) hr (by decide) rfl (pa_cons (pv 1) (pa_cons (pv 2) (pa_cons (pv 5) (pa_cons (pv 9) pa_nil))))))
      (pss_cons (ps_if (pt_cmpR op_ne (pv 10) (C8.pe_c (ok_lat X) hr (by decide) rfl (pa_cons (pv 1) (pa_cons (pv 2) (pa_cons (pv 5) (pa_cons (pv 9) pa_nil))))) (nomark _)) (pss_one (ps_ret pe_bl)) pss_nil)
      (pss_cons (ps_set (i := 11) nd rfl (Or.inr rfl) (C8.pe_c (ok_first X) hr (by decide) rfl (pa_cons (pv 1) (pa_cons (pv 2) (pa_cons (pv 5) (pa_cons (pv 9) pa_nil))))))
      (pss_cons (ps_set (i := 12) nd rfl (Or.inr rfl) (C8.pe_c (ok_first X) hr (by decide) rfl (pa_cons (pv 1) (pa_cons (pv 2) (pa_cons (pv 5) (pa_cons (pe_op op_add (pv 9) pe_int) pa_nil))))))
      (pss_cons (ps_set (i := 13) nd rfl (Or.inr rfl) (pe_idx pe_alph (pv 10)))
      (pss_cons (ps_setLc (i := 14) (own := [("_law_k", 16)]) (g := gName 16) (tt := tYes) (te := tDue) rfl nd rfl rfl (sw_true rfl rfl rfl (by decide +kernel)) (pi_range1 rfl X.z_range (pa_cons (pe_len X.z_len (pv 1)) pa_nil)) (blkOk_by (N := nLaw) (sc := defScope sLaw) (by decide +kernel))
            (fun _ _ _ _ _ => pg_name (i := 16) nd rfl (Or.inl rfl)) (fun _ _ _ _ _ => pts_nil) (fun _ _ _ _ _ => pe_ifExp (pt_cmpR op_eq (pv 16) (pv 13) (nomark _)) pe_int pe_int))
      (pss_one (ps_if (PW.pt (pw_or (pt_cmpR op_ne (pe_sum rfl X.z_sum (pv 11)) (pv 9) (nomark _))
            (pw_or1 (pt_cmpR (op_neD hr.units) (pe_lc (own := [("_law_k", 16)]) (g := gName 16) (tt := tYes) (te := tDiff K) (by rfl) nd (pi_range1 rfl X.z_range (pa_cons (pe_len X.z_len (pv 1)) pa_nil)) (blkOk_by (N := nLaw) (sc := defScope sLaw) (by decide +kernel))
              (fun _ _ _ _ _ => pg_name (i := 16) nd rfl (Or.inl rfl)) (fun _ _ _ _ _ => pts_nil) (fun _ _ _ _ _ => pe_op op_sub (pe_ix ix_list (pv 12) (pv 16) (fun _ _ => rfl)) (pe_ix ix_list (pv 11) (pv 16) (fun _ _ => rfl)))) (pv 14) (nomark _))))) (pss_one (ps_ret pe_bl)) pss_nil)))))))))
      (pss_one (ps_ret (pe_cmpR (op_eqD hr.units) (C8.pe_c (ok_first X) hr (by decide) rfl (pa_cons (pv 1) (pa_cons (pv 2) (pa_cons (pv 5) (pa_cons (pv 6) pa_nil))))) (C8.pe_c (ok_counts X) hr (by decide) rfl (pa_cons (pv 1) (pa_cons (pv 2) (pa_cons (pv 5) pa_nil)))) (nomark _))))))))))))))))), ?_⟩
    -- the rules, the row
    refine s_asgX (ex_lr (ev_var rfl) hS hns) fun p1 H1 R hp1 e1 h1 hR => ?_
    have hn1 := hR.ok.pos
    have hn26 := hR.ok.few
    refine s_asgRow (xs := RL R) (ns := ns) (ev_var rfl) (ev_var rfl) (sq_of h1) (by rw [RL_len]; exact hn1) (by rw [RL_len]; exact hn26) (ex_l e1 hS) fun r H2 e2 hr5 hrl => ?_
    rw [RL_len] at hr5
    have hS := ex_l (e1.trans e2) hS
    have h1 := e2 _ _ h1
    have o1 : ∀ {H' : Hp}, Ex H2 H' → RAt K H' p1 R := fun e => hR.rat (sq_of (e _ _ h1))
    have rz : r.length < sizeLine := Nat.lt_of_le_of_lt hrl (by decide)
    refine q_asg (ev_sum (ev_var rfl) hS) fun H3 e3 => ?_
    have hmx : EvL (tLc (iList K (tVar 1)) (gName 15) tYes (tLenT (tVar 15)) [15]) ([some (.ref sa), some (.ref p1), some (.str (enc r)), some (.int ns.sum), none, none, none, none, none, none, none, none, none, none, none, none, none] : L2.St) H3 ((R.map fun r => (r.length : Int)).map V.int) := by
      rw [List.map_map]
      refine el_list (u := fun r => V.str (enc r)) (wi_list (ev_var rfl) (o1 e3).at_) _ (Nat.lt_of_le_of_lt hn26 (by decide)) (fun _ => rfl) fun q hq H11 e11 => ?_
      exact ev_lenE (ev_var rfl) (Nat.le_trans (hR.sz q hq) (by decide))
    refine q_asg (ev_sumN hmx) fun H4 e4 => ?_
    have e24 := e3.trans e4
    generalize (R.map fun r => (r.length : Int)).sum = L
    have lenR : ∀ {σ : L2.St} {H' : Hp}, σ[1]? = some (some (.ref p1)) → Ex H2 H' → Ev (tLen K (tVar 1)) σ H' (.int (R.length : Int)) := fun h e => ev_is (ev_len (ev_var h) (o1 e).at_) (by rw [RL_len])
    -- times
    obtain ⟨B, hB⟩ : ∃ B, B = (decide ((R.length : Int) < 5) && (decide (L < 70) && decide (V.int (ns.sum / 36 % 5) = V.int 1))) := ⟨_, rfl⟩
    have m0 : 0 ≤ ns.sum / 36 % 12 := Int.emod_nonneg _ (by decide)
    have m1 : ns.sum / 36 % 12 < 12 := Int.emod_lt_of_pos _ (by decide)
    have n0 : 0 ≤ ns.sum / 504 % 4 := Int.emod_nonneg _ (by decide)
    have n1 : ns.sum / 504 % 4 < 4 := Int.emod_lt_of_pos _ (by decide)
    obtain ⟨t0, ht0, hlo, hhi⟩ : ∃ t0 : Nat, (if B = true then 60 else 1 + ns.sum / 36 % 12) = (t0 : Int) ∧ 1 ≤ t0 ∧ t0 ≤ 60 := by
      by_cases hb : B = true
      · rw [if_pos hb]
        exact ⟨60, rfl, by decide, by decide⟩
      · rw [if_neg hb]
        exact ⟨(1 + ns.sum / 36 % 12).toNat, by omega, by omega, by omega⟩
    refine q_asg (v := .int (t0 : Int)) (ev_if (b := B) (et_is (et_and (et_test (ev_op (lenR rfl e24) ev_c rv_I0)) fun _ => et_and (et_test (ev_op (ev_var rfl) ev_c rv_I0)) fun _ => et_test (ev_op (ev_mod (ev_div (ev_var rfl) ev_c (by decide) (by decide)) ev_c (by decide)) ev_c (rv_eq rfl))) hB.symm)
      (fun hb => ev_is ev_c (by rw [← ht0, if_pos hb])) (fun hb => ev_is (ev_addI ev_c (ev_mod (ev_div (ev_var rfl) ev_c (by decide) (by decide)) ev_c (by decide))) (by rw [← ht0, if_neg (by rw [hb]; decide)]))) fun H5 e5 => ?_
    have e25 := e24.trans e5
    refine q_cut (M := fun σ' H' => ∃ t : Nat, σ' = [some (.ref sa), some (.ref p1), some (.str (enc r)), some (.int ns.sum), some (.int L), some (.int ((t + 1 : Nat) : Int)), none, none, none, none, none, none, none, none, none, none, none] ∧ Ex H2 H' ∧ t + 1 ≤ 60)
      (s_when (et_or (et_test (ev_op (lenR rfl e25) ev_c rv_I0)) fun _ => et_test (ev_op (ev_var rfl) ev_c rv_I0))
        (fun _ H6 e6 => s_asg (v := .int (((ns.sum / 504 % 4).toNat + 1 : Nat) : Int)) (ev_is (ev_addI ev_c (ev_mod (ev_div (ev_var rfl) ev_c (by decide) (by decide)) ev_c (by decide))) (congrArg V.int (by omega))) fun H7 e7 => ⟨_, rfl, e25.trans (e6.trans e7), by omega⟩)
        fun _ H6 e6 => ⟨t0 - 1, by rw [Nat.sub_add_cancel hlo]; rfl, e25.trans e6, by omega⟩) ?_
    rintro _ H6 ⟨t, rfl, e6, ht60⟩
    have asked : ∀ {H' : Hp}, Ex H2 H' → Asked K H' p1 R r (t + 1) := fun e => ⟨o1 e, hr5, rz, by omega⟩
    obtain ⟨G, hG⟩ : ∃ G, grow R (t + 1) r = G := ⟨_, rfl⟩
    have hGrow : RowOk R.length G := hG ▸ grow_ok hR.ok (t + 1) hr5
    have a3 : ∀ {σ : L2.St} {H' : Hp}, σ[1]? = some (some (.ref p1)) → σ[2]? = some (some (.str (enc r))) → σ[5]? = some (some (.int ((t + 1 : Nat) : Int))) → EvA (tCons (tVar 1) (tCons (tVar 2) (tCons (tVar 5) tNil))) σ H' [.ref p1, .str (enc r), .int ((t + 1 : Nat) : Int)] := fun h1 h2 h3 => ea_three (ev_var h1) (ev_var h2) (ev_var h3)
    -- how many
    refine q_asg (v := .int (G.length : Int)) (ev_spV (a3 rfl rfl rfl) fun H7 e7 => ⟨p1, R, r, t + 1, rfl, asked (e6.trans e7), by rw [hG]⟩) fun H7 e7 => ?_
    have e27 := e6.trans e7
    have l1 : (once R r).length ≤ 500 := Nat.le_trans (once_bound hR.sz r) (Nat.mul_le_mul hrl (Nat.le_refl 100))
    have hG1 : grow R t (once R r) = G := hG
    refine q_skip (et_is (et_or (et_B (ev_isT (ev_var rfl) (.base (.int _)) isi_ib)) fun _ => et_test (ev_op (ev_var rfl) (y := .int (G.length : Int)) (ev_spV (ea_three (ev_var rfl) (ev_spV (v := .str (enc (once R r))) (ea_two (ev_var rfl) (ev_var rfl)) fun H8 e8 => ⟨p1, R, r, rfl, (o1 (e27.trans e8)).at_, hn26, hr5, rz, Nat.le_trans l1 (by decide), rfl⟩) (ev_is (ev_subI (i := ((t + 1 : Nat) : Int)) (j := 1) (ev_var rfl) ev_c) (show V.int (((t + 1 : Nat) : Int) - 1) = V.int (t : Int) from congrArg V.int (by omega)))) fun H8 e8 => ⟨p1, R, once R r, t, rfl, ⟨o1 (e27.trans e8), once_ok hR.ok r, Nat.lt_of_le_of_lt l1 (by decide), by omega⟩, by rw [hG1]⟩) (rv_ne rfl))) (by simp)) fun H8 e8 => ?_
    have e28 := e27.trans e8
    have hls : EvL (tLc (iStr (tVar 2)) (gName 10) tYes (tLenCall K) [10]) ([some (.ref sa), some (.ref p1), some (.str (enc r)), some (.int ns.sum), some (.int L), some (.int ((t + 1 : Nat) : Int)), some (.int (G.length : Int)), none, none, none, none, none, none, none, none, none, none] : L2.St) H8 ((r.map fun n => ((grow R (t + 1) [n]).length : Int)).map V.int) := by
      rw [List.map_map]
      refine el_str (K := K) (ev_var rfl) _ rz (fun _ => rfl) fun n hn H9 e9 => ?_
      exact ev_spV (ea_three (ev_var rfl) (ev_var rfl) (ev_var rfl)) fun H10 e10 => ⟨p1, R, [n], t + 1, rfl, ⟨o1 (e28.trans (e9.trans e10)), one_ok (hr5 n hn), by show 1 < sizeLine; decide, by omega⟩, rfl⟩
    refine q_skip (et_is (et_or (et_test (ev_op (ev_var rfl) (y := .int (G.length : Int)) (ev_is (ev_sumN (ns := counted R.length G) (el_spL (a3 rfl rfl rfl) fun H9 e9 => ⟨p1, R, r, t + 1, rfl, asked (e28.trans e9), by rw [hG]⟩)) (congrArg V.int (counted_sum hGrow))) (rv_ne rfl)))
      fun _ => et_test (ev_op (ev_var rfl) (y := .int (G.length : Int)) (ev_is (ev_sumN hls) (congrArg V.int (by rw [grow_letters, hG]))) (rv_ne rfl))) (by simp)) fun H9 e9 => ?_
    have e29 := e28.trans e9
    have firstL : ∀ {σ : L2.St} {H' : Hp} {te : TE} {m : Nat}, σ[1]? = some (some (.ref p1)) → σ[2]? = some (some (.str (enc r))) → σ[5]? = some (some (.int ((t + 1 : Nat) : Int))) → Ex H2 H' → Ev te σ H' (.int (m : Int)) → m ≤ G.length → EvL (tCall (spL (preFirst K)) [] E0 (tCons (tVar 1) (tCons (tVar 2) (tCons (tVar 5) (tCons te tNil))))) σ H' ((counted R.length (G.take m)).map V.int) := fun h1 h2 h3 e hm hle =>
      el_spL (ea_cons (ev_var h1) (ea_three (ev_var h2) (ev_var h3) hm)) fun H10 e10 => ⟨p1, R, r, t + 1, _, rfl, asked (e.trans e10), by rw [hG]; exact hle, by rw [hG]⟩
    by_cases h0 : G.length = 0
    · refine q_when (b := true) (et_is (et_test (ev_op (ev_var rfl) ev_c (rv_eq rfl))) (by simp [h0])) (fun _ H10 e10 => ?_) fun hb => absurd hb (by decide)
      have e20 := e29.trans e10
      refine s_ret (v := .bl true) (ev_opLL (xs := (counted R.length []).map V.int) (ys := (counted R.length []).map V.int) (firstL (m := 0) rfl rfl rfl e20 ev_c (Nat.zero_le _)) ?_ fun q1 q2 H14 hq1 hq2 e14 => rv_eqD (dp_ints (sq_of hq1)) (dp_ints (sq_of hq2)) (shaped_ints _)) fun H11 _ => k H11
      rw [counted_none]
      exact el_list (u := fun r => V.str (enc r)) (wi_list (ev_var rfl) (o1 e20).at_) _ (Nat.lt_of_le_of_lt hn26 (by decide)) (fun _ => rfl) fun r hr H9 e9 => ev_c
    refine q_skip (et_is (et_test (ev_op (ev_var rfl) ev_c (rv_eq rfl))) (by simp [h0])) fun H10 e10 => ?_
    have e20 := e29.trans e10
    -- the places
    refine q_asgL (xs := [0, G.length - 1].map fun m : Nat => V.int (m : Int)) (Evl.el_lst (ea_two ev_c (ev_is (ev_subI (j := 1) (ev_var rfl) ev_c) (show V.int ((G.length : Int) - 1) = V.int ((G.length - 1 : Nat) : Int) from congrArg V.int (by omega)))) (by show 2 ≤ 100000; decide)) fun p7 H11 hp7 e11 h7 => ?_
    refine q_forNLn (el_take (n := 1) (ev_var rfl) (eo_some ev_c) (ex_l (e20.trans e11) hS)) (fun p i σ' H' => ∃ ms : List Nat, ∃ u8, σ' = [some (.ref sa), some (.ref p1), some (.str (enc r)), some (.int ns.sum), some (.int L), some (.int ((t + 1 : Nat) : Int)), some (.int (G.length : Int)), some (.ref p7), u8, none, none, none, none, none, none, none, none] ∧ Ex H10 H' ∧ H' p7 = some (.lst (ms.map fun m : Nat => V.int (m : Int))) ∧ ms.length = 2 + i ∧ (∀ m ∈ ms, m < G.length) ∧ H' p = some (.lst ((ns.map V.int).take 1)) ∧ p ≠ p7)
      (fun p H12 hp12 e12 h12 => ⟨[0, G.length - 1], none, rfl, e11.trans e12, e12 _ _ h7, rfl, by
        intro m hm
        simp at hm
        omega, h12, Ne.symm (ne_of_none h7 hp12)⟩) (fun p i σ' H' _ ⟨_, _, _, _, _, _, _, hp, _⟩ => sq_of hp) ?_ ?_
    · rintro p i x σ' H' hx ⟨ms, u8, rfl, eH, hms, hml, hmG, hp, hpq⟩
      have hxm := List.mem_of_getElem? hx
      obtain ⟨z, hz, rfl⟩ := List.mem_map.mp (List.mem_of_mem_take hxm)
      have hi : i < 1 := by
        have := (List.getElem?_eq_some_iff.mp hx).1
        rw [List.length_take] at this
        omega
      have hpos : (0 : Int) < (G.length : Int) := by omega
      have z0 : 0 ≤ (z * 10 ^ (17 : Int).toNat + ns.sum) % (G.length : Int) := Int.emod_nonneg _ (by omega)
      have z1 : (z * 10 ^ (17 : Int).toNat + ns.sum) % (G.length : Int) < (G.length : Int) := Int.emod_lt_of_pos _ hpos
      obtain ⟨m, hm⟩ : ∃ m : Nat, (z * 10 ^ (17 : Int).toNat + ns.sum) % (G.length : Int) = (m : Int) := ⟨_, (Int.toNat_of_nonneg z0).symm⟩
      refine s_app hms (v := .int (m : Int)) (ev_var rfl) (ev_is (ev_mod (ev_addI (ev_mul (ev_var rfl) (ev_op (x := .int 10) (y := .int 17) ev_c ev_c (rv_I (C := CPow) (g := fun i j => .int (i ^ j.toNat)) ⟨by decide, by decide, by decide⟩)) (.inr ⟨by decide, by decide⟩)) (ev_var rfl)) (ev_var rfl) hpos) (congrArg V.int hm)) (by rw [List.length_map]; omega) fun H12 e12 => ?_
      refine ⟨ms ++ [m], _, rfl, Ex.mut (eH.trans e12) hp7, by rw [upd_same, List.map_append]; rfl, by rw [List.length_append, hml]; rfl, ?_, by rw [upd_ne hpq]; exact e12 _ _ hp, hpq⟩
      intro m' hm'
      rcases List.mem_append.mp hm' with hm' | hm'
      · exact hmG m' hm'
      · rw [List.mem_singleton.mp hm']
        omega
    · rintro p σ' H12 ⟨ms, u8, rfl, e12, hms, hml, hmG, _⟩
      have e21 := e20.trans e12
      refine q_forLn (ev_var rfl) (sq_of hms) (fun i σ' H' => ∃ u9 u10 u11 u12 u13 u14, σ' = [some (.ref sa), some (.ref p1), some (.str (enc r)), some (.int ns.sum), some (.int L), some (.int ((t + 1 : Nat) : Int)), some (.int (G.length : Int)), some (.ref p7), u8, u9, u10, u11, u12, u13, u14, none, none] ∧ Ex H12 H')
        (fun H13 e13 => ⟨none, none, none, none, none, none, rfl, e13⟩) (fun i σ' H' _ ⟨_, _, _, _, _, _, _, e⟩ => sq_of (e _ _ hms)) ?_ ?_
      · rintro i v σ' H13 hv ⟨u9, u10, u11, u12, u13, u14, rfl, e13⟩
        obtain ⟨m, hmm, rfl⟩ := List.mem_map.mp (List.mem_of_getElem? hv)
        have hmlt := hmG m hmm
        obtain ⟨x, hx⟩ : ∃ x, G[m]? = some x := ⟨_, List.getElem?_eq_getElem hmlt⟩
        have hxR : x < R.length := hGrow.get hx
        have hx26 : x < 26 := Nat.lt_of_lt_of_le hxR hn26
        have e23 := e21.trans e13
        have hx' : (grow R (t + 1) r)[m]? = some x := by rw [hG]; exact hx
        refine q_asg (v := .str (sg x)) (ev_spV (ea_cons (ev_var rfl) (ea_three (ev_var rfl) (ev_var rfl) (ev_var rfl))) fun H14 e14 => ⟨p1, R, r, x, t + 1, m, rfl, asked (e23.trans e14), hx', rfl⟩) fun H14 e14 => ?_
        refine q_skip (et_is (et_test (ev_op (ev_var rfl) (y := .str (sg x)) (ev_spV (ea_cons (ev_var rfl) (ea_three (ev_var rfl) (ev_var rfl) (ev_var rfl))) fun H15 e15 => ⟨p1, R, r, x, t + 1, m, rfl, asked (e23.trans (e14.trans e15)), hx', rfl⟩) (rv_ne rfl))) (by simp)) fun H15 e15 => ?_
        have e25' := e23.trans (e14.trans e15)
        refine q_asgL (firstL rfl rfl rfl e25' (ev_var rfl) (Nat.le_of_lt hmlt)) fun q1 H16 hq1 e16 h16 => ?_
        refine q_asgL (firstL (m := m + 1) rfl rfl rfl (e25'.trans e16) (ev_is (ev_addI (i := (m : Int)) (j := 1) (ev_var rfl) ev_c) rfl) hmlt) fun q2 H17 hq2 e17 h17 => ?_
        refine q_asg (v := .int (x : Int)) (tidx rfl hx26) fun H18 e18 => ?_
        have e28' := e25'.trans (e16.trans (e17.trans e18))
        have h16 := (e17.trans e18) _ _ h16
        have h17 := e18 _ _ h17
        refine q_asgL (xs := (dueOf R.length x).map V.int) ?_ fun q3 H19 hq3 e19 h19 => ?_
        · unfold dueOf
          rw [List.map_map]
          refine el_rng (ea_one (lenR rfl e28')) _ (Nat.lt_of_le_of_lt hn26 (by decide)) (fun _ => rfl) fun j hj H20 e20 => ?_
          by_cases hjx : j = x
          · subst hjx
            exact ev_if (b := true) (et_is (et_test (ev_op (ev_var rfl) (ev_var rfl) (rv_eq rfl))) (by simp)) (fun _ => ev_is ev_c (by simp)) fun hb => absurd hb (by decide)
          · exact ev_if (b := false) (et_is (et_test (ev_op (ev_var rfl) (ev_var rfl) (rv_eq rfl))) (by simp; omega)) (fun hb => absurd hb (by decide)) fun _ => ev_is ev_c (by simp [hjx])
        · have e29' := e28'.trans e19
          have h16 := e19 _ _ h16
          have h17 := e19 _ _ h17
          have hdiff : EvL (tLc (iRng1 (tCons (tLen K (tVar 1)) tNil)) (gName 16) tYes (tDiff K) [16]) ([some (.ref sa), some (.ref p1), some (.str (enc r)), some (.int ns.sum), some (.int L), some (.int ((t + 1 : Nat) : Int)), some (.int (G.length : Int)), some (.ref p7), u8, some (.int (m : Int)), some (.str (sg x)), some (.ref q1), some (.ref q2), some (.int (x : Int)), some (.ref q3), none, none] : L2.St) H19 ((dueOf R.length x).map V.int) := by
            unfold dueOf
            rw [List.map_map]
            refine el_rng (ea_one (lenR rfl e29')) _ (Nat.lt_of_le_of_lt hn26 (by decide)) (fun _ => rfl) fun j hj H20 e20 => ?_
            refine ev_is (ev_subI (ev_ix (n := j) (ev_var rfl) (sq_of (e20 _ _ h17)) (ev_var rfl) (int_get (by rw [counted_length]; exact hj))) (ev_ix (n := j) (ev_var rfl) (sq_of (e20 _ _ h16)) (ev_var rfl) (int_get (by rw [counted_length]; exact hj)))) (congrArg V.int ?_)
            rw [counted_getD hj, counted_getD hj, take_snoc hx, List.count_append, List.count_singleton]
            by_cases hjx : j = x
            · subst hjx
              simp
              omega
            · have : (x == j) = false := by simp; omega
              rw [this]
              simp [hjx]
          refine s_skip (et_is (et_or (et_test (ev_op (x := .int (m : Int)) (ev_is (ev_sum (ns := counted R.length (G.take m)) (ev_var rfl) (sq_of h16)) (congrArg V.int (by rw [counted_sum (hGrow.take m), List.length_take]; omega))) (ev_var rfl) (rv_ne rfl))) fun _ => et_test (ev_opL1 hdiff (fun H20 e20 => ev_var rfl) fun q H20 hq e20 => rv_neD (dp_ints (sq_of hq)) (dp_ints (sq_of (e20 _ _ h19))) (shaped_ints _))) (by simp)) fun H20 e20' => ?_
          exact ⟨_, _, _, _, _, _, rfl, e13.trans (e14.trans (e15.trans (e16.trans (e17.trans (e18.trans (e19.trans e20'))))))⟩
      · rintro σ' H13 ⟨u9, u10, u11, u12, u13, u14, rfl, e13⟩
        have e23 := e21.trans e13
        refine s_ret (v := .bl true) (ev_opLL (xs := (counted R.length G).map V.int) (ys := (counted R.length G).map V.int) (by
          have := firstL (σ := ([some (.ref sa), some (.ref p1), some (.str (enc r)), some (.int ns.sum), some (.int L), some (.int ((t + 1 : Nat) : Int)), some (.int (G.length : Int)), some (.ref p7), u8, u9, u10, u11, u12, u13, u14, none, none] : L2.St)) (te := tVar 6) rfl rfl rfl e23 (ev_var rfl) (Nat.le_refl _)
          rw [List.take_length] at this
          exact this) (el_spL (a3 rfl rfl rfl) fun H14 e14 => ⟨p1, R, r, t + 1, rfl, asked (e23.trans e14), by rw [hG]⟩) fun q1 q2 H14 hq1 hq2 e14 => rv_eqD (dp_ints (sq_of hq1)) (dp_ints (sq_of hq2)) (shaped_ints _)) fun H11 _ => k H11
end
end Gw

namespace Gw
open PySem PySem.Spec PyProof.Rows L2 Evl
def fn : List He.DefD := [
  ⟨("is_number", none), "is_number", "is_number", defArgs sIs_number, defBody sIs_number, defScope sIs_number, [], []⟩,
  ⟨("is_row", none), "is_row", "is_row", defArgs sIs_row, defBody sIs_row, defScope sIs_row, [], []⟩,
  ⟨("asked_rules", none), "asked_rules", "asked_rules", defArgs sAsked_rules, defBody sAsked_rules, defScope sAsked_rules, [], []⟩,
  ⟨("asked_row", none), "asked_row", "asked_row", defArgs sAsked_row, defBody sAsked_row, defScope sAsked_row, [], []⟩,
  ⟨("asked_times", none), "asked_times", "asked_times", defArgs sAsked_times, defBody sAsked_times, defScope sAsked_times, [], []⟩,
  ⟨("lengths_of", none), "lengths_of", "lengths_of", defArgs sLengths_of, defBody sLengths_of, defScope sLengths_of, [], []⟩,
  ⟨("long_by", none), "long_by", "long_by", defArgs sLong_by, defBody sLong_by, defScope sLong_by, [], []⟩,
  ⟨("counted", none), "counted", "counted", defArgs sCounted, defBody sCounted, defScope sCounted, [], []⟩,
  ⟨("grown_counts", none), "grown_counts", "grown_counts", defArgs sGrown_counts, defBody sGrown_counts, defScope sGrown_counts, [], []⟩,
  ⟨("counts", none), "counts", "counts", defArgs sCounts, defBody sCounts, defScope sCounts, [], []⟩,
  ⟨("length", none), "length", "length", defArgs sLength, defBody sLength, defScope sLength, [], []⟩,
  ⟨("skipped", none), "skipped", "skipped", defArgs sSkipped, defBody sSkipped, defScope sSkipped, [], []⟩,
  ⟨("letter", none), "letter", "letter", defArgs sLetter, defBody sLetter, defScope sLetter, [], []⟩,
  ⟨("first", none), "first", "first", defArgs sFirst, defBody sFirst, defScope sFirst, [], []⟩,
  ⟨("_law_rules", none), "_law_rules", "_law_rules", defArgs sLaw_rules, defBody sLaw_rules, defScope sLaw_rules, [], []⟩,
  ⟨("_law_row", none), "_law_row", "_law_row", defArgs sLaw_row, defBody sLaw_row, defScope sLaw_row, [], []⟩,
  ⟨("_law_once", none), "_law_once", "_law_once", defArgs sLaw_once, defBody sLaw_once, defScope sLaw_once, [], []⟩,
  ⟨("_law_at", none), "_law_at", "_law_at", defArgs sLaw_at, defBody sLaw_at, defScope sLaw_at, [], []⟩,
  ⟨("law", none), "law", "law", defArgs sLaw, defBody sLaw, defScope sLaw, [], []⟩]
def fa0 : List He.Fa := [.free "isinstance", .free "int", .free "str", .free "list", .free "bool", .free "len", .free "all", .free "sum", .free "range", .free "reversed", .free "zip", .free "enumerate", .free "ValueError", .str "LETTERS" "abcdefghijklmnopqrstuvwxyz", .int "TIMES" 300, .glo "is_number", .glo "is_row", .glo "asked_rules", .glo "asked_row", .glo "asked_times", .glo "lengths_of", .glo "long_by", .glo "counted", .glo "grown_counts", .glo "counts", .glo "length", .glo "skipped", .glo "letter", .glo "first", .glo "_law_rules"]
def fa1 : List He.Fa := [.glo "_law_row", .glo "_law_once", .glo "_law_at", .glo "law"]
def fa : List He.Fa := fa0 ++ fa1
def nm0 : List Str := ["GrowError", "BadRules", "BadRow", "BadTimes", "BadPlace", "LETTERS", "TIMES", "is_number", "is_row", "asked_rules", "asked_row", "asked_times", "lengths_of", "long_by", "counted", "grown_counts", "counts", "length", "skipped", "letter", "first", "_law_rules", "_law_row", "_law_once", "_law_at"]
def loose : List Str := nm0
abbrev theRow : PySem.W.OpenRow := PySem.W.OpenLaw.row PySem.Challenge.rw_growrow_k02_whole_far
abbrev theHook : PySem.W.Hook := He.hookD 4 fa fn
def seen (s : PySem.W.SharedT) : He.AlD := He.obsDG 4 fa fn (HandSHeadRun.getT s)
theorem seen_eq (s : PySem.W.SharedT) : seen s = theHook.obs s.abs := He.obsDG_eq (HandSHeadRun.getT_eq s)
set_option maxHeartbeats 0 in
theorem topRun (w : World) : HandSHeadRun.RunEq theRow (PySem.W.view theRow.prog [29]) theHook seen 4000 loose w := by
  intro os
  kernel_rfl
theorem facts {K : PySem.W.Frag} {h : Heap} {mg : Str → Option Value} (X : K.In h) (G : h.Ns mainGlobals mg) (c : He.SaysD fa fn K) : T K mg where
  z_isinstance := He.free_ok X G (c.fact 0 (f := .free "isinstance") rfl)
  z_int := He.free_ok X G (c.fact 1 (f := .free "int") rfl)
  z_str := He.free_ok X G (c.fact 2 (f := .free "str") rfl)
  z_list := He.free_ok X G (c.fact 3 (f := .free "list") rfl)
  z_bool := He.free_ok X G (c.fact 4 (f := .free "bool") rfl)
  z_len := He.free_ok X G (c.fact 5 (f := .free "len") rfl)
  z_all := He.free_ok X G (c.fact 6 (f := .free "all") rfl)
  z_sum := He.free_ok X G (c.fact 7 (f := .free "sum") rfl)
  z_range := He.free_ok X G (c.fact 8 (f := .free "range") rfl)
  z_reversed := He.free_ok X G (c.fact 9 (f := .free "reversed") rfl)
  z_zip := He.free_ok X G (c.fact 10 (f := .free "zip") rfl)
  z_enumerate := He.free_ok X G (c.fact 11 (f := .free "enumerate") rfl)
  z_ValueError := He.free_ok X G (c.fact 12 (f := .free "ValueError") rfl)
  LETTERS := (by
      obtain ⟨t, e⟩ := He.str_ok X G (c.fact 13 (f := .str "LETTERS" "abcdefghijklmnopqrstuvwxyz") rfl)
      exact ⟨_, e, by rw [← alph_eq]; exact ⟨t, rfl⟩⟩)
  TIMES := (by
      obtain ⟨t, e⟩ := He.int_ok X G (c.fact 14 (f := .int "TIMES" 300) rfl)
      exact ⟨_, e, ⟨t, rfl⟩⟩)
  d_is_number := (by
      obtain ⟨fd, F⟩ := c.def_ 0 (d := ⟨("is_number", none), "is_number", "is_number", defArgs sIs_number, defBody sIs_number, defScope sIs_number, [], []⟩) rfl
      exact ⟨_, fd, F, He.glo_ok X G (c.fact 15 (f := .glo "is_number") rfl)⟩)
  d_is_row := (by
      obtain ⟨fd, F⟩ := c.def_ 1 (d := ⟨("is_row", none), "is_row", "is_row", defArgs sIs_row, defBody sIs_row, defScope sIs_row, [], []⟩) rfl
      exact ⟨_, fd, F, He.glo_ok X G (c.fact 16 (f := .glo "is_row") rfl)⟩)
  d_asked_rules := (by
      obtain ⟨fd, F⟩ := c.def_ 2 (d := ⟨("asked_rules", none), "asked_rules", "asked_rules", defArgs sAsked_rules, defBody sAsked_rules, defScope sAsked_rules, [], []⟩) rfl
      exact ⟨_, fd, F, He.glo_ok X G (c.fact 17 (f := .glo "asked_rules") rfl)⟩)
  d_asked_row := (by
      obtain ⟨fd, F⟩ := c.def_ 3 (d := ⟨("asked_row", none), "asked_row", "asked_row", defArgs sAsked_row, defBody sAsked_row, defScope sAsked_row, [], []⟩) rfl
      exact ⟨_, fd, F, He.glo_ok X G (c.fact 18 (f := .glo "asked_row") rfl)⟩)
  d_asked_times := (by
      obtain ⟨fd, F⟩ := c.def_ 4 (d := ⟨("asked_times", none), "asked_times", "asked_times", defArgs sAsked_times, defBody sAsked_times, defScope sAsked_times, [], []⟩) rfl
      exact ⟨_, fd, F, He.glo_ok X G (c.fact 19 (f := .glo "asked_times") rfl)⟩)
  d_lengths_of := (by
      obtain ⟨fd, F⟩ := c.def_ 5 (d := ⟨("lengths_of", none), "lengths_of", "lengths_of", defArgs sLengths_of, defBody sLengths_of, defScope sLengths_of, [], []⟩) rfl
      exact ⟨_, fd, F, He.glo_ok X G (c.fact 20 (f := .glo "lengths_of") rfl)⟩)
  d_long_by := (by
      obtain ⟨fd, F⟩ := c.def_ 6 (d := ⟨("long_by", none), "long_by", "long_by", defArgs sLong_by, defBody sLong_by, defScope sLong_by, [], []⟩) rfl
      exact ⟨_, fd, F, He.glo_ok X G (c.fact 21 (f := .glo "long_by") rfl)⟩)
  d_counted := (by
      obtain ⟨fd, F⟩ := c.def_ 7 (d := ⟨("counted", none), "counted", "counted", defArgs sCounted, defBody sCounted, defScope sCounted, [], []⟩) rfl
      exact ⟨_, fd, F, He.glo_ok X G (c.fact 22 (f := .glo "counted") rfl)⟩)
  d_grown_counts := (by
      obtain ⟨fd, F⟩ := c.def_ 8 (d := ⟨("grown_counts", none), "grown_counts", "grown_counts", defArgs sGrown_counts, defBody sGrown_counts, defScope sGrown_counts, [], []⟩) rfl
      exact ⟨_, fd, F, He.glo_ok X G (c.fact 23 (f := .glo "grown_counts") rfl)⟩)
  d_counts := (by
      obtain ⟨fd, F⟩ := c.def_ 9 (d := ⟨("counts", none), "counts", "counts", defArgs sCounts, defBody sCounts, defScope sCounts, [], []⟩) rfl
      exact ⟨_, fd, F, He.glo_ok X G (c.fact 24 (f := .glo "counts") rfl)⟩)
  d_length := (by
      obtain ⟨fd, F⟩ := c.def_ 10 (d := ⟨("length", none), "length", "length", defArgs sLength, defBody sLength, defScope sLength, [], []⟩) rfl
      exact ⟨_, fd, F, He.glo_ok X G (c.fact 25 (f := .glo "length") rfl)⟩)
  d_skipped := (by
      obtain ⟨fd, F⟩ := c.def_ 11 (d := ⟨("skipped", none), "skipped", "skipped", defArgs sSkipped, defBody sSkipped, defScope sSkipped, [], []⟩) rfl
      exact ⟨_, fd, F, He.glo_ok X G (c.fact 26 (f := .glo "skipped") rfl)⟩)
  d_letter := (by
      obtain ⟨fd, F⟩ := c.def_ 12 (d := ⟨("letter", none), "letter", "letter", defArgs sLetter, defBody sLetter, defScope sLetter, [], []⟩) rfl
      exact ⟨_, fd, F, He.glo_ok X G (c.fact 27 (f := .glo "letter") rfl)⟩)
  d_first := (by
      obtain ⟨fd, F⟩ := c.def_ 13 (d := ⟨("first", none), "first", "first", defArgs sFirst, defBody sFirst, defScope sFirst, [], []⟩) rfl
      exact ⟨_, fd, F, He.glo_ok X G (c.fact 28 (f := .glo "first") rfl)⟩)
  d_law_rules := (by
      obtain ⟨fd, F⟩ := c.def_ 14 (d := ⟨("_law_rules", none), "_law_rules", "_law_rules", defArgs sLaw_rules, defBody sLaw_rules, defScope sLaw_rules, [], []⟩) rfl
      exact ⟨_, fd, F, He.glo_ok X G (c.fact 29 (f := .glo "_law_rules") rfl)⟩)
  d_law_row := (by
      obtain ⟨fd, F⟩ := c.def_ 15 (d := ⟨("_law_row", none), "_law_row", "_law_row", defArgs sLaw_row, defBody sLaw_row, defScope sLaw_row, [], []⟩) rfl
      exact ⟨_, fd, F, He.glo_ok X G (c.fact 30 (f := .glo "_law_row") rfl)⟩)
  d_law_once := (by
      obtain ⟨fd, F⟩ := c.def_ 16 (d := ⟨("_law_once", none), "_law_once", "_law_once", defArgs sLaw_once, defBody sLaw_once, defScope sLaw_once, [], []⟩) rfl
      exact ⟨_, fd, F, He.glo_ok X G (c.fact 31 (f := .glo "_law_once") rfl)⟩)
  d_law_at := (by
      obtain ⟨fd, F⟩ := c.def_ 17 (d := ⟨("_law_at", none), "_law_at", "_law_at", defArgs sLaw_at, defBody sLaw_at, defScope sLaw_at, [], []⟩) rfl
      exact ⟨_, fd, F, He.glo_ok X G (c.fact 32 (f := .glo "_law_at") rfl)⟩)
theorem lawFn {P : Program} {w : World} {K : PySem.W.Frag} {h : Heap} {mg : Str → Option Value} {f : Addr} (X : K.In h) (G : h.Ns mainGlobals mg) (hfa : mg ("law" : Str) = some (.ref f)) (c : He.SaysD fa fn K) :
    ∃ fd : FuncData, (∀ (s : Shared) (v : Value), BindsTo s fd ⟨[v], []⟩ [("_law_script", v)]) ∧ ∀ base : Heap, K.In base → base.Ns mainGlobals mg → FnOk P w K mg base CX0 6 f fd ["_law_script"] (spLaw K) := by
  obtain ⟨fd, F⟩ := c.def_ 18 (d := ⟨("law", none), "law", "law", defArgs sLaw, defBody sLaw, defScope sLaw, [], []⟩) rfl
  have e := hfa.symm.trans (He.glo_ok X G (c.fact 33 (f := .glo "law") rfl))
  cases e
  have b := FunD.bindsA (ps := ["_law_script"]) F fun _ _ _ _ _ _ us hl => match us, hl with | [_], _ => rfl
  exact ⟨fd, fun s v => b s [v] rfl, fun base _ _ => ok_law (facts X G c) F⟩
end Gw
open PySem PySem.W PySem.Calls PyProof.Rows
set_option maxRecDepth 100000 in
set_option maxHeartbeats 0 in
theorem PySem.Challenge.cw_growrow_k02_whole_far_holds : PySem.Challenge.rw_growrow_k02_whole_far.Holds := by
  w_on; o_law
  refine HandSHeadRun.head_any (r := OpenLaw.row PySem.Challenge.rw_growrow_k02_whole_far) (q := view (OpenLaw.row PySem.Challenge.rw_growrow_k02_whole_far).prog [29]) (H := Gw.theHook) (ob := Gw.seen) (M := 4000) (loose := Gw.loose) (d := HandSHeadRun.topDef (OpenLaw.row PySem.Challenge.rw_growrow_k02_whole_far).prog 29) (kwd := []) Gw.seen_eq
    (by kernel_rfl) (fun s => by kernel_rfl) Gw.topRun (by kernel_rfl) (by kernel_rfl) (by kernel_rfl) (by rfl) (by first | assumption | decide +kernel) (by decide +kernel) ⟨rfl, rfl, rfl, rfl, rfl, by decide +kernel⟩ ?hw ?hc
  case hw => w_witness2
  case hc =>
    refine L2.walk_ofE (l := PySem.Challenge.rw_growrow_k02_whole_far) (n := 63) (k := 6) (x := "_law_script") (CX := L2.CX0) rfl (by decide) (by kernel_rfl) ⟨rfl, by decide, by decide⟩ ?F (fun _ _ _ _ z => z)
    intro w mg fa h Y G hmg0
    obtain ⟨K, KX, c⟩ := Y
    have hmg : mg ("law" : PySem.Str) = some (.ref fa) := by
      have e : (HandSHeadRun.topDef (OpenLaw.row PySem.Challenge.rw_growrow_k02_whole_far).prog 29).name = ("law" : PySem.Str) := by kernel_rfl
      rw [← e]
      exact hmg0
    obtain ⟨fd, hb, hF⟩ := Gw.lawFn (P := (PySem.Challenge.rw_growrow_k02_whole_far).prog) (w := w) KX G hmg c
    exact ⟨K, fd, Gw.spLaw K, KX, hb, fun H a ns hl _ hS => ⟨a, ns, rfl, hS, hl, fun _ => rfl⟩, hF⟩
#print axioms PySem.Challenge.cw_growrow_k02_whole_far_holds

