import PyProof.Rows.All
import Wide.All
import OpenK.AllK
import Wide.FinOn
import KE.KStateDown
import HandS.ForMost
import HandS.WordsExc
import HandS.Defaults
import HandS.Codes
import HandS.StrMore
import HandS.Replace
import HandS.IsInst
import HandS.Walk
import HandS.Evl
import HandS.RevRange
import HandS.Style
import HandS.Head0
import HandS.Head1
import HandS.Head2
import HandS.HeadEnd
import HandS.HeadHook1
import HandS.HeadHook2
import HandS.New0
import HandS.More
import KE.GoesMore
import PyProof.Rows.StrRev
import HandS.ReplaceLit
import HandS.SetTxt0
import HandS.Set
import HandS.SetFor
import PyProof.SliceList
import HandS.ExcOwn
import HandS.ExcIs
import PySem.Challenge.RW_growrow_k07_refused
set_option Elab.async false
set_option linter.all false
set_option maxRecDepth 100000
set_option maxHeartbeats 4000000
/-! The mathematics of growrow, in plain Lean: rows as lists of letters' numbers, rules as lists of rows. -/
namespace Gw
abbrev GRow := List Nat
abbrev GRules := List GRow

def ruleOf (R : GRules) (n : Nat) : GRow := R.getD n []
def once (R : GRules) (r : GRow) : GRow := (r.map (ruleOf R)).flatten
def grow (R : GRules) : Nat → GRow → GRow
  | 0, r => r
  | t + 1, r => grow R t (once R r)
def RowOk (k : Nat) (r : GRow) : Prop := ∀ n ∈ r, n < k
structure RulesOk (R : GRules) : Prop where
  pos : 1 ≤ R.length
  few : R.length ≤ 26
  rows : ∀ r ∈ R, RowOk R.length r

theorem once_nil (R : GRules) : once R [] = [] := rfl
theorem once_cons (R : GRules) (n : Nat) (r : GRow) : once R (n :: r) = ruleOf R n ++ once R r := by simp [once]
theorem once_append (R : GRules) (a b : GRow) : once R (a ++ b) = once R a ++ once R b := by simp [once]
theorem once_one (R : GRules) (n : Nat) : once R [n] = ruleOf R n := by simp [once]
theorem grow_nil (R : GRules) : ∀ t, grow R t [] = []
  | 0 => rfl
  | t + 1 => by show grow R t (once R []) = []; rw [once_nil, grow_nil R t]
theorem grow_append (R : GRules) : ∀ (t : Nat) (a b : GRow), grow R t (a ++ b) = grow R t a ++ grow R t b
  | 0, _, _ => rfl
  | t + 1, a, b => by
    show grow R t (once R (a ++ b)) = grow R t (once R a) ++ grow R t (once R b)
    rw [once_append, grow_append R t]
theorem grow_succ (R : GRules) : ∀ (t : Nat) (r : GRow), grow R (t + 1) r = once R (grow R t r)
  | 0, _ => rfl
  | t + 1, r => by
    show grow R (t + 1) (once R r) = once R (grow R (t + 1) r)
    rw [grow_succ R t (once R r)]
    rfl
theorem grow_add (R : GRules) : ∀ (s t : Nat) (r : GRow), grow R (s + t) r = grow R t (grow R s r)
  | 0, t, r => by rw [Nat.zero_add]; rfl
  | s + 1, t, r => by
    have e : s + 1 + t = (s + t) + 1 := by omega
    rw [e]
    show grow R (s + t) (once R r) = grow R t (grow R s (once R r))
    exact grow_add R s t (once R r)

theorem RowOk.nil (k : Nat) : RowOk k [] := fun _ h => absurd h (by simp)
theorem RowOk.append {k : Nat} {a b : GRow} (ha : RowOk k a) (hb : RowOk k b) : RowOk k (a ++ b) := fun n h => (List.mem_append.mp h).elim (ha n) (hb n)
theorem RowOk.left {k : Nat} {a b : GRow} (h : RowOk k (a ++ b)) : RowOk k a := fun n q => h n (List.mem_append_left _ q)
theorem RowOk.right {k : Nat} {a b : GRow} (h : RowOk k (a ++ b)) : RowOk k b := fun n q => h n (List.mem_append_right _ q)
theorem RowOk.cons {k n : Nat} {a : GRow} (hn : n < k) (ha : RowOk k a) : RowOk k (n :: a) := fun m h => (List.mem_cons.mp h).elim (fun e => e ▸ hn) (ha m)
theorem RowOk.head {k n : Nat} {a : GRow} (h : RowOk k (n :: a)) : n < k := h n List.mem_cons_self
theorem RowOk.tail {k n : Nat} {a : GRow} (h : RowOk k (n :: a)) : RowOk k a := fun m q => h m (List.mem_cons_of_mem _ q)
theorem RowOk.take {k : Nat} {a : GRow} (i : Nat) (h : RowOk k a) : RowOk k (a.take i) := fun m q => h m (List.mem_of_mem_take q)
theorem RowOk.get {k : Nat} {a : GRow} {i n : Nat} (h : RowOk k a) (e : a[i]? = some n) : n < k := h n (List.mem_of_getElem? e)
theorem RowOk.of_mono {k k' : Nat} {a : GRow} (h : RowOk k a) (hk : k ≤ k') : RowOk k' a := fun n q => Nat.lt_of_lt_of_le (h n q) hk
theorem rule_get {R : GRules} {n : Nat} (h : n < R.length) : R[n]? = some (ruleOf R n) := by
  unfold ruleOf
  rw [List.getD_eq_getElem?_getD, List.getElem?_eq_getElem h]
  rfl
theorem rule_ok {R : GRules} (ok : RulesOk R) (n : Nat) : RowOk R.length (ruleOf R n) := by
  by_cases h : n < R.length
  · exact ok.rows _ (List.mem_of_getElem? (rule_get h))
  · have e : ruleOf R n = [] := by
      unfold ruleOf
      rw [List.getD_eq_getElem?_getD, List.getElem?_eq_none (by omega)]
      rfl
    rw [e]
    exact RowOk.nil _
theorem once_ok {R : GRules} (ok : RulesOk R) (r : GRow) : RowOk R.length (once R r) := fun n h => by
  unfold once at h
  obtain ⟨l, hl, hn⟩ := List.mem_flatten.mp h
  obtain ⟨m, _, rfl⟩ := List.mem_map.mp hl
  exact rule_ok ok m n hn
theorem grow_ok {R : GRules} (ok : RulesOk R) : ∀ (t : Nat) {r : GRow}, RowOk R.length r → RowOk R.length (grow R t r)
  | 0, _, h => h
  | t + 1, r, _ => grow_ok ok t (once_ok ok r)

/-! ### lengths -/
def longBy (T : List Int) (r : GRow) : Int := (r.map fun n => T.getD n 0).sum
def lens (R : GRules) : Nat → List Int
  | 0 => R.map fun _ => 1
  | t + 1 => R.map fun r => longBy (lens R t) r
theorem lens_length (R : GRules) : ∀ t, (lens R t).length = R.length
  | 0 => List.length_map _
  | _ + 1 => List.length_map _
theorem longBy_nil (T : List Int) : longBy T [] = 0 := rfl
theorem longBy_cons (T : List Int) (n : Nat) (r : GRow) : longBy T (n :: r) = T.getD n 0 + longBy T r := by
  unfold longBy
  rw [List.map_cons, List.sum_cons]
theorem longBy_append (T : List Int) (a b : GRow) : longBy T (a ++ b) = longBy T a + longBy T b := by
  unfold longBy
  rw [List.map_append, List.sum_append]
/-- what the table says of each letter, told of rows -/
theorem longBy_row {R : GRules} {T : List Int} {t : Nat} (h : ∀ n, n < R.length → T.getD n 0 = ((grow R t [n]).length : Int)) : ∀ {r : GRow}, RowOk R.length r → longBy T r = ((grow R t r).length : Int)
  | [], _ => by rw [longBy_nil, grow_nil]; rfl
  | n :: r, ok => by
    rw [longBy_cons, h n ok.head, longBy_row h ok.tail, show n :: r = [n] ++ r from rfl, grow_append, List.length_append, Int.natCast_add]
theorem lens_letter {R : GRules} (ok : RulesOk R) : ∀ (t n : Nat), n < R.length → (lens R t).getD n 0 = ((grow R t [n]).length : Int)
  | 0, n, h => by
    show (R.map fun _ => (1 : Int)).getD n 0 = 1
    rw [List.getD_eq_getElem?_getD, List.getElem?_map, List.getElem?_eq_getElem h]
    rfl
  | t + 1, n, h => by
    show (R.map fun r => longBy (lens R t) r).getD n 0 = ((grow R t (once R [n])).length : Int)
    rw [List.getD_eq_getElem?_getD, List.getElem?_map, rule_get h, once_one]
    exact longBy_row (lens_letter ok t) (rule_ok ok n)
theorem longBy_lens {R : GRules} (ok : RulesOk R) (t : Nat) {r : GRow} (h : RowOk R.length r) : longBy (lens R t) r = ((grow R t r).length : Int) := longBy_row (lens_letter ok t) h

/-! ### counts -/
def counted (k : Nat) (r : GRow) : List Int := (List.range k).map fun n => (r.count n : Int)
theorem counted_length (k : Nat) (r : GRow) : (counted k r).length = k := by simp [counted]
theorem counted_getD {k n : Nat} {r : GRow} (h : n < k) : (counted k r).getD n 0 = (r.count n : Int) := by
  unfold counted
  rw [List.getD_eq_getElem?_getD, List.getElem?_map, List.getElem?_range h]
  rfl
theorem counted_get {k n : Nat} {r : GRow} (h : n < k) : (counted k r)[n]? = some (r.count n : Int) := by
  unfold counted
  rw [List.getElem?_map, List.getElem?_range h]
  rfl
/-- the sum of now's numbers times told's at k, side by side -/
def dot (k : Nat) : List Int → List (List Int) → Int
  | a :: now, r :: told => a * r.getD k 0 + dot k now told
  | _, _ => 0
def gstep (told : List (List Int)) (n : Nat) (now : List Int) : List Int := (List.range n).map fun k => dot k now told
def gtimes (told : List (List Int)) (n : Nat) : Nat → List Int → List Int
  | 0, now => now
  | t + 1, now => gtimes told n t (gstep told n now)
theorem gtimes_succ (told : List (List Int)) (n : Nat) : ∀ (t : Nat) (now : List Int), gtimes told n (t + 1) now = gstep told n (gtimes told n t now)
  | 0, _ => rfl
  | t + 1, now => gtimes_succ told n t (gstep told n now)
def gcs (R : GRules) (t : Nat) (now : List Int) : List Int := gtimes (R.map (counted R.length)) R.length t now
theorem dot_nil (k : Nat) (told : List (List Int)) : dot k [] told = 0 := by cases told <;> rfl
theorem dot_add (k : Nat) : ∀ (a b : List Int) (told : List (List Int)), a.length = b.length → dot k (List.zipWith (· + ·) a b) told = dot k a told + dot k b told
  | [], [], told, _ => by rw [dot_nil]; simp [dot_nil]
  | [], _ :: _, _, h => absurd h (by simp)
  | _ :: _, [], _, h => absurd h (by simp)
  | _ :: _, _ :: _, [], _ => rfl
  | x :: a, y :: b, r :: told, h => by
    show (x + y) * r.getD k 0 + dot k (List.zipWith (· + ·) a b) told = x * r.getD k 0 + dot k a told + (y * r.getD k 0 + dot k b told)
    rw [dot_add k a b told (by simpa using h), Int.add_mul]
    omega
theorem counted_append (k : Nat) (a b : GRow) : counted k (a ++ b) = List.zipWith (· + ·) (counted k a) (counted k b) := by
  apply List.ext_getElem?
  intro i
  by_cases h : i < k
  · rw [counted_get h, List.getElem?_zipWith, counted_get h, counted_get h, List.count_append, Int.natCast_add]
  · rw [List.getElem?_eq_none (by rw [counted_length]; omega), List.getElem?_eq_none (by rw [List.length_zipWith, counted_length, counted_length]; omega)]
/-- counts of one letter: only its rule is met -/
theorem dot_one (k : Nat) (f : Nat → Int) : ∀ (told : List (List Int)) (m : Nat), (∀ i, f i = if i = m then 1 else 0) → ∀ (j : Nat),
    dot k ((List.range told.length).map fun i => f (j + i)) told = if j ≤ m ∧ m < j + told.length then (told.getD (m - j) []).getD k 0 else 0
  | [], m, _, j => by
    rw [if_neg (by simp; try omega)]
    rfl
  | r :: told, m, hf, j => by
    have e : (List.range (r :: told).length).map (fun i => f (j + i)) = f j :: (List.range told.length).map fun i => f (j + 1 + i) := by
      rw [List.length_cons, List.range_succ_eq_map, List.map_cons, List.map_map]
      congr 1
      apply List.map_congr_left
      intro i _
      show f (j + (i + 1)) = f (j + 1 + i)
      congr 1
      omega
    rw [e]
    show f j * r.getD k 0 + dot k ((List.range told.length).map fun i => f (j + 1 + i)) told = _
    rw [dot_one k f told m hf (j + 1), hf j]
    by_cases h1 : j = m
    · subst h1
      rw [if_pos rfl, if_neg (by omega), if_pos (by simp), Nat.sub_self]
      simp
    · rw [if_neg h1]
      by_cases h2 : j + 1 ≤ m ∧ m < j + 1 + told.length
      · rw [if_pos h2, if_pos (by rw [List.length_cons]; omega)]
        have e2 : m - j = (m - (j + 1)) + 1 := by omega
        rw [e2]
        simp
      · rw [if_neg h2, if_neg (by rw [List.length_cons]; omega)]
        simp
theorem gstep_one {R : GRules} {n : Nat} (h : n < R.length) : gstep (R.map (counted R.length)) R.length (counted R.length [n]) = counted R.length (ruleOf R n) := by
  unfold gstep
  show (List.range R.length).map (fun k => dot k (counted R.length [n]) (R.map (counted R.length))) = (List.range R.length).map fun k => ((ruleOf R n).count k : Int)
  apply List.map_congr_left
  intro k hk
  have hk : k < R.length := List.mem_range.mp hk
  have e := dot_one k (fun i => (([n] : GRow).count i : Int)) (R.map (counted R.length)) n (fun i => by
    show ((([n] : GRow).count i : Nat) : Int) = _
    rw [List.count_cons, List.count_nil]
    by_cases q : i = n
    · subst q
      simp
    · rw [if_neg q]
      have : ¬ (n == i) = true := by simp; omega
      simp [this]) 0
  rw [List.length_map] at e
  have e0 : (List.range R.length).map (fun i => (([n] : GRow).count (0 + i) : Int)) = counted R.length [n] := by
    unfold counted
    apply List.map_congr_left
    intro i _
    rw [Nat.zero_add]
  rw [e0, if_pos (by omega)] at e
  rw [e, Nat.sub_zero]
  have e3 : (R.map (counted R.length)).getD n [] = counted R.length (ruleOf R n) := by
    rw [List.getD_eq_getElem?_getD, List.getElem?_map, rule_get h]
    rfl
  rw [e3, counted_getD hk]
theorem gstep_counted {R : GRules} : ∀ {r : GRow}, RowOk R.length r → gstep (R.map (counted R.length)) R.length (counted R.length r) = counted R.length (once R r)
  | [], _ => by
    have z : ∀ (told : List (List Int)) (k m : Nat), dot k ((List.range m).map fun _ => (0 : Int)) told = 0 := by
      intro told
      induction told with
      | nil => intro k m; cases m <;> simp [dot, List.range_succ_eq_map]
      | cons a told ih =>
        intro k m
        cases m with
        | zero => rfl
        | succ m =>
          have e : (List.range (m + 1)).map (fun _ => (0 : Int)) = 0 :: (List.range m).map fun _ => 0 := by
            rw [List.range_succ_eq_map, List.map_cons, List.map_map]
            rfl
          rw [e]
          show 0 * a.getD k 0 + dot k ((List.range m).map fun _ => 0) told = 0
          rw [ih]
          simp
    show (List.range R.length).map (fun k => dot k ((List.range R.length).map fun _ => (0 : Int)) (R.map (counted R.length))) = (List.range R.length).map fun _ => (0 : Int)
    apply List.map_congr_left
    intro k _
    exact z _ k _
  | n :: r, ok => by
    have h1 := gstep_one ok.head
    have h2 := gstep_counted ok.tail
    rw [show n :: r = [n] ++ r from rfl, counted_append, once_append, counted_append, once_one, ← h1, ← h2]
    unfold gstep
    apply List.ext_getElem?
    intro i
    by_cases hi : i < R.length
    · rw [List.getElem?_map, List.getElem?_range hi, List.getElem?_zipWith, List.getElem?_map, List.getElem?_map, List.getElem?_range hi]
      have e := dot_add i (counted R.length [n]) (counted R.length r) (R.map (counted R.length)) (by rw [counted_length, counted_length])
      exact congrArg some e
    · rw [List.getElem?_eq_none (by simp; omega), List.getElem?_eq_none (by simp; omega)]
theorem gcs_counted {R : GRules} (ok : RulesOk R) : ∀ (t : Nat) {r : GRow}, RowOk R.length r → gcs R t (counted R.length r) = counted R.length (grow R t r)
  | 0, _, _ => rfl
  | t + 1, r, h => by
    show gtimes _ _ t (gstep _ _ (counted R.length r)) = counted R.length (grow R t (once R r))
    rw [gstep_counted h]
    exact gcs_counted ok t (once_ok ok r)
theorem counted_sum {k : Nat} : ∀ {r : GRow}, RowOk k r → (counted k r).sum = (r.length : Int)
  | [], _ => by
    show ((List.range k).map fun _ => (0 : Int)).sum = 0
    generalize List.range k = l
    induction l with
    | nil => rfl
    | cons a l ih => rw [List.map_cons, List.sum_cons, ih]; rfl
  | n :: r, ok => by
    have e1 : (List.zipWith (· + ·) (counted k [n]) (counted k r)).sum = (counted k [n]).sum + (counted k r).sum := by
      have z : ∀ (a b : List Int), a.length = b.length → (List.zipWith (· + ·) a b).sum = a.sum + b.sum := by
        intro a
        induction a with
        | nil => intro b h; cases b with
          | nil => rfl
          | cons _ _ => exact absurd h (by simp)
        | cons x a ih => intro b h; cases b with
          | nil => exact absurd h (by simp)
          | cons y b =>
            rw [List.zipWith_cons_cons, List.sum_cons, List.sum_cons, List.sum_cons, ih b (by simpa using h)]
            omega
      exact z _ _ (by rw [counted_length, counted_length])
    have e2 : (counted k [n]).sum = 1 := by
      have z : ∀ (m : Nat), ((List.range m).map fun i => (([n] : GRow).count i : Int)).sum = if n < m then 1 else 0 := by
        intro m
        induction m with
        | zero => rfl
        | succ m ih =>
          rw [List.range_succ, List.map_append, List.sum_append, ih]
          have e : (([n] : GRow).count m : Int) = if m = n then 1 else 0 := by
            rw [List.count_cons, List.count_nil]
            by_cases q : m = n
            · subst q; simp
            · have : ¬ (n == m) = true := by simp; omega
              simp [this, q]
          simp only [List.map_cons, List.map_nil, List.sum_cons, List.sum_nil, e]
          by_cases q : m = n
          · subst q; simp
          · by_cases q2 : n < m
            · rw [if_pos q2, if_neg q, if_pos (by omega)]; rfl
            · rw [if_neg q2, if_neg q, if_neg (by omega)]; rfl
      have := z k
      rw [if_pos ok.head] at this
      exact this
    rw [show n :: r = [n] ++ r from rfl, counted_append, e1, e2, counted_sum ok.tail, List.length_append]
    simp
end Gw

/-! growrow: what skipped reckons, turn by turn. -/
namespace Gw
theorem counted_snoc {k n : Nat} {r : GRow} (h : n < k) : (counted k r).set n ((r.count n : Int) + 1) = counted k (r ++ [n]) := by
  apply List.ext_getElem?
  intro i
  by_cases hi : i < k
  · rw [counted_get hi, List.getElem?_set]
    by_cases e : n = i
    · subst e
      rw [if_pos rfl, if_pos (by rw [counted_length]; exact h), List.count_append]
      simp
    · rw [if_neg e, counted_get hi, List.count_append]
      simp [List.count_cons, e]
  · rw [List.getElem?_eq_none (by rw [List.length_set, counted_length]; omega), List.getElem?_eq_none (by rw [counted_length]; omega)]
theorem take_snoc {r : GRow} {j n : Nat} (h : r[j]? = some n) : r.take (j + 1) = r.take j ++ [n] := by
  rw [List.take_add_one, h]
  rfl
theorem split_at {r : GRow} {j n : Nat} (h : r[j]? = some n) : r = r.take j ++ n :: r.drop (j + 1) := by
  obtain ⟨hj, e⟩ := List.getElem?_eq_some_iff.mp h
  subst e
  exact (List.take_append_drop j r).symm.trans (by rw [List.drop_eq_getElem_cons hj])
theorem grow_len_append (R : GRules) (t : Nat) (a b : GRow) : (grow R t (a ++ b)).length = (grow R t a).length + (grow R t b).length := by
  rw [grow_append, List.length_append]

/-- where a turn of skipped begins: at t times to go; A was passed over, now comes next, left letters of it -/
structure SkipAt (R : GRules) (G : GRow) (many t : Nat) (A now : GRow) (left : Nat) : Prop where
  okA : RowOk R.length A
  okN : RowOk R.length now
  row : ∃ rest, G = grow R t A ++ (grow R t now ++ rest)
  sum : many = (grow R t A).length + left
  le : left ≤ (grow R t now).length
  lt : many < G.length → left < (grow R t now).length
/-- within the turn, behind j letters of now -/
def SkipIn (R : GRules) (t : Nat) (A now : GRow) (left j : Nat) (f : List Int) (l : Int) : Option Nat → Prop
  | none => f = counted R.length (A ++ now.take j) ∧ ∃ m : Nat, l = (m : Int) ∧ left = (grow R t (now.take j)).length + m
  | some n => ∃ p q, now = p ++ n :: q ∧ f = counted R.length (A ++ p) ∧ ∃ m : Nat, l = (m : Int) ∧ left = (grow R t p).length + m ∧ m < (grow R t [n]).length
section
variable {R : GRules} {G A now : GRow} {many t left j n : Nat} {f : List Int} {l : Int}
theorem skip_first (ok : RulesOk R) {row : GRow} (hr : RowOk R.length row) (hm : many ≤ (grow R t row).length) : SkipAt R (grow R t row) many t [] row many :=
  ⟨RowOk.nil _, hr, ⟨[], by rw [grow_nil]; simp⟩, by rw [grow_nil]; simp, hm, id⟩
theorem skipIn_start : SkipIn R t A now left 0 (counted R.length A) (left : Int) none := ⟨by simp, left, rfl, by simp [grow_nil]⟩
theorem skipIn_take (ok : RulesOk R) (hn : RowOk R.length now) (h : now[j]? = some n) (I : SkipIn R t A now left j f l none) (hl : (lens R t).getD n 0 ≤ l) :
    SkipIn R t A now left (j + 1) (f.set n (f.getD n 0 + 1)) (l - (lens R t).getD n 0) none := by
  obtain ⟨rfl, m, rfl, e⟩ := I
  have hk : n < R.length := hn.get h
  rw [lens_letter ok t n hk] at hl ⊢
  refine ⟨?_, m - (grow R t [n]).length, by omega, ?_⟩
  · rw [counted_getD hk, counted_snoc hk, take_snoc h, List.append_assoc]
  · rw [take_snoc h, grow_len_append]
    omega
theorem skipIn_stop (ok : RulesOk R) (hn : RowOk R.length now) (h : now[j]? = some n) (I : SkipIn R t A now left j f l none) (hl : ¬ (lens R t).getD n 0 ≤ l) :
    SkipIn R t A now left (j + 1) f l (some n) := by
  obtain ⟨rfl, m, rfl, e⟩ := I
  rw [lens_letter ok t n (hn.get h)] at hl
  exact ⟨now.take j, now.drop (j + 1), split_at h, rfl, m, rfl, e, by omega⟩
theorem skipIn_over {x : Nat} (I : SkipIn R t A now left j f l (some x)) : SkipIn R t A now left (j + 1) f l (some x) := I
/-- no letter was met: all of now is passed over -/
theorem skip_none (ok : RulesOk R) (S : SkipAt R G many t A now left) (I : SkipIn R t A now left now.length f l none) : gcs R t f = counted R.length (G.take many) ∧ many = G.length := by
  obtain ⟨rfl, m, rfl, e⟩ := I
  rw [List.take_length] at e ⊢
  obtain ⟨rest, hG⟩ := S.row
  have hle := S.le
  have hm : m = 0 := by omega
  subst hm
  have hs := S.sum
  have e1 : many = (grow R t (A ++ now)).length := by rw [grow_len_append]; omega
  have e2 : G = grow R t (A ++ now) ++ rest := by rw [hG, grow_append, List.append_assoc]
  refine ⟨?_, ?_⟩
  · rw [gcs_counted ok t (S.okA.append S.okN), e2, e1, List.take_left]
  · have hlt := S.lt
    have : G.length = (grow R t A).length + (grow R t now).length + rest.length := by rw [hG]; simp; omega
    by_cases q : many < G.length
    · have := hlt q
      omega
    · omega
/-- a letter was met, at no times to go -/
theorem skip_last (ok : RulesOk R) (S : SkipAt R G many 0 A now left) {x : Nat} (I : SkipIn R 0 A now left j f l (some x)) : gcs R 0 f = counted R.length (G.take many) ∧ G[many]? = some x := by
  obtain ⟨p, q, e, rfl, m, rfl, e1, e2⟩ := I
  obtain ⟨rest, hG⟩ := S.row
  have hs := S.sum
  have hm : m = 0 := by
    have : (grow R 0 [x]).length = 1 := rfl
    omega
  subst hm
  have e3 : (grow R 0 p).length = p.length := rfl
  have e4 : (grow R 0 A).length = A.length := rfl
  have e5 : G = (A ++ p) ++ x :: (q ++ rest) := by
    rw [hG, e]
    show A ++ ((p ++ x :: q) ++ rest) = _
    simp
  have e6 : many = (A ++ p).length := by rw [List.length_append]; omega
  refine ⟨?_, ?_⟩
  · show counted R.length (A ++ p) = counted R.length (G.take many)
    rw [e5, e6, List.take_left]
  · rw [e5, e6, List.getElem?_append_right (Nat.le_refl _), Nat.sub_self]
    rfl
/-- a letter was met: within its rule, one time less -/
theorem skip_next (ok : RulesOk R) (S : SkipAt R G many (t + 1) A now left) {x : Nat} (I : SkipIn R (t + 1) A now left j f l (some x)) :
    x < R.length ∧ ∃ (A' : GRow) (left' : Nat), gcs R 1 f = counted R.length A' ∧ l = (left' : Int) ∧ SkipAt R G many t A' (ruleOf R x) left' := by
  obtain ⟨p, q, e, rfl, m, rfl, e1, e2⟩ := I
  obtain ⟨rest, hG⟩ := S.row
  have hs := S.sum
  have okN : RowOk R.length (p ++ x :: q) := e ▸ S.okN
  have hx : x < R.length := okN.right.head
  refine ⟨hx, once R (A ++ p), m, gcs_counted ok 1 (S.okA.append okN.left), rfl, once_ok ok _, rule_ok ok _, ⟨grow R (t + 1) q ++ rest, ?_⟩, ?_, ?_, fun _ => ?_⟩
  · rw [hG, e]
    show grow R (t + 1) A ++ (grow R (t + 1) (p ++ ([x] ++ q)) ++ rest) = grow R (t + 1) (A ++ p) ++ (grow R t (ruleOf R x) ++ (grow R (t + 1) q ++ rest))
    rw [grow_append, grow_append, grow_append, show grow R t (ruleOf R x) = grow R (t + 1) [x] by rw [← once_one]; rfl]
    simp
  · show many = (grow R (t + 1) (A ++ p)).length + m
    rw [grow_len_append]
    omega
  · have : grow R t (ruleOf R x) = grow R (t + 1) [x] := by rw [← once_one]; rfl
    rw [this]
    omega
  · have : grow R t (ruleOf R x) = grow R (t + 1) [x] := by rw [← once_one]; rfl
    rw [this]
    exact e2
end
end Gw

namespace Gw
/-- the sum over places is the dot product -/
theorem dot_range (k : Nat) : ∀ (now : List Int) (told : List (List Int)), now.length = told.length →
    ((List.range now.length).map fun i => now.getD i 0 * (told.getD i []).getD k 0).sum = dot k now told
  | [], [], _ => rfl
  | [], _ :: _, h => absurd h (by simp)
  | _ :: _, [], h => absurd h (by simp)
  | a :: now, r :: told, h => by
    have ih := dot_range k now told (by simpa using h)
    rw [List.length_cons, List.range_succ_eq_map, List.map_cons, List.sum_cons, List.map_map]
    show a * r.getD k 0 + _ = a * r.getD k 0 + dot k now told
    rw [← ih]
    rfl
theorem gstep_length (told : List (List Int)) (n : Nat) (now : List Int) : (gstep told n now).length = n := by simp [gstep]
theorem gtimes_length (told : List (List Int)) (n : Nat) : ∀ (t : Nat) (now : List Int), now.length = n → (gtimes told n t now).length = n
  | 0, _, h => h
  | t + 1, now, _ => gtimes_length told n t (gstep told n now) (gstep_length told n now)
end Gw

namespace Gw
theorem rep_take_len {R : GRules} {n : Nat} (hR : 1 ≤ R.length) (hn : n ≤ 26) : ((List.replicate 26 R).flatten.take n).length = n := by
  rw [List.length_take]
  have : (List.replicate 26 R).flatten.length = R.length * 26 := by
    have z : ∀ k, (List.replicate k R).flatten.length = R.length * k := by
      intro k
      induction k with
      | zero => rfl
      | succ k ih =>
        rw [List.replicate_succ, List.flatten_cons, List.length_append, ih, Nat.mul_succ]
        omega
    exact z 26
  rw [this]
  omega
theorem once_beh (R S : GRules) (hl : R.length = S.length) : ∀ r : GRow, RowOk R.length r → once (R.map (once S)) r = once S (once R r)
  | [], _ => rfl
  | n :: r, h => by
    rw [once_cons, once_cons, once_append, once_beh R S hl r h.tail]
    congr 1
    unfold ruleOf
    have hn := h.head
    rw [List.getD_eq_getElem?_getD, List.getD_eq_getElem?_getD, List.getElem?_map, List.getElem?_eq_getElem hn]
    rfl
theorem beh_ok {R S : GRules} (hR : RulesOk R) (hS : RulesOk S) (hl : R.length = S.length) : RulesOk (R.map (once S)) :=
  ⟨by rw [List.length_map]; exact hR.pos, by rw [List.length_map]; exact hR.few, fun r hr => by
    rw [List.length_map]
    obtain ⟨q, _, rfl⟩ := List.mem_map.mp hr
    rw [hl]
    exact once_ok hS q⟩
/-- rules that grow as others do so many times -/
theorem grow_times {R S : GRules} (hS : RulesOk S) (k : Nat) (hk : ∀ r, RowOk S.length r → once R r = grow S k r) : ∀ (t : Nat) {r : GRow}, RowOk S.length r → grow R t r = grow S (k * t) r
  | 0, _, _ => rfl
  | t + 1, r, h => by
    show grow R t (once R r) = grow S (k * (t + 1)) r
    rw [hk r h, grow_times hS k hk t (grow_ok hS k h), Nat.mul_succ, Nat.add_comm, grow_add]
theorem once_bound {R : GRules} {c : Nat} (h : ∀ r ∈ R, r.length ≤ c) : ∀ r : GRow, (once R r).length ≤ r.length * c
  | [] => Nat.zero_le _
  | n :: r => by
    rw [once_cons, List.length_append, List.length_cons, Nat.succ_mul]
    have ih := once_bound h r
    have : (ruleOf R n).length ≤ c := by
      unfold ruleOf
      rw [List.getD_eq_getElem?_getD]
      cases e : R[n]? with
      | none => exact Nat.zero_le _
      | some q => exact h q (List.mem_of_getElem? e)
    omega
end Gw

/-! growrow: letters as texts, what readings evaluate to (over Evl), own rules. -/
namespace Gw
open PySem PySem.Spec PyProof.Rows L2 Evl

/-! ### letters -/
def cd (l : List Nat) : List Nat := l.map (97 + ·)
def enc (l : GRow) : Str := ⟨(cd l).toArray⟩
def sg (n : Nat) : Str := ⟨#[97 + n]⟩
def ALPH : Str := enc (List.range 26)
theorem enc_one (n : Nat) : enc [n] = sg n := rfl
theorem enc_len (l : GRow) : (enc l).length = l.length := by simp [enc, cd, Str.length]
theorem enc_inj {a b : GRow} (h : enc a = enc b) : a = b := by
  have e : cd a = cd b := congrArg (fun x : Str => x.cps.toList) h
  exact List.map_inj_right (fun x y h => Nat.add_left_cancel h) |>.mp e
theorem sg_inj {a b : Nat} (h : sg a = sg b) : a = b := by
  have := enc_inj (a := [a]) (b := [b]) h
  simpa using this
theorem enc_nil : enc [] = Str.ofString "" := by decide +kernel
theorem alph_eq : (Str.ofString "abcdefghijklmnopqrstuvwxyz") = ALPH := by decide +kernel
theorem alph_len : ALPH.length = 26 := by decide +kernel
theorem cd_range_get {n : Nat} (h : n < 26) : ALPH.cps.toList[n]? = some (97 + n) := by
  show (cd (List.range 26))[n]? = some (97 + n)
  unfold cd
  rw [List.getElem?_map, List.getElem?_range h]
  rfl
theorem alph_at {i : Int} {n : Nat} (e : i = (n : Int)) (h : n < 26) : atI ALPH.cps.toList i = some (97 + n) := by
  rw [e]
  exact atI_nat (cd_range_get h)
/-- each letter's place among the letters -/
theorem alph_occ {n : Nat} (h : n < 26) : ∃ rest, Builtin.Str.occurrences ALPH (sg n) 0 ALPH.length 1 = n :: rest := by
  have z : ∀ n, n < 26 → (Builtin.Str.occurrences ALPH (sg n) 0 ALPH.length 1).head? = some n := by decide +kernel
  have e := z n h
  cases q : Builtin.Str.occurrences ALPH (sg n) 0 ALPH.length 1 with
  | nil => rw [q] at e; cases e
  | cons a r =>
    rw [q] at e
    cases e
    exact ⟨r, rfl⟩

theorem enc_get {l : GRow} {i c : Nat} (h : (enc l).cps[i]? = some c) : ∃ n, l[i]? = some n ∧ c = 97 + n := by
  have e : (cd l)[i]? = some c := by
    have q : (enc l).cps.toList[i]? = some c := by
      rw [Array.getElem?_toList]
      exact h
    exact q
  unfold cd at e
  rw [List.getElem?_map] at e
  cases q : l[i]? with
  | none => rw [q] at e; cases e
  | some n =>
    rw [q] at e
    exact ⟨n, rfl, (Option.some.inj e).symm⟩
theorem enc_size (l : GRow) : (enc l).cps.size = l.length := by simp [enc, cd]
theorem enc_append (a b : GRow) : enc a ++ enc b = enc (a ++ b) := by
  have e := SX.S_cat (cd a) (cd b)
  show SX.S (cd a) ++ SX.S (cd b) = SX.S (cd (a ++ b))
  rw [e]
  simp [cd]
theorem joinL_nil : ∀ l : List (List Nat), TL.joinL [] l = l.flatten
  | [] => rfl
  | [a] => by simp [TL.joinL]
  | a :: b :: l => by
    have ih := joinL_nil (b :: l)
    show a ++ ([] ++ TL.joinL [] (b :: l)) = (a :: b :: l).flatten
    rw [ih]
    simp
theorem join_enc (ls : List GRow) : Txt.join (enc []) (ls.map enc) = enc ls.flatten := by
  have e := SX.join_S [] (ls.map cd)
  rw [joinL_nil, List.map_map] at e
  have e2 : (ls.map cd).flatten = cd ls.flatten := by
    unfold cd
    rw [List.map_flatten]
  rw [e2] at e
  exact e
theorem cut_take {l : GRow} {i : Int} (h : 0 ≤ i) : cutS (enc l) none (some i) = enc (l.take i.toNat) := by
  rw [C8.cutS_slice]
  refine (SX.slice_to (a := cd l) h).trans ?_
  show SX.S _ = SX.S _
  unfold cd
  rw [List.map_take]
theorem alph_cut {k : Nat} (h : k ≤ 26) : cutS ALPH none (some (k : Int)) = enc (List.range k) := by
  unfold ALPH
  rw [cut_take (by omega), Int.toNat_natCast]
  congr 1
  apply List.ext_getElem?
  intro i
  by_cases hi : i < k
  · rw [List.getElem?_take_of_lt hi, List.getElem?_range hi, List.getElem?_range (by omega)]
  · rw [List.getElem?_eq_none (by simp; omega), List.getElem?_eq_none (by simp; omega)]

theorem count_enc (l : GRow) (n : Nat) : Txt.count (enc l) (sg n) = (l.count n : Int) := by
  rw [show sg n = ⟨#[97 + n]⟩ from rfl, count_cnt]
  show cnt (97 + n) (cd l) = _
  induction l with
  | nil => rfl
  | cons a l ih =>
    show cnt (97 + n) ((97 + a) :: cd l) = _
    rw [cnt_cons, ih, List.count_cons]
    by_cases e : a = n
    · subst e
      simp
      omega
    · rw [if_neg (by omega)]
      have : ¬ (a == n) = true := by simpa using e
      simp [e]
theorem tw_all {p : Nat → Bool} : ∀ {l : List Nat}, (∀ a ∈ l, p a = true) → l.takeWhile p = l
  | [], _ => rfl
  | a :: l, h => by rw [List.takeWhile_cons, if_pos (h a List.mem_cons_self), tw_all fun b hb => h b (List.mem_cons_of_mem _ hb)]
theorem tw_mem {p : Nat → Bool} : ∀ {l : List Nat} {a : Nat}, a ∈ l.takeWhile p → p a = true
  | [], a, h => absurd h (by simp)
  | b :: l, a, h => by
    rw [List.takeWhile_cons] at h
    by_cases hb : p b = true
    · rw [if_pos hb] at h
      rcases List.mem_cons.mp h with e | h
      · rw [e]; exact hb
      · exact tw_mem h
    · rw [if_neg hb] at h
      cases h
theorem strip_all {x y : Str} (h : x.cps.toList.all y.cps.contains = true) : Txt.stripChars x y = Str.ofString "" := by
  have lo : PySem.stripLo y.cps.contains true x = x.length := by
    unfold PySem.stripLo
    rw [if_pos rfl, tw_all (fun a ha => List.all_eq_true.mp h a ha)]
    simp [Str.length]
  unfold Txt.stripChars Txt.stripBy PySem.stripSame PySem.stripped
  rw [lo]
  by_cases hz : x.length = 0
  · have e : x = Str.ofString "" := by
      apply TL.ext_tl
      have : x.cps.toList = [] := by
        apply List.eq_nil_of_length_eq_zero
        simpa [Str.length] using hz
      show x.cps.toList = _
      rw [this]
      decide +kernel
    by_cases q : (x.length == 0 && PySem.stripHi y.cps.contains true x x.length == x.length) = true
    · rw [if_pos q, e]
    · rw [if_neg q]
      subst e
      apply TL.ext_tl
      rw [show TL.tl (Builtin.Str.strSub (Str.ofString "") _ _) = _ from StrLaws.strSub_toList .., show (Str.ofString "").cps.toList = [] by decide +kernel, show TL.tl (Str.ofString "") = [] by decide +kernel]
      simp
  · rw [if_neg (by simp [hz])]
    apply TL.ext_tl
    rw [show TL.tl (Str.ofString "") = [] by decide +kernel]
    show (Builtin.Str.strSub x x.length _).cps.toList = []
    rw [StrLaws.strSub_toList]
    rw [List.drop_eq_nil_of_le (by simp [Str.length])]
    simp
theorem strip_some {x y : Str} (h : ¬ x.cps.toList.all y.cps.contains = true) : Txt.stripChars x y ≠ Str.ofString "" := by
  intro e
  have tl0 : TL.tl (Str.ofString "") = [] := by decide +kernel
  have ex : ∃ a ∈ x.cps.toList, ¬ y.cps.contains a = true := by
    by_cases q : ∃ a ∈ x.cps.toList, ¬ y.cps.contains a = true
    · exact q
    · refine absurd (List.all_eq_true.mpr fun a ha => ?_) h
      by_cases z : y.cps.contains a = true
      · exact z
      · exact absurd ⟨a, ha, z⟩ q
  obtain ⟨a, ha, hna⟩ := ex
  unfold Txt.stripChars Txt.stripBy at e
  by_cases q : PySem.stripSame y.cps.contains true true x = true
  · rw [if_pos q] at e
    rw [e] at ha
    rw [show (Str.ofString "").cps.toList = [] from tl0] at ha
    cases ha
  · rw [if_neg q] at e
    have e2 : TL.tl (PySem.stripped y.cps.contains true true x) = [] := by rw [e]; exact tl0
    unfold PySem.stripped at e2
    rw [show TL.tl (Builtin.Str.strSub x _ _) = _ from StrLaws.strSub_toList ..] at e2
    -- the letters of x: those taken off its head, the rest
    have hsplit : x.cps.toList = x.cps.toList.takeWhile y.cps.contains ++ x.cps.toList.dropWhile y.cps.contains := (List.takeWhile_append_dropWhile).symm
    have hlo : PySem.stripLo y.cps.contains true x = (x.cps.toList.takeWhile y.cps.contains).length := by
      unfold PySem.stripLo
      rw [if_pos rfl]
    have hdrop : x.cps.toList.drop (PySem.stripLo y.cps.contains true x) = x.cps.toList.dropWhile y.cps.contains := by
      rw [hlo]
      have z := List.drop_left (l₁ := x.cps.toList.takeWhile y.cps.contains) (l₂ := x.cps.toList.dropWhile y.cps.contains)
      rw [← hsplit] at z
      exact z
    have hne : x.cps.toList.dropWhile y.cps.contains ≠ [] := by
      intro z
      rw [z, List.append_nil] at hsplit
      rw [hsplit] at ha
      exact hna (tw_mem ha)
    unfold PySem.stripHi at e2
    rw [if_pos rfl, hdrop] at e2
    have hl : x.length = (x.cps.toList.takeWhile y.cps.contains).length + (x.cps.toList.dropWhile y.cps.contains).length := by
      rw [← List.length_append, List.takeWhile_append_dropWhile]
      simp [Str.length]
    have hlt : ((x.cps.toList.dropWhile y.cps.contains).reverse.takeWhile y.cps.contains).length < (x.cps.toList.dropWhile y.cps.contains).length := by
      have hle := (List.takeWhile_sublist (p := y.cps.contains) (l := (x.cps.toList.dropWhile y.cps.contains).reverse)).length_le
      rw [List.length_reverse] at hle
      rcases Nat.lt_or_ge ((x.cps.toList.dropWhile y.cps.contains).reverse.takeWhile y.cps.contains).length (x.cps.toList.dropWhile y.cps.contains).length with z | z
      · exact z
      · exfalso
        have heq : (x.cps.toList.dropWhile y.cps.contains).reverse.takeWhile y.cps.contains = (x.cps.toList.dropWhile y.cps.contains).reverse :=
          (List.takeWhile_sublist _).eq_of_length (by rw [List.length_reverse]; omega)
        have hall : ∀ a ∈ (x.cps.toList.dropWhile y.cps.contains).reverse, y.cps.contains a = true := fun a ha => by rw [← heq] at ha; exact tw_mem ha
        cases hd : x.cps.toList.dropWhile y.cps.contains with
        | nil => exact hne hd
        | cons c r =>
          have h1 := hall c (by rw [hd]; simp)
          have h2 := List.head_dropWhile_not (p := y.cps.contains) (l := x.cps.toList) (by rw [hd]; simp)
          have h3 : (x.cps.toList.dropWhile y.cps.contains).head (by rw [hd]; simp) = c := by simp [hd]
          rw [h3, h1] at h2
          cases h2
    have := congrArg List.length e2
    rw [List.length_take, List.length_nil, hlo] at this
    omega
/-- a text of the first k letters alone -/
def isLet (k : Nat) (z : Str) : Bool := z.cps.toList.all (enc (List.range k)).cps.contains
theorem strip_eq (k : Nat) (z : Str) : decide (V.str (Txt.stripChars z (enc (List.range k))) = V.str (Str.ofString "")) = isLet k z := by
  cases h : isLet k z with
  | true =>
    rw [strip_all h]
    exact decide_eq_true rfl
  | false =>
    refine decide_eq_false fun e => ?_
    have h2 : ¬ isLet k z = true := by rw [h]; exact Bool.false_ne_true
    exact strip_some h2 (V.str.inj e)
theorem let_mem {k c : Nat} : (enc (List.range k)).cps.contains c = true ↔ ∃ n, n < k ∧ c = 97 + n := by
  rw [Array.contains_iff]
  have e : c ∈ (enc (List.range k)).cps ↔ c ∈ cd (List.range k) := by
    rw [← Array.mem_toList_iff]
    exact Iff.rfl
  rw [e]
  unfold cd
  rw [List.mem_map]
  constructor
  · rintro ⟨n, hn, rfl⟩
    exact ⟨n, List.mem_range.mp hn, rfl⟩
  · rintro ⟨n, hn, rfl⟩
    exact ⟨n, List.mem_range.mpr hn, rfl⟩
theorem isLet_enc {k : Nat} {l : GRow} (h : RowOk k l) : isLet k (enc l) = true := by
  refine List.all_eq_true.mpr fun c hc => let_mem.mpr ?_
  have hc : c ∈ cd l := hc
  unfold cd at hc
  obtain ⟨n, hn, rfl⟩ := List.mem_map.mp hc
  exact ⟨n, h n hn, rfl⟩
theorem isLet_iff {k : Nat} {l : GRow} : isLet k (enc l) = true ↔ RowOk k l := by
  constructor
  · intro h n hn
    have := List.all_eq_true.mp h (97 + n) (by show _ ∈ cd l; unfold cd; exact List.mem_map.mpr ⟨n, hn, rfl⟩)
    obtain ⟨m, hm, e⟩ := let_mem.mp this
    omega
  · exact isLet_enc
end Gw

namespace Gw
open PySem PySem.Spec PyProof.Rows L2 Evl
/-! ### a reading of two kinds -/
theorem pe_or2 {X : Cx} {e : Expr} {t1 t2 : TE} (h1 : PE X e t1) (h2 : PE X e t2) : PE X e (fun σ H Q => t1 σ H Q ∨ t2 σ H Q) :=
  ⟨fun pins s σ H Q I h => h.elim (h1.run pins s σ H Q I) (h2.run pins s σ H Q I)⟩

/-! ### texts -/
section
variable {K : PySem.W.Frag} {σ : L2.St} {H H' : Hp} {ta tb te to : TE} {t u : TT} {x y v : V} {z : Str} {l : GRow} {n : Nat}
def rSIdx : V → List V → Hp → VK → Prop := fun x xs H Q => ∃ a b i rest, x = .str a ∧ xs = [.str b] ∧ Builtin.Str.occurrences a b 0 a.length 1 = i :: rest ∧ Q (.int (i : Nat)) H
theorem ev_bmS {r : V → List V → Hp → VK → Prop} {ta : TA} {vs : List V} (ho : Ev to σ H (.str z)) (ha : EvA ta σ H vs) (hr : ∀ H1 Q, Q v H1 → r (.str z) vs H1 Q) : Ev (tBM K "str" r to ta) σ H v := fun H1 e Q q =>
  ho H1 e _ fun H2 e2 => ⟨rfl, ha H2 (e.trans e2) _ fun H3 e3 => hr H3 Q (q H3 (e2.trans e3))⟩
theorem ea_one (h : Ev te σ H x) : EvA (tCons te tNil) σ H [x] := ea_cons h ea_nil
theorem ea_two (h : Ev ta σ H x) (h2 : Ev tb σ H y) : EvA (tCons ta (tCons tb tNil)) σ H [x, y] := ea_cons h (ea_cons h2 ea_nil)
theorem ea_three {w : V} (h : Ev ta σ H x) (h2 : Ev tb σ H y) (h3 : Ev te σ H w) : EvA (tCons ta (tCons tb (tCons te tNil))) σ H [x, y, w] := ea_cons h (ea_cons h2 (ea_cons h3 ea_nil))
/-- LETTERS.index(letter) -/
theorem ev_idx (ho : Ev to σ H (.str ALPH)) (h : Ev te σ H (.str (sg n))) (hn : n < 26) : Ev (tBM K "str" rSIdx to (tCons te tNil)) σ H (.int (n : Int)) :=
  ev_bmS ho (ea_one h) fun H1 Q q => by
    obtain ⟨rest, e⟩ := alph_occ hn
    exact ⟨ALPH, sg n, n, rest, rfl, rfl, e, q⟩
def rSCount : V → List V → Hp → VK → Prop := fun x xs H Q => ∃ a b, x = .str a ∧ xs = [.str b] ∧ Q (.int (Txt.count a b)) H
theorem ev_count (ho : Ev to σ H (.str (enc l))) (h : Ev te σ H (.str (sg n))) : Ev (tBM K "str" rSCount to (tCons te tNil)) σ H (.int (l.count n : Int)) :=
  ev_bmS ho (ea_one h) fun H1 Q q => ⟨enc l, sg n, rfl, rfl, by rw [count_enc]; exact q⟩
def rSStrip : V → List V → Hp → VK → Prop := fun x xs H Q => ∃ a b, x = .str a ∧ xs = [.str b] ∧ a.length ≤ sizeLine ∧ Q (.str (Txt.stripChars a b)) H
theorem ev_strip {b : Str} (ho : Ev to σ H (.str z)) (h : Ev te σ H (.str b)) (hz : z.length ≤ sizeLine) : Ev (tBM K "str" rSStrip to (tCons te tNil)) σ H (.str (Txt.stripChars z b)) :=
  ev_bmS ho (ea_one h) fun H1 Q q => ⟨z, b, rfl, rfl, hz, q⟩
theorem ev_slS {tl th : TO} {lo hi : Option Int} (h : Ev te σ H (.str z)) (h1 : EvO tl σ H lo) (h2 : EvO th σ H hi) (hz : z.length ≤ sizeLine) : Ev (tSl rSlS te tl th) σ H (.str (cutS z lo hi)) := fun H1 e Q q =>
  h H1 e _ fun H2 e2 => h1 H2 (e.trans e2) _ fun H3 e3 => h2 H3 ((e.trans e2).trans e3) _ fun H4 e4 => ⟨z, rfl, hz, q H4 ((e2.trans e3).trans e4)⟩
theorem alph_sz : ALPH.length ≤ sizeLine := by rw [alph_len]; decide
/-- LETTERS[:k] -/
theorem ev_alphCut {th : TO} {k : Nat} (h : Ev te σ H (.str ALPH)) (h2 : EvO th σ H (some (k : Int))) (hk : k ≤ 26) : Ev (tSl rSlS te tNoPart th) σ H (.str (enc (List.range k))) :=
  ev_is (ev_slS h eo_none h2 alph_sz) (by rw [alph_cut hk])
theorem ev_take {th : TO} {i : Int} (h : Ev te σ H (.str (enc l))) (h2 : EvO th σ H (some i)) (hi : 0 ≤ i) (hz : l.length ≤ sizeLine) : Ev (tSl rSlS te tNoPart th) σ H (.str (enc (l.take i.toNat))) :=
  ev_is (ev_slS h eo_none h2 (by rw [enc_len]; exact hz)) (by rw [cut_take hi])
def rSLen : List V → Hp → VK → Prop := fun xs H Q => ∃ z, xs = [.str z] ∧ z.length ≤ sizeLine ∧ Q (.int z.length) H
theorem ev_lenS (h : Ev te σ H (.str z)) (hz : z.length ≤ sizeLine) : Ev (tCB rSLen (tCons te tNil)) σ H (.int (z.length : Int)) := fun H1 e Q q =>
  h H1 e _ fun H2 e2 => ⟨z, rfl, hz, q H2 e2⟩
theorem ev_lenE (h : Ev te σ H (.str (enc l))) (hz : l.length ≤ sizeLine) : Ev (tCB rSLen (tCons te tNil)) σ H (.int (l.length : Int)) :=
  ev_is (ev_lenS h (by rw [enc_len]; exact hz)) (by rw [enc_len])
def rSJoin (K : PySem.W.Frag) : V → List V → Hp → VK → Prop := fun x xs H Q => ∃ a p, ∃ ys : List Str, x = .str a ∧ xs = [.ref p] ∧ (SqL K H p (ys.map V.str) ∨ SqT K H p (ys.map V.str)) ∧
  (ys.map (·.length)).sum + ys.length * a.length ≤ 16777216 ∧ Q (.str (Txt.join a ys)) H
theorem flat_len : ∀ ls : List GRow, ((ls.map enc).map (·.length)).sum = ls.flatten.length
  | [] => rfl
  | a :: ls => by rw [List.map_cons, List.map_cons, List.sum_cons, flat_len ls, enc_len, List.flatten_cons, List.length_append]
/-- "".join([..]), a new list of letters' texts -/
theorem ev_join {ls : List GRow} (ho : Ev to σ H (.str (enc []))) (h : EvL te σ H (ls.map fun r => V.str (enc r))) (hz : ls.flatten.length ≤ 16777216) : Ev (tM1 (rSJoin K) to te) σ H (.str (enc ls.flatten)) := fun H1 e Q q =>
  ho H1 e _ fun H2 e2 => ⟨⟨enc [], rfl⟩, h H2 (e.trans e2) _ fun p H3 _ e3 h3 => ⟨enc [], p, ls.map enc, rfl, rfl, Or.inl (sq_of (by rw [h3, List.map_map]; rfl)), by
    rw [flat_len, enc_len]
    show ls.flatten.length + (ls.map enc).length * 0 ≤ 16777216
    omega, by rw [join_enc]; exact q H3 (e2.trans e3)⟩⟩
theorem ev_eqS (s : Str) (ha : Ev ta σ H (.str z)) (hb : Ev tb σ H (.str s)) : Ev (tOp rEq ta tb) σ H (.bl (decide (V.str z = V.str s))) := ev_op ha hb (rv_eq rfl)
theorem ev_sumN {ns : List Int} (h : EvL te σ H (ns.map V.int)) : Ev (tCB (rSum K) (tCons te tNil)) σ H (.int ns.sum) := fun H1 e Q q =>
  h H1 e _ fun p H2 _ e2 h2 => ⟨p, ns, rfl, sq_of h2, q H2 e2⟩
theorem ev_sum {a : Addr} {ns : List Int} (h : Ev te σ H (.ref a)) (hs : SqL K H a (ns.map V.int)) : Ev (tCB (rSum K) (tCons te tNil)) σ H (.int ns.sum) := fun H1 e Q q =>
  h H1 e _ fun H2 e2 => ⟨a, ns, rfl, ex_l (e.trans e2) hs, q H2 e2⟩
theorem ev_allN {bs : List Bool} (h : EvL te σ H (bs.map V.bl)) : Ev (tCB (rAll K) (tCons te tNil)) σ H (.bl (bs.all id)) := fun H1 e Q q =>
  h H1 e _ fun p H2 _ e2 h2 => ⟨p, bs, rfl, sq_of h2, q H2 e2⟩
theorem ev_anyN {bs : List Bool} (h : EvL te σ H (bs.map V.bl)) : Ev (tCB (rAny K) (tCons te tNil)) σ H (.bl (bs.any id)) := fun H1 e Q q =>
  h H1 e _ fun p H2 _ e2 h2 => ⟨p, bs, rfl, sq_of h2, q H2 e2⟩
/-- isinstance(x, T) -/
theorem ty_ex {w : Value} (h : TyX K H x w) (e : Ex H H') : TyX K H' x w := by
  cases h with
  | base h => cases h with
    | non => exact .base .non
    | bl b => exact .base (.bl b)
    | int i => exact .base (.int i)
    | str s => exact .base (.str s)
    | flt f => exact .base (.flt f)
    | lst h => exact .base (.lst (e _ _ h))
    | frz h => exact .base (.frz (e _ _ h))
    | tup h => exact .base (.tup (e _ _ h))
    | dK h => exact .base (.dK (e _ _ h))
    | dT h => exact .base (.dT (e _ _ h))
    | ins h c1 c2 c3 c4 c5 => exact .base (.ins (e _ _ h) c1 c2 c3 c4 c5)
  | byt b => exact .byt b
  | set h => exact .set (e _ _ h)
  | kList h c => exact .kList h c
  | kTuple h c => exact .kTuple h c
  | kDict h c => exact .kDict h c
  | fTuple h => exact .fTuple (e _ _ h)
  | fDict h => exact .fDict (e _ _ h)
theorem ev_isi {T : String} {w : Value} {b : Bool} (h : Ev te σ H x) (ht : TyX K H x w) (hk : PySem.W.kitOne K w (.type T) = some b) : Ev (tCB (rIsi K) (tCons te (tCons (tC (.ty T)) tNil))) σ H (.bl b) := fun H1 e Q q =>
  h H1 e _ fun H2 e2 => ⟨x, .ty T, w, .type T, b, rfl, .ty T, ty_ex ht (e.trans e2), hk, q H2 e2⟩
theorem ev_isiC {C : Addr} {w : Value} {b : Bool} (h : Ev te σ H x) (ht : TyX K H x w) (hk : PySem.W.kitOne K w (.ref C) = some b) : Ev (tCB (rIsi K) (tCons te (tCons (tC (.ref C)) tNil))) σ H (.bl b) := fun H1 e Q q =>
  h H1 e _ fun H2 e2 => ⟨x, .ref C, w, .ref C, b, rfl, .own C, ty_ex ht (e.trans e2), hk, q H2 e2⟩
/-- a list's type, wherever it stands -/
theorem ty_list {a : Addr} {xs : List V} (h : SqL K H a xs) : TyX K H (.ref a) (.type "list") := by
  rcases h with (h | ⟨o, h⟩) | ⟨o, its, n, h, c, _⟩
  · exact .base (.lst h)
  · exact .base (.frz h)
  · exact .kList h c
/-- a < b < c -/
theorem ev_chain {r r' : R2} {tc : TE} {w : V} {a b : Bool} (ha : Ev ta σ H x) (hb : Ev tb σ H y) (hc : a = true → Ev tc σ H w) (h1 : RV r x y H (.bl a)) (h2 : a = true → RV r' y w H (.bl b)) : Ev (tChain r r' ta tb tc) σ H (.bl (a && b)) := fun H1 e Q q =>
  ha H1 e _ fun H2 e2 => hb H2 (e.trans e2) _ fun H3 e3 => h1 H3 ((e.trans e2).trans e3) _ fun H4 e4 => ⟨a, rfl, by
    cases a with
    | true =>
      rw [if_pos rfl]
      exact hc rfl H4 (((e.trans e2).trans e3).trans e4) _ fun H5 e5 => h2 rfl H5 ((((e.trans e2).trans e3).trans e4).trans e5) Q fun H6 e6 => q H6 ((((e2.trans e3).trans e4).trans e5).trans e6)
    | false =>
      rw [if_neg Bool.false_ne_true]
      exact q H4 ((e2.trans e3).trans e4)⟩
/-- pe_one: the last of an and, or -/
theorem ev_mul {i j : Int} (ha : Ev ta σ H (.int i)) (hb : Ev tb σ H (.int j)) (hc : CMul i j) : Ev (tOp (rI CMul fun i j => .int (i * j)) ta tb) σ H (.int (i * j)) := ev_op ha hb (rv_I hc)
end

/-! ### what is walked: n turns, its items -/
structure WI (wi : TI) (σ : L2.St) (H : Hp) (n : Nat) (Y : Nat → Hp → V → Hp → Prop) : Prop where
  go : ∀ H1, Ex H H1 → ∀ R : It → Hp → Prop, (∀ J G H2, Ex H1 H2 → Walk J n G Y → (∀ H3, Ex H2 H3 → G H3) → R J H2) → wi σ H1 R
section
variable {K : PySem.W.Frag} {σ : L2.St} {H H' : Hp} {te : TE} {ta : TA} {wi : TI} {n : Nat} {Y : Nat → Hp → V → Hp → Prop}
theorem WI.mono (e : Ex H H') (w : WI wi σ H n Y) : WI wi σ H' n Y := ⟨fun H1 e1 R k => w.go H1 (e.trans e1) R k⟩
theorem wi_list {a : Addr} {xs : List V} (h : Ev te σ H (.ref a)) (hx : SqL K H a xs) : WI (iList K te) σ H xs.length (YAt xs) :=
  ⟨fun H1 e R k => h H1 e _ fun H2 e2 => ⟨a, rfl, ⟨xs, ex_l (e.trans e2) hx⟩, k _ _ H2 e2 walk_list fun H3 e3 => ex_l ((e.trans e2).trans e3) hx⟩⟩
theorem wi_listN {xs : List V} (h : EvL te σ H xs) : WI (iList K te) σ H xs.length (YAt xs) :=
  ⟨fun H1 e R k => h H1 e _ fun p H2 _ e2 h2 => ⟨p, rfl, ⟨xs, sq_of h2⟩, k _ _ H2 e2 walk_list fun H3 e3 => sq_of (e3 _ _ h2)⟩⟩
theorem yat_str {l : GRow} {i : Nat} {v : V} {H H' : Hp} (h : H' = H ∧ ∃ c, (enc l).cps[i]? = some c ∧ v = .str ⟨#[c]⟩) : YAt (l.map fun n => V.str (sg n)) i H v H' := by
  obtain ⟨rfl, c, hc, rfl⟩ := h
  obtain ⟨m, hm, rfl⟩ := enc_get hc
  exact ⟨rfl, by rw [List.getElem?_map, hm]; rfl⟩
theorem wi_str {l : GRow} (h : Ev te σ H (.str (enc l))) : WI (iStr te) σ H l.length (YAt (l.map fun n => V.str (sg n))) :=
  ⟨fun H1 e R k => h H1 e _ fun H2 e2 => ⟨enc l, rfl, k _ (fun _ => True) H2 e2 (by
    have w := (walk_str (z := enc l)).mono (G' := fun _ => True) (Y' := YAt (l.map fun n => V.str (sg n))) (fun _ h => h) fun i H x H' _ _ y => yat_str y
    rw [enc_size] at w
    exact w) fun _ _ => True.intro⟩⟩
theorem wi_rng1 {m : Int} (h : EvA ta σ H [.int m]) (hm : -(2 ^ 62) ≤ m ∧ m < 2 ^ 62) : WI (iRng1 ta) σ H m.toNat (YFn fun i => .int (i : Int)) :=
  ⟨fun H1 e R k => h H1 e _ fun H2 e2 => ⟨m, rfl, hm.1, hm.2, k _ (fun _ => True) H2 e2 ((walk_range (lo := 0) (n := m.toNat)).mono (fun _ h => h) fun i H x H' _ _ y => ⟨y.1, y.2.trans (congrArg V.int (Int.zero_add _))⟩) fun _ _ => True.intro⟩⟩
theorem wi_zip {a b : Addr} {xs ys : List V} (h : EvA ta σ H [.ref a, .ref b]) (hx : SqL K H a xs) (hy : SqL K H b ys) (hn : n = min xs.length ys.length) : WI (iZip K ta) σ H n (YPair (fun i => xs[i]?) (fun i => ys[i]?)) :=
  ⟨fun H1 e R k => h H1 e _ fun H2 e2 => ⟨a, b, xs, ys, rfl, ex_l (e.trans e2) hx, ex_l (e.trans e2) hy, k _ _ H2 e2 (walk_zip hn) fun H3 e3 => ⟨ex_l ((e.trans e2).trans e3) hx, ex_l ((e.trans e2).trans e3) hy⟩⟩⟩
theorem wi_enum {a : Addr} {xs : List V} (h : EvA ta σ H [.ref a]) (hx : SqL K H a xs) : WI (iEnum K ta) σ H xs.length (YPair (fun i => some (.int (i : Nat))) (fun i => xs[i]?)) :=
  ⟨fun H1 e R k => h H1 e _ fun H2 e2 => ⟨a, xs, rfl, ex_l (e.trans e2) hx, k _ _ H2 e2 walk_enum fun H3 e3 => ex_l ((e.trans e2).trans e3) hx⟩⟩
/-- reversed(range(m)) -/
theorem wi_revR {tr : L2.St → Hp → (Int → Int → Hp → Prop) → Prop} {m : Nat} (h : ∀ H1, Ex H H1 → ∀ R : Int → Int → Hp → Prop, (∀ H2, Ex H1 H2 → R 0 (m : Int) H2) → tr σ H1 R) (hm : m < 1000000) :
    WI (iRevR tr) σ H m (YFn fun i => .int ((m : Int) - 1 - (i : Int))) :=
  ⟨fun H1 e R k => h H1 e _ fun H2 e2 => ⟨by omega, by omega, by omega, by omega, by
    have e0 : ((m : Int) - 0).toNat = m := by omega
    rw [e0]
    exact k _ (fun _ => True) H2 e2 ((walk_rangeC (lo := 0 + (m : Int) - 1) (c := -1) (n := m)).mono (fun _ h => h) fun i H x H' _ _ y => ⟨y.1, y.2.trans (congrArg V.int (by omega))⟩) fun _ _ => True.intro⟩⟩
end
/-! ### comprehensions -/
section
variable {K : PySem.W.Frag} {σ : L2.St} {H H' : Hp} {te : TE} {t : TT} {ta : TA} {wi : TI} {g : TG} {n j : Nat} {vs : List Nat} {Y : Nat → Hp → V → Hp → Prop}
/-- the list so far -/
def Lw (H : Hp) (v : Nat → V) (Dl : Addr) (i : Nat) (H' : Hp) : Prop := H Dl = none ∧ Ex H H' ∧ H' Dl = some (.lst ((List.range i).map v))
theorem range_snoc (v : Nat → V) (i : Nat) : (List.range (i + 1)).map v = (List.range i).map v ++ [v i] := by
  rw [List.range_succ, List.map_append]
  rfl
theorem tyes_go {P N : Hp → Prop} {σ : L2.St} {H : Hp} (h : P H) : tYes σ H fun b H3 => if b = true then P H3 else N H3 := by
  show if true = true then P H else N H
  rw [if_pos rfl]
  exact h
theorem el_any (w : WI wi σ H n Y) (v : Nat → V) (hn : n < sizeLine)
    (hs : ∀ i x H1 H2, i < n → Ex H H1 → Y i H1 x H2 → ∀ Q : L2.St → Hp → Prop, (∀ σ2 H3, wipe σ2 vs = wipe σ vs → Ex H1 H3 → Ev te σ2 H3 (v i) → Q σ2 H3) → g x (wipe σ vs) H2 Q) :
    EvL (tLc wi g tYes te vs) σ H ((List.range n).map v) := fun H0 e Q q => w.go H0 e _ fun J G H1 e1 wk hG Dl hD =>
  lc_it wk (Lw H1 v Dl) ⟨hD, Ex.new hD, upd_same⟩ (fun i H' _ p => hG H' p.2.1) (fun i x H2 H3 hi p y => hs i x H2 H3 hi ((e.trans e1).trans p.2.1) y _ fun σ2 H4 hw e4 hv => ⟨hw, by
    refine tyes_go ?_
    refine hv H4 (Ex.refl H4) _ fun H5 e5 => ⟨(List.range i).map v, e5 Dl _ (e4 Dl _ p.2.2), by rw [List.length_map, List.length_range]; omega, p.1, Ex.mut ((p.2.1.trans e4).trans e5) p.1, ?_⟩
    rw [range_snoc]
    exact upd_same⟩) fun H' p => q Dl H' (fresh_back e1 p.1) (e1.trans p.2.1) p.2.2
/-- .. with a test -/
theorem el_anyF (w : WI wi σ H n Y) (f : Nat → Bool) (v : Nat → V) (hn : n < sizeLine)
    (hs : ∀ i x H1 H2, i < n → Ex H H1 → Y i H1 x H2 → ∀ Q : L2.St → Hp → Prop, (∀ σ2 H3, wipe σ2 vs = wipe σ vs → Ex H1 H3 → EvT t σ2 H3 (f i) → (f i = true → Ev te σ2 H3 (v i)) → Q σ2 H3) → g x (wipe σ vs) H2 Q) :
    EvL (tLc wi g t te vs) σ H (given n f v) := fun H0 e Q q => w.go H0 e _ fun J G H1 e1 wk hG Dl hD =>
  lc_it wk (Cw H1 f v Dl) ⟨hD, Ex.new hD, upd_same⟩ (fun i H' _ p => hG H' p.2.1) (fun i x H2 H3 hi p y => hs i x H2 H3 hi ((e.trans e1).trans p.2.1) y _ fun σ2 H4 hw e4 ht hv => ⟨hw, by
    refine ht H4 (Ex.refl H4) _ fun H5 e5 => ?_
    cases hf : f i with
    | true =>
      rw [if_pos rfl]
      refine hv hf H5 e5 _ fun H6 e6 => ⟨given i f v, e6 Dl _ (e5 Dl _ (e4 Dl _ p.2.2)), by have := given_len i f v; omega, p.1, Ex.mut (((p.2.1.trans e4).trans e5).trans e6) p.1, ?_⟩
      rw [given_yes hf]
      exact upd_same
    | false =>
      rw [if_neg Bool.false_ne_true]
      refine ⟨p.1, (p.2.1.trans e4).trans e5, ?_⟩
      rw [given_no hf]
      exact e5 Dl _ (e4 Dl _ p.2.2)⟩) fun H' p => q Dl H' (fresh_back e1 p.1) (e1.trans p.2.1) p.2.2
/-- a list of new lists at p -/
def LL (H : Hp) (p : Addr) (as : List Addr) (xss : List (List V)) : Prop := H p = some (.lst (as.map V.ref)) ∧ as.length = xss.length ∧ ∀ (i : Nat) (a : Addr) (xs : List V), as[i]? = some a → xss[i]? = some xs → H a = some (.lst xs)
def EvLL (te : TE) (σ : L2.St) (H : Hp) (xss : List (List V)) : Prop := ∀ H1, Ex H H1 → ∀ Q : VK, (∀ p as H2, H1 p = none → (∀ a ∈ as, H1 a = none ∧ a ≠ p) → Ex H1 H2 → LL H2 p as xss → Q (.ref p) H2) → te σ H1 Q
theorem LL.mono {p : Addr} {as : List Addr} {xss : List (List V)} (e : Ex H H') (h : LL H p as xss) : LL H' p as xss := ⟨e _ _ h.1, h.2.1, fun i a xs h1 h2 => e _ _ (h.2.2 i a xs h1 h2)⟩
theorem LL.get {p : Addr} {as : List Addr} {xss : List (List V)} {i : Nat} {xs : List V} (h : LL H p as xss) (hx : xss[i]? = some xs) : ∃ a, (as.map V.ref)[i]? = some (V.ref a) ∧ H a = some (.lst xs) := by
  have hi : i < as.length := by rw [h.2.1]; exact (List.getElem?_eq_some_iff.mp hx).1
  exact ⟨as[i], by rw [List.getElem?_map, List.getElem?_eq_getElem hi]; rfl, h.2.2 i _ xs (List.getElem?_eq_getElem hi) hx⟩
def LLw (H : Hp) (v : Nat → List V) (Dl : Addr) (i : Nat) (H' : Hp) : Prop := H Dl = none ∧ Ex H H' ∧ ∃ as, (∀ a ∈ as, H a = none ∧ a ≠ Dl) ∧ LL H' Dl as ((List.range i).map v)
theorem ll_snoc {p a : Addr} {as : List Addr} {xss : List (List V)} {xs : List V} (h : LL H p as xss) (ha : H a = some (.lst xs)) (hp : p ≠ a) (hps : ∀ b ∈ as, b ≠ p) : LL (upd H p (.lst (as.map V.ref ++ [V.ref a]))) p (as ++ [a]) (xss ++ [xs]) := by
  refine ⟨by rw [upd_same, List.map_append]; rfl, by rw [List.length_append, List.length_append, h.2.1]; rfl, fun i b ys h1 h2 => ?_⟩
  by_cases hi : i < as.length
  · rw [List.getElem?_append_left hi] at h1
    rw [List.getElem?_append_left (by rw [← h.2.1]; exact hi)] at h2
    rw [upd_ne (hps b (List.mem_of_getElem? h1))]
    exact h.2.2 i b ys h1 h2
  · rw [List.getElem?_append_right (by omega)] at h1
    rw [List.getElem?_append_right (by rw [← h.2.1]; omega), ← h.2.1] at h2
    obtain ⟨k, hk⟩ : ∃ k, i - as.length = k := ⟨_, rfl⟩
    rw [hk] at h1 h2
    cases k with
    | zero =>
      cases h1
      cases h2
      rw [upd_ne hp.symm]
      exact ha
    | succ k => cases h1
theorem ell_any (w : WI wi σ H n Y) (v : Nat → List V) (hn : n < sizeLine)
    (hs : ∀ i x H1 H2, i < n → Ex H H1 → Y i H1 x H2 → ∀ Q : L2.St → Hp → Prop, (∀ σ2 H3, wipe σ2 vs = wipe σ vs → Ex H1 H3 → EvL te σ2 H3 (v i) → Q σ2 H3) → g x (wipe σ vs) H2 Q) :
    EvLL (tLc wi g tYes te vs) σ H ((List.range n).map v) := fun H0 e Q q => w.go H0 e _ fun J G H1 e1 wk hG Dl hD =>
  lc_it wk (LLw H1 v Dl) ⟨hD, Ex.new hD, [], fun a ha => absurd ha (by simp), upd_same, rfl, fun i a xs h1 => absurd h1 (by simp)⟩ (fun i H' _ p => hG H' p.2.1) (fun i x H2 H3 hi p y => hs i x H2 H3 hi ((e.trans e1).trans p.2.1) y _ fun σ2 H4 hw e4 hv => ⟨hw, by
    refine tyes_go ?_
    obtain ⟨p1, p2, as, p3, p4⟩ := p
    refine hv H4 (Ex.refl H4) _ fun b H5 hb e5 h5 => ⟨as.map V.ref, (p4.mono (e4.trans e5)).1, by rw [List.length_map, p4.2.1, List.length_map, List.length_range]; omega, p1, Ex.mut ((p2.trans e4).trans e5) p1, as ++ [b], ?_, ?_⟩
    · intro c hc
      rcases List.mem_append.mp hc with h | h
      · exact p3 c h
      · rw [List.mem_singleton.mp h]
        exact ⟨fresh_back (p2.trans e4) hb, Ne.symm (ne_of_none ((p4.mono e4).1) hb)⟩
    · rw [List.range_succ, List.map_append]
      have hDb : Dl ≠ b := ne_of_none ((p4.mono e4).1) hb
      refine ll_snoc (p4.mono (e4.trans e5)) h5 hDb fun c hc => ?_
      exact (p3 c hc).2⟩) fun H' p => by
    obtain ⟨p1, p2, as, p3, p4⟩ := p
    exact q Dl as H' (fresh_back e1 p1) (fun a ha => ⟨fresh_back e1 (p3 a ha).1, (p3 a ha).2⟩) (e1.trans p2) p4
end
end Gw
namespace Gw
open PySem PySem.Spec PyProof.Rows L2 Evl
/-! ### a def of the text -/
structure Df (K : PySem.W.Frag) (mg : Str → Option Value) (x : Str) (st : Stmt) : Prop where
  ex : ∃ f fd, FunD K x x (defArgs st) (defBody st) (defScope st) [] [] f fd ∧ mg x = some (.ref f)
section
variable {P : Program} {w : World} {K : PySem.W.Frag} {mg : Str → Option Value} {base : Heap} {x : Str} {st : Stmt} {N ps : List Str} {k : Nat} {sp : Sp}
theorem fn_ok {f : Addr} {fd : FuncData} (F : FunD K x x (defArgs st) (defBody st) (defScope st) [] [] f fd) (S : FnScope N ps (defScope st))
    (len : ∀ vs H Q E, sp vs H Q E → vs.length = ps.length)
    (hbody : ∀ (cdv : Value) (A : Around) (outer : List Env) (s : Shared) (H : Hp) (vs : List V) (Q : VK) (E : XK), Room k (A.deeper (envOfC x (defScope st) s.heap.objs.size f cdv)) → sp vs H Q E →
      ∃ t, PSs (cxOf CX0 P w K mg base N x (defScope st) f cdv A outer s H E).nox (defBody st) t ∧ t { nx := fun _ H' => Q .non H', rt := Q } (start N vs) H) : FnOk P w K mg base CX0 (k + 1) f fd ps sp := by
  refine F.ok S len (fun cdv A outer s H vs Q E hr h => ?_)
  obtain ⟨t, p, q⟩ := hbody cdv A outer s H vs Q E hr h
  exact ⟨t, p.nox, q⟩
theorem cal_of (D : Df K mg x st) (S : FnScope N ps (defScope st))
    (hb : ∀ (kV doc pm : Value) (an : Option Addr) (cdv ct : Value) (us : List Value), us.length = ps.length → bindArgs (PySem.W.fnOf x x (defArgs st) (defBody st) (defScope st) .none kV doc pm an cdv ct) ⟨us, []⟩ = pure (ps.zip us))
    (len : ∀ vs H Q E, sp vs H Q E → vs.length = ps.length)
    (hbody : ∀ (f : Addr) (cdv : Value) (A : Around) (outer : List Env) (s : Shared) (H : Hp) (vs : List V) (Q : VK) (E : XK), Room k (A.deeper (envOfC x (defScope st) s.heap.objs.size f cdv)) → sp vs H Q E →
      ∃ t, PSs (cxOf CX0 P w K mg base N x (defScope st) f cdv A outer s H E).nox (defBody st) t ∧ t { nx := fun _ H' => Q .non H', rt := Q } (start N vs) H) : C8.Cal P w K mg base (k + 1) x sp [] := by
  obtain ⟨f, fd, F, hm⟩ := D.ex
  refine ⟨f, fd, ps, [], F.ok S len (fun cdv A outer s H vs Q E hr h => ?_), hm, F.kp, F.bindsN hb, .nil⟩
  obtain ⟨t, p, q⟩ := hbody f cdv A outer s H vs Q E hr h
  exact ⟨t, p.nox, q⟩
end
/-- a value handed back | a new list -/
def spV (pre : List V → Hp → V → Prop) : Sp := fun vs H Q _ => ∃ v, pre vs H v ∧ RetV v H Q
def spL (pre : List V → Hp → List V → Prop) : Sp := fun vs H Q _ => ∃ xs, pre vs H xs ∧ RetL xs H Q
def RetLL (xss : List (List V)) (H : Hp) (Q : VK) : Prop := ∀ p as H2, H p = none → (∀ a ∈ as, H a = none ∧ a ≠ p) → Ex H H2 → LL H2 p as xss → Q (.ref p) H2
def spLL (pre : List V → Hp → List (List V) → Prop) : Sp := fun vs H Q _ => ∃ xss, pre vs H xss ∧ RetLL xss H Q
section
variable {σ : L2.St} {H : Hp} {ta : TA} {E : XK} {vs : List V}
theorem ev_spV {pre : List V → Hp → V → Prop} {v : V} (h : EvA ta σ H vs) (hp : ∀ H1, Ex H H1 → pre vs H1 v) : Ev (tCall (spV pre) [] E ta) σ H v := fun H1 e Q q =>
  h H1 e _ fun H2 e2 => by
    rw [List.append_nil]
    exact ⟨v, hp H2 (e.trans e2), fun H3 e3 => q H3 (e2.trans e3)⟩
theorem el_spL {pre : List V → Hp → List V → Prop} {xs : List V} (h : EvA ta σ H vs) (hp : ∀ H1, Ex H H1 → pre vs H1 xs) : EvL (tCall (spL pre) [] E ta) σ H xs := fun H1 e Q q =>
  h H1 e _ fun H2 e2 => by
    rw [List.append_nil]
    exact ⟨xs, hp H2 (e.trans e2), fun p H3 h0 e3 h3 => q p H3 (fresh_back e2 h0) (e2.trans e3) h3⟩
theorem ell_spLL {pre : List V → Hp → List (List V) → Prop} {xss : List (List V)} (h : EvA ta σ H vs) (hp : ∀ H1, Ex H H1 → pre vs H1 xss) : EvLL (tCall (spLL pre) [] E ta) σ H xss := fun H1 e Q q =>
  h H1 e _ fun H2 e2 => by
    rw [List.append_nil]
    exact ⟨xss, hp H2 (e.trans e2), fun p as H3 h0 ha e3 h3 => q p as H3 (fresh_back e2 h0) (fun a h => ⟨fresh_back e2 (ha a h).1, (ha a h).2⟩) (e2.trans e3) h3⟩
end
/-- rules as a list of texts at a -/
def RL (R : GRules) : List V := R.map fun r => V.str (enc r)
theorem RL_len (R : GRules) : (RL R).length = R.length := List.length_map _
theorem RL_get {R : GRules} {i : Nat} {x : V} (h : (RL R)[i]? = some x) : ∃ r, R[i]? = some r ∧ x = .str (enc r) := by
  unfold RL at h
  rw [List.getElem?_map] at h
  cases q : R[i]? with
  | none => rw [q] at h; cases h
  | some r => rw [q] at h; exact ⟨r, rfl, (Option.some.inj h).symm⟩
theorem RL_at {R : GRules} {n : Nat} (h : n < R.length) : (RL R)[n]? = some (.str (enc (ruleOf R n))) := by
  unfold RL
  rw [List.getElem?_map, rule_get h]
  rfl
end Gw
namespace Gw
open PySem PySem.Spec PyProof.Rows L2 Evl
/-! ### readings by name -/
theorem pe_alph {X : Cx} {j : Nat} {pos : Pos} : PE X (.Constant (.str (Str.ofString "abcdefghijklmnopqrstuvwxyz")) j pos) (tC (.str ALPH)) := by
  rw [← alph_eq]
  exact pe_str
theorem pe_empty {X : Cx} {j : Nat} {pos : Pos} : PE X (.Constant (.str (Str.ofString "")) j pos) (tC (.str (enc []))) := by
  rw [enc_nil]
  exact pe_str
abbrev tAl : TE := tC (.str ALPH)
/-- ALPH.index(e) -/
abbrev tIdx (K : PySem.W.Frag) (te : TE) : TE := tBM K "str" rSIdx tAl (tCons te tNil)
section
variable {K : PySem.W.Frag} {σ : L2.St} {H : Hp} {te : TE} {i n : Nat} {vs : List Nat}
theorem ev_ix {a : Addr} {xs : List V} {ta : TE} {v : V} (h : Ev ta σ H (.ref a)) (hs : SqL K H a xs) (hi : Ev te σ H (.int (n : Int))) (hn : xs[n]? = some v) : Ev (tOp (rIxL K) ta te) σ H v := ev_op h hi (rv_ixL hs (atI_nat hn))
theorem tidx (h : σ[i]? = some (some (.str (sg n)))) (hn : n < 26) : Ev (tIdx K (tVar i)) σ H (.int (n : Int)) := ev_idx ev_c (ev_var h) hn
end
/-- a comprehension over a text, its target a name -/
theorem el_str {K : PySem.W.Frag} {σ : L2.St} {H : Hp} {ti te : TE} {j : Nat} {vs : List Nat} {l : GRow} (h : Ev ti σ H (.str (enc l))) (v : Nat → V) (hl : l.length < sizeLine)
    (hw : ∀ x, wipe ((wipe σ vs).set j (some x)) vs = wipe σ vs) (hs : ∀ n ∈ l, ∀ H1, Ex H H1 → Ev te ((wipe σ vs).set j (some (.str (sg n)))) H1 (v n)) : EvL (tLc (iStr ti) (gName j) tYes te vs) σ H (l.map v) := by
  have e : l.map v = (List.range l.length).map fun i => v (l.getD i 0) := by
    apply List.ext_getElem?
    intro i
    rw [List.getElem?_map, List.getElem?_map]
    by_cases hi : i < l.length
    · rw [List.getElem?_range hi, List.getElem?_eq_getElem hi]
      simp [hi]
    · rw [List.getElem?_eq_none (by omega), List.getElem?_eq_none (by simp; omega)]
      rfl
  rw [e]
  refine el_any (wi_str h) _ hl fun i x H1 H2 hi e1 y Q k => ?_
  obtain ⟨rfl, hx⟩ := y
  rw [List.getElem?_map, List.getElem?_eq_getElem hi] at hx
  have hx : V.str (sg l[i]) = x := Option.some.inj hx
  subst hx
  refine k _ _ (hw _) (Ex.refl _) ?_
  have e2 : l.getD i 0 = l[i] := by simp [hi]
  rw [e2]
  exact hs l[i] (List.getElem_mem hi) _ e1
/-- .. over a list -/
theorem el_list {K : PySem.W.Frag} {σ : L2.St} {H : Hp} {ti te : TE} {j : Nat} {vs : List Nat} {α : Type} {l : List α} {u : α → V} (h : WI (iList K ti) σ H (l.map u).length (YAt (l.map u))) (v : α → V) (hl : l.length < sizeLine)
    (hw : ∀ x, wipe ((wipe σ vs).set j (some x)) vs = wipe σ vs) (hs : ∀ a ∈ l, ∀ H1, Ex H H1 → Ev te ((wipe σ vs).set j (some (u a))) H1 (v a)) : EvL (tLc (iList K ti) (gName j) tYes te vs) σ H (l.map v) := by
  have e : l.map v = (List.range (l.map u).length).map fun i => ((l[i]?).map v).getD .non := by
    apply List.ext_getElem?
    intro i
    rw [List.getElem?_map, List.getElem?_map]
    by_cases hi : i < l.length
    · rw [List.getElem?_range (by rw [List.length_map]; exact hi), List.getElem?_eq_getElem hi]
      simp [hi]
    · rw [List.getElem?_eq_none (by omega), List.getElem?_eq_none (by simp; omega)]
      rfl
  rw [e]
  refine el_any h _ (by rw [List.length_map]; exact hl) fun i x H1 H2 hi e1 y Q k => ?_
  rw [List.length_map] at hi
  obtain ⟨rfl, hx⟩ := y
  rw [List.getElem?_map, List.getElem?_eq_getElem hi] at hx
  have hx : u l[i] = x := Option.some.inj hx
  subst hx
  refine k _ _ (hw _) (Ex.refl _) ?_
  have e2 : ((l[i]?).map v).getD .non = v l[i] := by simp [hi]
  rw [e2]
  exact hs l[i] (List.getElem_mem hi) _ e1
/-- .. each item a new list -/
theorem ell_list {K : PySem.W.Frag} {σ : L2.St} {H : Hp} {ti te : TE} {j : Nat} {vs : List Nat} {α : Type} {l : List α} {u : α → V} (h : WI (iList K ti) σ H (l.map u).length (YAt (l.map u))) (v : α → List V) (hl : l.length < sizeLine)
    (hw : ∀ x, wipe ((wipe σ vs).set j (some x)) vs = wipe σ vs) (hs : ∀ a ∈ l, ∀ H1, Ex H H1 → EvL te ((wipe σ vs).set j (some (u a))) H1 (v a)) : EvLL (tLc (iList K ti) (gName j) tYes te vs) σ H (l.map v) := by
  have e : l.map v = (List.range (l.map u).length).map fun i => ((l[i]?).map v).getD [] := by
    apply List.ext_getElem?
    intro i
    rw [List.getElem?_map, List.getElem?_map]
    by_cases hi : i < l.length
    · rw [List.getElem?_range (by rw [List.length_map]; exact hi), List.getElem?_eq_getElem hi]
      simp [hi]
    · rw [List.getElem?_eq_none (by omega), List.getElem?_eq_none (by simp; omega)]
      rfl
  rw [e]
  refine ell_any h _ (by rw [List.length_map]; exact hl) fun i x H1 H2 hi e1 y Q k => ?_
  rw [List.length_map] at hi
  obtain ⟨rfl, hx⟩ := y
  rw [List.getElem?_map, List.getElem?_eq_getElem hi] at hx
  have hx : u l[i] = x := Option.some.inj hx
  subst hx
  refine k _ _ (hw _) (Ex.refl _) ?_
  have e2 : ((l[i]?).map v).getD [] = v l[i] := by simp [hi]
  rw [e2]
  exact hs l[i] (List.getElem_mem hi) _ e1
/-- .. over range(n) -/
theorem el_rng {σ : L2.St} {H : Hp} {ta : TA} {te : TE} {j : Nat} {vs : List Nat} {m : Nat} (h : EvA ta σ H [.int (m : Int)]) (v : Nat → V) (hm : m < sizeLine)
    (hw : ∀ x, wipe ((wipe σ vs).set j (some x)) vs = wipe σ vs) (hs : ∀ i, i < m → ∀ H1, Ex H H1 → Ev te ((wipe σ vs).set j (some (.int (i : Int)))) H1 (v i)) : EvL (tLc (iRng1 ta) (gName j) tYes te vs) σ H ((List.range m).map v) := by
  have hz : m < 2 ^ 62 := Nat.lt_trans hm (by decide)
  have w := wi_rng1 h ⟨by omega, by omega⟩
  rw [Int.toNat_natCast] at w
  refine el_any w v hm fun i x H1 H2 hi e1 y Q k => ?_
  obtain ⟨rfl, rfl⟩ := y
  exact k _ _ (hw _) (Ex.refl _) (hs i hi _ e1)
end Gw

namespace Gw
open PySem PySem.Spec PyProof.Rows L2 Evl
/-! ### short words for often met calls -/
section
variable {X : Cx} {o e e2 : Expr} {to te te2 : TE} {t : TA} {es : List Expr} {p pos apos cpos : Pos}
theorem pe_idx (ho : PE X o tAl) (he : PE X e te)
    (hbase : attributeBase o "index" X.env (eval o X.env) = eval o X.env := by rfl)
    (hfew : ((backTo cpos (starEach [e] X.env)).all (fun x => !x.1) && (backToKw cpos (keywordEach [] X.env)).all (fun x => x.1.isSome)
      && decide ([e].length + ([] : List Keyword).length + (if ([] : List Keyword).isEmpty then 0 else 1) < 30)) = true := by rfl)
    (hline : (apos.endLine == cpos.line) = true := by rfl) (hs : starEach [e] X.env = (false, eval e X.env) :: starEach [] X.env := by rfl) (hplain : (backTo cpos (starEach [] X.env)).any (·.1) = false := by rfl) :
    PE X (.Call (.Attribute o "index" apos) [e] [] cpos) (tIdx X.K te) :=
  pe_bm PySem.F.plainAttrs_str PySem.F.slot_str_index PySem.F.type_str_index mt_sindex ho (pa_cons he pa_nil hs) hbase hfew hline hs hplain
abbrev tCnt (K : PySem.W.Frag) (to te : TE) : TE := tBM K "str" rSCount to (tCons te tNil)
theorem pe_count (ho : PE X o to) (he : PE X e te)
    (hbase : attributeBase o "count" X.env (eval o X.env) = eval o X.env := by rfl)
    (hfew : ((backTo cpos (starEach [e] X.env)).all (fun x => !x.1) && (backToKw cpos (keywordEach [] X.env)).all (fun x => x.1.isSome)
      && decide ([e].length + ([] : List Keyword).length + (if ([] : List Keyword).isEmpty then 0 else 1) < 30)) = true := by rfl)
    (hline : (apos.endLine == cpos.line) = true := by rfl) (hs : starEach [e] X.env = (false, eval e X.env) :: starEach [] X.env := by rfl) (hplain : (backTo cpos (starEach [] X.env)).any (·.1) = false := by rfl) :
    PE X (.Call (.Attribute o "count" apos) [e] [] cpos) (tCnt X.K to te) :=
  pe_bm PySem.F.plainAttrs_str PySem.F.slot_str_count PySem.F.type_str_count mt_count ho (pa_cons he pa_nil hs) hbase hfew hline hs hplain
abbrev tStrip (K : PySem.W.Frag) (to te : TE) : TE := tBM K "str" rSStrip to (tCons te tNil)
theorem pe_strip1 (ho : PE X o to) (he : PE X e te)
    (hbase : attributeBase o "strip" X.env (eval o X.env) = eval o X.env := by rfl)
    (hfew : ((backTo cpos (starEach [e] X.env)).all (fun x => !x.1) && (backToKw cpos (keywordEach [] X.env)).all (fun x => x.1.isSome)
      && decide ([e].length + ([] : List Keyword).length + (if ([] : List Keyword).isEmpty then 0 else 1) < 30)) = true := by rfl)
    (hline : (apos.endLine == cpos.line) = true := by rfl) (hs : starEach [e] X.env = (false, eval e X.env) :: starEach [] X.env := by rfl) (hplain : (backTo cpos (starEach [] X.env)).any (·.1) = false := by rfl) :
    PE X (.Call (.Attribute o "strip" apos) [e] [] cpos) (tStrip X.K to te) :=
  pe_bm PySem.F.plainAttrs_str PySem.F.slot_str_strip PySem.F.type_str_strip mt_stripChars ho (pa_cons he pa_nil hs) hbase hfew hline hs hplain
abbrev tApp (K : PySem.W.Frag) (to te : TE) : TE := tBM K "list" rAppend to (tCons te tNil)
theorem pe_app (ho : PE X o to) (he : PE X e te)
    (hbase : attributeBase o "append" X.env (eval o X.env) = eval o X.env := by rfl)
    (hfew : ((backTo cpos (starEach [e] X.env)).all (fun x => !x.1) && (backToKw cpos (keywordEach [] X.env)).all (fun x => x.1.isSome)
      && decide ([e].length + ([] : List Keyword).length + (if ([] : List Keyword).isEmpty then 0 else 1) < 30)) = true := by rfl)
    (hline : (apos.endLine == cpos.line) = true := by rfl) (hs : starEach [e] X.env = (false, eval e X.env) :: starEach [] X.env := by rfl) (hplain : (backTo cpos (starEach [] X.env)).any (·.1) = false := by rfl) :
    PE X (.Call (.Attribute o "append" apos) [e] [] cpos) (tApp X.K to te) :=
  pe_bm PySem.F.plainAttrs_list PySem.F.slot_list_append PySem.F.type_list_append mt_append ho (pa_cons he pa_nil hs) hbase hfew hline hs hplain
abbrev tLen (K : PySem.W.Frag) (te : TE) : TE := tCB (rLenS K) (tCons te tNil)
theorem pe_len (z : X.mg "len" = none) (he : PE X e te) (hg : Gl X "len" := by exact rfl)
    (hs : starEach [e] X.env = (false, eval e X.env) :: starEach [] X.env := by rfl) (hpl : (backTo pos (starEach [] X.env)).any (·.1) = false := by rfl) : PE X (.Call (.Name "len" p) [e] [] pos) (tLen X.K te) :=
  pe_callB call_len_seq hg z PySem.boot_len (pa_cons he pa_nil hs) (by decide) (by decide) hs hpl
abbrev tLenT (te : TE) : TE := tCB rSLen (tCons te tNil)
theorem pe_lenT (z : X.mg "len" = none) (he : PE X e te) (hg : Gl X "len" := by exact rfl)
    (hs : starEach [e] X.env = (false, eval e X.env) :: starEach [] X.env := by rfl) (hpl : (backTo pos (starEach [] X.env)).any (·.1) = false := by rfl) : PE X (.Call (.Name "len" p) [e] [] pos) (tLenT te) :=
  pe_callB call_len_str hg z PySem.boot_len (pa_cons he pa_nil hs) (by decide) (by decide) hs hpl
abbrev tSum (K : PySem.W.Frag) (te : TE) : TE := tCB (rSum K) (tCons te tNil)
theorem pe_sum (hc : X.calm = true) (z : X.mg "sum" = none) (he : PE X e te) (hg : Gl X "sum" := by exact rfl)
    (hs : starEach [e] X.env = (false, eval e X.env) :: starEach [] X.env := by rfl) (hpl : (backTo pos (starEach [] X.env)).any (·.1) = false := by rfl) : PE X (.Call (.Name "sum" p) [e] [] pos) (tSum X.K te) :=
  pe_callB (cr_sum hc) hg z boot_sum (pa_cons he pa_nil hs) (by decide) (by decide) hs hpl
abbrev tAll (K : PySem.W.Frag) (te : TE) : TE := tCB (rAll K) (tCons te tNil)
theorem pe_all (hc : X.calm = true) (z : X.mg "all" = none) (he : PE X e te) (hg : Gl X "all" := by exact rfl)
    (hs : starEach [e] X.env = (false, eval e X.env) :: starEach [] X.env := by rfl) (hpl : (backTo pos (starEach [] X.env)).any (·.1) = false := by rfl) : PE X (.Call (.Name "all" p) [e] [] pos) (tAll X.K te) :=
  pe_callB (cr_all hc) hg z boot_all (pa_cons he pa_nil hs) (by decide) (by decide) hs hpl
abbrev tAny (K : PySem.W.Frag) (te : TE) : TE := tCB (rAny K) (tCons te tNil)
theorem pe_any (hc : X.calm = true) (z : X.mg "any" = none) (he : PE X e te) (hg : Gl X "any" := by exact rfl)
    (hs : starEach [e] X.env = (false, eval e X.env) :: starEach [] X.env := by rfl) (hpl : (backTo pos (starEach [] X.env)).any (·.1) = false := by rfl) : PE X (.Call (.Name "any" p) [e] [] pos) (tAny X.K te) :=
  pe_callB (cr_any hc) hg z boot_any (pa_cons he pa_nil hs) (by decide) (by decide) hs hpl
abbrev tIsi (K : PySem.W.Frag) (te : TE) (T : String) : TE := tCB (rIsi K) (tCons te (tCons (tC (.ty T)) tNil))
theorem pe_isi {x : Str} {T : String} (z : X.mg "isinstance" = none) (zt : X.mg x = none) (hb : bootBuiltins x = some (.type T)) (he : PE X e te) (hg : Gl X "isinstance" := by exact rfl) (hgt : Gl X x := by exact rfl)
    (hn : x ≠ "__name__" := by decide) (hd : (x == ("__debug__" : Str)) = false := by decide)
    (hs : starEach [e, .Name x p] X.env = (false, eval e X.env) :: starEach [.Name x p] X.env := by rfl) (hs2 : starEach [.Name x p] X.env = (false, eval (.Name x p) X.env) :: starEach [] X.env := by rfl)
    (hpl : (backTo pos (starEach [.Name x p] X.env)).any (·.1) = false := by rfl) : PE X (.Call (.Name "isinstance" apos) [e, .Name x p] [] pos) (tIsi X.K te T) :=
  pe_callB call_isi hg z boot_isinstance (pa_cons he (pa_cons (pe_bltn (v := .ty T) hgt zt hb rfl hn hd) pa_nil hs2) hs) (by decide) (by decide) hs hpl
end
section
variable {K : PySem.W.Frag} {σ : L2.St} {H : Hp} {te : TE} {x : V}
theorem ev_isT {T S : String} {b : Bool} (h : Ev te σ H x) (ht : TyX K H x (.type S)) (hk : kitB S T = some b) : Ev (tIsi K te T) σ H (.bl b) := ev_isi h ht (kit_ty hk)
theorem isi_ii : kitB "int" "int" = some true := by decide +kernel
theorem isi_ib : kitB "int" "bool" = some false := by decide +kernel
theorem isi_bb : kitB "bool" "bool" = some true := by decide +kernel
theorem isi_ss : kitB "str" "str" = some true := by decide +kernel
theorem isi_ll : kitB "list" "list" = some true := by decide +kernel
end
theorem ell_one {σ : L2.St} {H : Hp} {te : TE} {xs : List V} (h : EvL te σ H xs) : EvLL (tLst (tCons te tNil)) σ H [xs] := fun H1 e Q q =>
  h H1 e _ fun a H2 ha e2 h2 => ⟨(by show 1 ≤ sizeLine; decide), fun p hp => q p [a] _ (fresh_back e2 hp) (fun b hb => by rw [List.mem_singleton.mp hb]; exact ⟨ha, ne_of_none h2 hp⟩) (e2.trans (Ex.new hp)) ⟨upd_same, rfl, fun i b ys h1 h3 => by
    cases i with
    | zero =>
      cases h1
      cases h3
      rw [upd_ne (ne_of_none h2 hp)]
      exact h2
    | succ i => cases h1⟩⟩
section
variable {σ : L2.St} {H : Hp} {te : TE} {D : Ends} {tz tu : TS} {t : TT}
theorem s_asgLL {i : Nat} {xss : List (List V)} (h : EvLL te σ H xss) (k : ∀ p as H1, H p = none → (∀ a ∈ as, H a = none ∧ a ≠ p) → Ex H H1 → LL H1 p as xss → D.nx (σ.set i (some (.ref p))) H1) : tAsg te (gName i) D σ H := h H (Ex.refl H) _ k
theorem q_asgLL {i : Nat} {xss : List (List V)} (h : EvLL te σ H xss) (k : ∀ p as H1, H p = none → (∀ a ∈ as, H a = none ∧ a ≠ p) → Ex H H1 → LL H1 p as xss → tz D (σ.set i (some (.ref p))) H1) : tSeq (tAsg te (gName i)) tz D σ H := s_asgLL (D := { D with nx := tz D }) h k
/-- an if that is never taken: a raise behind it -/
theorem q_no (h : EvT t σ H false) (k : ∀ H1, Ex H H1 → tz D σ H1) : tSeq (tIfS t tNever tNext) tz D σ H := q_when h (fun b => Bool.noConfusion b) fun _ H1 e => k H1 e
theorem s_no (h : EvT t σ H false) (k : ∀ H1, Ex H H1 → D.nx σ H1) : tIfS t tNever tNext D σ H := s_when h (fun b => Bool.noConfusion b) fun _ H1 e => k H1 e
theorem s_retLL {xss : List (List V)} (h : EvLL te σ H xss) (k : ∀ p as H1, H p = none → (∀ a ∈ as, H a = none ∧ a ≠ p) → Ex H H1 → LL H1 p as xss → D.rt (.ref p) H1) : tRet te D σ H := h H (Ex.refl H) _ k
end
end Gw

namespace Gw
open PySem PySem.Spec PyProof.Rows L2 Evl
/-! ### a text again and again -/
theorem mul_enc (l : GRow) (k : Int) : Txt.mul (enc l) k = enc (List.replicate k.toNat l).flatten := by
  unfold Txt.mul
  by_cases h1 : k < 1
  · rw [if_pos h1]
    have : k.toNat = 0 := by omega
    rw [this]
    show Str.empty = enc []
    decide +kernel
  · rw [if_neg h1]
    by_cases h2 : (k == 1 || (enc l).length == 0) = true
    · rw [if_pos h2]
      rw [Bool.or_eq_true] at h2
      rcases h2 with h2 | h2
      · have : k = 1 := by simpa using h2
        subst this
        show enc l = enc (List.replicate 1 l).flatten
        simp
      · have : l.length = 0 := by rw [enc_len] at h2; simpa using h2
        have : l = [] := List.eq_nil_of_length_eq_zero this
        subst this
        congr 1
        have z : ∀ n, (List.replicate n ([] : GRow)).flatten = [] := by
          intro n
          induction n with
          | zero => rfl
          | succ n ih => rw [List.replicate_succ, List.flatten_cons, ih]; rfl
        rw [z]
    · rw [if_neg h2]
      apply TL.ext_tl
      have z : ∀ (n : Nat) (acc : Array Nat), ((List.replicate n (enc l).cps).foldl (· ++ ·) acc).toList = acc.toList ++ cd (List.replicate n l).flatten := by
        intro n
        induction n with
        | zero => intro acc; simp [cd]
        | succ n ih =>
          intro acc
          rw [List.replicate_succ, List.foldl_cons, ih, List.replicate_succ, List.flatten_cons, Array.toList_append]
          show acc.toList ++ cd l ++ _ = acc.toList ++ cd (l ++ _)
          unfold cd
          rw [List.map_append, List.append_assoc]
      show ((List.replicate k.toNat (enc l).cps).foldl (· ++ ·) #[]).toList = cd _
      rw [z]
      rfl
def rRepS : R2 := fun x y H Q => ∃ z k, x = .str z ∧ y = .int k ∧ MulOk z k ∧ Q (.str (Txt.mul z k)) H
theorem op_repS {X : Cx} : OpR X (binaryOp .Mult) rRepS := by
  intro pins s σ H x y v u Q I rx ry h
  obtain ⟨z, k, rfl, rfl, hok, q⟩ := h
  obtain ⟨t, rfl⟩ := rx
  obtain ⟨t2, rfl⟩ := ry
  exact SB.mul hok fun t' tk => ⟨.str (Txt.mul z k), H, I.tok tk, ⟨t', rfl⟩, q⟩
theorem mulOk_enc {l : GRow} {k : Int} (hk : k ≤ 100000) (h0 : 0 ≤ k) (hl : l.length ≤ 100000) (hz : l.length * k.toNat ≤ 16000000) : MulOk (enc l) k := by
  refine ⟨by simp; omega, fun h1 _ => ?_, fun h1 _ => ?_⟩
  · rw [enc_len]
    intro h
    have hk1 : 0 < k := by omega
    have h3 : (l.length : Int) * k = ((l.length * k.toNat : Nat) : Int) := by rw [Int.natCast_mul, Int.toNat_of_nonneg h0]
    have h4 : (l.length : Int) ≤ (2 ^ 63 - 1) / k := Int.le_ediv_of_mul_le hk1 (by rw [h3]; omega)
    omega
  · rw [enc_len]
    have : ¬ l.length * k.toNat > sizeLine := by
      rw [sizeLine_eq]
      omega
    simpa [Builtin.Str.tooLong] using this
theorem ev_repS {σ : L2.St} {H : Hp} {ta tb : TE} {l : GRow} {k : Int} (ha : Ev ta σ H (.str (enc l))) (hb : Ev tb σ H (.int k)) (h : MulOk (enc l) k) : Ev (tOp rRepS ta tb) σ H (.str (enc (List.replicate k.toNat l).flatten)) :=
  ev_op ha hb fun H1 _ Q q => ⟨enc l, k, rfl, rfl, h, by rw [mul_enc]; exact q H1 (Ex.refl H1)⟩
/-! ### small readings -/
def rCatS : R2 := fun x y H Q => ∃ i j, x = .str i ∧ y = .str j ∧ i.length + j.length ≤ sizeLine ∧ Q (.str (i ++ j)) H
section
variable {K : PySem.W.Frag} {σ : L2.St} {H : Hp} {ta tb te : TE} {l m : GRow} {i j : Int} {n : Nat}
theorem ev_addI (ha : Ev ta σ H (.int i)) (hb : Ev tb σ H (.int j)) : Ev (tOp (rI0 fun i j => .int (i + j)) ta tb) σ H (.int (i + j)) := ev_op ha hb rv_I0
theorem ev_subI (ha : Ev ta σ H (.int i)) (hb : Ev tb σ H (.int j)) : Ev (tOp (rI0 fun i j => .int (i - j)) ta tb) σ H (.int (i - j)) := ev_op ha hb rv_I0
theorem ev_mod (ha : Ev ta σ H (.int i)) (hb : Ev tb σ H (.int j)) (h : 0 < j) : Ev (tOp (rI (fun _ j => 0 < j) fun i j => .int (i % j)) ta tb) σ H (.int (i % j)) := ev_op ha hb (rv_I h)
theorem ev_div (ha : Ev ta σ H (.int i)) (hb : Ev tb σ H (.int j)) (h : 0 < j) (h2 : j < 1073741824) : Ev (tOp (rI CDiv fun i j => .int (i / j)) ta tb) σ H (.int (i / j)) := ev_op ha hb (rv_I ⟨h, h2⟩)
/-- ALPH[i] -/
theorem ev_alphAt (ha : Ev ta σ H (.str ALPH)) (hb : Ev tb σ H (.int i)) (hi : i = (n : Int)) (hn : n < 26) : Ev (tOp rIxS ta tb) σ H (.str (sg n)) := ev_op ha hb (rv_ixS (by rw [alph_len]; decide) (alph_at hi hn))
theorem ev_addS (ha : Ev ta σ H (.str (enc l))) (hb : Ev tb σ H (.str (enc m))) (h : l.length + m.length ≤ sizeLine) : Ev (tOp rCatS ta tb) σ H (.str (enc (l ++ m))) :=
  ev_op ha hb fun H1 _ Q q => ⟨enc l, enc m, rfl, rfl, by rw [enc_len, enc_len]; exact h, by rw [enc_append]; exact q H1 (Ex.refl H1)⟩
theorem ev_ixU {xs : List V} {v : V} (ha : EvU ta σ H xs) (hb : Ev tb σ H (.int i)) (h : atI xs i = some v) : Ev (tOp (rIxT K) ta tb) σ H v := fun H1 e Q q =>
  ha H1 e _ fun p H2 _ e2 h2 => hb H2 (e.trans e2) _ fun H3 e3 => ⟨p, xs, i, v, rfl, rfl, st_of (e3 _ _ h2), h, q H3 (e2.trans e3)⟩
theorem ev_ixN {xs : List V} {v : V} (ha : EvL ta σ H xs) (hb : Ev tb σ H (.int (n : Int))) (h : xs[n]? = some v) : Ev (tOp (rIxL K) ta tb) σ H v := fun H1 e Q q =>
  ha H1 e _ fun p H2 _ e2 h2 => hb H2 (e.trans e2) _ fun H3 e3 => ⟨p, xs, (n : Int), v, rfl, rfl, sq_of (e3 _ _ h2), atI_nat h, q H3 (e2.trans e3)⟩
end
/-- xs[:n] of a list -/
theorem el_take {K : PySem.W.Frag} {σ : L2.St} {H : Hp} {te : TE} {th : TO} {a : Addr} {xs : List V} {n : Nat} (h : Ev te σ H (.ref a)) (h2 : EvO th σ H (some (n : Int))) (hs : SqL K H a xs) : EvL (tSl (rSlL K) te tNoPart th) σ H (xs.take n) := by
  have e : cutV xs none (some (n : Int)) = xs.take n := by
    unfold cutV
    rw [HT.sIx_nat, HT.sIx_none, Nat.sub_zero, List.drop_zero]
    by_cases h : n ≤ xs.length
    · rw [Nat.min_eq_left h]
    · rw [Nat.min_eq_right (by omega), List.take_of_length_le (Nat.le_refl _), List.take_of_length_le (by omega)]
  rw [← e]
  exact el_sl h eo_none h2 hs
end Gw

namespace Gw
open PySem PySem.Spec PyProof.Rows L2 Evl
/-! ### lists compared -/
def dInts (ns : List Int) : PyData := .list (ns.map PyData.int)
def dRules (R : GRules) : PyData := .list (R.map fun r => PyData.str (enc r))
section
variable {K : PySem.W.Frag} {σ : L2.St} {H H' : Hp} {ta tb te : TE} {a b : Addr} {x y : V}
theorem dpAll_ints : ∀ ns : List Int, DpAll K H (ns.map V.int) (ns.map PyData.int)
  | [] => .nil
  | i :: ns => .cons (.int i) (dpAll_ints ns)
theorem dpAll_rules : ∀ R : GRules, DpAll K H (RL R) (R.map fun r => PyData.str (enc r))
  | [] => .nil
  | r :: R => .cons (.str _) (dpAll_rules R)
theorem dp_ints {ns : List Int} (h : SqL K H a (ns.map V.int)) : Dp K H (.ref a) (dInts ns) := .lst h (dpAll_ints ns)
theorem dp_rules {R : GRules} (h : SqL K H a (RL R)) : Dp K H (.ref a) (dRules R) := .lst h (dpAll_rules R)
theorem dp_two {p : Addr} {d e : PyData} (h : SqL K H p [x, y]) (h1 : Dp K H x d) (h2 : Dp K H y e) : Dp K H (.ref p) (.list [d, e]) := .lst h (.cons h1 (.cons h2 .nil))
mutual
theorem dp_ex (e : Ex H H') : ∀ (d : PyData) (x : V), Dp K H x d → Dp K H' x d
  | .none, _, h => by cases h; exact .non
  | .bool b, _, h => by cases h; exact .bl b
  | .int i, _, h => by cases h; exact .int i
  | .str s, _, h => by cases h; exact .str s
  | .list ds, _, h => by
    cases h with
    | lst hs ha => exact .lst (ex_l e hs) (dpAll_ex e ds _ ha)
  | .tuple ds, _, h => by
    cases h with
    | tup hs ha => exact .tup (ex_t e hs) (dpAll_ex e ds _ ha)
  | .dict _, _, h => by cases h
theorem dpAll_ex (e : Ex H H') : ∀ (ds : List PyData) (xs : List V), DpAll K H xs ds → DpAll K H' xs ds
  | [], _, h => by cases h; exact .nil
  | d :: ds, _, h => by
    cases h with
    | cons h1 h2 => exact .cons (dp_ex e d _ h1) (dpAll_ex e ds _ h2)
end
theorem rv_eqD {d : PyData} (h1 : Dp K H x d) (h2 : Dp K H y d) (hd : SeqAt.shaped d = true) : RV (rEqD K) x y H (.bl true) := fun H1 e Q q => ⟨d, d, dp_ex e _ _ h1, dp_ex e _ _ h2, hd, hd, by
  rw [SeqAt.eqv_refl d (SeqAt.canLay_of_shaped hd)]
  exact q H1 (Ex.refl H1)⟩
theorem rv_neD {d : PyData} (h1 : Dp K H x d) (h2 : Dp K H y d) (hd : SeqAt.shaped d = true) : RV (rNeD K) x y H (.bl false) := fun H1 e Q q => ⟨d, d, dp_ex e _ _ h1, dp_ex e _ _ h2, hd, hd, by
  rw [SeqAt.eqv_refl d (SeqAt.canLay_of_shaped hd)]
  exact q H1 (Ex.refl H1)⟩
end
theorem lay_ints : ∀ ns : List Int, PyData.canLayAll0 (ns.map PyData.int) = true ∧ PyData.depthAll (ns.map PyData.int) = 0
  | [] => ⟨by simp [PyData.canLayAll0], by simp [PyData.depthAll]⟩
  | i :: ns => by
    obtain ⟨h1, h2⟩ := lay_ints ns
    refine ⟨?_, ?_⟩
    · rw [List.map_cons, PyData.canLayAll0, h1]
      simp [PyData.canLay0]
    · rw [List.map_cons, PyData.depthAll, h2]
      simp [PyData.depth]
theorem shaped_ints (ns : List Int) : SeqAt.shaped (dInts ns) = true := by
  obtain ⟨h1, h2⟩ := lay_ints ns
  unfold SeqAt.shaped dInts
  rw [PyData.canLay0, PyData.depth, h1, h2]
  decide
theorem strOk_enc {r : GRow} (h : RowOk 26 r) : PyData.strOk (enc r) = true := by
  unfold PyData.strOk
  rw [← Array.all_toList]
  refine List.all_eq_true.mpr fun c hc => ?_
  have hc : c ∈ cd r := hc
  unfold cd at hc
  obtain ⟨n, hn, rfl⟩ := List.mem_map.mp hc
  have := h n hn
  exact decide_eq_true (by omega)
theorem lay_rules : ∀ R : GRules, (∀ r ∈ R, RowOk 26 r) → PyData.canLayAll0 (R.map fun r => PyData.str (enc r)) = true ∧ PyData.depthAll (R.map fun r => PyData.str (enc r)) = 0
  | [], _ => ⟨by simp [PyData.canLayAll0], by simp [PyData.depthAll]⟩
  | r :: R, h => by
    obtain ⟨h1, h2⟩ := lay_rules R fun q hq => h q (List.mem_cons_of_mem _ hq)
    refine ⟨?_, ?_⟩
    · rw [List.map_cons, PyData.canLayAll0, h1]
      simp [PyData.canLay0, strOk_enc (h r List.mem_cons_self)]
    · rw [List.map_cons, PyData.depthAll, h2]
      simp [PyData.depth]
theorem shaped_rules {R : GRules} (h : ∀ r ∈ R, RowOk 26 r) : SeqAt.shaped (dRules R) = true := by
  obtain ⟨h1, h2⟩ := lay_rules R h
  unfold SeqAt.shaped dRules
  rw [PyData.canLay0, PyData.depth, h1, h2]
  decide
theorem shaped_two {R S : GRules} (h1 : ∀ r ∈ R, RowOk 26 r) (h2 : ∀ r ∈ S, RowOk 26 r) : SeqAt.shaped (.list [dRules R, dRules S]) = true := by
  obtain ⟨a1, a2⟩ := lay_rules R h1
  obtain ⟨b1, b2⟩ := lay_rules S h2
  unfold SeqAt.shaped dRules
  simp [PyData.canLay0, PyData.canLayAll0, PyData.depth, PyData.depthAll, a1, a2, b1, b2]
/-! ### written texts -/
theorem pe_strV {X : Cx} {j : Nat} {pos : Pos} {s : Str} (l : GRow) (h : s = enc l) : PE X (.Constant (.str s) j pos) (tC (.str (enc l))) := by
  rw [h]
  exact pe_str
/-! ### max, min -/
theorem ev_maxN {K : PySem.W.Frag} {σ : L2.St} {H : Hp} {te : TE} {ns : List Int} {m : Int} (h : EvL te σ H (ns.map V.int)) (hm : m ∈ ns) (hle : ∀ y ∈ ns, y ≤ m) : Ev (tCB (rMax K) (tCons te tNil)) σ H (.int m) := fun H1 e Q q =>
  h H1 e _ fun p H2 _ e2 h2 => ⟨p, ns, rfl, sq_of h2, List.length_pos_of_mem hm, fun m' hm' hle' => by
    have : m' = m := Int.le_antisymm (hle m' hm') (hle' m hm)
    rw [this]
    exact q H2 e2⟩
theorem ev_minN {K : PySem.W.Frag} {σ : L2.St} {H : Hp} {te : TE} {ns : List Int} {m : Int} (h : EvL te σ H (ns.map V.int)) (hm : m ∈ ns) (hle : ∀ y ∈ ns, m ≤ y) : Ev (tCB (rMin K) (tCons te tNil)) σ H (.int m) := fun H1 e Q q =>
  h H1 e _ fun p H2 _ e2 h2 => ⟨p, ns, rfl, sq_of h2, List.length_pos_of_mem hm, fun m' hm' hle' => by
    have : m' = m := Int.le_antisymm (hle' m hm) (hle m' hm')
    rw [this]
    exact q H2 e2⟩
theorem max_ex : ∀ {ns : List Int}, ns ≠ [] → ∃ m, m ∈ ns ∧ ∀ y ∈ ns, y ≤ m
  | [], h => absurd rfl h
  | [a], _ => ⟨a, by simp, fun y hy => by rw [List.mem_singleton.mp hy]; exact Int.le_refl _⟩
  | a :: b :: ns, _ => by
    obtain ⟨m, hm, hle⟩ := max_ex (ns := b :: ns) (by simp)
    by_cases h : a ≤ m
    · exact ⟨m, List.mem_cons_of_mem _ hm, fun y hy => (List.mem_cons.mp hy).elim (fun e => e ▸ h) (hle y)⟩
    · exact ⟨a, by simp, fun y hy => (List.mem_cons.mp hy).elim (fun e => e ▸ Int.le_refl _) fun hy => Int.le_trans (hle y hy) (by omega)⟩
theorem min_ex : ∀ {ns : List Int}, ns ≠ [] → ∃ m, m ∈ ns ∧ ∀ y ∈ ns, m ≤ y
  | [], h => absurd rfl h
  | [a], _ => ⟨a, by simp, fun y hy => by rw [List.mem_singleton.mp hy]; exact Int.le_refl _⟩
  | a :: b :: ns, _ => by
    obtain ⟨m, hm, hle⟩ := min_ex (ns := b :: ns) (by simp)
    by_cases h : m ≤ a
    · exact ⟨m, List.mem_cons_of_mem _ hm, fun y hy => (List.mem_cons.mp hy).elim (fun e => e ▸ h) (hle y)⟩
    · exact ⟨a, by simp, fun y hy => (List.mem_cons.mp hy).elim (fun e => e ▸ Int.le_refl _) fun hy => Int.le_trans (by omega) (hle y hy)⟩
/-! ### a text's letters that a test leaves -/
theorem filt_range (p : Nat → Bool) (v : Nat → V) (l : GRow) : given l.length (fun i => p (l.getD i 0)) (fun i => v (l.getD i 0)) = (l.filter p).map v := by
  have e : (List.range l.length).map (fun i => l.getD i 0) = l := by
    apply List.ext_getElem?
    intro i
    rw [List.getElem?_map]
    by_cases hi : i < l.length
    · rw [List.getElem?_range hi]
      simp [hi]
    · rw [List.getElem?_eq_none (by simp; omega), List.getElem?_eq_none (by omega)]
      rfl
  conv => rhs; rw [← e]
  unfold given
  rw [List.filter_map, List.map_map]
  rfl
theorem el_strF {K : PySem.W.Frag} {σ : L2.St} {H : Hp} {ti te : TE} {t : TT} {j : Nat} {vs : List Nat} {l : GRow} (h : Ev ti σ H (.str (enc l))) (p : Nat → Bool) (v : Nat → V) (hl : l.length < sizeLine)
    (hw : ∀ x, wipe ((wipe σ vs).set j (some x)) vs = wipe σ vs) (ht : ∀ n ∈ l, ∀ H1, Ex H H1 → EvT t ((wipe σ vs).set j (some (.str (sg n)))) H1 (p n)) (hs : ∀ n ∈ l, ∀ H1, Ex H H1 → Ev te ((wipe σ vs).set j (some (.str (sg n)))) H1 (v n)) :
    EvL (tLc (iStr ti) (gName j) t te vs) σ H ((l.filter p).map v) := by
  rw [← filt_range]
  refine el_anyF (wi_str h) _ _ hl fun i x H1 H2 hi e1 y Q k => ?_
  obtain ⟨rfl, hx⟩ := y
  rw [List.getElem?_map, List.getElem?_eq_getElem hi] at hx
  have hx : V.str (sg l[i]) = x := Option.some.inj hx
  subst hx
  have e2 : l.getD i 0 = l[i] := by simp [hi]
  refine k _ _ (hw _) (Ex.refl _) ?_ fun _ => ?_
  · rw [e2]
    exact ht l[i] (List.getElem_mem hi) _ e1
  · rw [e2]
    exact hs l[i] (List.getElem_mem hi) _ e1
/-- a sign in a text -/
def rInC : R2 := fun x y H Q => ∃ (c : Nat) (z : Str), x = .str ⟨#[c]⟩ ∧ y = .str z ∧ Q (.bl (decide (c ∈ z.cps.toList))) H
theorem mem_enc {n : Nat} {l : GRow} : (97 + n ∈ (enc l).cps.toList) ↔ n ∈ l := by
  show 97 + n ∈ cd l ↔ n ∈ l
  unfold cd
  rw [List.mem_map]
  constructor
  · rintro ⟨m, hm, e⟩
    have : m = n := by omega
    exact this ▸ hm
  · exact fun h => ⟨n, h, rfl⟩
theorem ev_inC {σ : L2.St} {H : Hp} {ta tb : TE} {n : Nat} {l : GRow} (ha : Ev ta σ H (.str (sg n))) (hb : Ev tb σ H (.str (enc l))) : Ev (tOp rInC ta tb) σ H (.bl (decide (n ∈ l))) := ev_op ha hb fun H1 _ Q q => ⟨97 + n, enc l, rfl, rfl, by
  have e : decide (97 + n ∈ (enc l).cps.toList) = decide (n ∈ l) := decide_eq_decide.mpr mem_enc
  rw [e]
  exact q H1 (Ex.refl H1)⟩
end Gw

namespace Gw
open PySem PySem.Spec PyProof.Rows L2 Evl
section
variable {σ : L2.St} {H : Hp} {te : TE} {D : Ends} {tz tu : TS} {t : TT}
theorem q_skip (h : EvT t σ H false) (k : ∀ H1, Ex H H1 → tz D σ H1) : tSeq (tIfS t tu tNext) tz D σ H := q_when h (fun b => Bool.noConfusion b) fun _ H1 e => k H1 e
theorem s_skip (h : EvT t σ H false) (k : ∀ H1, Ex H H1 → D.nx σ H1) : tIfS t tu tNext D σ H := s_when h (fun b => Bool.noConfusion b) fun _ H1 e => k H1 e
end
theorem ell_two {σ : L2.St} {H : Hp} {ta tb : TE} {xs ys : List V} (h : EvL ta σ H xs) (h2 : EvL tb σ H ys) : EvLL (tLst (tCons ta (tCons tb tNil))) σ H [xs, ys] := fun H1 e Q q =>
  h H1 e _ fun a H2 ha e2 ha2 => h2 H2 (e.trans e2) _ fun b H3 hb e3 hb3 => ⟨(by show 2 ≤ sizeLine; decide), fun p hp => q p [a, b] _ (fresh_back (e2.trans e3) hp) (fun c hc => by
    have ha3 := e3 _ _ ha2
    rcases List.mem_cons.mp hc with rfl | hc
    · exact ⟨ha, ne_of_none ha3 hp⟩
    · rw [List.mem_singleton.mp hc]
      exact ⟨fresh_back e2 hb, ne_of_none hb3 hp⟩) ((e2.trans e3).trans (Ex.new hp)) ⟨upd_same, rfl, fun i c zs h1 h3 => by
    have ha3 := e3 _ _ ha2
    match i with
    | 0 =>
      cases h1
      cases h3
      rw [upd_ne (ne_of_none ha3 hp)]
      exact ha3
    | 1 =>
      cases h1
      cases h3
      rw [upd_ne (ne_of_none hb3 hp)]
      exact hb3
    | i + 2 => cases h1⟩⟩
theorem LL.two {H : Hp} {p : Addr} {as : List Addr} {xs ys : List V} (h : LL H p as [xs, ys]) : ∃ a b, as = [a, b] ∧ H p = some (.lst [.ref a, .ref b]) ∧ H a = some (.lst xs) ∧ H b = some (.lst ys) := by
  obtain ⟨h1, h2, h3⟩ := h
  match as, h2 with
  | [a, b], _ => exact ⟨a, b, rfl, h1, h3 0 a xs rfl rfl, h3 1 b ys rfl rfl⟩
/-- some rules: a new list -/
def EvX (te : TE) (σ : L2.St) (H : Hp) (C : GRules → Prop) : Prop := ∀ H1, Ex H H1 → ∀ Q : VK, (∀ p H2 R, H1 p = none → Ex H1 H2 → H2 p = some (.lst (RL R)) → C R → Q (.ref p) H2) → te σ H1 Q
theorem RL_rep (k : Nat) (R : GRules) : (List.replicate k (RL R)).flatten = RL (List.replicate k R).flatten := by
  unfold RL
  rw [List.map_flatten, List.map_replicate]
theorem ex_rep {σ : L2.St} {H : Hp} {te tn : TE} {C : GRules → Prop} {k : Nat} (h : EvX te σ H C) (hn : Ev tn σ H (.int (k : Int))) (hk : k ≤ 1000) (hC : ∀ R, C R → R.length ≤ 1000) : EvX (tOp rRep te tn) σ H (fun S => ∃ R, C R ∧ S = (List.replicate k R).flatten) := fun H1 e Q q =>
  h H1 e _ fun p H2 R hp e2 h2 hR => hn H2 (e.trans e2) _ fun H3 e3 => ⟨p, (k : Int), RL R, rfl, rfl, e3 _ _ h2, by omega, by omega, by
    rw [RL_len, Int.toNat_natCast, sizeLine_eq]
    have := Nat.mul_le_mul (hC R hR) hk
    omega, fun p2 hp2 => q p2 _ _ (fresh_back (e2.trans e3) hp2) ((e2.trans e3).trans (Ex.new hp2)) (by rw [upd_same, Int.toNat_natCast, RL_rep]) ⟨R, hR, rfl⟩⟩
theorem ex_take {K : PySem.W.Frag} {σ : L2.St} {H : Hp} {te : TE} {th : TO} {C : GRules → Prop} {n : Nat} (h : EvX te σ H C) (hn : EvO th σ H (some (n : Int))) : EvX (tSl (rSlL K) te tNoPart th) σ H (fun S => ∃ R, C R ∧ S = R.take n) := fun H1 e Q q =>
  h H1 e _ fun p H2 R hp e2 h2 hR => hn H2 (e.trans e2) _ fun H3 e3 => ⟨p, RL R, rfl, sq_of (e3 _ _ h2), fun p2 hp2 => q p2 _ _ (fresh_back (e2.trans e3) hp2) ((e2.trans e3).trans (Ex.new hp2)) (by
    rw [upd_same]
    have e : cutV (RL R) none (some (n : Int)) = RL (R.take n) := by
      unfold cutV
      rw [HT.sIx_nat, HT.sIx_none, Nat.sub_zero, List.drop_zero]
      unfold RL
      rw [List.map_take]
      by_cases h : n ≤ (R.map fun r => V.str (enc r)).length
      · rw [Nat.min_eq_left h]
      · rw [Nat.min_eq_right (by omega), List.take_of_length_le (Nat.le_refl _), List.take_of_length_le (by omega)]
    rw [e]) ⟨R, hR, rfl⟩⟩
theorem s_asgX {σ : L2.St} {H : Hp} {D : Ends} {te : TE} {tz : TS} {i : Nat} {C : GRules → Prop} (h : EvX te σ H C) (k : ∀ p H1 R, H p = none → Ex H H1 → H1 p = some (.lst (RL R)) → C R → tz D (σ.set i (some (.ref p))) H1) : tSeq (tAsg te (gName i)) tz D σ H := h H (Ex.refl H) _ k
/-- list(xs) -/
theorem el_copy {K : PySem.W.Frag} {σ : L2.St} {H : Hp} {ta : TE} {p : Addr} {xs : List V} (ha : Ev ta σ H (.ref p)) (h : SqL K H p xs) : EvL (tCB (rListS K) (tCons ta tNil)) σ H xs := Evl.el_list ha h
/-- xs[::-1] -/
theorem el_rev {K : PySem.W.Frag} {σ : L2.St} {H : Hp} {te : TE} {a : Addr} {xs : List V} (h : Ev te σ H (.ref a)) (hs : SqL K H a xs) : EvL (tRevL K te) σ H xs.reverse := fun H1 e Q q =>
  h H1 e _ fun H2 e2 => ⟨a, xs, rfl, ex_l (e.trans e2) hs, fun p hp => q p _ (fresh_back e2 hp) (e2.trans (Ex.new hp)) upd_same⟩
/-- rules at a -/
structure RAt (K : PySem.W.Frag) (H : Hp) (a : Addr) (R : GRules) : Prop where
  at_ : SqL K H a (RL R)
  ok : RulesOk R
  sz : ∀ r ∈ R, r.length ≤ 100000
theorem RAt.ex {K : PySem.W.Frag} {H H' : Hp} {a : Addr} {R : GRules} (h : RAt K H a R) (e : Ex H H') : RAt K H' a R := ⟨ex_l e h.at_, h.ok, h.sz⟩
/-! ### calls whose arguments are new lists -/
theorem el_spLNN {σ : L2.St} {H : Hp} {ta tb : TE} {E : XK} {xs ys zs : List V} {pre : List V → Hp → List V → Prop} (ha : EvL ta σ H xs) (hb : EvL tb σ H ys) (hp : ∀ a b H1, Ex H H1 → H1 a = some (.lst xs) → H1 b = some (.lst ys) → pre [.ref a, .ref b] H1 zs) :
    EvL (tCall (spL pre) [] E (tCons ta (tCons tb tNil))) σ H zs := fun H1 e Q q =>
  ha H1 e _ fun a H2 _ e2 h2 => hb H2 (e.trans e2) _ fun b H3 _ e3 h3 => by
    show spL pre [V.ref a, V.ref b] H3 Q E
    exact ⟨zs, hp a b H3 ((e.trans e2).trans e3) (e3 _ _ h2) h3, fun p H4 hp0 e4 h4 => q p H4 (fresh_back (e2.trans e3) hp0) ((e2.trans e3).trans e4) h4⟩
theorem ev_spVN3 {σ : L2.St} {H : Hp} {ta tb tc : TE} {E : XK} {y z v : V} {xs : List V} {pre : List V → Hp → V → Prop} (ha : EvL ta σ H xs) (hb : Ev tb σ H y) (hc : Ev tc σ H z) (hp : ∀ a H1, Ex H H1 → H1 a = some (.lst xs) → pre [.ref a, y, z] H1 v) :
    Ev (tCall (spV pre) [] E (tCons ta (tCons tb (tCons tc tNil)))) σ H v := fun H1 e Q q =>
  ha H1 e _ fun a H2 _ e2 h2 => hb H2 (e.trans e2) _ fun H3 e3 => hc H3 ((e.trans e2).trans e3) _ fun H4 e4 => by
    show spV pre [V.ref a, y, z] H4 Q E
    exact ⟨v, hp a H4 (((e.trans e2).trans e3).trans e4) ((e3.trans e4) _ _ h2), fun H5 e5 => q H5 (((e2.trans e3).trans e4).trans e5)⟩
theorem el_spLN3 {σ : L2.St} {H : Hp} {ta tb tc : TE} {E : XK} {y z : V} {xs ys : List V} {pre : List V → Hp → List V → Prop} (ha : EvL ta σ H xs) (hb : Ev tb σ H y) (hc : Ev tc σ H z) (hp : ∀ a H1, Ex H H1 → H1 a = some (.lst xs) → pre [.ref a, y, z] H1 ys) :
    EvL (tCall (spL pre) [] E (tCons ta (tCons tb (tCons tc tNil)))) σ H ys := fun H1 e Q q =>
  ha H1 e _ fun a H2 _ e2 h2 => hb H2 (e.trans e2) _ fun H3 e3 => hc H3 ((e.trans e2).trans e3) _ fun H4 e4 => by
    show spL pre [V.ref a, y, z] H4 Q E
    exact ⟨ys, hp a H4 (((e.trans e2).trans e3).trans e4) ((e3.trans e4) _ _ h2), fun p H5 hp0 e5 h5 => q p H5 (fresh_back ((e2.trans e3).trans e4) hp0) (((e2.trans e3).trans e4).trans e5) h5⟩
end Gw

namespace Gw
open PySem PySem.Spec PyProof.Rows L2 Evl
/-! ### walks that lean on no object: the heap may change under them -/
structure WF (wi : TI) (σ : L2.St) (H : Hp) (n : Nat) (f : Nat → V) : Prop where
  go : ∀ H1, Ex H H1 → ∀ R : It → Hp → Prop, (∀ J H2, Ex H1 H2 → Walk J n (fun _ => True) (YFn f) → R J H2) → wi σ H1 R
section
variable {σ : L2.St} {H : Hp} {te : TE} {ta : TA} {wi : TI} {n : Nat} {f : Nat → V} {D : Ends} {tb tz : TS}
theorem wf_rng1 {m : Nat} (h : EvA ta σ H [.int (m : Int)]) (hm : m < 1000000) : WF (iRng1 ta) σ H m (fun i => .int (i : Int)) :=
  ⟨fun H1 e R k => h H1 e _ fun H2 e2 => ⟨(m : Int), rfl, by omega, by omega, by
    rw [Int.toNat_natCast]
    exact k _ H2 e2 ((walk_range (lo := 0) (n := m)).mono (fun _ h => h) fun i H x H' _ _ y => ⟨y.1, y.2.trans (congrArg V.int (Int.zero_add _))⟩)⟩⟩
theorem wf_revR {tr : L2.St → Hp → (Int → Int → Hp → Prop) → Prop} {m : Nat} (h : ∀ H1, Ex H H1 → ∀ R : Int → Int → Hp → Prop, (∀ H2, Ex H1 H2 → R 0 (m : Int) H2) → tr σ H1 R) (hm : m < 1000000) :
    WF (iRevR tr) σ H m (fun i => .int ((m : Int) - 1 - (i : Int))) :=
  ⟨fun H1 e R k => h H1 e _ fun H2 e2 => ⟨by omega, by omega, by omega, by omega, by
    have e0 : ((m : Int) - 0).toNat = m := by omega
    rw [e0]
    exact k _ H2 e2 ((walk_rangeC (lo := 0 + (m : Int) - 1) (c := -1) (n := m)).mono (fun _ h => h) fun i H x H' _ _ y => ⟨y.1, y.2.trans (congrArg V.int (by omega))⟩)⟩⟩
theorem wf_str {l : GRow} (h : Ev te σ H (.str (enc l))) : WF (iStr te) σ H l.length (fun i => .str (sg (l.getD i 0))) :=
  ⟨fun H1 e R k => h H1 e _ fun H2 e2 => ⟨enc l, rfl, k _ H2 e2 (by
    have w := (walk_str (z := enc l)).mono (G' := fun _ => True) (Y' := YFn fun i => .str (sg (l.getD i 0))) (fun _ h => h) fun i H x H' _ _ y => by
      obtain ⟨rfl, hx⟩ := yat_str y
      rw [List.getElem?_map] at hx
      cases q : l[i]? with
      | none => rw [q] at hx; cases hx
      | some c =>
        rw [q] at hx
        have hx : V.str (sg c) = x := Option.some.inj hx
        refine ⟨rfl, ?_⟩
        rw [← hx]
        show V.str (sg c) = V.str (sg (l.getD i 0))
        rw [List.getD_eq_getElem?_getD, q]
        rfl
    rw [enc_size] at w
    exact w)⟩⟩
/-- range(a, b, c), c positive -/
theorem wf_rng3 {a b c : Int} {m : Nat} (h : EvA ta σ H [.int a, .int b, .int c]) (hr : RgC a b c m) : WF (iRng3 ta) σ H m (fun i => .int (a + (i : Nat) * c)) :=
  ⟨fun H1 e R k => h H1 e _ fun H2 e2 => ⟨a, b, c, m, rfl, hr, k _ H2 e2 walk_rangeC⟩⟩
theorem s_forF {j : Nat} (w : WF wi σ H n f) (Pv : Nat → L2.St → Hp → Prop) (h0 : ∀ H1, Ex H H1 → Pv 0 σ H1)
    (hs : ∀ i σ' H', i < n → Pv i σ' H' → tb { D with nx := Pv (i + 1), ct := Pv (i + 1), bk := D.nx } (σ'.set j (some (f i))) H') (hd : ∀ σ' H', Pv n σ' H' → D.nx σ' H') : tFor wi (gName j) tb D σ H :=
  w.go H (Ex.refl H) _ fun J H2 e2 wk => for_it wk Pv (h0 H2 e2) (fun _ _ _ _ _ => True.intro) (fun i x σ' H' H'' hi p y => by
    obtain ⟨rfl, rfl⟩ := y
    exact hs i σ' _ hi p) hd
theorem q_forF {j : Nat} (w : WF wi σ H n f) (Pv : Nat → L2.St → Hp → Prop) (h0 : ∀ H1, Ex H H1 → Pv 0 σ H1)
    (hs : ∀ i σ' H', i < n → Pv i σ' H' → tb { D with nx := Pv (i + 1), ct := Pv (i + 1), bk := tz D } (σ'.set j (some (f i))) H') (hd : ∀ σ' H', Pv n σ' H' → tz D σ' H') : tSeq (tFor wi (gName j) tb) tz D σ H :=
  s_forF (D := { D with nx := tz D }) w Pv h0 hs hd
end
/-- a letter, or none -/
def textOf : Option Nat → Str
  | none => enc []
  | some x => sg x
theorem textOf_eq (o : Option Nat) : decide (V.str (textOf o) = V.str (enc [])) = o.isNone := by
  cases o with
  | none => exact decide_eq_true rfl
  | some x =>
    refine decide_eq_false fun e => ?_
    have := enc_inj (a := [x]) (b := []) (V.str.inj e)
    cases this
end Gw

namespace Gw
open PySem PySem.Spec PyProof.Rows L2 Evl
/-! ### the hook, by further answers of K -/
abbrev AlQ : Type := Bool × He.AlD
def exB (ex : List (PySem.W.Frag → Bool)) (K : PySem.W.Frag) : Bool := ex.all fun f => f K
def obsQ (n : Nat) (fa : List He.Fa) (fn : List He.DefD) (ex : List (PySem.W.Frag → Bool)) (g : Addr → Option Obj) : AlQ := (exB ex (He.frG g (He.asD g n)), He.obsDG n fa fn g)
def hookQ (n : Nat) (fa : List He.Fa) (fn : List He.DefD) (ex : List (PySem.W.Frag → Bool)) : PySem.W.Hook where
  α := AlQ
  obs := fun s => obsQ n fa fn ex s.heap.get?
  val := fun _ => (true, He.valD fn)
  says := fun _ h => ∃ K : PySem.W.Frag, K.In h ∧ exB ex K = true ∧ He.SaysD fa fn K
  of := fun _ h e => ⟨_, He.frG_in, congrArg (fun z : AlQ => z.1) e, congrArg (fun z : AlQ => z.2) e⟩
  keeps := fun _ _ _ ⟨K, hK, c⟩ k => ⟨K, PySem.W.Frag.In.keeps hK k, c⟩
theorem obsQ_eq {n : Nat} {fa : List He.Fa} {fn : List He.DefD} {ex : List (PySem.W.Frag → Bool)} {g : Addr → Option Obj} {s : Shared} (h : ∀ a, g a = s.heap.get? a) : obsQ n fa fn ex g = (hookQ n fa fn ex).obs s := by
  have e : g = s.heap.get? := funext h
  rw [e] <;> rfl
theorem ex_at {ex : List (PySem.W.Frag → Bool)} {K : PySem.W.Frag} (c : exB ex K = true) (i : Nat) {f : PySem.W.Frag → Bool} (h : ex[i]? = some f := by rfl) : f K = true := List.all_eq_true.mp c f (List.mem_of_getElem? h)
/-! ### classes -/
structure Own (K : PySem.W.Frag) (C : Addr) : Prop where
  cl : Cls K C
  ha : PySem.W.findIn K (.ref C) "__class__" = some (some (.builtin "object.__class__"))
  hn : PySem.W.specialIn K (.builtin "object.__class__") "__get__" = some (some (.builtin "getset_descriptor.__get__"))
  htk : PySem.W.takesIn K (.builtin "object.__class__") = some true
  hm : PySem.W.mroIn K C (.type "object") = some true
def ownB (x : Str) (K : PySem.W.Frag) : Bool := He.eqO (PySem.W.findIn K (.ref (He.ga K x)) "__class__") (some (some (.builtin "object.__class__"))) && (decide (PySem.W.specialIn K (.builtin "object.__class__") "__get__" = some (some (.builtin "getset_descriptor.__get__"))) &&
  (decide (PySem.W.takesIn K (.builtin "object.__class__") = some true) && decide (PySem.W.mroIn K (He.ga K x) (.type "object") = some true)))
theorem own_ok {K : PySem.W.Frag} {x : Str} (c : Cls K (He.ga K x)) (h : ownB x K = true) : Own K (He.ga K x) := by
  obtain ⟨h1, h⟩ := He.ba h
  obtain ⟨h2, h⟩ := He.ba h
  obtain ⟨h3, h4⟩ := He.ba h
  exact ⟨c, He.eqO_ok h1, of_decide_eq_true h2, of_decide_eq_true h3, of_decide_eq_true h4⟩
def kitQ (x y : Str) (b : Bool) (K : PySem.W.Frag) : Bool := decide (PySem.W.kitOne K (.ref (He.ga K x)) (.ref (He.ga K y)) = some b)
theorem kit_ok {K : PySem.W.Frag} {x y : Str} {b : Bool} (h : kitQ x y b K = true) : PySem.W.kitOne K (.ref (He.ga K x)) (.ref (He.ga K y)) = some b := of_decide_eq_true h
def kitT (T : String) (y : Str) (b : Bool) (K : PySem.W.Frag) : Bool := decide (PySem.W.kitOne K (.type T) (.ref (He.ga K y)) = some b)
/-- made without an __init__ of the text -/
structure Bare (K : PySem.W.Frag) (C : Addr) : Prop where
  makes : PySem.W.makesIn K C = true
  init : PySem.W.findIn K (.ref C) "__init__" = some (some (.builtin "object.__init__"))
  top : PySem.W.mroIn K C (.type "object") = some true
  kp : PySem.W.keepIn K (.ref C) = true
def bareB (x : Str) (K : PySem.W.Frag) : Bool := PySem.W.makesIn K (He.ga K x) && (He.eqO (PySem.W.findIn K (.ref (He.ga K x)) "__init__") (some (some (.builtin "object.__init__"))) && (decide (PySem.W.mroIn K (He.ga K x) (.type "object") = some true) && PySem.W.keepIn K (.ref (He.ga K x))))
theorem bare_ok {K : PySem.W.Frag} {x : Str} (h : bareB x K = true) : Bare K (He.ga K x) := by
  obtain ⟨h1, h⟩ := He.ba h
  obtain ⟨h2, h⟩ := He.ba h
  obtain ⟨h3, h4⟩ := He.ba h
  exact ⟨h1, He.eqO_ok h2, of_decide_eq_true h3, h4⟩
/-- C() -/
def tMake0 (C : Addr) : TE := fun _ H Q => ∀ x dx, H x = none → H dx = none → dx ≠ x → Q (.ref x) (upd (upd H dx (.own x)) x (.ins C dx []))
theorem pe_make00 {X : Cx} {C : Addr} {x : Str} {p pos : Pos} (B : Bare X.K C) (hg : Gl X x) (hm : X.mg x = some (.ref C)) (hdb : (x == ("__debug__" : Str)) = false := by decide) : PE X (.Call (.Name x p) [] [] pos) (tMake0 C) := by
  refine ⟨fun pins s σ H Q I h => ?_⟩
  refine wpAny_Call_Name_kw (ld_glob I hg hm ?_ hdb)
  refine PySem.W.callWith_K0 I.kIn B.kp ?_
  have hq := h (s.heap.objs.size + 1) s.heap.objs.size (I.hok.fresh (Nat.le_succ _)) (I.hok.fresh (Nat.le_refl _)) (Nat.ne_of_lt (Nat.lt_succ_self _))
  have I2 := Inv.made (C := C) I
  refine wpAny_call (make_map0 I.kIn B.makes B.init (fun self => PySem.W.Looks.of_pure (PySem.W.oi_bind self)) ?_)
  have hx : ((s.heap.push PySem.W.emptyDict).push (PySem.W.instObj C s.heap.objs.size)).get? (s.heap.objs.size + 1) = some (PySem.W.instObj C s.heap.objs.size) := by
    have := Heap.get?_push_size (s.heap.push PySem.W.emptyDict) (o := PySem.W.instObj C s.heap.objs.size) rfl
    rwa [Heap.size_push] at this
  have t2 : PySem.W.Looks (model X.prog X.w) ((s.heap.push PySem.W.emptyDict).push (PySem.W.instObj C s.heap.objs.size)) (isInstance (.ref (s.heap.objs.size + 1)) (.type "object")) true :=
    ((PySem.W.Looks.ld hx).andThen .now).andThen (PySem.W.looks_mroIn I2.kIn B.top)
  refine codeAny_call_builtin PySem.W.oi_plain PySem.W.entry_oi (@PySem.W.check_slot (model X.prog X.w) _ _ _ "object.__init__" "object" "__init__" (.ref (s.heap.objs.size + 1)) [] [] _ PySem.W.oi_kind PySem.W.oi_split t2 (PySem.W.oi_args _) ?_)
  rw [PySem.W.oi_run]
  exact wpAny_pure (And.intro rfl ⟨V.ref (s.heap.objs.size + 1), _, I2, rfl, hq⟩)
/-! ### readings -/
def EvI (te : TE) (σ : L2.St) (H : Hp) (C : Addr) (fs : List (Str × V)) : Prop := ∀ H1, Ex H H1 → ∀ Q : VK, (∀ x dx H2, H1 x = none → Ex H1 H2 → H2 x = some (.ins C dx fs) → Q (.ref x) H2) → te σ H1 Q
/-- self.f = y -/
def spInit (C : Addr) : Str → Sp := fun f vs H Q _ => ∃ a dx y, vs = [.ref a, y] ∧ H a = some (.ins C dx []) ∧ Q .non (upd H a (.ins C dx [(f, y)]))
section
variable {K : PySem.W.Frag} {σ : L2.St} {H : Hp} {te ta : TE} {C : Addr} {f m : Str} {y v : V} {D : Ends} {tz : TS}
theorem Ex.made {H : Hp} {x dx : Addr} {o1 o2 : HO} (hx : H x = none) (hd : H dx = none) : Ex H (upd (upd H dx o1) x o2) := Ex.mut (Ex.new hd) hx
theorem ei_make {E : XK} (h : Ev te σ H y) : EvI (tMake C (spInit C f) [] E (tCons te tNil)) σ H C [(f, y)] := fun H1 e Q q => h H1 e _ fun H2 e2 x dx hx hd hne =>
  ⟨x, dx, y, rfl, upd_same, rfl, q x dx _ (fresh_back e2 hx) (e2.trans (Ex.mut (Ex.made hx hd) hx)) upd_same⟩
theorem ei_make0 : EvI (tMake0 C) σ H C [] := fun H1 e Q q x dx hx hd hne => q x dx _ hx (Ex.made hx hd) upd_same
theorem s_asgI {i : Nat} {fs : List (Str × V)} (h : EvI te σ H C fs) (k : ∀ x dx H1, H x = none → Ex H H1 → H1 x = some (.ins C dx fs) → D.nx (σ.set i (some (.ref x))) H1) : tAsg te (gName i) D σ H := h H (Ex.refl H) _ fun x dx H1 hx e h1 => k x dx H1 hx e h1
theorem s_retI {fs : List (Str × V)} (h : EvI te σ H C fs) (k : ∀ x dx H1, H x = none → Ex H H1 → H1 x = some (.ins C dx fs) → D.rt (.ref x) H1) : tRet te D σ H := h H (Ex.refl H) _ k
theorem ev_fld {a dx : Addr} {fs : List (Str × V)} (h : Ev te σ H (.ref a)) (hi : H a = some (.ins C dx fs)) (c : Cls K C) (n : NoAttr K C f) (hf : fs.lookup f = some v) : Ev (tFld K te f) σ H v := fun H1 e Q q =>
  h H1 e _ fun H2 e2 => ⟨a, C, dx, fs, v, rfl, (e.trans e2) _ _ hi, c, n, hf, q H2 e2⟩
/-- C(y).f -/
theorem ev_fldN {fs : List (Str × V)} (h : EvI te σ H C fs) (c : Cls K C) (n : NoAttr K C f) (hf : fs.lookup f = some v) : Ev (tFld K te f) σ H v := fun H1 e Q q =>
  h H1 e _ fun x dx H2 hx e2 h2 => ⟨x, C, dx, fs, v, rfl, h2, c, n, hf, q H2 e2⟩
theorem ev_meth {a dx : Addr} {fs : List (Str × V)} {E : XK} {ts : TA} {vs : List V} {pre : List V → Hp → V → Prop} (h : Ev te σ H (.ref a)) (hi : H a = some (.ins C dx fs)) (hf : fs.lookup m = none) (hA : EvA ts σ H vs) (hp : ∀ H1, Ex H H1 → pre (.ref a :: vs) H1 v) :
    Ev (tMeth C m (spV pre) [] E te ts) σ H v := fun H1 e Q q => h H1 e _ fun H2 e2 => ⟨a, dx, fs, rfl, (e.trans e2) _ _ hi, hf, hA H2 (e.trans e2) _ fun H3 e3 => by
    rw [List.append_nil]
    exact ⟨v, hp H3 ((e.trans e2).trans e3), fun H4 e4 => q H4 ((e2.trans e3).trans e4)⟩⟩
theorem ev_methN {fs : List (Str × V)} {E : XK} {ts : TA} {vs : List V} {pre : List V → Hp → V → Prop} (h : EvI te σ H C fs) (hf : fs.lookup m = none) (hA : EvA ts σ H vs) (hp : ∀ a dx H1, Ex H H1 → H1 a = some (.ins C dx fs) → pre (.ref a :: vs) H1 v) :
    Ev (tMeth C m (spV pre) [] E te ts) σ H v := fun H1 e Q q => h H1 e _ fun x dx H2 hx e2 h2 => ⟨x, dx, fs, rfl, h2, hf, hA H2 (e.trans e2) _ fun H3 e3 => by
    rw [List.append_nil]
    exact ⟨v, hp x dx H3 ((e.trans e2).trans e3) (e3 _ _ h2), fun H4 e4 => q H4 ((e2.trans e3).trans e4)⟩⟩
theorem ty_ins {a dx : Addr} {fs : List (Str × V)} (O : Own K C) (h : H a = some (.ins C dx fs)) : TyX K H (.ref a) (.ref C) := .base (.ins h O.cl O.ha O.hn O.htk O.hm)
/-- a comprehension over a list of lists -/
theorem el_LL {ti : TE} {j : Nat} {ws : List Nat} {p : Addr} {as : List Addr} {xss : List (List V)} (h : Ev ti σ H (.ref p)) (hL : LL H p as xss) (w : Nat → V) (hn : xss.length < sizeLine) (hw : ∀ x, wipe ((wipe σ ws).set j (some x)) ws = wipe σ ws)
    (hs : ∀ i c xs H1, xss[i]? = some xs → Ex H H1 → H1 c = some (.lst xs) → Ev te ((wipe σ ws).set j (some (.ref c))) H1 (w i)) : EvL (tLc (iList K ti) (gName j) tYes te ws) σ H ((List.range xss.length).map w) := by
  have al : as.length = xss.length := hL.2.1
  have W := wi_list (K := K) h (sq_of hL.1)
  rw [List.length_map, al] at W
  refine el_any W w hn fun i x H1 H2 hi e1 Y Q kk => ?_
  obtain ⟨rfl, hx⟩ := Y
  obtain ⟨xs, hxs⟩ : ∃ xs, xss[i]? = some xs := ⟨_, List.getElem?_eq_getElem hi⟩
  obtain ⟨c, hc1, hc2⟩ := hL.get hxs
  rw [hc1] at hx
  cases hx
  exact kk _ _ (hw _) (Ex.refl _) (hs i c xs _ hxs e1 (e1 _ _ hc2))
end
/-! ### methods -/
section
variable {P : Program} {w : World} {K : PySem.W.Frag} {mg : Str → Option Value} {base : Heap} {x q : Str} {st : Stmt} {N ps : List Str} {k : Nat} {sp : Sp} {C : Addr}
structure MthD (K : PySem.W.Frag) (C : Addr) (m q : Str) (st : Stmt) : Prop where
  ex : ∃ f fd, Meth K C m f ∧ FunD K m q (defArgs st) (defBody st) (defScope st) [] [] f fd
structure IniD (K : PySem.W.Frag) (mg : Str → Option Value) (C : Addr) (x q : Str) (st : Stmt) : Prop where
  ex : ∃ f fd, Mk K C f ∧ FunD K "__init__" q (defArgs st) (defBody st) (defScope st) [] [] f fd ∧ mg x = some (.ref C)
theorem met_of {m : Str} (c : Cls K C) (D : MthD K C m q st) (S : FnScope N ps (defScope st))
    (hb : ∀ (kV doc pm : Value) (an : Option Addr) (cdv ct : Value) (us : List Value), us.length = ps.length → bindArgs (PySem.W.fnOf m q (defArgs st) (defBody st) (defScope st) .none kV doc pm an cdv ct) ⟨us, []⟩ = pure (ps.zip us))
    (len : ∀ vs H Q E, sp vs H Q E → vs.length = ps.length)
    (hbody : ∀ (f : Addr) (cdv : Value) (A : Around) (outer : List Env) (s : Shared) (H : Hp) (vs : List V) (Q : VK) (E : XK), Room k (A.deeper (envOfC q (defScope st) s.heap.objs.size f cdv)) → sp vs H Q E →
      ∃ t, PSs (cxOf CX0 P w K mg base N q (defScope st) f cdv A outer s H E).nox (defBody st) t ∧ t { nx := fun _ H' => Q .non H', rt := Q } (start N vs) H) : C8.Met P w K mg base (k + 1) C m sp [] := by
  obtain ⟨f, fd, M, F⟩ := D.ex
  refine ⟨f, fd, ps, [], c, M, F.ok S len (fun cdv A outer s H vs Q E hr h => ?_), F.bindsN hb, .nil⟩
  obtain ⟨t, p, q⟩ := hbody f cdv A outer s H vs Q E hr h
  exact ⟨t, p.nox, q⟩
theorem mak_of (D : IniD K mg C x q st) (S : FnScope N ps (defScope st))
    (hb : ∀ (kV doc pm : Value) (an : Option Addr) (cdv ct : Value) (us : List Value), us.length = ps.length → bindArgs (PySem.W.fnOf "__init__" q (defArgs st) (defBody st) (defScope st) .none kV doc pm an cdv ct) ⟨us, []⟩ = pure (ps.zip us))
    (len : ∀ vs H Q E, sp vs H Q E → vs.length = ps.length)
    (hbody : ∀ (f : Addr) (cdv : Value) (A : Around) (outer : List Env) (s : Shared) (H : Hp) (vs : List V) (Q : VK) (E : XK), Room k (A.deeper (envOfC q (defScope st) s.heap.objs.size f cdv)) → sp vs H Q E →
      ∃ t, PSs (cxOf CX0 P w K mg base N q (defScope st) f cdv A outer s H E).nox (defBody st) t ∧ t { nx := fun _ H' => Q .non H', rt := Q } (start N vs) H) : C8.Mak P w K mg base (k + 1) x C sp [] := by
  obtain ⟨f, fd, M, F, hm⟩ := D.ex
  refine ⟨f, fd, ps, [], M, F.ok S len (fun cdv A outer s H vs Q E hr h => ?_), hm, F.bindsN hb, .nil⟩
  obtain ⟨t, p, q⟩ := hbody f cdv A outer s H vs Q E hr h
  exact ⟨t, p.nox, q⟩
end
end Gw

namespace Gw
open PySem PySem.Spec PyProof.Rows L2 Evl
/-! ### texts backwards -/
def revS (z : Str) : Str := ⟨((Builtin.Str.strSliceIndices none none (-1) z.length).filterMap (z.cps[·]?)).toArray⟩
theorem revS_enc (l : GRow) : revS (enc l) = enc l.reverse := by
  unfold revS
  rw [picked_rev, enc_len]
  have hsz : (enc l).cps.size = l.length := enc_size l
  rw [filterMap_get (enc l).cps _ (fun i hi => by
    obtain ⟨k, hk, rfl⟩ := List.mem_map.mp hi
    have := List.mem_range.mp hk
    rw [hsz]
    omega), List.map_map]
  unfold enc cd
  congr 1
  congr 1
  refine List.ext_getElem (by simp) fun i h1 h2 => ?_
  rw [List.length_map, List.length_range] at h1
  have h3 : l.length - 1 - i < l.length := by omega
  rw [List.getElem_map, List.getElem_map, List.getElem_range, List.getElem_reverse]
  show ((l.map (97 + ·)).toArray).getD (l.length - 1 - i) 0 = _
  simp [Array.getD, h3]
def tRevS (te : TE) : TE := fun σ H Q => te σ H fun x H1 => ∃ z, x = .str z ∧ z.length ≤ sizeLine ∧ Q (.str (revS z)) H1
theorem pe_revS {X : Cx} {e : Expr} {te : TE} {k : Nat} {p1 p2 p3 pos : Pos} (he : PE X e te) : PE X (.Subscript e (.Slice none none (some (.UnaryOp .USub (.Constant (.int 1) k p1) p2)) p3) pos) (tRevS te) := by
  refine ⟨fun pins s σ H Q I h => ?_⟩
  refine Subscript_ (thn (he.run pins s σ H _ I h) fun v s1 ⟨x, H1, I1, r1, q1⟩ => ?_)
  obtain ⟨z, ex, hz, q⟩ := q1
  subst ex
  obtain ⟨t, rfl⟩ := r1
  have hst : PO X (some (.UnaryOp .USub (.Constant (.int 1) k p1) p2)) (tPart (tUn (rU fun i => .int (-i)) (tC (.int 1)))) := po_some (pe_un un_neg pe_int)
  refine wpAny_Slice (thn (po_none.run pins s1 σ H1 (fun o H2 => o = none ∧ H2 = H1) I1 ⟨rfl, rfl⟩) fun vl s2 ⟨l, H2, I2, pl, el, e2⟩ => ?_)
  subst el e2
  refine thn (po_none.run pins s2 σ H2 (fun o H3 => o = none ∧ H3 = H2) I2 ⟨rfl, rfl⟩) fun vu s3 ⟨u, H3, I3, pu, eu, e3⟩ => ?_
  subst eu e3
  refine thn (hst.run pins s3 σ H3 (fun o H4 => o = some (-1) ∧ H4 = H3) I3 ⟨1, rfl, -1, rfl, rfl, rfl⟩) fun vs s4 ⟨o, H4, I4, ps, eo, e4⟩ => ?_
  subst eo e4
  have I5 : Inv X pins σ H4 { s4 with heap := s4.heap.push { cls := .type "slice", data := .fields #[vl, vu, vs] } } := I4.kept (t' := s4.toks) fun b ob q => Heap.get?_push_of_some _ q
  show wpAny (model X.prog X.w) X.A (subscriptTail e (.Slice none none (some (.UnaryOp .USub (.Constant (.int 1) k p1) p2)) p3) (.str z t) (.ref s4.heap.objs.size)) (EP X pins σ Q) X.xe { s4 with heap := s4.heap.push { cls := .type "slice", data := .fields #[vl, vu, vs] } }
  refine tail_any (T := "str") (ops := [.str z t, .ref s4.heap.objs.size]) (typeIs_str _ _ _) F.slot_str_getitem.lookup ?_ (by with_unfolding_all rfl)
  obtain ⟨os, hos, hcs, hds⟩ := Heap.IsSliceOf.new s4.heap vl vu vs
  obtain ⟨l, rfl, hl⟩ := IsPart.raw pl
  obtain ⟨u, rfl, hu⟩ := IsPart.raw pu
  obtain ⟨st, rfl, hs⟩ := IsPart.raw ps
  cases l with
  | some l => cases hl
  | none =>
    cases u with
    | some u => cases hu
    | none =>
      cases st with
      | none => cases hs
      | some st =>
        obtain ⟨i, tk⟩ := st
        have hi : i = -1 := Option.some.inj hs
        subst hi
        refine wpAny_getItem_str_slice (l := none) (u := none) (st := some (-1, tk)) ⟨os, hos, hcs, hds⟩ rfl ?_
        show Made.post (Made.str (revS z)) (EP X pins σ Q) _
        refine ⟨?_, .str _, H4, I5.tok _, ⟨_, rfl⟩, q⟩
        show (revS z).length ≤ sizeLine
        have : (revS z).length ≤ z.length := by
          show ((Builtin.Str.strSliceIndices none none (-1) z.length).filterMap (z.cps[·]?)).toArray.size ≤ _
          rw [List.size_toArray]
          refine Nat.le_trans (List.length_filterMap_le _ _) ?_
          rw [picked_rev, List.length_map, List.length_range]
          exact Nat.le_refl _
        omega
theorem ev_revS {σ : L2.St} {H : Hp} {te : TE} {l : GRow} (h : Ev te σ H (.str (enc l))) (hz : l.length ≤ sizeLine) : Ev (tRevS te) σ H (.str (enc l.reverse)) := fun H1 e Q q => h H1 e _ fun H2 e2 => ⟨enc l, rfl, by rw [enc_len]; exact hz, by rw [revS_enc]; exact q H2 e2⟩
/-! ### a written text, then one replaced in -/
theorem pe_addRepl {X : Cx} {b : Str} {j : Nat} {c pos : Pos} {e : Expr} {te : TE} (he : PET X e te) : PE X (.BinOp (.Constant (.str b) j c) .Add e pos) (tOp rCatS (tC (.str b)) te) := by
  refine ⟨fun pins s σ H Q I h => ?_⟩
  refine wpAny_BinOp (Calls.Constant_str ?_)
  exact thn (he pins { s with toks := s.toks + 1 } σ H _ (Nat.succ_le_succ (Nat.zero_le _)) (I.tok _) h) fun u s2 ⟨y, H2, I2, r2, q2⟩ => op_add_str pins s2 σ H2 (.str b) y _ u Q I2 ⟨_, rfl⟩ r2 q2
theorem ev_repl {σ : L2.St} {H : Hp} {to : TE} {x y z : Str} (h : Ev to σ H (.str x)) (hz : x.length + (x.length + 1) * z.length ≤ 16777216) : Ev (CwR.tReplC to y z) σ H (.str (Txt.replace x y z)) := fun H1 e Q q => h H1 e _ fun H2 e2 => ⟨x, rfl, hz, q H2 e2⟩
/-! ### the rest -/
theorem take_rng {k n : Nat} (h : k ≤ n) : (List.range n).take k = List.range k := by rw [List.take_range, Nat.min_eq_left h]
/-- list + list -/
theorem el_cat {σ : L2.St} {H : Hp} {ta tb : TE} {xs ys : List V} (ha : EvL ta σ H xs) (hb : EvL tb σ H ys) (hz : xs.length + ys.length ≤ sizeLine) : EvL (tOp rCat ta tb) σ H (xs ++ ys) := fun H1 e Q q =>
  ha H1 e _ fun a H2 ha0 e2 h2 => hb H2 (e.trans e2) _ fun b H3 hb0 e3 h3 => ⟨a, b, xs, ys, rfl, rfl, e3 _ _ h2, h3, hz, fun p hp => q p _ (fresh_back (e2.trans e3) hp) ((e2.trans e3).trans (Ex.new hp)) upd_same⟩
/-- isinstance(x, C), an own class -/
abbrev tIsC (K : PySem.W.Frag) (te : TE) (C : Addr) : TE := tCB (rIsi K) (tCons te (tCons (tC (.ref C)) tNil))
theorem pe_isC {X : Cx} {x : Str} {C : Addr} {e : Expr} {te : TE} {p apos pos : Pos} (z : X.mg "isinstance" = none) (gC : X.mg x = some (.ref C)) (he : PE X e te) (hg : Gl X "isinstance" := by exact rfl) (hgt : Gl X x := by exact rfl)
    (hd : (x == ("__debug__" : Str)) = false := by decide)
    (hs : starEach [e, .Name x p] X.env = (false, eval e X.env) :: starEach [.Name x p] X.env := by rfl) (hs2 : starEach [.Name x p] X.env = (false, eval (.Name x p) X.env) :: starEach [] X.env := by rfl)
    (hpl : (backTo pos (starEach [.Name x p] X.env)).any (·.1) = false := by rfl) : PE X (.Call (.Name "isinstance" apos) [e, .Name x p] [] pos) (tIsC X.K te C) :=
  pe_callB call_isi hg z boot_isinstance (pa_cons he (pa_cons (C8.pe_gc hgt ⟨_, gC, rfl⟩ hd) pa_nil hs2) hs) (by decide) (by decide) hs hpl
theorem rv_notB {H : Hp} {a b : Bool} : RV rNotB (.bl a) (.bl b) H (.bl (!decide (a = b))) := fun H1 e Q q => ⟨a, b, rfl, rfl, q H1 (Ex.refl _)⟩
end Gw

namespace Gw
open PySem PySem.Spec PyProof.Rows L2 Evl
/-! ### own errors -/
structure Err (K : PySem.W.Frag) (mg : Str → Option Value) (x : Str) : Prop where
  g : mg x = some (.ref (He.ga K x))
  exc : PySem.W.excIn K (He.ga K x) He.veBase "ValueError.__new__" = true
  kp : PySem.W.keepIn K (.ref (He.ga K x)) = true
  sub : PySem.W.subIn K (.ref (He.ga K x)) (.type "BaseException") = some true
  ty : PySem.W.typeIn K (.ref (He.ga K x)) = some (.type "type")
theorem err_ok {K : PySem.W.Frag} {mg : Str → Option Value} {x : Str} (g : mg x = some (.ref (He.ga K x))) (c : (He.Fa.exc x).ok K = true) : Err K mg x := by
  obtain ⟨h1, h2, h3, h4⟩ := He.exc_ok c
  exact ⟨g, h1, h2, h3, h4⟩
def excCB (x : Str) (K : PySem.W.Frag) : Bool := decide (PySem.W.findIn K (.ref (He.ga K x)) "__getattribute__" = some (some (.builtin "BaseException.__getattribute__"))) && (decide (PySem.W.findIn K (.ref (He.ga K x)) "__getattr__" = some none) &&
  (decide (PySem.W.subIn K (.ref (He.ga K x)) (.type "BaseException") = some true) && (PySem.W.hasDictIn K (He.ga K x) && (decide (PySem.W.findIn K (.ref (He.ga K x)) "__class__" = some (some (.builtin "object.__class__"))) &&
  (decide (PySem.W.specialIn K (.builtin "object.__class__") "__get__" = some (some (.builtin "getset_descriptor.__get__"))) && (decide (PySem.W.takesIn K (.builtin "object.__class__") = some true) && decide (PySem.W.mroIn K (He.ga K x) (.type "object") = some true)))))))
theorem excC_ok {K : PySem.W.Frag} {x : Str} (h : excCB x K = true) : ExcC K (He.ga K x) := by
  obtain ⟨h1, h⟩ := He.ba h
  obtain ⟨h2, h⟩ := He.ba h
  obtain ⟨h3, h⟩ := He.ba h
  obtain ⟨h4, h⟩ := He.ba h
  obtain ⟨h5, h⟩ := He.ba h
  obtain ⟨h6, h⟩ := He.ba h
  obtain ⟨h7, h8⟩ := He.ba h
  exact ⟨of_decide_eq_true h1, of_decide_eq_true h2, of_decide_eq_true h3, h4, of_decide_eq_true h5, of_decide_eq_true h6, of_decide_eq_true h7, of_decide_eq_true h8⟩
def kitV (x : Str) (T : String) (b : Bool) (K : PySem.W.Frag) : Bool := decide (PySem.W.kitOne K (.ref (He.ga K x)) (.type T) = some b)
theorem kitV_ok {K : PySem.W.Frag} {x : Str} {T : String} {b : Bool} (h : kitV x T b K = true) : PySem.W.kitOne K (.ref (He.ga K x)) (.type T) = some b := of_decide_eq_true h
/-- raise C('m') -/
def tErr (W : WX) (C : Addr) : TS := fun _ σ H => W (.ref C) none σ H
theorem ps_err {X : Cx} {W : WX} {x m : Str} {j : Nat} {p p2 pos pos2 : Pos} (R : Err X.K X.mg x) (hc : X.calm = true) (tk : Takes X W) (hg : Gl X x) (hdb : (x == ("__debug__" : Str)) = false := by decide) :
    PS X (.Raise (some (.Call (.Name x p) [.Constant (.str m) j p2] [] pos)) none pos2) (tErr W (He.ga X.K x)) :=
  ps_raise hc tk (pmk_own PySem.F.excBase_ValueError R.exc R.g R.kp (raises_own R.sub R.ty) hg hdb)
/-- isinstance(e, c), e the error that the suite holds -/
def rIsW (K : PySem.W.Frag) (cls : Value) (d : Option Addr) (a : Addr) : List V → Hp → VK → Prop := fun xs H Q => ∃ D, cls = .ref D ∧ d = none ∧ ExcC K D ∧ rIsE K D a xs H Q
theorem call_isW {X : Cx} {a : Addr} {cls : Value} {d : Option Addr} {oe : Obj} {pn : List (Addr × Obj)} (hz : Zc cls d oe) (hf : ∃ vs, oe.data = .fields vs) : CallR (X.suite a ((a, oe) :: pn)) (.builtin "isinstance") (rIsW X.K cls d a) := by
  intro pins s σ H xs us Q I r h
  obtain ⟨D, rfl, rfl, C, h⟩ := h
  exact call_isE (X := X) C hz hf pins s σ H xs us Q I r h
/-! ### defs that raise -/
abbrev wE (E : XK) : WX := fun cls d _ H => E cls d H
structure CalX (P : Program) (w : World) (K : PySem.W.Frag) (mg : Str → Option Value) (base : Heap) (k : Nat) (x : Str) (sp : Sp) : Prop where
  ex : ∃ (f : Addr) (fd : FuncData) (ps : List Str), FnOk P w K mg base (L2.CX P w) k f fd ps sp ∧ mg x = some (.ref f) ∧ PySem.W.keepIn K (.ref f) = true ∧ Binds K fd ps []
section
variable {P : Program} {w : World} {K : PySem.W.Frag} {mg : Str → Option Value} {base : Heap} {x : Str} {st : Stmt} {N ps : List Str} {k : Nat} {sp : Sp}
theorem calx_of (D : Df K mg x st) (S : FnScope N ps (defScope st))
    (hb : ∀ (kV doc pm : Value) (an : Option Addr) (cdv ct : Value) (us : List Value), us.length = ps.length → bindArgs (PySem.W.fnOf x x (defArgs st) (defBody st) (defScope st) .none kV doc pm an cdv ct) ⟨us, []⟩ = pure (ps.zip us))
    (len : ∀ vs H Q E, sp vs H Q E → vs.length = ps.length)
    (hbody : ∀ (f : Addr) (cdv : Value) (A : Around) (outer : List Env) (s : Shared) (H : Hp) (vs : List V) (Q : VK) (E : XK), Room k (A.deeper (envOfC x (defScope st) s.heap.objs.size f cdv)) → sp vs H Q E →
      Takes (cxOf (L2.CX P w) P w K mg base N x (defScope st) f cdv A outer s H E) (wE E) →
      ∃ t, PSs (cxOf (L2.CX P w) P w K mg base N x (defScope st) f cdv A outer s H E) (defBody st) t ∧ t { nx := fun _ H' => Q .non H', rt := Q } (start N vs) H) : CalX P w K mg base (k + 1) x sp := by
  obtain ⟨f, fd, F, hm⟩ := D.ex
  exact ⟨f, fd, ps, F.ok S len (fun cdv A outer s H vs Q E hr h => hbody f cdv A outer s H vs Q E hr h (takes_of rfl rfl rfl rfl)), hm, F.kp, F.bindsN hb⟩
end
theorem pe_cx {X : Cx} {W : WX} {j k : Nat} {x : Str} {sp : Sp} {p pos : Pos} {e : Expr} {es : List Expr} {t : TA} (c : CalX X.prog X.w X.K X.mg X.base k x sp) (hr : Room j X.A) (hk : k ≤ j) (hg : Gl X x) (tk : Takes X W) (ha : PA X (e :: es) t)
    (hdb : (x == ("__debug__" : Str)) = false := by decide) (he : starEach (e :: es) X.env = (false, eval e X.env) :: starEach es X.env := by rfl) (hpl : (backTo pos (starEach es X.env)).any (·.1) = false := by rfl) :
    PE X (.Call (.Name x p) (e :: es) [] pos) (tCallS sp (WE W) t) := by
  obtain ⟨f, fd, ps, F, hm, kp, b⟩ := c.ex
  exact pe_callS F (hr.mono hk) hg hm kp b (fun σ => passAt tk σ) ha hdb he hpl
/-- nothing handed back, or an error -/
def spM (good : List V → Hp → Prop) (bad : List V → Hp → Addr → Prop) : Sp := fun vs H Q E => (good vs H ∧ RetV .non H Q) ∨ ∃ C, bad vs H C ∧ ∀ H', Ex H H' → E (.ref C) none H'
def Ra (te : TE) (σ : L2.St) (H : Hp) : Prop := ∀ H1, Ex H H1 → ∀ Q : VK, te σ H1 Q
section
variable {σ : L2.St} {H : Hp} {ta : TA} {te : TE} {t : TT} {tz tu : TS} {D : Ends} {W : WX} {vs : List V} {C : Addr} {good : List V → Hp → Prop} {bad : List V → Hp → Addr → Prop} {v : V}
theorem ra_sp (h : EvA ta σ H vs) (hb : ∀ H1, Ex H H1 → bad vs H1 C) (k : ∀ H1, Ex H H1 → W (.ref C) none σ H1) : Ra (tCallS (spM good bad) (WE W) ta) σ H := fun H1 e Q =>
  h H1 e _ fun H2 e2 => .inr ⟨C, hb H2 (e.trans e2), fun H3 e3 => k H3 ((e.trans e2).trans e3)⟩
theorem ev_spM (h : EvA ta σ H vs) (hg : ∀ H1, Ex H H1 → good vs H1) : Ev (tCallS (spM good bad) (WE W) ta) σ H .non := fun H1 e Q q =>
  h H1 e _ fun H2 e2 => .inl ⟨hg H2 (e.trans e2), fun H3 e3 => q H3 (e2.trans e3)⟩
theorem q_dropV (h : Ev te σ H v) (k : ∀ H1, Ex H H1 → tz D σ H1) : tSeq (tDrop te) tz D σ H := h H (Ex.refl H) _ k
theorem q_dropR (h : Ra te σ H) : tSeq (tDrop te) tz D σ H := h H (Ex.refl H) _
theorem s_dropR (h : Ra te σ H) : tDrop te D σ H := h H (Ex.refl H) _
theorem s_retR (h : Ra te σ H) : tRet te D σ H := h H (Ex.refl H) _
theorem q_err (h : EvT t σ H true) (k : ∀ H1, Ex H H1 → W (.ref C) none σ H1) : tSeq (tIfS t (tErr W C) tNext) tz D σ H := q_when h (fun _ H1 e => k H1 e) (fun b => Bool.noConfusion b)
theorem s_err (h : EvT t σ H true) (k : ∀ H1, Ex H H1 → W (.ref C) none σ H1) : tIfS t (tErr W C) tNext D σ H := s_when h (fun _ H1 e => k H1 e) (fun b => Bool.noConfusion b)
theorem q_pass (h : EvT t σ H false) (k : ∀ H1, Ex H H1 → tz D σ H1) : tSeq (tIfS t tu tNext) tz D σ H := q_when h (fun b => Bool.noConfusion b) fun _ H1 e => k H1 e
theorem s_pass (h : EvT t σ H false) (k : ∀ H1, Ex H H1 → D.nx σ H1) : tIfS t tu tNext D σ H := s_when h (fun b => Bool.noConfusion b) fun _ H1 e => k H1 e
end
/-! ### things of any kind -/
def rowB (n : Nat) : V → Bool
  | .str z => isLet n z
  | _ => false
def numB (j : Int) : V → Bool
  | .int i => decide (j ≤ i)
  | _ => false
/-- a text, or nothing of that kind -/
def AnyR (K : PySem.W.Frag) (H : Hp) (y : V) : Prop := (∃ z, y = .str z ∧ z.length ≤ sizeLine) ∨ ((∃ S, TyX K H y (.type S) ∧ kitB S "str" = some false) ∧ ∀ n, rowB n y = false)
def AnyN (K : PySem.W.Frag) (H : Hp) (y : V) : Prop := (∃ i, y = .int i) ∨ (∃ b, y = .bl b) ∨ ((∃ S, TyX K H y (.type S) ∧ kitB S "int" = some false) ∧ ∀ j, numB j y = false)
/-- no rules -/
def BadR (K : PySem.W.Frag) (H : Hp) (v : V) : Prop := (∃ S, TyX K H v (.type S) ∧ kitB S "list" = some false) ∨ ∃ a ys, v = .ref a ∧ SqL K H a ys ∧ ys.length < sizeLine ∧ (ys.length = 0 ∨ 26 < ys.length ∨ ((∀ y ∈ ys, AnyR K H y) ∧ ys.all (rowB ys.length) = false))
/-- no count of times -/
def BadT (K : PySem.W.Frag) (H : Hp) (v : V) : Prop := AnyN K H v ∧ (numB 0 v = false ∨ ∃ i, v = .int i ∧ 300 < i)
section
variable {K : PySem.W.Frag} {H H' : Hp} {y v : V}
theorem AnyR.ex (h : AnyR K H y) (e : Ex H H') : AnyR K H' y := h.imp id fun ⟨⟨S, h1, h2⟩, h3⟩ => ⟨⟨S, ty_ex h1 e, h2⟩, h3⟩
theorem AnyN.ex (h : AnyN K H y) (e : Ex H H') : AnyN K H' y := h.imp id (Or.imp id fun ⟨⟨S, h1, h2⟩, h3⟩ => ⟨⟨S, ty_ex h1 e, h2⟩, h3⟩)
theorem BadR.ex (h : BadR K H v) (e : Ex H H') : BadR K H' v := by
  rcases h with ⟨S, h1, h2⟩ | ⟨a, ys, h0, h1, hz, h2⟩
  · exact .inl ⟨S, ty_ex h1 e, h2⟩
  · exact .inr ⟨a, ys, h0, ex_l e h1, hz, h2.imp id (Or.imp id fun ⟨h3, h4⟩ => ⟨fun y hy => (h3 y hy).ex e, h4⟩)⟩
theorem BadT.ex (h : BadT K H v) (e : Ex H H') : BadT K H' v := ⟨h.1.ex e, h.2⟩
theorem isi_sx : kitB "NoneType" "str" = some false ∧ kitB "int" "str" = some false ∧ kitB "list" "str" = some false ∧ kitB "tuple" "str" = some false ∧ kitB "bool" "str" = some false := by decide +kernel
theorem isi_nx : kitB "NoneType" "int" = some false ∧ kitB "str" "int" = some false ∧ kitB "list" "int" = some false ∧ kitB "tuple" "int" = some false ∧ kitB "bool" "int" = some true := by decide +kernel
theorem isi_lx : kitB "NoneType" "list" = some false ∧ kitB "str" "list" = some false ∧ kitB "int" "list" = some false ∧ kitB "tuple" "list" = some false := by decide +kernel
end
end Gw

open PySem PySem.Spec PyProof.Rows L2 Evl
namespace Gw
def top (i : Nat) : Stmt := PySem.Challenge.pw_growrow_k07_refused.main.body.getD i (.Pass ⟨0, 0, 0, 0⟩)
abbrev cGrowError : Stmt := top 1
abbrev cBadRules : Stmt := top 2
abbrev cBadRow : Stmt := top 3
abbrev cBadLetter : Stmt := top 4
abbrev cBadTimes : Stmt := top 5
abbrev cBadPlace : Stmt := top 6
abbrev cTooLong : Stmt := top 7
abbrev cOtherRules : Stmt := top 8
abbrev sIs_number : Stmt := top 12
abbrev sIs_row : Stmt := top 13
abbrev sAsked_rules : Stmt := top 14
abbrev sAsked_row : Stmt := top 15
abbrev sAsked_letter : Stmt := top 16
abbrev sAsked_times : Stmt := top 17
abbrev sOnce : Stmt := top 18
abbrev sLengths_of : Stmt := top 19
abbrev sLong_by : Stmt := top 20
abbrev sCounted : Stmt := top 21
abbrev sGrown_counts : Stmt := top 22
abbrev sCounts : Stmt := top 25
abbrev sLength : Stmt := top 26
abbrev sGrown : Stmt := top 27
abbrev sSkipped : Stmt := top 28
abbrev sLetter : Stmt := top 29
abbrev sFirst : Stmt := top 30
abbrev sBehind : Stmt := top 31
abbrev cAnswer : Stmt := top 33
abbrev cTimes : Stmt := top 34
abbrev sTimes_init : Stmt := inClass cTimes 0
abbrev sTimes_shows : Stmt := inClass cTimes 1
abbrev cShut : Stmt := top 35
abbrev sShut_init : Stmt := inClass cShut 0
abbrev sShut_shows : Stmt := inClass cShut 1
abbrev cAlike : Stmt := top 36
abbrev sAlike_shows : Stmt := inClass cAlike 0
abbrev cApart : Stmt := top 37
abbrev sApart_init : Stmt := inClass cApart 0
abbrev sApart_shows : Stmt := inClass cApart 1
abbrev sComes : Stmt := top 39
abbrev sLengths : Stmt := top 40
abbrev sLaw_rules_asked : Stmt := top 42
abbrev sLaw_rows_asked : Stmt := top 43
abbrev sLaw_numbers_asked : Stmt := top 44
abbrev sLaw_long_asked : Stmt := top 45
abbrev sLaw_told : Stmt := top 46
abbrev sLaw : Stmt := top 47
/-- what the top has written -/
structure T (K : PySem.W.Frag) (mg : Str → Option Value) : Prop where
  z_isinstance : mg "isinstance" = none
  z_int : mg "int" = none
  z_str : mg "str" = none
  z_list : mg "list" = none
  z_bool : mg "bool" = none
  z_len : mg "len" = none
  z_all : mg "all" = none
  z_any : mg "any" = none
  z_sum : mg "sum" = none
  z_range : mg "range" = none
  z_reversed : mg "reversed" = none
  z_zip : mg "zip" = none
  z_enumerate : mg "enumerate" = none
  z_sorted : mg "sorted" = none
  z_ValueError : mg "ValueError" = none
  LETTERS : ∃ u, mg "LETTERS" = some u ∧ RelV (.str ALPH) u
  TIMES : ∃ u, mg "TIMES" = some u ∧ RelV (.int 300) u
  LONGEST : ∃ u, mg "LONGEST" = some u ∧ RelV (.int 100000) u
  d_is_number : Df K mg "is_number" sIs_number
  d_is_row : Df K mg "is_row" sIs_row
  d_asked_rules : Df K mg "asked_rules" sAsked_rules
  d_asked_row : Df K mg "asked_row" sAsked_row
  d_asked_letter : Df K mg "asked_letter" sAsked_letter
  d_asked_times : Df K mg "asked_times" sAsked_times
  d_once : Df K mg "once" sOnce
  d_lengths_of : Df K mg "lengths_of" sLengths_of
  d_long_by : Df K mg "long_by" sLong_by
  d_counted : Df K mg "counted" sCounted
  d_grown_counts : Df K mg "grown_counts" sGrown_counts
  d_counts : Df K mg "counts" sCounts
  d_length : Df K mg "length" sLength
  d_grown : Df K mg "grown" sGrown
  d_skipped : Df K mg "skipped" sSkipped
  d_letter : Df K mg "letter" sLetter
  d_first : Df K mg "first" sFirst
  d_behind : Df K mg "behind" sBehind
  d_comes : Df K mg "comes" sComes
  d_lengths : Df K mg "lengths" sLengths
  d_law_rules_asked : Df K mg "_law_rules_asked" sLaw_rules_asked
  d_law_rows_asked : Df K mg "_law_rows_asked" sLaw_rows_asked
  d_law_numbers_asked : Df K mg "_law_numbers_asked" sLaw_numbers_asked
  d_law_long_asked : Df K mg "_law_long_asked" sLaw_long_asked
  d_law_told : Df K mg "_law_told" sLaw_told
  g_Answer : mg "Answer" = some (.ref (He.ga K "Answer"))
  o_Answer : Own K (He.ga K "Answer")
  g_Times : mg "Times" = some (.ref (He.ga K "Times"))
  o_Times : Own K (He.ga K "Times")
  g_Shut : mg "Shut" = some (.ref (He.ga K "Shut"))
  o_Shut : Own K (He.ga K "Shut")
  g_Alike : mg "Alike" = some (.ref (He.ga K "Alike"))
  o_Alike : Own K (He.ga K "Alike")
  g_Apart : mg "Apart" = some (.ref (He.ga K "Apart"))
  o_Apart : Own K (He.ga K "Apart")
  k_Times_Answer : PySem.W.kitOne K (.ref (He.ga K "Times")) (.ref (He.ga K "Answer")) = some true
  k_Times_Times : PySem.W.kitOne K (.ref (He.ga K "Times")) (.ref (He.ga K "Times")) = some true
  k_Times_Shut : PySem.W.kitOne K (.ref (He.ga K "Times")) (.ref (He.ga K "Shut")) = some false
  k_Times_Alike : PySem.W.kitOne K (.ref (He.ga K "Times")) (.ref (He.ga K "Alike")) = some false
  k_Times_Apart : PySem.W.kitOne K (.ref (He.ga K "Times")) (.ref (He.ga K "Apart")) = some false
  k_Shut_Answer : PySem.W.kitOne K (.ref (He.ga K "Shut")) (.ref (He.ga K "Answer")) = some true
  k_Shut_Times : PySem.W.kitOne K (.ref (He.ga K "Shut")) (.ref (He.ga K "Times")) = some false
  k_Shut_Shut : PySem.W.kitOne K (.ref (He.ga K "Shut")) (.ref (He.ga K "Shut")) = some true
  k_Shut_Alike : PySem.W.kitOne K (.ref (He.ga K "Shut")) (.ref (He.ga K "Alike")) = some false
  k_Shut_Apart : PySem.W.kitOne K (.ref (He.ga K "Shut")) (.ref (He.ga K "Apart")) = some false
  k_Alike_Answer : PySem.W.kitOne K (.ref (He.ga K "Alike")) (.ref (He.ga K "Answer")) = some true
  k_Alike_Times : PySem.W.kitOne K (.ref (He.ga K "Alike")) (.ref (He.ga K "Times")) = some false
  k_Alike_Shut : PySem.W.kitOne K (.ref (He.ga K "Alike")) (.ref (He.ga K "Shut")) = some false
  k_Alike_Alike : PySem.W.kitOne K (.ref (He.ga K "Alike")) (.ref (He.ga K "Alike")) = some true
  k_Alike_Apart : PySem.W.kitOne K (.ref (He.ga K "Alike")) (.ref (He.ga K "Apart")) = some false
  k_Apart_Answer : PySem.W.kitOne K (.ref (He.ga K "Apart")) (.ref (He.ga K "Answer")) = some true
  k_Apart_Times : PySem.W.kitOne K (.ref (He.ga K "Apart")) (.ref (He.ga K "Times")) = some false
  k_Apart_Shut : PySem.W.kitOne K (.ref (He.ga K "Apart")) (.ref (He.ga K "Shut")) = some false
  k_Apart_Alike : PySem.W.kitOne K (.ref (He.ga K "Apart")) (.ref (He.ga K "Alike")) = some false
  k_Apart_Apart : PySem.W.kitOne K (.ref (He.ga K "Apart")) (.ref (He.ga K "Apart")) = some true
  n_Times : NoAttr K (He.ga K "Times") "many"
  i_Times : IniD K mg (He.ga K "Times") "Times" "Times.__init__" sTimes_init
  m_Times_shows : MthD K (He.ga K "Times") "shows" "Times.shows" sTimes_shows
  n_Shut : NoAttr K (He.ga K "Shut") "letters"
  i_Shut : IniD K mg (He.ga K "Shut") "Shut" "Shut.__init__" sShut_init
  m_Shut_shows : MthD K (He.ga K "Shut") "shows" "Shut.shows" sShut_shows
  m_Alike_shows : MthD K (He.ga K "Alike") "shows" "Alike.shows" sAlike_shows
  b_Alike : Bare K (He.ga K "Alike")
  n_Apart : NoAttr K (He.ga K "Apart") "many"
  i_Apart : IniD K mg (He.ga K "Apart") "Apart" "Apart.__init__" sApart_init
  m_Apart_shows : MthD K (He.ga K "Apart") "shows" "Apart.shows" sApart_shows
  g_GrowError : mg "GrowError" = some (.ref (He.ga K "GrowError"))
  x_BadRules : Err K mg "BadRules"
  e_BadRules : PySem.W.exmOne K (.ref (He.ga K "BadRules")) (.ref (He.ga K "GrowError")) = some true
  c_BadRules : ExcC K (He.ga K "BadRules")
  v_BadRules : PySem.W.kitOne K (.ref (He.ga K "BadRules")) (.type "ValueError") = some true
  q_BadRules_BadRules : PySem.W.kitOne K (.ref (He.ga K "BadRules")) (.ref (He.ga K "BadRules")) = some true
  q_BadRules_BadRow : PySem.W.kitOne K (.ref (He.ga K "BadRules")) (.ref (He.ga K "BadRow")) = some false
  q_BadRules_BadLetter : PySem.W.kitOne K (.ref (He.ga K "BadRules")) (.ref (He.ga K "BadLetter")) = some false
  q_BadRules_BadTimes : PySem.W.kitOne K (.ref (He.ga K "BadRules")) (.ref (He.ga K "BadTimes")) = some false
  q_BadRules_BadPlace : PySem.W.kitOne K (.ref (He.ga K "BadRules")) (.ref (He.ga K "BadPlace")) = some false
  q_BadRules_TooLong : PySem.W.kitOne K (.ref (He.ga K "BadRules")) (.ref (He.ga K "TooLong")) = some false
  q_BadRules_OtherRules : PySem.W.kitOne K (.ref (He.ga K "BadRules")) (.ref (He.ga K "OtherRules")) = some false
  x_BadRow : Err K mg "BadRow"
  e_BadRow : PySem.W.exmOne K (.ref (He.ga K "BadRow")) (.ref (He.ga K "GrowError")) = some true
  c_BadRow : ExcC K (He.ga K "BadRow")
  v_BadRow : PySem.W.kitOne K (.ref (He.ga K "BadRow")) (.type "ValueError") = some true
  q_BadRow_BadRules : PySem.W.kitOne K (.ref (He.ga K "BadRow")) (.ref (He.ga K "BadRules")) = some false
  q_BadRow_BadRow : PySem.W.kitOne K (.ref (He.ga K "BadRow")) (.ref (He.ga K "BadRow")) = some true
  q_BadRow_BadLetter : PySem.W.kitOne K (.ref (He.ga K "BadRow")) (.ref (He.ga K "BadLetter")) = some false
  q_BadRow_BadTimes : PySem.W.kitOne K (.ref (He.ga K "BadRow")) (.ref (He.ga K "BadTimes")) = some false
  q_BadRow_BadPlace : PySem.W.kitOne K (.ref (He.ga K "BadRow")) (.ref (He.ga K "BadPlace")) = some false
  q_BadRow_TooLong : PySem.W.kitOne K (.ref (He.ga K "BadRow")) (.ref (He.ga K "TooLong")) = some false
  q_BadRow_OtherRules : PySem.W.kitOne K (.ref (He.ga K "BadRow")) (.ref (He.ga K "OtherRules")) = some false
  x_BadLetter : Err K mg "BadLetter"
  e_BadLetter : PySem.W.exmOne K (.ref (He.ga K "BadLetter")) (.ref (He.ga K "GrowError")) = some true
  c_BadLetter : ExcC K (He.ga K "BadLetter")
  v_BadLetter : PySem.W.kitOne K (.ref (He.ga K "BadLetter")) (.type "ValueError") = some true
  q_BadLetter_BadRules : PySem.W.kitOne K (.ref (He.ga K "BadLetter")) (.ref (He.ga K "BadRules")) = some false
  q_BadLetter_BadRow : PySem.W.kitOne K (.ref (He.ga K "BadLetter")) (.ref (He.ga K "BadRow")) = some false
  q_BadLetter_BadLetter : PySem.W.kitOne K (.ref (He.ga K "BadLetter")) (.ref (He.ga K "BadLetter")) = some true
  q_BadLetter_BadTimes : PySem.W.kitOne K (.ref (He.ga K "BadLetter")) (.ref (He.ga K "BadTimes")) = some false
  q_BadLetter_BadPlace : PySem.W.kitOne K (.ref (He.ga K "BadLetter")) (.ref (He.ga K "BadPlace")) = some false
  q_BadLetter_TooLong : PySem.W.kitOne K (.ref (He.ga K "BadLetter")) (.ref (He.ga K "TooLong")) = some false
  q_BadLetter_OtherRules : PySem.W.kitOne K (.ref (He.ga K "BadLetter")) (.ref (He.ga K "OtherRules")) = some false
  x_BadTimes : Err K mg "BadTimes"
  e_BadTimes : PySem.W.exmOne K (.ref (He.ga K "BadTimes")) (.ref (He.ga K "GrowError")) = some true
  c_BadTimes : ExcC K (He.ga K "BadTimes")
  v_BadTimes : PySem.W.kitOne K (.ref (He.ga K "BadTimes")) (.type "ValueError") = some true
  q_BadTimes_BadRules : PySem.W.kitOne K (.ref (He.ga K "BadTimes")) (.ref (He.ga K "BadRules")) = some false
  q_BadTimes_BadRow : PySem.W.kitOne K (.ref (He.ga K "BadTimes")) (.ref (He.ga K "BadRow")) = some false
  q_BadTimes_BadLetter : PySem.W.kitOne K (.ref (He.ga K "BadTimes")) (.ref (He.ga K "BadLetter")) = some false
  q_BadTimes_BadTimes : PySem.W.kitOne K (.ref (He.ga K "BadTimes")) (.ref (He.ga K "BadTimes")) = some true
  q_BadTimes_BadPlace : PySem.W.kitOne K (.ref (He.ga K "BadTimes")) (.ref (He.ga K "BadPlace")) = some false
  q_BadTimes_TooLong : PySem.W.kitOne K (.ref (He.ga K "BadTimes")) (.ref (He.ga K "TooLong")) = some false
  q_BadTimes_OtherRules : PySem.W.kitOne K (.ref (He.ga K "BadTimes")) (.ref (He.ga K "OtherRules")) = some false
  x_BadPlace : Err K mg "BadPlace"
  e_BadPlace : PySem.W.exmOne K (.ref (He.ga K "BadPlace")) (.ref (He.ga K "GrowError")) = some true
  c_BadPlace : ExcC K (He.ga K "BadPlace")
  v_BadPlace : PySem.W.kitOne K (.ref (He.ga K "BadPlace")) (.type "ValueError") = some true
  q_BadPlace_BadRules : PySem.W.kitOne K (.ref (He.ga K "BadPlace")) (.ref (He.ga K "BadRules")) = some false
  q_BadPlace_BadRow : PySem.W.kitOne K (.ref (He.ga K "BadPlace")) (.ref (He.ga K "BadRow")) = some false
  q_BadPlace_BadLetter : PySem.W.kitOne K (.ref (He.ga K "BadPlace")) (.ref (He.ga K "BadLetter")) = some false
  q_BadPlace_BadTimes : PySem.W.kitOne K (.ref (He.ga K "BadPlace")) (.ref (He.ga K "BadTimes")) = some false
  q_BadPlace_BadPlace : PySem.W.kitOne K (.ref (He.ga K "BadPlace")) (.ref (He.ga K "BadPlace")) = some true
  q_BadPlace_TooLong : PySem.W.kitOne K (.ref (He.ga K "BadPlace")) (.ref (He.ga K "TooLong")) = some false
  q_BadPlace_OtherRules : PySem.W.kitOne K (.ref (He.ga K "BadPlace")) (.ref (He.ga K "OtherRules")) = some false
  x_TooLong : Err K mg "TooLong"
  e_TooLong : PySem.W.exmOne K (.ref (He.ga K "TooLong")) (.ref (He.ga K "GrowError")) = some true
  c_TooLong : ExcC K (He.ga K "TooLong")
  v_TooLong : PySem.W.kitOne K (.ref (He.ga K "TooLong")) (.type "ValueError") = some true
  q_TooLong_BadRules : PySem.W.kitOne K (.ref (He.ga K "TooLong")) (.ref (He.ga K "BadRules")) = some false
  q_TooLong_BadRow : PySem.W.kitOne K (.ref (He.ga K "TooLong")) (.ref (He.ga K "BadRow")) = some false
  q_TooLong_BadLetter : PySem.W.kitOne K (.ref (He.ga K "TooLong")) (.ref (He.ga K "BadLetter")) = some false
  q_TooLong_BadTimes : PySem.W.kitOne K (.ref (He.ga K "TooLong")) (.ref (He.ga K "BadTimes")) = some false
  q_TooLong_BadPlace : PySem.W.kitOne K (.ref (He.ga K "TooLong")) (.ref (He.ga K "BadPlace")) = some false
  q_TooLong_TooLong : PySem.W.kitOne K (.ref (He.ga K "TooLong")) (.ref (He.ga K "TooLong")) = some true
  q_TooLong_OtherRules : PySem.W.kitOne K (.ref (He.ga K "TooLong")) (.ref (He.ga K "OtherRules")) = some false
  x_OtherRules : Err K mg "OtherRules"
  e_OtherRules : PySem.W.exmOne K (.ref (He.ga K "OtherRules")) (.ref (He.ga K "GrowError")) = some true
  c_OtherRules : ExcC K (He.ga K "OtherRules")
  v_OtherRules : PySem.W.kitOne K (.ref (He.ga K "OtherRules")) (.type "ValueError") = some true
  q_OtherRules_BadRules : PySem.W.kitOne K (.ref (He.ga K "OtherRules")) (.ref (He.ga K "BadRules")) = some false
  q_OtherRules_BadRow : PySem.W.kitOne K (.ref (He.ga K "OtherRules")) (.ref (He.ga K "BadRow")) = some false
  q_OtherRules_BadLetter : PySem.W.kitOne K (.ref (He.ga K "OtherRules")) (.ref (He.ga K "BadLetter")) = some false
  q_OtherRules_BadTimes : PySem.W.kitOne K (.ref (He.ga K "OtherRules")) (.ref (He.ga K "BadTimes")) = some false
  q_OtherRules_BadPlace : PySem.W.kitOne K (.ref (He.ga K "OtherRules")) (.ref (He.ga K "BadPlace")) = some false
  q_OtherRules_TooLong : PySem.W.kitOne K (.ref (He.ga K "OtherRules")) (.ref (He.ga K "TooLong")) = some false
  q_OtherRules_OtherRules : PySem.W.kitOne K (.ref (He.ga K "OtherRules")) (.ref (He.ga K "OtherRules")) = some true
end Gw

namespace Gw
open PySem PySem.Spec PyProof.Rows L2 Evl
section
variable {P : Program} {w : World} {K : PySem.W.Frag} {mg : Str → Option Value} {base : Heap}
/-! ### is_number, is_row -/
theorem sc_is_number : FnScope ["thing", "least"] ["thing", "least"] (defScope sIs_number) := ⟨rfl, rfl, rfl, by decide +kernel, rfl, by decide +kernel, by decide +kernel⟩
def preIsNumber : List V → Hp → V → Prop := fun vs _ v => ∃ i j : Int, vs = [.int i, .int j] ∧ v = .bl (decide (j ≤ i))
theorem ok_is_number (X : T K mg) : C8.Cal P w K mg base 1 "is_number" (spV preIsNumber) [] := by
  refine cal_of X.d_is_number sc_is_number (fun _ _ _ _ _ _ us hl => match us, hl with | [_, _], _ => rfl) (fun vs H Q E h => ?_) (fun f cdv A outer s H vs Q E hr h => ?_)
  · obtain ⟨v, ⟨i, j, rfl, _⟩, _⟩ := h
    rfl
  · obtain ⟨v, ⟨i, j, rfl, rfl⟩, k⟩ := h
    refine ⟨_, pss_one (ps_ret (pe_and (pe_isi X.z_isinstance X.z_int boot_int (pv 0)) (pe_and (pe_not (pe_isi X.z_isinstance X.z_bool boot_bool (pv 0))) (pe_one (pe_cmpR op_ge (pv 0) (pv 1) (nomark _)))))), ?_⟩
    refine s_ret (ev_is (ev_andV (ev_isT (ev_var rfl) (.base (.int i)) isi_ii) fun _ => ev_andV (ev_notV (ev_isT (ev_var rfl) (.base (.int i)) isi_ib)) fun _ => ev_op (ev_var rfl) (ev_var rfl) rv_I0) ?_) k
    simp
theorem sc_is_row : FnScope ["rules", "thing"] ["rules", "thing"] (defScope sIs_row) := ⟨rfl, rfl, rfl, by decide +kernel, rfl, by decide +kernel, by decide +kernel⟩
def preIsRow (K : PySem.W.Frag) : List V → Hp → V → Prop := fun vs H v => ∃ a xs z, vs = [.ref a, .str z] ∧ SqL K H a xs ∧ xs.length ≤ 26 ∧ z.length ≤ sizeLine ∧ v = .bl (isLet xs.length z)
theorem ok_is_row (X : T K mg) : C8.Cal P w K mg base 1 "is_row" (spV (preIsRow K)) [] := by
  refine cal_of X.d_is_row sc_is_row (fun _ _ _ _ _ _ us hl => match us, hl with | [_, _], _ => rfl) (fun vs H Q E h => ?_) (fun f cdv A outer s H vs Q E hr h => ?_)
  · obtain ⟨v, ⟨a, xs, z, rfl, _⟩, _⟩ := h
    rfl
  · obtain ⟨v, ⟨a, xs, z, rfl, hx, h26, hz, rfl⟩, k⟩ := h
    refine ⟨_, pss_one (ps_ret (pe_and (pe_isi X.z_isinstance X.z_str boot_str (pv 1)) (pe_one (pe_cmpR op_eq (pe_strip1 (pv 1) (pe_slice sl_str (C8.pe_gc (by exact rfl) X.LETTERS) po_none (po_some (pe_len X.z_len (pv 0))))) pe_str (nomark _))))), ?_⟩
    refine s_ret (ev_is (ev_andV (ev_isT (ev_var rfl) (.base (.str z)) isi_ss) fun _ => ev_eqS _ (ev_strip (ev_var rfl) (ev_alphCut ev_c (eo_some (ev_len (ev_var rfl) hx)) h26) hz) ev_c) ?_) k
    rw [strip_eq]
    rfl
/-! ### refusals that don't come -/
theorem sc_asked_rules : FnScope ["rules", "rule"] ["rules"] (defScope sAsked_rules) := ⟨rfl, rfl, rfl, by decide +kernel, rfl, by decide +kernel, by decide +kernel⟩
def preAskRules (K : PySem.W.Frag) : List V → Hp → V → Prop := fun vs H v => ∃ a R, vs = [.ref a] ∧ RAt K H a R ∧ v = .non
theorem ok_asked_rules (X : T K mg) : C8.Cal P w K mg base 2 "asked_rules" (spV (preAskRules K)) [] := by
  refine cal_of X.d_asked_rules sc_asked_rules (fun _ _ _ _ _ _ us hl => match us, hl with | [_], _ => rfl) (fun vs H Q E h => ?_) (fun f cdv A outer s H vs Q E hr h => ?_)
  · obtain ⟨v, ⟨a, R, rfl, _⟩, _⟩ := h
    rfl
  · obtain ⟨v, ⟨a, R, rfl, hR, rfl⟩, k⟩ := h
    refine ⟨_, pss_cons (ps_if (PW.pt (pw_or (pt_not (pt_val (pe_isi X.z_isinstance X.z_list boot_list (pv 0)))) (pw_or1 (pt_not (pt_chain op_le op_le pe_int (pe_len X.z_len (pv 0)) (pe_lenT X.z_len (C8.pe_gc (by exact rfl) X.LETTERS))))))) pss_never pss_nil)
      (pss_one (ps_if (pt_not (pt_val (pe_all rfl X.z_all (pe_lc (own := [("rule", 1)]) (g := gName 1) (tt := tYes) (te := tCall (spV (preIsRow K)) [] E0 (tCons (tVar 0) (tCons (tVar 1) tNil))) (by rfl) sc_asked_rules.nd (pi_list (pv 0)) (blkOk_by (N := ["rules", "rule"]) (sc := defScope sAsked_rules) (by decide +kernel))
        (fun _ _ _ _ _ => pg_name (i := 1) sc_asked_rules.nd rfl (Or.inl rfl)) (fun _ _ _ _ _ => pts_nil)
        (fun _ _ _ _ _ => C8.pe_c (ok_is_row X) hr (by decide) rfl (pa_cons (pv 0) (pa_cons (pv 1) pa_nil))))))) pss_never pss_nil)), ?_⟩
    refine q_no (et_is (et_or (et_not (et_B (ev_isT (ev_var rfl) (ty_list hR.at_) isi_ll))) fun _ => et_not (et_test (ev_chain ev_c (ev_len (ev_var rfl) hR.at_) (fun _ => ev_lenS ev_c alph_sz) rv_I0 fun _ => rv_I0))) ?_) fun H1 e1 => ?_
    · have h1 := hR.ok.pos
      have h2 := hR.ok.few
      rw [RL_len, alph_len]
      simp
      omega
    · have hL : EvL (tLc (iList K (tVar 0)) (gName 1) tYes (tCall (spV (preIsRow K)) [] E0 (tCons (tVar 0) (tCons (tVar 1) tNil))) [1]) (L2.start ["rules", "rule"] [V.ref a]) H1 ((R.map fun r => isLet R.length (enc r)).map V.bl) := by
        rw [List.map_map]
        refine el_list (u := fun r => V.str (enc r)) (wi_list (ev_var rfl) (ex_l e1 hR.at_)) _ (Nat.lt_of_le_of_lt hR.ok.few (by decide)) (fun _ => rfl) fun r hr H2 e2 => ?_
        refine ev_spV (ea_two (ev_var rfl) (ev_var rfl)) fun H3 e3 => ⟨a, RL R, enc r, rfl, ex_l ((e1.trans e2).trans e3) hR.at_, by rw [RL_len]; exact hR.ok.few, by rw [enc_len]; exact Nat.le_trans (hR.sz r hr) (by decide), by rw [RL_len]; rfl⟩
      refine s_no (et_is (et_not (et_B (ev_allN hL))) ?_) fun H2 e2 => k H2 (e1.trans e2)
      have : (R.map fun r => isLet R.length (enc r)).all id = true := List.all_eq_true.mpr fun b hb => by
        obtain ⟨r, hr, rfl⟩ := List.mem_map.mp hb
        exact isLet_enc (hR.ok.rows r hr)
      rw [this]
      rfl
theorem sc_asked_row : FnScope ["rules", "row"] ["rules", "row"] (defScope sAsked_row) := ⟨rfl, rfl, rfl, by decide +kernel, rfl, by decide +kernel, by decide +kernel⟩
def preAskRow (K : PySem.W.Frag) : List V → Hp → V → Prop := fun vs H v => ∃ a R r, vs = [.ref a, .str (enc r)] ∧ RAt K H a R ∧ RowOk R.length r ∧ r.length ≤ sizeLine ∧ v = .non
theorem ok_asked_row (X : T K mg) : C8.Cal P w K mg base 2 "asked_row" (spV (preAskRow K)) [] := by
  refine cal_of X.d_asked_row sc_asked_row (fun _ _ _ _ _ _ us hl => match us, hl with | [_, _], _ => rfl) (fun vs H Q E h => ?_) (fun f cdv A outer s H vs Q E hr h => ?_)
  · obtain ⟨v, ⟨a, R, r, rfl, _⟩, _⟩ := h
    rfl
  · obtain ⟨v, ⟨a, R, r, rfl, hR, hr0, hz, rfl⟩, k⟩ := h
    refine ⟨_, pss_one (ps_if (pt_not (pt_val (C8.pe_c (ok_is_row X) hr (by decide) rfl (pa_cons (pv 0) (pa_cons (pv 1) pa_nil))))) pss_never pss_nil), ?_⟩
    refine s_no (et_is (et_not (et_B (ev_spV (v := .bl true) (ea_two (ev_var rfl) (ev_var rfl)) fun H3 e3 => ⟨a, RL R, enc r, rfl, ex_l e3 hR.at_, by rw [RL_len]; exact hR.ok.few, by rw [enc_len]; exact hz, by rw [RL_len, isLet_enc hr0]⟩))) rfl) k
theorem sc_asked_times : FnScope ["times"] ["times"] (defScope sAsked_times) := ⟨rfl, rfl, rfl, by decide +kernel, rfl, by decide +kernel, by decide +kernel⟩
def preAskTimes : List V → Hp → V → Prop := fun vs _ v => ∃ t : Nat, vs = [.int (t : Int)] ∧ t ≤ 300 ∧ v = .non
theorem ok_asked_times (X : T K mg) : C8.Cal P w K mg base 2 "asked_times" (spV preAskTimes) [] := by
  refine cal_of X.d_asked_times sc_asked_times (fun _ _ _ _ _ _ us hl => match us, hl with | [_], _ => rfl) (fun vs H Q E h => ?_) (fun f cdv A outer s H vs Q E hr h => ?_)
  · obtain ⟨v, ⟨t, rfl, _⟩, _⟩ := h
    rfl
  · obtain ⟨v, ⟨t, rfl, ht, rfl⟩, k⟩ := h
    refine ⟨_, pss_one (ps_if (PW.pt (pw_or (pt_not (pt_val (C8.pe_c (ok_is_number X) hr (by decide) rfl (pa_cons (pv 0) (pa_cons pe_int pa_nil))))) (pw_or1 (pt_cmpR op_gt (pv 0) (C8.pe_gc (by exact rfl) X.TIMES) (nomark _))))) pss_never pss_nil), ?_⟩
    refine s_no (et_is (et_or (et_not (et_B (ev_spV (v := .bl true) (ea_two (ev_var rfl) ev_c) fun H3 e3 => ⟨t, 0, rfl, by simp⟩))) fun _ => et_test (ev_op (ev_var rfl) ev_c rv_I0)) ?_) k
    simp
    omega
/-! ### once -/
theorem sc_once : FnScope ["rules", "row", "letter"] ["rules", "row"] (defScope sOnce) := ⟨rfl, rfl, rfl, by decide +kernel, rfl, by decide +kernel, by decide +kernel⟩
def preOnce (K : PySem.W.Frag) : List V → Hp → V → Prop := fun vs H v => ∃ a R r, vs = [.ref a, .str (enc r)] ∧ SqL K H a (RL R) ∧ R.length ≤ 26 ∧ RowOk R.length r ∧ r.length < sizeLine ∧ (once R r).length ≤ 16777216 ∧ v = .str (enc (once R r))
theorem ok_once (X : T K mg) : C8.Cal P w K mg base 1 "once" (spV (preOnce K)) [] := by
  refine cal_of X.d_once sc_once (fun _ _ _ _ _ _ us hl => match us, hl with | [_, _], _ => rfl) (fun vs H Q E h => ?_) (fun f cdv A outer s H vs Q E hr h => ?_)
  · obtain ⟨v, ⟨a, R, r, rfl, _⟩, _⟩ := h
    rfl
  · obtain ⟨v, ⟨a, R, r, rfl, hR, h26, hr, hl, hz, rfl⟩, k⟩ := h
    refine ⟨_, pss_one (ps_ret (pe_join pe_empty (pe_lc (own := [("letter", 2)]) (g := gName 2) (tt := tYes) (te := tOp (rIxL K) (tVar 0) (tIdx K (tVar 2))) (by rfl) sc_once.nd (pi_str (pv 1)) (blkOk_by (N := ["rules", "row", "letter"]) (sc := defScope sOnce) (by decide +kernel))
      (fun _ _ _ _ _ => pg_name (i := 2) sc_once.nd rfl (Or.inl rfl)) (fun _ _ _ _ _ => pts_nil)
      (fun _ _ _ _ _ => pe_ix ix_list (pv 0) (pe_idx (C8.pe_gc (by exact rfl) X.LETTERS) (pv 2)) (fun _ _ => rfl))))), ?_⟩
    refine s_ret (ev_join (K := K) (ls := r.map (ruleOf R)) ev_c ?_ hz) k
    rw [List.map_map]
    exact el_str (K := K) (ev_var rfl) _ hl (fun _ => rfl) fun n hn H1 e1 => ev_ix (ev_var rfl) (ex_l e1 hR) (tidx rfl (Nat.lt_of_lt_of_le (hr n hn) h26)) (RL_at (hr n hn))
end
end Gw

namespace Gw
open PySem PySem.Spec PyProof.Rows L2 Evl
theorem int_get {T : List Int} {n : Nat} (h : n < T.length) : (T.map V.int)[n]? = some (.int (T.getD n 0)) := by
  rw [List.getElem?_map, List.getElem?_eq_getElem h]
  simp [h]
section
variable {P : Program} {w : World} {K : PySem.W.Frag} {mg : Str → Option Value} {base : Heap}
/-! ### long_by, counted -/
theorem sc_long_by : FnScope ["table", "row", "letter"] ["table", "row"] (defScope sLong_by) := ⟨rfl, rfl, rfl, by decide +kernel, rfl, by decide +kernel, by decide +kernel⟩
def preLongBy (K : PySem.W.Frag) : List V → Hp → V → Prop := fun vs H v => ∃ a T r, vs = [.ref a, .str (enc r)] ∧ SqL K H a (T.map V.int) ∧ T.length ≤ 26 ∧ RowOk T.length r ∧ r.length < sizeLine ∧ v = .int (longBy T r)
theorem ok_long_by (X : T K mg) : C8.Cal P w K mg base 1 "long_by" (spV (preLongBy K)) [] := by
  refine cal_of X.d_long_by sc_long_by (fun _ _ _ _ _ _ us hl => match us, hl with | [_, _], _ => rfl) (fun vs H Q E h => ?_) (fun f cdv A outer s H vs Q E hr h => ?_)
  · obtain ⟨v, ⟨a, R, r, rfl, _⟩, _⟩ := h
    rfl
  · obtain ⟨v, ⟨a, T, r, rfl, hT, h26, hr0, hl, rfl⟩, k⟩ := h
    refine ⟨_, pss_one (ps_ret (pe_sum rfl X.z_sum (pe_lc (own := [("letter", 2)]) (g := gName 2) (tt := tYes) (te := tOp (rIxL K) (tVar 0) (tIdx K (tVar 2))) (by rfl) sc_long_by.nd (pi_str (pv 1)) (blkOk_by (N := ["table", "row", "letter"]) (sc := defScope sLong_by) (by decide +kernel))
      (fun _ _ _ _ _ => pg_name (i := 2) sc_long_by.nd rfl (Or.inl rfl)) (fun _ _ _ _ _ => pts_nil)
      (fun _ _ _ _ _ => pe_ix ix_list (pv 0) (pe_idx (C8.pe_gc (by exact rfl) X.LETTERS) (pv 2)) (fun _ _ => rfl))))), ?_⟩
    refine s_ret (ev_sumN (K := K) (ns := r.map fun n => T.getD n 0) ?_) k
    rw [List.map_map]
    exact el_str (K := K) (ev_var rfl) _ hl (fun _ => rfl) fun n hn H1 e1 => ev_ix (ev_var rfl) (ex_l e1 hT) (tidx rfl (Nat.lt_of_lt_of_le (hr0 n hn) h26)) (int_get (hr0 n hn))
theorem sc_counted : FnScope ["rules", "row", "letter"] ["rules", "row"] (defScope sCounted) := ⟨rfl, rfl, rfl, by decide +kernel, rfl, by decide +kernel, by decide +kernel⟩
def preCounted (K : PySem.W.Frag) : List V → Hp → List V → Prop := fun vs H xs => ∃ a ys r, vs = [.ref a, .str (enc r)] ∧ SqL K H a ys ∧ ys.length ≤ 26 ∧ xs = (counted ys.length r).map V.int
theorem ok_counted (X : T K mg) : C8.Cal P w K mg base 1 "counted" (spL (preCounted K)) [] := by
  refine cal_of X.d_counted sc_counted (fun _ _ _ _ _ _ us hl => match us, hl with | [_, _], _ => rfl) (fun vs H Q E h => ?_) (fun f cdv A outer s H vs Q E hr h => ?_)
  · obtain ⟨v, ⟨a, R, r, rfl, _⟩, _⟩ := h
    rfl
  · obtain ⟨v, ⟨a, ys, r, rfl, hy, h26, rfl⟩, k⟩ := h
    refine ⟨_, pss_one (ps_ret (pe_lc (own := [("letter", 2)]) (g := gName 2) (tt := tYes) (te := tCnt K (tVar 1) (tVar 2)) (by rfl) sc_counted.nd (pi_str (pe_slice sl_str (C8.pe_gc (by exact rfl) X.LETTERS) po_none (po_some (pe_len X.z_len (pv 0))))) (blkOk_by (N := ["rules", "row", "letter"]) (sc := defScope sCounted) (by decide +kernel))
      (fun _ _ _ _ _ => pg_name (i := 2) sc_counted.nd rfl (Or.inl rfl)) (fun _ _ _ _ _ => pts_nil)
      (fun _ _ _ _ _ => pe_count (pv 1) (pv 2)))), ?_⟩
    unfold counted at k
    rw [List.map_map] at k
    exact s_retL (el_str (K := K) (ev_alphCut ev_c (eo_some (ev_len (ev_var rfl) hy)) h26) _ (by rw [List.length_range]; exact Nat.lt_of_le_of_lt h26 (by decide)) (fun _ => rfl) fun n hn H1 e1 => ev_count (ev_var rfl) (ev_var rfl)) k
/-! ### lengths_of -/
abbrev nLengthsOf : List Str := ["rules", "times", "found", "turn", "last", "rule", "letter"]
theorem sc_lengths_of : FnScope nLengthsOf ["rules", "times"] (defScope sLengths_of) := ⟨rfl, rfl, rfl, by decide +kernel, rfl, by decide +kernel, by decide +kernel⟩
/-- the tables up to times -/
def tabs (R : GRules) (t : Nat) : List (List V) := (List.range (t + 1)).map fun i => (lens R i).map V.int
theorem tabs_snoc (R : GRules) (t : Nat) : tabs R (t + 1) = tabs R t ++ [(lens R (t + 1)).map V.int] := by
  unfold tabs
  rw [List.range_succ, List.map_append]
  rfl
theorem tabs_get {R : GRules} {t i : Nat} (h : i ≤ t) : (tabs R t)[i]? = some ((lens R i).map V.int) := by
  unfold tabs
  rw [List.getElem?_map, List.getElem?_range (by omega)]
  rfl
theorem tabs_length (R : GRules) (t : Nat) : (tabs R t).length = t + 1 := by simp [tabs]
def preLengthsOf (K : PySem.W.Frag) : List V → Hp → List (List V) → Prop := fun vs H xss => ∃ a R, ∃ t : Nat, vs = [.ref a, .int (t : Int)] ∧ RAt K H a R ∧ t ≤ 300 ∧ xss = tabs R t
theorem ok_lengths_of (X : T K mg) : C8.Cal P w K mg base 1 "lengths_of" (spLL (preLengthsOf K)) [] := by
  refine cal_of X.d_lengths_of sc_lengths_of (fun _ _ _ _ _ _ us hl => match us, hl with | [_, _], _ => rfl) (fun vs H Q E h => ?_) (fun f cdv A outer s H vs Q E hr h => ?_)
  · obtain ⟨v, ⟨a, R, t, rfl, _⟩, _⟩ := h
    rfl
  · obtain ⟨v, ⟨a, R, t, rfl, hR, ht, rfl⟩, k⟩ := h
    have nd := sc_lengths_of.nd
    refine ⟨_, pss_cons (ps_set (i := 2) nd rfl (Or.inl rfl) (pe_lst (pa_cons (pe_lc (own := [("rule", 5)]) (g := gName 5) (tt := tYes) (te := tC (.int 1)) (by rfl) nd (pi_list (pv 0)) (blkOk_by (N := nLengthsOf) (sc := defScope sLengths_of) (by decide +kernel))
        (fun _ _ _ _ _ => pg_name (i := 5) nd rfl (Or.inl rfl)) (fun _ _ _ _ _ => pts_nil) (fun _ _ _ _ _ => pe_int)) pa_nil)))
      (pss_cons (ps_for PassesOwn.never rfl (pi_range1 rfl X.z_range (pa_cons (pv 1) pa_nil)) (pg_name (i := 3) nd rfl (Or.inl rfl))
        (pss_cons (ps_set (i := 4) nd rfl (Or.inr rfl) (pe_ix ix_list (pv 2) (pe_un un_neg pe_int) (fun _ _ => rfl)))
        (pss_one (ps_expr (pe_app (pv 2) (pe_lc (own := [("rule", 5)]) (g := gName 5) (tt := tYes)
          (te := tSum K (tLc (iStr (tVar 5)) (gName 6) tYes (tOp (rIxL K) (tVar 4) (tIdx K (tVar 6))) [6])) (by rfl) nd (pi_list (pv 0)) (blkOk_by (N := nLengthsOf) (sc := defScope sLengths_of) (by decide +kernel))
          (fun _ _ _ _ _ => pg_name (i := 5) nd rfl (Or.inl rfl)) (fun _ _ _ _ _ => pts_nil)
          (fun _ _ _ _ _ => pe_sum rfl X.z_sum (pe_lc (own := [("letter", 6)]) (g := gName 6) (tt := tYes) (te := tOp (rIxL K) (tVar 4) (tIdx K (tVar 6))) (by rfl) nd (pi_str (pv 5)) (blkOk_by (by rfl))
            (fun _ _ _ _ _ => pg_name (i := 6) nd rfl (Or.inl rfl)) (fun _ _ _ _ _ => pts_nil)
            (fun _ _ _ _ _ => pe_ix ix_list (pv 4) (pe_idx (C8.pe_gc (by exact rfl) X.LETTERS) (pv 6)) (fun _ _ => rfl))))))))))
      (pss_one (ps_ret (pv 2)))), ?_⟩
    have e0 : EvL (tLc (iList K (tVar 0)) (gName 5) tYes (tC (.int 1)) [5]) (L2.start nLengthsOf [V.ref a, V.int (t : Int)]) H ((lens R 0).map V.int) := by
      show EvL _ _ _ ((R.map fun _ => (1 : Int)).map V.int)
      rw [List.map_map]
      exact el_list (u := fun r => V.str (enc r)) (wi_list (ev_var rfl) hR.at_) _ (Nat.lt_of_le_of_lt hR.ok.few (by decide)) (fun _ => rfl) fun r hr H1 e1 => ev_c
    refine q_asgLL (ell_one e0) fun p as H1 hp has e1 hLL => ?_
    refine q_forR1 (ea_one (ev_var rfl)) ⟨by omega, by omega⟩ (fun i σ' H' => ∃ as u v, σ' = [some (.ref a), some (.int (t : Int)), some (.ref p), u, v, none, none] ∧ Ex H H' ∧ (∀ b ∈ as, H b = none ∧ b ≠ p) ∧ LL H' p as (tabs R i))
      (fun H2 e2 => ⟨as, none, none, rfl, e1.trans e2, has, hLL.mono e2⟩) ?_ ?_
    · rintro i σ' H' hi ⟨as, u, v, rfl, eH, hf, hL⟩
      have hlast : atI (as.map V.ref) (-1) = some (.ref (as.getD i 0)) ∧ H' (as.getD i 0) = some (.lst ((lens R i).map V.int)) := by
        have hl : as.length = i + 1 := by rw [hL.2.1, tabs_length]
        have hi2 : i < as.length := by omega
        refine ⟨?_, hL.2.2 i _ _ (by rw [List.getD_eq_getElem?_getD, List.getElem?_eq_getElem hi2]; rfl) (tabs_get (Nat.le_refl i))⟩
        have e : as.map V.ref = (as.take i).map V.ref ++ [V.ref (as.getD i 0)] := by
          have e2 : as = as.take i ++ [as.getD i 0] := by
            have e3 := List.take_append_drop i as
            rw [List.drop_eq_getElem_cons hi2, List.drop_eq_nil_of_le (by omega)] at e3
            have e4 : as.getD i 0 = as[i] := by simp [hi2]
            rw [e4]
            exact e3.symm
          conv => lhs; rw [e2]
          rw [List.map_append]
          rfl
        rw [e]
        exact atI_last _ _
      obtain ⟨hl1, hl2⟩ := hlast
      refine q_asg (v := .ref (as.getD i 0)) (ev_op (ev_var rfl) (ev_un ev_c ru_neg) (rv_ixL (sq_of hL.1) hl1)) fun H2 e2 => ?_
      have eN : EvL (tLc (iList K (tVar 0)) (gName 5) tYes (tSum K (tLc (iStr (tVar 5)) (gName 6) tYes (tOp (rIxL K) (tVar 4) (tIdx K (tVar 6))) [6])) [5])
          ([some (.ref a), some (.int (t : Int)), some (.ref p), some (.int (i : Int)), some (.ref (as.getD i 0)), none, none] : L2.St) H2 ((lens R (i + 1)).map V.int) := by
        show EvL _ _ _ ((R.map fun r => longBy (lens R i) r).map V.int)
        rw [List.map_map]
        refine el_list (u := fun r => V.str (enc r)) (wi_list (ev_var rfl) (ex_l (eH.trans e2) hR.at_)) _ (Nat.lt_of_le_of_lt hR.ok.few (by decide)) (fun _ => rfl) fun r hr H3 e3 => ?_
        refine ev_sumN (K := K) (ns := r.map fun n => (lens R i).getD n 0) ?_
        rw [List.map_map]
        have hrow := hR.ok.rows r hr
        exact el_str (K := K) (ev_var rfl) _ (Nat.lt_of_le_of_lt (hR.sz r hr) (by decide)) (fun _ => rfl) fun n hn H4 e4 => ev_ix (ev_var rfl) (sq_of (((e2.trans e3).trans e4) _ _ hl2)) (tidx rfl (Nat.lt_of_lt_of_le (hrow n hn) hR.ok.few)) (int_get (by rw [lens_length]; exact hrow n hn))
      refine s_appL (e2 _ _ hL.1) (ev_var rfl) eN (by rw [List.length_map, hL.2.1, tabs_length]; omega) fun b H3 hb e3 h3 => ?_
      have hp3 : H3 p = some (.lst (as.map V.ref)) := e3 _ _ (e2 _ _ hL.1)
      have hpb : b ≠ p := Ne.symm (ne_of_none (e2 _ _ hL.1) hb)
      refine ⟨as ++ [b], _, _, rfl, (eH.trans (e2.trans e3)).mut hp, fun c hc => ?_, ?_⟩
      · rcases List.mem_append.mp hc with hc | hc
        · exact hf c hc
        · rw [List.mem_singleton.mp hc]
          exact ⟨fresh_back (eH.trans e2) hb, hpb⟩
      · rw [tabs_snoc]
        exact ll_snoc (hL.mono (e2.trans e3)) h3 hpb.symm fun c hc => (hf c hc).2
    · rintro σ' H' ⟨as, u, v, rfl, eH, hf, hL⟩
      rw [Int.toNat_natCast] at hL
      exact s_ret (ev_var rfl) fun H2 e2 => k p as H2 hp hf (eH.trans e2) (hL.mono e2)
end
end Gw

namespace Gw
open PySem PySem.Spec PyProof.Rows L2 Evl
/-- a list handed back: the one handed in, or a new one -/
def spQ (pre : List V → Hp → Addr → List V → Prop) : Sp := fun vs H Q _ => ∃ b xs, pre vs H b xs ∧ ∀ q H2, Ex H H2 → (q = b ∨ H q = none) → H2 q = some (.lst xs) → Q (.ref q) H2
theorem el_spQ {σ : L2.St} {H : Hp} {ta tb tc : TE} {E : XK} {x y : V} {ys xs : List V} {pre : List V → Hp → Addr → List V → Prop} (ha : Ev ta σ H x) (hb : EvL tb σ H ys) (hc : Ev tc σ H y)
    (hp : ∀ b H1, Ex H H1 → H1 b = some (.lst ys) → pre [x, .ref b, y] H1 b xs) : EvL (tCall (spQ pre) [] E (tCons ta (tCons tb (tCons tc tNil)))) σ H xs := fun H1 e Q q =>
  ha H1 e _ fun H2 e2 => hb H2 (e.trans e2) _ fun b H3 hb0 e3 h3 => hc H3 ((e.trans e2).trans e3) _ fun H4 e4 => by
    show spQ pre [x, V.ref b, y] H4 Q E
    refine ⟨b, xs, hp b H4 (((e.trans e2).trans e3).trans e4) (e4 _ _ h3), fun p H5 e5 hp0 h5 => q p H5 ?_ (((e2.trans e3).trans e4).trans e5) h5⟩
    rcases hp0 with rfl | hp0
    · exact fresh_back e2 hb0
    · exact fresh_back ((e2.trans e3).trans e4) hp0
/-- the same of an old list -/
theorem s_asgQ {σ : L2.St} {H : Hp} {D : Ends} {tz : TS} {i : Nat} {b : Addr} {ta : TA} {E : XK} {vs xs : List V} {pre : List V → Hp → Addr → List V → Prop} (ha : EvA ta σ H vs) (hp : ∀ H1, Ex H H1 → pre vs H1 b xs)
    (k : ∀ q H1, Ex H H1 → (q = b ∨ H q = none) → H1 q = some (.lst xs) → tz D (σ.set i (some (.ref q))) H1) : tSeq (tAsg (tCall (spQ pre) [] E ta) (gName i)) tz D σ H := ha H (Ex.refl H) _ fun H1 e1 => by
  rw [List.append_nil]
  exact ⟨b, xs, hp H1 e1, fun q H2 e2 hq h2 => k q H2 (e1.trans e2) (hq.imp id fun h => fresh_back e1 h) h2⟩
section
variable {P : Program} {w : World} {K : PySem.W.Frag} {mg : Str → Option Value} {base : Heap}
/-! ### grown_counts -/
abbrev nGC : List Str := ["rules", "now", "times", "told", "turn", "rule", "many", "k"]
theorem sc_gc : FnScope nGC ["rules", "now", "times"] (defScope sGrown_counts) := ⟨rfl, rfl, rfl, by decide +kernel, rfl, by decide +kernel, by decide +kernel⟩
def toldOf (R : GRules) : List (List Int) := R.map (counted R.length)
theorem told_get {R : GRules} {i : Nat} (h : i < R.length) : ((toldOf R).map fun l => l.map V.int)[i]? = some (((toldOf R).getD i []).map V.int) := by
  have h2 : i < (toldOf R).length := by unfold toldOf; rw [List.length_map]; exact h
  rw [List.getElem?_map, List.getElem?_eq_getElem h2]
  simp [h2]
theorem told_len {R : GRules} {i : Nat} (h : i < R.length) : ((toldOf R).getD i []).length = R.length := by
  unfold toldOf
  rw [List.getD_eq_getElem?_getD, List.getElem?_map, List.getElem?_eq_getElem h]
  exact counted_length _ _
theorem told_small {R : GRules} (hz : ∀ r ∈ R, r.length ≤ 100000) (i k : Nat) : -(2 ^ 64) < ((toldOf R).getD i []).getD k 0 ∧ ((toldOf R).getD i []).getD k 0 < 2 ^ 64 := by
  have e : (toldOf R).getD i [] = ((R[i]?).map (counted R.length)).getD [] := by
    unfold toldOf
    rw [List.getD_eq_getElem?_getD, List.getElem?_map]
  rw [e]
  cases h : R[i]? with
  | none => simp
  | some r =>
    show -(2 ^ 64) < (counted R.length r).getD k 0 ∧ (counted R.length r).getD k 0 < 2 ^ 64
    by_cases hk : k < R.length
    · rw [counted_getD hk]
      have h1 := hz r (List.mem_of_getElem? h)
      have h2 : r.count k ≤ r.length := List.count_le_length
      omega
    · rw [List.getD_eq_getElem?_getD, List.getElem?_eq_none (by rw [counted_length]; omega)]
      simp
def preGC (K : PySem.W.Frag) : List V → Hp → Addr → List V → Prop := fun vs H b xs => ∃ a R, ∃ now : List Int, ∃ t : Nat, vs = [.ref a, .ref b, .int (t : Int)] ∧ RAt K H a R ∧ H b = some (.lst (now.map V.int)) ∧ now.length = R.length ∧ t ≤ 300 ∧ xs = (gcs R t now).map V.int
abbrev tZip (K : PySem.W.Frag) : TE := tLc (iZip K (tCons (tVar 1) (tCons (tVar 3) tNil))) (gTup K 2 (gCons (gName 6) (gCons (gName 5) gNil))) tYes (tOp (rI CMul fun i j => .int (i * j)) (tVar 6) (tOp (rIxL K) (tVar 5) (tVar 7))) [6, 5]
theorem ev_zipSum {σ : L2.St} {H : Hp} {q p : Addr} {as : List Addr} {R : GRules} {now : List Int} {k : Nat} (hR : RulesOk R) (hz : ∀ r ∈ R, r.length ≤ 100000) (hk : k < R.length) (h1 : σ[1]? = some (some (.ref q))) (h3 : σ[3]? = some (some (.ref p))) (h7 : σ[7]? = some (some (.int (k : Int)))) (hl : 8 = σ.length)
    (hq : H q = some (.lst (now.map V.int))) (hn : now.length = R.length) (hL : LL H p as ((toldOf R).map fun l => l.map V.int)) : Ev (tSum K (tZip K)) σ H (.int (dot k now (toldOf R))) := by
  have tl : (toldOf R).length = R.length := List.length_map _
  rw [← dot_range k now (toldOf R) (by rw [hn, tl])]
  refine ev_sumN ?_
  rw [List.map_map]
  have al : as.length = R.length := by rw [hL.2.1, List.length_map, tl]
  refine el_any (wi_zip (ea_two (ev_var h1) (ev_var h3)) (sq_of hq) (sq_of hL.1) (by rw [List.length_map, List.length_map, al, hn, Nat.min_self])) _ (by have := hR.few; rw [hn]; exact Nat.lt_of_le_of_lt this (by decide)) fun i x H1 H2 hi e1 y Q kk => ?_
  obtain ⟨T, u, v, rfl, hT, rfl, hu, hv⟩ := y
  have hu : (now.map V.int)[i]? = some u := hu
  rw [int_get hi] at hu
  cases hu
  have hiR : i < R.length := by rw [← hn]; exact hi
  obtain ⟨c, hc1, hc2⟩ := hL.get (told_get hiR)
  have hv : (as.map V.ref)[i]? = some v := hv
  rw [hc1] at hv
  cases hv
  have eT : Ex H1 (upd H1 T (.tup [V.int (now.getD i 0), V.ref c])) := Ex.new hT
  refine ⟨T, _, rfl, st_of upd_same, rfl, _, _, rfl, _, _, rfl, rfl, kk _ _ ?_ eT ?_⟩
  · match σ, hl with
    | [_, _, _, _, _, _, _, _], _ => rfl
  · match σ, hl, h7 with
    | [_, _, _, _, _, _, _, s7], _, h7 =>
      refine ev_mul (ev_var rfl) (ev_ix (n := k) (ev_var rfl) (sq_of ((e1.trans eT) _ _ hc2)) ?_ (int_get (by rw [told_len hiR]; exact hk))) (.inr (told_small hz i k))
      exact ev_var h7
theorem ok_gc (X : T K mg) : C8.Cal P w K mg base 2 "grown_counts" (spQ (preGC K)) [] := by
  refine cal_of X.d_grown_counts sc_gc (fun _ _ _ _ _ _ us hl => match us, hl with | [_, _, _], _ => rfl) (fun vs H Q E h => ?_) (fun f cdv A outer s H vs Q E hr h => ?_)
  · obtain ⟨v, xs, ⟨a, R, now, t, rfl, _⟩, _⟩ := h
    rfl
  · obtain ⟨b, xs, ⟨a, R, now, t, rfl, hR, hb, hnow, ht, rfl⟩, k⟩ := h
    have nd := sc_gc.nd
    refine ⟨_, pss_cons (ps_set (i := 3) nd rfl (Or.inr rfl) (pe_lc (own := [("rule", 5)]) (g := gName 5) (tt := tYes) (te := tCall (spL (preCounted K)) [] E0 (tCons (tVar 0) (tCons (tVar 5) tNil))) (by rfl) nd (pi_list (pv 0)) (blkOk_by (N := nGC) (sc := defScope sGrown_counts) (by decide +kernel))
        (fun _ _ _ _ _ => pg_name (i := 5) nd rfl (Or.inl rfl)) (fun _ _ _ _ _ => pts_nil) (fun _ _ _ _ _ => C8.pe_c (ok_counted X) hr (by decide) rfl (pa_cons (pv 0) (pa_cons (pv 5) pa_nil)))))
      (pss_cons (ps_for PassesOwn.never rfl (pi_range1 rfl X.z_range (pa_cons (pv 2) pa_nil)) (pg_name (i := 4) nd rfl (Or.inl rfl))
        (pss_one (ps_set (i := 1) nd rfl (Or.inr rfl) (pe_lc (own := [("k", 7)]) (g := gName 7) (tt := tYes) (te := tSum K (tZip K)) (by rfl) nd (pi_range1 rfl X.z_range (pa_cons (pe_len X.z_len (pv 0)) pa_nil)) (blkOk_by (N := nGC) (sc := defScope sGrown_counts) (by decide +kernel))
          (fun _ _ _ _ _ => pg_name (i := 7) nd rfl (Or.inr rfl)) (fun _ _ _ _ _ => pts_nil)
          (fun _ _ _ _ _ => pe_sum rfl X.z_sum (pe_lc (own := [("many", 6), ("rule", 5)]) (g := gTup K 2 (gCons (gName 6) (gCons (gName 5) gNil))) (tt := tYes) (te := tOp (rI CMul fun i j => .int (i * j)) (tVar 6) (tOp (rIxL K) (tVar 5) (tVar 7))) (by rfl) nd (pi_zip (by exact rfl) X.z_zip (pa_cons (pv 1) (pa_cons (pv 3) pa_nil))) (blkOk_by (by rfl))
            (fun _ _ _ _ _ => pg_tup rfl (pgs_cons (pg_name (i := 6) nd rfl (Or.inl rfl)) (pgs_cons (pg_name (i := 5) nd rfl (Or.inl rfl)) pgs_nil))) (fun _ _ _ _ _ => pts_nil)
            (fun _ _ _ _ _ => pe_op op_mul (pv 6) (pe_ix ix_list (pv 5) (pv 7) (fun _ _ => rfl)))))))))
      (pss_one (ps_ret (pv 1)))), ?_⟩
    have e0 : EvLL (tLc (iList K (tVar 0)) (gName 5) tYes (tCall (spL (preCounted K)) [] E0 (tCons (tVar 0) (tCons (tVar 5) tNil))) [5]) (L2.start nGC [V.ref a, V.ref b, V.int (t : Int)]) H ((toldOf R).map fun l => l.map V.int) := by
      unfold toldOf
      rw [List.map_map]
      refine ell_list (u := fun r => V.str (enc r)) (wi_list (ev_var rfl) hR.at_) _ (Nat.lt_of_le_of_lt hR.ok.few (by decide)) (fun _ => rfl) fun r hr H1 e1 => ?_
      exact el_spL (ea_two (ev_var rfl) (ev_var rfl)) fun H2 e2 => ⟨a, RL R, r, rfl, ex_l (e1.trans e2) hR.at_, by rw [RL_len]; exact hR.ok.few, by rw [RL_len]; rfl⟩
    refine q_asgLL e0 fun p as H1 hp has e1 hLL => ?_
    refine q_forR1 (ea_one (ev_var rfl)) ⟨by omega, by omega⟩ (fun i σ' H' => ∃ q u, σ' = [some (.ref a), some (.ref q), some (.int (t : Int)), some (.ref p), u, none, none, none] ∧ Ex H H' ∧ (q = b ∨ H q = none) ∧ H' q = some (.lst ((gtimes (toldOf R) R.length i now).map V.int)) ∧ LL H' p as ((toldOf R).map fun l => l.map V.int))
      (fun H2 e2 => ⟨b, none, rfl, e1.trans e2, .inl rfl, (e1.trans e2) _ _ hb, hLL.mono e2⟩) ?_ ?_
    · rintro i σ' H' hi ⟨q, u, rfl, eH, hq0, hq, hL⟩
      refine s_asgL (xs := (gtimes (toldOf R) R.length (i + 1) now).map V.int) ?_ fun q' H2 hq' e2 h2 => ⟨q', _, rfl, eH.trans e2, .inr (fresh_back eH hq'), h2, hL.mono e2⟩
      rw [gtimes_succ]
      unfold gstep
      rw [List.map_map]
      refine el_rng (by have z := ev_len (K := K) (σ := ([some (.ref a), some (.ref q), some (.int (t : Int)), some (.ref p), some (.int (i : Int)), none, none, none] : L2.St)) (ta := tVar 0) (ev_var rfl) (ex_l eH hR.at_); rw [RL_len] at z; exact ea_one z) _ (Nat.lt_of_le_of_lt hR.ok.few (by decide)) (fun _ => rfl) fun j hj H2 e2 => ?_
      exact ev_zipSum hR.ok hR.sz hj rfl rfl rfl rfl (e2 _ _ hq) (gtimes_length _ _ _ _ hnow) (hL.mono e2)
    · rintro σ' H' ⟨q, u, rfl, eH, hq0, hq, hL⟩
      rw [Int.toNat_natCast] at hq
      exact s_ret (ev_var rfl) fun H2 e2 => k q H2 (eH.trans e2) hq0 (e2 _ _ hq)
end
end Gw

namespace Gw
open PySem PySem.Spec PyProof.Rows L2 Evl
theorem once_length (R : GRules) : ∀ r : GRow, (r.map fun n => ((ruleOf R n).length : Int)).sum = ((once R r).length : Int)
  | [] => rfl
  | n :: r => by rw [List.map_cons, List.sum_cons, once_length R r, once_cons, List.length_append, Int.natCast_add]
/-- an item of a new list of new lists -/
theorem el_ixLL {K : PySem.W.Frag} {σ : L2.St} {H : Hp} {te ti : TE} {xss : List (List V)} {xs : List V} {i : Nat} (h : EvLL te σ H xss) (hi : Ev ti σ H (.int (i : Int))) (hx : xss[i]? = some xs) : EvL (tOp (rIxL K) te ti) σ H xs := fun H1 e Q q =>
  h H1 e _ fun p as H2 hp has e2 hL => hi H2 (e.trans e2) _ fun H3 e3 => by
    obtain ⟨c, hc1, hc2⟩ := (hL.mono e3).get hx
    have hm : c ∈ as := by
      have := List.mem_of_getElem? hc1
      obtain ⟨d, hd, e⟩ := List.mem_map.mp this
      cases e
      exact hd
    exact ⟨p, as.map V.ref, (i : Int), .ref c, rfl, rfl, sq_of (e3 _ _ hL.1), atI_nat hc1, q c H3 (has c hm).1 (e2.trans e3) hc2⟩
/-- a call whose first argument is a new list -/
theorem ev_spVL {σ : L2.St} {H : Hp} {ta tb : TE} {E : XK} {y v : V} {xs : List V} {pre : List V → Hp → V → Prop} (ha : EvL ta σ H xs) (hb : Ev tb σ H y) (hp : ∀ b H1, Ex H H1 → H1 b = some (.lst xs) → pre [.ref b, y] H1 v) :
    Ev (tCall (spV pre) [] E (tCons ta (tCons tb tNil))) σ H v := fun H1 e Q q =>
  ha H1 e _ fun b H2 _ e2 h2 => hb H2 (e.trans e2) _ fun H3 e3 => by
    show spV pre [V.ref b, y] H3 Q E
    exact ⟨v, hp b H3 ((e.trans e2).trans e3) (e3 _ _ h2), fun H4 e4 => q H4 ((e2.trans e3).trans e4)⟩
section
variable {P : Program} {w : World} {K : PySem.W.Frag} {mg : Str → Option Value} {base : Heap}
theorem ev_ask (K : PySem.W.Frag) {σ : L2.St} {H : Hp} {a : Addr} {R : GRules} (h0 : σ[0]? = some (some (.ref a))) (hR : RAt K H a R) : Ev (tCall (spV (preAskRules K)) [] E0 (tCons (tVar 0) tNil)) σ H .non := ev_spV (ea_one (ev_var h0)) fun H1 e1 => ⟨a, R, rfl, hR.ex e1, rfl⟩
theorem ev_askRow (K : PySem.W.Frag) {σ : L2.St} {H : Hp} {a : Addr} {R : GRules} {r : GRow} (h0 : σ[0]? = some (some (.ref a))) (h1 : σ[1]? = some (some (.str (enc r)))) (hR : RAt K H a R) (hr : RowOk R.length r) (hz : r.length ≤ sizeLine) : Ev (tCall (spV (preAskRow K)) [] E0 (tCons (tVar 0) (tCons (tVar 1) tNil))) σ H .non :=
  ev_spV (ea_two (ev_var h0) (ev_var h1)) fun H1 e1 => ⟨a, R, r, rfl, hR.ex e1, hr, hz, rfl⟩
theorem ev_askTimes {σ : L2.St} {H : Hp} {t : Nat} (h2 : σ[2]? = some (some (.int (t : Int)))) (ht : t ≤ 300) : Ev (tCall (spV preAskTimes) [] E0 (tCons (tVar 2) tNil)) σ H .non := ev_spV (ea_one (ev_var h2)) fun H1 e1 => ⟨t, rfl, ht, rfl⟩
/-- what counts, length, letter, first ask at their doors -/
structure Asked (K : PySem.W.Frag) (H : Hp) (a : Addr) (R : GRules) (r : GRow) (t : Nat) : Prop where
  rules : RAt K H a R
  row : RowOk R.length r
  sz : r.length < sizeLine
  times : t ≤ 300
theorem Asked.ex {H H' : Hp} {a : Addr} {R : GRules} {r : GRow} {t : Nat} (h : Asked K H a R r t) (e : Ex H H') : Asked K H' a R r t := ⟨h.rules.ex e, h.row, h.sz, h.times⟩
/-! ### counts, length -/
theorem sc_counts : FnScope ["rules", "row", "times"] ["rules", "row", "times"] (defScope sCounts) := ⟨rfl, rfl, rfl, by decide +kernel, rfl, by decide +kernel, by decide +kernel⟩
def preCounts (K : PySem.W.Frag) : List V → Hp → List V → Prop := fun vs H xs => ∃ a R r, ∃ t : Nat, vs = [.ref a, .str (enc r), .int (t : Int)] ∧ Asked K H a R r t ∧ xs = (counted R.length (grow R t r)).map V.int
theorem ok_counts (X : T K mg) : C8.Cal P w K mg base 3 "counts" (spL (preCounts K)) [] := by
  refine cal_of X.d_counts sc_counts (fun _ _ _ _ _ _ us hl => match us, hl with | [_, _, _], _ => rfl) (fun vs H Q E h => ?_) (fun f cdv A outer s H vs Q E hr h => ?_)
  · obtain ⟨v, ⟨a, R, r, t, rfl, _⟩, _⟩ := h
    rfl
  · obtain ⟨v, ⟨a, R, r, t, rfl, hA, rfl⟩, k⟩ := h
    refine ⟨_, pss_cons (ps_expr (C8.pe_c (ok_asked_rules X) hr (by decide) rfl (pa_cons (pv 0) pa_nil)))
      (pss_cons (ps_expr (C8.pe_c (ok_asked_row X) hr (by decide) rfl (pa_cons (pv 0) (pa_cons (pv 1) pa_nil))))
      (pss_cons (ps_expr (C8.pe_c (ok_asked_times X) hr (by decide) rfl (pa_cons (pv 2) pa_nil)))
      (pss_one (ps_ret (C8.pe_c (ok_gc X) hr (by decide) rfl (pa_cons (pv 0) (pa_cons (C8.pe_c (ok_counted X) hr (by decide) rfl (pa_cons (pv 0) (pa_cons (pv 1) pa_nil))) (pa_cons (pv 2) pa_nil)))))))), ?_⟩
    refine q_drop (ev_ask K rfl hA.rules) fun H1 e1 => q_drop (ev_askRow K rfl rfl (hA.rules.ex e1) hA.row (Nat.le_of_lt hA.sz)) fun H2 e2 => q_drop (ev_askTimes rfl hA.times) fun H3 e3 => ?_
    have e := (e1.trans e2).trans e3
    refine s_retL (el_spQ (ys := (counted R.length r).map V.int) (ev_var rfl) (el_spL (ea_two (ev_var rfl) (ev_var rfl)) fun H4 e4 => ⟨a, RL R, r, rfl, ex_l (e.trans e4) hA.rules.at_, by rw [RL_len]; exact hA.rules.ok.few, by rw [RL_len]⟩) (ev_var rfl) fun b H4 e4 hb =>
      ⟨a, R, counted R.length r, t, rfl, hA.rules.ex (e.trans e4), hb, counted_length _ _, hA.times, rfl⟩) fun p H4 hp e4 h4 => ?_
    rw [gcs_counted hA.rules.ok t hA.row] at h4
    exact k p H4 (fresh_back e hp) (e.trans e4) h4
theorem sc_length : FnScope ["rules", "row", "times"] ["rules", "row", "times"] (defScope sLength) := ⟨rfl, rfl, rfl, by decide +kernel, rfl, by decide +kernel, by decide +kernel⟩
def preLength (K : PySem.W.Frag) : List V → Hp → V → Prop := fun vs H v => ∃ a R r, ∃ t : Nat, vs = [.ref a, .str (enc r), .int (t : Int)] ∧ Asked K H a R r t ∧ v = .int ((grow R t r).length : Int)
theorem ok_length (X : T K mg) : C8.Cal P w K mg base 3 "length" (spV (preLength K)) [] := by
  refine cal_of X.d_length sc_length (fun _ _ _ _ _ _ us hl => match us, hl with | [_, _, _], _ => rfl) (fun vs H Q E h => ?_) (fun f cdv A outer s H vs Q E hr h => ?_)
  · obtain ⟨v, ⟨a, R, r, t, rfl, _⟩, _⟩ := h
    rfl
  · obtain ⟨v, ⟨a, R, r, t, rfl, hA, rfl⟩, k⟩ := h
    refine ⟨_, pss_cons (ps_expr (C8.pe_c (ok_asked_rules X) hr (by decide) rfl (pa_cons (pv 0) pa_nil)))
      (pss_cons (ps_expr (C8.pe_c (ok_asked_row X) hr (by decide) rfl (pa_cons (pv 0) (pa_cons (pv 1) pa_nil))))
      (pss_cons (ps_expr (C8.pe_c (ok_asked_times X) hr (by decide) rfl (pa_cons (pv 2) pa_nil)))
      (pss_one (ps_ret (C8.pe_c (ok_long_by X) hr (by decide) rfl (pa_cons (pe_ix ix_list (C8.pe_c (ok_lengths_of X) hr (by decide) rfl (pa_cons (pv 0) (pa_cons (pv 2) pa_nil))) (pv 2) (fun _ _ => rfl)) (pa_cons (pv 1) pa_nil))))))), ?_⟩
    refine q_drop (ev_ask K rfl hA.rules) fun H1 e1 => q_drop (ev_askRow K rfl rfl (hA.rules.ex e1) hA.row (Nat.le_of_lt hA.sz)) fun H2 e2 => q_drop (ev_askTimes rfl hA.times) fun H3 e3 => ?_
    have e := (e1.trans e2).trans e3
    refine s_ret (ev_spVL (v := .int ((grow R t r).length : Int)) (el_ixLL (ell_spLL (ea_two (ev_var rfl) (ev_var rfl)) fun H4 e4 => ⟨a, R, t, rfl, hA.rules.ex (e.trans e4), hA.times, rfl⟩) (ev_var rfl) (tabs_get (Nat.le_refl t))) (ev_var rfl) fun b H4 e4 hb => ?_) fun H4 e4 => k H4 (e.trans e4)
    exact ⟨b, lens R t, r, rfl, sq_of hb, by rw [lens_length]; exact hA.rules.ok.few, by rw [lens_length]; exact hA.row, hA.sz, by rw [longBy_lens hA.rules.ok t hA.row]⟩
/-! ### grown -/
abbrev nGrown : List Str := ["rules", "row", "times", "now", "turn", "letter"]
theorem sc_grown : FnScope nGrown ["rules", "row", "times"] (defScope sGrown) := ⟨rfl, rfl, rfl, by decide +kernel, rfl, by decide +kernel, by decide +kernel⟩
def preGrown (K : PySem.W.Frag) : List V → Hp → V → Prop := fun vs H v => ∃ a R r, ∃ t : Nat, vs = [.ref a, .str (enc r), .int (t : Int)] ∧ Asked K H a R r t ∧ (∀ i, i < t → (grow R (i + 1) r).length ≤ 100000) ∧ v = .str (enc (grow R t r))
theorem ok_grown (X : T K mg) : C8.Cal P w K mg base 3 "grown" (spV (preGrown K)) [] := by
  refine cal_of X.d_grown sc_grown (fun _ _ _ _ _ _ us hl => match us, hl with | [_, _, _], _ => rfl) (fun vs H Q E h => ?_) (fun f cdv A outer s H vs Q E hr h => ?_)
  · obtain ⟨v, ⟨a, R, r, t, rfl, _⟩, _⟩ := h
    rfl
  · obtain ⟨v, ⟨a, R, r, t, rfl, hA, hG, rfl⟩, k⟩ := h
    have nd := sc_grown.nd
    refine ⟨_, pss_cons (ps_expr (C8.pe_c (ok_asked_rules X) hr (by decide) rfl (pa_cons (pv 0) pa_nil)))
      (pss_cons (ps_expr (C8.pe_c (ok_asked_row X) hr (by decide) rfl (pa_cons (pv 0) (pa_cons (pv 1) pa_nil))))
      (pss_cons (ps_expr (C8.pe_c (ok_asked_times X) hr (by decide) rfl (pa_cons (pv 2) pa_nil)))
      (pss_cons (ps_set (i := 3) nd rfl (Or.inl rfl) (pv 1))
      (pss_cons (ps_for PassesOwn.never rfl (pi_range1 rfl X.z_range (pa_cons (pv 2) pa_nil)) (pg_name (i := 4) nd rfl (Or.inl rfl))
        (pss_cons (ps_if (pt_cmpR op_gt (pe_sum rfl X.z_sum (pe_lc (own := [("letter", 5)]) (g := gName 5) (tt := tYes) (te := tLenT (tOp (rIxL K) (tVar 0) (tIdx K (tVar 5)))) (by rfl) nd (pi_str (pv 3)) (blkOk_by (N := nGrown) (sc := defScope sGrown) (by decide +kernel))
          (fun _ _ _ _ _ => pg_name (i := 5) nd rfl (Or.inl rfl)) (fun _ _ _ _ _ => pts_nil)
          (fun _ _ _ _ _ => pe_lenT X.z_len (pe_ix ix_list (pv 0) (pe_idx (C8.pe_gc (by exact rfl) X.LETTERS) (pv 5)) (fun _ _ => rfl))))) (C8.pe_gc (by exact rfl) X.LONGEST) (nomark _)) pss_never pss_nil)
        (pss_one (ps_set (i := 3) nd rfl (Or.inl rfl) (C8.pe_c (ok_once X) hr (by decide) rfl (pa_cons (pv 0) (pa_cons (pv 3) pa_nil)))))))
      (pss_one (ps_ret (pv 3))))))), ?_⟩
    refine q_drop (ev_ask K rfl hA.rules) fun H1 e1 => q_drop (ev_askRow K rfl rfl (hA.rules.ex e1) hA.row (Nat.le_of_lt hA.sz)) fun H2 e2 => q_drop (ev_askTimes rfl hA.times) fun H3 e3 => ?_
    have e := (e1.trans e2).trans e3
    refine q_asg (ev_var rfl) fun H4 e4 => ?_
    have ht := hA.times
    refine q_forR1 (ea_one (ev_var rfl)) ⟨by omega, by omega⟩ (fun i σ' H' => ∃ u, σ' = [some (.ref a), some (.str (enc r)), some (.int (t : Int)), some (.str (enc (grow R i r))), u, none] ∧ Ex H H' ∧ (grow R i r).length < sizeLine)
      (fun H5 e5 => ⟨none, rfl, (e.trans e4).trans e5, hA.sz⟩) ?_ ?_
    · rintro i σ' H' hi ⟨u, rfl, eH, hz⟩
      have hrow := grow_ok hA.rules.ok i hA.row
      have hlen := hG i (by omega)
      rw [grow_succ] at hlen
      have hL : EvL (tLc (iStr (tVar 3)) (gName 5) tYes (tLenT (tOp (rIxL K) (tVar 0) (tIdx K (tVar 5)))) [5]) ([some (.ref a), some (.str (enc r)), some (.int (t : Int)), some (.str (enc (grow R i r))), some (.int (i : Int)), none] : L2.St) H' (((grow R i r).map fun n => ((ruleOf R n).length : Int)).map V.int) := by
        rw [List.map_map]
        refine el_str (K := K) (ev_var rfl) _ hz (fun _ => rfl) fun n hn H5 e5 => ?_
        refine ev_lenE (ev_ix (ev_var rfl) (ex_l (eH.trans e5) hA.rules.at_) (tidx rfl (Nat.lt_of_lt_of_le (hrow n hn) hA.rules.ok.few)) (RL_at (hrow n hn))) ?_
        exact Nat.le_trans (hA.rules.sz _ (List.mem_of_getElem? (rule_get (hrow n hn)))) (by decide)
      refine q_no (et_is (et_test (ev_op (ev_sumN hL) ev_c rv_I0)) ?_) fun H5 e5 => ?_
      · rw [once_length]
        simp
        omega
      · refine s_asg (v := .str (enc (grow R (i + 1) r))) (ev_spV (ea_two (ev_var rfl) (ev_var rfl)) fun H6 e6 => ⟨a, R, grow R i r, rfl, ex_l ((eH.trans e5).trans e6) hA.rules.at_, hA.rules.ok.few, hrow, hz, Nat.le_trans hlen (by decide), by rw [grow_succ]⟩) fun H6 e6 => ⟨_, rfl, (eH.trans e5).trans e6, ?_⟩
        rw [grow_succ]
        exact Nat.lt_of_le_of_lt hlen (by decide)
    · rintro σ' H' ⟨u, rfl, eH, hz⟩
      rw [Int.toNat_natCast]
      exact s_ret (ev_var rfl) fun H5 e5 => k H5 (eH.trans e5)
end
end Gw

namespace Gw
open PySem PySem.Spec PyProof.Rows L2 Evl
theorem LL.mem_ne {H : Hp} {p q : Addr} {as : List Addr} {xss : List (List V)} (h : LL H p as xss) (hq : H q = none) : p ≠ q ∧ ∀ a ∈ as, a ≠ q := by
  refine ⟨ne_of_none h.1 hq, fun a ha => ?_⟩
  obtain ⟨k, hk⟩ := List.getElem?_of_mem ha
  have hk2 : k < xss.length := by rw [← h.2.1]; exact (List.getElem?_eq_some_iff.mp hk).1
  exact ne_of_none (h.2.2 k a _ hk (List.getElem?_eq_getElem hk2)) hq
theorem ret_tup2 {sp : Sp} {ta : TA} {tb : TE} {σ : L2.St} {H : Hp} {vs : List V} {D : Ends} (hA : EvA ta σ H vs)
    (k : ∀ H1, Ex H H1 → sp vs H1 (fun x H2 => tb σ H2 fun y H3 => [x, y].length ≤ sizeLine ∧ ∀ p, H3 p = none → D.rt (.ref p) (upd H3 p (.tup [x, y]))) E0) :
    tRet (tTup (tCons (tCall sp [] E0 ta) (tCons tb tNil))) D σ H := hA H (Ex.refl _) _ fun H1 e => by
  have := k H1 e
  rw [List.append_nil]
  exact this
section
variable {P : Program} {w : World} {K : PySem.W.Frag} {mg : Str → Option Value} {base : Heap}
abbrev nSk : List Str := ["rules", "row", "times", "many", "told", "found", "left", "now", "turn", "inner", "letter", "part", "rule"]
theorem sc_skipped : FnScope nSk ["rules", "row", "times", "many"] (defScope sSkipped) := ⟨rfl, rfl, rfl, by decide +kernel, rfl, by decide +kernel, by decide +kernel⟩
def spSk (K : PySem.W.Frag) : Sp := fun vs H Q _ => ∃ a R r, ∃ t m : Nat, vs = [.ref a, .str (enc r), .int (t : Int), .int (m : Int)] ∧ Asked K H a R r t ∧ m ≤ (grow R t r).length ∧
  ∀ p q o H2, H p = none → H q = none → Ex H H2 → H2 p = some (.tup [.ref q, .str (textOf o)]) → H2 q = some (.lst ((counted R.length ((grow R t r).take m)).map V.int)) →
    (o = none → m = (grow R t r).length) → (∀ x, o = some x → (grow R t r)[m]? = some x) → Q (.ref p) H2
abbrev tPart' (K : PySem.W.Frag) : TE := tOp (rIxL K) (tOp (rIxL K) (tVar 4) (tVar 8)) (tIdx K (tVar 10))
theorem ok_skipped (X : T K mg) : C8.Cal P w K mg base 3 "skipped" (spSk K) [] := by
  refine cal_of X.d_skipped sc_skipped (fun _ _ _ _ _ _ us hl => match us, hl with | [_, _, _, _], _ => rfl) (fun vs H Q E h => ?_) (fun f cdv A outer s H vs Q E hr h => ?_)
  · obtain ⟨a, R, r, t, m, rfl, _⟩ := h
    rfl
  · obtain ⟨a, R, r, t, m, rfl, hA, hm, k⟩ := h
    have nd := sc_skipped.nd
    refine ⟨_, (pss_cons (ps_set (i := 4) nd rfl (Or.inl rfl) (C8.pe_c (ok_lengths_of X) hr (by decide) rfl (pa_cons (pv 0) (pa_cons (pv 2) pa_nil))))
      (pss_cons (ps_setLc (i := 5) (own := [("rule", 12)]) (g := gName 12) (tt := tYes) (te := tC (.int 0)) rfl nd rfl rfl (sw_true rfl rfl rfl (by decide +kernel)) (pi_list (pv 0)) (blkOk_by (N := nSk) (sc := defScope sSkipped) (by decide +kernel))
          (fun _ _ _ _ _ => pg_name (i := 12) nd rfl (Or.inl rfl)) (fun _ _ _ _ _ => pts_nil) (fun _ _ _ _ _ => pe_int))
      (pss_cons (ps_set (i := 6) nd rfl (Or.inl rfl) (pv 3))
      (pss_cons (ps_set (i := 7) nd rfl (Or.inl rfl) (pv 1))
      (pss_cons (ps_for PassesOwn.never rfl (pi_revR rfl X.z_reversed (prg_1 rfl X.z_range (pe_op op_add (pv 2) pe_int))) (pg_name (i := 8) nd rfl (Or.inl rfl))
        (pss_cons (ps_set (i := 9) nd rfl (Or.inl rfl) pe_empty)
      (pss_cons (ps_for PassesOwn.never rfl (pi_str (pv 7)) (pg_name (i := 10) nd rfl (Or.inl rfl))
          (pss_cons (ps_set (i := 11) nd rfl (Or.inl rfl) (pe_ix ix_list (pe_ix ix_list (pv 4) (pv 8) (fun _ _ => rfl)) (pe_idx (C8.pe_gc rfl X.LETTERS) (pv 10)) (fun _ _ => rfl)))
      (pss_one (ps_if (PW.pt (pw_and (pt_cmpR op_eq (pv 9) pe_empty (nomark _)) (pw_and1 (pt_cmpR op_le (pv 11) (pv 6) (nomark _)))))
            (pss_cons (ps_set (i := 6) nd rfl (Or.inl rfl) (pe_op op_sub (pv 6) (pv 11)))
      (pss_one (ps_asg (pe_op op_add (pe_ix ix_list (pv 5) (pe_idx (C8.pe_gc rfl X.LETTERS) (pv 10)) (fun _ _ => rfl)) pe_int) (pg_sub (pv 5) (pe_idx (C8.pe_gc rfl X.LETTERS) (pv 10)) set_list))))
            (pss_one (ps_if (pt_cmpR op_eq (pv 9) pe_empty (nomark _)) (pss_one (ps_set (i := 9) nd rfl (Or.inl rfl) (pv 10))) pss_nil))))))
      (pss_cons (ps_if (PW.pt (pw_or (pt_cmpR op_eq (pv 9) pe_empty (nomark _)) (pw_or1 (pt_cmpR op_eq (pv 8) pe_int (nomark _)))))
            (pss_one (ps_ret (pe_tup (pa_cons (C8.pe_c (ok_gc X) hr (by decide) rfl (pa_cons (pv 0) (pa_cons (pv 5) (pa_cons (pv 8) pa_nil)))) (pa_cons (pv 9) pa_nil))))) pss_nil)
      (pss_cons (ps_set (i := 5) nd rfl (Or.inl rfl) (C8.pe_c (ok_gc X) hr (by decide) rfl (pa_cons (pv 0) (pa_cons (pv 5) (pa_cons pe_int pa_nil)))))
      (pss_one (ps_set (i := 7) nd rfl (Or.inl rfl) (pe_ix ix_list (pv 0) (pe_idx (C8.pe_gc rfl X.LETTERS) (pv 9)) (fun _ _ => rfl)))))))))
      (pss_one (ps_ret (pe_tup (pa_cons (pv 5) (pa_cons pe_empty pa_nil)))))))))), ?_⟩
    have ok := hA.rules.ok
    have h26 := ok.few
    have ht := hA.times
    refine q_asgLL (ell_spLL (ea_two (ev_var rfl) (ev_var rfl)) fun H1 e1 => ⟨a, R, t, rfl, hA.rules.ex e1, ht, rfl⟩) fun p as H1 hp has e1 hLL => ?_
    refine q_asgL (xs := (counted R.length []).map V.int) ?_ fun q0 H2 hq0 e2 h2 => ?_
    · have e : (counted R.length []).map V.int = R.map fun _ => V.int 0 := by
        apply List.ext_getElem?
        intro i
        rw [List.getElem?_map, List.getElem?_map]
        by_cases hi : i < R.length
        · rw [counted_get hi, List.getElem?_eq_getElem hi]
          rfl
        · rw [List.getElem?_eq_none (by rw [counted_length]; omega), List.getElem?_eq_none (by omega)]
          rfl
      rw [e]
      exact el_list (u := fun r => V.str (enc r)) (wi_list (ev_var rfl) (hA.rules.ex e1).at_) _ (Nat.lt_of_le_of_lt h26 (by decide)) (fun _ => rfl) fun r hr H1 e1 => ev_c
    refine q_asg (ev_var rfl) fun H3 e3 => q_asg (ev_var rfl) fun H4 e4 => ?_
    have e24 := e2.trans (e3.trans e4)
    obtain ⟨G, hG⟩ : ∃ G, grow R t r = G := ⟨_, rfl⟩
    rw [hG] at hm k
    have w8 : WF (iRevR (tRg1 (tOp (rI0 fun i j => .int (i + j)) (tVar 2) (tC (.int 1))))) ([some (.ref a), some (.str (enc r)), some (.int (t : Int)), some (.int (m : Int)), some (.ref p), some (.ref q0), some (.int (m : Int)), some (.str (enc r)), none, none, none, none, none] : L2.St) H4 (t + 1) (fun i => .int (((t + 1 : Nat) : Int) - 1 - (i : Int))) :=
      wf_revR (fun H5 e5 R' k' => ev_addI (i := (t : Int)) (j := 1) (ev_var rfl) ev_c H5 e5 _ fun H6 e6 => ⟨_, rfl, by
        have := k' H6 e6
        rw [Int.natCast_add] at this
        exact this⟩) (by omega)
    refine q_forF w8 (fun i σ' H' => ∃ A now left, ∃ q u8 u9 u10 u11, i ≤ t ∧ SkipAt R G m (t - i) A now left ∧ now.length < sizeLine ∧
        σ' = [some (.ref a), some (.str (enc r)), some (.int (t : Int)), some (.int (m : Int)), some (.ref p), some (.ref q), some (.int (left : Int)), some (.str (enc now)), u8, u9, u10, u11, none] ∧ Ex H1 H' ∧ H1 q = none ∧ H' q = some (.lst ((counted R.length A).map V.int)))
      (fun H5 e5 => ⟨[], r, m, q0, none, none, none, none, Nat.zero_le _, hG ▸ skip_first ok hA.row (hG ▸ hm), hA.sz, rfl, e24.trans e5, hq0, (e3.trans (e4.trans e5)) _ _ h2⟩) ?_ ?_
    · rintro i σ' H' hi ⟨A, now, left, q, u8, u9, u10, u11, hit, hS, hnz, rfl, eH, hq, hqA⟩
      obtain ⟨tt, htt⟩ : ∃ tt, t - i = tt := ⟨_, rfl⟩
      rw [htt] at hS
      have eturn : V.int (((t + 1 : Nat) : Int) - 1 - (i : Int)) = V.int (tt : Int) := congrArg V.int (by omega)
      show _
      rw [eturn]
      have httl : tt ≤ t := by omega
      refine q_asg (v := .str (textOf none)) ev_c fun H5 e5 => ?_
      -- the inner loop
      refine q_forF (wf_str (l := now) (ev_var rfl)) (fun j σ' H' => ∃ f l o u10 u11, SkipIn R tt A now left j f l o ∧ f.length = R.length ∧
          σ' = [some (.ref a), some (.str (enc r)), some (.int (t : Int)), some (.int (m : Int)), some (.ref p), some (.ref q), some (.int l), some (.str (enc now)), some (.int (tt : Int)), some (.str (textOf o)), u10, u11, none] ∧ Ex H1 H' ∧ H' q = some (.lst (f.map V.int)))
        (fun H6 e6 => ⟨counted R.length A, (left : Int), none, u10, u11, skipIn_start, counted_length _ _, rfl, eH.trans (e5.trans e6), (e5.trans e6) _ _ hqA⟩) ?_ ?_
      · rintro j σ6 H6 hj ⟨f, l, o, u10, u11, hI, hfl, rfl, e6, hqf⟩
        have hn : now[j]? = some (now.getD j 0) := by
          rw [List.getElem?_eq_getElem hj]
          simp [hj]
        generalize now.getD j 0 = n at hn
        have hnR : n < R.length := hS.okN.get hn
        have hn26 : n < 26 := Nat.lt_of_lt_of_le hnR h26
        obtain ⟨hpq, haq⟩ := hLL.mem_ne hq
        obtain ⟨c, hc1, hc2⟩ := (hLL.mono e6).get (tabs_get httl)
        refine q_asg (v := .int ((lens R tt).getD n 0)) (ev_ix (n := n) (ev_ix (n := tt) (ev_var rfl) (sq_of (e6 _ _ hLL.1)) (ev_var rfl) hc1) (sq_of hc2) (tidx rfl hn26) (int_get (by rw [lens_length]; exact hnR))) fun H7 e7 => ?_
        cases o with
        | some x =>
          refine s_if (b := false) (et_is (et_and (b := false) (et_test (ev_eqS _ (z := textOf (some x)) (ev_var rfl) ev_c)) fun hb => absurd hb (by rw [textOf_eq]; exact Bool.false_ne_true)) (by rw [textOf_eq]; rfl)) (fun hb => absurd hb Bool.false_ne_true) fun _ H8 e8 => ?_
          refine s_skip (et_is (et_test (ev_eqS _ (z := textOf (some x)) (ev_var rfl) ev_c)) (by rw [textOf_eq]; rfl)) fun H9 e9 => ?_
          exact ⟨f, l, some x, _, _, skipIn_over hI, hfl, rfl, e6.trans (e7.trans (e8.trans e9)), (e7.trans (e8.trans e9)) _ _ hqf⟩
        | none =>
          by_cases hle : (lens R tt).getD n 0 ≤ l
          · refine s_if (b := true) (et_is (et_and (et_test (ev_eqS _ (z := textOf none) (ev_var rfl) ev_c)) fun _ => et_test (ev_op (ev_var rfl) (ev_var rfl) rv_I0)) (by rw [textOf_eq, decide_eq_true hle]; rfl)) (fun _ H8 e8 => ?_) fun hb => absurd hb (by decide)
            refine q_asg (ev_subI (ev_var rfl) (ev_var rfl)) fun H9 e9 => ?_
            have e79 := e7.trans (e8.trans e9)
            refine s_setL (j := n) (e79 _ _ hqf) (v := .int (f.getD n 0 + 1)) (ev_addI (ev_ix (n := n) (ev_var rfl) (sq_of (e79 _ _ hqf)) (tidx rfl hn26) (int_get (by rw [hfl]; exact hnR))) ev_c) (ev_var rfl) (tidx rfl hn26) (by rw [List.length_map, hfl]; exact hnR) fun H10 e10 => ?_
            refine ⟨f.set n (f.getD n 0 + 1), _, none, _, _, skipIn_take ok hS.okN hn hI hle, by rw [List.length_set, hfl], rfl, Ex.mut (e6.trans (e79.trans e10)) hq, ?_⟩
            rw [upd_same, List.map_set]
          · refine s_if (b := false) (et_is (et_and (et_test (ev_eqS _ (z := textOf none) (ev_var rfl) ev_c)) fun _ => et_test (ev_op (ev_var rfl) (ev_var rfl) rv_I0)) (by rw [textOf_eq, decide_eq_false hle]; rfl)) (fun hb => absurd hb Bool.false_ne_true) fun _ H8 e8 => ?_
            refine s_when (b := true) (et_is (et_test (ev_eqS _ (z := textOf none) (ev_var rfl) ev_c)) (by rw [textOf_eq]; rfl)) (fun _ H9 e9 => s_asg (v := .str (textOf (some n))) (ev_var rfl) fun H10 e10 => ?_) fun hb => absurd hb (by decide)
            have e := e7.trans (e8.trans (e9.trans e10))
            exact ⟨f, l, some n, _, _, skipIn_stop ok hS.okN hn hI hle, hfl, rfl, e6.trans e, e _ _ hqf⟩
      · rintro σ6 H6 ⟨f, l, o, u10, u11, hI, hfl, rfl, e6, hqf⟩
        have hgc : ∀ (s : Nat) {H' : Hp}, s ≤ 300 → Ex H6 H' → preGC K [.ref a, .ref q, .int (s : Int)] H' q ((gcs R s f).map V.int) := fun s {H'} hs e => ⟨a, R, f, s, rfl, hA.rules.ex (e1.trans (e6.trans e)), e _ _ hqf, hfl, hs, rfl⟩
        have fin : ∀ {H7 : Hp}, Ex H6 H7 → (gcs R tt f = counted R.length (G.take m)) → (o = none → m = G.length) → (∀ x, o = some x → G[m]? = some x) →
            tRet (tTup (tCons (tCall (spQ (preGC K)) [] E0 (tCons (tVar 0) (tCons (tVar 5) (tCons (tVar 8) tNil)))) (tCons (tVar 9) tNil))) { nx := (fun _ _ => False), rt := Q, bk := (fun _ _ => False), ct := (fun _ _ => False) } ([some (.ref a), some (.str (enc r)), some (.int (t : Int)), some (.int (m : Int)), some (.ref p), some (.ref q), some (.int l), some (.str (enc now)), some (.int (tt : Int)), some (.str (textOf o)), u10, u11, none] : L2.St) H7 := fun {H7} e7 hc h1 h2 => by
          refine ret_tup2 (ea_three (ev_var rfl) (ev_var rfl) (ev_var rfl)) fun H8 e8 => ?_
          refine ⟨q, _, hgc tt (by omega) (e7.trans e8), fun q9 H9 e9 hq9 h9 => ⟨.str (textOf o), rfl, (by show 2 ≤ sizeLine; decide), fun p10 hp10 => ?_⟩⟩
          have e69 := e7.trans (e8.trans e9)
          have hq9H : H1 q9 = none := by
            rcases hq9 with rfl | hq9
            · exact hq
            · exact fresh_back (e6.trans (e7.trans e8)) hq9
          refine k p10 q9 o _ (fresh_back (e1.trans (e6.trans e69)) hp10) (fresh_back e1 hq9H) ((e1.trans (e6.trans e69)).trans (Ex.new hp10)) upd_same ?_ h1 h2
          rw [upd_ne (ne_of_none h9 hp10), h9, hc]
        cases o with
        | none =>
          obtain ⟨hc, hml⟩ := skip_none ok hS hI
          refine q_when (b := true) (et_is (et_or (b := true) (et_test (ev_eqS _ (z := textOf none) (ev_var rfl) ev_c)) fun hb => absurd hb (by rw [textOf_eq]; decide)) (by rw [textOf_eq]; rfl)) (fun _ H7 e7 => fin e7 hc (fun _ => hml) fun x hx => nomatch hx) fun hb => absurd hb (by decide)
        | some x =>
          by_cases h0 : tt = 0
          · subst h0
            obtain ⟨hc, hx⟩ := skip_last ok hS hI
            refine q_when (b := true) (et_is (et_or (et_test (ev_eqS _ (z := textOf (some x)) (ev_var rfl) ev_c)) fun _ => et_test (ev_op (ev_var rfl) ev_c (rv_eq rfl))) (by rw [textOf_eq]; rfl)) (fun _ H7 e7 => fin e7 hc (fun h => nomatch h) fun y hy => by cases hy; exact hx) fun hb => absurd hb (by decide)
          · obtain ⟨t1, rfl⟩ : ∃ t1, tt = t1 + 1 := ⟨tt - 1, by omega⟩
            obtain ⟨hxR, A', left', hc, rfl, hS'⟩ := skip_next ok hS hI
            refine q_skip (et_is (et_or (et_test (ev_eqS _ (z := textOf (some x)) (ev_var rfl) ev_c)) fun _ => et_test (ev_op (ev_var rfl) ev_c (rv_eq rfl))) (by
              rw [textOf_eq]
              have : ¬ V.int ((t1 + 1 : Nat) : Int) = V.int 0 := fun h => by
                have := V.int.inj h
                omega
              rw [decide_eq_false this]
              rfl)) fun H7 e7 => ?_
            refine s_asgQ (b := q) (xs := (gcs R 1 f).map V.int) (ea_three (ev_var rfl) (ev_var rfl) ev_c) (fun H8 e8 => hgc 1 (by decide) (e7.trans e8)) fun q9 H9 e9 hq9 h9 => ?_
            have e69 := e7.trans e9
            refine s_asg (v := .str (enc (ruleOf R x))) (ev_ix (n := x) (ev_var rfl) (hA.rules.ex (e1.trans (e6.trans e69))).at_ (tidx rfl (Nat.lt_of_lt_of_le hxR h26)) (RL_at hxR)) fun H10 e10 => ?_
            have e11 : t - (i + 1) = t1 := by omega
            refine ⟨A', ruleOf R x, left', q9, _, _, _, _, by omega, e11 ▸ hS', Nat.lt_of_le_of_lt (hA.rules.sz _ (List.mem_of_getElem? (rule_get hxR))) (by decide), rfl, e6.trans (e69.trans e10), ?_, by rw [← hc]; exact e10 _ _ h9⟩
            rcases hq9 with rfl | hq9
            · exact hq
            · exact fresh_back (e6.trans e7) hq9
    · rintro σ' H' ⟨A, now, left, q, u8, u9, u10, u11, hit, _⟩
      omega
end
end Gw

namespace Gw
open PySem PySem.Spec PyProof.Rows L2 Evl
theorem ev_skLetter {K : PySem.W.Frag} {σ : L2.St} {H : Hp} {ta : TA} {te : TE} {a : Addr} {R : GRules} {r : GRow} {t m x : Nat} (hA : EvA ta σ H [.ref a, .str (enc r), .int (t : Int), .int (m : Int)]) (ask : Asked K H a R r t) (hx : (grow R t r)[m]? = some x) (h1 : Ev te σ H (.int 1)) :
    Ev (tOp (rIxT K) (tCall (spSk K) [] E0 ta) te) σ H (.str (sg x)) := fun H1 e Q q => hA H1 e _ fun H2 e2 => by
  have hm : m < (grow R t r).length := (List.getElem?_eq_some_iff.mp hx).1
  rw [List.append_nil]
  refine ⟨a, R, r, t, m, rfl, ask.ex (e.trans e2), Nat.le_of_lt hm, fun p qq o H3 hp hq e3 hp3 hq3 hn ho => h1 H3 ((e.trans e2).trans e3) _ fun H4 e4 => ⟨p, _, 1, .str (sg x), rfl, rfl, st_of (e4 _ _ hp3), ?_, q H4 ((e2.trans e3).trans e4)⟩⟩
  cases o with
  | none => exact absurd (hn rfl) (Nat.ne_of_lt hm)
  | some y =>
    have := ho y rfl
    rw [hx] at this
    cases this
    rfl
theorem el_skFirst {K : PySem.W.Frag} {σ : L2.St} {H : Hp} {ta : TA} {te : TE} {a : Addr} {R : GRules} {r : GRow} {t m : Nat} (hA : EvA ta σ H [.ref a, .str (enc r), .int (t : Int), .int (m : Int)]) (ask : Asked K H a R r t) (hm : m ≤ (grow R t r).length) (h1 : Ev te σ H (.int 0)) :
    EvL (tOp (rIxT K) (tCall (spSk K) [] E0 ta) te) σ H ((counted R.length ((grow R t r).take m)).map V.int) := fun H1 e Q q => hA H1 e _ fun H2 e2 => by
  rw [List.append_nil]
  exact ⟨a, R, r, t, m, rfl, ask.ex (e.trans e2), hm, fun p qq o H3 hp hq e3 hp3 hq3 hn ho => h1 H3 ((e.trans e2).trans e3) _ fun H4 e4 => ⟨p, _, 0, .ref qq, rfl, rfl, st_of (e4 _ _ hp3), rfl, q qq H4 (fresh_back e2 hq) ((e2.trans e3).trans e4) (e4 _ _ hq3)⟩⟩
section
variable {P : Program} {w : World} {K : PySem.W.Frag} {mg : Str → Option Value} {base : Heap}
theorem sc_letter : FnScope ["rules", "row", "times", "place"] ["rules", "row", "times", "place"] (defScope sLetter) := ⟨rfl, rfl, rfl, by decide +kernel, rfl, by decide +kernel, by decide +kernel⟩
def preLetter (K : PySem.W.Frag) : List V → Hp → V → Prop := fun vs H v => ∃ a R r x, ∃ t m : Nat, vs = [.ref a, .str (enc r), .int (t : Int), .int (m : Int)] ∧ Asked K H a R r t ∧ (grow R t r)[m]? = some x ∧ v = .str (sg x)
theorem ok_letter (X : T K mg) : C8.Cal P w K mg base 4 "letter" (spV (preLetter K)) [] := by
  refine cal_of X.d_letter sc_letter (fun _ _ _ _ _ _ us hl => match us, hl with | [_, _, _, _], _ => rfl) (fun vs H Q E h => ?_) (fun f cdv A outer s H vs Q E hr h => ?_)
  · obtain ⟨v, ⟨a, R, r, x, t, m, rfl, _⟩, _⟩ := h
    rfl
  · obtain ⟨v, ⟨a, R, r, x, t, m, rfl, hA, hx, rfl⟩, k⟩ := h
    refine ⟨_, (pss_cons (ps_expr (C8.pe_c (ok_asked_rules X) hr (by decide) rfl (pa_cons (pv 0) pa_nil)))
      (pss_cons (ps_expr (C8.pe_c (ok_asked_row X) hr (by decide) rfl (pa_cons (pv 0) (pa_cons (pv 1) pa_nil))))
      (pss_cons (ps_expr (C8.pe_c (ok_asked_times X) hr (by decide) rfl (pa_cons (pv 2) pa_nil)))
      (pss_cons (ps_if (PW.pt (pw_or (pt_not (pt_val (C8.pe_c (ok_is_number X) hr (by decide) rfl (pa_cons (pv 3) (pa_cons pe_int pa_nil)))))
          (pw_or1 (pt_cmpR op_ge (pv 3) (C8.pe_c (ok_length X) hr (by decide) rfl (pa_cons (pv 0) (pa_cons (pv 1) (pa_cons (pv 2) pa_nil)))) (nomark _))))) pss_never pss_nil)
      (pss_one (ps_ret (pe_ix ix_tup (C8.pe_c (ok_skipped X) hr (by decide) rfl (pa_cons (pv 0) (pa_cons (pv 1) (pa_cons (pv 2) (pa_cons (pv 3) pa_nil))))) pe_int (fun _ _ => rfl)))))))), ?_⟩
    have hm : m < (grow R t r).length := (List.getElem?_eq_some_iff.mp hx).1
    refine q_drop (ev_ask K rfl hA.rules) fun H1 e1 => q_drop (ev_askRow K rfl rfl (hA.rules.ex e1) hA.row (Nat.le_of_lt hA.sz)) fun H2 e2 => q_drop (ev_askTimes rfl hA.times) fun H3 e3 => ?_
    have e := (e1.trans e2).trans e3
    refine q_no (et_is (et_or (et_not (et_B (ev_spV (v := .bl true) (ea_two (ev_var rfl) ev_c) fun H4 e4 => ⟨m, 0, rfl, by simp⟩))) fun _ => et_test (ev_op (ev_var rfl) (ev_spV (v := .int ((grow R t r).length : Int)) (ea_three (ev_var rfl) (ev_var rfl) (ev_var rfl)) fun H4 e4 => ⟨a, R, r, t, rfl, hA.ex (e.trans e4), rfl⟩) rv_I0)) (by
      simp
      omega)) fun H4 e4 => ?_
    exact s_ret (ev_skLetter (ea_cons (ev_var rfl) (ea_three (ev_var rfl) (ev_var rfl) (ev_var rfl))) (hA.ex (e.trans e4)) hx ev_c) fun H5 e5 => k H5 ((e.trans e4).trans e5)
theorem sc_first : FnScope ["rules", "row", "times", "many"] ["rules", "row", "times", "many"] (defScope sFirst) := ⟨rfl, rfl, rfl, by decide +kernel, rfl, by decide +kernel, by decide +kernel⟩
def preFirst (K : PySem.W.Frag) : List V → Hp → List V → Prop := fun vs H xs => ∃ a R r, ∃ t m : Nat, vs = [.ref a, .str (enc r), .int (t : Int), .int (m : Int)] ∧ Asked K H a R r t ∧ m ≤ (grow R t r).length ∧ xs = (counted R.length ((grow R t r).take m)).map V.int
theorem ok_first (X : T K mg) : C8.Cal P w K mg base 4 "first" (spL (preFirst K)) [] := by
  refine cal_of X.d_first sc_first (fun _ _ _ _ _ _ us hl => match us, hl with | [_, _, _, _], _ => rfl) (fun vs H Q E h => ?_) (fun f cdv A outer s H vs Q E hr h => ?_)
  · obtain ⟨v, ⟨a, R, r, t, m, rfl, _⟩, _⟩ := h
    rfl
  · obtain ⟨v, ⟨a, R, r, t, m, rfl, hA, hm, rfl⟩, k⟩ := h
    refine ⟨_, (pss_cons (ps_expr (C8.pe_c (ok_asked_rules X) hr (by decide) rfl (pa_cons (pv 0) pa_nil)))
      (pss_cons (ps_expr (C8.pe_c (ok_asked_row X) hr (by decide) rfl (pa_cons (pv 0) (pa_cons (pv 1) pa_nil))))
      (pss_cons (ps_expr (C8.pe_c (ok_asked_times X) hr (by decide) rfl (pa_cons (pv 2) pa_nil)))
      (pss_cons (ps_if (PW.pt (pw_or (pt_not (pt_val (C8.pe_c (ok_is_number X) hr (by decide) rfl (pa_cons (pv 3) (pa_cons pe_int pa_nil)))))
          (pw_or1 (pt_cmpR op_gt (pv 3) (C8.pe_c (ok_length X) hr (by decide) rfl (pa_cons (pv 0) (pa_cons (pv 1) (pa_cons (pv 2) pa_nil)))) (nomark _))))) pss_never pss_nil)
      (pss_one (ps_ret (pe_ix ix_tup (C8.pe_c (ok_skipped X) hr (by decide) rfl (pa_cons (pv 0) (pa_cons (pv 1) (pa_cons (pv 2) (pa_cons (pv 3) pa_nil))))) pe_int (fun _ _ => rfl)))))))), ?_⟩
    refine q_drop (ev_ask K rfl hA.rules) fun H1 e1 => q_drop (ev_askRow K rfl rfl (hA.rules.ex e1) hA.row (Nat.le_of_lt hA.sz)) fun H2 e2 => q_drop (ev_askTimes rfl hA.times) fun H3 e3 => ?_
    have e := (e1.trans e2).trans e3
    refine q_no (et_is (et_or (et_not (et_B (ev_spV (v := .bl true) (ea_two (ev_var rfl) ev_c) fun H4 e4 => ⟨m, 0, rfl, by simp⟩))) fun _ => et_test (ev_op (ev_var rfl) (ev_spV (v := .int ((grow R t r).length : Int)) (ea_three (ev_var rfl) (ev_var rfl) (ev_var rfl)) fun H4 e4 => ⟨a, R, r, t, rfl, hA.ex (e.trans e4), rfl⟩) rv_I0)) (by
      simp
      omega)) fun H4 e4 => ?_
    have e' := e.trans e4
    exact s_retL (el_skFirst (ea_cons (ev_var rfl) (ea_three (ev_var rfl) (ev_var rfl) (ev_var rfl))) (hA.ex e') hm ev_c) fun p H5 hp e5 h5 => k p H5 (fresh_back e' hp) (e'.trans e5) h5
end
end Gw

namespace Gw
open PySem PySem.Spec PyProof.Rows L2 Evl
section
variable {P : Program} {w : World} {K : PySem.W.Frag} {mg : Str → Option Value} {base : Heap}
abbrev nBehind : List Str := ["one", "other", "rule", "letter"]
theorem sc_behind : FnScope nBehind ["one", "other"] (defScope sBehind) := ⟨rfl, rfl, rfl, by decide +kernel, rfl, by decide +kernel, by decide +kernel⟩
/-- rules behind other ones -/
def beh (R S : GRules) : GRules := R.map (once S)
def preBehind (K : PySem.W.Frag) : List V → Hp → List V → Prop := fun vs H xs => ∃ a b R S, vs = [.ref a, .ref b] ∧ RAt K H a R ∧ RAt K H b S ∧ R.length = S.length ∧ (∀ r ∈ R, (once S r).length ≤ 100000) ∧ xs = RL (beh R S)
theorem ok_behind (X : T K mg) : C8.Cal P w K mg base 3 "behind" (spL (preBehind K)) [] := by
  refine cal_of X.d_behind sc_behind (fun _ _ _ _ _ _ us hl => match us, hl with | [_, _], _ => rfl) (fun vs H Q E h => ?_) (fun f cdv A outer s H vs Q E hr h => ?_)
  · obtain ⟨v, ⟨a, b, R, S, rfl, _⟩, _⟩ := h
    rfl
  · obtain ⟨v, ⟨a, b, R, S, rfl, hR, hS, hl, hz, rfl⟩, k⟩ := h
    have nd := sc_behind.nd
    refine ⟨_, pss_cons (ps_expr (C8.pe_c (ok_asked_rules X) hr (by decide) rfl (pa_cons (pv 0) pa_nil)))
      (pss_cons (ps_expr (C8.pe_c (ok_asked_rules X) hr (by decide) rfl (pa_cons (pv 1) pa_nil)))
      (pss_cons (ps_if (pt_cmpR op_ne (pe_len X.z_len (pv 0)) (pe_len X.z_len (pv 1)) (nomark _)) pss_never pss_nil)
      (pss_cons (ps_for PassesOwn.never rfl (pi_list (pv 0)) (pg_name (i := 2) nd rfl (Or.inl rfl))
        (pss_one (ps_if (pt_cmpR op_gt (pe_sum rfl X.z_sum (pe_lc (own := [("letter", 3)]) (g := gName 3) (tt := tYes) (te := tLenT (tOp (rIxL K) (tVar 1) (tIdx K (tVar 3)))) (by rfl) nd (pi_str (pv 2)) (blkOk_by (N := nBehind) (sc := defScope sBehind) (by decide +kernel))
          (fun _ _ _ _ _ => pg_name (i := 3) nd rfl (Or.inl rfl)) (fun _ _ _ _ _ => pts_nil)
          (fun _ _ _ _ _ => pe_lenT X.z_len (pe_ix ix_list (pv 1) (pe_idx (C8.pe_gc (by exact rfl) X.LETTERS) (pv 3)) (fun _ _ => rfl))))) (C8.pe_gc (by exact rfl) X.LONGEST) (nomark _)) pss_never pss_nil)))
      (pss_one (ps_ret (pe_lc (own := [("rule", 2)]) (g := gName 2) (tt := tYes) (te := tCall (spV (preOnce K)) [] E0 (tCons (tVar 1) (tCons (tVar 2) tNil))) (by rfl) nd (pi_list (pv 0)) (blkOk_by (N := nBehind) (sc := defScope sBehind) (by decide +kernel))
          (fun _ _ _ _ _ => pg_name (i := 2) nd rfl (Or.inl rfl)) (fun _ _ _ _ _ => pts_nil) (fun _ _ _ _ _ => C8.pe_c (ok_once X) hr (by decide) rfl (pa_cons (pv 1) (pa_cons (pv 2) pa_nil))))))))), ?_⟩
    refine q_drop (ev_ask K rfl hR) fun H1 e1 => q_drop (ev_spV (v := .non) (ea_one (ev_var rfl)) fun H2 e2 => ⟨b, S, rfl, hS.ex (e1.trans e2), rfl⟩) fun H2 e2 => ?_
    have e := e1.trans e2
    refine q_no (et_is (et_test (ev_op (ev_len (ev_var rfl) (ex_l e hR.at_)) (ev_len (ev_var rfl) (ex_l e hS.at_)) (rv_ne rfl))) ?_) fun H3 e3 => ?_
    · rw [RL_len, RL_len, hl]
      simp
    have e3 := e.trans e3
    have rowS : ∀ r ∈ R, RowOk S.length r := fun r hr => hl ▸ hR.ok.rows r hr
    refine q_forLn (ev_var rfl) (ex_l e3 hR.at_) (fun i σ' H' => ∃ u, σ' = [some (.ref a), some (.ref b), u, none] ∧ Ex H H') (fun H4 e4 => ⟨none, rfl, e3.trans e4⟩) (fun i σ' H' _ ⟨_, _, eH⟩ => ex_l eH hR.at_) ?_ ?_
    · rintro i x σ' H' hx ⟨u, rfl, eH⟩
      obtain ⟨r, hr1, rfl⟩ := RL_get hx
      have hm := List.mem_of_getElem? hr1
      have hrow := rowS r hm
      have hL : EvL (tLc (iStr (tVar 2)) (gName 3) tYes (tLenT (tOp (rIxL K) (tVar 1) (tIdx K (tVar 3)))) [3]) ([some (.ref a), some (.ref b), some (.str (enc r)), none] : L2.St) H' ((r.map fun n => ((ruleOf S n).length : Int)).map V.int) := by
        rw [List.map_map]
        refine el_str (K := K) (ev_var rfl) _ (Nat.lt_of_le_of_lt (hR.sz r hm) (by decide)) (fun _ => rfl) fun n hn H5 e5 => ?_
        refine ev_lenE (ev_ix (ev_var rfl) (ex_l (eH.trans e5) hS.at_) (tidx rfl (Nat.lt_of_lt_of_le (hrow n hn) hS.ok.few)) (RL_at (hrow n hn))) ?_
        exact Nat.le_trans (hS.sz _ (List.mem_of_getElem? (rule_get (hrow n hn)))) (by decide)
      refine s_no (et_is (et_test (ev_op (ev_sumN hL) ev_c rv_I0)) ?_) fun H5 e5 => ⟨_, rfl, eH.trans e5⟩
      rw [once_length]
      have := hz r hm
      simp
      omega
    · rintro σ' H' ⟨u, rfl, eH⟩
      refine s_retL (xs := RL (beh R S)) ?_ fun p H5 hp e5 h5 => k p H5 (fresh_back eH hp) (eH.trans e5) h5
      unfold RL beh
      rw [List.map_map]
      refine el_list (u := fun r => V.str (enc r)) (wi_list (ev_var rfl) (ex_l eH hR.at_)) _ (Nat.lt_of_le_of_lt hR.ok.few (by decide)) (fun _ => rfl) fun r hr H6 e6 => ?_
      exact ev_spV (ea_two (ev_var rfl) (ev_var rfl)) fun H7 e7 => ⟨b, S, r, rfl, ex_l ((eH.trans e6).trans e7) hS.at_, hS.ok.few, rowS r hr, Nat.lt_of_le_of_lt (hR.sz r hr) (by decide), Nat.le_trans (hz r hr) (by decide), rfl⟩
end
end Gw

namespace Gw
open PySem PySem.Spec PyProof.Rows L2 Evl
/-! ### zip of a list and a text -/
def Itzx (K : PySem.W.Frag) (a : Addr) (z : Str) : It :=
  ⟨fun i H => ∃ (xs : List V) (x : V) (c : Nat), SqL K H a xs ∧ xs[i]? = some x ∧ z.cps[i]? = some c,
    fun i H v H' => ∃ T x c, v = .ref T ∧ H T = none ∧ H' = upd H T (.tup [x, .str ⟨#[c]⟩]) ∧ (∀ xs, SqL K H a xs → xs[i]? = some x) ∧ z.cps[i]? = some c,
    fun i H => ∃ xs : List V, SqL K H a xs ∧ i ≤ xs.length ∧ i ≤ z.cps.size ∧ (i = xs.length ∨ i = z.cps.size)⟩
theorem turn_zipx {P : Program} {w : World} {K : PySem.W.Frag} {elts : List Expr} {kk : Nat} {tpos : Pos} {a z TI TO i1 i2 : Addr} {x : Str} {t : Tok} (S : ZipSep2 z TI TO i1 i2 [i1, a] [i2]) :
    Turn P w K (.Tuple elts kk tpos) (Itzx K a x) [z, TI, TO, i1, i2] z (fun i h => IsZip h z TI TO .none ∧ IsPair h TI (.ref i1) (.ref i2) ∧ (∃ x y, IsPair h TO x y) ∧ h.IsListIter i1 a i ∧ h.IsStrIter i2 (strIterType x) x t i) where
  mem := by simp
  obj := fun i h st c hc => by
    obtain ⟨hz, hTI, ⟨x, y, hTO⟩, ⟨o1, e1, _, d1⟩, ⟨o2, e2, _, d2⟩⟩ := st
    have e' : c = z ∨ c = TI ∨ c = TO ∨ c = i1 ∨ c = i2 := by simpa using hc
    rcases e' with q | q | q | q | q
    · rw [q]; exact ⟨_, hz, fun v q => nomatch q⟩
    · rw [q]; exact ⟨_, hTI, fun v q => nomatch q⟩
    · rw [q]; exact ⟨_, hTO, fun v q => nomatch q⟩
    · rw [q]; exact ⟨o1, e1, fun v q => by rw [d1] at q; cases q⟩
    · rw [q]; exact ⟨o2, e2, fun v q => by rw [d2] at q; cases q⟩
  keep := fun i h h' st k => by
    obtain ⟨hz, hTI, ⟨x, y, hTO⟩, h1, ⟨o2, e2, r2⟩⟩ := st
    exact ⟨k z (by simp) _ hz, k TI (by simp) _ hTI, ⟨x, y, k TO (by simp) _ hTO⟩, h1.at fun o q => k i1 (by simp) o q, ⟨o2, k i2 (by simp) o2 e2, r2⟩⟩
  item := by
    intro X hP hw hK hc i pins s σ H E I hf st hg
    subst hP hw hK
    obtain ⟨hz, hTI, ⟨x0, y0, hTO⟩, h1, h2⟩ := st
    obtain ⟨xs, v, c0, hqx, hx, hy⟩ := hg
    obtain ⟨its, rv, p, _⟩ := I.list hqx
    obtain ⟨u, hu, ru⟩ := rv.get hx
    have hzl : z < s.heap.objs.size := Heap.lt_size hz
    have hh : X.A.in1.handled = none := I.ok.hd hc
    have hne : a ≠ i1 := fun e => by
      obtain ⟨ol, hol, hcl, _⟩ := p.isList
      obtain ⟨oi, hoi, hci, _⟩ := h1
      rw [e, hoi] at hol
      cases hol
      rw [hci] at hcl
      exact absurd (Value.type.inj hcl) (by decide)
    refine wpAny_pyNext_zipD2_item S (Draws.list hh i1 a hne its.toArray) (Draws.text hh i2 x t) hz hTI hTO ⟨h1, p.isList⟩ h2 (by rw [List.size_toArray]; exact (List.getElem?_eq_some_iff.mp hu).1) (Array.getElem?_eq_some_iff.mp hy).1 fun u1 u2 h' tk q1 q2 z' TO' st1 st2 hT hsz hk => ?_
    have q1 : its.toArray[i]? = some u1 := q1
    rw [List.getElem?_toArray, hu] at q1
    cases q1
    obtain ⟨c1, t1, q3, rfl⟩ := q2
    rw [hy] at q3
    cases q3
    refine ⟨_, rfl, wpAny_letOwnedTupleGo_zip (s := { s with heap := h', toks := tk }) z' fun h'' z'' sb => ?_⟩
    have hT2 : h''.get? s.heap.objs.size = some { cls := .type "tuple", data := .seq #[u, .str ⟨#[c0]⟩ t1] } := (sb.2 _ (Nat.ne_of_gt hzl)).trans hT
    have new : ObjOk X.prog X.w (upd H s.heap.objs.size (.tup [v, .str ⟨#[c0]⟩])) h'' s.heap.objs.size (.tup [v, .str ⟨#[c0]⟩]) :=
      ⟨by show 2 ≤ sizeLine; decide, [u, .str ⟨#[c0]⟩ t1], .cons ru (.cons ⟨t1, rfl⟩ .nil), ⟨_, hT2, rfl, _, rfl⟩⟩
    have I1 : Inv X pins σ (upd H s.heap.objs.size (.tup [v, .str ⟨#[c0]⟩])) { s with heap := h'', toks := tk } :=
      I.turnedNew (t' := tk) (ch := [z, TI, TO, i1, i2]) (fun c o hb q => (sb.2 c (fun q' => hb (by simp [q']))).trans (hk c o (fun q' => hb (by simp [q'])) (fun q' => hb (by simp [q'])) (fun q' => hb (by simp [q'])) (fun q' => hb (by simp [q'])) q)) hf (Nat.le_refl _) new
    refine ⟨.ref s.heap.objs.size, _, I1, rfl, ⟨_, v, c0, rfl, I.hok.fresh (Nat.le_refl _), rfl, fun l hl => by rw [I.list_inj hl hqx]; exact hx, hy⟩, ⟨z'', ?_, ⟨u, .str ⟨#[c0]⟩ t1, ?_⟩, ?_, ?_⟩, fun c hcm => ?_⟩
    · exact (sb.2 _ S.TIz).trans (hk _ _ S.TIz S.TITO S.TIi1 S.TIi2 hTI)
    · exact (sb.2 _ S.TOz).trans TO'
    · exact st1.1.at fun o q => (sb.2 _ (Ne.symm S.zi1)).trans q
    · obtain ⟨o2, e2, r2⟩ := st2
      exact ⟨o2, (sb.2 _ (Ne.symm S.zi2)).trans e2, r2⟩
    · have hlt : c < s.heap.objs.size := by
        have e' : c = z ∨ c = TI ∨ c = TO ∨ c = i1 ∨ c = i2 := by simpa using hcm
        rcases e' with q | q | q | q | q
        · rw [q]; exact hzl
        · rw [q]; exact Heap.lt_size hTI
        · rw [q]; exact Heap.lt_size hTO
        · rw [q]; obtain ⟨_, e1, _⟩ := h1; exact Heap.lt_size e1
        · rw [q]; obtain ⟨_, e2, _⟩ := h2; exact Heap.lt_size e2
      rw [upd_ne (Nat.ne_of_lt hlt)]
      exact (hf c hcm).1
  done := by
    intro X hP hw hK hc i pins s σ H E I hf st hg
    subst hP hw hK
    obtain ⟨hz, hTI, ⟨x0, y0, hTO⟩, h1, h2⟩ := st
    obtain ⟨xs, hqx, hl1, hl2, hend⟩ := hg
    obtain ⟨its, rv, p, _⟩ := I.list hqx
    have l1 := rv.length
    have hh : X.A.in1.handled = none := I.ok.hd hc
    have hne : a ≠ i1 := fun e => by
      obtain ⟨ol, hol, hcl, _⟩ := p.isList
      obtain ⟨oi, hoi, hci, _⟩ := h1
      rw [e, hoi] at hol
      cases hol
      rw [hci] at hcl
      exact absurd (Value.type.inj hcl) (by decide)
    exact wpAny_pyNext_zipD2_end S (Draws.list hh i1 a hne its.toArray) (Draws.text hh i2 x t) hz hTI hTO ⟨h1, p.isList⟩ h2 (by rw [List.size_toArray]; omega) hl2 (by rw [List.size_toArray]; omega) fun h' tk hk => ⟨rfl, I.turnedL (t' := tk) (ch := [z, TI, TO, i1, i2]) (fun c o hb q =>
      hk c o (fun q' => hb (by simp [q'])) (fun q' => hb (by simp [q'])) (fun q' => hb (by simp [q'])) (fun q' => hb (by simp [q'])) q) hf⟩
  self := fun A i s Q E st h => wpAny_pyIter_zip st.1 h
def iZipx (K : PySem.W.Frag) (ta : TA) : TI := fun σ H R => ta σ H fun vs H1 => ∃ a z xs, vs = [.ref a, .str z] ∧ SqL K H1 a xs ∧ R (Itzx K a z) H1
theorem neA {a b : Nat} (h : a ≠ b) : (a : Addr) ≠ b := h
theorem pi_zipx {X : Cx} {e e2 : Expr} {ta : TA} {p pos tpos : Pos} {elts : List Expr} {kk : Nat} (hg : Gl X "zip") (hm : X.mg "zip" = none) (ha : PA X [e, e2] ta)
    (hs : starEach [e, e2] X.env = (false, eval e X.env) :: starEach [e2] X.env := by rfl) (hpl : (backTo pos (starEach [e2] X.env)).any (·.1) = false := by rfl) :
    PI X (.Tuple elts kk tpos) (.Call (.Name "zip" p) [e, e2] [] pos) (iZipx X.K ta) := by
  refine ⟨fun pins s σ H R I h => ?_⟩
  refine Call_ (ld_blt I hg hm PyProof.Rows.boot_zip (PyProof.Rows.callWith_type1 (thn (ha.run pos pins s σ H _ I h) fun us s1 ⟨vs, H1, I1, r1, q1⟩ => ?_) hs hpl))
  obtain ⟨a, x, xs, ex, hqx, q⟩ := q1
  subst ex
  cases r1 with
  | cons r rr =>
    cases rr with
    | cons r' rr =>
      cases rr
      cases r
      obtain ⟨t, rfl⟩ := r'
      obtain ⟨its, rv, p1, _⟩ := I1.list hqx
      have la : a < s1.heap.objs.size := p1.lt
      refine zip_begins2 (begins_list a its.toArray) (begins_text x t) p1.isList trivial fun h' hz hTI hTO h1 h2 hsz hk => wpAny_pyIter_zip hz ?_
      have I2 : Inv X pins σ H1 { s1 with heap := h' } := I1.kept (t' := s1.toks) hk
      have S : ZipSep2 (s1.heap.objs.size + 4) (s1.heap.objs.size + 2) (s1.heap.objs.size + 3) s1.heap.objs.size (s1.heap.objs.size + 1) [s1.heap.objs.size, a] [s1.heap.objs.size + 1] := by
        have D := PySem.W.ktu_apart s1.heap.objs.size a a la la
        refine ⟨D.TIz, D.TOz, D.TITO, D.TIi1, by simp, ?_, ?_, D.TIi2, by simp, ?_, ?_, ?_, ?_⟩
        · simp only [List.mem_cons, List.not_mem_nil, or_false, not_or]
          exact ⟨Ne.symm D.i1z, Ne.symm D.l1z⟩
        · simp only [List.mem_cons, List.not_mem_nil, or_false, not_or]
          exact ⟨D.TOi1, Ne.symm D.l1TO⟩
        · simp only [List.mem_cons, List.not_mem_nil, or_false]
          exact Ne.symm D.i2z
        · simp only [List.mem_cons, List.not_mem_nil, or_false]
          exact D.TOi2
        · simp only [List.mem_cons, List.not_mem_nil, or_false]
          exact D.i12
        · simp only [List.mem_cons, List.not_mem_nil, or_false, not_or]
          exact ⟨Ne.symm D.i12, Ne.symm D.l1i2⟩
      refine ⟨s1.heap.objs.size + 4, [s1.heap.objs.size + 4, s1.heap.objs.size + 2, s1.heap.objs.size + 3, s1.heap.objs.size, s1.heap.objs.size + 1], _, _, H1, rfl, I2, turn_zipx (x := x) (t := t) S, ⟨hz, hTI, ⟨_, _, hTO⟩, ⟨_, h1, rfl, rfl⟩, ⟨_, h2, rfl, rfl⟩⟩, fun c hcm => ?_, q⟩
      have e' : c = s1.heap.objs.size + 4 ∨ c = s1.heap.objs.size + 2 ∨ c = s1.heap.objs.size + 3 ∨ c = s1.heap.objs.size ∨ c = s1.heap.objs.size + 1 := by simpa using hcm
      have hle : s1.heap.objs.size ≤ c := by
        rcases e' with z | z | z | z | z
        · rw [z]; exact Nat.le_add_right _ _
        · rw [z]; exact Nat.le_add_right _ _
        · rw [z]; exact Nat.le_add_right _ _
        · rw [z]; exact Nat.le_refl _
        · rw [z]; exact Nat.le_add_right _ _
      exact I1.fpOk hle (I1.hok.fresh hle)
theorem walk_zipx {K : PySem.W.Frag} {a : Addr} {x : Str} {xs : List V} {n : Nat} (hn : n = min xs.length x.cps.size) : Walk (Itzx K a x) n (fun H => SqL K H a xs) (YPair (fun i => xs[i]?) (fun i => (x.cps[i]?).map fun c => V.str ⟨#[c]⟩)) := by
  refine ⟨fun i H hi h => ?_, fun H h => ?_, fun i H v H' hi h y => ?_⟩
  · exact ⟨xs, xs[i]'(by omega), x.cps[i]'(by omega), h, by simp, by simp⟩
  · exact ⟨xs, h, by omega, by omega, by omega⟩
  · obtain ⟨T, y, c, rfl, hT, rfl, h1, h2⟩ := y
    exact ⟨T, y, _, rfl, hT, rfl, h1 xs h, by show (x.cps[i]?).map _ = _; rw [h2]; rfl⟩
theorem wi_zipx {K : PySem.W.Frag} {σ : L2.St} {H : Hp} {ta : TA} {a : Addr} {x : Str} {xs : List V} {n : Nat} (h : EvA ta σ H [.ref a, .str x]) (hx : SqL K H a xs) (hn : n = min xs.length x.cps.size) : WI (iZipx K ta) σ H n (YPair (fun i => xs[i]?) (fun i => (x.cps[i]?).map fun c => V.str ⟨#[c]⟩)) :=
  ⟨fun H1 e R k => h H1 e _ fun H2 e2 => ⟨a, x, xs, rfl, ex_l (e.trans e2) hx, k _ _ H2 e2 (walk_zipx hn) fun H3 e3 => ex_l ((e.trans e2).trans e3) hx⟩⟩
end Gw

namespace Gw
open PySem PySem.Spec PyProof.Rows L2 Evl
def rNotC : R2 := fun x y H Q => ∃ (c : Nat) (z : Str), x = .str ⟨#[c]⟩ ∧ y = .str z ∧ Q (.bl (!decide (c ∈ z.cps.toList))) H
theorem op_notC {X : Cx} : OpR X (compareOp .NotIn) rNotC := op_notIn_sign
theorem ev_notC {σ : L2.St} {H : Hp} {ta tb : TE} {n : Nat} {l : GRow} (ha : Ev ta σ H (.str (sg n))) (hb : Ev tb σ H (.str (enc l))) : Ev (tOp rNotC ta tb) σ H (.bl (!decide (n ∈ l))) := ev_op ha hb fun H1 _ Q q => ⟨97 + n, enc l, rfl, rfl, by
  have e : decide (97 + n ∈ (enc l).cps.toList) = decide (n ∈ l) := decide_eq_decide.mpr mem_enc
  rw [e]
  exact q H1 (Ex.refl H1)⟩
theorem ev_inE {σ : L2.St} {H : Hp} {ta tb : TE} {n : Nat} {l : GRow} (ha : Ev ta σ H (.str (enc [n]))) (hb : Ev tb σ H (.str (enc l))) : Ev (tOp rInC ta tb) σ H (.bl (decide (n ∈ l))) := ev_inC ha hb
theorem one_row {k n : Nat} (h : n < k) : RowOk k [n] := fun m hm => by
  rw [List.mem_singleton.mp hm]
  exact h
section
variable {P : Program} {w : World} {K : PySem.W.Frag} {mg : Str → Option Value} {base : Heap}
theorem sc_asked_letter : FnScope ["rules", "letter"] ["rules", "letter"] (defScope sAsked_letter) := ⟨rfl, rfl, rfl, by decide +kernel, rfl, by decide +kernel, by decide +kernel⟩
def preAskLetter (K : PySem.W.Frag) : List V → Hp → V → Prop := fun vs H v => ∃ a R n, vs = [.ref a, .str (sg n)] ∧ RAt K H a R ∧ n < R.length ∧ v = .non
theorem ok_asked_letter (X : T K mg) : C8.Cal P w K mg base 2 "asked_letter" (spV (preAskLetter K)) [] := by
  refine cal_of X.d_asked_letter sc_asked_letter (fun _ _ _ _ _ _ us hl => match us, hl with | [_, _], _ => rfl) (fun vs H Q E h => ?_) (fun f cdv A outer s H vs Q E hr h => ?_)
  · obtain ⟨v, ⟨a, R, n, rfl, _⟩, _⟩ := h
    rfl
  · obtain ⟨v, ⟨a, R, n, rfl, hR, hn, rfl⟩, k⟩ := h
    refine ⟨_, pss_one (ps_if (PW.pt (pw_or (pt_not (pt_val (C8.pe_c (ok_is_row X) hr (by decide) rfl (pa_cons (pv 0) (pa_cons (pv 1) pa_nil))))) (pw_or1 (pt_cmpR op_ne (pe_lenT X.z_len (pv 1)) pe_int (nomark _))))) pss_never pss_nil), ?_⟩
    have hl : isLet (RL R).length (sg n) = true := by
      rw [RL_len]
      exact isLet_enc (l := [n]) (one_row hn)
    refine s_no (et_is (et_or (et_not (et_B (ev_spV (v := .bl true) (ea_two (ev_var rfl) (ev_var rfl)) fun H3 e3 => ⟨a, RL R, sg n, rfl, ex_l e3 hR.at_, by rw [RL_len]; exact hR.ok.few, by show 1 ≤ sizeLine; decide, by rw [hl]⟩))) fun _ => et_test (ev_op (x := .int 1) (ev_lenE (l := [n]) (ev_var rfl) (by show 1 ≤ sizeLine; decide)) ev_c (rv_ne rfl))) (by simp)) k
/-! ### Times -/
def timesB (R : GRules) (m : Int) (y z : Nat) : Bool := (decide (0 ≤ m) && decide (m ≤ (R.length : Int))) && decide (z ∈ grow R m.toNat [y])
def preTimes (K : PySem.W.Frag) : List V → Hp → V → Prop := fun vs H v => ∃ x dx a R y z, ∃ m : Int, vs = [.ref x, .ref a, .str (sg y), .str (sg z)] ∧ H x = some (.ins (He.ga K "Times") dx [("many", .int m)]) ∧ RAt K H a R ∧ y < R.length ∧ z < R.length ∧ v = .bl (timesB R m y z)
theorem sc_timesI : FnScope ["self", "many"] ["self", "many"] (defScope sTimes_init) := ⟨rfl, rfl, rfl, by decide +kernel, rfl, by decide +kernel, by decide +kernel⟩
theorem ok_timesI (X : T K mg) : C8.Mak P w K mg base 1 "Times" (He.ga K "Times") (spInit (He.ga K "Times") "many") [] := by
  refine mak_of X.i_Times sc_timesI (fun _ _ _ _ _ _ us hl => match us, hl with | [_, _], _ => rfl) (fun vs H Q E h => ?_) (fun f cdv A outer s H vs Q E hr h => ?_)
  · obtain ⟨a, dx, y, rfl, _⟩ := h
    rfl
  · obtain ⟨a, dx, y, rfl, hi, q⟩ := h
    refine ⟨_, pss_one (ps_fld (pv 0) (pv 1) rfl), ?_⟩
    exact ⟨y, rfl, .ref a, rfl, a, _, dx, [], rfl, hi, X.o_Times.cl, X.n_Times, by decide, q⟩
abbrev nTm : List Str := ["self", "rules", "one", "other", "now", "many", "letter"]
theorem sc_timesS : FnScope nTm ["self", "rules", "one", "other"] (defScope sTimes_shows) := ⟨rfl, rfl, rfl, by decide +kernel, rfl, by decide +kernel, by decide +kernel⟩
abbrev tTmEl : TE := tAndV (tOp (rI0 fun i j => .bl (decide (j < i))) (tVar 5) (tC (.int 0))) (tOp rEq (tVar 6) (tVar 3))
theorem ok_timesS (X : T K mg) : C8.Met P w K mg base 3 (He.ga K "Times") "shows" (spV (preTimes K)) [] := by
  refine met_of X.o_Times.cl X.m_Times_shows sc_timesS (fun _ _ _ _ _ _ us hl => match us, hl with | [_, _, _, _], _ => rfl) (fun vs H Q E h => ?_) (fun f cdv A outer s H vs Q E hr h => ?_)
  · obtain ⟨v, ⟨x, dx, a, R, y, z, m, rfl, _⟩, _⟩ := h
    rfl
  · obtain ⟨v, ⟨x, dx, a, R, y, z, m, rfl, hi, hR, hy, hz, rfl⟩, k⟩ := h
    have nd := sc_timesS.nd
    refine ⟨_, (pss_cons (ps_if (pt_not (pt_chain op_le op_le pe_int (pe_fld (pv 0) rfl) (pe_len X.z_len (pv 1)))) (pss_one (ps_ret pe_bl)) pss_nil)
      (pss_cons (ps_set (i := 4) nd rfl (Or.inl rfl) (C8.pe_c (ok_gc X) hr (by decide) rfl (pa_cons (pv 1) (pa_cons (C8.pe_c (ok_counted X) hr (by decide) rfl (pa_cons (pv 1) (pa_cons (pv 2) pa_nil))) (pa_cons (pe_fld (pv 0) rfl) pa_nil)))))
      (pss_one (ps_ret (pe_any rfl X.z_any (pe_lc (own := [("many", 5), ("letter", 6)]) (g := gTup K 2 (gCons (gName 5) (gCons (gName 6) gNil))) (tt := tYes) (te := tTmEl) (by rfl) nd (pi_zipx (by exact rfl) X.z_zip (pa_cons (pv 4) (pa_cons (C8.pe_gc (by exact rfl) X.LETTERS) pa_nil))) (blkOk_by (N := nTm) (sc := defScope sTimes_shows) (by decide +kernel))
          (fun _ _ _ _ _ => pg_tup rfl (pgs_cons (pg_name (i := 5) nd rfl (Or.inl rfl)) (pgs_cons (pg_name (i := 6) nd rfl (Or.inl rfl)) pgs_nil))) (fun _ _ _ _ _ => pts_nil)
          (fun _ _ _ _ _ => pe_and (pe_cmpR op_gt (pv 5) pe_int (nomark _)) (pe_one (pe_cmpR op_eq (pv 6) (pv 3) (nomark _)))))))))), ?_⟩
    have ok := hR.ok
    have h26 := ok.few
    have fld : ∀ {H' : Hp} {σ : L2.St}, σ[0]? = some (some (.ref x)) → Ex H H' → Ev (tFld K (tVar 0) "many") σ H' (.int m) := fun h e => ev_fld (ev_var h) (e _ _ hi) X.o_Times.cl X.n_Times rfl
    have lenR : ∀ {σ : L2.St} {H' : Hp}, σ[1]? = some (some (.ref a)) → Ex H H' → Ev (tLen K (tVar 1)) σ H' (.int (R.length : Int)) := fun h e => ev_is (ev_len (ev_var h) (hR.ex e).at_) (by rw [RL_len])
    by_cases hm : 0 ≤ m ∧ m ≤ (R.length : Int)
    · refine q_skip (et_is (et_not (et_test (ev_chain ev_c (fld rfl (Ex.refl _)) (fun _ => lenR rfl (Ex.refl _)) rv_I0 fun _ => rv_I0))) (by simp [hm.1, hm.2])) fun H1 e1 => ?_
      obtain ⟨mn, rfl⟩ : ∃ mn : Nat, m = (mn : Int) := ⟨m.toNat, by omega⟩
      refine q_asgL (xs := (counted R.length (grow R mn [y])).map V.int) ?_ fun p H2 hp e2 h2 => ?_
      · rw [← gcs_counted ok mn (one_row hy)]
        exact el_spQ (ys := (counted R.length [y]).map V.int) (ev_var rfl) (el_spL (ea_two (ev_var rfl) (ev_var rfl)) fun H4 e4 => ⟨a, RL R, [y], rfl, ex_l (e1.trans e4) hR.at_, by rw [RL_len]; exact h26, by rw [RL_len]⟩) (fld rfl e1) fun b H4 e4 hb =>
          ⟨a, R, counted R.length [y], mn, rfl, hR.ex (e1.trans e4), hb, counted_length _ _, by omega, rfl⟩
      · have e12 := e1.trans e2
        have cl : (counted R.length (grow R mn [y])).length = R.length := counted_length _ _
        have hL : EvL (tLc (iZipx K (tCons (tVar 4) (tCons (tC (.str ALPH)) tNil))) (gTup K 2 (gCons (gName 5) (gCons (gName 6) gNil))) tYes tTmEl [5, 6]) ([some (.ref x), some (.ref a), some (.str (sg y)), some (.str (sg z)), some (.ref p), none, none] : L2.St) H2 (((List.range R.length).map fun i => decide (0 < (grow R mn [y]).count i) && decide (i = z)).map V.bl) := by
          rw [List.map_map]
          have e26 : ALPH.cps.size = 26 := alph_len
          refine el_any (wi_zipx (ea_two (ev_var rfl) ev_c) (sq_of h2) (by rw [List.length_map, cl, e26]; omega)) _ (Nat.lt_of_le_of_lt h26 (by decide)) fun i v H3 H4 hi' e3 Y Q kk => ?_
          obtain ⟨T, u, v, rfl, hT, rfl, hu, hv⟩ := Y
          have hu : ((counted R.length (grow R mn [y])).map V.int)[i]? = some u := hu
          rw [List.getElem?_map, counted_get hi'] at hu
          cases hu
          have hv : (ALPH.cps[i]?).map (fun c => V.str ⟨#[c]⟩) = some v := hv
          have hc : ALPH.cps[i]? = some (97 + i) := by
            rw [← Array.getElem?_toList]
            exact cd_range_get (Nat.lt_of_lt_of_le hi' h26)
          rw [hc] at hv
          cases hv
          refine ⟨T, _, rfl, st_of upd_same, rfl, _, _, rfl, _, _, rfl, rfl, kk _ _ rfl (Ex.new hT) ?_⟩
          refine ev_is (ev_andV (a := decide (0 < (grow R mn [y]).count i)) (ev_is (ev_op (ev_var rfl) ev_c rv_I0) (by simp)) fun _ => ev_op (ev_var rfl) (ev_var rfl) (rv_eq rfl)) ?_
          have : decide (V.str (⟨#[97 + i]⟩ : Str) = V.str (sg z)) = decide (i = z) := by
            by_cases h : i = z
            · rw [h]
              simp [sg]
            · have : ¬ V.str (⟨#[97 + i]⟩ : Str) = V.str (sg z) := fun e => h (sg_inj (V.str.inj e))
              rw [decide_eq_false this, decide_eq_false h]
          rw [this]
          rfl
        refine s_ret (ev_is (ev_anyN hL) ?_) fun H3 e3 => k H3 (e12.trans e3)
        have : ((List.range R.length).map fun i => decide (0 < (grow R mn [y]).count i) && decide (i = z)).any id = decide (z ∈ grow R mn [y]) := by
          rw [List.any_map, Bool.eq_iff_iff, List.any_eq_true, decide_eq_true_eq]
          constructor
          · rintro ⟨i, hi', h⟩
            simp only [Function.comp, id, Bool.and_eq_true, decide_eq_true_eq] at h
            obtain ⟨h1, rfl⟩ := h
            exact List.count_pos_iff.mp h1
          · intro h
            refine ⟨z, List.mem_range.mpr hz, ?_⟩
            simp only [Function.comp, id, Bool.and_eq_true, decide_eq_true_eq]
            exact ⟨List.count_pos_iff.mpr h, trivial⟩
        rw [this]
        unfold timesB
        simp [hm.1, hm.2]
    · refine q_when (b := true) (et_is (et_not (et_test (ev_chain ev_c (fld rfl (Ex.refl _)) (fun _ => lenR rfl (Ex.refl _)) rv_I0 fun _ => rv_I0))) (by simp; omega)) (fun _ H1 e1 => ?_) fun hb => absurd hb (by decide)
      refine s_ret (ev_is (v := .bl false) ev_c ?_) fun H3 e3 => k H3 (e1.trans e3)
      unfold timesB
      have : (decide (0 ≤ m) && decide (m ≤ (R.length : Int))) = false := by simp; omega
      rw [this]
      rfl
/-! ### Shut -/
def shutB (R : GRules) (l : GRow) (y z : Nat) : Bool := ((isLet R.length (enc l) && decide (y ∈ l)) && !decide (z ∈ l)) && (once R l).all fun m => decide (m ∈ l)
def preShut (K : PySem.W.Frag) : List V → Hp → V → Prop := fun vs H v => ∃ x dx a R l y z, vs = [.ref x, .ref a, .str (sg y), .str (sg z)] ∧ H x = some (.ins (He.ga K "Shut") dx [("letters", .str (enc l))]) ∧ RAt K H a R ∧ l.length ≤ 100 ∧ v = .bl (shutB R l y z)
theorem sc_shutI : FnScope ["self", "letters"] ["self", "letters"] (defScope sShut_init) := ⟨rfl, rfl, rfl, by decide +kernel, rfl, by decide +kernel, by decide +kernel⟩
theorem ok_shutI (X : T K mg) : C8.Mak P w K mg base 1 "Shut" (He.ga K "Shut") (spInit (He.ga K "Shut") "letters") [] := by
  refine mak_of X.i_Shut sc_shutI (fun _ _ _ _ _ _ us hl => match us, hl with | [_, _], _ => rfl) (fun vs H Q E h => ?_) (fun f cdv A outer s H vs Q E hr h => ?_)
  · obtain ⟨a, dx, y, rfl, _⟩ := h
    rfl
  · obtain ⟨a, dx, y, rfl, hi, q⟩ := h
    refine ⟨_, pss_one (ps_fld (pv 0) (pv 1) rfl), ?_⟩
    exact ⟨y, rfl, .ref a, rfl, a, _, dx, [], rfl, hi, X.o_Shut.cl, X.n_Shut, by decide, q⟩
abbrev nSh : List Str := ["self", "rules", "one", "other", "letter"]
theorem sc_shutS : FnScope nSh ["self", "rules", "one", "other"] (defScope sShut_shows) := ⟨rfl, rfl, rfl, by decide +kernel, rfl, by decide +kernel, by decide +kernel⟩
theorem ok_shutS (X : T K mg) : C8.Met P w K mg base 2 (He.ga K "Shut") "shows" (spV (preShut K)) [] := by
  refine met_of X.o_Shut.cl X.m_Shut_shows sc_shutS (fun _ _ _ _ _ _ us hl => match us, hl with | [_, _, _, _], _ => rfl) (fun vs H Q E h => ?_) (fun f cdv A outer s H vs Q E hr h => ?_)
  · obtain ⟨v, ⟨x, dx, a, R, l, y, z, rfl, _⟩, _⟩ := h
    rfl
  · obtain ⟨v, ⟨x, dx, a, R, l, y, z, rfl, hi, hR, hl, rfl⟩, k⟩ := h
    have nd := sc_shutS.nd
    refine ⟨_, (pss_cons (ps_if (PW.pt (pw_or (pt_not (pt_val (C8.pe_c (ok_is_row X) hr (by decide) rfl (pa_cons (pv 1) (pa_cons (pe_fld (pv 0) rfl) pa_nil))))) (pw_or (pt_cmpR op_notC (pv 2) (pe_fld (pv 0) rfl) (by rfl)) (pw_or1 (pt_cmpR op_in_sign (pv 3) (pe_fld (pv 0) rfl) (by rfl)))))) (pss_one (ps_ret pe_bl)) pss_nil)
      (pss_one (ps_ret (pe_all rfl X.z_all (pe_lc (own := [("letter", 4)]) (g := gName 4) (tt := tYes) (te := tOp rInC (tVar 4) (tFld K (tVar 0) "letters")) (by rfl) nd (pi_str (C8.pe_c (ok_once X) hr (by decide) rfl (pa_cons (pv 1) (pa_cons (pe_fld (pv 0) rfl) pa_nil)))) (blkOk_by (N := nSh) (sc := defScope sShut_shows) (by decide +kernel))
          (fun _ _ _ _ _ => pg_name (i := 4) nd rfl (Or.inl rfl)) (fun _ _ _ _ _ => pts_nil)
          (fun _ _ _ _ _ => pe_cmpR op_in_sign (pv 4) (pe_fld (pv 0) (by exact rfl)) (by rfl))))))), ?_⟩
    have ok := hR.ok
    have h26 := ok.few
    have fld : ∀ {H' : Hp} {σ : L2.St}, σ[0]? = some (some (.ref x)) → Ex H H' → Ev (tFld K (tVar 0) "letters") σ H' (.str (enc l)) := fun h e => ev_fld (ev_var h) (e _ _ hi) X.o_Shut.cl X.n_Shut rfl
    have hc := et_or (et_not (et_B (ev_spV (E := E0) (v := .bl (isLet R.length (enc l))) (pre := preIsRow K) (ea_two (ev_var (σ := ([some (.ref x), some (.ref a), some (.str (sg y)), some (.str (sg z)), none] : L2.St)) (i := 1) rfl) (fld rfl (Ex.refl H))) fun H3 e3 => ⟨a, RL R, enc l, rfl, ex_l e3 hR.at_, by rw [RL_len]; exact h26, by rw [enc_len]; exact Nat.le_trans hl (by decide), by rw [RL_len]⟩))) fun _ => et_or (et_test (ev_notC (ev_var (i := 2) rfl) (fld rfl (Ex.refl H)))) fun _ => et_test (ev_inC (ev_var (i := 3) rfl) (fld rfl (Ex.refl H)))
    by_cases hb : ((isLet R.length (enc l) && decide (y ∈ l)) && !decide (z ∈ l)) = true
    · refine q_skip (et_is hc (by
        cases h1 : isLet R.length (enc l) <;> cases h2 : decide (y ∈ l) <;> cases h3 : decide (z ∈ l) <;> rw [h1, h2, h3] at hb <;> first | rfl | cases hb)) fun H1 e1 => ?_
      have hrow : RowOk R.length l := by
        simp only [Bool.and_eq_true] at hb
        exact isLet_iff.mp hb.1.1
      have oz : (once R l).length ≤ 16777216 := Nat.le_trans (once_bound hR.sz l) (Nat.le_trans (Nat.mul_le_mul_right _ hl) (by decide))
      have hL : EvL (tLc (iStr (tCall (spV (preOnce K)) [] E0 (tCons (tVar 1) (tCons (tFld K (tVar 0) "letters") tNil)))) (gName 4) tYes (tOp rInC (tVar 4) (tFld K (tVar 0) "letters")) [4]) ([some (.ref x), some (.ref a), some (.str (sg y)), some (.str (sg z)), none] : L2.St) H1 (((once R l).map fun m => decide (m ∈ l)).map V.bl) := by
        rw [List.map_map]
        refine el_str (K := K) (l := once R l) (ev_spV (ea_two (ev_var rfl) (fld rfl e1)) fun H2 e2 => ⟨a, R, l, rfl, (hR.ex (e1.trans e2)).at_, h26, hrow, Nat.lt_of_le_of_lt hl (by decide), oz, rfl⟩) _ (Nat.lt_of_le_of_lt (once_bound hR.sz l) (Nat.lt_of_le_of_lt (Nat.mul_le_mul_right _ hl) (by decide))) (fun _ => rfl) fun n hn H5 e5 => ?_
        exact ev_inC (ev_var rfl) (fld rfl (e1.trans e5))
      refine s_ret (ev_is (ev_allN hL) ?_) fun H2 e2 => k H2 (e1.trans e2)
      unfold shutB
      rw [hb, List.all_map]
      rfl
    · refine q_when (b := true) (et_is hc (by
        have hb' : ((isLet R.length (enc l) && decide (y ∈ l)) && !decide (z ∈ l)) = false := by simpa using hb
        cases h1 : isLet R.length (enc l) <;> cases h2 : decide (y ∈ l) <;> cases h3 : decide (z ∈ l) <;> rw [h1, h2, h3] at hb' <;> first | rfl | cases hb')) (fun _ H1 e1 => ?_) fun hb => absurd hb (by decide)
      refine s_ret (ev_is (v := .bl false) ev_c ?_) fun H3 e3 => k H3 (e1.trans e3)
      unfold shutB
      have hb' : ((isLet R.length (enc l) && decide (y ∈ l)) && !decide (z ∈ l)) = false := by simpa using hb
      rw [hb']
      rfl
end
end Gw

namespace Gw
open PySem PySem.Spec PyProof.Rows L2 Evl
section
variable {P : Program} {w : World} {K : PySem.W.Frag} {mg : Str → Option Value} {base : Heap}
/-! ### is_number, is_row, of things of any kind -/
def preIsNumberX (K : PySem.W.Frag) : List V → Hp → V → Prop := fun vs H v => ∃ y, ∃ j : Int, vs = [y, .int j] ∧ AnyN K H y ∧ v = .bl (numB j y)
theorem ox_is_number (X : T K mg) : C8.Cal P w K mg base 1 "is_number" (spV (preIsNumberX K)) [] := by
  refine cal_of X.d_is_number sc_is_number (fun _ _ _ _ _ _ us hl => match us, hl with | [_, _], _ => rfl) (fun vs H Q E h => ?_) (fun f cdv A outer s H vs Q E hr h => ?_)
  · obtain ⟨v, ⟨i, j, rfl, _⟩, _⟩ := h
    rfl
  · obtain ⟨v, ⟨y, j, rfl, hy, rfl⟩, k⟩ := h
    refine ⟨_, pss_one (ps_ret (pe_and (pe_isi X.z_isinstance X.z_int boot_int (pv 0)) (pe_and (pe_not (pe_isi X.z_isinstance X.z_bool boot_bool (pv 0))) (pe_one (pe_cmpR op_ge (pv 0) (pv 1) (nomark _)))))), ?_⟩
    rcases hy with ⟨i, rfl⟩ | ⟨b, rfl⟩ | ⟨⟨S, ht, hk⟩, hn⟩
    · refine s_ret (ev_is (ev_andV (ev_isT (ev_var rfl) (.base (.int i)) isi_ii) fun _ => ev_andV (ev_notV (ev_isT (ev_var rfl) (.base (.int i)) isi_ib)) fun _ => ev_op (ev_var rfl) (ev_var rfl) rv_I0) ?_) k
      simp [numB]
    · refine s_ret (ev_is (ev_andV (b := false) (ev_isT (ev_var rfl) (.base (.bl b)) isi_nx.2.2.2.2) fun _ => ev_is (ev_andV (b := false) (ev_notV (ev_isT (ev_var rfl) (.base (.bl b)) isi_bb)) fun h => Bool.noConfusion h) rfl) ?_) k
      simp [numB]
    · refine s_ret (ev_is (ev_andV (b := false) (ev_isT (ev_var rfl) ht hk) fun h => Bool.noConfusion h) ?_) k
      rw [hn]
      rfl
def preIsRowX (K : PySem.W.Frag) : List V → Hp → V → Prop := fun vs H v => ∃ a xs y, vs = [.ref a, y] ∧ SqL K H a xs ∧ xs.length ≤ 26 ∧ AnyR K H y ∧ v = .bl (rowB xs.length y)
theorem ox_is_row (X : T K mg) : C8.Cal P w K mg base 1 "is_row" (spV (preIsRowX K)) [] := by
  refine cal_of X.d_is_row sc_is_row (fun _ _ _ _ _ _ us hl => match us, hl with | [_, _], _ => rfl) (fun vs H Q E h => ?_) (fun f cdv A outer s H vs Q E hr h => ?_)
  · obtain ⟨v, ⟨a, xs, z, rfl, _⟩, _⟩ := h
    rfl
  · obtain ⟨v, ⟨a, xs, y, rfl, hx, h26, hy, rfl⟩, k⟩ := h
    refine ⟨_, pss_one (ps_ret (pe_and (pe_isi X.z_isinstance X.z_str boot_str (pv 1)) (pe_one (pe_cmpR op_eq (pe_strip1 (pv 1) (pe_slice sl_str (C8.pe_gc (by exact rfl) X.LETTERS) po_none (po_some (pe_len X.z_len (pv 0))))) pe_str (nomark _))))), ?_⟩
    rcases hy with ⟨z, rfl, hz⟩ | ⟨⟨S, ht, hk⟩, hn⟩
    · refine s_ret (ev_is (ev_andV (ev_isT (ev_var rfl) (.base (.str z)) isi_ss) fun _ => ev_eqS _ (ev_strip (ev_var rfl) (ev_alphCut ev_c (eo_some (ev_len (ev_var rfl) hx)) h26) hz) ev_c) ?_) k
      rw [strip_eq]
      rfl
    · refine s_ret (ev_is (ev_andV (b := false) (ev_isT (ev_var rfl) ht hk) fun h => Bool.noConfusion h) ?_) k
      rw [hn]
      rfl
/-! ### what is asked -/
def goodRules (K : PySem.W.Frag) : List V → Hp → Prop := fun vs H => ∃ a R, vs = [.ref a] ∧ RAt K H a R
def badRules (K : PySem.W.Frag) : List V → Hp → Addr → Prop := fun vs H C => ∃ v, vs = [v] ∧ BadR K H v ∧ C = He.ga K "BadRules"
theorem ox_asked_rules (X : T K mg) : CalX P w K mg base 2 "asked_rules" (spM (goodRules K) (badRules K)) := by
  refine calx_of X.d_asked_rules sc_asked_rules (fun _ _ _ _ _ _ us hl => match us, hl with | [_], _ => rfl) (fun vs H Q E h => ?_) (fun f cdv A outer s H vs Q E hr h tk => ?_)
  · rcases h with ⟨⟨a, R, rfl, _⟩, _⟩ | ⟨C, ⟨v, rfl, _⟩, _⟩ <;> rfl
  · refine ⟨_, (pss_cons (ps_if (PW.pt (pw_or (pt_not (pt_val (pe_isi X.z_isinstance X.z_list boot_list (pv 0)))) (pw_or1 (pt_not (pt_chain op_le op_le pe_int (pe_len X.z_len (pv 0)) (pe_lenT X.z_len (C8.pe_gc (by exact rfl) X.LETTERS))))))) (pss_one (ps_err X.x_BadRules rfl tk (by exact rfl))) pss_nil)
      (pss_one (ps_if (pt_not (pt_val (pe_all rfl X.z_all (pe_lc (own := [("rule", 1)]) (g := gName 1) (tt := tYes) (te := tCall (spV (preIsRowX K)) [] E0 (tCons (tVar 0) (tCons (tVar 1) tNil))) (by rfl) sc_asked_rules.nd (pi_list (pv 0)) (blkOk_by (N := ["rules", "rule"]) (sc := defScope sAsked_rules) (by decide +kernel))
        (fun _ _ _ _ _ => pg_name (i := 1) sc_asked_rules.nd rfl (Or.inl rfl)) (fun _ _ _ _ _ => pts_nil)
        (fun _ _ _ _ _ => C8.pe_c (ox_is_row X) hr (by decide) rfl (pa_cons (pv 0) (pa_cons (pv 1) pa_nil))))))) (pss_one (ps_err X.x_BadRules rfl tk (by exact rfl))) pss_nil))), ?_⟩
    -- a list: the first answer, then the second
    have first : ∀ (a : Addr) (ys : List V) (v : V), v = .ref a → SqL K H a ys → EvT (tOr (tNot (tB (tIsi K (tVar 0) "list"))) (tNot (tTest (tChain (rI0 fun i j => .bl (decide (i ≤ j))) (rI0 fun i j => .bl (decide (i ≤ j))) (tC (.int 1)) (tCB (rLenS K) (tCons (tVar 0) tNil)) (tCB rSLen (tCons (tC (.str ALPH)) tNil)))))) (L2.start ["rules", "rule"] [v]) H (!(decide ((1 : Int) ≤ (ys.length : Int)) && decide ((ys.length : Int) ≤ 26))) := by
      rintro a ys v rfl hs
      refine et_is (et_or (et_not (et_B (ev_isT (ev_var rfl) (ty_list hs) isi_ll))) fun _ => et_not (et_test (ev_chain ev_c (ev_len (ev_var rfl) hs) (fun _ => ev_lenS ev_c alph_sz) rv_I0 fun _ => rv_I0))) ?_
      rw [alph_len]
      rfl
    have second : ∀ (a : Addr) (ys : List V) (v : V) (H1 : Hp), v = .ref a → SqL K H1 a ys → ys.length ≤ 26 → (∀ y ∈ ys, AnyR K H1 y) → EvT (tNot (tB (tCB (rAll K) (tCons (tLc (iList K (tVar 0)) (gName 1) tYes (tCall (spV (preIsRowX K)) [] E0 (tCons (tVar 0) (tCons (tVar 1) tNil))) [1]) tNil)))) (L2.start ["rules", "rule"] [v]) H1 (!(ys.all (rowB ys.length))) := by
      rintro a ys v H1 rfl hs h26 hy
      have hL : EvL (tLc (iList K (tVar 0)) (gName 1) tYes (tCall (spV (preIsRowX K)) [] E0 (tCons (tVar 0) (tCons (tVar 1) tNil))) [1]) (L2.start ["rules", "rule"] [V.ref a]) H1 ((ys.map (rowB ys.length)).map V.bl) := by
        rw [List.map_map]
        refine el_list (l := ys) (u := id) (wi_list (ev_var rfl) (by rw [List.map_id]; exact hs)) _ (Nat.lt_of_le_of_lt h26 (by decide)) (fun _ => rfl) fun y hy1 H2 e2 => ?_
        exact ev_spV (ea_two (ev_var rfl) (ev_var rfl)) fun H3 e3 => ⟨a, ys, y, rfl, ex_l (e2.trans e3) hs, h26, (hy y hy1).ex (e2.trans e3), rfl⟩
      refine et_is (et_not (et_B (ev_allN hL))) ?_
      rw [List.all_map]
      rfl
    rcases h with ⟨⟨a, R, rfl, hR⟩, k⟩ | ⟨C, ⟨v, rfl, hB, rfl⟩, k⟩
    · refine q_pass (et_is (first a (RL R) _ rfl hR.at_) ?_) fun H1 e1 => ?_
      · have h1 := hR.ok.pos
        have h2 := hR.ok.few
        rw [RL_len]
        simp
        omega
      · refine s_pass (et_is (second a (RL R) _ H1 rfl (ex_l e1 hR.at_) (by rw [RL_len]; exact hR.ok.few) fun y hy => ?_) ?_) fun H2 e2 => k H2 (e1.trans e2)
        · obtain ⟨r, hr, rfl⟩ := List.mem_map.mp hy
          exact .inl ⟨enc r, rfl, by rw [enc_len]; exact Nat.le_trans (hR.sz r hr) (by decide)⟩
        · have : (RL R).all (rowB (RL R).length) = true := List.all_eq_true.mpr fun y hy => by
            obtain ⟨r, hr, rfl⟩ := List.mem_map.mp hy
            rw [RL_len]
            exact isLet_enc (hR.ok.rows r hr)
          rw [this]
          rfl
    · rcases hB with ⟨S, ht, hk⟩ | ⟨a, ys, rfl, hs, hz, hb⟩
      · refine q_err (et_is (et_or (b := false) (et_not (et_B (ev_isT (ev_var rfl) ht hk))) fun h => Bool.noConfusion h) rfl) k
      · by_cases hl : 1 ≤ ys.length ∧ ys.length ≤ 26
        · refine q_pass (et_is (first a ys _ rfl hs) (by simp; omega)) fun H1 e1 => ?_
          rcases hb with hb | hb | ⟨hb1, hb2⟩
          · omega
          · omega
          · exact s_err (et_is (second a ys _ H1 rfl (ex_l e1 hs) hl.2 fun y hy => (hb1 y hy).ex e1) (by rw [hb2]; rfl)) fun H2 e2 => k H2 (e1.trans e2)
        · refine q_err (et_is (first a ys _ rfl hs) ?_) k
          rcases Nat.lt_or_ge ys.length 1 with h | h
          · simp; omega
          · simp; omega
/-! ### rows, letters, counts of times -/
def goodRow (K : PySem.W.Frag) : List V → Hp → Prop := fun vs H => ∃ a R y, vs = [.ref a, y] ∧ RAt K H a R ∧ AnyR K H y ∧ rowB R.length y = true
def badRow (K : PySem.W.Frag) : List V → Hp → Addr → Prop := fun vs H C => ∃ a R y, vs = [.ref a, y] ∧ RAt K H a R ∧ AnyR K H y ∧ rowB R.length y = false ∧ C = He.ga K "BadRow"
theorem ox_asked_row (X : T K mg) : CalX P w K mg base 2 "asked_row" (spM (goodRow K) (badRow K)) := by
  refine calx_of X.d_asked_row sc_asked_row (fun _ _ _ _ _ _ us hl => match us, hl with | [_, _], _ => rfl) (fun vs H Q E h => ?_) (fun f cdv A outer s H vs Q E hr h tk => ?_)
  · rcases h with ⟨⟨a, R, y, rfl, _⟩, _⟩ | ⟨C, ⟨a, R, y, rfl, _⟩, _⟩ <;> rfl
  · refine ⟨_, (pss_one (ps_if (pt_not (pt_val (C8.pe_c (ox_is_row X) hr (by decide) rfl (pa_cons (pv 0) (pa_cons (pv 1) pa_nil))))) (pss_one (ps_err X.x_BadRow rfl tk (by exact rfl))) pss_nil)), ?_⟩
    have ask : ∀ (a : Addr) (R : GRules) (y : V), RAt K H a R → AnyR K H y → EvT (tNot (tB (tCall (spV (preIsRowX K)) [] E0 (tCons (tVar 0) (tCons (tVar 1) tNil))))) (L2.start ["rules", "row"] [.ref a, y]) H (!(rowB R.length y)) := fun a R y hR hy =>
      et_not (et_B (ev_spV (v := .bl (rowB R.length y)) (ea_two (ev_var rfl) (ev_var rfl)) fun H3 e3 => ⟨a, RL R, y, rfl, ex_l e3 hR.at_, by rw [RL_len]; exact hR.ok.few, hy.ex e3, by rw [RL_len]⟩))
    rcases h with ⟨⟨a, R, y, rfl, hR, hy, hb⟩, k⟩ | ⟨C, ⟨a, R, y, rfl, hR, hy, hb, rfl⟩, k⟩
    · exact s_pass (et_is (ask a R y hR hy) (by rw [hb]; rfl)) k
    · exact s_err (et_is (ask a R y hR hy) (by rw [hb]; rfl)) k
def oneB : V → Bool
  | .str z => decide (z.length = 1)
  | _ => false
def goodLetter (K : PySem.W.Frag) : List V → Hp → Prop := fun vs H => ∃ a R y, vs = [.ref a, y] ∧ RAt K H a R ∧ AnyR K H y ∧ rowB R.length y = true ∧ oneB y = true
def badLetter (K : PySem.W.Frag) : List V → Hp → Addr → Prop := fun vs H C => ∃ a R y, vs = [.ref a, y] ∧ RAt K H a R ∧ AnyR K H y ∧ (rowB R.length y && oneB y) = false ∧ C = He.ga K "BadLetter"
theorem ox_asked_letter (X : T K mg) : CalX P w K mg base 2 "asked_letter" (spM (goodLetter K) (badLetter K)) := by
  refine calx_of X.d_asked_letter sc_asked_letter (fun _ _ _ _ _ _ us hl => match us, hl with | [_, _], _ => rfl) (fun vs H Q E h => ?_) (fun f cdv A outer s H vs Q E hr h tk => ?_)
  · rcases h with ⟨⟨a, R, y, rfl, _⟩, _⟩ | ⟨C, ⟨a, R, y, rfl, _⟩, _⟩ <;> rfl
  · refine ⟨_, (pss_one (ps_if (PW.pt (pw_or (pt_not (pt_val (C8.pe_c (ox_is_row X) hr (by decide) rfl (pa_cons (pv 0) (pa_cons (pv 1) pa_nil))))) (pw_or1 (pt_cmpR op_ne (pe_lenT X.z_len (pv 1)) pe_int (nomark _))))) (pss_one (ps_err X.x_BadLetter rfl tk (by exact rfl))) pss_nil)), ?_⟩
    have ask : ∀ (a : Addr) (R : GRules) (y : V), RAt K H a R → AnyR K H y → EvT (tOr (tNot (tB (tCall (spV (preIsRowX K)) [] E0 (tCons (tVar 0) (tCons (tVar 1) tNil))))) (tTest (tOp rNe (tLenT (tVar 1)) (tC (.int 1))))) (L2.start ["rules", "letter"] [.ref a, y]) H (!(rowB R.length y && oneB y)) := fun a R y hR hy => by
      have h1 : EvT (tNot (tB (tCall (spV (preIsRowX K)) [] E0 (tCons (tVar 0) (tCons (tVar 1) tNil))))) (L2.start ["rules", "letter"] [.ref a, y]) H (!(rowB R.length y)) := et_not (et_B (ev_spV (v := .bl (rowB R.length y)) (ea_two (ev_var rfl) (ev_var rfl)) fun H3 e3 => ⟨a, RL R, y, rfl, ex_l e3 hR.at_, by rw [RL_len]; exact hR.ok.few, hy.ex e3, by rw [RL_len]⟩))
      rcases hy with ⟨z, rfl, hz⟩ | ⟨_, hn⟩
      · refine et_is (et_or h1 fun _ => et_test (ev_op (x := .int (z.length : Int)) (ev_lenS (ev_var rfl) hz) ev_c (rv_ne rfl))) ?_
        show (!(rowB R.length (.str z)) || !decide (V.int (z.length : Int) = V.int 1)) = !(rowB R.length (.str z) && decide (z.length = 1))
        cases rowB R.length (.str z) with
        | false => rfl
        | true =>
          by_cases h : z.length = 1
          · simp [h]
          · have : ¬ ((z.length : Int) = 1) := by omega
            simp [h, this]
      · refine et_is (et_or (b := false) h1 fun h => ?_) ?_
        · rw [hn] at h
          cases h
        · rw [hn]
          rfl
    rcases h with ⟨⟨a, R, y, rfl, hR, hy, hb, ho⟩, k⟩ | ⟨C, ⟨a, R, y, rfl, hR, hy, hb, rfl⟩, k⟩
    · exact s_pass (et_is (ask a R y hR hy) (by rw [hb, ho]; rfl)) k
    · exact s_err (et_is (ask a R y hR hy) (by rw [hb]; rfl)) k
def goodTimes (K : PySem.W.Frag) : List V → Hp → Prop := fun vs _ => ∃ t : Nat, vs = [.int (t : Int)] ∧ t ≤ 300
def badTimes (K : PySem.W.Frag) : List V → Hp → Addr → Prop := fun vs H C => ∃ v, vs = [v] ∧ BadT K H v ∧ C = He.ga K "BadTimes"
theorem ox_asked_times (X : T K mg) : CalX P w K mg base 2 "asked_times" (spM (goodTimes K) (badTimes K)) := by
  refine calx_of X.d_asked_times sc_asked_times (fun _ _ _ _ _ _ us hl => match us, hl with | [_], _ => rfl) (fun vs H Q E h => ?_) (fun f cdv A outer s H vs Q E hr h tk => ?_)
  · rcases h with ⟨⟨t, rfl, _⟩, _⟩ | ⟨C, ⟨y, rfl, _⟩, _⟩ <;> rfl
  · refine ⟨_, (pss_one (ps_if (PW.pt (pw_or (pt_not (pt_val (C8.pe_c (ox_is_number X) hr (by decide) rfl (pa_cons (pv 0) (pa_cons pe_int pa_nil))))) (pw_or1 (pt_cmpR op_gt (pv 0) (C8.pe_gc (by exact rfl) X.TIMES) (nomark _))))) (pss_one (ps_err X.x_BadTimes rfl tk (by exact rfl))) pss_nil)), ?_⟩
    have num : ∀ y, AnyN K H y → EvT (tNot (tB (tCall (spV (preIsNumberX K)) [] E0 (tCons (tVar 0) (tCons (tC (.int 0)) tNil))))) (L2.start ["times"] [y]) H (!(numB 0 y)) := fun y hy =>
      et_not (et_B (ev_spV (v := .bl (numB 0 y)) (ea_two (ev_var rfl) ev_c) fun H3 e3 => ⟨y, 0, rfl, hy.ex e3, rfl⟩))
    rcases h with ⟨⟨t, rfl, ht⟩, k⟩ | ⟨C, ⟨y, rfl, ⟨hy, hb⟩, rfl⟩, k⟩
    · refine s_pass (et_is (et_or (num _ (.inl ⟨_, rfl⟩)) fun _ => et_test (ev_op (ev_var rfl) ev_c rv_I0)) ?_) k
      simp [numB]
      omega
    · rcases hb with hb | ⟨i, rfl, hi⟩
      · exact s_err (et_is (et_or (b := false) (num y hy) fun h => by rw [hb] at h; cases h) (by rw [hb]; rfl)) k
      · refine s_err (et_is (et_or (num _ hy) fun _ => et_test (ev_op (ev_var rfl) ev_c rv_I0)) ?_) k
        simp [numB]
        omega
end
end Gw

namespace Gw
open PySem PySem.Spec PyProof.Rows L2 Evl
/-! ### plain: what a letter comes to -/
theorem nodup_le : ∀ {n : Nat} {l : List Nat}, l.Nodup → (∀ i ∈ l, i < n) → l.length ≤ n
  | 0, l, _, h => by
    cases l with
    | nil => exact Nat.le_refl _
    | cons a l => exact absurd (h a (by simp)) (Nat.not_lt_zero a)
  | n + 1, l, d, h => by
    by_cases hn : n ∈ l
    · have ih := nodup_le (n := n) (d.erase n) fun i hi => by
        obtain ⟨h1, h2⟩ := d.mem_erase_iff.mp hi
        have := h i h2
        omega
      rw [List.length_erase_of_mem hn] at ih
      omega
    · have ih := nodup_le (n := n) d fun i hi => by
        have := h i hi
        have : i ≠ n := fun e => hn (e ▸ hi)
        omega
      omega
def nextN (R : GRules) (M N : List Nat) : List Nat := (List.range R.length).filter fun i => decide (i ∈ once R N) && !decide (i ∈ M ++ N)
theorem mem_next {R : GRules} {M N : List Nat} {i : Nat} : i ∈ nextN R M N ↔ i < R.length ∧ i ∈ once R N ∧ i ∉ M ++ N := by
  unfold nextN
  rw [List.mem_filter, List.mem_range, Bool.and_eq_true, decide_eq_true_eq, Bool.not_eq_true', decide_eq_false_iff_not]
theorem mem_once {R : GRules} {r : GRow} {x : Nat} : x ∈ once R r ↔ ∃ m ∈ r, x ∈ ruleOf R m := by
  unfold once
  rw [List.mem_flatten]
  constructor
  · rintro ⟨l, hl, hx⟩
    obtain ⟨m, hm, rfl⟩ := List.mem_map.mp hl
    exact ⟨m, hm, hx⟩
  · rintro ⟨m, hm, hx⟩
    exact ⟨_, List.mem_map.mpr ⟨m, hm, rfl⟩, hx⟩
structure CInv (R : GRules) (y z : Nat) (M N : List Nat) (k : Nat) : Prop where
  row : ∀ i ∈ M ++ N, i < R.length
  nd : (M ++ N).Nodup
  at_ : ∀ x ∈ N, x ∈ grow R k [y]
  has : y ∈ M ++ N
  no : z ∉ M
  closed : ∀ m ∈ M, ∀ x ∈ ruleOf R m, x ∈ M ++ N
  k_le : k ≤ M.length
theorem CInv.start {R : GRules} {y z : Nat} (hy : y < R.length) : CInv R y z [] [y] 0 :=
  ⟨fun i hi => by rw [List.mem_singleton.mp hi]; exact hy, by simp, fun x hx => hx, by simp, by simp, by simp, Nat.le_refl _⟩
theorem CInv.step {R : GRules} {y z : Nat} {M N : List Nat} {k : Nat} (ok : RulesOk R) (h : CInv R y z M N k) (hN : N ≠ []) (hz : z ∉ N) : CInv R y z (M ++ N) (nextN R M N) (k + 1) := by
  refine ⟨fun i hi => ?_, ?_, fun x hx => ?_, List.mem_append_left _ h.has, fun hm => ?_, fun m hm x hx => ?_, ?_⟩
  · rcases List.mem_append.mp hi with hi | hi
    · exact h.row i hi
    · exact (mem_next.mp hi).1
  · refine List.nodup_append.mpr ⟨h.nd, List.nodup_range.sublist List.filter_sublist, fun a ha b hb e => ?_⟩
    exact (mem_next.mp hb).2.2 (e ▸ ha)
  · obtain ⟨m, hm, hx2⟩ := mem_once.mp (mem_next.mp hx).2.1
    rw [grow_succ]
    exact mem_once.mpr ⟨m, h.at_ m hm, hx2⟩
  · rcases List.mem_append.mp hm with hm | hm
    · exact h.no hm
    · exact hz hm
  · rcases List.mem_append.mp hm with hm | hm
    · exact List.mem_append_left _ (h.closed m hm x hx)
    · by_cases hxM : x ∈ M ++ N
      · exact List.mem_append_left _ hxM
      · exact List.mem_append_right _ (mem_next.mpr ⟨rule_ok ok m x hx, mem_once.mpr ⟨m, hm, hx⟩, hxM⟩)
  · have : 1 ≤ N.length := by
      cases N with
      | nil => exact absurd rfl hN
      | cons a l => simp
    have := h.k_le
    rw [List.length_append]
    omega
/-! ### the dict of the letters met -/
def metK (M : List Nat) : List (Key × V) := M.map fun n => (Sum.inr (sg n), V.bl true)
theorem metK_val (M : List Nat) (n : Nat) : (valV (metK M) (Sum.inr (sg n) : Key)).isSome = decide (n ∈ M) := by
  unfold valV metK
  rw [List.find?_map]
  induction M with
  | nil => rfl
  | cons a M ih =>
    by_cases h : a = n
    · subst h
      simp [List.find?_cons]
    · have hne : ¬ (Sum.inr (sg a) : Key) = Sum.inr (sg n) := fun e => h (sg_inj (Sum.inr.inj e))
      have hn : ¬ n = a := fun e => h e.symm
      rw [List.find?_cons]
      have e1 : ((fun kv : Key × V => decide (kv.1 = (Sum.inr (sg n) : Key))) ∘ fun m => ((Sum.inr (sg m) : Key), V.bl true)) a = false := decide_eq_false hne
      rw [e1]
      rw [ih]
      simp [hn]
theorem metK_put {M : List Nat} {n : Nat} (h : n ∉ M) : putK (metK M) (Sum.inr (sg n) : Key) (.bl true) = metK (M ++ [n]) := by
  unfold putK
  have e : ((metK M).any fun kv => decide (kv.1 = (Sum.inr (sg n) : Key))) = false := by
    rw [List.any_eq_false]
    intro kv hkv
    obtain ⟨m, hm, rfl⟩ := List.mem_map.mp hkv
    have : ¬ (Sum.inr (sg m) : Key) = Sum.inr (sg n) := fun e => h (sg_inj (Sum.inr.inj e) ▸ hm)
    simpa using this
  rw [e]
  unfold metK
  rw [List.map_append]
  rfl
/-- sorted letters -/
theorem perm_sg {ys : List Str} {M : List Nat} (h : ys.Perm (M.map sg)) : ∃ l : List Nat, l.Perm M ∧ ys = l.map sg := by
  have hu : ∀ n, (fun z : Str => z.cps.getD 0 0 - 97) (sg n) = n := fun n => by
    show (#[97 + n] : Array Nat).getD 0 0 - 97 = n
    simp [Array.getD]
  refine ⟨ys.map fun z => z.cps.getD 0 0 - 97, ?_, ?_⟩
  · have := h.map fun z : Str => z.cps.getD 0 0 - 97
    rw [List.map_map] at this
    have e : M.map ((fun z : Str => z.cps.getD 0 0 - 97) ∘ sg) = M := (List.map_congr_left (g := id) fun n _ => hu n).trans (List.map_id M)
    rw [e] at this
    exact this
  · rw [List.map_map]
    have : ∀ y ∈ ys, (sg ∘ fun z : Str => z.cps.getD 0 0 - 97) y = y := fun y hy => by
      obtain ⟨n, _, rfl⟩ := List.mem_map.mp (h.mem_iff.mp hy)
      show sg ((fun z : Str => z.cps.getD 0 0 - 97) (sg n)) = sg n
      rw [hu]
    exact ((List.map_congr_left (g := id) this).trans (List.map_id ys)).symm
/-! ### comes -/
theorem flat_one : ∀ l : List Nat, (l.map fun n => ([n] : GRow)).flatten = l
  | [] => rfl
  | a :: l => by rw [List.map_cons, List.flatten_cons, flat_one l]; rfl
theorem one_enc (l : List Nat) : (l.map fun n => ([n] : GRow)).map enc = l.map sg := by
  rw [List.map_map]
  rfl
def tSortD : TE → TE := fun te => tCB (fun xs H Q => ∃ (a : Addr) (kvs : List (Key × V)) (ks : List Str), xs = [.ref a] ∧ Rd H a (.dK kvs) ∧ kvs.map (·.1) = ks.map Sum.inr ∧ ks.length < 64 ∧
    ∀ ys p, ys.Perm ks → sortedS ys = true → H p = none → Q (.ref p) (upd H p (.lst (ys.map V.str)))) (tCons te tNil)
/-- "".join(sorted(d)) -/
theorem go_sortJoin {K : PySem.W.Frag} {σ : L2.St} {H : Hp} {te : TE} {a : Addr} {M : List Nat} {Q : VK} (h : Ev te σ H (.ref a)) (ha : H a = some (.dK (metK M))) (hl : M.length ≤ 26) (q : ∀ l H2, Ex H H2 → l.Perm M → Q (.str (enc l)) H2) :
    tM1 (rSJoin K) (tC (.str (enc []))) (tSortD te) σ H Q := by
  refine ⟨⟨enc [], rfl⟩, h H (Ex.refl _) _ fun H1 e1 => ⟨a, metK M, M.map sg, rfl, .inl (e1 _ _ ha), ?_, by rw [List.length_map]; omega, fun ys p hy _ hp => ?_⟩⟩
  · unfold metK
    rw [List.map_map, List.map_map]
    rfl
  · obtain ⟨l, hl2, rfl⟩ := perm_sg hy
    have e2 := e1.trans (Ex.new (o := .lst ((l.map sg).map V.str)) hp)
    have hlen : l.length = M.length := hl2.length_eq
    refine ⟨enc [], p, l.map sg, rfl, rfl, Or.inl (sq_of upd_same), ?_, ?_⟩
    · have f := flat_len (l.map fun n => ([n] : GRow))
      rw [one_enc, flat_one] at f
      rw [f, enc_len]
      show l.length + (l.map sg).length * 0 ≤ 16777216
      omega
    · have j := join_enc (l.map fun n => ([n] : GRow))
      rw [one_enc, flat_one] at j
      rw [j]
      exact q l _ e2 hl2
theorem go_make {σ : L2.St} {H : Hp} {D : Ends} {C : Addr} {f : Str} {E : XK} {te : TE} {Pv : V → Hp → Prop} (h : ∀ Q' : VK, (∀ v H2, Pv v H2 → Q' v H2) → te σ H Q')
    (k : ∀ v H2 x dx, Pv v H2 → H2 x = none → H2 dx = none → D.rt (.ref x) (upd (upd (upd H2 dx (.own x)) x (.ins C dx [])) x (.ins C dx [(f, v)]))) : tRet (tMake C (spInit C f) [] E (tCons te tNil)) D σ H :=
  h _ fun v H2 hP x dx hx hd hne => ⟨x, dx, v, rfl, upd_same, rfl, k v H2 x dx hP hx hd⟩
section
variable {P : Program} {w : World} {K : PySem.W.Frag} {mg : Str → Option Value} {base : Heap}
abbrev nCm : List Str := ["rules", "one", "other", "met", "now", "many", "letter"]
theorem sc_comes : FnScope nCm ["rules", "one", "other"] (defScope sComes) := ⟨rfl, rfl, rfl, by decide +kernel, rfl, by decide +kernel, by decide +kernel⟩
def ComesA (K : PySem.W.Frag) (R : GRules) (y z : Nat) (x : Addr) (H : Hp) : Prop :=
  (∃ dx, ∃ k : Nat, k ≤ R.length ∧ z ∈ grow R k [y] ∧ H x = some (.ins (He.ga K "Times") dx [("many", .int (k : Int))])) ∨
  (∃ dx l, RowOk R.length l ∧ l.length ≤ 26 ∧ y ∈ l ∧ z ∉ l ∧ (∀ m ∈ once R l, m ∈ l) ∧ H x = some (.ins (He.ga K "Shut") dx [("letters", .str (enc l))]))
def spComes (K : PySem.W.Frag) : Sp := fun vs H Q _ => ∃ a R y z, vs = [.ref a, .str (sg y), .str (sg z)] ∧ RAt K H a R ∧ y < R.length ∧ z < R.length ∧ ∀ x H2, H x = none → Ex H H2 → ComesA K R y z x H2 → Q (.ref x) H2
abbrev tOnceC (K : PySem.W.Frag) : TE := tCall (spV (preOnce K)) [] E0 (tCons (tVar 0) (tCons (tVar 4) tNil))
abbrev tNewL (K : PySem.W.Frag) : TT := tAnd (tTest (tOp rInC (tVar 6) (tOnceC K))) (tB (tDNotIn (tVar 6) (tVar 3)))
theorem ok_comes (X : T K mg) : C8.Cal P w K mg base 3 "comes" (spComes K) [] := by
  refine cal_of X.d_comes sc_comes (fun _ _ _ _ _ _ us hl => match us, hl with | [_, _, _], _ => rfl) (fun vs H Q E h => ?_) (fun f cdv A outer s H vs Q E hr h => ?_)
  · obtain ⟨a, R, y, z, rfl, _⟩ := h
    rfl
  · obtain ⟨a, R, y, z, rfl, hR, hy, hz, k⟩ := h
    have nd := sc_comes.nd
    refine ⟨_, (pss_cons (ps_expr (C8.pe_c (ok_asked_rules X) hr (by decide) rfl (pa_cons (pv 0) pa_nil)))
      (pss_cons (ps_expr (C8.pe_c (ok_asked_letter X) hr (by decide) rfl (pa_cons (pv 0) (pa_cons (pv 1) pa_nil))))
      (pss_cons (ps_expr (C8.pe_c (ok_asked_letter X) hr (by decide) rfl (pa_cons (pv 0) (pa_cons (pv 2) pa_nil))))
      (pss_cons (ps_set (i := 3) nd rfl (Or.inr rfl) pe_dnewK)
      (pss_cons (ps_set (i := 4) nd rfl (Or.inr rfl) (pv 1))
      (pss_cons (ps_set (i := 5) nd rfl (Or.inl rfl) pe_int)
      (pss_cons (ps_while PassesOwn.never (pt_cmpR op_ne (pv 4) pe_empty (nomark _))
        (pss_cons (ps_if (pt_cmpR op_in_sign (pv 2) (pv 4) (by rfl)) (pss_one (ps_ret (C8.pe_mk (ok_timesI X) hr (by decide) rfl (pa_cons (pv 5) pa_nil)))) pss_nil)
      (pss_cons (ps_for PassesOwn.never rfl (pi_str (pv 4)) (pg_name (i := 6) nd rfl (Or.inl rfl))
          (pss_one (ps_dput (Nat.lt_of_le_of_lt (Nat.add_le_add_left (by decide : 1 ≤ 64) _) hr.units) (pv 3) (pv 6) pe_bl (by rfl))))
      (pss_cons (ps_set (i := 4) nd rfl (Or.inr rfl) (pe_join pe_empty (pe_lc (own := [("letter", 6)]) (g := gName 6) (tt := tNewL K) (te := tVar 6) (by rfl) nd (pi_str (pe_slice sl_str (C8.pe_gc (by exact rfl) X.LETTERS) po_none (po_some (pe_len X.z_len (pv 0))))) (blkOk_by (N := nCm) (sc := defScope sComes) (by decide +kernel))
            (fun _ _ _ _ _ => pg_name (i := 6) nd rfl (Or.inl rfl)) (fun _ _ _ _ _ => pts_one (PW.pt (pw_and (pt_cmpR op_in_sign (pv 6) (C8.pe_c (ok_once X) hr (by decide) (by exact rfl) (pa_cons (pv 0) (pa_cons (pv 4) pa_nil))) (by rfl)) (pw_and1 (pt_cmp (pc_dnotin (Nat.lt_of_le_of_lt (Nat.add_le_add_left (by decide : 1 ≤ 64) _) hr.units) (pv 6) (pv 3))))))) (fun _ _ _ _ _ => pv 6))))
      (pss_one (ps_set (i := 5) nd rfl (Or.inl rfl) (pe_op op_add (pv 5) pe_int)))))))
      (pss_one (ps_ret (C8.pe_mk (ok_shutI X) hr (by decide) rfl (pa_cons (pe_join pe_empty (pe_callB (call_sortedD rfl) (by exact rfl) X.z_sorted (by decide +kernel) (pa_cons (pv 3) pa_nil))) pa_nil))))))))))), ?_⟩
    have ok := hR.ok
    have h26 := ok.few
    refine q_drop (ev_ask K rfl hR) fun H1 e1 => q_drop (ev_spV (v := .non) (ea_two (ev_var rfl) (ev_var rfl)) fun H2 e2 => ⟨a, R, y, rfl, hR.ex (e1.trans e2), hy, rfl⟩) fun H2 e2 => q_drop (ev_spV (v := .non) (ea_two (ev_var rfl) (ev_var rfl)) fun H3 e3 => ⟨a, R, z, rfl, hR.ex ((e1.trans e2).trans e3), hz, rfl⟩) fun H3 e3 => ?_
    have e03 := (e1.trans e2).trans e3
    intro pm hpm
    have hR := hR.ex e03
    refine q_asg (v := .str (enc [y])) (ev_var rfl) fun H4 e4 => q_asg (v := .int ((0 : Nat) : Int)) ev_c fun H5 e5 => ?_
    have e35 : Ex H3 H5 := (Ex.new hpm).trans (e4.trans e5)
    have hpm5 : H5 pm = some (.dK (metK [])) := (e4.trans e5) _ _ upd_same
    have lenR : ∀ {σ : L2.St} {H' : Hp}, σ[0]? = some (some (.ref a)) → Ex H3 H' → Ev (tLen K (tVar 0)) σ H' (.int (R.length : Int)) := fun h e => ev_is (ev_len (ev_var h) (hR.ex e).at_) (by rw [RL_len])
    refine q_while (fun m σ' H' => ∃ (M N : List Nat) (k : Nat), ∃ u6, m = R.length - M.length ∧ σ' = [some (.ref a), some (.str (sg y)), some (.str (sg z)), some (.ref pm), some (.str (enc N)), some (.int (k : Int)), u6] ∧ Ex H3 H' ∧ H' pm = some (.dK (metK M)) ∧ CInv R y z M N k)
      R.length ⟨[], [y], 0, none, rfl, rfl, e35, hpm5, CInv.start hy⟩ ?_
    rintro m σ' H6 ⟨M, N, kk, u6, hm, rfl, e6, hM, C⟩
    have hlen := nodup_le C.nd C.row
    rw [List.length_append] at hlen
    refine ⟨_, et_test (ev_op (ev_var rfl) ev_c (rv_ne rfl)), fun hb H7 e7 => ⟨_, fun _ _ h => h, ?_⟩, fun hb H7 e7 => ?_⟩
    · have hN : N ≠ [] := fun e => by
        rw [e] at hb
        simp at hb
      have hN1 : 1 ≤ N.length := by
        cases N with
        | nil => exact absurd rfl hN
        | cons a l => simp
      have hNz : N.length < sizeLine := Nat.lt_of_le_of_lt (show N.length ≤ 26 by omega) (by decide)
      have hNrow : RowOk R.length N := fun i hi => C.row i (List.mem_append_right _ hi)
      have e37 := e6.trans e7
      by_cases hzN : z ∈ N
      · refine q_when (b := true) (et_is (et_test (ev_inC (ev_var rfl) (ev_var rfl))) (by simp [hzN])) (fun _ H8 e8 => ?_) fun hb => absurd hb (by decide)
        refine s_retI (ei_make (ev_var rfl)) fun x dx H9 hx e9 h9 => k x H9 (fresh_back (e03.trans (e37.trans e8)) hx) ((e03.trans (e37.trans e8)).trans e9) (.inl ⟨dx, kk, ?_, C.at_ z hzN, h9⟩)
        have := C.k_le
        omega
      · refine q_skip (et_is (et_test (ev_inC (ev_var rfl) (ev_var rfl))) (by simp [hzN])) fun H8 e8 => ?_
        have e38 := e37.trans e8
        refine q_forF (wf_str (l := N) (ev_var rfl)) (fun j σ' H' => ∃ u6, σ' = [some (.ref a), some (.str (sg y)), some (.str (sg z)), some (.ref pm), some (.str (enc N)), some (.int (kk : Int)), u6] ∧ Ex H3 H' ∧ H' pm = some (.dK (metK (M ++ N.take j))))
          (fun H9 e9 => ⟨u6, rfl, e38.trans e9, by rw [List.take_zero, List.append_nil]; exact (e7.trans (e8.trans e9)) _ _ hM⟩) ?_ ?_
        · rintro j σ' H9 hj ⟨u, rfl, e9, h9⟩
          have hn : N[j]? = some (N.getD j 0) := by
            rw [List.getElem?_eq_getElem hj]
            simp [hj]
          generalize N.getD j 0 = n at hn
          have hnM : n ∉ M ++ N.take j := fun hmem => by
            obtain ⟨_, h2, h3⟩ := List.nodup_append.mp C.nd
            rcases List.mem_append.mp hmem with h | h
            · exact h3 n h n (List.mem_of_getElem? hn) rfl
            · rw [split_at hn] at h2
              have := (List.nodup_append.mp h2).2.2 n h n (by simp)
              exact this rfl
          have hz9 : (metK (M ++ N.take j)).length < sizeLine := by
            unfold metK
            rw [List.length_map, List.length_append, List.length_take, sizeLine_eq]
            omega
          refine ⟨.ref pm, rfl, .str (sg n), rfl, pm, _, rfl, DPut.k (k := Sum.inr (sg n)) h9 hz9, _, rfl, Ex.mut e9 hpm, ?_⟩
          rw [upd_same, metK_put hnM, take_snoc hn, List.append_assoc]
        · rintro σ' H9 ⟨u, rfl, e9, h9⟩
          rw [List.take_length] at h9
          have oz : (once R N).length ≤ 16777216 := Nat.le_trans (once_bound hR.sz N) (Nat.le_trans (Nat.mul_le_mul_right _ (show N.length ≤ 26 by omega)) (by decide))
          have hnow := ev_join (K := K) (σ := ([some (.ref a), some (.str (sg y)), some (.str (sg z)), some (.ref pm), some (.str (enc N)), some (.int (kk : Int)), u] : L2.St)) (H := H9) (ls := (nextN R M N).map fun n => ([n] : GRow)) (to := tC (.str (enc []))) (te := tLc (iStr (tSl rSlS tAl tNoPart (tPart (tLen K (tVar 0))))) (gName 6) (tNewL K) (tVar 6) [6]) ev_c (by
            rw [List.map_map]
            refine el_strF (K := K) (ev_alphCut ev_c (eo_some (lenR rfl e9)) h26) _ _ (by rw [List.length_range]; exact Nat.lt_of_le_of_lt h26 (by decide)) (fun _ => rfl) (fun n hn H10 e10 => et_and (et_test (ev_inC (ev_var rfl) (ev_spV (ea_two (ev_var rfl) (ev_var rfl)) fun H11 e11 => ⟨a, R, N, rfl, (hR.ex (e9.trans (e10.trans e11))).at_, h26, hNrow, hNz, oz, rfl⟩))) fun _ => et_B fun H11 e11 Q' q' => ⟨.str (sg n), rfl, .ref pm, rfl, pm, _, rfl, .inl ⟨metK (M ++ N), Sum.inr (sg n), .inl ((e10.trans e11) _ _ h9), rfl, rfl⟩, by rw [metK_val]; exact q' H11 (Ex.refl _)⟩) fun n hn H10 e10 => ev_var rfl) (by
            rw [flat_one]
            exact Nat.le_trans (List.length_filter_le _ _) (by rw [List.length_range]; omega))
          rw [flat_one] at hnow
          refine q_asg hnow fun H10 e10 => ?_
          refine s_asg (v := .int ((kk + 1 : Nat) : Int)) (ev_is (ev_addI (i := (kk : Int)) (j := 1) (ev_var rfl) ev_c) rfl) fun H11 e11 => ?_
          refine ⟨R.length - (M ++ N).length, ?_, M ++ N, nextN R M N, kk + 1, _, rfl, rfl, e9.trans (e10.trans e11), (e10.trans e11) _ _ h9, C.step ok hN hzN⟩
          rw [List.length_append]
          omega
    · have hN : N = [] := by
        have : V.str (enc N) = V.str (enc []) := by simpa using hb
        exact enc_inj (V.str.inj this)
      subst hN
      have e37 := e6.trans e7
      have hl0 : M.length ≤ 26 := by
        have : ([] : List Nat).length = 0 := rfl
        omega
      refine go_make (Pv := fun v H8 => ∃ l : List Nat, v = .str (enc l) ∧ Ex H7 H8 ∧ l.Perm M) (fun Q' q' => go_sortJoin (ev_var rfl) (e7 _ _ hM) hl0 fun l H8 e8 hl => q' _ _ ⟨l, rfl, e8, hl⟩) fun v H8 x dx ⟨l, hv, e8, hl⟩ hx hdx => ?_
      subst hv
      have e38 := e03.trans (e37.trans e8)
      have mem : ∀ i, i ∈ l ↔ i ∈ M := fun i => hl.mem_iff
      have cM := C.closed
      have cH := C.has
      have cR := C.row
      rw [List.append_nil] at cM cH cR
      refine k x _ (fresh_back e38 hx) (e38.trans (Ex.mut (Ex.made hx hdx) hx)) (.inr ⟨dx, l, fun i hi => cR i ((mem i).mp hi), by rw [hl.length_eq]; exact hl0, (mem y).mpr cH, fun h => C.no ((mem z).mp h), fun m hm => ?_, upd_same⟩)
      obtain ⟨j, hj, hx2⟩ := mem_once.mp hm
      exact (mem m).mpr (cM j ((mem j).mp hj) m hx2)
end
end Gw

namespace Gw
open PySem PySem.Spec PyProof.Rows L2 Evl
abbrev tqA (K : PySem.W.Frag) (W : WX) (i : Nat) : TE := tCallS (spM (goodRules K) (badRules K)) (WE W) (tCons (tVar i) tNil)
abbrev tqB (K : PySem.W.Frag) (W : WX) (i : Nat) : TE := tCallS (spM (goodRow K) (badRow K)) (WE W) (tCons (tVar 0) (tCons (tVar i) tNil))
abbrev tqL (K : PySem.W.Frag) (W : WX) (i : Nat) : TE := tCallS (spM (goodLetter K) (badLetter K)) (WE W) (tCons (tVar 0) (tCons (tVar i) tNil))
abbrev tqC (K : PySem.W.Frag) (W : WX) (i : Nat) : TE := tCallS (spM (goodTimes K) (badTimes K)) (WE W) (tCons (tVar i) tNil)
/-- rules, a row, a count of times, where one of them is none -/
def Asks (K : PySem.W.Frag) (H : Hp) (r y t : V) (C : Addr) : Prop := (BadR K H r ∧ C = He.ga K "BadRules") ∨ ∃ a R, r = .ref a ∧ RAt K H a R ∧ AnyR K H y ∧ ((rowB R.length y = false ∧ C = He.ga K "BadRow") ∨ (rowB R.length y = true ∧ BadT K H t ∧ C = He.ga K "BadTimes"))
section
variable {K : PySem.W.Frag} {σ : L2.St} {H : Hp} {D : Ends} {tz : TS} {W : WX} {r y t : V} {C : Addr}
theorem q_askR {i : Nat} (h0 : σ[i]? = some (some r)) (h : BadR K H r) (k : ∀ H1, Ex H H1 → W (.ref (He.ga K "BadRules")) none σ H1) : tSeq (tDrop (tqA K W i)) tz D σ H := q_dropR (ra_sp (ea_one (ev_var h0)) (fun H1 e1 => ⟨r, rfl, h.ex e1, rfl⟩) k)
theorem q_okR {i : Nat} {a : Addr} {R : GRules} (h0 : σ[i]? = some (some (.ref a))) (h : RAt K H a R) (k : ∀ H1, Ex H H1 → tz D σ H1) : tSeq (tDrop (tqA K W i)) tz D σ H := q_dropV (ev_spM (ea_one (ev_var h0)) fun H1 e1 => ⟨a, R, rfl, h.ex e1⟩) k
theorem q_askB {i : Nat} {a : Addr} {R : GRules} (h0 : σ[0]? = some (some (.ref a))) (h1 : σ[i]? = some (some y)) (hR : RAt K H a R) (hy : AnyR K H y) (hb : rowB R.length y = false) (k : ∀ H1, Ex H H1 → W (.ref (He.ga K "BadRow")) none σ H1) : tSeq (tDrop (tqB K W i)) tz D σ H :=
  q_dropR (ra_sp (ea_two (ev_var h0) (ev_var h1)) (fun H1 e1 => ⟨a, R, y, rfl, hR.ex e1, hy.ex e1, hb, rfl⟩) k)
theorem q_okB {i : Nat} {a : Addr} {R : GRules} (h0 : σ[0]? = some (some (.ref a))) (h1 : σ[i]? = some (some y)) (hR : RAt K H a R) (hy : AnyR K H y) (hb : rowB R.length y = true) (k : ∀ H1, Ex H H1 → tz D σ H1) : tSeq (tDrop (tqB K W i)) tz D σ H :=
  q_dropV (ev_spM (ea_two (ev_var h0) (ev_var h1)) fun H1 e1 => ⟨a, R, y, rfl, hR.ex e1, hy.ex e1, hb⟩) k
theorem q_askL {i : Nat} {a : Addr} {R : GRules} (h0 : σ[0]? = some (some (.ref a))) (h1 : σ[i]? = some (some y)) (hR : RAt K H a R) (hy : AnyR K H y) (hb : (rowB R.length y && oneB y) = false) (k : ∀ H1, Ex H H1 → W (.ref (He.ga K "BadLetter")) none σ H1) : tSeq (tDrop (tqL K W i)) tz D σ H :=
  q_dropR (ra_sp (ea_two (ev_var h0) (ev_var h1)) (fun H1 e1 => ⟨a, R, y, rfl, hR.ex e1, hy.ex e1, hb, rfl⟩) k)
theorem q_okL {i : Nat} {a : Addr} {R : GRules} (h0 : σ[0]? = some (some (.ref a))) (h1 : σ[i]? = some (some y)) (hR : RAt K H a R) (hy : AnyR K H y) (hb : rowB R.length y = true) (ho : oneB y = true) (k : ∀ H1, Ex H H1 → tz D σ H1) : tSeq (tDrop (tqL K W i)) tz D σ H :=
  q_dropV (ev_spM (ea_two (ev_var h0) (ev_var h1)) fun H1 e1 => ⟨a, R, y, rfl, hR.ex e1, hy.ex e1, hb, ho⟩) k
theorem q_askC {i : Nat} (h0 : σ[i]? = some (some t)) (h : BadT K H t) (k : ∀ H1, Ex H H1 → W (.ref (He.ga K "BadTimes")) none σ H1) : tSeq (tDrop (tqC K W i)) tz D σ H := q_dropR (ra_sp (ea_one (ev_var h0)) (fun H1 e1 => ⟨t, rfl, h.ex e1, rfl⟩) k)
theorem q_okC {i n : Nat} (h0 : σ[i]? = some (some (.int (n : Int)))) (h : n ≤ 300) (k : ∀ H1, Ex H H1 → tz D σ H1) : tSeq (tDrop (tqC K W i)) tz D σ H := q_dropV (ev_spM (ea_one (ev_var h0)) fun H1 e1 => ⟨n, rfl, h⟩) k
/-- the three, one of them bad -/
theorem q_asks (h0 : σ[0]? = some (some r)) (h1 : σ[1]? = some (some y)) (h2 : σ[2]? = some (some t)) (h : Asks K H r y t C) (k : ∀ H1, Ex H H1 → W (.ref C) none σ H1) : tSeq (tDrop (tqA K W 0)) (tSeq (tDrop (tqB K W 1)) (tSeq (tDrop (tqC K W 2)) tz)) D σ H := by
  rcases h with ⟨hB, rfl⟩ | ⟨a, R, rfl, hR, hy, ⟨hb, rfl⟩ | ⟨hb, hT, rfl⟩⟩
  · exact q_askR h0 hB k
  · exact q_okR h0 hR fun H1 e1 => q_askB h0 h1 (hR.ex e1) (hy.ex e1) hb fun H2 e2 => k H2 (e1.trans e2)
  · exact q_okR h0 hR fun H1 e1 => q_okB h0 h1 (hR.ex e1) (hy.ex e1) hb fun H2 e2 => q_askC h2 (hT.ex (e1.trans e2)) fun H3 e3 => k H3 ((e1.trans e2).trans e3)
theorem anyR_enc {l : GRow} (hz : l.length ≤ sizeLine) : AnyR K H (.str (enc l)) := .inl ⟨_, rfl, by rw [enc_len]; exact hz⟩
/-- the three, all good -/
theorem q_asked {a : Addr} {R : GRules} {l : GRow} {n : Nat} (h0 : σ[0]? = some (some (.ref a))) (h1 : σ[1]? = some (some (.str (enc l)))) (h2 : σ[2]? = some (some (.int (n : Int)))) (h : Asked K H a R l n) (k : ∀ H1, Ex H H1 → tz D σ H1) : tSeq (tDrop (tqA K W 0)) (tSeq (tDrop (tqB K W 1)) (tSeq (tDrop (tqC K W 2)) tz)) D σ H :=
  q_okR h0 h.rules fun H1 e1 => q_okB h0 h1 (h.rules.ex e1) (anyR_enc (Nat.le_of_lt h.sz)) (isLet_enc h.row) fun H2 e2 => q_okC h2 h.times fun H3 e3 => k H3 ((e1.trans e2).trans e3)
end
section
variable {P : Program} {w : World} {K : PySem.W.Frag} {mg : Str → Option Value} {base : Heap}
/-! ### the doors -/
def bad3 (K : PySem.W.Frag) : List V → Hp → Addr → Prop := fun vs H C => ∃ r y t, vs = [r, y, t] ∧ Asks K H r y t C
def noGood : List V → Hp → Prop := fun _ _ => False
theorem ox_counts (X : T K mg) : CalX P w K mg base 3 "counts" (spM noGood (bad3 K)) := by
  refine calx_of X.d_counts sc_counts (fun _ _ _ _ _ _ us hl => match us, hl with | [_, _, _], _ => rfl) (fun vs H Q E h => ?_) (fun f cdv A outer s H vs Q E hr h tk => ?_)
  · rcases h with ⟨h, _⟩ | ⟨C, ⟨r, y, t, rfl, _⟩, _⟩
    · exact h.elim
    · rfl
  · rcases h with ⟨h, _⟩ | ⟨C, ⟨r, y, t, rfl, hA⟩, k⟩
    · exact h.elim
    refine ⟨_, pss_cons (ps_expr (pe_cx (ox_asked_rules X) hr (by decide) rfl tk (pa_cons (pv 0) pa_nil)))
      (pss_cons (ps_expr (pe_cx (ox_asked_row X) hr (by decide) rfl tk (pa_cons (pv 0) (pa_cons (pv 1) pa_nil))))
      (pss_cons (ps_expr (pe_cx (ox_asked_times X) hr (by decide) rfl tk (pa_cons (pv 2) pa_nil))) pss_never)), ?_⟩
    exact q_asks rfl rfl rfl hA k
theorem ox_length (X : T K mg) : CalX P w K mg base 3 "length" (spM noGood (bad3 K)) := by
  refine calx_of X.d_length sc_length (fun _ _ _ _ _ _ us hl => match us, hl with | [_, _, _], _ => rfl) (fun vs H Q E h => ?_) (fun f cdv A outer s H vs Q E hr h tk => ?_)
  · rcases h with ⟨h, _⟩ | ⟨C, ⟨r, y, t, rfl, _⟩, _⟩
    · exact h.elim
    · rfl
  · rcases h with ⟨h, _⟩ | ⟨C, ⟨r, y, t, rfl, hA⟩, k⟩
    · exact h.elim
    refine ⟨_, pss_cons (ps_expr (pe_cx (ox_asked_rules X) hr (by decide) rfl tk (pa_cons (pv 0) pa_nil)))
      (pss_cons (ps_expr (pe_cx (ox_asked_row X) hr (by decide) rfl tk (pa_cons (pv 0) (pa_cons (pv 1) pa_nil))))
      (pss_cons (ps_expr (pe_cx (ox_asked_times X) hr (by decide) rfl tk (pa_cons (pv 2) pa_nil))) pss_never)), ?_⟩
    exact q_asks rfl rfl rfl hA k
def badGrown (K : PySem.W.Frag) : List V → Hp → Addr → Prop := fun vs H C => bad3 K vs H C ∨ ∃ a R r, ∃ t j : Nat, vs = [.ref a, .str (enc r), .int (t : Int)] ∧ Asked K H a R r t ∧ j < t ∧ (∀ i, i < j → (grow R (i + 1) r).length ≤ 100000) ∧ 100000 < (grow R (j + 1) r).length ∧ C = He.ga K "TooLong"
theorem ox_grown (X : T K mg) : CalX P w K mg base 3 "grown" (spM noGood (badGrown K)) := by
  refine calx_of X.d_grown sc_grown (fun _ _ _ _ _ _ us hl => match us, hl with | [_, _, _], _ => rfl) (fun vs H Q E h => ?_) (fun f cdv A outer s H vs Q E hr h tk => ?_)
  · rcases h with ⟨h, _⟩ | ⟨C, ⟨r, y, t, rfl, _⟩ | ⟨a, R, r, t, j, rfl, _⟩, _⟩
    · exact h.elim
    · rfl
    · rfl
  · rcases h with ⟨h, _⟩ | ⟨C, hA, k⟩
    · exact h.elim
    have nd := sc_grown.nd
    refine ⟨_, pss_cons (ps_expr (pe_cx (ox_asked_rules X) hr (by decide) rfl tk (pa_cons (pv 0) pa_nil)))
      (pss_cons (ps_expr (pe_cx (ox_asked_row X) hr (by decide) rfl tk (pa_cons (pv 0) (pa_cons (pv 1) pa_nil))))
      (pss_cons (ps_expr (pe_cx (ox_asked_times X) hr (by decide) rfl tk (pa_cons (pv 2) pa_nil)))
      (pss_cons (ps_set (i := 3) nd rfl (Or.inl rfl) (pv 1))
      (pss_cons (ps_for (passes_of rfl) rfl (pi_range1 rfl X.z_range (pa_cons (pv 2) pa_nil)) (pg_name (i := 4) nd rfl (Or.inl rfl))
        (pss_cons (ps_if (pt_cmpR op_gt (pe_sum rfl X.z_sum (pe_lc (own := [("letter", 5)]) (g := gName 5) (tt := tYes) (te := tLenT (tOp (rIxL K) (tVar 0) (tIdx K (tVar 5)))) (by rfl) nd (pi_str (pv 3)) (blkOk_by (N := nGrown) (sc := defScope sGrown) (by decide +kernel))
          (fun _ _ _ _ _ => pg_name (i := 5) nd rfl (Or.inl rfl)) (fun _ _ _ _ _ => pts_nil)
          (fun _ _ _ _ _ => pe_lenT X.z_len (pe_ix ix_list (pv 0) (pe_idx (C8.pe_gc (by exact rfl) X.LETTERS) (pv 5)) (fun _ _ => rfl))))) (C8.pe_gc (by exact rfl) X.LONGEST) (nomark _)) (pss_one (ps_err X.x_TooLong rfl tk (by exact rfl))) pss_nil)
        (pss_one (ps_set (i := 3) nd rfl (Or.inl rfl) (C8.pe_c (ok_once X) hr (by decide) rfl (pa_cons (pv 0) (pa_cons (pv 3) pa_nil)))))))
      pss_never)))), ?_⟩
    rcases hA with ⟨r, y, t, rfl, hA⟩ | ⟨a, R, r, t, j, rfl, hA, hj, hG, hbig, rfl⟩
    · exact q_asks rfl rfl rfl hA k
    refine q_asked rfl rfl rfl hA fun H3 e => ?_
    refine q_asg (ev_var rfl) fun H4 e4 => ?_
    have ht := hA.times
    refine q_forR1 (ea_one (ev_var rfl)) ⟨by omega, by omega⟩ (fun i σ' H' => ∃ u, σ' = [some (.ref a), some (.str (enc r)), some (.int (t : Int)), some (.str (enc (grow R i r))), u, none] ∧ Ex H H' ∧ (grow R i r).length < sizeLine ∧ i ≤ j)
      (fun H5 e5 => ⟨none, rfl, (e.trans e4).trans e5, hA.sz, Nat.zero_le _⟩) ?_ ?_
    · rintro i σ' H' hi ⟨u, rfl, eH, hz, hij⟩
      have hrow := grow_ok hA.rules.ok i hA.row
      have hL : EvL (tLc (iStr (tVar 3)) (gName 5) tYes (tLenT (tOp (rIxL K) (tVar 0) (tIdx K (tVar 5)))) [5]) ([some (.ref a), some (.str (enc r)), some (.int (t : Int)), some (.str (enc (grow R i r))), some (.int (i : Int)), none] : L2.St) H' (((grow R i r).map fun n => ((ruleOf R n).length : Int)).map V.int) := by
        rw [List.map_map]
        refine el_str (K := K) (ev_var rfl) _ hz (fun _ => rfl) fun n hn H5 e5 => ?_
        refine ev_lenE (ev_ix (ev_var rfl) (ex_l (eH.trans e5) hA.rules.at_) (tidx rfl (Nat.lt_of_lt_of_le (hrow n hn) hA.rules.ok.few)) (RL_at (hrow n hn))) ?_
        exact Nat.le_trans (hA.rules.sz _ (List.mem_of_getElem? (rule_get (hrow n hn)))) (by decide)
      rcases Nat.lt_or_ge i j with hlt | hge
      · have hlen := hG i hlt
        rw [grow_succ] at hlen
        refine q_pass (et_is (et_test (ev_op (ev_sumN hL) ev_c rv_I0)) ?_) fun H5 e5 => ?_
        · rw [once_length]
          simp
          omega
        · refine s_asg (v := .str (enc (grow R (i + 1) r))) (ev_spV (ea_two (ev_var rfl) (ev_var rfl)) fun H6 e6 => ⟨a, R, grow R i r, rfl, ex_l ((eH.trans e5).trans e6) hA.rules.at_, hA.rules.ok.few, hrow, hz, Nat.le_trans hlen (by decide), by rw [grow_succ]⟩) fun H6 e6 => ⟨_, rfl, (eH.trans e5).trans e6, ?_, hlt⟩
          rw [grow_succ]
          exact Nat.lt_of_le_of_lt hlen (by decide)
      · have hij2 : i = j := Nat.le_antisymm hij hge
        subst hij2
        refine q_err (et_is (et_test (ev_op (ev_sumN hL) ev_c rv_I0)) ?_) fun H5 e5 => k H5 (eH.trans e5)
        rw [once_length, ← grow_succ]
        simp
        omega
    · rintro σ' H' ⟨u, rfl, eH, hz, hij⟩
      rw [Int.toNat_natCast] at hij
      omega
/-! ### letter, first -/
def BadP (K : PySem.W.Frag) (H : Hp) (v : V) (n : Nat) : Prop := AnyN K H v ∧ (numB 0 v = false ∨ ∃ i, v = .int i ∧ (n : Int) ≤ i)
def badLetterD (K : PySem.W.Frag) (d : Nat) : List V → Hp → Addr → Prop := fun vs H C => ∃ r y t p, vs = [r, y, t, p] ∧ (Asks K H r y t C ∨ ∃ a R l, ∃ n : Nat, r = .ref a ∧ y = .str (enc l) ∧ t = .int (n : Int) ∧ Asked K H a R l n ∧ BadP K H p ((grow R n l).length + d) ∧ C = He.ga K "BadPlace")
theorem ox_letter (X : T K mg) : CalX P w K mg base 4 "letter" (spM noGood (badLetterD K 0)) := by
  refine calx_of X.d_letter sc_letter (fun _ _ _ _ _ _ us hl => match us, hl with | [_, _, _, _], _ => rfl) (fun vs H Q E h => ?_) (fun f cdv A outer s H vs Q E hr h tk => ?_)
  · rcases h with ⟨h, _⟩ | ⟨C, ⟨r, y, t, p, rfl, _⟩, _⟩
    · exact h.elim
    · rfl
  · rcases h with ⟨h, _⟩ | ⟨C, ⟨r, y, t, p, rfl, hA⟩, k⟩
    · exact h.elim
    refine ⟨_, pss_cons (ps_expr (pe_cx (ox_asked_rules X) hr (by decide) rfl tk (pa_cons (pv 0) pa_nil)))
      (pss_cons (ps_expr (pe_cx (ox_asked_row X) hr (by decide) rfl tk (pa_cons (pv 0) (pa_cons (pv 1) pa_nil))))
      (pss_cons (ps_expr (pe_cx (ox_asked_times X) hr (by decide) rfl tk (pa_cons (pv 2) pa_nil)))
      (pss_cons (ps_if (PW.pt (pw_or (pt_not (pt_val (C8.pe_c (ox_is_number X) hr (by decide) rfl (pa_cons (pv 3) (pa_cons pe_int pa_nil)))))
          (pw_or1 (pt_cmpR op_ge (pv 3) (C8.pe_c (ok_length X) hr (by decide) rfl (pa_cons (pv 0) (pa_cons (pv 1) (pa_cons (pv 2) pa_nil)))) (nomark _))))) (pss_one (ps_err X.x_BadPlace rfl tk (by exact rfl))) pss_nil) pss_never))), ?_⟩
    rcases hA with hA | ⟨a, R, l, n, rfl, rfl, rfl, hA, ⟨hp, hb⟩, rfl⟩
    · exact q_asks rfl rfl rfl hA k
    refine q_asked rfl rfl rfl hA fun H1 e => ?_
    have num := et_not (et_B (ev_spV (pre := preIsNumberX K) (E := E0) (σ := L2.start ["rules", "row", "times", "place"] [.ref a, .str (enc l), .int (n : Int), p]) (H := H1) (v := .bl (numB 0 p)) (ea_two (ev_var (i := 3) rfl) (ev_c (v := .int 0))) fun H3 e3 => ⟨p, 0, rfl, hp.ex (e.trans e3), rfl⟩))
    rcases hb with hb | ⟨i, rfl, hi⟩
    · exact q_err (et_is (et_or (b := false) num fun h => by rw [hb] at h; cases h) (by rw [hb]; rfl)) fun H2 e2 => k H2 (e.trans e2)
    · refine q_err (et_is (et_or num fun _ => et_test (ev_op (ev_var rfl) (ev_spV (v := .int ((grow R n l).length : Int)) (ea_three (ev_var rfl) (ev_var rfl) (ev_var rfl)) fun H4 e4 => ⟨a, R, l, n, rfl, hA.ex (e.trans e4), rfl⟩) rv_I0)) ?_) fun H2 e2 => k H2 (e.trans e2)
      simp [numB]
      omega
theorem ox_first (X : T K mg) : CalX P w K mg base 4 "first" (spM noGood (badLetterD K 1)) := by
  refine calx_of X.d_first sc_first (fun _ _ _ _ _ _ us hl => match us, hl with | [_, _, _, _], _ => rfl) (fun vs H Q E h => ?_) (fun f cdv A outer s H vs Q E hr h tk => ?_)
  · rcases h with ⟨h, _⟩ | ⟨C, ⟨r, y, t, p, rfl, _⟩, _⟩
    · exact h.elim
    · rfl
  · rcases h with ⟨h, _⟩ | ⟨C, ⟨r, y, t, p, rfl, hA⟩, k⟩
    · exact h.elim
    refine ⟨_, pss_cons (ps_expr (pe_cx (ox_asked_rules X) hr (by decide) rfl tk (pa_cons (pv 0) pa_nil)))
      (pss_cons (ps_expr (pe_cx (ox_asked_row X) hr (by decide) rfl tk (pa_cons (pv 0) (pa_cons (pv 1) pa_nil))))
      (pss_cons (ps_expr (pe_cx (ox_asked_times X) hr (by decide) rfl tk (pa_cons (pv 2) pa_nil)))
      (pss_cons (ps_if (PW.pt (pw_or (pt_not (pt_val (C8.pe_c (ox_is_number X) hr (by decide) rfl (pa_cons (pv 3) (pa_cons pe_int pa_nil)))))
          (pw_or1 (pt_cmpR op_gt (pv 3) (C8.pe_c (ok_length X) hr (by decide) rfl (pa_cons (pv 0) (pa_cons (pv 1) (pa_cons (pv 2) pa_nil)))) (nomark _))))) (pss_one (ps_err X.x_BadPlace rfl tk (by exact rfl))) pss_nil) pss_never))), ?_⟩
    rcases hA with hA | ⟨a, R, l, n, rfl, rfl, rfl, hA, ⟨hp, hb⟩, rfl⟩
    · exact q_asks rfl rfl rfl hA k
    refine q_asked rfl rfl rfl hA fun H1 e => ?_
    have num := et_not (et_B (ev_spV (pre := preIsNumberX K) (E := E0) (σ := L2.start ["rules", "row", "times", "many"] [.ref a, .str (enc l), .int (n : Int), p]) (H := H1) (v := .bl (numB 0 p)) (ea_two (ev_var (i := 3) rfl) (ev_c (v := .int 0))) fun H3 e3 => ⟨p, 0, rfl, hp.ex (e.trans e3), rfl⟩))
    rcases hb with hb | ⟨i, rfl, hi⟩
    · exact q_err (et_is (et_or (b := false) num fun h => by rw [hb] at h; cases h) (by rw [hb]; rfl)) fun H2 e2 => k H2 (e.trans e2)
    · refine q_err (et_is (et_or num fun _ => et_test (ev_op (ev_var rfl) (ev_spV (v := .int ((grow R n l).length : Int)) (ea_three (ev_var rfl) (ev_var rfl) (ev_var rfl)) fun H4 e4 => ⟨a, R, l, n, rfl, hA.ex (e.trans e4), rfl⟩) rv_I0)) ?_) fun H2 e2 => k H2 (e.trans e2)
      simp [numB]
      omega
end
end Gw


namespace Gw
open PySem PySem.Spec PyProof.Rows L2 Evl
section
variable {P : Program} {w : World} {K : PySem.W.Frag} {mg : Str → Option Value} {base : Heap}
/-! ### behind -/
def badBehind (K : PySem.W.Frag) : List V → Hp → Addr → Prop := fun vs H C => ∃ x y, vs = [x, y] ∧ ((BadR K H x ∧ C = He.ga K "BadRules") ∨ ∃ a R, x = .ref a ∧ RAt K H a R ∧ ((BadR K H y ∧ C = He.ga K "BadRules") ∨
  ∃ b S, y = .ref b ∧ RAt K H b S ∧ ((R.length ≠ S.length ∧ C = He.ga K "OtherRules") ∨ (R.length = S.length ∧ (∃ r, R[0]? = some r ∧ 100000 < (once S r).length) ∧ C = He.ga K "TooLong"))))
theorem ox_behind (X : T K mg) : CalX P w K mg base 3 "behind" (spM noGood (badBehind K)) := by
  refine calx_of X.d_behind sc_behind (fun _ _ _ _ _ _ us hl => match us, hl with | [_, _], _ => rfl) (fun vs H Q E h => ?_) (fun f cdv A outer s H vs Q E hr h tk => ?_)
  · rcases h with ⟨h, _⟩ | ⟨C, ⟨x, y, rfl, _⟩, _⟩
    · exact h.elim
    · rfl
  · rcases h with ⟨h, _⟩ | ⟨C, ⟨x, y, rfl, hA⟩, k⟩
    · exact h.elim
    have nd := sc_behind.nd
    refine ⟨_, pss_cons (ps_expr (pe_cx (ox_asked_rules X) hr (by decide) rfl tk (pa_cons (pv 0) pa_nil)))
      (pss_cons (ps_expr (pe_cx (ox_asked_rules X) hr (by decide) rfl tk (pa_cons (pv 1) pa_nil)))
      (pss_cons (ps_if (pt_cmpR op_ne (pe_len X.z_len (pv 0)) (pe_len X.z_len (pv 1)) (nomark _)) (pss_one (ps_err X.x_OtherRules rfl tk (by exact rfl))) pss_nil)
      (pss_cons (ps_for (passes_of rfl) rfl (pi_list (pv 0)) (pg_name (i := 2) nd rfl (Or.inl rfl))
        (pss_one (ps_if (pt_cmpR op_gt (pe_sum rfl X.z_sum (pe_lc (own := [("letter", 3)]) (g := gName 3) (tt := tYes) (te := tLenT (tOp (rIxL K) (tVar 1) (tIdx K (tVar 3)))) (by rfl) nd (pi_str (pv 2)) (blkOk_by (N := nBehind) (sc := defScope sBehind) (by decide +kernel))
          (fun _ _ _ _ _ => pg_name (i := 3) nd rfl (Or.inl rfl)) (fun _ _ _ _ _ => pts_nil)
          (fun _ _ _ _ _ => pe_lenT X.z_len (pe_ix ix_list (pv 1) (pe_idx (C8.pe_gc (by exact rfl) X.LETTERS) (pv 3)) (fun _ _ => rfl))))) (C8.pe_gc (by exact rfl) X.LONGEST) (nomark _)) (pss_one (ps_err X.x_TooLong rfl tk (by exact rfl))) pss_nil))) pss_never))), ?_⟩
    rcases hA with ⟨hx, rfl⟩ | ⟨a, R, rfl, hR, ⟨hy, rfl⟩ | ⟨b, S, rfl, hS, hA⟩⟩
    · exact q_askR rfl hx k
    · exact q_okR rfl hR fun H1 e1 => q_askR rfl (hy.ex e1) fun H2 e2 => k H2 (e1.trans e2)
    refine q_okR rfl hR fun H1 e1 => q_okR rfl (hS.ex e1) fun H2 e2 => ?_
    have e := e1.trans e2
    have hne := et_test (ev_op (ev_len (K := K) (σ := L2.start nBehind [.ref a, .ref b]) (H := H2) (ev_var (i := 0) rfl) (ex_l e hR.at_)) (ev_len (ev_var (i := 1) rfl) (ex_l e hS.at_)) (rv_ne rfl))
    rcases hA with ⟨hl, rfl⟩ | ⟨hl, ⟨r, hr0, hbig⟩, rfl⟩
    · refine q_err (et_is hne ?_) fun H3 e3 => k H3 (e.trans e3)
      rw [RL_len, RL_len]
      have : ¬ ((R.length : Int) = (S.length : Int)) := by omega
      simp [this]
    refine q_pass (et_is hne ?_) fun H3 e3 => ?_
    · rw [RL_len, RL_len, hl]
      simp
    have e3 := e.trans e3
    have rowS : ∀ r ∈ R, RowOk S.length r := fun r hr => hl ▸ hR.ok.rows r hr
    refine q_forLn (ev_var rfl) (ex_l e3 hR.at_) (fun i σ' H' => i = 0 ∧ ∃ u, σ' = [some (.ref a), some (.ref b), u, none] ∧ Ex H H') (fun H4 e4 => ⟨rfl, none, rfl, e3.trans e4⟩) (fun i σ' H' _ ⟨_, _, _, eH⟩ => ex_l eH hR.at_) ?_ ?_
    · rintro i x σ' H' hx ⟨rfl, u, rfl, eH⟩
      obtain ⟨r', hr1, rfl⟩ := RL_get hx
      rw [hr0] at hr1
      cases hr1
      have hm := List.mem_of_getElem? hr0
      have hrow := rowS r hm
      have hL : EvL (tLc (iStr (tVar 2)) (gName 3) tYes (tLenT (tOp (rIxL K) (tVar 1) (tIdx K (tVar 3)))) [3]) ([some (.ref a), some (.ref b), some (.str (enc r)), none] : L2.St) H' ((r.map fun n => ((ruleOf S n).length : Int)).map V.int) := by
        rw [List.map_map]
        refine el_str (K := K) (ev_var rfl) _ (Nat.lt_of_le_of_lt (hR.sz r hm) (by decide)) (fun _ => rfl) fun n hn H5 e5 => ?_
        refine ev_lenE (ev_ix (ev_var rfl) (ex_l (eH.trans e5) hS.at_) (tidx rfl (Nat.lt_of_lt_of_le (hrow n hn) hS.ok.few)) (RL_at (hrow n hn))) ?_
        exact Nat.le_trans (hS.sz _ (List.mem_of_getElem? (rule_get (hrow n hn)))) (by decide)
      refine s_err (et_is (et_test (ev_op (ev_sumN hL) ev_c rv_I0)) ?_) fun H5 e5 => k H5 (eH.trans e5)
      rw [once_length]
      simp
      omega
    · rintro σ' H' ⟨h0, u, rfl, eH⟩
      rw [RL_len] at h0
      have := hR.ok.pos
      omega
/-! ### comes, lengths -/
def badComes (K : PySem.W.Frag) : List V → Hp → Addr → Prop := fun vs H C => ∃ r x y, vs = [r, x, y] ∧ ((BadR K H r ∧ C = He.ga K "BadRules") ∨ ∃ a R, r = .ref a ∧ RAt K H a R ∧ AnyR K H x ∧ (((rowB R.length x && oneB x) = false ∧ C = He.ga K "BadLetter") ∨
  (rowB R.length x = true ∧ oneB x = true ∧ AnyR K H y ∧ (rowB R.length y && oneB y) = false ∧ C = He.ga K "BadLetter")))
theorem ox_comes (X : T K mg) : CalX P w K mg base 3 "comes" (spM noGood (badComes K)) := by
  refine calx_of X.d_comes sc_comes (fun _ _ _ _ _ _ us hl => match us, hl with | [_, _, _], _ => rfl) (fun vs H Q E h => ?_) (fun f cdv A outer s H vs Q E hr h tk => ?_)
  · rcases h with ⟨h, _⟩ | ⟨C, ⟨r, x, y, rfl, _⟩, _⟩
    · exact h.elim
    · rfl
  · rcases h with ⟨h, _⟩ | ⟨C, ⟨r, x, y, rfl, hA⟩, k⟩
    · exact h.elim
    refine ⟨_, pss_cons (ps_expr (pe_cx (ox_asked_rules X) hr (by decide) rfl tk (pa_cons (pv 0) pa_nil)))
      (pss_cons (ps_expr (pe_cx (ox_asked_letter X) hr (by decide) rfl tk (pa_cons (pv 0) (pa_cons (pv 1) pa_nil))))
      (pss_cons (ps_expr (pe_cx (ox_asked_letter X) hr (by decide) rfl tk (pa_cons (pv 0) (pa_cons (pv 2) pa_nil)))) pss_never)), ?_⟩
    rcases hA with ⟨hx, rfl⟩ | ⟨a, R, rfl, hR, hx, ⟨hb, rfl⟩ | ⟨hb, ho, hy, hc, rfl⟩⟩
    · exact q_askR rfl hx k
    · exact q_okR rfl hR fun H1 e1 => q_askL rfl rfl (hR.ex e1) (hx.ex e1) hb fun H2 e2 => k H2 (e1.trans e2)
    · exact q_okR rfl hR fun H1 e1 => q_okL rfl rfl (hR.ex e1) (hx.ex e1) hb ho fun H2 e2 => q_askL rfl rfl (hR.ex (e1.trans e2)) (hy.ex (e1.trans e2)) hc fun H3 e3 => k H3 ((e1.trans e2).trans e3)
abbrev nLnX : List Str := ["rules", "one", "other", "many", "table"]
theorem sc_lengthsX : FnScope nLnX ["rules", "one", "other"] (defScope sLengths) := ⟨rfl, rfl, rfl, by decide +kernel, rfl, by decide +kernel, by decide +kernel⟩
def badLengths (K : PySem.W.Frag) : List V → Hp → Addr → Prop := fun vs H C => ∃ r x y, vs = [r, x, y] ∧ ((BadR K H r ∧ C = He.ga K "BadRules") ∨ ∃ a R, r = .ref a ∧ RAt K H a R ∧ AnyR K H x ∧ ((rowB R.length x = false ∧ C = He.ga K "BadRow") ∨
  (rowB R.length x = true ∧ AnyR K H y ∧ rowB R.length y = false ∧ C = He.ga K "BadRow")))
theorem ox_lengths (X : T K mg) : CalX P w K mg base 3 "lengths" (spM noGood (badLengths K)) := by
  refine calx_of X.d_lengths sc_lengthsX (fun _ _ _ _ _ _ us hl => match us, hl with | [_, _, _], _ => rfl) (fun vs H Q E h => ?_) (fun f cdv A outer s H vs Q E hr h tk => ?_)
  · rcases h with ⟨h, _⟩ | ⟨C, ⟨r, x, y, rfl, _⟩, _⟩
    · exact h.elim
    · rfl
  · rcases h with ⟨h, _⟩ | ⟨C, ⟨r, x, y, rfl, hA⟩, k⟩
    · exact h.elim
    refine ⟨_, pss_cons (ps_expr (pe_cx (ox_asked_rules X) hr (by decide) rfl tk (pa_cons (pv 0) pa_nil)))
      (pss_cons (ps_expr (pe_cx (ox_asked_row X) hr (by decide) rfl tk (pa_cons (pv 0) (pa_cons (pv 1) pa_nil))))
      (pss_cons (ps_expr (pe_cx (ox_asked_row X) hr (by decide) rfl tk (pa_cons (pv 0) (pa_cons (pv 2) pa_nil)))) pss_never)), ?_⟩
    rcases hA with ⟨hx, rfl⟩ | ⟨a, R, rfl, hR, hx, ⟨hb, rfl⟩ | ⟨hb, hy, hc, rfl⟩⟩
    · exact q_askR rfl hx k
    · exact q_okR rfl hR fun H1 e1 => q_askB rfl rfl (hR.ex e1) (hx.ex e1) hb fun H2 e2 => k H2 (e1.trans e2)
    · exact q_okR rfl hR fun H1 e1 => q_okB rfl rfl (hR.ex e1) (hx.ex e1) hb fun H2 e2 => q_askB rfl rfl (hR.ex (e1.trans e2)) (hy.ex (e1.trans e2)) hc fun H3 e3 => k H3 ((e1.trans e2).trans e3)
end
end Gw

namespace Gw
open PySem PySem.Spec PyProof.Rows L2 Evl
/-! ### lists of things that a word holds of -/
section
variable {K : PySem.W.Frag} {σ : L2.St} {H : Hp} {te : TE} {ta : TA} {D : Ends} {tz : TS} {P : V → Hp → Prop}
def EvP (te : TE) (σ : L2.St) (H : Hp) (P : V → Hp → Prop) : Prop := ∀ H1, Ex H H1 → ∀ Q : VK, (∀ v H2, Ex H1 H2 → P v H2 → Q v H2) → te σ H1 Q
def EvAP (ta : TA) (σ : L2.St) (H : Hp) (n : Nat) (P : V → Hp → Prop) : Prop := ∀ H1, Ex H H1 → ∀ Q : List V → Hp → Prop, (∀ vs H2, Ex H1 H2 → vs.length = n → (∀ v ∈ vs, P v H2) → Q vs H2) → ta σ H1 Q
def EvLP (te : TE) (σ : L2.St) (H : Hp) (n : Nat) (P : V → Hp → Prop) : Prop := ∀ H1, Ex H H1 → ∀ Q : VK, (∀ p vs Hb H2, H1 p = none → Ex H1 Hb → Hb p = none → Ex Hb H2 → H2 p = some (.lst vs) → vs.length = n → (∀ v ∈ vs, P v Hb) → Q (.ref p) H2) → te σ H1 Q
theorem eap_nil : EvAP tNil σ H 0 P := fun H1 e Q q => q [] H1 (Ex.refl _) rfl fun v hv => absurd hv (by simp)
theorem eap_cons {n : Nat} {tr : TA} (m : ∀ v H H', Ex H H' → P v H → P v H') (h : EvP te σ H P) (hr : EvAP tr σ H n P) : EvAP (tCons te tr) σ H (n + 1) P := fun H1 e Q q => h H1 e _ fun v H2 e2 hv => hr H2 (e.trans e2) _ fun vs H3 e3 hl hP =>
  q (v :: vs) H3 (e2.trans e3) (by rw [List.length_cons, hl]) fun w hw => by
    rcases List.mem_cons.mp hw with rfl | hw
    · exact m _ _ _ e3 hv
    · exact hP w hw
theorem elp_lst {n : Nat} (h : EvAP ta σ H n P) (hn : n ≤ 100000) : EvLP (tLst ta) σ H n P := fun H1 e Q q => h H1 e _ fun vs H2 e2 hl hP => ⟨by rw [hl]; exact sz_of hn, fun p hp => q p vs H2 _ (fresh_back e2 hp) e2 hp (Ex.new hp) upd_same hl hP⟩
theorem q_asgLP {n i : Nat} (h : EvLP te σ H n P) (k : ∀ p vs Hb H2, H p = none → Ex H Hb → Hb p = none → Ex Hb H2 → H2 p = some (.lst vs) → vs.length = n → (∀ v ∈ vs, P v Hb) → tz D (σ.set i (some (.ref p))) H2) : tSeq (tAsg te (gName i)) tz D σ H := h H (Ex.refl H) _ k
/-- an old list and a new one behind it -/
theorem q_forLP {n : Nat} {g : TG} {bd : TS} (h : EvLP te σ H n P) (Pv : Addr → List V → Hp → Nat → L2.St → Hp → Prop) (h0 : ∀ p vs H1, H p = none → Ex H H1 → H1 p = some (.lst vs) → vs.length = n → (∀ v ∈ vs, P v H1) → Pv p vs H1 0 σ H1) (m : ∀ v H H', Ex H H' → P v H → P v H')
    (hl : ∀ p vs H1 i σ' H', Pv p vs H1 i σ' H' → SqL K H' p vs) (hs : ∀ p vs H1 i x σ' H', vs[i]? = some x → P x H1 → Pv p vs H1 i σ' H' → g x σ' H' fun σ2 H2 => bd { D with nx := Pv p vs H1 (i + 1), ct := Pv p vs H1 (i + 1), bk := tz D } σ2 H2) (hd : ∀ p vs H1 σ' H', Pv p vs H1 vs.length σ' H' → tz D σ' H') : tSeq (tFor (iList K te) g bd) tz D σ H :=
  h H (Ex.refl H) _ fun p vs Hb H2 hp eb hbn e2 h2 hvl hP => ⟨p, rfl, ⟨vs, sq_of h2⟩, for_it (D := { D with nx := tz D }) (walk_list (K := K) (a := p) (xs := vs)) (Pv p vs H2) (h0 p vs H2 hp (eb.trans e2) h2 hvl fun v hv => m _ _ _ e2 (hP v hv)) (fun i σ' H' _ pv => hl p vs H2 i σ' H' pv) (fun i x σ' H' H'' hi pv y => by
    obtain ⟨rfl, hx⟩ := y
    exact hs p vs H2 i x σ' H'' hx (m _ _ _ e2 (hP x (List.mem_of_getElem? hx))) pv) (fun σ' H' pv => hd p vs H2 σ' H' pv)⟩
theorem s_forLP {n : Nat} {g : TG} {bd : TS} (h : EvLP te σ H n P) (Pv : Addr → List V → Hp → Nat → L2.St → Hp → Prop) (h0 : ∀ p vs H1, H p = none → Ex H H1 → H1 p = some (.lst vs) → vs.length = n → (∀ v ∈ vs, P v H1) → Pv p vs H1 0 σ H1) (m : ∀ v H H', Ex H H' → P v H → P v H')
    (hl : ∀ p vs H1 i σ' H', Pv p vs H1 i σ' H' → SqL K H' p vs) (hs : ∀ p vs H1 i x σ' H', vs[i]? = some x → P x H1 → Pv p vs H1 i σ' H' → g x σ' H' fun σ2 H2 => bd { D with nx := Pv p vs H1 (i + 1), ct := Pv p vs H1 (i + 1), bk := D.nx } σ2 H2) (hd : ∀ p vs H1 σ' H', Pv p vs H1 vs.length σ' H' → D.nx σ' H') : tFor (iList K te) g bd D σ H :=
  h H (Ex.refl H) _ fun p vs Hb H2 hp eb hbn e2 h2 hvl hP => ⟨p, rfl, ⟨vs, sq_of h2⟩, for_it (walk_list (K := K) (a := p) (xs := vs)) (Pv p vs H2) (h0 p vs H2 hp (eb.trans e2) h2 hvl fun v hv => m _ _ _ e2 (hP v hv)) (fun i σ' H' _ pv => hl p vs H2 i σ' H' pv) (fun i x σ' H' H'' hi pv y => by
    obtain ⟨rfl, hx⟩ := y
    exact hs p vs H2 i x σ' H'' hx (m _ _ _ e2 (hP x (List.mem_of_getElem? hx))) pv) (fun σ' H' pv => hd p vs H2 σ' H' pv)⟩
theorem q_asgCat {n i : Nat} {tb : TE} {a : Addr} {vs : List V} (m : ∀ v H H', Ex H H' → P v H → P v H') (h : Ev te σ H (.ref a)) (ha : H a = some (.lst vs)) (hv : ∀ v ∈ vs, P v H) (hb : EvLP tb σ H n P) (hz : vs.length + n ≤ sizeLine)
    (k : ∀ p ws H2, H p = none → Ex H H2 → H2 p = some (.lst ws) → (∀ v ∈ ws, P v H2) → tz D (σ.set i (some (.ref p))) H2) : tSeq (tAsg (tOp rCat te tb) (gName i)) tz D σ H := h H (Ex.refl H) _ fun H1 e1 => hb H1 e1 _ fun b ws Hb H2 hb0 eb hbn e2 h2 hl hP =>
  ⟨a, b, vs, ws, rfl, rfl, (e1.trans (eb.trans e2)) _ _ ha, h2, by rw [hl]; exact hz, fun p hp => k p (vs ++ ws) _ (fresh_back (e1.trans (eb.trans e2)) hp) ((e1.trans (eb.trans e2)).trans (Ex.new hp)) upd_same fun v hv' => by
    rcases List.mem_append.mp hv' with hv' | hv'
    · exact m _ _ _ ((e1.trans (eb.trans e2)).trans (Ex.new hp)) (hv v hv')
    · exact m _ _ _ (e2.trans (Ex.new hp)) (hP v hv')⟩
theorem q_appT3 {l : Addr} {xs ys : List V} {t1 t2 t3 to : TE} {y z : V} (hl : H l = some (.lst xs)) (ho : Ev to σ H (.ref l)) (h1 : EvL t1 σ H ys) (h2 : Ev t2 σ H y) (h3 : Ev t3 σ H z) (hz : xs.length < 100000)
    (k : ∀ p T H1, H p = none → H T = none → Ex H H1 → H1 p = some (.lst ys) → H1 T = some (.tup [.ref p, y, z]) → tz D σ (upd H1 l (.lst (xs ++ [.ref T])))) :
    tSeq (tDrop (tBM K "list" rAppend to (tCons (tTup (tCons t1 (tCons t2 (tCons t3 tNil)))) tNil))) tz D σ H := ho H (Ex.refl H) _ fun H1 e1 =>
  ⟨Or.inl ⟨rfl, xs, sq_of (e1 l _ hl)⟩, h1 H1 e1 _ fun p H2 hp e2 hp2 => h2 H2 (e1.trans e2) _ fun H3 e3 => h3 H3 ((e1.trans e2).trans e3) _ fun H4 e4 => ⟨by show 3 ≤ sizeLine; decide, fun T hT => by
    have e := ((e1.trans e2).trans e3).trans e4
    refine ⟨l, xs, .ref T, rfl, rfl, (e.trans (Ex.new hT)) l _ hl, sz_lt hz, k p T _ (fresh_back e1 hp) (fresh_back e hT) (e.trans (Ex.new hT)) ((e3.trans e4).trans (Ex.new hT) _ _ hp2) upd_same⟩⟩⟩
end
section
variable {K : PySem.W.Frag} {σ : L2.St} {H H' : Hp} {te : TE} {t : TT} {ta : TA} {wi : TI} {g : TG} {n j : Nat} {Y : Nat → Hp → V → Hp → Prop} {D : Ends} {tb tz : TS}
theorem s_forW (w : WI wi σ H n Y) (Pv : Hp → Nat → L2.St → Hp → Prop) (h0 : ∀ H1, Ex H H1 → Pv H1 0 σ H1) (hex : ∀ H1 i σ' H', Pv H1 i σ' H' → Ex H1 H')
    (hs : ∀ H1 i x σ' H' H'', i < n → Pv H1 i σ' H' → Y i H' x H'' → g x σ' H'' fun σ2 H2 => tb { D with nx := Pv H1 (i + 1), ct := Pv H1 (i + 1), bk := D.nx } σ2 H2) (hd : ∀ H1 σ' H', Pv H1 n σ' H' → D.nx σ' H') : tFor wi g tb D σ H :=
  w.go H (Ex.refl H) _ fun J G H2 e2 wk hG => for_it wk (Pv H2) (h0 H2 e2) (fun i σ' H' _ p => hG H' (hex H2 i σ' H' p)) (fun i x σ' H' H'' hi p y => hs H2 i x σ' H' H'' hi p y) (hd H2)
theorem q_forW (w : WI wi σ H n Y) (Pv : Hp → Nat → L2.St → Hp → Prop) (h0 : ∀ H1, Ex H H1 → Pv H1 0 σ H1) (hex : ∀ H1 i σ' H', Pv H1 i σ' H' → Ex H1 H')
    (hs : ∀ H1 i x σ' H' H'', i < n → Pv H1 i σ' H' → Y i H' x H'' → g x σ' H'' fun σ2 H2 => tb { D with nx := Pv H1 (i + 1), ct := Pv H1 (i + 1), bk := tz D } σ2 H2) (hd : ∀ H1 σ' H', Pv H1 n σ' H' → tz D σ' H') : tSeq (tFor wi g tb) tz D σ H :=
  s_forW (D := { D with nx := tz D }) w Pv h0 hex hs hd
end
end Gw

namespace Gw
open PySem PySem.Spec PyProof.Rows L2 Evl
/-! ### a call of what an expression hands back -/
def tCallF (fs : Addr → Sp → Prop) (E : L2.St → XK) (te : TE) (t : TA) : TE := fun σ H Q => te σ H fun v H1 => ∃ f sp, v = .ref f ∧ fs f sp ∧ t σ H1 fun vs H2 => sp vs H2 Q (E σ)
theorem pe_callF {X : Cx} {W : WX} {j k : Nat} {fs : Addr → Sp → Prop} {func e : Expr} {es : List Expr} {pos : Pos} {te : TE} {t : TA} (hF : ∀ f sp, fs f sp → ∃ fd ps, FnOk X.prog X.w X.K X.mg X.base (L2.CX X.prog X.w) k f fd ps sp ∧ PySem.W.keepIn X.K (.ref f) = true ∧ Binds X.K fd ps [])
    (hr : Room j X.A) (hk : k ≤ j) (tk : Takes X W) (hf : PE X func te) (ha : PA X (e :: es) t)
    (hev : eval (.Call func (e :: es) [] pos) X.env = (do callWith pos (← eval func X.env) [] (backTo pos (starEach (e :: es) X.env)) (backToKw pos (keywordEach [] X.env))) := by rfl)
    (he : starEach (e :: es) X.env = (false, eval e X.env) :: starEach es X.env := by rfl) (hpl : (backTo pos (starEach es X.env)).any (·.1) = false := by rfl) :
    PE X (.Call func (e :: es) [] pos) (tCallF fs (WE W) te t) := by
  refine ⟨fun pins s σ H Q I h => ?_⟩
  rw [hev]
  refine wpAny_bind (thn (hf.run pins s σ H _ I h) fun u s1 ⟨v, H1, I1, r1, q1⟩ => ?_)
  obtain ⟨f, sp, ev, hfs, q1⟩ := q1
  subst ev
  cases r1
  obtain ⟨fd, ps, F, kp, b⟩ := hF f sp hfs
  refine PySem.W.callWith_K (h₀ := X.base) I.ok.mod.kin kp (thn (ha.run pos pins s1 σ H1 _ I1 q1) fun us s2 ⟨vs, H2, I2, r, q⟩ => ⟨I2.kIn, ?_⟩) he hpl
  exact run_fnS (E := WE W) F (hr.mono hk) b (passAt tk σ) I2 r q
section
variable {K : PySem.W.Frag} {σ : L2.St} {H : Hp} {te tf ti tb ta' : TE} {ta : TA} {t : TT} {W : WX} {vs xs : List V} {C f : Addr} {good : List V → Hp → Prop} {bad : List V → Hp → Addr → Prop} {v : V} {fs : Addr → Sp → Prop} {P : V → Hp → Prop} {n : Nat} {i : Int}
theorem ra_callF (hf : Ev tf σ H (.ref f)) (hs : fs f (spM good bad)) (h : EvA ta σ H vs) (hb : ∀ H1, Ex H H1 → bad vs H1 C) (k : ∀ H1, Ex H H1 → W (.ref C) none σ H1) : Ra (tCallF fs (WE W) tf ta) σ H := fun H1 e Q =>
  hf H1 e _ fun H2 e2 => ⟨f, _, rfl, hs, h H2 (e.trans e2) _ fun H3 e3 => .inr ⟨C, hb H3 ((e.trans e2).trans e3), fun H4 e4 => k H4 (((e.trans e2).trans e3).trans e4)⟩⟩
theorem ra_if {b : Bool} {tx ty : TE} (h : EvT t σ H b) (h1 : b = true → Ra tx σ H) (h2 : b = false → Ra ty σ H) : Ra (tIf t tx ty) σ H := fun H1 e Q => h H1 e _ fun H2 e2 => by
  cases b with
  | true => exact h1 rfl H2 (e.trans e2) Q
  | false => exact h2 rfl H2 (e.trans e2) Q
theorem ra_spN {tx ty : TE} {y : V} (ha : EvL tx σ H xs) (hb : Ev ty σ H y) (hB : ∀ b H1, Ex H H1 → H1 b = some (.lst xs) → bad [.ref b, y] H1 C) (k : ∀ H1, Ex H H1 → W (.ref C) none σ H1) : Ra (tCallS (spM good bad) (WE W) (tCons tx (tCons ty tNil))) σ H := fun H1 e Q =>
  ha H1 e _ fun b H2 _ e2 h2 => hb H2 (e.trans e2) _ fun H3 e3 => .inr ⟨C, hB b H3 ((e.trans e2).trans e3) (e3 _ _ h2), fun H4 e4 => k H4 (((e.trans e2).trans e3).trans e4)⟩
theorem ra_spNN {tx ty : TE} {ys : List V} (ha : EvL tx σ H xs) (hb : EvL ty σ H ys) (hB : ∀ b c H1, Ex H H1 → H1 b = some (.lst xs) → H1 c = some (.lst ys) → bad [.ref b, .ref c] H1 C) (k : ∀ H1, Ex H H1 → W (.ref C) none σ H1) : Ra (tCallS (spM good bad) (WE W) (tCons tx (tCons ty tNil))) σ H := fun H1 e Q =>
  ha H1 e _ fun b H2 _ e2 h2 => hb H2 (e.trans e2) _ fun c H3 _ e3 h3 => .inr ⟨C, hB b c H3 ((e.trans e2).trans e3) (e3 _ _ h2) h3, fun H4 e4 => k H4 (((e.trans e2).trans e3).trans e4)⟩
/-- the first argument a new list, then two, three more -/
theorem ra_spN3 {tx ty tz : TE} {y z : V} (ha : EvL tx σ H xs) (hb : Ev ty σ H y) (hc : Ev tz σ H z) (hB : ∀ b H1, Ex H H1 → H1 b = some (.lst xs) → bad [.ref b, y, z] H1 C) (k : ∀ H1, Ex H H1 → W (.ref C) none σ H1) : Ra (tCallS (spM good bad) (WE W) (tCons tx (tCons ty (tCons tz tNil)))) σ H := fun H1 e Q =>
  ha H1 e _ fun b H2 _ e2 h2 => hb H2 (e.trans e2) _ fun H3 e3 => hc H3 ((e.trans e2).trans e3) _ fun H4 e4 => .inr ⟨C, hB b H4 (((e.trans e2).trans e3).trans e4) ((e3.trans e4) _ _ h2), fun H5 e5 => k H5 ((((e.trans e2).trans e3).trans e4).trans e5)⟩
/-! ### things that a word holds of -/
theorem ep_ev (h : Ev te σ H v) (hp : ∀ H1, Ex H H1 → P v H1) : EvP te σ H P := fun H1 e Q q => h H1 e _ fun H2 e2 => q v H2 e2 (hp H2 (e.trans e2))
theorem ep_el (h : EvL te σ H xs) (hp : ∀ p H1, Ex H H1 → H1 p = some (.lst xs) → P (.ref p) H1) : EvP te σ H P := fun H1 e Q q => h H1 e _ fun p H2 _ e2 h2 => q (.ref p) H2 e2 (hp p H2 (e.trans e2) h2)
theorem ep_eu (h : EvU te σ H xs) (hp : ∀ p H1, Ex H H1 → H1 p = some (.tup xs) → P (.ref p) H1) : EvP te σ H P := fun H1 e Q q => h H1 e _ fun p H2 _ e2 h2 => q (.ref p) H2 e2 (hp p H2 (e.trans e2) h2)
theorem atI_some {ys : List V} (h0 : 0 ≤ i) (hi : i < (ys.length : Int)) : ∃ v, atI ys i = some v ∧ v ∈ ys := by
  obtain ⟨k, rfl⟩ := Int.eq_ofNat_of_zero_le h0
  have hk : k < ys.length := by omega
  exact ⟨ys[k], atI_nat (List.getElem?_eq_getElem hk), List.getElem_mem hk⟩
theorem ep_ixL (m : ∀ v H H', Ex H H' → P v H → P v H') (h : EvLP te σ H n P) (hi : Ev ti σ H (.int i)) (h0 : 0 ≤ i) (hn : i < (n : Int)) : EvP (tOp (rIxL K) te ti) σ H P := fun H1 e Q q =>
  h H1 e _ fun p vs Hb H2 hp eb hbn e2 h2 hl hP => hi H2 (e.trans (eb.trans e2)) _ fun H3 e3 => by
    obtain ⟨v, hv1, hv2⟩ := atI_some (ys := vs) (i := i) h0 (by rw [hl]; exact hn)
    exact ⟨p, vs, i, v, rfl, rfl, sq_of (e3 _ _ h2), hv1, q v H3 ((eb.trans e2).trans e3) (m _ _ _ (e2.trans e3) (hP v hv2))⟩
theorem elp_cat {a : Addr} {ys : List V} {k : Nat} (m : ∀ v H H', Ex H H' → P v H → P v H') (h : Ev te σ H (.ref a)) (ha : H a = some (.lst ys)) (hv : ∀ v ∈ ys, P v H) (hb : EvLP tb σ H n P) (hk : ys.length + n = k) (hz : ys.length + n ≤ sizeLine) : EvLP (tOp rCat te tb) σ H k P := fun H0 e0 Q q =>
  h H0 e0 _ fun H1 e1 => hb H1 (e0.trans e1) _ fun b ws Hb H2 hb0 eb hbn e2 h2 hl hP => ⟨a, b, ys, ws, rfl, rfl, ((e0.trans e1).trans (eb.trans e2)) _ _ ha, h2, by rw [hl]; exact hz, fun p hp =>
    q p (ys ++ ws) H2 _ (fresh_back (e1.trans (eb.trans e2)) hp) (e1.trans (eb.trans e2)) hp (Ex.new hp) upd_same (by rw [List.length_append, hl, hk]) fun v hv' => by
      rcases List.mem_append.mp hv' with hv' | hv'
      · exact m _ _ _ ((e0.trans e1).trans (eb.trans e2)) (hv v hv')
      · exact m _ _ _ e2 (hP v hv')⟩
theorem el_rep {k : Int} (ha : EvL te σ H xs) (hb : Ev tb σ H (.int k)) (h0 : 0 ≤ k) (h1 : k ≤ 1000) (hz : xs.length * k.toNat ≤ sizeLine) : EvL (tOp rRep te tb) σ H (List.replicate k.toNat xs).flatten := fun H1 e Q q =>
  ha H1 e _ fun a H2 ha0 e2 h2 => hb H2 (e.trans e2) _ fun H3 e3 => ⟨a, k, xs, rfl, rfl, e3 _ _ h2, by omega, by omega, hz, fun p hp => q p _ (fresh_back (e2.trans e3) hp) ((e2.trans e3).trans (Ex.new hp)) upd_same⟩
theorem q_asgP {D : Ends} {tz : TS} {j : Nat} (h : EvP te σ H P) (k : ∀ v H1, Ex H H1 → P v H1 → tz D (σ.set j (some v)) H1) : tSeq (tAsg te (gName j)) tz D σ H := h H (Ex.refl H) _ k
/-! ### no rules, no row .. of the text -/
def PR (K : PySem.W.Frag) : V → Hp → Prop := fun v H => BadR K H v
theorem PR.mono : ∀ v H H', Ex H H' → PR K v H → PR K v H' := fun _ _ _ e h => BadR.ex h e
theorem anyR_str {z : Str} (hz : z.length ≤ 100000) : AnyR K H (.str z) := .inl ⟨z, rfl, sz_of hz⟩
theorem anyR_non : AnyR K H .non := .inr ⟨⟨_, .base .non, isi_sx.1⟩, fun _ => rfl⟩
theorem pr_ty {S : String} (h : TyX K H v (.type S)) (hk : kitB S "list" = some false) : PR K v H := .inl ⟨S, h, hk⟩
theorem pr_lst {p : Addr} (h : H p = some (.lst xs)) (hn : xs.length ≤ 1000) (hb : xs.length = 0 ∨ 26 < xs.length ∨ ((∀ y ∈ xs, AnyR K H y) ∧ xs.all (rowB xs.length) = false)) : PR K (.ref p) H := .inr ⟨p, xs, rfl, sq_of h, Nat.lt_of_le_of_lt hn (by decide), hb⟩
end
end Gw

namespace Gw
open PySem PySem.Spec PyProof.Rows L2 Evl
section
variable {P : Program} {w : World} {K : PySem.W.Frag} {mg : Str → Option Value} {base : Heap}
abbrev nQ1 : List Str := ["_law_which", "_law_more", "_law_bad", "_law_door"]
theorem sc_q1 : FnScope nQ1 ["_law_which", "_law_more"] (defScope sLaw_rules_asked) := ⟨rfl, rfl, rfl, by decide +kernel, rfl, by decide +kernel, by decide +kernel⟩
/-- a helper of the law, that always refuses -/
def badQ (C : Nat → Int → Int → Addr) (k : Nat) : List V → Hp → Addr → Prop := fun vs _ D => ∃ w m : Int, vs = [.int w, .int m] ∧ 0 ≤ w ∧ w < 100000 ∧ 0 ≤ m ∧ m < 1000 ∧ D = C k w m
theorem oneA {K : PySem.W.Frag} {H : Hp} {b : Addr} (h : H b = some (.lst [.str (Str.ofString "a")])) : RAt K H b [[0]] := ⟨sq_of h, ⟨by decide, by decide, fun r hr => by
  rw [List.mem_singleton.mp hr]
  exact one_row (by decide)⟩, fun r hr => by
  rw [List.mem_singleton.mp hr]
  decide⟩
theorem mem2 {p : V → Prop} {x y : V} (hx : p x) (hy : p y) : ∀ z ∈ [x, y], p z := fun z hz => by
  rcases List.mem_cons.mp hz with rfl | hz
  · exact hx
  · rw [List.mem_singleton.mp hz]
    exact hy
theorem mem1 {p : V → Prop} {x : V} (hx : p x) : ∀ z ∈ [x], p z := fun z hz => by
  rw [List.mem_singleton.mp hz]
  exact hx
theorem ox_q1 (X : T K mg) : CalX P w K mg base 5 "_law_rules_asked" (spM noGood (badQ (fun _ _ _ => He.ga K "BadRules") 0)) := by
  refine calx_of X.d_law_rules_asked sc_q1 (fun _ _ _ _ _ _ us hl => match us, hl with | [_, _], _ => rfl) (fun vs H Q E h => ?_) (fun f cdv A outer s H vs Q E hr h tk => ?_)
  · rcases h with ⟨h, _⟩ | ⟨C, ⟨r, y, rfl, _⟩, _⟩
    · exact h.elim
    · rfl
  · rcases h with ⟨h, _⟩ | ⟨C, ⟨wh, mo, rfl, hw0, hw1, hm0, hm1, rfl⟩, k⟩
    · exact h.elim
    have nd := sc_q1.nd
    obtain ⟨f1, fd1, ps1, F1, m1, k1, b1⟩ := (ox_grown (P := P) (w := w) (base := base) X).ex
    obtain ⟨f2, fd2, ps2, F2, m2, k2, b2⟩ := (ox_counts (P := P) (w := w) (base := base) X).ex
    obtain ⟨f3, fd3, ps3, F3, m3, k3, b3⟩ := (ox_length (P := P) (w := w) (base := base) X).ex
    obtain ⟨f4, fd4, ps4, F4, m4, k4, b4⟩ := (ox_letter (P := P) (w := w) (base := base) X).ex
    obtain ⟨f5, fd5, ps5, F5, m5, k5, b5⟩ := (ox_first (P := P) (w := w) (base := base) X).ex
    obtain ⟨f6, fd6, ps6, F6, m6, k6, b6⟩ := (ox_comes (P := P) (w := w) (base := base) X).ex
    obtain ⟨f7, fd7, ps7, F7, m7, k7, b7⟩ := (ox_lengths (P := P) (w := w) (base := base) X).ex
    refine ⟨_, (pss_cons (ps_set (i := 2) nd rfl (Or.inl rfl) (pe_lst (pa_cons pe_non (pa_cons (pe_tup (pa_cons pe_str pa_nil)) (pa_cons pe_str (pa_cons pe_int (pa_cons (pe_lst pa_nil) (pa_cons (pe_lst (pa_cons pe_str pa_nil)) (pa_cons (pe_lst (pa_cons pe_str (pa_cons pe_non pa_nil)))
          (pa_cons (pe_lst (pa_cons pe_str pa_nil)) (pa_cons (pe_lst (pa_cons pe_str (pa_cons pe_str pa_nil))) (pa_cons (pe_op op_rep (pe_lst (pa_cons pe_str pa_nil)) (pe_op op_add pe_int (pe_op op_mod (pv 1) pe_int))) pa_nil))))))))))))
      (pss_cons (ps_set (i := 2) nd rfl (Or.inl rfl) (pe_ix ix_list (pe_op op_cat (pv 2) (pe_lst (pa_cons (pe_lst (pa_cons pe_str (pa_cons pe_str pa_nil))) pa_nil))) (pe_op op_mod (pv 0) pe_int) (fun _ _ => rfl)))
      (pss_cons (ps_set (i := 3) nd rfl (Or.inl rfl) (pe_op op_mod (pe_op op_fdiv (pv 0) pe_int) pe_int))
      (pss_cons (ps_if (pt_cmpR op_lt (pv 3) pe_int (nomark _)) (pss_one (ps_ret (pe_callF (fs := fun f sp => (f = f1 ∧ sp = spM noGood (badGrown K)) ∨ (f = f2 ∧ sp = spM noGood (bad3 K)) ∨ (f = f3 ∧ sp = spM noGood (bad3 K))) (k := 3)
          (fun f sp h => by
            rcases h with ⟨rfl, rfl⟩ | ⟨rfl, rfl⟩ | ⟨rfl, rfl⟩
            · exact ⟨fd1, ps1, F1, k1, b1⟩
            · exact ⟨fd2, ps2, F2, k2, b2⟩
            · exact ⟨fd3, ps3, F3, k3, b3⟩) hr (by decide) tk
          (pe_ix ix_list (pe_lst (pa_cons (C8.pe_gc (v := .ref f1) (by exact rfl) ⟨_, m1, rfl⟩) (pa_cons (C8.pe_gc (v := .ref f2) (by exact rfl) ⟨_, m2, rfl⟩) (pa_cons (C8.pe_gc (v := .ref f3) (by exact rfl) ⟨_, m3, rfl⟩) pa_nil)))) (pv 3) (fun _ _ => rfl))
          (pa_cons (pv 2) (pa_cons pe_non (pa_cons pe_non pa_nil)))))) pss_nil)
      (pss_cons (ps_if (pt_cmpR op_lt (pv 3) pe_int (nomark _)) (pss_one (ps_ret (pe_callF (fs := fun f sp => (f = f4 ∧ sp = spM noGood (badLetterD K 0)) ∨ (f = f5 ∧ sp = spM noGood (badLetterD K 1))) (k := 4)
          (fun f sp h => by
            rcases h with ⟨rfl, rfl⟩ | ⟨rfl, rfl⟩
            · exact ⟨fd4, ps4, F4, k4, b4⟩
            · exact ⟨fd5, ps5, F5, k5, b5⟩) hr (by decide) tk
          (pe_ix ix_list (pe_lst (pa_cons (C8.pe_gc (v := .ref f4) (by exact rfl) ⟨_, m4, rfl⟩) (pa_cons (C8.pe_gc (v := .ref f5) (by exact rfl) ⟨_, m5, rfl⟩) pa_nil))) (pe_op op_sub (pv 3) pe_int) (fun _ _ => rfl))
          (pa_cons (pv 2) (pa_cons pe_non (pa_cons pe_non (pa_cons pe_non pa_nil))))))) pss_nil)
      (pss_cons (ps_if (pt_cmpR op_lt (pv 3) pe_int (nomark _)) (pss_one (ps_ret (pe_callF (fs := fun f sp => (f = f6 ∧ sp = spM noGood (badComes K)) ∨ (f = f7 ∧ sp = spM noGood (badLengths K))) (k := 3)
          (fun f sp h => by
            rcases h with ⟨rfl, rfl⟩ | ⟨rfl, rfl⟩
            · exact ⟨fd6, ps6, F6, k6, b6⟩
            · exact ⟨fd7, ps7, F7, k7, b7⟩) hr (by decide) tk
          (pe_ix ix_list (pe_lst (pa_cons (C8.pe_gc (v := .ref f6) (by exact rfl) ⟨_, m6, rfl⟩) (pa_cons (C8.pe_gc (v := .ref f7) (by exact rfl) ⟨_, m7, rfl⟩) pa_nil))) (pe_op op_sub (pv 3) pe_int) (fun _ _ => rfl))
          (pa_cons (pv 2) (pa_cons pe_non (pa_cons pe_non pa_nil)))))) pss_nil)
      (pss_one (ps_ret (pe_ifExp (pt_cmpR op_eq (pv 3) pe_int (nomark _)) (pe_cx (ox_behind X) hr (by decide) rfl tk (pa_cons (pv 2) (pa_cons pe_non pa_nil))) (pe_cx (ox_behind X) hr (by decide) rfl tk (pa_cons (pe_lst (pa_cons pe_str pa_nil)) (pa_cons (pv 2) pa_nil)))))))))))), ?_⟩
    have hmm : 0 ≤ mo % 9 ∧ mo % 9 < 9 := ⟨Int.emod_nonneg _ (by decide), Int.emod_lt_of_pos _ (by decide)⟩
    refine q_asgLP (n := 0+1+1+1+1+1+1+1+1+1+1) (P := PR K) (elp_lst (eap_cons PR.mono (ep_ev ev_c fun _ _ => pr_ty (.base .non) isi_lx.1) (eap_cons PR.mono (ep_eu (eu_tup (ea_one ev_c) (by decide)) fun p H1 _ h => pr_ty (.base (.tup h)) isi_lx.2.2.2)
      (eap_cons PR.mono (ep_ev ev_c fun _ _ => pr_ty (.base (.str _)) isi_lx.2.1) (eap_cons PR.mono (ep_ev ev_c fun _ _ => pr_ty (.base (.int _)) isi_lx.2.2.1)
      (eap_cons PR.mono (ep_el (el_lst ea_nil (by decide)) fun p H1 _ h => pr_lst h (by decide) (.inl rfl))
      (eap_cons PR.mono (ep_el (el_lst (ea_one ev_c) (by decide)) fun p H1 _ h => pr_lst h (by decide) (.inr (.inr ⟨mem1 (anyR_str (by decide)), by decide +kernel⟩)))
      (eap_cons PR.mono (ep_el (el_lst (ea_two ev_c ev_c) (by decide)) fun p H1 _ h => pr_lst h (by decide) (.inr (.inr ⟨mem2 (anyR_str (by decide)) anyR_non, by decide +kernel⟩)))
      (eap_cons PR.mono (ep_el (el_lst (ea_one ev_c) (by decide)) fun p H1 _ h => pr_lst h (by decide) (.inr (.inr ⟨mem1 (anyR_str (by decide)), by decide +kernel⟩)))
      (eap_cons PR.mono (ep_el (el_lst (ea_two ev_c ev_c) (by decide)) fun p H1 _ h => pr_lst h (by decide) (.inr (.inr ⟨mem2 (anyR_str (by decide)) (anyR_str (by decide)), by decide +kernel⟩)))
      (eap_cons PR.mono (ep_el (el_rep (el_lst (ea_one ev_c) (by decide)) (ev_addI ev_c (ev_mod (ev_var rfl) ev_c (by decide))) (by omega) (by omega) (by rw [sizeLine_eq]; show 1 * _ ≤ _; omega)) fun p H1 _ h => pr_lst h (by simp; omega) (.inr (.inl (by simp; omega)))) eap_nil)))))))))) (by decide)) fun p vs Hb H1 hp eb hbn e1 h1 hl hP => ?_
    have hP1 : ∀ v ∈ vs, PR K v H1 := fun v hv => PR.mono _ _ _ e1 (hP v hv)
    have hw11 : 0 ≤ wh % 11 ∧ wh % 11 < 11 := ⟨Int.emod_nonneg _ (by decide), Int.emod_lt_of_pos _ (by decide)⟩
    refine q_asgP (P := PR K) (ep_ixL PR.mono (elp_cat (n := 0 + 1) (k := 11) PR.mono (ev_var rfl) h1 hP1 (elp_lst (eap_cons PR.mono (ep_el (el_lst (ea_two ev_c ev_c) (by decide)) fun p H1 _ h => pr_lst h (by decide) (.inr (.inr ⟨mem2 (anyR_str (by decide)) (anyR_str (by decide)), by decide +kernel⟩))) eap_nil) (by decide)) (by rw [hl]) (by rw [hl]; decide)) (ev_mod (ev_var rfl) ev_c (by decide)) hw11.1 hw11.2) fun bad H2 e2 hB => ?_
    have hB : BadR K H2 bad := hB
    have e02 : Ex H H2 := (eb.trans e1).trans e2
    refine q_asg (v := .int (wh / 11 % 9)) (ev_mod (ev_div (ev_var rfl) ev_c (by decide) (by decide)) ev_c (by decide)) fun H3 e3 => ?_
    have hd : 0 ≤ wh / 11 % 9 ∧ wh / 11 % 9 < 9 := ⟨Int.emod_nonneg _ (by decide), Int.emod_lt_of_pos _ (by decide)⟩
    generalize hdd : wh / 11 % 9 = d at hd
    have e03 := e02.trans e3
    have hB3 := hB.ex e3
    refine q_when (et_test (ev_op (ev_var rfl) ev_c rv_I0)) (fun hlt H4 e4 => ?_) (fun hge H4 e4 => ?_)
    · have hlt : d < 3 := by simpa using hlt
      have hB4 := hB3.ex e4
      have kk : ∀ H', Ex H4 H' → E (.ref (He.ga K "BadRules")) none H' := fun H' e => k H' ((e03.trans e4).trans e)
      have hA : ∀ H', Ex H4 H' → bad3 K [bad, .non, .non] H' (He.ga K "BadRules") := fun H' e => ⟨_, _, _, rfl, .inl ⟨hB4.ex e, rfl⟩⟩
      have h012 : d = (0 : Nat) ∨ d = (1 : Nat) ∨ d = (2 : Nat) := by omega
      rcases h012 with h | h | h
      · subst h
        exact s_retR (ra_callF (ev_ixN (el_lst (ea_three ev_c ev_c ev_c) (show 3 ≤ 100000 by decide)) (ev_var rfl) rfl) (.inl ⟨rfl, rfl⟩) (ea_three (ev_var rfl) ev_c ev_c) (fun H' e => .inl (hA H' e)) kk)
      · subst h
        exact s_retR (ra_callF (ev_ixN (el_lst (ea_three ev_c ev_c ev_c) (show 3 ≤ 100000 by decide)) (ev_var rfl) rfl) (.inr (.inl ⟨rfl, rfl⟩)) (ea_three (ev_var rfl) ev_c ev_c) hA kk)
      · subst h
        exact s_retR (ra_callF (ev_ixN (el_lst (ea_three ev_c ev_c ev_c) (show 3 ≤ 100000 by decide)) (ev_var rfl) rfl) (.inr (.inr ⟨rfl, rfl⟩)) (ea_three (ev_var rfl) ev_c ev_c) hA kk)
    have hge : 3 ≤ d := by simpa using hge
    refine q_when (et_test (ev_op (ev_var rfl) ev_c rv_I0)) (fun hlt H5 e5 => ?_) (fun hge5 H5 e5 => ?_)
    · have hlt : d < 5 := by simpa using hlt
      have e05 := (e03.trans e4).trans e5
      have hB5 := hB3.ex (e4.trans e5)
      have kk : ∀ H', Ex H5 H' → E (.ref (He.ga K "BadRules")) none H' := fun H' e => k H' (e05.trans e)
      have h01 : d = 3 ∨ d = 4 := by omega
      rcases h01 with h | h
      · subst h
        exact s_retR (ra_callF (ev_ixN (n := 0) (el_lst (ea_two ev_c ev_c) (show 2 ≤ 100000 by decide)) (ev_is (ev_subI (ev_var rfl) ev_c) rfl) rfl) (.inl ⟨rfl, rfl⟩) (ea_cons (ev_var rfl) (ea_three ev_c ev_c ev_c)) (fun H' e => ⟨_, _, _, _, rfl, .inl (.inl ⟨hB5.ex e, rfl⟩)⟩) kk)
      · subst h
        exact s_retR (ra_callF (ev_ixN (n := 1) (el_lst (ea_two ev_c ev_c) (show 2 ≤ 100000 by decide)) (ev_is (ev_subI (ev_var rfl) ev_c) rfl) rfl) (.inr ⟨rfl, rfl⟩) (ea_cons (ev_var rfl) (ea_three ev_c ev_c ev_c)) (fun H' e => ⟨_, _, _, _, rfl, .inl (.inl ⟨hB5.ex e, rfl⟩)⟩) kk)
    have hge5 : 5 ≤ d := by simpa using hge5
    refine q_when (et_test (ev_op (ev_var rfl) ev_c rv_I0)) (fun hlt H6 e6 => ?_) (fun hge6 H6 e6 => ?_)
    · have hlt : d < 7 := by simpa using hlt
      have e06 := ((e03.trans e4).trans e5).trans e6
      have hB6 := hB3.ex ((e4.trans e5).trans e6)
      have kk : ∀ H', Ex H6 H' → E (.ref (He.ga K "BadRules")) none H' := fun H' e => k H' (e06.trans e)
      have h01 : d = 5 ∨ d = 6 := by omega
      rcases h01 with h | h
      · subst h
        exact s_retR (ra_callF (ev_ixN (n := 0) (el_lst (ea_two ev_c ev_c) (show 2 ≤ 100000 by decide)) (ev_is (ev_subI (ev_var rfl) ev_c) rfl) rfl) (.inl ⟨rfl, rfl⟩) (ea_three (ev_var rfl) ev_c ev_c) (fun H' e => ⟨_, _, _, rfl, .inl ⟨hB6.ex e, rfl⟩⟩) kk)
      · subst h
        exact s_retR (ra_callF (ev_ixN (n := 1) (el_lst (ea_two ev_c ev_c) (show 2 ≤ 100000 by decide)) (ev_is (ev_subI (ev_var rfl) ev_c) rfl) rfl) (.inr ⟨rfl, rfl⟩) (ea_three (ev_var rfl) ev_c ev_c) (fun H' e => ⟨_, _, _, rfl, .inl ⟨hB6.ex e, rfl⟩⟩) kk)
    have e06 := ((e03.trans e4).trans e5).trans e6
    have hB6 := hB3.ex ((e4.trans e5).trans e6)
    have kk : ∀ H', Ex H6 H' → E (.ref (He.ga K "BadRules")) none H' := fun H' e => k H' (e06.trans e)
    refine s_retR (ra_if (et_test (ev_op (ev_var rfl) ev_c (rv_eq rfl))) (fun _ => ra_sp (ea_two (ev_var rfl) ev_c) (fun H' e => ⟨_, _, rfl, .inl ⟨hB6.ex e, rfl⟩⟩) kk) (fun _ => ra_spN (el_lst (ea_one ev_c) (by decide)) (ev_var rfl) (fun b H' e hb => ⟨_, _, rfl, .inr ⟨b, [[0]], rfl, oneA hb, .inl ⟨hB6.ex e, rfl⟩⟩⟩) kk))
end
end Gw

namespace Gw
open PySem PySem.Spec PyProof.Rows L2 Evl
section
variable {P : Program} {w : World} {K : PySem.W.Frag} {mg : Str → Option Value} {base : Heap}
theorem rep_lenQ (k : Nat) (r : GRow) : (List.replicate k r).flatten.length = r.length * k := by
  induction k with
  | zero => rfl
  | succ k ih =>
    rw [List.replicate_succ, List.flatten_cons, List.length_append, ih, Nat.mul_succ]
    omega
def R2r : GRules := [[0, 1], [0]]
theorem ratR2 {H : Hp} {b : Addr} (h : H b = some (.lst [.str (Str.ofString "ab"), .str (Str.ofString "a")])) : RAt K H b R2r := ⟨sq_of h, ⟨by decide, by decide, fun r hr => by
  rcases List.mem_cons.mp hr with rfl | hr
  · intro n hn
    rcases List.mem_cons.mp hn with rfl | hn
    · decide
    · rw [List.mem_singleton.mp hn]
      decide
  · rw [List.mem_singleton.mp hr]
    exact one_row (by decide)⟩, fun r hr => by
  rcases List.mem_cons.mp hr with rfl | hr
  · decide
  · rw [List.mem_singleton.mp hr]
    decide⟩
/-- no row, no letter of the two -/
def PY (K : PySem.W.Frag) : V → Hp → Prop := fun v H => AnyR K H v ∧ rowB 2 v = false
theorem PY.mono : ∀ v H H', Ex H H' → PY K v H → PY K v H' := fun _ _ _ e h => ⟨h.1.ex e, h.2⟩
def PL (K : PySem.W.Frag) : V → Hp → Prop := fun v H => AnyR K H v ∧ (rowB 2 v && oneB v) = false
theorem PL.mono : ∀ v H H', Ex H H' → PL K v H → PL K v H' := fun _ _ _ e h => ⟨h.1.ex e, h.2⟩
theorem anyR_int {H : Hp} {i : Int} : AnyR K H (.int i) := .inr ⟨⟨_, .base (.int i), isi_sx.2.1⟩, fun _ => rfl⟩
theorem anyR_lst {H : Hp} {p : Addr} {xs : List V} (h : H p = some (.lst xs)) : AnyR K H (.ref p) := .inr ⟨⟨_, .base (.lst h), isi_sx.2.2.1⟩, fun _ => rfl⟩
theorem isLet_app (k : Nat) (a b : Str) : isLet k (a ++ b) = (isLet k a && isLet k b) := by
  unfold isLet
  have : (a ++ b).cps.toList = a.cps.toList ++ b.cps.toList := by
    show (a.cps ++ b.cps).toList = _
    simp
  rw [this, List.all_append]
theorem ev_catG {σ : L2.St} {H : Hp} {ta tb : TE} {x y : Str} (ha : Ev ta σ H (.str x)) (hb : Ev tb σ H (.str y)) (hz : x.length + y.length ≤ sizeLine) : Ev (tOp rCatS ta tb) σ H (.str (x ++ y)) := ev_op ha hb fun H1 _ Q q => ⟨x, y, rfl, rfl, hz, q H1 (Ex.refl H1)⟩
theorem ab_enc : Str.ofString "ab" = enc [0, 1] := by decide +kernel
abbrev nQ2 : List Str := ["_law_kind", "_law_which", "_law_more", "_law_rules", "_law_bad", "_law_door"]
theorem sc_q2 : FnScope nQ2 ["_law_kind", "_law_which", "_law_more"] (defScope sLaw_rows_asked) := ⟨rfl, rfl, rfl, by decide +kernel, rfl, by decide +kernel, by decide +kernel⟩
def badQ3 (S : Int → Addr → Prop) : List V → Hp → Addr → Prop := fun vs _ D => ∃ c w m : Int, vs = [.int c, .int w, .int m] ∧ 0 ≤ w ∧ w < 100000 ∧ 0 ≤ m ∧ m < 1000 ∧ S c D
def rowsQ (K : PySem.W.Frag) : Int → Addr → Prop := fun c D => (c = 1 ∧ D = He.ga K "BadRow") ∨ (c = 2 ∧ D = He.ga K "BadLetter")
theorem ox_q2 (X : T K mg) : CalX P w K mg base 5 "_law_rows_asked" (spM noGood (badQ3 (rowsQ K))) := by
  refine calx_of X.d_law_rows_asked sc_q2 (fun _ _ _ _ _ _ us hl => match us, hl with | [_, _, _], _ => rfl) (fun vs H Q E h => ?_) (fun f cdv A outer s H vs Q E hr h tk => ?_)
  · rcases h with ⟨h, _⟩ | ⟨C, ⟨c, r, y, rfl, _⟩, _⟩
    · exact h.elim
    · rfl
  · rcases h with ⟨h, _⟩ | ⟨C, ⟨kd, wh, mo, rfl, hw0, hw1, hm0, hm1, hC⟩, k⟩
    · exact h.elim
    have nd := sc_q2.nd
    obtain ⟨f1, fd1, ps1, F1, m1, k1, b1⟩ := (ox_grown (P := P) (w := w) (base := base) X).ex
    obtain ⟨f2, fd2, ps2, F2, m2, k2, b2⟩ := (ox_counts (P := P) (w := w) (base := base) X).ex
    obtain ⟨f3, fd3, ps3, F3, m3, k3, b3⟩ := (ox_length (P := P) (w := w) (base := base) X).ex
    obtain ⟨f4, fd4, ps4, F4, m4, k4, b4⟩ := (ox_letter (P := P) (w := w) (base := base) X).ex
    obtain ⟨f5, fd5, ps5, F5, m5, k5, b5⟩ := (ox_first (P := P) (w := w) (base := base) X).ex
    refine ⟨_, (pss_cons (ps_set (i := 3) nd rfl (Or.inl rfl) (pe_lst (pa_cons pe_str (pa_cons pe_str pa_nil))))
      (pss_cons (ps_if (pt_cmpR op_eq (pv 0) pe_int (nomark _)) 
        (pss_cons (ps_set (i := 4) nd rfl (Or.inl rfl) (pe_ix ix_list (pe_lst (pa_cons pe_non (pa_cons pe_int (pa_cons (pe_lst (pa_cons pe_str pa_nil)) (pa_cons pe_str (pa_cons pe_str (pa_cons (pe_op op_add_str (pe_op op_repS pe_str (pe_op op_mod (pv 2) pe_int)) pe_str) (pa_cons pe_str pa_nil)))))))) (pe_op op_mod (pv 1) pe_int) (fun _ _ => rfl)))
      (pss_cons (ps_set (i := 5) nd rfl (Or.inl rfl) (pe_op op_mod (pe_op op_fdiv (pv 1) pe_int) pe_int))
      (pss_cons (ps_if (pt_cmpR op_lt (pv 5) pe_int (nomark _)) (pss_one (ps_ret (pe_callF (fs := fun f sp => (f = f1 ∧ sp = spM noGood (badGrown K)) ∨ (f = f2 ∧ sp = spM noGood (bad3 K)) ∨ (f = f3 ∧ sp = spM noGood (bad3 K))) (k := 3)
            (fun f sp h => by
              rcases h with ⟨rfl, rfl⟩ | ⟨rfl, rfl⟩ | ⟨rfl, rfl⟩
              · exact ⟨fd1, ps1, F1, k1, b1⟩
              · exact ⟨fd2, ps2, F2, k2, b2⟩
              · exact ⟨fd3, ps3, F3, k3, b3⟩) hr (by decide) tk
            (pe_ix ix_list (pe_lst (pa_cons (C8.pe_gc (v := .ref f1) (by exact rfl) ⟨_, m1, rfl⟩) (pa_cons (C8.pe_gc (v := .ref f2) (by exact rfl) ⟨_, m2, rfl⟩) (pa_cons (C8.pe_gc (v := .ref f3) (by exact rfl) ⟨_, m3, rfl⟩) pa_nil)))) (pv 5) (fun _ _ => rfl))
            (pa_cons (pv 3) (pa_cons (pv 4) (pa_cons pe_non pa_nil)))))) pss_nil)
      (pss_cons (ps_if (pt_cmpR op_lt (pv 5) pe_int (nomark _)) (pss_one (ps_ret (pe_callF (fs := fun f sp => (f = f4 ∧ sp = spM noGood (badLetterD K 0)) ∨ (f = f5 ∧ sp = spM noGood (badLetterD K 1))) (k := 4)
            (fun f sp h => by
              rcases h with ⟨rfl, rfl⟩ | ⟨rfl, rfl⟩
              · exact ⟨fd4, ps4, F4, k4, b4⟩
              · exact ⟨fd5, ps5, F5, k5, b5⟩) hr (by decide) tk
            (pe_ix ix_list (pe_lst (pa_cons (C8.pe_gc (v := .ref f4) (by exact rfl) ⟨_, m4, rfl⟩) (pa_cons (C8.pe_gc (v := .ref f5) (by exact rfl) ⟨_, m5, rfl⟩) pa_nil))) (pe_op op_sub (pv 5) pe_int) (fun _ _ => rfl))
            (pa_cons (pv 3) (pa_cons (pv 4) (pa_cons pe_non (pa_cons pe_non pa_nil))))))) pss_nil)
      (pss_one (ps_ret (pe_ifExp (pt_cmpR op_eq (pv 5) pe_int (nomark _)) (pe_cx (ox_lengths X) hr (by decide) rfl tk (pa_cons (pv 3) (pa_cons (pv 4) (pa_cons pe_str pa_nil)))) (pe_cx (ox_lengths X) hr (by decide) rfl tk (pa_cons (pv 3) (pa_cons pe_str (pa_cons (pv 4) pa_nil))))))))))) pss_nil)
      (pss_cons (ps_set (i := 4) nd rfl (Or.inl rfl) (pe_ix ix_list (pe_lst (pa_cons pe_non (pa_cons pe_int (pa_cons (pe_lst (pa_cons pe_str pa_nil)) (pa_cons pe_str (pa_cons pe_str (pa_cons pe_str (pa_cons pe_str (pa_cons pe_str pa_nil))))))))) (pe_op op_mod (pv 1) pe_int) (fun _ _ => rfl)))
      (pss_one (ps_ret (pe_ifExp (pt_cmpR op_eq (pe_op op_mod (pe_op op_fdiv (pv 1) pe_int) pe_int) pe_int (nomark _)) (pe_cx (ox_comes X) hr (by decide) rfl tk (pa_cons (pv 3) (pa_cons (pv 4) (pa_cons pe_str pa_nil)))) (pe_cx (ox_comes X) hr (by decide) rfl tk (pa_cons (pv 3) (pa_cons pe_str (pa_cons (pv 4) pa_nil)))))))))), ?_⟩
    refine q_asgL (xs := [.str (Str.ofString "ab"), .str (Str.ofString "a")]) (el_lst (ea_two ev_c ev_c) (by decide)) fun rp H1 _ e1 hrp => ?_
    have oR : ∀ {H' : Hp}, Ex H1 H' → RAt K H' rp R2r := fun e => ratR2 (e _ _ hrp)
    have anA : ∀ {H' : Hp}, AnyR K H' (.str (Str.ofString "a")) := anyR_str (by decide)
    refine q_when (et_test (ev_op (ev_var rfl) ev_c (rv_eq rfl))) (fun hk H2 e2 => ?_) (fun hk H2 e2 => ?_)
    · have hk : kd = 1 := by simpa using hk
      obtain rfl : C = He.ga K "BadRow" := by
        rcases hC with ⟨_, h⟩ | ⟨h, _⟩
        · exact h
        · omega
      have hw7 : 0 ≤ wh % 7 ∧ wh % 7 < 7 := ⟨Int.emod_nonneg _ (by decide), Int.emod_lt_of_pos _ (by decide)⟩
      have hm4 : 0 ≤ mo % 4 ∧ mo % 4 < 4 := ⟨Int.emod_nonneg _ (by decide), Int.emod_lt_of_pos _ (by decide)⟩
      have hab : ∀ {σ : L2.St} {H' : Hp}, Ev (tC (.str (Str.ofString "ab"))) σ H' (.str (enc [0, 1])) := by
        rw [ab_enc]
        exact ev_c
      have hfl : (List.replicate (mo % 4).toNat ([0, 1] : GRow)).flatten.length ≤ 8 := by
        rw [rep_lenQ]
        show 2 * _ ≤ 8
        omega
      refine q_asgP (P := PY K) (ep_ixL PY.mono (elp_lst (n := 0+1+1+1+1+1+1+1) (eap_cons PY.mono (ep_ev ev_c fun _ _ => ⟨anyR_non, rfl⟩) (eap_cons PY.mono (ep_ev ev_c fun _ _ => ⟨anyR_int, rfl⟩) (eap_cons PY.mono (ep_el (el_lst (ea_one ev_c) (by decide)) fun p _ _ h => ⟨anyR_lst h, rfl⟩)
        (eap_cons PY.mono (ep_ev ev_c fun _ _ => ⟨anyR_str (by decide), by decide +kernel⟩) (eap_cons PY.mono (ep_ev ev_c fun _ _ => ⟨anyR_str (by decide), by decide +kernel⟩)
        (eap_cons PY.mono (ep_ev (ev_catG (ev_repS hab (ev_mod (ev_var rfl) ev_c (by decide)) (mulOk_enc (by omega) hm4.1 (by decide) (by show 2 * _ ≤ _; omega))) ev_c (by rw [enc_len, sizeLine_eq]; show _ + 1 ≤ _; omega)) fun _ _ => ⟨anyR_str (by
            show ((enc _).cps ++ _).size ≤ _
            rw [Array.size_append]
            have : (enc (List.replicate (mo % 4).toNat ([0, 1] : GRow)).flatten).cps.size = (List.replicate (mo % 4).toNat ([0, 1] : GRow)).flatten.length := enc_size _
            rw [this]
            show _ + 1 ≤ _
            omega), by
            show isLet 2 _ = false
            rw [isLet_app]
            have : isLet 2 (Str.ofString "\n") = false := by decide +kernel
            rw [this, Bool.and_false]⟩)
        (eap_cons PY.mono (ep_ev ev_c fun _ _ => ⟨anyR_str (by decide), by decide +kernel⟩) eap_nil))))))) (by decide)) (ev_mod (ev_var rfl) ev_c (by decide)) hw7.1 hw7.2) fun bad H3 e3 hB => ?_
      refine q_asg (v := .int (wh / 7 % 7)) (ev_mod (ev_div (ev_var rfl) ev_c (by decide) (by decide)) ev_c (by decide)) fun H4 e4 => ?_
      have hd : 0 ≤ wh / 7 % 7 ∧ wh / 7 % 7 < 7 := ⟨Int.emod_nonneg _ (by decide), Int.emod_lt_of_pos _ (by decide)⟩
      generalize hdd : wh / 7 % 7 = d at hd
      have e14 := (e2.trans e3).trans e4
      refine q_when (et_test (ev_op (ev_var rfl) ev_c rv_I0)) (fun hlt H5 e5 => ?_) (fun hge H5 e5 => ?_)
      · have hlt : d < 3 := by simpa using hlt
        have e15 := e14.trans e5
        have hB5 : PY K bad H5 := PY.mono _ _ _ (e4.trans e5) hB
        have kk : ∀ H', Ex H5 H' → E (.ref (He.ga K "BadRow")) none H' := fun H' e => k H' (e1.trans (e15.trans e))
        have hA : ∀ H', Ex H5 H' → bad3 K [.ref rp, bad, .non] H' (He.ga K "BadRow") := fun H' e => ⟨_, _, _, rfl, .inr ⟨rp, R2r, rfl, oR (e15.trans e), hB5.1.ex e, .inl ⟨hB5.2, rfl⟩⟩⟩
        have h012 : d = (0 : Nat) ∨ d = (1 : Nat) ∨ d = (2 : Nat) := by omega
        rcases h012 with h | h | h
        · subst h
          exact s_retR (ra_callF (ev_ixN (el_lst (ea_three ev_c ev_c ev_c) (show 3 ≤ 100000 by decide)) (ev_var rfl) rfl) (.inl ⟨rfl, rfl⟩) (ea_three (ev_var rfl) (ev_var rfl) ev_c) (fun H' e => .inl (hA H' e)) kk)
        · subst h
          exact s_retR (ra_callF (ev_ixN (el_lst (ea_three ev_c ev_c ev_c) (show 3 ≤ 100000 by decide)) (ev_var rfl) rfl) (.inr (.inl ⟨rfl, rfl⟩)) (ea_three (ev_var rfl) (ev_var rfl) ev_c) hA kk)
        · subst h
          exact s_retR (ra_callF (ev_ixN (el_lst (ea_three ev_c ev_c ev_c) (show 3 ≤ 100000 by decide)) (ev_var rfl) rfl) (.inr (.inr ⟨rfl, rfl⟩)) (ea_three (ev_var rfl) (ev_var rfl) ev_c) hA kk)
      have hge : 3 ≤ d := by simpa using hge
      refine q_when (et_test (ev_op (ev_var rfl) ev_c rv_I0)) (fun hlt H6 e6 => ?_) (fun hge5 H6 e6 => ?_)
      · have hlt : d < 5 := by simpa using hlt
        have e16 := (e14.trans e5).trans e6
        have hB6 : PY K bad H6 := PY.mono _ _ _ ((e4.trans e5).trans e6) hB
        have kk : ∀ H', Ex H6 H' → E (.ref (He.ga K "BadRow")) none H' := fun H' e => k H' (e1.trans (e16.trans e))
        have hA : ∀ dd H', Ex H6 H' → badLetterD K dd [.ref rp, bad, .non, .non] H' (He.ga K "BadRow") := fun dd H' e => ⟨_, _, _, _, rfl, .inl (.inr ⟨rp, R2r, rfl, oR (e16.trans e), hB6.1.ex e, .inl ⟨hB6.2, rfl⟩⟩)⟩
        have h01 : d = 3 ∨ d = 4 := by omega
        rcases h01 with h | h
        · subst h
          exact s_retR (ra_callF (ev_ixN (n := 0) (el_lst (ea_two ev_c ev_c) (show 2 ≤ 100000 by decide)) (ev_is (ev_subI (ev_var rfl) ev_c) rfl) rfl) (.inl ⟨rfl, rfl⟩) (ea_cons (ev_var rfl) (ea_three (ev_var rfl) ev_c ev_c)) (hA 0) kk)
        · subst h
          exact s_retR (ra_callF (ev_ixN (n := 1) (el_lst (ea_two ev_c ev_c) (show 2 ≤ 100000 by decide)) (ev_is (ev_subI (ev_var rfl) ev_c) rfl) rfl) (.inr ⟨rfl, rfl⟩) (ea_cons (ev_var rfl) (ea_three (ev_var rfl) ev_c ev_c)) (hA 1) kk)
      have e16 := (e14.trans e5).trans e6
      have hB6 : PY K bad H6 := PY.mono _ _ _ ((e4.trans e5).trans e6) hB
      have kk : ∀ H', Ex H6 H' → E (.ref (He.ga K "BadRow")) none H' := fun H' e => k H' (e1.trans (e16.trans e))
      exact s_retR (ra_if (et_test (ev_op (ev_var rfl) ev_c (rv_eq rfl))) (fun _ => ra_sp (ea_three (ev_var rfl) (ev_var rfl) ev_c) (fun H' e => ⟨_, _, _, rfl, .inr ⟨rp, R2r, rfl, oR (e16.trans e), hB6.1.ex e, .inl ⟨hB6.2, rfl⟩⟩⟩) kk)
        (fun _ => ra_sp (ea_three (ev_var rfl) ev_c (ev_var rfl)) (fun H' e => ⟨_, _, _, rfl, .inr ⟨rp, R2r, rfl, oR (e16.trans e), anA, .inr ⟨by decide +kernel, hB6.1.ex e, hB6.2, rfl⟩⟩⟩) kk))
    · have hk : kd ≠ 1 := by simpa using hk
      obtain rfl : C = He.ga K "BadLetter" := by
        rcases hC with ⟨h, _⟩ | ⟨_, h⟩
        · exact absurd h hk
        · exact h
      have hw8 : 0 ≤ wh % 8 ∧ wh % 8 < 8 := ⟨Int.emod_nonneg _ (by decide), Int.emod_lt_of_pos _ (by decide)⟩
      refine q_asgP (P := PL K) (ep_ixL PL.mono (elp_lst (n := 0+1+1+1+1+1+1+1+1) (eap_cons PL.mono (ep_ev ev_c fun _ _ => ⟨anyR_non, rfl⟩) (eap_cons PL.mono (ep_ev ev_c fun _ _ => ⟨anyR_int, rfl⟩) (eap_cons PL.mono (ep_el (el_lst (ea_one ev_c) (by decide)) fun p _ _ h => ⟨anyR_lst h, rfl⟩)
        (eap_cons PL.mono (ep_ev ev_c fun _ _ => ⟨anyR_str (by decide), by decide +kernel⟩) (eap_cons PL.mono (ep_ev ev_c fun _ _ => ⟨anyR_str (by decide), by decide +kernel⟩) (eap_cons PL.mono (ep_ev ev_c fun _ _ => ⟨anyR_str (by decide), by decide +kernel⟩)
        (eap_cons PL.mono (ep_ev ev_c fun _ _ => ⟨anyR_str (by decide), by decide +kernel⟩) (eap_cons PL.mono (ep_ev ev_c fun _ _ => ⟨anyR_str (by decide), by decide +kernel⟩) eap_nil)))))))) (by decide)) (ev_mod (ev_var rfl) ev_c (by decide)) hw8.1 hw8.2) fun bad H3 e3 hB => ?_
      have e13 := e2.trans e3
      have kk : ∀ H', Ex H3 H' → E (.ref (He.ga K "BadLetter")) none H' := fun H' e => k H' (e1.trans (e13.trans e))
      exact s_retR (ra_if (et_test (ev_op (ev_mod (ev_div (ev_var rfl) ev_c (by decide) (by decide)) ev_c (by decide)) ev_c (rv_eq rfl))) (fun _ => ra_sp (ea_three (ev_var rfl) (ev_var rfl) ev_c) (fun H' e => ⟨_, _, _, rfl, .inr ⟨rp, R2r, rfl, oR (e13.trans e), hB.1.ex e, .inl ⟨hB.2, rfl⟩⟩⟩) kk)
        (fun _ => ra_sp (ea_three (ev_var rfl) ev_c (ev_var rfl)) (fun H' e => ⟨_, _, _, rfl, .inr ⟨rp, R2r, rfl, oR (e13.trans e), anA, .inr ⟨by decide +kernel, by decide +kernel, hB.1.ex e, hB.2, rfl⟩⟩⟩) kk))
end
end Gw

namespace Gw
open PySem PySem.Spec PyProof.Rows L2 Evl
section
variable {P : Program} {w : World} {K : PySem.W.Frag} {mg : Str → Option Value} {base : Heap}
def PT (K : PySem.W.Frag) : V → Hp → Prop := fun v H => BadT K H v
theorem PT.mono : ∀ v H H', Ex H H' → PT K v H → PT K v H' := fun _ _ _ e h => BadT.ex h e
def PP (K : PySem.W.Frag) (n : Nat) : V → Hp → Prop := fun v H => BadP K H v n
theorem PP.mono {n : Nat} : ∀ v H H', Ex H H' → PP K n v H → PP K n v H' := fun _ _ _ e h => ⟨h.1.ex e, h.2⟩
theorem PP.le {n m : Nat} {v : V} {H : Hp} (h : PP K n v H) (hm : m ≤ n) : PP K m v H := ⟨h.1, h.2.imp id fun ⟨i, h1, h2⟩ => ⟨i, h1, by omega⟩⟩
theorem anyN_non {H : Hp} : AnyN K H .non := .inr (.inr ⟨⟨_, .base .non, isi_nx.1⟩, fun _ => rfl⟩)
theorem anyN_str {H : Hp} {z : Str} : AnyN K H (.str z) := .inr (.inr ⟨⟨_, .base (.str z), isi_nx.2.1⟩, fun _ => rfl⟩)
theorem anyN_lst {H : Hp} {p : Addr} {xs : List V} (h : H p = some (.lst xs)) : AnyN K H (.ref p) := .inr (.inr ⟨⟨_, .base (.lst h), isi_nx.2.2.1⟩, fun _ => rfl⟩)
theorem anyN_tup {H : Hp} {p : Addr} {xs : List V} (h : H p = some (.tup xs)) : AnyN K H (.ref p) := .inr (.inr ⟨⟨_, .base (.tup h), isi_nx.2.2.2.1⟩, fun _ => rfl⟩)
theorem ra_spP4 {σ : L2.St} {H : Hp} {t1 t2 t3 t4 : TE} {x y z : V} {W : WX} {C : Addr} {good : List V → Hp → Prop} {bad : List V → Hp → Addr → Prop} {Pv : V → Hp → Prop} (h1 : Ev t1 σ H x) (h2 : Ev t2 σ H y) (h3 : Ev t3 σ H z) (h4 : EvP t4 σ H Pv)
    (hB : ∀ v H1, Ex H H1 → Pv v H1 → bad [x, y, z, v] H1 C) (k : ∀ H1, Ex H H1 → W (.ref C) none σ H1) : Ra (tCallS (spM good bad) (WE W) (tCons t1 (tCons t2 (tCons t3 (tCons t4 tNil))))) σ H := fun H0 e Q =>
  h1 H0 e _ fun H1 e1 => h2 H1 (e.trans e1) _ fun H2 e2 => h3 H2 ((e.trans e1).trans e2) _ fun H3 e3 => h4 H3 (((e.trans e1).trans e2).trans e3) _ fun v H4 e4 hv =>
    .inr ⟨C, hB v H4 ((((e.trans e1).trans e2).trans e3).trans e4) hv, fun H5 e5 => k H5 (((((e.trans e1).trans e2).trans e3).trans e4).trans e5)⟩
abbrev nQ3 : List Str := ["_law_kind", "_law_which", "_law_more", "_law_rules", "_law_bad", "_law_door"]
theorem sc_q3 : FnScope nQ3 ["_law_kind", "_law_which", "_law_more"] (defScope sLaw_numbers_asked) := ⟨rfl, rfl, rfl, by decide +kernel, rfl, by decide +kernel, by decide +kernel⟩
def numsQ (K : PySem.W.Frag) : Int → Addr → Prop := fun c D => (c = 3 ∧ D = He.ga K "BadTimes") ∨ (c = 4 ∧ D = He.ga K "BadPlace")
theorem grown_three : (grow R2r 3 [0, 1]).length = 8 := by decide +kernel
theorem askedR2 {H : Hp} {rp : Addr} (h : RAt K H rp R2r) : Asked K H rp R2r [0, 1] 3 := ⟨h, fun n hn => by
  rcases List.mem_cons.mp hn with rfl | hn
  · decide
  · rw [List.mem_singleton.mp hn]
    decide, by show 2 < sizeLine; decide, by decide⟩
theorem ox_q3 (X : T K mg) : CalX P w K mg base 5 "_law_numbers_asked" (spM noGood (badQ3 (numsQ K))) := by
  refine calx_of X.d_law_numbers_asked sc_q3 (fun _ _ _ _ _ _ us hl => match us, hl with | [_, _, _], _ => rfl) (fun vs H Q E h => ?_) (fun f cdv A outer s H vs Q E hr h tk => ?_)
  · rcases h with ⟨h, _⟩ | ⟨C, ⟨c, r, y, rfl, _⟩, _⟩
    · exact h.elim
    · rfl
  · rcases h with ⟨h, _⟩ | ⟨C, ⟨kd, wh, mo, rfl, hw0, hw1, hm0, hm1, hC⟩, k⟩
    · exact h.elim
    have nd := sc_q3.nd
    obtain ⟨f1, fd1, ps1, F1, m1, k1, b1⟩ := (ox_grown (P := P) (w := w) (base := base) X).ex
    obtain ⟨f2, fd2, ps2, F2, m2, k2, b2⟩ := (ox_counts (P := P) (w := w) (base := base) X).ex
    obtain ⟨f3, fd3, ps3, F3, m3, k3, b3⟩ := (ox_length (P := P) (w := w) (base := base) X).ex
    obtain ⟨f4, fd4, ps4, F4, m4, k4, b4⟩ := (ox_letter (P := P) (w := w) (base := base) X).ex
    obtain ⟨f5, fd5, ps5, F5, m5, k5, b5⟩ := (ox_first (P := P) (w := w) (base := base) X).ex
    refine ⟨_, (pss_cons (ps_set (i := 3) nd rfl (Or.inl rfl) (pe_lst (pa_cons pe_str (pa_cons pe_str pa_nil))))
      (pss_cons (ps_if (pt_cmpR op_eq (pv 0) pe_int (nomark _)) 
        (pss_cons (ps_set (i := 4) nd rfl (Or.inl rfl) (pe_ix ix_list (pe_lst (pa_cons pe_non (pa_cons pe_str (pa_cons pe_bl (pa_cons (pe_lst (pa_cons pe_int pa_nil)) (pa_cons (pe_op op_sub (pe_un un_neg pe_int) (pv 2)) (pa_cons (pe_op op_add pe_int (pv 2)) (pa_cons (pe_tup (pa_cons pe_int pa_nil)) pa_nil)))))))) (pe_op op_mod (pv 1) pe_int) (fun _ _ => rfl)))
      (pss_cons (ps_set (i := 5) nd rfl (Or.inl rfl) (pe_op op_mod (pe_op op_fdiv (pv 1) pe_int) pe_int))
      (pss_cons (ps_if (pt_cmpR op_lt (pv 5) pe_int (nomark _)) (pss_one (ps_ret (pe_callF (fs := fun f sp => (f = f1 ∧ sp = spM noGood (badGrown K)) ∨ (f = f2 ∧ sp = spM noGood (bad3 K)) ∨ (f = f3 ∧ sp = spM noGood (bad3 K))) (k := 3)
            (fun f sp h => by
              rcases h with ⟨rfl, rfl⟩ | ⟨rfl, rfl⟩ | ⟨rfl, rfl⟩
              · exact ⟨fd1, ps1, F1, k1, b1⟩
              · exact ⟨fd2, ps2, F2, k2, b2⟩
              · exact ⟨fd3, ps3, F3, k3, b3⟩) hr (by decide) tk
            (pe_ix ix_list (pe_lst (pa_cons (C8.pe_gc (v := .ref f1) (by exact rfl) ⟨_, m1, rfl⟩) (pa_cons (C8.pe_gc (v := .ref f2) (by exact rfl) ⟨_, m2, rfl⟩) (pa_cons (C8.pe_gc (v := .ref f3) (by exact rfl) ⟨_, m3, rfl⟩) pa_nil)))) (pv 5) (fun _ _ => rfl))
            (pa_cons (pv 3) (pa_cons pe_str (pa_cons (pv 4) pa_nil)))))) pss_nil)
      (pss_one (ps_ret (pe_callF (fs := fun f sp => (f = f4 ∧ sp = spM noGood (badLetterD K 0)) ∨ (f = f5 ∧ sp = spM noGood (badLetterD K 1))) (k := 4)
            (fun f sp h => by
              rcases h with ⟨rfl, rfl⟩ | ⟨rfl, rfl⟩
              · exact ⟨fd4, ps4, F4, k4, b4⟩
              · exact ⟨fd5, ps5, F5, k5, b5⟩) hr (by decide) tk
            (pe_ix ix_list (pe_lst (pa_cons (C8.pe_gc (v := .ref f4) (by exact rfl) ⟨_, m4, rfl⟩) (pa_cons (C8.pe_gc (v := .ref f5) (by exact rfl) ⟨_, m5, rfl⟩) pa_nil))) (pe_op op_sub (pv 5) pe_int) (fun _ _ => rfl))
            (pa_cons (pv 3) (pa_cons pe_str (pa_cons (pv 4) (pa_cons pe_non pa_nil)))))))))) pss_nil)
      (pss_cons (ps_set (i := 4) nd rfl (Or.inl rfl) (pe_ix ix_list (pe_lst (pa_cons pe_non (pa_cons pe_str (pa_cons pe_bl (pa_cons (pe_lst (pa_cons pe_int pa_nil)) (pa_cons (pe_op op_sub (pe_un un_neg pe_int) (pv 2)) (pa_cons (pe_op op_add pe_int (pv 2)) (pa_cons (pe_tup (pa_cons pe_int pa_nil)) pa_nil)))))))) (pe_op op_mod (pv 1) pe_int) (fun _ _ => rfl)))
      (pss_one (ps_ret (pe_ifExp (pt_cmpR op_eq (pe_op op_mod (pe_op op_fdiv (pv 1) pe_int) pe_int) pe_int (nomark _)) (pe_cx (ox_letter X) hr (by decide) rfl tk (pa_cons (pv 3) (pa_cons pe_str (pa_cons pe_int (pa_cons (pe_ix ix_list (pe_lst (pa_cons (pv 4) (pa_cons pe_int pa_nil))) (pe_op op_mod (pe_op op_fdiv (pv 1) pe_int) pe_int) (fun _ _ => rfl)) pa_nil))))) (pe_cx (ox_first X) hr (by decide) rfl tk (pa_cons (pv 3) (pa_cons pe_str (pa_cons pe_int (pa_cons (pv 4) pa_nil))))))))))), ?_⟩
    refine q_asgL (xs := [.str (Str.ofString "ab"), .str (Str.ofString "a")]) (el_lst (ea_two ev_c ev_c) (by decide)) fun rp H1 _ e1 hrp => ?_
    have oR : ∀ {H' : Hp}, Ex H1 H' → RAt K H' rp R2r := fun e => ratR2 (e _ _ hrp)
    have anA : ∀ {H' : Hp}, AnyR K H' (.str (Str.ofString "ab")) := anyR_str (by decide)
    have hw7 : 0 ≤ wh % 7 ∧ wh % 7 < 7 := ⟨Int.emod_nonneg _ (by decide), Int.emod_lt_of_pos _ (by decide)⟩
    refine q_when (et_test (ev_op (ev_var rfl) ev_c (rv_eq rfl))) (fun hk H2 e2 => ?_) (fun hk H2 e2 => ?_)
    · have hk : kd = 3 := by simpa using hk
      obtain rfl : C = He.ga K "BadTimes" := by
        rcases hC with ⟨_, h⟩ | ⟨h, _⟩
        · exact h
        · omega
      refine q_asgP (P := PT K) (ep_ixL PT.mono (elp_lst (n := 0+1+1+1+1+1+1+1) (eap_cons PT.mono (ep_ev ev_c fun _ _ => ⟨anyN_non, .inl rfl⟩) (eap_cons PT.mono (ep_ev ev_c fun _ _ => ⟨anyN_str, .inl rfl⟩) (eap_cons PT.mono (ep_ev ev_c fun _ _ => ⟨.inr (.inl ⟨_, rfl⟩), .inl rfl⟩)
        (eap_cons PT.mono (ep_el (el_lst (ea_one ev_c) (by decide)) fun p _ _ h => ⟨anyN_lst h, .inl rfl⟩)
        (eap_cons PT.mono (ep_ev (ev_subI (ev_un ev_c ru_neg) (ev_var rfl)) fun _ _ => ⟨.inl ⟨_, rfl⟩, .inl (by simp [numB]; omega)⟩)
        (eap_cons PT.mono (ep_ev (ev_addI ev_c (ev_var rfl)) fun _ _ => ⟨.inl ⟨_, rfl⟩, .inr ⟨_, rfl, by omega⟩⟩)
        (eap_cons PT.mono (ep_eu (eu_tup (ea_one ev_c) (by decide)) fun p _ _ h => ⟨anyN_tup h, .inl rfl⟩) eap_nil))))))) (by decide)) (ev_mod (ev_var rfl) ev_c (by decide)) hw7.1 hw7.2) fun bad H3 e3 hB => ?_
      refine q_asg (v := .int (wh / 7 % 5)) (ev_mod (ev_div (ev_var rfl) ev_c (by decide) (by decide)) ev_c (by decide)) fun H4 e4 => ?_
      have hd : 0 ≤ wh / 7 % 5 ∧ wh / 7 % 5 < 5 := ⟨Int.emod_nonneg _ (by decide), Int.emod_lt_of_pos _ (by decide)⟩
      generalize hdd : wh / 7 % 5 = d at hd
      have e14 := (e2.trans e3).trans e4
      have hAsk : ∀ {H' : Hp}, Ex H4 H' → Asks K H' (.ref rp) (.str (Str.ofString "ab")) bad (He.ga K "BadTimes") := fun e => .inr ⟨rp, R2r, rfl, oR (e14.trans e), anA, .inr ⟨by decide +kernel, PT.mono _ _ _ (e4.trans e) hB, rfl⟩⟩
      refine q_when (et_test (ev_op (ev_var rfl) ev_c rv_I0)) (fun hlt H5 e5 => ?_) (fun hge H5 e5 => ?_)
      · have hlt : d < 3 := by simpa using hlt
        have e15 := e14.trans e5
        have kk : ∀ H', Ex H5 H' → E (.ref (He.ga K "BadTimes")) none H' := fun H' e => k H' (e1.trans (e15.trans e))
        have hA : ∀ H', Ex H5 H' → bad3 K [.ref rp, .str (Str.ofString "ab"), bad] H' (He.ga K "BadTimes") := fun H' e => ⟨_, _, _, rfl, hAsk (e5.trans e)⟩
        have h012 : d = (0 : Nat) ∨ d = (1 : Nat) ∨ d = (2 : Nat) := by omega
        rcases h012 with h | h | h
        · subst h
          exact s_retR (ra_callF (ev_ixN (el_lst (ea_three ev_c ev_c ev_c) (show 3 ≤ 100000 by decide)) (ev_var rfl) rfl) (.inl ⟨rfl, rfl⟩) (ea_three (ev_var rfl) ev_c (ev_var rfl)) (fun H' e => .inl (hA H' e)) kk)
        · subst h
          exact s_retR (ra_callF (ev_ixN (el_lst (ea_three ev_c ev_c ev_c) (show 3 ≤ 100000 by decide)) (ev_var rfl) rfl) (.inr (.inl ⟨rfl, rfl⟩)) (ea_three (ev_var rfl) ev_c (ev_var rfl)) hA kk)
        · subst h
          exact s_retR (ra_callF (ev_ixN (el_lst (ea_three ev_c ev_c ev_c) (show 3 ≤ 100000 by decide)) (ev_var rfl) rfl) (.inr (.inr ⟨rfl, rfl⟩)) (ea_three (ev_var rfl) ev_c (ev_var rfl)) hA kk)
      have hge : 3 ≤ d := by simpa using hge
      have e15 := e14.trans e5
      have kk : ∀ H', Ex H5 H' → E (.ref (He.ga K "BadTimes")) none H' := fun H' e => k H' (e1.trans (e15.trans e))
      have hA : ∀ dd H', Ex H5 H' → badLetterD K dd [.ref rp, .str (Str.ofString "ab"), bad, .non] H' (He.ga K "BadTimes") := fun dd H' e => ⟨_, _, _, _, rfl, .inl (hAsk (e5.trans e))⟩
      have h01 : d = 3 ∨ d = 4 := by omega
      rcases h01 with h | h
      · subst h
        exact s_retR (ra_callF (ev_ixN (n := 0) (el_lst (ea_two ev_c ev_c) (show 2 ≤ 100000 by decide)) (ev_is (ev_subI (ev_var rfl) ev_c) rfl) rfl) (.inl ⟨rfl, rfl⟩) (ea_cons (ev_var rfl) (ea_three ev_c (ev_var rfl) ev_c)) (hA 0) kk)
      · subst h
        exact s_retR (ra_callF (ev_ixN (n := 1) (el_lst (ea_two ev_c ev_c) (show 2 ≤ 100000 by decide)) (ev_is (ev_subI (ev_var rfl) ev_c) rfl) rfl) (.inr ⟨rfl, rfl⟩) (ea_cons (ev_var rfl) (ea_three ev_c (ev_var rfl) ev_c)) (hA 1) kk)
    · have hk : kd ≠ 3 := by simpa using hk
      obtain rfl : C = He.ga K "BadPlace" := by
        rcases hC with ⟨h, _⟩ | ⟨_, h⟩
        · exact absurd h hk
        · exact h
      refine q_asgP (P := PP K 9) (ep_ixL PP.mono (elp_lst (n := 0+1+1+1+1+1+1+1) (eap_cons PP.mono (ep_ev ev_c fun _ _ => ⟨anyN_non, .inl rfl⟩) (eap_cons PP.mono (ep_ev ev_c fun _ _ => ⟨anyN_str, .inl rfl⟩) (eap_cons PP.mono (ep_ev ev_c fun _ _ => ⟨.inr (.inl ⟨_, rfl⟩), .inl rfl⟩)
        (eap_cons PP.mono (ep_el (el_lst (ea_one ev_c) (by decide)) fun p _ _ h => ⟨anyN_lst h, .inl rfl⟩)
        (eap_cons PP.mono (ep_ev (ev_subI (ev_un ev_c ru_neg) (ev_var rfl)) fun _ _ => ⟨.inl ⟨_, rfl⟩, .inl (by simp [numB]; omega)⟩)
        (eap_cons PP.mono (ep_ev (ev_addI ev_c (ev_var rfl)) fun _ _ => ⟨.inl ⟨_, rfl⟩, .inr ⟨_, rfl, by omega⟩⟩)
        (eap_cons PP.mono (ep_eu (eu_tup (ea_one ev_c) (by decide)) fun p _ _ h => ⟨anyN_tup h, .inl rfl⟩) eap_nil))))))) (by decide)) (ev_mod (ev_var rfl) ev_c (by decide)) hw7.1 hw7.2) fun bad H3 e3 hB => ?_
      have e13 := e2.trans e3
      have kk : ∀ H', Ex H3 H' → E (.ref (He.ga K "BadPlace")) none H' := fun H' e => k H' (e1.trans (e13.trans e))
      have h2 : 0 ≤ wh / 7 % 2 ∧ wh / 7 % 2 < 2 := ⟨Int.emod_nonneg _ (by decide), Int.emod_lt_of_pos _ (by decide)⟩
      refine s_retR (ra_if (et_test (ev_op (ev_mod (ev_div (ev_var rfl) ev_c (by decide) (by decide)) ev_c (by decide)) ev_c (rv_eq rfl))) (fun _ => ?_) (fun _ => ?_))
      · refine ra_spP4 (Pv := PP K 8) (ev_var rfl) ev_c ev_c (ep_ixL PP.mono (elp_lst (n := 0+1+1) (eap_cons PP.mono (ep_ev (ev_var rfl) fun H' e => (PP.mono _ _ _ e hB).le (by decide)) (eap_cons PP.mono (ep_ev ev_c fun _ _ => ⟨.inl ⟨_, rfl⟩, .inr ⟨8, rfl, by decide⟩⟩) eap_nil)) (by decide)) (ev_mod (ev_div (ev_var rfl) ev_c (by decide) (by decide)) ev_c (by decide)) h2.1 h2.2) (fun v H' e hv => ?_) kk
        refine ⟨_, _, _, _, rfl, .inr ⟨rp, R2r, [0, 1], 3, rfl, by rw [ab_enc], rfl, askedR2 (oR (e13.trans e)), ?_, rfl⟩⟩
        rw [grown_three]
        exact hv
      · refine ra_sp (ea_cons (ev_var rfl) (ea_three ev_c ev_c (ev_var rfl))) (fun H' e => ?_) kk
        refine ⟨_, _, _, _, rfl, .inr ⟨rp, R2r, [0, 1], 3, rfl, by rw [ab_enc], rfl, askedR2 (oR (e13.trans e)), ?_, rfl⟩⟩
        rw [grown_three]
        exact PP.mono _ _ _ e hB
end
end Gw

namespace Gw
open PySem PySem.Spec PyProof.Rows L2 Evl
def rowA (n : Nat) : GRow := (List.replicate n ([0] : GRow)).flatten
theorem rowA_len (n : Nat) : (rowA n).length = n := by
  unfold rowA
  rw [rep_lenQ]
  show 1 * n = n
  omega
theorem rowA_ok (n : Nat) : RowOk 1 (rowA n) := fun m hm => by
  obtain ⟨l, hl, hm⟩ := List.mem_flatten.mp hm
  rw [List.eq_of_mem_replicate hl] at hm
  rw [List.mem_singleton.mp hm]
  decide
theorem once_A {x : GRow} : ∀ {r : GRow}, RowOk 1 r → (once [x] r).length = x.length * r.length
  | [], _ => rfl
  | n :: r, h => by
    have h0 : n = 0 := by have := h n (List.mem_cons_self ..); omega
    subst h0
    rw [once_cons, List.length_append, once_A fun m hm => h m (List.mem_cons_of_mem _ hm), List.length_cons, Nat.mul_succ]
    show x.length + _ = _
    omega
theorem rulesA_ok (n : Nat) : RulesOk [rowA n] := ⟨by show 0 < 1; decide, by show 1 ≤ 26; decide, fun r hr => by
  rw [List.mem_singleton.mp hr]
  exact rowA_ok n⟩
theorem a_enc : Str.ofString "a" = enc [0] := by decide +kernel
section
variable {P : Program} {w : World} {K : PySem.W.Frag} {mg : Str → Option Value} {base : Heap}
theorem ratA {H : Hp} {b : Addr} {n : Nat} (hn : n ≤ 100000) (h : H b = some (.lst [.str (enc (rowA n))])) : RAt K H b [rowA n] := ⟨sq_of h, rulesA_ok n, fun r hr => by
  rw [List.mem_singleton.mp hr, rowA_len]
  exact hn⟩
theorem ev_A {σ : L2.St} {H : Hp} {tb : TE} {n : Nat} (hb : Ev tb σ H (.int (n : Int))) (hn : n ≤ 1000) : Ev (tOp rRepS (tC (.str (Str.ofString "a"))) tb) σ H (.str (enc (rowA n))) := by
  have ha : Ev (tC (.str (Str.ofString "a"))) σ H (.str (enc [0])) := by
    rw [a_enc]
    exact ev_c
  refine ev_is (ev_repS ha hb (mulOk_enc (by omega) (by omega) (by decide) (by show 1 * _ ≤ _; rw [Int.toNat_natCast]; omega))) ?_
  rw [Int.toNat_natCast]
  rfl
theorem sc_q4 : FnScope ["_law_which", "_law_more"] ["_law_which", "_law_more"] (defScope sLaw_long_asked) := ⟨rfl, rfl, rfl, by decide +kernel, rfl, by decide +kernel, by decide +kernel⟩
theorem ox_q4 (X : T K mg) : CalX P w K mg base 5 "_law_long_asked" (spM noGood (badQ (fun _ _ _ => He.ga K "TooLong") 0)) := by
  refine calx_of X.d_law_long_asked sc_q4 (fun _ _ _ _ _ _ us hl => match us, hl with | [_, _], _ => rfl) (fun vs H Q E h => ?_) (fun f cdv A outer s H vs Q E hr h tk => ?_)
  · rcases h with ⟨h, _⟩ | ⟨C, ⟨r, y, rfl, _⟩, _⟩
    · exact h.elim
    · rfl
  · rcases h with ⟨h, _⟩ | ⟨C, ⟨wh, mo, rfl, hw0, hw1, hm0, hm1, rfl⟩, k⟩
    · exact h.elim
    refine ⟨_, (pss_cons (ps_if (pt_cmpR op_eq (pe_op op_mod (pv 0) pe_int) pe_int (nomark _)) (pss_one (ps_ret (pe_cx (ox_grown X) hr (by decide) rfl tk (pa_cons (pe_lst (pa_cons (pe_op op_repS pe_str pe_int) pa_nil)) (pa_cons pe_str (pa_cons (pe_op op_add pe_int (pe_op op_mod (pv 1) pe_int)) pa_nil)))))) pss_nil)
      (pss_cons (ps_if (pt_cmpR op_eq (pe_op op_mod (pv 0) pe_int) pe_int (nomark _)) (pss_one (ps_ret (pe_cx (ox_grown X) hr (by decide) rfl tk (pa_cons (pe_lst (pa_cons (pe_op op_repS pe_str pe_int) pa_nil)) (pa_cons (pe_op op_repS pe_str (pe_op op_add pe_int (pe_op op_mod (pv 1) pe_int))) (pa_cons pe_int pa_nil)))))) pss_nil)
      (pss_one (ps_ret (pe_cx (ox_behind X) hr (by decide) rfl tk (pa_cons (pe_lst (pa_cons (pe_op op_repS pe_str pe_int) pa_nil)) (pa_cons (pe_lst (pa_cons (pe_op op_repS pe_str (pe_op op_add pe_int (pe_op op_mod (pv 1) pe_int))) pa_nil)) pa_nil))))))), ?_⟩
    obtain ⟨t, ht1, ht2⟩ : ∃ t : Nat, 2 + mo % 200 = (t : Int) ∧ 2 ≤ t ∧ t ≤ 201 := ⟨(2 + mo % 200).toNat, by omega, by omega, by omega⟩
    obtain ⟨n, hn1, hn2⟩ : ∃ n : Nat, 251 + mo % 9 = (n : Int) ∧ 251 ≤ n ∧ n ≤ 259 := ⟨(251 + mo % 9).toNat, by omega, by omega, by omega⟩
    have eT : ∀ {H' : Hp}, Ev (tOp (rI0 fun i j => .int (i + j)) (tC (.int 2)) (tOp (rI (fun _ j => 0 < j) fun i j => .int (i % j)) (tVar 1) (tC (.int 200)))) (L2.start ["_law_which", "_law_more"] [.int wh, .int mo]) H' (.int (t : Int)) := ev_is (ev_addI ev_c (ev_mod (ev_var rfl) ev_c (by decide))) (congrArg V.int ht1)
    have eN : ∀ {H' : Hp}, Ev (tOp (rI0 fun i j => .int (i + j)) (tC (.int 251)) (tOp (rI (fun _ j => 0 < j) fun i j => .int (i % j)) (tVar 1) (tC (.int 9)))) (L2.start ["_law_which", "_law_more"] [.int wh, .int mo]) H' (.int (n : Int)) := ev_is (ev_addI ev_c (ev_mod (ev_var rfl) ev_c (by decide))) (congrArg V.int hn1)
    have e400 : ∀ {H' : Hp}, EvL (tLst (tCons (tOp rRepS (tC (.str (Str.ofString "a"))) (tC (.int 400))) tNil)) (L2.start ["_law_which", "_law_more"] [.int wh, .int mo]) H' [.str (enc (rowA 400))] := el_lst (ea_one (ev_A (n := 400) ev_c (by decide))) (show 1 ≤ 100000 by decide)
    refine q_when (et_test (ev_op (ev_mod (ev_var rfl) ev_c (by decide)) ev_c (rv_eq rfl))) (fun _ H1 e1 => ?_) (fun _ H1 e1 => ?_)
    · refine s_retR (ra_spN3 e400 ev_c eT (fun b H2 e2 h2 => .inr ⟨b, [rowA 400], [0], t, 1, by rw [a_enc], ⟨ratA (by decide) h2, one_row (by decide), by show 1 < sizeLine; decide, by omega⟩, by omega, fun i hi => ?_, ?_, rfl⟩) fun H2 e2 => k H2 (e1.trans e2))
      · have : i = 0 := by omega
        subst this
        rw [grow_succ]
        show (once [rowA 400] [0]).length ≤ _
        rw [once_A (one_row (by decide)), rowA_len]
        decide
      · rw [grow_succ, once_A (grow_ok (rulesA_ok 400) 1 (r := [0]) (one_row (by decide))), grow_succ, rowA_len]
        show _ < 400 * (once [rowA 400] [0]).length
        rw [once_A (one_row (by decide)), rowA_len]
        decide
    refine q_when (et_test (ev_op (ev_mod (ev_var rfl) ev_c (by decide)) ev_c (rv_eq rfl))) (fun _ H2 e2 => ?_) (fun _ H2 e2 => ?_)
    · refine s_retR (ra_spN3 e400 (ev_A eN (by omega)) ev_c (fun b H3 e3 h3 => .inr ⟨b, [rowA 400], rowA n, 1, 0, rfl, ⟨ratA (by decide) h3, rowA_ok n, by rw [rowA_len, sizeLine_eq]; omega, by decide⟩, by decide, fun i hi => absurd hi (Nat.not_lt_zero _), ?_, rfl⟩) fun H3 e3 => k H3 ((e1.trans e2).trans e3))
      rw [grow_succ]
      show _ < (once [rowA 400] (rowA n)).length
      rw [once_A (rowA_ok n), rowA_len, rowA_len]
      omega
    · refine s_retR (ra_spNN e400 (el_lst (ea_one (ev_A eN (by omega))) (show 1 ≤ 100000 by decide)) (fun b c H3 e3 hb hc => ⟨_, _, rfl, .inr ⟨b, [rowA 400], rfl, ratA (by decide) hb, .inr ⟨c, [rowA n], rfl, ratA (by omega) hc, .inr ⟨rfl, ⟨rowA 400, rfl, ?_⟩, rfl⟩⟩⟩⟩) fun H3 e3 => k H3 ((e1.trans e2).trans e3))
      rw [once_A (rowA_ok 400), rowA_len, rowA_len]
      omega
end
end Gw

namespace Gw
open PySem PySem.Spec PyProof.Rows L2 Evl
section
variable {P : Program} {w : World} {K : PySem.W.Frag} {mg : Str → Option Value} {base : Heap}
/-- of which classes an error is -/
structure IsD (K : PySem.W.Frag) (D : Addr) (b0 b1 b2 b3 b4 b5 b6 : Bool) : Prop where
  c : ExcC K D
  e : PySem.W.exmOne K (.ref D) (.ref (He.ga K "GrowError")) = some true
  q0 : PySem.W.kitOne K (.ref D) (.ref (He.ga K "BadRules")) = some b0
  q1 : PySem.W.kitOne K (.ref D) (.ref (He.ga K "BadRow")) = some b1
  q2 : PySem.W.kitOne K (.ref D) (.ref (He.ga K "BadLetter")) = some b2
  q3 : PySem.W.kitOne K (.ref D) (.ref (He.ga K "BadTimes")) = some b3
  q4 : PySem.W.kitOne K (.ref D) (.ref (He.ga K "BadPlace")) = some b4
  q5 : PySem.W.kitOne K (.ref D) (.ref (He.ga K "TooLong")) = some b5
  q6 : PySem.W.kitOne K (.ref D) (.ref (He.ga K "OtherRules")) = some b6
  v : PySem.W.kitOne K (.ref D) (.type "ValueError") = some true
abbrev tIs (K : PySem.W.Frag) (cls : Value) (d : Option Addr) (a : Addr) (c : V) : TE := tCB (rIsW K cls d a) (tCons (tVar 3) (tCons (tC c) tNil))
theorem ev_isW {σ : L2.St} {H : Hp} {a D : Addr} {c : V} {cv : Value} {b : Bool} (h : σ[3]? = some (some (.ref a))) (hD : ExcC K D) (hc : ∀ u, RelV c u → u = cv) (hk : PySem.W.kitOne K (.ref D) cv = some b) : Ev (tIs K (.ref D) none a c) σ H (.bl b) := fun H1 e Q q =>
  ea_two (ev_var h) (ev_c (v := c)) H1 e _ fun H2 e2 => ⟨D, rfl, rfl, hD, c, cv, b, rfl, hc, hk, q H2 e2⟩
theorem pe_isW {X : Cx} {a : Addr} {cls : Value} {d : Option Addr} {oe : Obj} {pn : List (Addr × Obj)} {x : Str} {C : V} {e : Expr} {te : TE} {p apos pos : Pos} (hz : Zc cls d oe) (hf : ∃ vs, oe.data = .fields vs) (z : (X.suite a ((a, oe) :: pn)).mg "isinstance" = none) (he : PE (X.suite a ((a, oe) :: pn)) e te)
    (hx : PE (X.suite a ((a, oe) :: pn)) (.Name x p) (tC C)) (hg : Gl (X.suite a ((a, oe) :: pn)) "isinstance" := by exact rfl)
    (hs : starEach [e, .Name x p] X.env = (false, eval e X.env) :: starEach [.Name x p] X.env := by rfl) (hs2 : starEach [.Name x p] X.env = (false, eval (.Name x p) X.env) :: starEach [] X.env := by rfl)
    (hpl : (backTo pos (starEach [.Name x p] X.env)).any (·.1) = false := by rfl) : PE (X.suite a ((a, oe) :: pn)) (.Call (.Name "isinstance" apos) [e, .Name x p] [] pos) (tCB (rIsW X.K cls d a) (tCons te (tCons (tC C) tNil))) :=
  pe_callB (call_isW hz hf) hg z boot_isinstance (pa_cons he (pa_cons hx pa_nil hs2) hs) (by decide) (by decide) hs hpl
theorem el_catV {σ : L2.St} {H : Hp} {te tb : TE} {a : Addr} {ys zs : List V} (h : Ev te σ H (.ref a)) (ha : H a = some (.lst ys)) (hb : EvL tb σ H zs) (hz : ys.length + zs.length ≤ sizeLine) : EvL (tOp rCat te tb) σ H (ys ++ zs) := fun H0 e0 Q q =>
  h H0 e0 _ fun H1 e1 => hb H1 (e0.trans e1) _ fun b H2 hb0 e2 h2 => ⟨a, b, ys, zs, rfl, rfl, (e0.trans (e1.trans e2)) _ _ ha, h2, hz, fun p hp => q p _ (fresh_back (e1.trans e2) hp) ((e1.trans e2).trans (Ex.new hp)) upd_same⟩
abbrev tSuite (K : PySem.W.Frag) (a : Addr) (cls : Value) (d : Option Addr) : TS :=
  tSeq (tAsg (tLst (tCons (tIs K cls d a (.ref (He.ga K "BadRules"))) (tCons (tIs K cls d a (.ref (He.ga K "BadRow"))) (tCons (tIs K cls d a (.ref (He.ga K "BadLetter"))) tNil)))) (gName 4))
  (tSeq (tAsg (tOp rCat (tVar 4) (tLst (tCons (tIs K cls d a (.ref (He.ga K "BadTimes"))) (tCons (tIs K cls d a (.ref (He.ga K "BadPlace"))) (tCons (tIs K cls d a (.ref (He.ga K "TooLong"))) tNil))))) (gName 4))
  (tRet (tOp rCat (tVar 4) (tLst (tCons (tIs K cls d a (.ref (He.ga K "OtherRules"))) (tCons (tIs K cls d a (.ty "ValueError")) tNil))))))
theorem s_suite {D : Addr} {b0 b1 b2 b3 b4 b5 b6 : Bool} (I : IsD K D b0 b1 b2 b3 b4 b5 b6) {σ : L2.St} {H : Hp} {a : Addr} {En : Ends} (h3 : σ[3]? = some (some (.ref a))) (hl : σ.length = 5)
    (k : ∀ p H', H p = none → Ex H H' → H' p = some (.lst [.bl b0, .bl b1, .bl b2, .bl b3, .bl b4, .bl b5, .bl b6, .bl true]) → En.rt (.ref p) H') : tSuite K a (.ref D) none En σ H := by
  match σ, hl, h3 with
  | [s0, s1, s2, s3, s4], _, h3 =>
    refine q_asgL (el_lst (ea_three (ev_isW h3 I.c (fun u r => r) I.q0) (ev_isW h3 I.c (fun u r => r) I.q1) (ev_isW h3 I.c (fun u r => r) I.q2)) (show 3 ≤ 100000 by decide)) fun p H1 hp e1 h1 => ?_
    refine q_asgL (el_catV (ev_var rfl) h1 (el_lst (ea_three (ev_isW h3 I.c (fun u r => r) I.q3) (ev_isW h3 I.c (fun u r => r) I.q4) (ev_isW h3 I.c (fun u r => r) I.q5)) (show 3 ≤ 100000 by decide)) (by show 3 + 3 ≤ sizeLine; decide)) fun p2 H2 hp2 e2 h2 => ?_
    refine s_retL (el_catV (ev_var rfl) h2 (el_lst (ea_two (ev_isW h3 I.c (fun u r => r) I.q6) (ev_isW h3 I.c (fun u r => r) I.v)) (show 2 ≤ 100000 by decide)) (by show 6 + 2 ≤ sizeLine; decide)) fun p3 H3 hp3 e3 h3 => ?_
    exact k p3 H3 (fresh_back (e1.trans e2) hp3) ((e1.trans e2).trans e3) h3
def dueL (c : Int) : List V := [.bl (decide (c = 0)), .bl (decide (c = 1)), .bl (decide (c = 2)), .bl (decide (c = 3)), .bl (decide (c = 4)), .bl (decide (c = 5)), .bl (decide (c = 6)), .bl true]
def preTold : List V → Hp → List V → Prop := fun vs _ xs => ∃ c wh mo : Int, vs = [.int c, .int wh, .int mo] ∧ 0 ≤ c ∧ c < 7 ∧ 0 ≤ wh ∧ wh < 100000 ∧ 0 ≤ mo ∧ mo < 1000 ∧ xs = dueL c
theorem ra_spNP {σ : L2.St} {H : Hp} {W : WX} {C : Addr} {good : List V → Hp → Prop} {bad : List V → Hp → Addr → Prop} {tx ty : TE} {xs : List V} {Pv : V → Hp → Prop} (ha : EvL tx σ H xs) (hb : EvP ty σ H Pv) (hB : ∀ b v H1, Ex H H1 → H1 b = some (.lst xs) → Pv v H1 → bad [.ref b, v] H1 C) (k : ∀ H1, Ex H H1 → W (.ref C) none σ H1) : Ra (tCallS (spM good bad) (WE W) (tCons tx (tCons ty tNil))) σ H := fun H1 e Q =>
  ha H1 e _ fun b H2 _ e2 h2 => hb H2 (e.trans e2) _ fun v H3 e3 hv => .inr ⟨C, hB b v H3 ((e.trans e2).trans e3) (e3 _ _ h2) hv, fun H4 e4 => k H4 (((e.trans e2).trans e3).trans e4)⟩
/-- rules of other letters than two -/
def PO (K : PySem.W.Frag) : V → Hp → Prop := fun v H => ∃ b S, v = .ref b ∧ RAt K H b S ∧ 2 ≠ S.length
theorem PO.mono : ∀ v H H', Ex H H' → PO K v H → PO K v H' := fun _ _ _ e ⟨b, S, h0, h1, h2⟩ => ⟨b, S, h0, h1.ex e, h2⟩
theorem rat_lit {H : Hp} {b : Addr} {S : GRules} (h : H b = some (.lst (RL S))) (ok : RulesOk S) (hz : S.all (fun r => decide (r.length ≤ 100000)) = true) : RAt K H b S := ⟨sq_of h, ok, fun r hr => of_decide_eq_true (List.all_eq_true.mp hz r hr)⟩
theorem rulesOk_lit {S : GRules} (h : (decide (0 < S.length) && decide (S.length ≤ 26) && S.all (fun r => r.all fun n => decide (n < S.length))) = true) : RulesOk S := by
  simp only [Bool.and_eq_true, decide_eq_true_eq, List.all_eq_true] at h
  exact ⟨h.1.1, h.1.2, fun r hr n hn => h.2 r hr n hn⟩
theorem abc_is : Str.ofString "b" = enc [1] ∧ Str.ofString "c" = enc [2] := by decide +kernel
abbrev nTold : List Str := ["_law_kind", "_law_which", "_law_more", "error", "_law_found"]
theorem sc_told : FnScope nTold ["_law_kind", "_law_which", "_law_more"] (defScope sLaw_told) := ⟨rfl, rfl, rfl, by decide +kernel, rfl, by decide +kernel, by decide +kernel⟩
theorem ok_told (X : T K mg) : C8.Cal P w K mg base 6 "_law_told" (spL preTold) [] := by
  refine cal_of X.d_law_told sc_told (fun _ _ _ _ _ _ us hl => match us, hl with | [_, _, _], _ => rfl) (fun vs H Q E h => ?_) (fun f cdv A outer s H vs Q E hr h => ?_)
  · obtain ⟨v, ⟨c, wh, mo, rfl, _⟩, _⟩ := h
    rfl
  · obtain ⟨xs, ⟨c, wh, mo, rfl, hc0, hc7, hw0, hw1, hm0, hm1, rfl⟩, k⟩ := h
    have nd := sc_told.nd
    refine ⟨_, (pss_cons (ps_try_as (i := 3) (ts := tSuite K) (Wout := fun _ _ _ _ => False) rfl rfl nd rfl rfl ⟨rfl, by decide, Or.inl X.g_GrowError⟩ takes0
        (fun W pn xe tk _ => (pss_one (ps_if (pt_cmpR op_eq (pv 0) pe_int (nomark _)) (pss_one (ps_expr (pe_cx (ox_q1 X) hr (by decide) (by exact rfl) tk (pa_cons (pv 1) (pa_cons (pv 2) pa_nil)))))
          (pss_one (ps_if (pt_cmpR op_lt (pv 0) pe_int (nomark _)) (pss_one (ps_expr (pe_cx (ox_q2 X) hr (by decide) (by exact rfl) tk (pa_cons (pv 0) (pa_cons (pv 1) (pa_cons (pv 2) pa_nil))))))
          (pss_one (ps_if (pt_cmpR op_lt (pv 0) pe_int (nomark _)) (pss_one (ps_expr (pe_cx (ox_q3 X) hr (by decide) (by exact rfl) tk (pa_cons (pv 0) (pa_cons (pv 1) (pa_cons (pv 2) pa_nil))))))
          (pss_one (ps_if (pt_cmpR op_eq (pv 0) pe_int (nomark _)) (pss_one (ps_expr (pe_cx (ox_q4 X) hr (by decide) (by exact rfl) tk (pa_cons (pv 1) (pa_cons (pv 2) pa_nil)))))
          (pss_one (ps_expr (pe_cx (ox_behind X) hr (by decide) (by exact rfl) tk (pa_cons (pe_lst (pa_cons pe_str (pa_cons pe_str pa_nil))) (pa_cons (pe_ix (show IxR _ (rIxL K) from ix_list) (pe_lst (pa_cons (pe_lst (pa_cons pe_str pa_nil)) (pa_cons (pe_lst (pa_cons pe_str (pa_cons pe_str (pa_cons pe_str pa_nil)))) (pa_cons (pe_op op_rep (pe_lst (pa_cons pe_str pa_nil)) (pe_op op_add pe_int (pe_op op_mod (pv 2) pe_int))) pa_nil)))) (pe_op op_mod (pv 1) pe_int) (fun _ _ => rfl)) pa_nil))))))))))))))
        (fun a oe cls d pn hz hf => (pss_cons (ps_set (i := 4) nd rfl (Or.inl rfl) (pe_lst (pa_cons (pe_isW hz hf X.z_isinstance (pv 3) (C8.pe_gc (v := .ref (He.ga K "BadRules")) (by exact rfl) ⟨_, X.x_BadRules.g, rfl⟩)) (pa_cons (pe_isW hz hf X.z_isinstance (pv 3) (C8.pe_gc (v := .ref (He.ga K "BadRow")) (by exact rfl) ⟨_, X.x_BadRow.g, rfl⟩)) (pa_cons (pe_isW hz hf X.z_isinstance (pv 3) (C8.pe_gc (v := .ref (He.ga K "BadLetter")) (by exact rfl) ⟨_, X.x_BadLetter.g, rfl⟩)) pa_nil)))))
      (pss_cons (ps_set (i := 4) nd rfl (Or.inl rfl) (pe_op op_cat (pv 4) (pe_lst (pa_cons (pe_isW hz hf X.z_isinstance (pv 3) (C8.pe_gc (v := .ref (He.ga K "BadTimes")) (by exact rfl) ⟨_, X.x_BadTimes.g, rfl⟩)) (pa_cons (pe_isW hz hf X.z_isinstance (pv 3) (C8.pe_gc (v := .ref (He.ga K "BadPlace")) (by exact rfl) ⟨_, X.x_BadPlace.g, rfl⟩)) (pa_cons (pe_isW hz hf X.z_isinstance (pv 3) (C8.pe_gc (v := .ref (He.ga K "TooLong")) (by exact rfl) ⟨_, X.x_TooLong.g, rfl⟩)) pa_nil))))))
      (pss_one (ps_ret (pe_op op_cat (pv 4) (pe_lst (pa_cons (pe_isW hz hf X.z_isinstance (pv 3) (C8.pe_gc (v := .ref (He.ga K "OtherRules")) (by exact rfl) ⟨_, X.x_OtherRules.g, rfl⟩)) (pa_cons (pe_isW hz hf X.z_isinstance (pv 3) (pe_bltn (v := .ty "ValueError") (by exact rfl) X.z_ValueError (by rfl) rfl (by decide) (by decide))) pa_nil))))))))))
      (pss_one (ps_ret (pe_lst pa_nil)))), ?_⟩
    have key : ∀ (D : Addr) (b0 b1 b2 b3 b4 b5 b6 : Bool) (En : Ends), IsD K D b0 b1 b2 b3 b4 b5 b6 → En.rt = Q → dueL c = [.bl b0, .bl b1, .bl b2, .bl b3, .bl b4, .bl b5, .bl b6, .bl true] → ∀ H', Ex H H' →
        wAs K (.ref (He.ga K "GrowError")) 3 (tSuite K) (fun _ _ _ _ => False) En (.ref D) none (L2.start nTold [V.int c, V.int wh, V.int mo]) H' := fun D b0 b1 b2 b3 b4 b5 b6 En I hE hL H' e => ⟨true, I.e, fun _ a ha => s_suite I rfl rfl fun p H2 hp e2 h2 => by
      show En.rt (.ref p) H2
      rw [hE]
      exact k p H2 (fresh_back e hp) (e.trans e2) (by rw [hL]; exact h2), fun h => Bool.noConfusion h⟩
    have d0 : IsD K (He.ga K "BadRules") true false false false false false false := ⟨X.c_BadRules, X.e_BadRules, X.q_BadRules_BadRules, X.q_BadRules_BadRow, X.q_BadRules_BadLetter, X.q_BadRules_BadTimes, X.q_BadRules_BadPlace, X.q_BadRules_TooLong, X.q_BadRules_OtherRules, X.v_BadRules⟩
    have d1 : IsD K (He.ga K "BadRow") false true false false false false false := ⟨X.c_BadRow, X.e_BadRow, X.q_BadRow_BadRules, X.q_BadRow_BadRow, X.q_BadRow_BadLetter, X.q_BadRow_BadTimes, X.q_BadRow_BadPlace, X.q_BadRow_TooLong, X.q_BadRow_OtherRules, X.v_BadRow⟩
    have d2 : IsD K (He.ga K "BadLetter") false false true false false false false := ⟨X.c_BadLetter, X.e_BadLetter, X.q_BadLetter_BadRules, X.q_BadLetter_BadRow, X.q_BadLetter_BadLetter, X.q_BadLetter_BadTimes, X.q_BadLetter_BadPlace, X.q_BadLetter_TooLong, X.q_BadLetter_OtherRules, X.v_BadLetter⟩
    have d3 : IsD K (He.ga K "BadTimes") false false false true false false false := ⟨X.c_BadTimes, X.e_BadTimes, X.q_BadTimes_BadRules, X.q_BadTimes_BadRow, X.q_BadTimes_BadLetter, X.q_BadTimes_BadTimes, X.q_BadTimes_BadPlace, X.q_BadTimes_TooLong, X.q_BadTimes_OtherRules, X.v_BadTimes⟩
    have d4 : IsD K (He.ga K "BadPlace") false false false false true false false := ⟨X.c_BadPlace, X.e_BadPlace, X.q_BadPlace_BadRules, X.q_BadPlace_BadRow, X.q_BadPlace_BadLetter, X.q_BadPlace_BadTimes, X.q_BadPlace_BadPlace, X.q_BadPlace_TooLong, X.q_BadPlace_OtherRules, X.v_BadPlace⟩
    have d5 : IsD K (He.ga K "TooLong") false false false false false true false := ⟨X.c_TooLong, X.e_TooLong, X.q_TooLong_BadRules, X.q_TooLong_BadRow, X.q_TooLong_BadLetter, X.q_TooLong_BadTimes, X.q_TooLong_BadPlace, X.q_TooLong_TooLong, X.q_TooLong_OtherRules, X.v_TooLong⟩
    have d6 : IsD K (He.ga K "OtherRules") false false false false false false true := ⟨X.c_OtherRules, X.e_OtherRules, X.q_OtherRules_BadRules, X.q_OtherRules_BadRow, X.q_OtherRules_BadLetter, X.q_OtherRules_BadTimes, X.q_OtherRules_BadPlace, X.q_OtherRules_TooLong, X.q_OtherRules_OtherRules, X.v_OtherRules⟩
    refine s_if (et_test (ev_op (ev_var rfl) ev_c (rv_eq rfl))) (fun h H1 e1 => ?_) (fun h H1 e1 => ?_)
    · have h : c = 0 := by simpa using h
      subst h
      exact s_dropR (ra_sp (ea_two (ev_var rfl) (ev_var rfl)) (fun H2 e2 => ⟨wh, mo, rfl, hw0, hw1, hm0, hm1, rfl⟩) fun H2 e2 => key _ _ _ _ _ _ _ _ _ d0 rfl rfl H2 (e1.trans e2))
    have h : c ≠ 0 := by simpa using h
    refine s_if (et_test (ev_op (ev_var rfl) ev_c rv_I0)) (fun h H2 e2 => ?_) (fun h H2 e2 => ?_)
    · have h : c < 3 := by simpa using h
      have h12 : c = 1 ∨ c = 2 := by omega
      rcases h12 with h | h
      · subst h
        exact s_dropR (ra_sp (ea_three (ev_var rfl) (ev_var rfl) (ev_var rfl)) (fun H3 e3 => ⟨1, wh, mo, rfl, hw0, hw1, hm0, hm1, .inl ⟨rfl, rfl⟩⟩) fun H3 e3 => key _ _ _ _ _ _ _ _ _ d1 rfl rfl H3 ((e1.trans e2).trans e3))
      · subst h
        exact s_dropR (ra_sp (ea_three (ev_var rfl) (ev_var rfl) (ev_var rfl)) (fun H3 e3 => ⟨2, wh, mo, rfl, hw0, hw1, hm0, hm1, .inr ⟨rfl, rfl⟩⟩) fun H3 e3 => key _ _ _ _ _ _ _ _ _ d2 rfl rfl H3 ((e1.trans e2).trans e3))
    have h : 3 ≤ c := by simpa using h
    have e12 := e1.trans e2
    refine s_if (et_test (ev_op (ev_var rfl) ev_c rv_I0)) (fun h H3 e3 => ?_) (fun h H3 e3 => ?_)
    · have h : c < 5 := by simpa using h
      have h12 : c = 3 ∨ c = 4 := by omega
      rcases h12 with h | h
      · subst h
        exact s_dropR (ra_sp (ea_three (ev_var rfl) (ev_var rfl) (ev_var rfl)) (fun H4 e4 => ⟨3, wh, mo, rfl, hw0, hw1, hm0, hm1, .inl ⟨rfl, rfl⟩⟩) fun H4 e4 => key _ _ _ _ _ _ _ _ _ d3 rfl rfl H4 ((e12.trans e3).trans e4))
      · subst h
        exact s_dropR (ra_sp (ea_three (ev_var rfl) (ev_var rfl) (ev_var rfl)) (fun H4 e4 => ⟨4, wh, mo, rfl, hw0, hw1, hm0, hm1, .inr ⟨rfl, rfl⟩⟩) fun H4 e4 => key _ _ _ _ _ _ _ _ _ d4 rfl rfl H4 ((e12.trans e3).trans e4))
    have h : 5 ≤ c := by simpa using h
    have e13 := e12.trans e3
    refine s_if (et_test (ev_op (ev_var rfl) ev_c (rv_eq rfl))) (fun h H4 e4 => ?_) (fun h H4 e4 => ?_)
    · have h : c = 5 := by simpa using h
      subst h
      exact s_dropR (ra_sp (ea_two (ev_var rfl) (ev_var rfl)) (fun H5 e5 => ⟨wh, mo, rfl, hw0, hw1, hm0, hm1, rfl⟩) fun H5 e5 => key _ _ _ _ _ _ _ _ _ d5 rfl rfl H5 ((e13.trans e4).trans e5))
    · have h5 : c ≠ 5 := by simpa using h
      have h : c = 6 := by omega
      subst h
      have e14 := e13.trans e4
      have hw3 : 0 ≤ wh % 3 ∧ wh % 3 < 3 := ⟨Int.emod_nonneg _ (by decide), Int.emod_lt_of_pos _ (by decide)⟩
      obtain ⟨n, hn1, hn2⟩ : ∃ n : Nat, 3 + mo % 9 = (n : Int) ∧ 3 ≤ n ∧ n ≤ 11 := ⟨(3 + mo % 9).toNat, by omega, by omega, by omega⟩
      have aE := a_enc
      have bE := abc_is.1
      have cE := abc_is.2
      have others : EvP (tOp (rIxL K) (tLst (tCons (tLst (tCons (tC (.str (Str.ofString "a"))) tNil)) (tCons (tLst (tCons (tC (.str (Str.ofString "a"))) (tCons (tC (.str (Str.ofString "b"))) (tCons (tC (.str (Str.ofString "c"))) tNil)))) (tCons (tOp rRep (tLst (tCons (tC (.str (Str.ofString "a"))) tNil)) (tOp (rI0 fun i j => .int (i + j)) (tC (.int 3)) (tOp (rI (fun _ j => 0 < j) fun i j => .int (i % j)) (tVar 2) (tC (.int 9))))) tNil)))) (tOp (rI (fun _ j => 0 < j) fun i j => .int (i % j)) (tVar 1) (tC (.int 3)))) (L2.start nTold [V.int 6, V.int wh, V.int mo]) H4 (PO K) := by
        refine ep_ixL PO.mono (elp_lst (n := 0+1+1+1) (eap_cons PO.mono (ep_el (el_lst (ea_one ev_c) (by decide)) fun p _ _ h => ⟨p, [[0]], rfl, oneA h, by decide⟩)
          (eap_cons PO.mono (ep_el (el_lst (ea_three ev_c ev_c ev_c) (by decide)) fun p _ _ h => ⟨p, [[0], [1], [2]], rfl, rat_lit (by rw [h, aE, bE, cE]; rfl) (rulesOk_lit (by decide)) (by decide), by decide⟩)
          (eap_cons PO.mono (ep_el (xs := (List.replicate n [V.str (Str.ofString "a")]).flatten) ?_ fun p _ _ h => ⟨p, List.replicate n [0], rfl, ?_, ?_⟩) eap_nil))) (by decide)) (ev_mod (ev_var rfl) ev_c (by decide)) hw3.1 hw3.2
        · have := el_rep (k := (n : Int)) (σ := L2.start nTold [V.int 6, V.int wh, V.int mo]) (H := H4) (el_lst (ea_one (ev_c (v := .str (Str.ofString "a")))) (show 1 ≤ 100000 by decide)) (ev_is (ev_addI (ev_c (v := .int 3)) (ev_mod (ev_var (i := 2) rfl) (ev_c (v := .int 9)) (by decide))) (congrArg V.int hn1)) (by omega) (by omega) (by rw [sizeLine_eq]; show 1 * _ ≤ _; omega)
          rw [Int.toNat_natCast] at this
          exact this
        · have hR : RL (List.replicate n [0]) = (List.replicate n [V.str (Str.ofString "a")]).flatten := by
            rw [aE]
            unfold RL
            rw [List.map_replicate]
            clear hn1 hn2 h
            induction n with
            | zero => rfl
            | succ n ih =>
              rw [List.replicate_succ, List.replicate_succ, List.flatten_cons, ih]
              rfl
          refine rat_lit (by rw [h, hR]) ⟨by simp; omega, by simp; omega, fun r hr => ?_⟩ (List.all_eq_true.mpr fun r hr => ?_)
          · rw [List.eq_of_mem_replicate hr, List.length_replicate]
            exact one_row (by omega)
          · rw [List.eq_of_mem_replicate hr]
            decide
        · rw [List.length_replicate]
          omega
      exact s_dropR (ra_spNP (el_lst (ea_two ev_c ev_c) (by decide)) others (fun b v H5 e5 h5 ⟨b2, S, hv, hS, hne⟩ => ⟨_, _, rfl, .inr ⟨b, [[0], [1]], rfl, rat_lit (by rw [h5, aE, bE]; rfl) (rulesOk_lit (by decide)) (by decide), .inr ⟨b2, S, hv, hS, .inl ⟨hne, rfl⟩⟩⟩⟩) fun H8 e8 => key _ _ _ _ _ _ _ _ _ d6 rfl rfl H8 (e14.trans e8))
end
end Gw

namespace Gw
open PySem PySem.Spec PyProof.Rows L2 Evl
def R26 : GRules := (List.range 26).map fun i => [(i + 25) % 26]
theorem r26_ok : RulesOk R26 := rulesOk_lit (by decide +kernel)
theorem at26 : ∀ j : Nat, j < 26 → atI (enc (List.range 26)).cps.toList ((j : Int) - 1) = some (97 + (j + 25) % 26) := by decide +kernel
theorem m26 : RowOk R26.length (List.range 26) ∧ (∀ i, i < 26 → (grow R26 (i + 1) (List.range 26)).length ≤ 100000) ∧ grow R26 26 (List.range 26) = List.range 26 := by
  refine ⟨?_, by decide +kernel, by decide +kernel⟩
  intro n hn
  exact List.mem_range.mp hn
theorem az26 : Str.ofString "az" = enc [0, 25] ∧ RowOk R26.length [0, 25] ∧ (∀ i, i < 1 → (grow R26 (i + 1) [0, 25]).length ≤ 100000) ∧ Str.ofString "zy" = enc (grow R26 1 [0, 25]) := by
  refine ⟨by decide +kernel, ?_, by decide +kernel, by decide +kernel⟩
  intro n hn
  rcases List.mem_cons.mp hn with rfl | hn
  · decide
  · rw [List.mem_singleton.mp hn]
    decide
theorem aaaRow : RowOk 1 [0, 0, 0] := rowA_ok 3
theorem aaa_enc : Str.ofString "aaa" = enc [0, 0, 0] := by decide +kernel
theorem gA3 : ∀ n, grow [[0]] n [0, 0, 0] = [0, 0, 0]
  | 0 => rfl
  | n + 1 => gA3 n
theorem aa_lst : some (HO.lst [V.str (Str.ofString "aa")]) = some (HO.lst [V.str (enc (rowA 2))]) := by
  have : Str.ofString "aa" = enc (rowA 2) := by decide +kernel
  rw [this]
theorem two300 : (!decide (V.int 8 = V.int 8) || (!decide (V.int ((2 ^ 300 : Nat) : Int) = V.int (1 * 2 ^ (300 : Int).toNat)) || !decide (V.str (Str.ofString "aaa") = V.str (Str.ofString "aaa")))) = false := by
  have : ((2 ^ 300 : Nat) : Int) = 1 * 2 ^ (300 : Int).toNat := by decide +kernel
  rw [this]
  simp
theorem grow_A (n : Nat) : (grow [rowA 2] n [0]).length = 2 ^ n ∧ RowOk 1 (grow [rowA 2] n [0]) := by
  induction n with
  | zero => exact ⟨rfl, one_row (by decide)⟩
  | succ n ih =>
    refine ⟨?_, grow_ok (rulesA_ok 2) (n + 1) (r := [0]) (one_row (by decide))⟩
    rw [grow_succ, once_A ih.2, ih.1, rowA_len, Nat.pow_succ, Nat.mul_comm]
section
variable {P : Program} {w : World} {K : PySem.W.Frag} {mg : Str → Option Value} {base : Heap}
theorem rv_eqInt (i j : Int) {H : Hp} : RV rEq (.int i) (.int j) H (.bl (decide (i = j))) := fun H1 e Q q => by
  have h : RV rEq (.int i) (.int j) H (.bl (decide (V.int i = V.int j))) := rv_eq rfl
  refine h H1 e Q fun H2 e2 => ?_
  have e3 : decide (V.int i = V.int j) = decide (i = j) := by simp
  rw [e3]
  exact q H2 e2
def dBs (bs : List Bool) : PyData := .list (bs.map PyData.bool)
abbrev nLaw : List Str := ["_law_script", "_law_cell", "_law_kind", "_law_due", "_law_every", "_law_turned", "_law_at"]
theorem sc_law : FnScope nLaw ["_law_script"] (defScope sLaw) := ⟨rfl, rfl, rfl, by decide +kernel, rfl, by decide +kernel, by decide +kernel⟩
def spLaw (K : PySem.W.Frag) : Sp := fun vs H Q _ => ∃ a, ∃ ns : List Int, vs = [.ref a] ∧ SqL K H a (ns.map V.int) ∧ ns.length ≤ 63 ∧ ∀ H', Q (.bl true) H'
def dueD (c : Int) : PyData := .list [.bool (decide (c = 0)), .bool (decide (c = 1)), .bool (decide (c = 2)), .bool (decide (c = 3)), .bool (decide (c = 4)), .bool (decide (c = 5)), .bool (decide (c = 6)), .bool true]
theorem dp_due {H : Hp} {p : Addr} {c : Int} (h : H p = some (.lst (dueL c))) : Dp K H (.ref p) (dueD c) := .lst (sq_of h) (.cons (.bl _) (.cons (.bl _) (.cons (.bl _) (.cons (.bl _) (.cons (.bl _) (.cons (.bl _) (.cons (.bl _) (.cons (.bl _) .nil))))))))
theorem shaped_due (c : Int) : SeqAt.shaped (dueD c) = true := by
  simp [dueD, SeqAt.shaped, PyData.canLay0, PyData.canLayAll0, PyData.depth, PyData.depthAll]
theorem ev_spVN4 {σ : L2.St} {H : Hp} {ta tb tc td : TE} {E : XK} {y z u v : V} {xs : List V} {pre : List V → Hp → V → Prop} (ha : EvL ta σ H xs) (hb : Ev tb σ H y) (hc : Ev tc σ H z) (hd : Ev td σ H u) (hp : ∀ a H1, Ex H H1 → H1 a = some (.lst xs) → pre [.ref a, y, z, u] H1 v) :
    Ev (tCall (spV pre) [] E (tCons ta (tCons tb (tCons tc (tCons td tNil))))) σ H v := fun H1 e Q q =>
  ha H1 e _ fun a H2 _ e2 h2 => hb H2 (e.trans e2) _ fun H3 e3 => hc H3 ((e.trans e2).trans e3) _ fun H4 e4 => hd H4 (((e.trans e2).trans e3).trans e4) _ fun H5 e5 => by
    show spV pre [V.ref a, y, z, u] H5 Q E
    exact ⟨v, hp a H5 ((((e.trans e2).trans e3).trans e4).trans e5) (((e3.trans e4).trans e5) _ _ h2), fun H6 e6 => q H6 ((((e2.trans e3).trans e4).trans e5).trans e6)⟩
theorem el_spLN4 {σ : L2.St} {H : Hp} {ta tb tc td : TE} {E : XK} {y z u : V} {xs zs : List V} {pre : List V → Hp → List V → Prop} (ha : EvL ta σ H xs) (hb : Ev tb σ H y) (hc : Ev tc σ H z) (hd : Ev td σ H u) (hp : ∀ a H1, Ex H H1 → H1 a = some (.lst xs) → pre [.ref a, y, z, u] H1 zs) :
    EvL (tCall (spL pre) [] E (tCons ta (tCons tb (tCons tc (tCons td tNil))))) σ H zs := fun H1 e Q q =>
  ha H1 e _ fun a H2 _ e2 h2 => hb H2 (e.trans e2) _ fun H3 e3 => hc H3 ((e.trans e2).trans e3) _ fun H4 e4 => hd H4 (((e.trans e2).trans e3).trans e4) _ fun H5 e5 => by
    show spL pre [V.ref a, y, z, u] H5 Q E
    exact ⟨zs, hp a H5 ((((e.trans e2).trans e3).trans e4).trans e5) (((e3.trans e4).trans e5) _ _ h2), fun p H6 hp0 e6 h6 => q p H6 (fresh_back (((e2.trans e3).trans e4).trans e5) hp0) ((((e2.trans e3).trans e4).trans e5).trans e6) h6⟩
theorem shut26 {l : GRow} (h0 : 0 ∈ l) (h1 : 1 ∉ l) (hc : ∀ m ∈ once R26 l, m ∈ l) : False := by
  have step : ∀ m, m < 26 → m ∈ l → (m + 25) % 26 ∈ l := fun m hm h => hc _ (List.mem_flatten.mpr ⟨ruleOf R26 m, List.mem_map.mpr ⟨m, h, rfl⟩, by
    have : ∀ m, m < 26 → (m + 25) % 26 ∈ ruleOf R26 m := by decide +kernel
    exact this m hm⟩)
  have all : ∀ k, k ≤ 25 → (26 - k) % 26 ∈ l := by
    intro k
    induction k with
    | zero => exact fun _ => h0
    | succ k ih =>
      intro hk
      have := step ((26 - k) % 26) (Nat.mod_lt _ (by decide)) (ih (by omega))
      have e : ((26 - k) % 26 + 25) % 26 = (26 - (k + 1)) % 26 := by omega
      rw [e] at this
      exact this
  exact h1 (all 25 (by decide))
theorem ev_show26 {σ : L2.St} {H : Hp} {ta ta2 : TA} {a : Addr} (h1 : EvA ta σ H [.ref a, .str (sg 0), .str (sg 1)]) (h2 : EvA ta2 σ H [.ref a, .str (sg 0), .str (sg 1)]) (hR : RAt K H a R26) : Ev (tMeth (He.ga K "Times") "shows" (spV (preTimes K)) [] E0 (tCall (spComes K) [] E0 ta) ta2) σ H (.bl true) := fun H1 e Q q =>
  h1 H1 e _ fun H2 e2 => by
    rw [List.append_nil]
    refine ⟨a, R26, 0, 1, rfl, hR.ex (e.trans e2), by decide, by decide, fun x H3 hx e3 hC => ?_⟩
    rcases hC with ⟨dx, kk, hk, hz, hi⟩ | ⟨dx, l, _, _, hy, hz, hcl, _⟩
    · refine ⟨x, dx, _, rfl, hi, rfl, h2 H3 ((e.trans e2).trans e3) _ fun H4 e4 => ?_⟩
      rw [List.append_nil]
      refine ⟨.bl true, ⟨x, dx, a, R26, 0, 1, (kk : Int), rfl, e4 _ _ hi, hR.ex (((e.trans e2).trans e3).trans e4), by decide, by decide, ?_⟩, fun H5 e5 => q H5 (((e2.trans e3).trans e4).trans e5)⟩
      unfold timesB
      rw [Int.toNat_natCast]
      have h26 : R26.length = 26 := by decide
      have : (decide ((0 : Int) ≤ (kk : Int)) && decide ((kk : Int) ≤ (R26.length : Int))) = true := by simp; omega
      rw [this, Bool.true_and]
      simp [hz]
    · exact absurd hcl fun h => shut26 hy hz h
theorem ok_law (X : T K mg) {f : Addr} {fd : FuncData} (F : FunD K "law" "law" (defArgs sLaw) (defBody sLaw) (defScope sLaw) [] [] f fd) : FnOk P w K mg base CX0 7 f fd ["_law_script"] (spLaw K) := by
  refine fn_ok F sc_law (fun vs H Q E h => ?_) (fun cdv A outer s H vs Q E hr h => ?_)
  · obtain ⟨a, ns, rfl, _⟩ := h
    rfl
  · obtain ⟨sa, ns, rfl, hS, hns, k⟩ := h
    have nd := sc_law.nd
    refine ⟨_, (pss_cons (ps_for PassesOwn.never rfl (pi_list (pv 0)) (pg_name (i := 1) nd rfl (Or.inl rfl))
        (pss_cons (ps_set (i := 2) nd rfl (Or.inl rfl) (pe_op op_mod (pv 1) pe_int))
      (pss_cons (ps_if (PW.pt (pw_and (pt_cmpR op_eq (pv 2) pe_int (nomark _)) (pw_and (pt_cmpR op_eq (pe_op op_mod (pe_op op_fdiv (pv 1) pe_int) pe_int) pe_int (nomark _)) (pw_and1 (pt_cmpR op_ne (pe_lenT X.z_len (C8.pe_c (ok_grown X) hr (by decide) rfl (pa_cons (pe_lst (pa_cons (pe_op op_repS pe_str pe_int) pa_nil)) (pa_cons (pe_op op_repS pe_str pe_int) (pa_cons pe_int pa_nil))))) pe_int (nomark _)))))) (pss_one (ps_ret pe_bl)) pss_nil)
      (pss_cons (ps_set (i := 3) nd rfl (Or.inl rfl) (pe_lst (pa_cons (pe_cmpR op_eq (pv 2) pe_int (nomark _)) (pa_cons (pe_cmpR op_eq (pv 2) pe_int (nomark _)) (pa_cons (pe_cmpR op_eq (pv 2) pe_int (nomark _)) (pa_cons (pe_cmpR op_eq (pv 2) pe_int (nomark _)) (pa_cons (pe_cmpR op_eq (pv 2) pe_int (nomark _)) (pa_cons (pe_cmpR op_eq (pv 2) pe_int (nomark _)) (pa_cons (pe_cmpR op_eq (pv 2) pe_int (nomark _)) (pa_cons pe_bl pa_nil))))))))))
      (pss_one (ps_if (pt_cmpR (op_neD hr.units) (C8.pe_c (ok_told X) hr (by decide) rfl (pa_cons (pv 2) (pa_cons (pe_op op_mod (pe_op op_fdiv (pv 1) pe_int) pe_int) (pa_cons (pe_op op_mod (pe_op op_fdiv (pv 1) pe_int) pe_int) pa_nil)))) (pv 3) (nomark _)) (pss_one (ps_ret pe_bl)) pss_nil))))))
      (pss_cons (ps_set (i := 4) nd rfl (Or.inr rfl) pe_alph)
      (pss_cons (ps_setLc (i := 5) (own := [("_law_at", 6)]) (g := gName 6) (tt := tYes) (te := tOp rIxS (tVar 4) (tOp (rI0 fun i j => .int (i - j)) (tVar 6) (tC (.int 1)))) rfl nd rfl rfl (sw_true rfl rfl rfl (by decide +kernel)) (pi_range1 rfl X.z_range (pa_cons pe_int pa_nil)) (blkOk_by (N := nLaw) (sc := defScope sLaw) (by decide +kernel))
          (fun _ _ _ _ _ => pg_name (i := 6) nd rfl (Or.inl rfl)) (fun _ _ _ _ _ => pts_nil) (fun _ _ _ _ _ => pe_ix ix_str (pv 4) (pe_op op_sub (pv 6) pe_int) (fun _ _ => rfl)))
      (pss_cons (ps_if (PW.pt (pw_or (pt_cmpR op_ne (C8.pe_c (ok_grown X) hr (by decide) rfl (pa_cons (pv 5) (pa_cons (pv 4) (pa_cons pe_int pa_nil)))) (pv 4) (nomark _)) (pw_or1 (pt_cmpR op_ne (C8.pe_c (ok_grown X) hr (by decide) rfl (pa_cons (pv 5) (pa_cons pe_str (pa_cons pe_int pa_nil)))) pe_str (nomark _))))) (pss_one (ps_ret pe_bl)) pss_nil)
      (pss_cons (ps_if (pt_cmpR op_notBl (C8.pe_mt (ok_timesS X) hr (by decide) (C8.pe_c (ok_comes X) hr (by decide) rfl (pa_cons (pv 5) (pa_cons pe_str (pa_cons pe_str pa_nil)))) (pa_cons (pv 5) (pa_cons pe_str (pa_cons pe_str pa_nil)))) pe_bl (nomark _)) (pss_one (ps_ret pe_bl)) pss_nil)
      (pss_cons (ps_if (PW.pt (pw_or (pt_cmpR op_ne (C8.pe_c (ok_length X) hr (by decide) rfl (pa_cons (pe_lst (pa_cons pe_str (pa_cons pe_str pa_nil))) (pa_cons pe_str (pa_cons pe_int pa_nil)))) pe_int (nomark _)) (pw_or (pt_cmpR op_ne (C8.pe_c (ok_length X) hr (by decide) rfl (pa_cons (pe_lst (pa_cons pe_str pa_nil)) (pa_cons pe_str (pa_cons pe_int pa_nil)))) (pe_op op_shl pe_int pe_int) (nomark _))
          (pw_or1 (pt_cmpR op_ne (C8.pe_c (ok_grown X) hr (by decide) rfl (pa_cons (pe_lst (pa_cons pe_str pa_nil)) (pa_cons pe_str (pa_cons pe_int pa_nil)))) pe_str (nomark _)))))) (pss_one (ps_ret pe_bl)) pss_nil)
      (pss_one (ps_ret (pe_and (pe_cmpR op_eq (C8.pe_c (ok_letter X) hr (by decide) rfl (pa_cons (pe_lst (pa_cons pe_str (pa_cons pe_str pa_nil))) (pa_cons pe_str (pa_cons pe_int (pa_cons pe_int pa_nil))))) pe_str (nomark _)) (pe_one (pe_cmpR (op_eqD hr.units) (C8.pe_c (ok_first X) hr (by decide) rfl (pa_cons (pe_lst (pa_cons pe_str (pa_cons pe_str pa_nil))) (pa_cons pe_str (pa_cons pe_int (pa_cons pe_int pa_nil))))) (pe_lst (pa_cons pe_int (pa_cons pe_int pa_nil))) (nomark _)))))))))))), ?_⟩
    refine q_forLn (ev_var rfl) hS (fun i σ' H' => ∃ u1 u2 u3, σ' = [some (.ref sa), u1, u2, u3, none, none, none] ∧ Ex H H') (fun H1 e1 => ⟨none, none, none, rfl, e1⟩) (fun i σ' H' _ ⟨_, _, _, _, eH⟩ => ex_l eH hS) ?_ ?_
    · rintro i x σ' H' hx ⟨u1, u2, u3, rfl, eH⟩
      obtain ⟨c, _, rfl⟩ := List.mem_map.mp (List.mem_of_getElem? hx)
      have hk : 0 ≤ c % 7 ∧ c % 7 < 7 := ⟨Int.emod_nonneg _ (by decide), Int.emod_lt_of_pos _ (by decide)⟩
      refine q_asg (v := .int (c % 7)) (ev_mod (ev_var rfl) ev_c (by decide)) fun H1 e1 => ?_
      generalize hkk : c % 7 = kd at hk
      have big : ∀ {σ : L2.St} {H' : Hp}, Ev (tCall (spV (preGrown K)) [] E0 (tCons (tLst (tCons (tOp rRepS (tC (.str (Str.ofString "a"))) (tC (.int 400))) tNil)) (tCons (tOp rRepS (tC (.str (Str.ofString "a"))) (tC (.int 250))) (tCons (tC (.int 1)) tNil)))) σ H' (.str (enc (grow [rowA 400] 1 (rowA 250)))) := fun {σ H'} =>
        ev_spVN3 (el_lst (ea_one (ev_A (n := 400) ev_c (by decide))) (show 1 ≤ 100000 by decide)) (ev_A (n := 250) ev_c (by decide)) ev_c fun b H2 e2 h2 => ⟨b, [rowA 400], rowA 250, 1, rfl, ⟨ratA (by decide) h2, rowA_ok 250, by rw [rowA_len, sizeLine_eq]; decide, by decide⟩, fun i hi => by
          have : i = 0 := by omega
          subst this
          show (once [rowA 400] (rowA 250)).length ≤ _
          rw [once_A (rowA_ok 250), rowA_len, rowA_len]
          decide, rfl⟩
      have bl : (grow [rowA 400] 1 (rowA 250)).length = 100000 := by
        show (once [rowA 400] (rowA 250)).length = _
        rw [once_A (rowA_ok 250), rowA_len, rowA_len]
      refine q_skip (et_is (et_and (et_test (ev_op (ev_var rfl) ev_c (rv_eq rfl))) fun _ => et_and (et_test (ev_op (ev_mod (ev_div (ev_var rfl) ev_c (by decide) (by decide)) ev_c (by decide)) ev_c (rv_eq rfl))) fun _ => et_test (ev_op (ev_lenE big (by rw [bl, sizeLine_eq]; decide)) ev_c (rv_ne rfl))) (by rw [bl]; simp)) fun H2 e2 => ?_
      refine q_asgL (xs := dueL kd) (el_lst (ea_cons (ev_op (ev_var rfl) ev_c (rv_eqInt kd 0)) (ea_cons (ev_op (ev_var rfl) ev_c (rv_eqInt kd 1)) (ea_cons (ev_op (ev_var rfl) ev_c (rv_eqInt kd 2)) (ea_cons (ev_op (ev_var rfl) ev_c (rv_eqInt kd 3)) (ea_cons (ev_op (ev_var rfl) ev_c (rv_eqInt kd 4)) (ea_three (ev_op (ev_var rfl) ev_c (rv_eqInt kd 5)) (ev_op (ev_var rfl) ev_c (rv_eqInt kd 6)) ev_c)))))) (show 8 ≤ 100000 by decide)) fun p H3 hp e3 h3 => ?_
      refine s_skip (et_test (ev_opL1 (el_spL (ea_three (ev_var rfl) (ev_mod (ev_div (ev_var rfl) ev_c (by decide) (by decide)) ev_c (by decide)) (ev_mod (ev_div (ev_var rfl) ev_c (by decide) (by decide)) ev_c (by decide))) fun H4 e4 => ⟨kd, _, _, rfl, hk.1, hk.2, Int.emod_nonneg _ (by decide), Int.emod_lt_of_pos _ (by decide), Int.emod_nonneg _ (by decide), Int.emod_lt_of_pos _ (by decide), rfl⟩) (fun _ _ => ev_var rfl) fun q H4 h4 e4 => rv_neD (dp_due h4) (dp_due (e4 _ _ h3)) (shaped_due kd))) fun H4 e4 => ?_
      exact ⟨_, _, _, rfl, eH.trans (e1.trans (e2.trans (e3.trans e4)))⟩
    · rintro σ' H' ⟨u1, u2, u3, rfl, eH⟩
      refine q_asg (v := .str (enc (List.range 26))) (by rw [show enc (List.range 26) = ALPH from by decide +kernel]; exact ev_c) fun H1 e1 => ?_
      refine q_asgL (xs := RL R26) ?_ fun p H2 hp e2 h2 => ?_
      · have e : RL R26 = (List.range 26).map fun i => V.str (enc [(i + 25) % 26]) := by
          unfold RL R26
          rw [List.map_map]
          rfl
        rw [e]
        refine el_rng (ea_one (ev_c (v := .int 26))) _ (by decide) (fun _ => rfl) fun j hj H2 e2 => ?_
        exact ev_op (ev_var (i := 4) rfl) (ev_subI (ev_var (i := 6) rfl) ev_c) fun H3 _ Q' q' => ⟨enc (List.range 26), _, 97 + (j + 25) % 26, rfl, rfl, by rw [enc_len]; exact sz_of (by decide), at26 j hj, q' H3 (Ex.refl H3)⟩
      have oR : ∀ {H3 : Hp}, Ex H2 H3 → RAt K H3 p R26 := fun e => rat_lit (e _ _ h2) r26_ok (by decide +kernel)
      have eA : ∀ {σ : L2.St} {H' : Hp}, Ev (tC (.str (Str.ofString "a"))) σ H' (.str (sg 0)) := by
        rw [a_enc]
        exact ev_c
      have eB : ∀ {σ : L2.St} {H' : Hp}, Ev (tC (.str (Str.ofString "b"))) σ H' (.str (sg 1)) := by
        rw [abc_is.1]
        exact ev_c
      refine q_skip (et_is (et_or (et_test (ev_op (ev_spV (v := .str (enc (List.range 26))) (ea_three (ev_var rfl) (ev_var rfl) ev_c) fun H3 e3 => ⟨p, R26, List.range 26, 26, rfl, ⟨oR e3, m26.1, by rw [List.length_range, sizeLine_eq]; decide, by decide⟩, m26.2.1, by rw [m26.2.2]⟩) (ev_var rfl) (rv_ne rfl))) fun _ =>
        et_test (ev_op (ev_spV (v := .str (Str.ofString "zy")) (ea_three (ev_var rfl) ev_c ev_c) fun H3 e3 => ⟨p, R26, [0, 25], 1, by rw [az26.1]; rfl, ⟨oR e3, az26.2.1, by show 2 < sizeLine; decide, by decide⟩, az26.2.2.1, by rw [az26.2.2.2]⟩) ev_c (rv_ne rfl))) (by simp)) fun H3 e3 => ?_
      refine q_skip (et_is (et_test (ev_op (ev_show26 (ea_three (ev_var rfl) eA eB) (ea_three (ev_var rfl) eA eB) (oR e3)) ev_c rv_notB)) (by simp)) fun H4 e4 => ?_
      refine q_skip (et_is (et_or (et_test (ev_op (ev_spVN3 (v := .int 8) (el_lst (ea_two ev_c ev_c) (by decide)) ev_c ev_c fun b H5 e5 h5 => ⟨b, R2r, [0, 1], 3, by rw [ab_enc]; rfl, askedR2 (ratR2 h5), by rw [grown_three]; rfl⟩) ev_c (rv_ne rfl))) fun _ =>
        et_or (et_test (ev_op (ev_spVN3 (v := .int ((2 ^ 300 : Nat) : Int)) (el_lst (ea_one ev_c) (by decide)) ev_c ev_c fun b H5 e5 h5 => ⟨b, [rowA 2], [0], 300, by rw [a_enc]; rfl, ⟨ratA (by decide) (by rw [h5]; exact aa_lst), one_row (by decide), by show 1 < sizeLine; decide, by decide⟩, by rw [(grow_A 300).1]⟩) (ev_op ev_c ev_c (rv_I ⟨by decide, by decide, by decide⟩)) (rv_ne rfl))) fun _ =>
        et_test (ev_op (ev_spVN3 (v := .str (Str.ofString "aaa")) (el_lst (ea_one ev_c) (by decide)) ev_c ev_c fun b H5 e5 h5 => ⟨b, [[0]], [0, 0, 0], 300, by rw [aaa_enc]; rfl, ⟨oneA h5, aaaRow, by show 3 < sizeLine; decide, by decide⟩, fun i _ => by rw [gA3]; decide, by rw [gA3, aaa_enc]⟩) ev_c (rv_ne rfl))) two300) fun H5 e5 => ?_
      refine s_ret (v := .bl true) (ev_is (ev_andV (b := true) (ev_op (ev_spVN4 (v := .str (Str.ofString "a")) (el_lst (ea_two ev_c ev_c) (by decide)) ev_c ev_c ev_c fun b H6 e6 h6 => ⟨b, R2r, [0, 1], 0, 3, 7, by rw [ab_enc]; rfl, askedR2 (ratR2 h6), by decide +kernel, by rw [a_enc]; rfl⟩) ev_c (rv_eq rfl)) fun _ =>
        ev_opLL (el_spLN4 (zs := [5, 3].map V.int) (el_lst (ea_two ev_c ev_c) (by decide)) ev_c ev_c ev_c fun b H6 e6 h6 => ⟨b, R2r, [0, 1], 3, 8, by rw [ab_enc]; rfl, askedR2 (ratR2 h6), by rw [grown_three]; decide, by decide +kernel⟩) (el_lst (ea_two ev_c ev_c) (by decide)) fun p q H6 hp hq e6 => rv_eqD (dp_ints (ns := [5, 3]) (sq_of hp)) (dp_ints (ns := [5, 3]) (sq_of hq)) (shaped_ints _)) (by simp)) fun H6 _ => k H6
end
end Gw

namespace Gw
open PySem PySem.Spec PyProof.Rows L2 Evl
def fn : List He.DefD := [
  ⟨("is_number", none), "is_number", "is_number", defArgs sIs_number, defBody sIs_number, defScope sIs_number, [], []⟩,
  ⟨("is_row", none), "is_row", "is_row", defArgs sIs_row, defBody sIs_row, defScope sIs_row, [], []⟩,
  ⟨("asked_rules", none), "asked_rules", "asked_rules", defArgs sAsked_rules, defBody sAsked_rules, defScope sAsked_rules, [], []⟩,
  ⟨("asked_row", none), "asked_row", "asked_row", defArgs sAsked_row, defBody sAsked_row, defScope sAsked_row, [], []⟩,
  ⟨("asked_letter", none), "asked_letter", "asked_letter", defArgs sAsked_letter, defBody sAsked_letter, defScope sAsked_letter, [], []⟩,
  ⟨("asked_times", none), "asked_times", "asked_times", defArgs sAsked_times, defBody sAsked_times, defScope sAsked_times, [], []⟩,
  ⟨("once", none), "once", "once", defArgs sOnce, defBody sOnce, defScope sOnce, [], []⟩,
  ⟨("lengths_of", none), "lengths_of", "lengths_of", defArgs sLengths_of, defBody sLengths_of, defScope sLengths_of, [], []⟩,
  ⟨("long_by", none), "long_by", "long_by", defArgs sLong_by, defBody sLong_by, defScope sLong_by, [], []⟩,
  ⟨("counted", none), "counted", "counted", defArgs sCounted, defBody sCounted, defScope sCounted, [], []⟩,
  ⟨("grown_counts", none), "grown_counts", "grown_counts", defArgs sGrown_counts, defBody sGrown_counts, defScope sGrown_counts, [], []⟩,
  ⟨("counts", none), "counts", "counts", defArgs sCounts, defBody sCounts, defScope sCounts, [], []⟩,
  ⟨("length", none), "length", "length", defArgs sLength, defBody sLength, defScope sLength, [], []⟩,
  ⟨("grown", none), "grown", "grown", defArgs sGrown, defBody sGrown, defScope sGrown, [], []⟩,
  ⟨("skipped", none), "skipped", "skipped", defArgs sSkipped, defBody sSkipped, defScope sSkipped, [], []⟩,
  ⟨("letter", none), "letter", "letter", defArgs sLetter, defBody sLetter, defScope sLetter, [], []⟩,
  ⟨("first", none), "first", "first", defArgs sFirst, defBody sFirst, defScope sFirst, [], []⟩,
  ⟨("behind", none), "behind", "behind", defArgs sBehind, defBody sBehind, defScope sBehind, [], []⟩,
  ⟨("Times", some "__init__"), "__init__", "Times.__init__", defArgs sTimes_init, defBody sTimes_init, defScope sTimes_init, [], []⟩,
  ⟨("Times", some "shows"), "shows", "Times.shows", defArgs sTimes_shows, defBody sTimes_shows, defScope sTimes_shows, [], []⟩,
  ⟨("Shut", some "__init__"), "__init__", "Shut.__init__", defArgs sShut_init, defBody sShut_init, defScope sShut_init, [], []⟩,
  ⟨("Shut", some "shows"), "shows", "Shut.shows", defArgs sShut_shows, defBody sShut_shows, defScope sShut_shows, [], []⟩,
  ⟨("Alike", some "shows"), "shows", "Alike.shows", defArgs sAlike_shows, defBody sAlike_shows, defScope sAlike_shows, [], []⟩,
  ⟨("Apart", some "__init__"), "__init__", "Apart.__init__", defArgs sApart_init, defBody sApart_init, defScope sApart_init, [], []⟩,
  ⟨("Apart", some "shows"), "shows", "Apart.shows", defArgs sApart_shows, defBody sApart_shows, defScope sApart_shows, [], []⟩,
  ⟨("comes", none), "comes", "comes", defArgs sComes, defBody sComes, defScope sComes, [], []⟩,
  ⟨("lengths", none), "lengths", "lengths", defArgs sLengths, defBody sLengths, defScope sLengths, [], []⟩,
  ⟨("_law_rules_asked", none), "_law_rules_asked", "_law_rules_asked", defArgs sLaw_rules_asked, defBody sLaw_rules_asked, defScope sLaw_rules_asked, [], []⟩,
  ⟨("_law_rows_asked", none), "_law_rows_asked", "_law_rows_asked", defArgs sLaw_rows_asked, defBody sLaw_rows_asked, defScope sLaw_rows_asked, [], []⟩,
  ⟨("_law_numbers_asked", none), "_law_numbers_asked", "_law_numbers_asked", defArgs sLaw_numbers_asked, defBody sLaw_numbers_asked, defScope sLaw_numbers_asked, [], []⟩,
  ⟨("_law_long_asked", none), "_law_long_asked", "_law_long_asked", defArgs sLaw_long_asked, defBody sLaw_long_asked, defScope sLaw_long_asked, [], []⟩,
  ⟨("_law_told", none), "_law_told", "_law_told", defArgs sLaw_told, defBody sLaw_told, defScope sLaw_told, [], []⟩,
  ⟨("law", none), "law", "law", defArgs sLaw, defBody sLaw, defScope sLaw, [], []⟩]
def fa0 : List He.Fa := [.free "isinstance", .free "int", .free "str", .free "list", .free "bool", .free "len", .free "all", .free "any", .free "sum", .free "range", .free "reversed", .free "zip", .free "enumerate", .free "sorted", .free "ValueError", .str "LETTERS" "abcdefghijklmnopqrstuvwxyz", .int "TIMES" 300, .int "LONGEST" 100000, .glo "is_number", .glo "is_row", .glo "asked_rules", .glo "asked_row", .glo "asked_letter", .glo "asked_times", .glo "once", .glo "lengths_of", .glo "long_by", .glo "counted", .glo "grown_counts", .glo "counts"]
def fa1 : List He.Fa := [.glo "length", .glo "grown", .glo "skipped", .glo "letter", .glo "first", .glo "behind", .glo "comes", .glo "lengths", .glo "_law_rules_asked", .glo "_law_rows_asked", .glo "_law_numbers_asked", .glo "_law_long_asked", .glo "_law_told", .glo "law", .glo "Answer", .cls "Answer", .glo "Times", .cls "Times", .glo "Shut", .cls "Shut", .glo "Alike", .cls "Alike", .glo "Apart", .cls "Apart", .noat "Times" "many", .glo "Times", .mkr "Times", .meth "Times" "shows", .noat "Shut" "letters", .glo "Shut"]
def fa2 : List He.Fa := [.mkr "Shut", .meth "Shut" "shows", .meth "Alike" "shows", .noat "Apart" "many", .glo "Apart", .mkr "Apart", .meth "Apart" "shows", .glo "GrowError", .glo "BadRules", .exc "BadRules", .exm "BadRules" "GrowError" true, .glo "BadRow", .exc "BadRow", .exm "BadRow" "GrowError" true, .glo "BadLetter", .exc "BadLetter", .exm "BadLetter" "GrowError" true, .glo "BadTimes", .exc "BadTimes", .exm "BadTimes" "GrowError" true, .glo "BadPlace", .exc "BadPlace", .exm "BadPlace" "GrowError" true, .glo "TooLong", .exc "TooLong", .exm "TooLong" "GrowError" true, .glo "OtherRules", .exc "OtherRules", .exm "OtherRules" "GrowError" true]
def fa : List He.Fa := fa0 ++ fa1 ++ fa2
def nm0 : List Str := ["GrowError", "BadRules", "BadRow", "BadLetter", "BadTimes", "BadPlace", "TooLong", "OtherRules", "LETTERS", "TIMES", "is_number", "is_row", "asked_rules", "asked_row", "asked_letter", "asked_times", "once", "lengths_of", "long_by", "counted", "grown_counts", "LONGEST", "counts", "length", "grown", "skipped", "letter", "first", "behind", "Answer"]
def nm1 : List Str := ["Times", "Shut", "Alike", "Apart", "comes", "lengths", "_law_rules_asked", "_law_rows_asked", "_law_numbers_asked", "_law_long_asked", "_law_told"]
def loose : List Str := nm0 ++ nm1
def ex0 : List (PySem.W.Frag → Bool) := [ownB "Answer", ownB "Times", ownB "Shut", ownB "Alike", ownB "Apart", kitQ "Times" "Answer" true, kitQ "Times" "Times" true, kitQ "Times" "Shut" false, kitQ "Times" "Alike" false, kitQ "Times" "Apart" false, kitQ "Shut" "Answer" true, kitQ "Shut" "Times" false, kitQ "Shut" "Shut" true, kitQ "Shut" "Alike" false, kitQ "Shut" "Apart" false, kitQ "Alike" "Answer" true, kitQ "Alike" "Times" false, kitQ "Alike" "Shut" false, kitQ "Alike" "Alike" true, kitQ "Alike" "Apart" false, kitQ "Apart" "Answer" true, kitQ "Apart" "Times" false, kitQ "Apart" "Shut" false, kitQ "Apart" "Alike" false, kitQ "Apart" "Apart" true, bareB "Alike", excCB "BadRules", kitV "BadRules" "ValueError" true, kitQ "BadRules" "BadRules" true, kitQ "BadRules" "BadRow" false]
def ex1 : List (PySem.W.Frag → Bool) := [kitQ "BadRules" "BadLetter" false, kitQ "BadRules" "BadTimes" false, kitQ "BadRules" "BadPlace" false, kitQ "BadRules" "TooLong" false, kitQ "BadRules" "OtherRules" false, excCB "BadRow", kitV "BadRow" "ValueError" true, kitQ "BadRow" "BadRules" false, kitQ "BadRow" "BadRow" true, kitQ "BadRow" "BadLetter" false, kitQ "BadRow" "BadTimes" false, kitQ "BadRow" "BadPlace" false, kitQ "BadRow" "TooLong" false, kitQ "BadRow" "OtherRules" false, excCB "BadLetter", kitV "BadLetter" "ValueError" true, kitQ "BadLetter" "BadRules" false, kitQ "BadLetter" "BadRow" false, kitQ "BadLetter" "BadLetter" true, kitQ "BadLetter" "BadTimes" false, kitQ "BadLetter" "BadPlace" false, kitQ "BadLetter" "TooLong" false, kitQ "BadLetter" "OtherRules" false, excCB "BadTimes", kitV "BadTimes" "ValueError" true, kitQ "BadTimes" "BadRules" false, kitQ "BadTimes" "BadRow" false, kitQ "BadTimes" "BadLetter" false, kitQ "BadTimes" "BadTimes" true, kitQ "BadTimes" "BadPlace" false]
def ex2 : List (PySem.W.Frag → Bool) := [kitQ "BadTimes" "TooLong" false, kitQ "BadTimes" "OtherRules" false, excCB "BadPlace", kitV "BadPlace" "ValueError" true, kitQ "BadPlace" "BadRules" false, kitQ "BadPlace" "BadRow" false, kitQ "BadPlace" "BadLetter" false, kitQ "BadPlace" "BadTimes" false, kitQ "BadPlace" "BadPlace" true, kitQ "BadPlace" "TooLong" false, kitQ "BadPlace" "OtherRules" false, excCB "TooLong", kitV "TooLong" "ValueError" true, kitQ "TooLong" "BadRules" false, kitQ "TooLong" "BadRow" false, kitQ "TooLong" "BadLetter" false, kitQ "TooLong" "BadTimes" false, kitQ "TooLong" "BadPlace" false, kitQ "TooLong" "TooLong" true, kitQ "TooLong" "OtherRules" false, excCB "OtherRules", kitV "OtherRules" "ValueError" true, kitQ "OtherRules" "BadRules" false, kitQ "OtherRules" "BadRow" false, kitQ "OtherRules" "BadLetter" false, kitQ "OtherRules" "BadTimes" false, kitQ "OtherRules" "BadPlace" false, kitQ "OtherRules" "TooLong" false, kitQ "OtherRules" "OtherRules" true]
def exs : List (PySem.W.Frag → Bool) := ex0 ++ ex1 ++ ex2
abbrev theRow : PySem.W.OpenRow := PySem.W.OpenLaw.row PySem.Challenge.rw_growrow_k07_refused
abbrev theHook : PySem.W.Hook := hookQ 4 fa fn exs
def seen (s : PySem.W.SharedT) : AlQ := obsQ 4 fa fn exs (HandSHeadRun.getT s)
theorem seen_eq (s : PySem.W.SharedT) : seen s = theHook.obs s.abs := obsQ_eq (HandSHeadRun.getT_eq s)
set_option maxHeartbeats 0 in
theorem topRun (w : World) : HandSHeadRun.RunEq theRow (PySem.W.view theRow.prog [47]) theHook seen 4000 loose w := by
  intro os
  kernel_rfl
theorem facts {K : PySem.W.Frag} {h : Heap} {mg : Str → Option Value} (X : K.In h) (G : h.Ns mainGlobals mg) (cx : exB exs K = true) (c : He.SaysD fa fn K) : T K mg where
  z_isinstance := He.free_ok X G (c.fact 0 (f := .free "isinstance") rfl)
  z_int := He.free_ok X G (c.fact 1 (f := .free "int") rfl)
  z_str := He.free_ok X G (c.fact 2 (f := .free "str") rfl)
  z_list := He.free_ok X G (c.fact 3 (f := .free "list") rfl)
  z_bool := He.free_ok X G (c.fact 4 (f := .free "bool") rfl)
  z_len := He.free_ok X G (c.fact 5 (f := .free "len") rfl)
  z_all := He.free_ok X G (c.fact 6 (f := .free "all") rfl)
  z_any := He.free_ok X G (c.fact 7 (f := .free "any") rfl)
  z_sum := He.free_ok X G (c.fact 8 (f := .free "sum") rfl)
  z_range := He.free_ok X G (c.fact 9 (f := .free "range") rfl)
  z_reversed := He.free_ok X G (c.fact 10 (f := .free "reversed") rfl)
  z_zip := He.free_ok X G (c.fact 11 (f := .free "zip") rfl)
  z_enumerate := He.free_ok X G (c.fact 12 (f := .free "enumerate") rfl)
  z_sorted := He.free_ok X G (c.fact 13 (f := .free "sorted") rfl)
  z_ValueError := He.free_ok X G (c.fact 14 (f := .free "ValueError") rfl)
  LETTERS := (by
      obtain ⟨t, e⟩ := He.str_ok X G (c.fact 15 (f := .str "LETTERS" "abcdefghijklmnopqrstuvwxyz") rfl)
      exact ⟨_, e, by rw [← alph_eq]; exact ⟨t, rfl⟩⟩)
  TIMES := (by
      obtain ⟨t, e⟩ := He.int_ok X G (c.fact 16 (f := .int "TIMES" 300) rfl)
      exact ⟨_, e, ⟨t, rfl⟩⟩)
  LONGEST := (by
      obtain ⟨t, e⟩ := He.int_ok X G (c.fact 17 (f := .int "LONGEST" 100000) rfl)
      exact ⟨_, e, ⟨t, rfl⟩⟩)
  d_is_number := (by
      obtain ⟨fd, F⟩ := c.def_ 0 (d := ⟨("is_number", none), "is_number", "is_number", defArgs sIs_number, defBody sIs_number, defScope sIs_number, [], []⟩) rfl
      exact ⟨_, fd, F, He.glo_ok X G (c.fact 18 (f := .glo "is_number") rfl)⟩)
  d_is_row := (by
      obtain ⟨fd, F⟩ := c.def_ 1 (d := ⟨("is_row", none), "is_row", "is_row", defArgs sIs_row, defBody sIs_row, defScope sIs_row, [], []⟩) rfl
      exact ⟨_, fd, F, He.glo_ok X G (c.fact 19 (f := .glo "is_row") rfl)⟩)
  d_asked_rules := (by
      obtain ⟨fd, F⟩ := c.def_ 2 (d := ⟨("asked_rules", none), "asked_rules", "asked_rules", defArgs sAsked_rules, defBody sAsked_rules, defScope sAsked_rules, [], []⟩) rfl
      exact ⟨_, fd, F, He.glo_ok X G (c.fact 20 (f := .glo "asked_rules") rfl)⟩)
  d_asked_row := (by
      obtain ⟨fd, F⟩ := c.def_ 3 (d := ⟨("asked_row", none), "asked_row", "asked_row", defArgs sAsked_row, defBody sAsked_row, defScope sAsked_row, [], []⟩) rfl
      exact ⟨_, fd, F, He.glo_ok X G (c.fact 21 (f := .glo "asked_row") rfl)⟩)
  d_asked_letter := (by
      obtain ⟨fd, F⟩ := c.def_ 4 (d := ⟨("asked_letter", none), "asked_letter", "asked_letter", defArgs sAsked_letter, defBody sAsked_letter, defScope sAsked_letter, [], []⟩) rfl
      exact ⟨_, fd, F, He.glo_ok X G (c.fact 22 (f := .glo "asked_letter") rfl)⟩)
  d_asked_times := (by
      obtain ⟨fd, F⟩ := c.def_ 5 (d := ⟨("asked_times", none), "asked_times", "asked_times", defArgs sAsked_times, defBody sAsked_times, defScope sAsked_times, [], []⟩) rfl
      exact ⟨_, fd, F, He.glo_ok X G (c.fact 23 (f := .glo "asked_times") rfl)⟩)
  d_once := (by
      obtain ⟨fd, F⟩ := c.def_ 6 (d := ⟨("once", none), "once", "once", defArgs sOnce, defBody sOnce, defScope sOnce, [], []⟩) rfl
      exact ⟨_, fd, F, He.glo_ok X G (c.fact 24 (f := .glo "once") rfl)⟩)
  d_lengths_of := (by
      obtain ⟨fd, F⟩ := c.def_ 7 (d := ⟨("lengths_of", none), "lengths_of", "lengths_of", defArgs sLengths_of, defBody sLengths_of, defScope sLengths_of, [], []⟩) rfl
      exact ⟨_, fd, F, He.glo_ok X G (c.fact 25 (f := .glo "lengths_of") rfl)⟩)
  d_long_by := (by
      obtain ⟨fd, F⟩ := c.def_ 8 (d := ⟨("long_by", none), "long_by", "long_by", defArgs sLong_by, defBody sLong_by, defScope sLong_by, [], []⟩) rfl
      exact ⟨_, fd, F, He.glo_ok X G (c.fact 26 (f := .glo "long_by") rfl)⟩)
  d_counted := (by
      obtain ⟨fd, F⟩ := c.def_ 9 (d := ⟨("counted", none), "counted", "counted", defArgs sCounted, defBody sCounted, defScope sCounted, [], []⟩) rfl
      exact ⟨_, fd, F, He.glo_ok X G (c.fact 27 (f := .glo "counted") rfl)⟩)
  d_grown_counts := (by
      obtain ⟨fd, F⟩ := c.def_ 10 (d := ⟨("grown_counts", none), "grown_counts", "grown_counts", defArgs sGrown_counts, defBody sGrown_counts, defScope sGrown_counts, [], []⟩) rfl
      exact ⟨_, fd, F, He.glo_ok X G (c.fact 28 (f := .glo "grown_counts") rfl)⟩)
  d_counts := (by
      obtain ⟨fd, F⟩ := c.def_ 11 (d := ⟨("counts", none), "counts", "counts", defArgs sCounts, defBody sCounts, defScope sCounts, [], []⟩) rfl
      exact ⟨_, fd, F, He.glo_ok X G (c.fact 29 (f := .glo "counts") rfl)⟩)
  d_length := (by
      obtain ⟨fd, F⟩ := c.def_ 12 (d := ⟨("length", none), "length", "length", defArgs sLength, defBody sLength, defScope sLength, [], []⟩) rfl
      exact ⟨_, fd, F, He.glo_ok X G (c.fact 30 (f := .glo "length") rfl)⟩)
  d_grown := (by
      obtain ⟨fd, F⟩ := c.def_ 13 (d := ⟨("grown", none), "grown", "grown", defArgs sGrown, defBody sGrown, defScope sGrown, [], []⟩) rfl
      exact ⟨_, fd, F, He.glo_ok X G (c.fact 31 (f := .glo "grown") rfl)⟩)
  d_skipped := (by
      obtain ⟨fd, F⟩ := c.def_ 14 (d := ⟨("skipped", none), "skipped", "skipped", defArgs sSkipped, defBody sSkipped, defScope sSkipped, [], []⟩) rfl
      exact ⟨_, fd, F, He.glo_ok X G (c.fact 32 (f := .glo "skipped") rfl)⟩)
  d_letter := (by
      obtain ⟨fd, F⟩ := c.def_ 15 (d := ⟨("letter", none), "letter", "letter", defArgs sLetter, defBody sLetter, defScope sLetter, [], []⟩) rfl
      exact ⟨_, fd, F, He.glo_ok X G (c.fact 33 (f := .glo "letter") rfl)⟩)
  d_first := (by
      obtain ⟨fd, F⟩ := c.def_ 16 (d := ⟨("first", none), "first", "first", defArgs sFirst, defBody sFirst, defScope sFirst, [], []⟩) rfl
      exact ⟨_, fd, F, He.glo_ok X G (c.fact 34 (f := .glo "first") rfl)⟩)
  d_behind := (by
      obtain ⟨fd, F⟩ := c.def_ 17 (d := ⟨("behind", none), "behind", "behind", defArgs sBehind, defBody sBehind, defScope sBehind, [], []⟩) rfl
      exact ⟨_, fd, F, He.glo_ok X G (c.fact 35 (f := .glo "behind") rfl)⟩)
  d_comes := (by
      obtain ⟨fd, F⟩ := c.def_ 25 (d := ⟨("comes", none), "comes", "comes", defArgs sComes, defBody sComes, defScope sComes, [], []⟩) rfl
      exact ⟨_, fd, F, He.glo_ok X G (c.fact 36 (f := .glo "comes") rfl)⟩)
  d_lengths := (by
      obtain ⟨fd, F⟩ := c.def_ 26 (d := ⟨("lengths", none), "lengths", "lengths", defArgs sLengths, defBody sLengths, defScope sLengths, [], []⟩) rfl
      exact ⟨_, fd, F, He.glo_ok X G (c.fact 37 (f := .glo "lengths") rfl)⟩)
  d_law_rules_asked := (by
      obtain ⟨fd, F⟩ := c.def_ 27 (d := ⟨("_law_rules_asked", none), "_law_rules_asked", "_law_rules_asked", defArgs sLaw_rules_asked, defBody sLaw_rules_asked, defScope sLaw_rules_asked, [], []⟩) rfl
      exact ⟨_, fd, F, He.glo_ok X G (c.fact 38 (f := .glo "_law_rules_asked") rfl)⟩)
  d_law_rows_asked := (by
      obtain ⟨fd, F⟩ := c.def_ 28 (d := ⟨("_law_rows_asked", none), "_law_rows_asked", "_law_rows_asked", defArgs sLaw_rows_asked, defBody sLaw_rows_asked, defScope sLaw_rows_asked, [], []⟩) rfl
      exact ⟨_, fd, F, He.glo_ok X G (c.fact 39 (f := .glo "_law_rows_asked") rfl)⟩)
  d_law_numbers_asked := (by
      obtain ⟨fd, F⟩ := c.def_ 29 (d := ⟨("_law_numbers_asked", none), "_law_numbers_asked", "_law_numbers_asked", defArgs sLaw_numbers_asked, defBody sLaw_numbers_asked, defScope sLaw_numbers_asked, [], []⟩) rfl
      exact ⟨_, fd, F, He.glo_ok X G (c.fact 40 (f := .glo "_law_numbers_asked") rfl)⟩)
  d_law_long_asked := (by
      obtain ⟨fd, F⟩ := c.def_ 30 (d := ⟨("_law_long_asked", none), "_law_long_asked", "_law_long_asked", defArgs sLaw_long_asked, defBody sLaw_long_asked, defScope sLaw_long_asked, [], []⟩) rfl
      exact ⟨_, fd, F, He.glo_ok X G (c.fact 41 (f := .glo "_law_long_asked") rfl)⟩)
  d_law_told := (by
      obtain ⟨fd, F⟩ := c.def_ 31 (d := ⟨("_law_told", none), "_law_told", "_law_told", defArgs sLaw_told, defBody sLaw_told, defScope sLaw_told, [], []⟩) rfl
      exact ⟨_, fd, F, He.glo_ok X G (c.fact 42 (f := .glo "_law_told") rfl)⟩)
  g_Answer := He.glo_ok X G (c.fact 44 (f := .glo "Answer") rfl)
  o_Answer := own_ok (He.cls_ok (c.fact 45 (f := .cls "Answer") rfl)) (ex_at cx 0 (f := ownB "Answer") rfl)
  g_Times := He.glo_ok X G (c.fact 46 (f := .glo "Times") rfl)
  o_Times := own_ok (He.cls_ok (c.fact 47 (f := .cls "Times") rfl)) (ex_at cx 1 (f := ownB "Times") rfl)
  g_Shut := He.glo_ok X G (c.fact 48 (f := .glo "Shut") rfl)
  o_Shut := own_ok (He.cls_ok (c.fact 49 (f := .cls "Shut") rfl)) (ex_at cx 2 (f := ownB "Shut") rfl)
  g_Alike := He.glo_ok X G (c.fact 50 (f := .glo "Alike") rfl)
  o_Alike := own_ok (He.cls_ok (c.fact 51 (f := .cls "Alike") rfl)) (ex_at cx 3 (f := ownB "Alike") rfl)
  g_Apart := He.glo_ok X G (c.fact 52 (f := .glo "Apart") rfl)
  o_Apart := own_ok (He.cls_ok (c.fact 53 (f := .cls "Apart") rfl)) (ex_at cx 4 (f := ownB "Apart") rfl)
  k_Times_Answer := kit_ok (ex_at cx 5 (f := kitQ "Times" "Answer" true) rfl)
  k_Times_Times := kit_ok (ex_at cx 6 (f := kitQ "Times" "Times" true) rfl)
  k_Times_Shut := kit_ok (ex_at cx 7 (f := kitQ "Times" "Shut" false) rfl)
  k_Times_Alike := kit_ok (ex_at cx 8 (f := kitQ "Times" "Alike" false) rfl)
  k_Times_Apart := kit_ok (ex_at cx 9 (f := kitQ "Times" "Apart" false) rfl)
  k_Shut_Answer := kit_ok (ex_at cx 10 (f := kitQ "Shut" "Answer" true) rfl)
  k_Shut_Times := kit_ok (ex_at cx 11 (f := kitQ "Shut" "Times" false) rfl)
  k_Shut_Shut := kit_ok (ex_at cx 12 (f := kitQ "Shut" "Shut" true) rfl)
  k_Shut_Alike := kit_ok (ex_at cx 13 (f := kitQ "Shut" "Alike" false) rfl)
  k_Shut_Apart := kit_ok (ex_at cx 14 (f := kitQ "Shut" "Apart" false) rfl)
  k_Alike_Answer := kit_ok (ex_at cx 15 (f := kitQ "Alike" "Answer" true) rfl)
  k_Alike_Times := kit_ok (ex_at cx 16 (f := kitQ "Alike" "Times" false) rfl)
  k_Alike_Shut := kit_ok (ex_at cx 17 (f := kitQ "Alike" "Shut" false) rfl)
  k_Alike_Alike := kit_ok (ex_at cx 18 (f := kitQ "Alike" "Alike" true) rfl)
  k_Alike_Apart := kit_ok (ex_at cx 19 (f := kitQ "Alike" "Apart" false) rfl)
  k_Apart_Answer := kit_ok (ex_at cx 20 (f := kitQ "Apart" "Answer" true) rfl)
  k_Apart_Times := kit_ok (ex_at cx 21 (f := kitQ "Apart" "Times" false) rfl)
  k_Apart_Shut := kit_ok (ex_at cx 22 (f := kitQ "Apart" "Shut" false) rfl)
  k_Apart_Alike := kit_ok (ex_at cx 23 (f := kitQ "Apart" "Alike" false) rfl)
  k_Apart_Apart := kit_ok (ex_at cx 24 (f := kitQ "Apart" "Apart" true) rfl)
  n_Times := He.noat_ok (c.fact 54 (f := .noat "Times" "many") rfl)
  i_Times := (by
      obtain ⟨fd, F⟩ := c.def_ 18 (d := ⟨("Times", some "__init__"), "__init__", "Times.__init__", defArgs sTimes_init, defBody sTimes_init, defScope sTimes_init, [], []⟩) rfl
      exact ⟨_, fd, He.mkr_ok (c.fact 56 (f := .mkr "Times") rfl), F, He.glo_ok X G (c.fact 55 (f := .glo "Times") rfl)⟩)
  m_Times_shows := (by
      obtain ⟨fd, F⟩ := c.def_ 19 (d := ⟨("Times", some "shows"), "shows", "Times.shows", defArgs sTimes_shows, defBody sTimes_shows, defScope sTimes_shows, [], []⟩) rfl
      exact ⟨_, fd, He.meth_ok (c.fact 57 (f := .meth "Times" "shows") rfl), F⟩)
  n_Shut := He.noat_ok (c.fact 58 (f := .noat "Shut" "letters") rfl)
  i_Shut := (by
      obtain ⟨fd, F⟩ := c.def_ 20 (d := ⟨("Shut", some "__init__"), "__init__", "Shut.__init__", defArgs sShut_init, defBody sShut_init, defScope sShut_init, [], []⟩) rfl
      exact ⟨_, fd, He.mkr_ok (c.fact 60 (f := .mkr "Shut") rfl), F, He.glo_ok X G (c.fact 59 (f := .glo "Shut") rfl)⟩)
  m_Shut_shows := (by
      obtain ⟨fd, F⟩ := c.def_ 21 (d := ⟨("Shut", some "shows"), "shows", "Shut.shows", defArgs sShut_shows, defBody sShut_shows, defScope sShut_shows, [], []⟩) rfl
      exact ⟨_, fd, He.meth_ok (c.fact 61 (f := .meth "Shut" "shows") rfl), F⟩)
  m_Alike_shows := (by
      obtain ⟨fd, F⟩ := c.def_ 22 (d := ⟨("Alike", some "shows"), "shows", "Alike.shows", defArgs sAlike_shows, defBody sAlike_shows, defScope sAlike_shows, [], []⟩) rfl
      exact ⟨_, fd, He.meth_ok (c.fact 62 (f := .meth "Alike" "shows") rfl), F⟩)
  b_Alike := bare_ok (ex_at cx 25 (f := bareB "Alike") rfl)
  n_Apart := He.noat_ok (c.fact 63 (f := .noat "Apart" "many") rfl)
  i_Apart := (by
      obtain ⟨fd, F⟩ := c.def_ 23 (d := ⟨("Apart", some "__init__"), "__init__", "Apart.__init__", defArgs sApart_init, defBody sApart_init, defScope sApart_init, [], []⟩) rfl
      exact ⟨_, fd, He.mkr_ok (c.fact 65 (f := .mkr "Apart") rfl), F, He.glo_ok X G (c.fact 64 (f := .glo "Apart") rfl)⟩)
  m_Apart_shows := (by
      obtain ⟨fd, F⟩ := c.def_ 24 (d := ⟨("Apart", some "shows"), "shows", "Apart.shows", defArgs sApart_shows, defBody sApart_shows, defScope sApart_shows, [], []⟩) rfl
      exact ⟨_, fd, He.meth_ok (c.fact 66 (f := .meth "Apart" "shows") rfl), F⟩)
  g_GrowError := He.glo_ok X G (c.fact 67 (f := .glo "GrowError") rfl)
  x_BadRules := err_ok (He.glo_ok X G (c.fact 68 (f := .glo "BadRules") rfl)) (c.fact 69 (f := .exc "BadRules") rfl)
  e_BadRules := He.exm_ok (c.fact 70 (f := .exm "BadRules" "GrowError" true) rfl)
  c_BadRules := excC_ok (ex_at cx 26 (f := excCB "BadRules") rfl)
  v_BadRules := kitV_ok (ex_at cx 27 (f := kitV "BadRules" "ValueError" true) rfl)
  q_BadRules_BadRules := kit_ok (ex_at cx 28 (f := kitQ "BadRules" "BadRules" true) rfl)
  q_BadRules_BadRow := kit_ok (ex_at cx 29 (f := kitQ "BadRules" "BadRow" false) rfl)
  q_BadRules_BadLetter := kit_ok (ex_at cx 30 (f := kitQ "BadRules" "BadLetter" false) rfl)
  q_BadRules_BadTimes := kit_ok (ex_at cx 31 (f := kitQ "BadRules" "BadTimes" false) rfl)
  q_BadRules_BadPlace := kit_ok (ex_at cx 32 (f := kitQ "BadRules" "BadPlace" false) rfl)
  q_BadRules_TooLong := kit_ok (ex_at cx 33 (f := kitQ "BadRules" "TooLong" false) rfl)
  q_BadRules_OtherRules := kit_ok (ex_at cx 34 (f := kitQ "BadRules" "OtherRules" false) rfl)
  x_BadRow := err_ok (He.glo_ok X G (c.fact 71 (f := .glo "BadRow") rfl)) (c.fact 72 (f := .exc "BadRow") rfl)
  e_BadRow := He.exm_ok (c.fact 73 (f := .exm "BadRow" "GrowError" true) rfl)
  c_BadRow := excC_ok (ex_at cx 35 (f := excCB "BadRow") rfl)
  v_BadRow := kitV_ok (ex_at cx 36 (f := kitV "BadRow" "ValueError" true) rfl)
  q_BadRow_BadRules := kit_ok (ex_at cx 37 (f := kitQ "BadRow" "BadRules" false) rfl)
  q_BadRow_BadRow := kit_ok (ex_at cx 38 (f := kitQ "BadRow" "BadRow" true) rfl)
  q_BadRow_BadLetter := kit_ok (ex_at cx 39 (f := kitQ "BadRow" "BadLetter" false) rfl)
  q_BadRow_BadTimes := kit_ok (ex_at cx 40 (f := kitQ "BadRow" "BadTimes" false) rfl)
  q_BadRow_BadPlace := kit_ok (ex_at cx 41 (f := kitQ "BadRow" "BadPlace" false) rfl)
  q_BadRow_TooLong := kit_ok (ex_at cx 42 (f := kitQ "BadRow" "TooLong" false) rfl)
  q_BadRow_OtherRules := kit_ok (ex_at cx 43 (f := kitQ "BadRow" "OtherRules" false) rfl)
  x_BadLetter := err_ok (He.glo_ok X G (c.fact 74 (f := .glo "BadLetter") rfl)) (c.fact 75 (f := .exc "BadLetter") rfl)
  e_BadLetter := He.exm_ok (c.fact 76 (f := .exm "BadLetter" "GrowError" true) rfl)
  c_BadLetter := excC_ok (ex_at cx 44 (f := excCB "BadLetter") rfl)
  v_BadLetter := kitV_ok (ex_at cx 45 (f := kitV "BadLetter" "ValueError" true) rfl)
  q_BadLetter_BadRules := kit_ok (ex_at cx 46 (f := kitQ "BadLetter" "BadRules" false) rfl)
  q_BadLetter_BadRow := kit_ok (ex_at cx 47 (f := kitQ "BadLetter" "BadRow" false) rfl)
  q_BadLetter_BadLetter := kit_ok (ex_at cx 48 (f := kitQ "BadLetter" "BadLetter" true) rfl)
  q_BadLetter_BadTimes := kit_ok (ex_at cx 49 (f := kitQ "BadLetter" "BadTimes" false) rfl)
  q_BadLetter_BadPlace := kit_ok (ex_at cx 50 (f := kitQ "BadLetter" "BadPlace" false) rfl)
  q_BadLetter_TooLong := kit_ok (ex_at cx 51 (f := kitQ "BadLetter" "TooLong" false) rfl)
  q_BadLetter_OtherRules := kit_ok (ex_at cx 52 (f := kitQ "BadLetter" "OtherRules" false) rfl)
  x_BadTimes := err_ok (He.glo_ok X G (c.fact 77 (f := .glo "BadTimes") rfl)) (c.fact 78 (f := .exc "BadTimes") rfl)
  e_BadTimes := He.exm_ok (c.fact 79 (f := .exm "BadTimes" "GrowError" true) rfl)
  c_BadTimes := excC_ok (ex_at cx 53 (f := excCB "BadTimes") rfl)
  v_BadTimes := kitV_ok (ex_at cx 54 (f := kitV "BadTimes" "ValueError" true) rfl)
  q_BadTimes_BadRules := kit_ok (ex_at cx 55 (f := kitQ "BadTimes" "BadRules" false) rfl)
  q_BadTimes_BadRow := kit_ok (ex_at cx 56 (f := kitQ "BadTimes" "BadRow" false) rfl)
  q_BadTimes_BadLetter := kit_ok (ex_at cx 57 (f := kitQ "BadTimes" "BadLetter" false) rfl)
  q_BadTimes_BadTimes := kit_ok (ex_at cx 58 (f := kitQ "BadTimes" "BadTimes" true) rfl)
  q_BadTimes_BadPlace := kit_ok (ex_at cx 59 (f := kitQ "BadTimes" "BadPlace" false) rfl)
  q_BadTimes_TooLong := kit_ok (ex_at cx 60 (f := kitQ "BadTimes" "TooLong" false) rfl)
  q_BadTimes_OtherRules := kit_ok (ex_at cx 61 (f := kitQ "BadTimes" "OtherRules" false) rfl)
  x_BadPlace := err_ok (He.glo_ok X G (c.fact 80 (f := .glo "BadPlace") rfl)) (c.fact 81 (f := .exc "BadPlace") rfl)
  e_BadPlace := He.exm_ok (c.fact 82 (f := .exm "BadPlace" "GrowError" true) rfl)
  c_BadPlace := excC_ok (ex_at cx 62 (f := excCB "BadPlace") rfl)
  v_BadPlace := kitV_ok (ex_at cx 63 (f := kitV "BadPlace" "ValueError" true) rfl)
  q_BadPlace_BadRules := kit_ok (ex_at cx 64 (f := kitQ "BadPlace" "BadRules" false) rfl)
  q_BadPlace_BadRow := kit_ok (ex_at cx 65 (f := kitQ "BadPlace" "BadRow" false) rfl)
  q_BadPlace_BadLetter := kit_ok (ex_at cx 66 (f := kitQ "BadPlace" "BadLetter" false) rfl)
  q_BadPlace_BadTimes := kit_ok (ex_at cx 67 (f := kitQ "BadPlace" "BadTimes" false) rfl)
  q_BadPlace_BadPlace := kit_ok (ex_at cx 68 (f := kitQ "BadPlace" "BadPlace" true) rfl)
  q_BadPlace_TooLong := kit_ok (ex_at cx 69 (f := kitQ "BadPlace" "TooLong" false) rfl)
  q_BadPlace_OtherRules := kit_ok (ex_at cx 70 (f := kitQ "BadPlace" "OtherRules" false) rfl)
  x_TooLong := err_ok (He.glo_ok X G (c.fact 83 (f := .glo "TooLong") rfl)) (c.fact 84 (f := .exc "TooLong") rfl)
  e_TooLong := He.exm_ok (c.fact 85 (f := .exm "TooLong" "GrowError" true) rfl)
  c_TooLong := excC_ok (ex_at cx 71 (f := excCB "TooLong") rfl)
  v_TooLong := kitV_ok (ex_at cx 72 (f := kitV "TooLong" "ValueError" true) rfl)
  q_TooLong_BadRules := kit_ok (ex_at cx 73 (f := kitQ "TooLong" "BadRules" false) rfl)
  q_TooLong_BadRow := kit_ok (ex_at cx 74 (f := kitQ "TooLong" "BadRow" false) rfl)
  q_TooLong_BadLetter := kit_ok (ex_at cx 75 (f := kitQ "TooLong" "BadLetter" false) rfl)
  q_TooLong_BadTimes := kit_ok (ex_at cx 76 (f := kitQ "TooLong" "BadTimes" false) rfl)
  q_TooLong_BadPlace := kit_ok (ex_at cx 77 (f := kitQ "TooLong" "BadPlace" false) rfl)
  q_TooLong_TooLong := kit_ok (ex_at cx 78 (f := kitQ "TooLong" "TooLong" true) rfl)
  q_TooLong_OtherRules := kit_ok (ex_at cx 79 (f := kitQ "TooLong" "OtherRules" false) rfl)
  x_OtherRules := err_ok (He.glo_ok X G (c.fact 86 (f := .glo "OtherRules") rfl)) (c.fact 87 (f := .exc "OtherRules") rfl)
  e_OtherRules := He.exm_ok (c.fact 88 (f := .exm "OtherRules" "GrowError" true) rfl)
  c_OtherRules := excC_ok (ex_at cx 80 (f := excCB "OtherRules") rfl)
  v_OtherRules := kitV_ok (ex_at cx 81 (f := kitV "OtherRules" "ValueError" true) rfl)
  q_OtherRules_BadRules := kit_ok (ex_at cx 82 (f := kitQ "OtherRules" "BadRules" false) rfl)
  q_OtherRules_BadRow := kit_ok (ex_at cx 83 (f := kitQ "OtherRules" "BadRow" false) rfl)
  q_OtherRules_BadLetter := kit_ok (ex_at cx 84 (f := kitQ "OtherRules" "BadLetter" false) rfl)
  q_OtherRules_BadTimes := kit_ok (ex_at cx 85 (f := kitQ "OtherRules" "BadTimes" false) rfl)
  q_OtherRules_BadPlace := kit_ok (ex_at cx 86 (f := kitQ "OtherRules" "BadPlace" false) rfl)
  q_OtherRules_TooLong := kit_ok (ex_at cx 87 (f := kitQ "OtherRules" "TooLong" false) rfl)
  q_OtherRules_OtherRules := kit_ok (ex_at cx 88 (f := kitQ "OtherRules" "OtherRules" true) rfl)
theorem lawFn {P : Program} {w : World} {K : PySem.W.Frag} {h : Heap} {mg : Str → Option Value} {f : Addr} (X : K.In h) (G : h.Ns mainGlobals mg) (hfa : mg ("law" : Str) = some (.ref f)) (cx : exB exs K = true) (c : He.SaysD fa fn K) :
    ∃ fd : FuncData, (∀ (s : Shared) (v : Value), BindsTo s fd ⟨[v], []⟩ [("_law_script", v)]) ∧ ∀ base : Heap, K.In base → base.Ns mainGlobals mg → FnOk P w K mg base CX0 7 f fd ["_law_script"] (spLaw K) := by
  obtain ⟨fd, F⟩ := c.def_ 32 (d := ⟨("law", none), "law", "law", defArgs sLaw, defBody sLaw, defScope sLaw, [], []⟩) rfl
  have e := hfa.symm.trans (He.glo_ok X G (c.fact 43 (f := .glo "law") rfl))
  cases e
  have b := FunD.bindsA (ps := ["_law_script"]) F fun _ _ _ _ _ _ us hl => match us, hl with | [_], _ => rfl
  exact ⟨fd, fun s v => b s [v] rfl, fun base _ _ => ok_law (facts X G cx c) F⟩
end Gw
open PySem PySem.W PySem.Calls PyProof.Rows
set_option maxRecDepth 100000 in
set_option maxHeartbeats 0 in
theorem PySem.Challenge.cw_growrow_k07_refused_holds : PySem.Challenge.rw_growrow_k07_refused.Holds := by
  w_on; o_law
  refine HandSHeadRun.head_any (r := OpenLaw.row PySem.Challenge.rw_growrow_k07_refused) (q := view (OpenLaw.row PySem.Challenge.rw_growrow_k07_refused).prog [47]) (H := Gw.theHook) (ob := Gw.seen) (M := 4000) (loose := Gw.loose) (d := HandSHeadRun.topDef (OpenLaw.row PySem.Challenge.rw_growrow_k07_refused).prog 47) (kwd := []) Gw.seen_eq
    (by kernel_rfl) (fun s => by kernel_rfl) Gw.topRun (by kernel_rfl) (by kernel_rfl) (by kernel_rfl) (by rfl) (by first | assumption | decide +kernel) (by decide +kernel) ⟨rfl, rfl, rfl, rfl, rfl, by decide +kernel⟩ ?hw ?hc
  case hw => w_witness2
  case hc =>
    refine L2.walk_ofE (l := PySem.Challenge.rw_growrow_k07_refused) (n := 63) (k := 7) (x := "_law_script") (CX := L2.CX0) rfl (by decide) (by kernel_rfl) ⟨rfl, by decide, by decide⟩ ?F (fun _ _ _ _ z => z)
    intro w mg fa h Y G hmg0
    obtain ⟨K, KX, cx, c⟩ := Y
    have hmg : mg ("law" : PySem.Str) = some (.ref fa) := by
      have e : (HandSHeadRun.topDef (OpenLaw.row PySem.Challenge.rw_growrow_k07_refused).prog 47).name = ("law" : PySem.Str) := by kernel_rfl
      rw [← e]
      exact hmg0
    obtain ⟨fd, hb, hF⟩ := Gw.lawFn (P := (PySem.Challenge.rw_growrow_k07_refused).prog) (w := w) KX G hmg cx c
    exact ⟨K, fd, Gw.spLaw K, KX, hb, fun H a ns hl _ hS => ⟨a, ns, rfl, hS, hl, fun _ => rfl⟩, hF⟩
#print axioms PySem.Challenge.cw_growrow_k07_refused_holds

