import PyProof.Rows.All
import Wide.All
import OpenK.AllK
import Wide.FinOn
import KE.KStateDown
import HandS.ForMost
import HandS.WordsExc
import HandS.Defaults
import HandS.Codes
import HandS.StrMore
import HandS.Replace
import HandS.IsInst
import HandS.Walk
import HandS.Evl
import HandS.RevRange
import HandS.Style
import HandS.Head0
import HandS.Head1
import HandS.Head2
import HandS.HeadEnd
import HandS.HeadHook1
import HandS.HeadHook2
import HandS.New0
import HandS.More
import KE.GoesMore
import PyProof.Rows.StrRev
import HandS.ReplaceLit
import HandS.SetTxt0
import HandS.Set
import HandS.SetFor
import PyProof.SliceList
import PySem.Challenge.RW_growrow_k06_answers_by_hand
set_option Elab.async false
set_option linter.all false
set_option maxRecDepth 100000
set_option maxHeartbeats 4000000
/-! The mathematics of growrow, in plain Lean: rows as lists of letters' numbers, rules as lists of rows. -/
namespace Gw
abbrev GRow := List Nat
abbrev GRules := List GRow

def ruleOf (R : GRules) (n : Nat) : GRow := R.getD n []
def once (R : GRules) (r : GRow) : GRow := (r.map (ruleOf R)).flatten
def grow (R : GRules) : Nat → GRow → GRow
  | 0, r => r
  | t + 1, r => grow R t (once R r)
def RowOk (k : Nat) (r : GRow) : Prop := ∀ n ∈ r, n < k
structure RulesOk (R : GRules) : Prop where
  pos : 1 ≤ R.length
  few : R.length ≤ 26
  rows : ∀ r ∈ R, RowOk R.length r

theorem once_nil (R : GRules) : once R [] = [] := rfl
theorem once_cons (R : GRules) (n : Nat) (r : GRow) : once R (n :: r) = ruleOf R n ++ once R r := by simp [once]
theorem once_append (R : GRules) (a b : GRow) : once R (a ++ b) = once R a ++ once R b := by simp [once]
theorem once_one (R : GRules) (n : Nat) : once R [n] = ruleOf R n := by simp [once]
theorem grow_nil (R : GRules) : ∀ t, grow R t [] = []
  | 0 => rfl
  | t + 1 => by show grow R t (once R []) = []; rw [once_nil, grow_nil R t]
theorem grow_append (R : GRules) : ∀ (t : Nat) (a b : GRow), grow R t (a ++ b) = grow R t a ++ grow R t b
  | 0, _, _ => rfl
  | t + 1, a, b => by
    show grow R t (once R (a ++ b)) = grow R t (once R a) ++ grow R t (once R b)
    rw [once_append, grow_append R t]
theorem grow_succ (R : GRules) : ∀ (t : Nat) (r : GRow), grow R (t + 1) r = once R (grow R t r)
  | 0, _ => rfl
  | t + 1, r => by
    show grow R (t + 1) (once R r) = once R (grow R (t + 1) r)
    rw [grow_succ R t (once R r)]
    rfl
theorem grow_add (R : GRules) : ∀ (s t : Nat) (r : GRow), grow R (s + t) r = grow R t (grow R s r)
  | 0, t, r => by rw [Nat.zero_add]; rfl
  | s + 1, t, r => by
    have e : s + 1 + t = (s + t) + 1 := by omega
    rw [e]
    show grow R (s + t) (once R r) = grow R t (grow R s (once R r))
    exact grow_add R s t (once R r)

theorem RowOk.nil (k : Nat) : RowOk k [] := fun _ h => absurd h (by simp)
theorem RowOk.append {k : Nat} {a b : GRow} (ha : RowOk k a) (hb : RowOk k b) : RowOk k (a ++ b) := fun n h => (List.mem_append.mp h).elim (ha n) (hb n)
theorem RowOk.left {k : Nat} {a b : GRow} (h : RowOk k (a ++ b)) : RowOk k a := fun n q => h n (List.mem_append_left _ q)
theorem RowOk.right {k : Nat} {a b : GRow} (h : RowOk k (a ++ b)) : RowOk k b := fun n q => h n (List.mem_append_right _ q)
theorem RowOk.cons {k n : Nat} {a : GRow} (hn : n < k) (ha : RowOk k a) : RowOk k (n :: a) := fun m h => (List.mem_cons.mp h).elim (fun e => e ▸ hn) (ha m)
theorem RowOk.head {k n : Nat} {a : GRow} (h : RowOk k (n :: a)) : n < k := h n List.mem_cons_self
theorem RowOk.tail {k n : Nat} {a : GRow} (h : RowOk k (n :: a)) : RowOk k a := fun m q => h m (List.mem_cons_of_mem _ q)
theorem RowOk.take {k : Nat} {a : GRow} (i : Nat) (h : RowOk k a) : RowOk k (a.take i) := fun m q => h m (List.mem_of_mem_take q)
theorem RowOk.get {k : Nat} {a : GRow} {i n : Nat} (h : RowOk k a) (e : a[i]? = some n) : n < k := h n (List.mem_of_getElem? e)
theorem RowOk.of_mono {k k' : Nat} {a : GRow} (h : RowOk k a) (hk : k ≤ k') : RowOk k' a := fun n q => Nat.lt_of_lt_of_le (h n q) hk
theorem rule_get {R : GRules} {n : Nat} (h : n < R.length) : R[n]? = some (ruleOf R n) := by
  unfold ruleOf
  rw [List.getD_eq_getElem?_getD, List.getElem?_eq_getElem h]
  rfl
theorem rule_ok {R : GRules} (ok : RulesOk R) (n : Nat) : RowOk R.length (ruleOf R n) := by
  by_cases h : n < R.length
  · exact ok.rows _ (List.mem_of_getElem? (rule_get h))
  · have e : ruleOf R n = [] := by
      unfold ruleOf
      rw [List.getD_eq_getElem?_getD, List.getElem?_eq_none (by omega)]
      rfl
    rw [e]
    exact RowOk.nil _
theorem once_ok {R : GRules} (ok : RulesOk R) (r : GRow) : RowOk R.length (once R r) := fun n h => by
  unfold once at h
  obtain ⟨l, hl, hn⟩ := List.mem_flatten.mp h
  obtain ⟨m, _, rfl⟩ := List.mem_map.mp hl
  exact rule_ok ok m n hn
theorem grow_ok {R : GRules} (ok : RulesOk R) : ∀ (t : Nat) {r : GRow}, RowOk R.length r → RowOk R.length (grow R t r)
  | 0, _, h => h
  | t + 1, r, _ => grow_ok ok t (once_ok ok r)

/-! ### lengths -/
def longBy (T : List Int) (r : GRow) : Int := (r.map fun n => T.getD n 0).sum
def lens (R : GRules) : Nat → List Int
  | 0 => R.map fun _ => 1
  | t + 1 => R.map fun r => longBy (lens R t) r
theorem lens_length (R : GRules) : ∀ t, (lens R t).length = R.length
  | 0 => List.length_map _
  | _ + 1 => List.length_map _
theorem longBy_nil (T : List Int) : longBy T [] = 0 := rfl
theorem longBy_cons (T : List Int) (n : Nat) (r : GRow) : longBy T (n :: r) = T.getD n 0 + longBy T r := by
  unfold longBy
  rw [List.map_cons, List.sum_cons]
theorem longBy_append (T : List Int) (a b : GRow) : longBy T (a ++ b) = longBy T a + longBy T b := by
  unfold longBy
  rw [List.map_append, List.sum_append]
/-- what the table says of each letter, told of rows -/
theorem longBy_row {R : GRules} {T : List Int} {t : Nat} (h : ∀ n, n < R.length → T.getD n 0 = ((grow R t [n]).length : Int)) : ∀ {r : GRow}, RowOk R.length r → longBy T r = ((grow R t r).length : Int)
  | [], _ => by rw [longBy_nil, grow_nil]; rfl
  | n :: r, ok => by
    rw [longBy_cons, h n ok.head, longBy_row h ok.tail, show n :: r = [n] ++ r from rfl, grow_append, List.length_append, Int.natCast_add]
theorem lens_letter {R : GRules} (ok : RulesOk R) : ∀ (t n : Nat), n < R.length → (lens R t).getD n 0 = ((grow R t [n]).length : Int)
  | 0, n, h => by
    show (R.map fun _ => (1 : Int)).getD n 0 = 1
    rw [List.getD_eq_getElem?_getD, List.getElem?_map, List.getElem?_eq_getElem h]
    rfl
  | t + 1, n, h => by
    show (R.map fun r => longBy (lens R t) r).getD n 0 = ((grow R t (once R [n])).length : Int)
    rw [List.getD_eq_getElem?_getD, List.getElem?_map, rule_get h, once_one]
    exact longBy_row (lens_letter ok t) (rule_ok ok n)
theorem longBy_lens {R : GRules} (ok : RulesOk R) (t : Nat) {r : GRow} (h : RowOk R.length r) : longBy (lens R t) r = ((grow R t r).length : Int) := longBy_row (lens_letter ok t) h

/-! ### counts -/
def counted (k : Nat) (r : GRow) : List Int := (List.range k).map fun n => (r.count n : Int)
theorem counted_length (k : Nat) (r : GRow) : (counted k r).length = k := by simp [counted]
theorem counted_getD {k n : Nat} {r : GRow} (h : n < k) : (counted k r).getD n 0 = (r.count n : Int) := by
  unfold counted
  rw [List.getD_eq_getElem?_getD, List.getElem?_map, List.getElem?_range h]
  rfl
theorem counted_get {k n : Nat} {r : GRow} (h : n < k) : (counted k r)[n]? = some (r.count n : Int) := by
  unfold counted
  rw [List.getElem?_map, List.getElem?_range h]
  rfl
/-- the sum of now's numbers times told's at k, side by side -/
def dot (k : Nat) : List Int → List (List Int) → Int
  | a :: now, r :: told => a * r.getD k 0 + dot k now told
  | _, _ => 0
def gstep (told : List (List Int)) (n : Nat) (now : List Int) : List Int := (List.range n).map fun k => dot k now told
def gtimes (told : List (List Int)) (n : Nat) : Nat → List Int → List Int
  | 0, now => now
  | t + 1, now => gtimes told n t (gstep told n now)
theorem gtimes_succ (told : List (List Int)) (n : Nat) : ∀ (t : Nat) (now : List Int), gtimes told n (t + 1) now = gstep told n (gtimes told n t now)
  | 0, _ => rfl
  | t + 1, now => gtimes_succ told n t (gstep told n now)
def gcs (R : GRules) (t : Nat) (now : List Int) : List Int := gtimes (R.map (counted R.length)) R.length t now
theorem dot_nil (k : Nat) (told : List (List Int)) : dot k [] told = 0 := by cases told <;> rfl
theorem dot_add (k : Nat) : ∀ (a b : List Int) (told : List (List Int)), a.length = b.length → dot k (List.zipWith (· + ·) a b) told = dot k a told + dot k b told
  | [], [], told, _ => by rw [dot_nil]; simp [dot_nil]
  | [], _ :: _, _, h => absurd h (by simp)
  | _ :: _, [], _, h => absurd h (by simp)
  | _ :: _, _ :: _, [], _ => rfl
  | x :: a, y :: b, r :: told, h => by
    show (x + y) * r.getD k 0 + dot k (List.zipWith (· + ·) a b) told = x * r.getD k 0 + dot k a told + (y * r.getD k 0 + dot k b told)
    rw [dot_add k a b told (by simpa using h), Int.add_mul]
    omega
theorem counted_append (k : Nat) (a b : GRow) : counted k (a ++ b) = List.zipWith (· + ·) (counted k a) (counted k b) := by
  apply List.ext_getElem?
  intro i
  by_cases h : i < k
  · rw [counted_get h, List.getElem?_zipWith, counted_get h, counted_get h, List.count_append, Int.natCast_add]
  · rw [List.getElem?_eq_none (by rw [counted_length]; omega), List.getElem?_eq_none (by rw [List.length_zipWith, counted_length, counted_length]; omega)]
/-- counts of one letter: only its rule is met -/
theorem dot_one (k : Nat) (f : Nat → Int) : ∀ (told : List (List Int)) (m : Nat), (∀ i, f i = if i = m then 1 else 0) → ∀ (j : Nat),
    dot k ((List.range told.length).map fun i => f (j + i)) told = if j ≤ m ∧ m < j + told.length then (told.getD (m - j) []).getD k 0 else 0
  | [], m, _, j => by
    rw [if_neg (by simp; try omega)]
    rfl
  | r :: told, m, hf, j => by
    have e : (List.range (r :: told).length).map (fun i => f (j + i)) = f j :: (List.range told.length).map fun i => f (j + 1 + i) := by
      rw [List.length_cons, List.range_succ_eq_map, List.map_cons, List.map_map]
      congr 1
      apply List.map_congr_left
      intro i _
      show f (j + (i + 1)) = f (j + 1 + i)
      congr 1
      omega
    rw [e]
    show f j * r.getD k 0 + dot k ((List.range told.length).map fun i => f (j + 1 + i)) told = _
    rw [dot_one k f told m hf (j + 1), hf j]
    by_cases h1 : j = m
    · subst h1
      rw [if_pos rfl, if_neg (by omega), if_pos (by simp), Nat.sub_self]
      simp
    · rw [if_neg h1]
      by_cases h2 : j + 1 ≤ m ∧ m < j + 1 + told.length
      · rw [if_pos h2, if_pos (by rw [List.length_cons]; omega)]
        have e2 : m - j = (m - (j + 1)) + 1 := by omega
        rw [e2]
        simp
      · rw [if_neg h2, if_neg (by rw [List.length_cons]; omega)]
        simp
theorem gstep_one {R : GRules} {n : Nat} (h : n < R.length) : gstep (R.map (counted R.length)) R.length (counted R.length [n]) = counted R.length (ruleOf R n) := by
  unfold gstep
  show (List.range R.length).map (fun k => dot k (counted R.length [n]) (R.map (counted R.length))) = (List.range R.length).map fun k => ((ruleOf R n).count k : Int)
  apply List.map_congr_left
  intro k hk
  have hk : k < R.length := List.mem_range.mp hk
  have e := dot_one k (fun i => (([n] : GRow).count i : Int)) (R.map (counted R.length)) n (fun i => by
    show ((([n] : GRow).count i : Nat) : Int) = _
    rw [List.count_cons, List.count_nil]
    by_cases q : i = n
    · subst q
      simp
    · rw [if_neg q]
      have : ¬ (n == i) = true := by simp; omega
      simp [this]) 0
  rw [List.length_map] at e
  have e0 : (List.range R.length).map (fun i => (([n] : GRow).count (0 + i) : Int)) = counted R.length [n] := by
    unfold counted
    apply List.map_congr_left
    intro i _
    rw [Nat.zero_add]
  rw [e0, if_pos (by omega)] at e
  rw [e, Nat.sub_zero]
  have e3 : (R.map (counted R.length)).getD n [] = counted R.length (ruleOf R n) := by
    rw [List.getD_eq_getElem?_getD, List.getElem?_map, rule_get h]
    rfl
  rw [e3, counted_getD hk]
theorem gstep_counted {R : GRules} : ∀ {r : GRow}, RowOk R.length r → gstep (R.map (counted R.length)) R.length (counted R.length r) = counted R.length (once R r)
  | [], _ => by
    have z : ∀ (told : List (List Int)) (k m : Nat), dot k ((List.range m).map fun _ => (0 : Int)) told = 0 := by
      intro told
      induction told with
      | nil => intro k m; cases m <;> simp [dot, List.range_succ_eq_map]
      | cons a told ih =>
        intro k m
        cases m with
        | zero => rfl
        | succ m =>
          have e : (List.range (m + 1)).map (fun _ => (0 : Int)) = 0 :: (List.range m).map fun _ => 0 := by
            rw [List.range_succ_eq_map, List.map_cons, List.map_map]
            rfl
          rw [e]
          show 0 * a.getD k 0 + dot k ((List.range m).map fun _ => 0) told = 0
          rw [ih]
          simp
    show (List.range R.length).map (fun k => dot k ((List.range R.length).map fun _ => (0 : Int)) (R.map (counted R.length))) = (List.range R.length).map fun _ => (0 : Int)
    apply List.map_congr_left
    intro k _
    exact z _ k _
  | n :: r, ok => by
    have h1 := gstep_one ok.head
    have h2 := gstep_counted ok.tail
    rw [show n :: r = [n] ++ r from rfl, counted_append, once_append, counted_append, once_one, ← h1, ← h2]
    unfold gstep
    apply List.ext_getElem?
    intro i
    by_cases hi : i < R.length
    · rw [List.getElem?_map, List.getElem?_range hi, List.getElem?_zipWith, List.getElem?_map, List.getElem?_map, List.getElem?_range hi]
      have e := dot_add i (counted R.length [n]) (counted R.length r) (R.map (counted R.length)) (by rw [counted_length, counted_length])
      exact congrArg some e
    · rw [List.getElem?_eq_none (by simp; omega), List.getElem?_eq_none (by simp; omega)]
theorem gcs_counted {R : GRules} (ok : RulesOk R) : ∀ (t : Nat) {r : GRow}, RowOk R.length r → gcs R t (counted R.length r) = counted R.length (grow R t r)
  | 0, _, _ => rfl
  | t + 1, r, h => by
    show gtimes _ _ t (gstep _ _ (counted R.length r)) = counted R.length (grow R t (once R r))
    rw [gstep_counted h]
    exact gcs_counted ok t (once_ok ok r)
theorem counted_sum {k : Nat} : ∀ {r : GRow}, RowOk k r → (counted k r).sum = (r.length : Int)
  | [], _ => by
    show ((List.range k).map fun _ => (0 : Int)).sum = 0
    generalize List.range k = l
    induction l with
    | nil => rfl
    | cons a l ih => rw [List.map_cons, List.sum_cons, ih]; rfl
  | n :: r, ok => by
    have e1 : (List.zipWith (· + ·) (counted k [n]) (counted k r)).sum = (counted k [n]).sum + (counted k r).sum := by
      have z : ∀ (a b : List Int), a.length = b.length → (List.zipWith (· + ·) a b).sum = a.sum + b.sum := by
        intro a
        induction a with
        | nil => intro b h; cases b with
          | nil => rfl
          | cons _ _ => exact absurd h (by simp)
        | cons x a ih => intro b h; cases b with
          | nil => exact absurd h (by simp)
          | cons y b =>
            rw [List.zipWith_cons_cons, List.sum_cons, List.sum_cons, List.sum_cons, ih b (by simpa using h)]
            omega
      exact z _ _ (by rw [counted_length, counted_length])
    have e2 : (counted k [n]).sum = 1 := by
      have z : ∀ (m : Nat), ((List.range m).map fun i => (([n] : GRow).count i : Int)).sum = if n < m then 1 else 0 := by
        intro m
        induction m with
        | zero => rfl
        | succ m ih =>
          rw [List.range_succ, List.map_append, List.sum_append, ih]
          have e : (([n] : GRow).count m : Int) = if m = n then 1 else 0 := by
            rw [List.count_cons, List.count_nil]
            by_cases q : m = n
            · subst q; simp
            · have : ¬ (n == m) = true := by simp; omega
              simp [this, q]
          simp only [List.map_cons, List.map_nil, List.sum_cons, List.sum_nil, e]
          by_cases q : m = n
          · subst q; simp
          · by_cases q2 : n < m
            · rw [if_pos q2, if_neg q, if_pos (by omega)]; rfl
            · rw [if_neg q2, if_neg q, if_neg (by omega)]; rfl
      have := z k
      rw [if_pos ok.head] at this
      exact this
    rw [show n :: r = [n] ++ r from rfl, counted_append, e1, e2, counted_sum ok.tail, List.length_append]
    simp
end Gw

/-! growrow: what skipped reckons, turn by turn. -/
namespace Gw
theorem counted_snoc {k n : Nat} {r : GRow} (h : n < k) : (counted k r).set n ((r.count n : Int) + 1) = counted k (r ++ [n]) := by
  apply List.ext_getElem?
  intro i
  by_cases hi : i < k
  · rw [counted_get hi, List.getElem?_set]
    by_cases e : n = i
    · subst e
      rw [if_pos rfl, if_pos (by rw [counted_length]; exact h), List.count_append]
      simp
    · rw [if_neg e, counted_get hi, List.count_append]
      simp [List.count_cons, e]
  · rw [List.getElem?_eq_none (by rw [List.length_set, counted_length]; omega), List.getElem?_eq_none (by rw [counted_length]; omega)]
theorem take_snoc {r : GRow} {j n : Nat} (h : r[j]? = some n) : r.take (j + 1) = r.take j ++ [n] := by
  rw [List.take_add_one, h]
  rfl
theorem split_at {r : GRow} {j n : Nat} (h : r[j]? = some n) : r = r.take j ++ n :: r.drop (j + 1) := by
  obtain ⟨hj, e⟩ := List.getElem?_eq_some_iff.mp h
  subst e
  exact (List.take_append_drop j r).symm.trans (by rw [List.drop_eq_getElem_cons hj])
theorem grow_len_append (R : GRules) (t : Nat) (a b : GRow) : (grow R t (a ++ b)).length = (grow R t a).length + (grow R t b).length := by
  rw [grow_append, List.length_append]

/-- where a turn of skipped begins: at t times to go; A was passed over, now comes next, left letters of it -/
structure SkipAt (R : GRules) (G : GRow) (many t : Nat) (A now : GRow) (left : Nat) : Prop where
  okA : RowOk R.length A
  okN : RowOk R.length now
  row : ∃ rest, G = grow R t A ++ (grow R t now ++ rest)
  sum : many = (grow R t A).length + left
  le : left ≤ (grow R t now).length
  lt : many < G.length → left < (grow R t now).length
/-- within the turn, behind j letters of now -/
def SkipIn (R : GRules) (t : Nat) (A now : GRow) (left j : Nat) (f : List Int) (l : Int) : Option Nat → Prop
  | none => f = counted R.length (A ++ now.take j) ∧ ∃ m : Nat, l = (m : Int) ∧ left = (grow R t (now.take j)).length + m
  | some n => ∃ p q, now = p ++ n :: q ∧ f = counted R.length (A ++ p) ∧ ∃ m : Nat, l = (m : Int) ∧ left = (grow R t p).length + m ∧ m < (grow R t [n]).length
section
variable {R : GRules} {G A now : GRow} {many t left j n : Nat} {f : List Int} {l : Int}
theorem skip_first (ok : RulesOk R) {row : GRow} (hr : RowOk R.length row) (hm : many ≤ (grow R t row).length) : SkipAt R (grow R t row) many t [] row many :=
  ⟨RowOk.nil _, hr, ⟨[], by rw [grow_nil]; simp⟩, by rw [grow_nil]; simp, hm, id⟩
theorem skipIn_start : SkipIn R t A now left 0 (counted R.length A) (left : Int) none := ⟨by simp, left, rfl, by simp [grow_nil]⟩
theorem skipIn_take (ok : RulesOk R) (hn : RowOk R.length now) (h : now[j]? = some n) (I : SkipIn R t A now left j f l none) (hl : (lens R t).getD n 0 ≤ l) :
    SkipIn R t A now left (j + 1) (f.set n (f.getD n 0 + 1)) (l - (lens R t).getD n 0) none := by
  obtain ⟨rfl, m, rfl, e⟩ := I
  have hk : n < R.length := hn.get h
  rw [lens_letter ok t n hk] at hl ⊢
  refine ⟨?_, m - (grow R t [n]).length, by omega, ?_⟩
  · rw [counted_getD hk, counted_snoc hk, take_snoc h, List.append_assoc]
  · rw [take_snoc h, grow_len_append]
    omega
theorem skipIn_stop (ok : RulesOk R) (hn : RowOk R.length now) (h : now[j]? = some n) (I : SkipIn R t A now left j f l none) (hl : ¬ (lens R t).getD n 0 ≤ l) :
    SkipIn R t A now left (j + 1) f l (some n) := by
  obtain ⟨rfl, m, rfl, e⟩ := I
  rw [lens_letter ok t n (hn.get h)] at hl
  exact ⟨now.take j, now.drop (j + 1), split_at h, rfl, m, rfl, e, by omega⟩
theorem skipIn_over {x : Nat} (I : SkipIn R t A now left j f l (some x)) : SkipIn R t A now left (j + 1) f l (some x) := I
/-- no letter was met: all of now is passed over -/
theorem skip_none (ok : RulesOk R) (S : SkipAt R G many t A now left) (I : SkipIn R t A now left now.length f l none) : gcs R t f = counted R.length (G.take many) ∧ many = G.length := by
  obtain ⟨rfl, m, rfl, e⟩ := I
  rw [List.take_length] at e ⊢
  obtain ⟨rest, hG⟩ := S.row
  have hle := S.le
  have hm : m = 0 := by omega
  subst hm
  have hs := S.sum
  have e1 : many = (grow R t (A ++ now)).length := by rw [grow_len_append]; omega
  have e2 : G = grow R t (A ++ now) ++ rest := by rw [hG, grow_append, List.append_assoc]
  refine ⟨?_, ?_⟩
  · rw [gcs_counted ok t (S.okA.append S.okN), e2, e1, List.take_left]
  · have hlt := S.lt
    have : G.length = (grow R t A).length + (grow R t now).length + rest.length := by rw [hG]; simp; omega
    by_cases q : many < G.length
    · have := hlt q
      omega
    · omega
/-- a letter was met, at no times to go -/
theorem skip_last (ok : RulesOk R) (S : SkipAt R G many 0 A now left) {x : Nat} (I : SkipIn R 0 A now left j f l (some x)) : gcs R 0 f = counted R.length (G.take many) ∧ G[many]? = some x := by
  obtain ⟨p, q, e, rfl, m, rfl, e1, e2⟩ := I
  obtain ⟨rest, hG⟩ := S.row
  have hs := S.sum
  have hm : m = 0 := by
    have : (grow R 0 [x]).length = 1 := rfl
    omega
  subst hm
  have e3 : (grow R 0 p).length = p.length := rfl
  have e4 : (grow R 0 A).length = A.length := rfl
  have e5 : G = (A ++ p) ++ x :: (q ++ rest) := by
    rw [hG, e]
    show A ++ ((p ++ x :: q) ++ rest) = _
    simp
  have e6 : many = (A ++ p).length := by rw [List.length_append]; omega
  refine ⟨?_, ?_⟩
  · show counted R.length (A ++ p) = counted R.length (G.take many)
    rw [e5, e6, List.take_left]
  · rw [e5, e6, List.getElem?_append_right (Nat.le_refl _), Nat.sub_self]
    rfl
/-- a letter was met: within its rule, one time less -/
theorem skip_next (ok : RulesOk R) (S : SkipAt R G many (t + 1) A now left) {x : Nat} (I : SkipIn R (t + 1) A now left j f l (some x)) :
    x < R.length ∧ ∃ (A' : GRow) (left' : Nat), gcs R 1 f = counted R.length A' ∧ l = (left' : Int) ∧ SkipAt R G many t A' (ruleOf R x) left' := by
  obtain ⟨p, q, e, rfl, m, rfl, e1, e2⟩ := I
  obtain ⟨rest, hG⟩ := S.row
  have hs := S.sum
  have okN : RowOk R.length (p ++ x :: q) := e ▸ S.okN
  have hx : x < R.length := okN.right.head
  refine ⟨hx, once R (A ++ p), m, gcs_counted ok 1 (S.okA.append okN.left), rfl, once_ok ok _, rule_ok ok _, ⟨grow R (t + 1) q ++ rest, ?_⟩, ?_, ?_, fun _ => ?_⟩
  · rw [hG, e]
    show grow R (t + 1) A ++ (grow R (t + 1) (p ++ ([x] ++ q)) ++ rest) = grow R (t + 1) (A ++ p) ++ (grow R t (ruleOf R x) ++ (grow R (t + 1) q ++ rest))
    rw [grow_append, grow_append, grow_append, show grow R t (ruleOf R x) = grow R (t + 1) [x] by rw [← once_one]; rfl]
    simp
  · show many = (grow R (t + 1) (A ++ p)).length + m
    rw [grow_len_append]
    omega
  · have : grow R t (ruleOf R x) = grow R (t + 1) [x] := by rw [← once_one]; rfl
    rw [this]
    omega
  · have : grow R t (ruleOf R x) = grow R (t + 1) [x] := by rw [← once_one]; rfl
    rw [this]
    exact e2
end
end Gw

namespace Gw
/-- the sum over places is the dot product -/
theorem dot_range (k : Nat) : ∀ (now : List Int) (told : List (List Int)), now.length = told.length →
    ((List.range now.length).map fun i => now.getD i 0 * (told.getD i []).getD k 0).sum = dot k now told
  | [], [], _ => rfl
  | [], _ :: _, h => absurd h (by simp)
  | _ :: _, [], h => absurd h (by simp)
  | a :: now, r :: told, h => by
    have ih := dot_range k now told (by simpa using h)
    rw [List.length_cons, List.range_succ_eq_map, List.map_cons, List.sum_cons, List.map_map]
    show a * r.getD k 0 + _ = a * r.getD k 0 + dot k now told
    rw [← ih]
    rfl
theorem gstep_length (told : List (List Int)) (n : Nat) (now : List Int) : (gstep told n now).length = n := by simp [gstep]
theorem gtimes_length (told : List (List Int)) (n : Nat) : ∀ (t : Nat) (now : List Int), now.length = n → (gtimes told n t now).length = n
  | 0, _, h => h
  | t + 1, now, _ => gtimes_length told n t (gstep told n now) (gstep_length told n now)
end Gw

namespace Gw
theorem rep_take_len {R : GRules} {n : Nat} (hR : 1 ≤ R.length) (hn : n ≤ 26) : ((List.replicate 26 R).flatten.take n).length = n := by
  rw [List.length_take]
  have : (List.replicate 26 R).flatten.length = R.length * 26 := by
    have z : ∀ k, (List.replicate k R).flatten.length = R.length * k := by
      intro k
      induction k with
      | zero => rfl
      | succ k ih =>
        rw [List.replicate_succ, List.flatten_cons, List.length_append, ih, Nat.mul_succ]
        omega
    exact z 26
  rw [this]
  omega
theorem once_beh (R S : GRules) (hl : R.length = S.length) : ∀ r : GRow, RowOk R.length r → once (R.map (once S)) r = once S (once R r)
  | [], _ => rfl
  | n :: r, h => by
    rw [once_cons, once_cons, once_append, once_beh R S hl r h.tail]
    congr 1
    unfold ruleOf
    have hn := h.head
    rw [List.getD_eq_getElem?_getD, List.getD_eq_getElem?_getD, List.getElem?_map, List.getElem?_eq_getElem hn]
    rfl
theorem beh_ok {R S : GRules} (hR : RulesOk R) (hS : RulesOk S) (hl : R.length = S.length) : RulesOk (R.map (once S)) :=
  ⟨by rw [List.length_map]; exact hR.pos, by rw [List.length_map]; exact hR.few, fun r hr => by
    rw [List.length_map]
    obtain ⟨q, _, rfl⟩ := List.mem_map.mp hr
    rw [hl]
    exact once_ok hS q⟩
/-- rules that grow as others do so many times -/
theorem grow_times {R S : GRules} (hS : RulesOk S) (k : Nat) (hk : ∀ r, RowOk S.length r → once R r = grow S k r) : ∀ (t : Nat) {r : GRow}, RowOk S.length r → grow R t r = grow S (k * t) r
  | 0, _, _ => rfl
  | t + 1, r, h => by
    show grow R t (once R r) = grow S (k * (t + 1)) r
    rw [hk r h, grow_times hS k hk t (grow_ok hS k h), Nat.mul_succ, Nat.add_comm, grow_add]
theorem once_bound {R : GRules} {c : Nat} (h : ∀ r ∈ R, r.length ≤ c) : ∀ r : GRow, (once R r).length ≤ r.length * c
  | [] => Nat.zero_le _
  | n :: r => by
    rw [once_cons, List.length_append, List.length_cons, Nat.succ_mul]
    have ih := once_bound h r
    have : (ruleOf R n).length ≤ c := by
      unfold ruleOf
      rw [List.getD_eq_getElem?_getD]
      cases e : R[n]? with
      | none => exact Nat.zero_le _
      | some q => exact h q (List.mem_of_getElem? e)
    omega
end Gw

namespace Gw
/-- a sum -/
def S : Nat → (Nat → Int) → Int
  | 0, _ => 0
  | m + 1, f => S m f + f m
theorem S_congr : ∀ {m : Nat} {f g : Nat → Int}, (∀ i, i < m → f i = g i) → S m f = S m g
  | 0, _, _, _ => rfl
  | m + 1, f, g, h => by
    show S m f + f m = S m g + g m
    rw [S_congr fun i hi => h i (Nat.lt_succ_of_lt hi), h m (Nat.lt_succ_self m)]
theorem S_zero : ∀ m : Nat, S m (fun _ => 0) = 0
  | 0 => rfl
  | m + 1 => by
    show S m (fun _ => 0) + 0 = 0
    rw [S_zero m]
    rfl
theorem S_mul (a : Int) : ∀ (m : Nat) (f : Nat → Int), S m (fun i => a * f i) = a * S m f
  | 0, _ => (Int.mul_zero a).symm
  | m + 1, f => by
    show S m (fun i => a * f i) + a * f m = a * (S m f + f m)
    rw [S_mul a m f, Int.mul_add]
theorem S_add : ∀ (m : Nat) (f g : Nat → Int), S m (fun i => f i + g i) = S m f + S m g
  | 0, _, _ => rfl
  | m + 1, f, g => by
    show S m (fun i => f i + g i) + (f m + g m) = S m f + f m + (S m g + g m)
    rw [S_add m f g]
    omega
def sk (p i : Nat) : Nat := if i < p then i else i + 1
theorem S_skip {p : Nat} : ∀ {m : Nat} (f : Nat → Int), p ≤ m → S (m + 1) f = f p + S m (fun i => f (sk p i))
  | 0, f, h => by
    have : p = 0 := by omega
    subst this
    show 0 + f 0 = f 0 + 0
    omega
  | m + 1, f, h => by
    by_cases hp : p = m + 1
    · subst hp
      have : S (m + 1) (fun i => f (sk (m + 1) i)) = S (m + 1) f := S_congr fun i hi => by
        unfold sk
        rw [if_pos hi]
      rw [this]
      show S (m + 1) f + f (m + 1) = _
      omega
    · have ih := S_skip (p := p) (m := m) f (by omega)
      have e : sk p m = m + 1 := by
        unfold sk
        rw [if_neg (by omega)]
      show S (m + 1) f + f (m + 1) = f p + (S m (fun i => f (sk p i)) + f (sk p m))
      rw [ih, e]
      omega
theorem sk_ne {p i : Nat} : sk p i ≠ p := by
  unfold sk
  by_cases h : i < p
  · rw [if_pos h]
    omega
  · rw [if_neg h]
    omega
theorem sk_back {p i : Nat} : (if sk p i < p then sk p i else sk p i - 1) = i := by
  unfold sk
  by_cases h : i < p
  · rw [if_pos h, if_pos h]
  · rw [if_neg h, if_neg (by omega)]
    omega
theorem sk_lt {p i m : Nat} (h : i < m) : sk p i < m + 1 := by
  unfold sk
  by_cases h : i < p
  · rw [if_pos h]
    omega
  · rw [if_neg h]
    omega
/-- more rows than places: some of them, counted, make nothing -/
theorem dep : ∀ (n m : Nat) (u : Nat → Nat → Int), n < m → ∃ c : Nat → Int, (∃ i, i < m ∧ c i ≠ 0) ∧ ∀ j, j < n → S m (fun i => c i * u i j) = 0
  | 0, m, u, h => ⟨fun _ => 1, ⟨0, h, by decide⟩, fun j hj => absurd hj (Nat.not_lt_zero j)⟩
  | n + 1, m, u, h => by
    by_cases hz : ∀ i, i < m → u i n = 0
    · obtain ⟨c, hc, h0⟩ := dep n m u (by omega)
      refine ⟨c, hc, fun j hj => ?_⟩
      by_cases hjn : j = n
      · subst hjn
        rw [S_congr (g := fun _ => 0) fun i hi => by rw [hz i hi, Int.mul_zero]]
        exact S_zero m
      · exact h0 j (by omega)
    · obtain ⟨p, hp, hup⟩ : ∃ p, p < m ∧ u p n ≠ 0 := by
        apply Classical.byContradiction
        intro hn
        exact hz fun i hi => Classical.byContradiction fun hne => hn ⟨i, hi, hne⟩
      obtain ⟨m, rfl⟩ : ∃ m', m = m' + 1 := ⟨m - 1, by omega⟩
      obtain ⟨d, ⟨i0, hi0, hd0⟩, hd⟩ := dep n m (fun i j => u p n * u (sk p i) j - u (sk p i) n * u p j) (by omega)
      obtain ⟨T, hT⟩ : ∃ T, S m (fun i => d i * u (sk p i) n) = T := ⟨_, rfl⟩
      obtain ⟨c, hc⟩ : ∃ c : Nat → Int, c = fun i => if i = p then - T else u p n * d (if i < p then i else i - 1) := ⟨_, rfl⟩
      have cp : c p = - T := by rw [hc]; exact if_pos rfl
      have cs : ∀ i, c (sk p i) = u p n * d i := fun i => by
        rw [hc]
        show (if sk p i = p then - T else u p n * d (if sk p i < p then sk p i else sk p i - 1)) = _
        rw [if_neg sk_ne, sk_back]
      refine ⟨c, ⟨sk p i0, sk_lt hi0, by rw [cs]; exact Int.mul_ne_zero hup hd0⟩, fun j hj => ?_⟩
      have e : S (m + 1) (fun i => c i * u i j) = - T * u p j + u p n * S m (fun i => d i * u (sk p i) j) := by
        rw [S_skip _ (show p ≤ m by omega), cp, ← S_mul]
        congr 1
        exact S_congr fun i hi => by
          rw [cs]
          exact Int.mul_assoc ..
      rw [e]
      by_cases hjn : j = n
      · subst hjn
        rw [hT]
        grind
      · have h1 := hd j (by omega)
        have h2 : S m (fun i => d i * (u p n * u (sk p i) j - u (sk p i) n * u p j)) = u p n * S m (fun i => d i * u (sk p i) j) + (- u p j) * S m (fun i => d i * u (sk p i) n) := by
          rw [← S_mul, ← S_mul, ← S_add]
          exact S_congr fun i hi => by grind
        rw [h2, hT] at h1
        grind
theorem last_of {c : Nat → Int} : ∀ {m : Nat}, (∃ i, i < m ∧ c i ≠ 0) → ∃ k, k < m ∧ c k ≠ 0 ∧ ∀ i, k < i → i < m → c i = 0
  | 0, ⟨i, hi, _⟩ => absurd hi (Nat.not_lt_zero i)
  | m + 1, ⟨i, hi, hc⟩ => by
    by_cases hm : c m = 0
    · obtain ⟨k, hk, hck, hz⟩ := last_of (c := c) (m := m) ⟨i, by
        have : i ≠ m := fun e => hc (e ▸ hm)
        omega, hc⟩
      refine ⟨k, by omega, hck, fun j hj hjm => ?_⟩
      by_cases e : j = m
      · rw [e]
        exact hm
      · exact hz j hj (by omega)
    · exact ⟨m, Nat.lt_succ_self m, hm, fun j h1 h2 => by omega⟩
theorem S_cut {k : Nat} {f : Nat → Int} : ∀ {m : Nat}, k < m → (∀ i, k < i → i < m → f i = 0) → S m f = S (k + 1) f
  | 0, h, _ => absurd h (Nat.not_lt_zero k)
  | m + 1, h, hz => by
    by_cases e : k = m
    · rw [e]
    · show S m f + f m = _
      rw [hz m (by omega) (Nat.lt_succ_self m), S_cut (m := m) (by omega) fun i h1 h2 => hz i h1 (Nat.lt_succ_of_lt h2)]
      exact Int.add_zero _
def gl (R : GRules) (t : Nat) (q : GRow) : Int := ((grow R t q).length : Int)
theorem gl_cons (R : GRules) (t n : Nat) (q : GRow) : gl R t (n :: q) = gl R t [n] + gl R t q := by
  have e : grow R t (n :: q) = grow R t [n] ++ grow R t q := grow_append R t [n] q
  unfold gl
  rw [e, List.length_append, Int.natCast_add]
theorem rel_row {R : GRules} {c : Nat → Int} {m : Nat} (h : ∀ j, j < R.length → S m (fun t => c t * gl R t [j]) = 0) : ∀ {q : GRow}, RowOk R.length q → S m (fun t => c t * gl R t q) = 0
  | [], _ => by
    rw [S_congr (g := fun _ => 0) fun i hi => by
      unfold gl
      rw [grow_nil]
      exact Int.mul_zero _]
    exact S_zero m
  | n :: q, hq => by
    rw [S_congr (g := fun t => c t * gl R t [n] + c t * gl R t q) fun i hi => by rw [gl_cons, Int.mul_add], S_add, h n hq.head, rel_row h hq.tail]
    rfl
/-- rows that grow to alike many letters as many times as there are letters do so always -/
theorem alike_all {R : GRules} (ok : RulesOk R) {a b : GRow} (ha : RowOk R.length a) (hb : RowOk R.length b) (h : ∀ t, t < R.length → gl R t a = gl R t b) : ∀ t, gl R t a = gl R t b := by
  obtain ⟨c, hex, hc⟩ := dep R.length (R.length + 1) (fun t j => gl R t [j]) (Nat.lt_succ_self _)
  obtain ⟨k, hk, hck, hz⟩ := last_of hex
  have rel : ∀ {q : GRow}, RowOk R.length q → ∀ s, S k (fun t => c t * gl R (s + t) q) + c k * gl R (s + k) q = 0 := fun {q} hq s => by
    have h1 := rel_row (m := R.length + 1) hc (grow_ok ok s hq)
    rw [S_cut hk fun i h1 h2 => by rw [hz i h1 h2, Int.zero_mul]] at h1
    have h2 : ∀ t, gl R t (grow R s q) = gl R (s + t) q := fun t => by
      unfold gl
      rw [grow_add]
    have h3 : S (k + 1) (fun t => c t * gl R t (grow R s q)) = S (k + 1) (fun t => c t * gl R (s + t) q) := S_congr fun t _ => by rw [h2]
    rw [h3] at h1
    exact h1
  intro t
  induction t using Nat.strongRecOn with
  | _ t ih =>
    by_cases ht : t < R.length
    · exact h t ht
    · have e : t - k + k = t := by omega
      have r1 := rel ha (t - k)
      have r2 := rel hb (t - k)
      rw [e] at r1 r2
      have h3 : S k (fun i => c i * gl R (t - k + i) a) = S k (fun i => c i * gl R (t - k + i) b) := S_congr fun i hi => by rw [ih (t - k + i) (by omega)]
      rw [h3] at r1
      have h4 : c k * gl R t a = c k * gl R t b := by omega
      exact Int.eq_of_mul_eq_mul_left hck h4
end Gw

/-! growrow: letters as texts, what readings evaluate to (over Evl), own rules. -/
namespace Gw
open PySem PySem.Spec PyProof.Rows L2 Evl

/-! ### letters -/
def cd (l : List Nat) : List Nat := l.map (97 + ·)
def enc (l : GRow) : Str := ⟨(cd l).toArray⟩
def sg (n : Nat) : Str := ⟨#[97 + n]⟩
def ALPH : Str := enc (List.range 26)
theorem enc_one (n : Nat) : enc [n] = sg n := rfl
theorem enc_len (l : GRow) : (enc l).length = l.length := by simp [enc, cd, Str.length]
theorem enc_inj {a b : GRow} (h : enc a = enc b) : a = b := by
  have e : cd a = cd b := congrArg (fun x : Str => x.cps.toList) h
  exact List.map_inj_right (fun x y h => Nat.add_left_cancel h) |>.mp e
theorem sg_inj {a b : Nat} (h : sg a = sg b) : a = b := by
  have := enc_inj (a := [a]) (b := [b]) h
  simpa using this
theorem enc_nil : enc [] = Str.ofString "" := by decide +kernel
theorem alph_eq : (Str.ofString "abcdefghijklmnopqrstuvwxyz") = ALPH := by decide +kernel
theorem alph_len : ALPH.length = 26 := by decide +kernel
theorem cd_range_get {n : Nat} (h : n < 26) : ALPH.cps.toList[n]? = some (97 + n) := by
  show (cd (List.range 26))[n]? = some (97 + n)
  unfold cd
  rw [List.getElem?_map, List.getElem?_range h]
  rfl
theorem alph_at {i : Int} {n : Nat} (e : i = (n : Int)) (h : n < 26) : atI ALPH.cps.toList i = some (97 + n) := by
  rw [e]
  exact atI_nat (cd_range_get h)
/-- each letter's place among the letters -/
theorem alph_occ {n : Nat} (h : n < 26) : ∃ rest, Builtin.Str.occurrences ALPH (sg n) 0 ALPH.length 1 = n :: rest := by
  have z : ∀ n, n < 26 → (Builtin.Str.occurrences ALPH (sg n) 0 ALPH.length 1).head? = some n := by decide +kernel
  have e := z n h
  cases q : Builtin.Str.occurrences ALPH (sg n) 0 ALPH.length 1 with
  | nil => rw [q] at e; cases e
  | cons a r =>
    rw [q] at e
    cases e
    exact ⟨r, rfl⟩

theorem enc_get {l : GRow} {i c : Nat} (h : (enc l).cps[i]? = some c) : ∃ n, l[i]? = some n ∧ c = 97 + n := by
  have e : (cd l)[i]? = some c := by
    have q : (enc l).cps.toList[i]? = some c := by
      rw [Array.getElem?_toList]
      exact h
    exact q
  unfold cd at e
  rw [List.getElem?_map] at e
  cases q : l[i]? with
  | none => rw [q] at e; cases e
  | some n =>
    rw [q] at e
    exact ⟨n, rfl, (Option.some.inj e).symm⟩
theorem enc_size (l : GRow) : (enc l).cps.size = l.length := by simp [enc, cd]
theorem enc_append (a b : GRow) : enc a ++ enc b = enc (a ++ b) := by
  have e := SX.S_cat (cd a) (cd b)
  show SX.S (cd a) ++ SX.S (cd b) = SX.S (cd (a ++ b))
  rw [e]
  simp [cd]
theorem joinL_nil : ∀ l : List (List Nat), TL.joinL [] l = l.flatten
  | [] => rfl
  | [a] => by simp [TL.joinL]
  | a :: b :: l => by
    have ih := joinL_nil (b :: l)
    show a ++ ([] ++ TL.joinL [] (b :: l)) = (a :: b :: l).flatten
    rw [ih]
    simp
theorem join_enc (ls : List GRow) : Txt.join (enc []) (ls.map enc) = enc ls.flatten := by
  have e := SX.join_S [] (ls.map cd)
  rw [joinL_nil, List.map_map] at e
  have e2 : (ls.map cd).flatten = cd ls.flatten := by
    unfold cd
    rw [List.map_flatten]
  rw [e2] at e
  exact e
theorem cut_take {l : GRow} {i : Int} (h : 0 ≤ i) : cutS (enc l) none (some i) = enc (l.take i.toNat) := by
  rw [C8.cutS_slice]
  refine (SX.slice_to (a := cd l) h).trans ?_
  show SX.S _ = SX.S _
  unfold cd
  rw [List.map_take]
theorem alph_cut {k : Nat} (h : k ≤ 26) : cutS ALPH none (some (k : Int)) = enc (List.range k) := by
  unfold ALPH
  rw [cut_take (by omega), Int.toNat_natCast]
  congr 1
  apply List.ext_getElem?
  intro i
  by_cases hi : i < k
  · rw [List.getElem?_take_of_lt hi, List.getElem?_range hi, List.getElem?_range (by omega)]
  · rw [List.getElem?_eq_none (by simp; omega), List.getElem?_eq_none (by simp; omega)]

theorem count_enc (l : GRow) (n : Nat) : Txt.count (enc l) (sg n) = (l.count n : Int) := by
  rw [show sg n = ⟨#[97 + n]⟩ from rfl, count_cnt]
  show cnt (97 + n) (cd l) = _
  induction l with
  | nil => rfl
  | cons a l ih =>
    show cnt (97 + n) ((97 + a) :: cd l) = _
    rw [cnt_cons, ih, List.count_cons]
    by_cases e : a = n
    · subst e
      simp
      omega
    · rw [if_neg (by omega)]
      have : ¬ (a == n) = true := by simpa using e
      simp [e]
theorem tw_all {p : Nat → Bool} : ∀ {l : List Nat}, (∀ a ∈ l, p a = true) → l.takeWhile p = l
  | [], _ => rfl
  | a :: l, h => by rw [List.takeWhile_cons, if_pos (h a List.mem_cons_self), tw_all fun b hb => h b (List.mem_cons_of_mem _ hb)]
theorem tw_mem {p : Nat → Bool} : ∀ {l : List Nat} {a : Nat}, a ∈ l.takeWhile p → p a = true
  | [], a, h => absurd h (by simp)
  | b :: l, a, h => by
    rw [List.takeWhile_cons] at h
    by_cases hb : p b = true
    · rw [if_pos hb] at h
      rcases List.mem_cons.mp h with e | h
      · rw [e]; exact hb
      · exact tw_mem h
    · rw [if_neg hb] at h
      cases h
theorem strip_all {x y : Str} (h : x.cps.toList.all y.cps.contains = true) : Txt.stripChars x y = Str.ofString "" := by
  have lo : PySem.stripLo y.cps.contains true x = x.length := by
    unfold PySem.stripLo
    rw [if_pos rfl, tw_all (fun a ha => List.all_eq_true.mp h a ha)]
    simp [Str.length]
  unfold Txt.stripChars Txt.stripBy PySem.stripSame PySem.stripped
  rw [lo]
  by_cases hz : x.length = 0
  · have e : x = Str.ofString "" := by
      apply TL.ext_tl
      have : x.cps.toList = [] := by
        apply List.eq_nil_of_length_eq_zero
        simpa [Str.length] using hz
      show x.cps.toList = _
      rw [this]
      decide +kernel
    by_cases q : (x.length == 0 && PySem.stripHi y.cps.contains true x x.length == x.length) = true
    · rw [if_pos q, e]
    · rw [if_neg q]
      subst e
      apply TL.ext_tl
      rw [show TL.tl (Builtin.Str.strSub (Str.ofString "") _ _) = _ from StrLaws.strSub_toList .., show (Str.ofString "").cps.toList = [] by decide +kernel, show TL.tl (Str.ofString "") = [] by decide +kernel]
      simp
  · rw [if_neg (by simp [hz])]
    apply TL.ext_tl
    rw [show TL.tl (Str.ofString "") = [] by decide +kernel]
    show (Builtin.Str.strSub x x.length _).cps.toList = []
    rw [StrLaws.strSub_toList]
    rw [List.drop_eq_nil_of_le (by simp [Str.length])]
    simp
theorem strip_some {x y : Str} (h : ¬ x.cps.toList.all y.cps.contains = true) : Txt.stripChars x y ≠ Str.ofString "" := by
  intro e
  have tl0 : TL.tl (Str.ofString "") = [] := by decide +kernel
  have ex : ∃ a ∈ x.cps.toList, ¬ y.cps.contains a = true := by
    by_cases q : ∃ a ∈ x.cps.toList, ¬ y.cps.contains a = true
    · exact q
    · refine absurd (List.all_eq_true.mpr fun a ha => ?_) h
      by_cases z : y.cps.contains a = true
      · exact z
      · exact absurd ⟨a, ha, z⟩ q
  obtain ⟨a, ha, hna⟩ := ex
  unfold Txt.stripChars Txt.stripBy at e
  by_cases q : PySem.stripSame y.cps.contains true true x = true
  · rw [if_pos q] at e
    rw [e] at ha
    rw [show (Str.ofString "").cps.toList = [] from tl0] at ha
    cases ha
  · rw [if_neg q] at e
    have e2 : TL.tl (PySem.stripped y.cps.contains true true x) = [] := by rw [e]; exact tl0
    unfold PySem.stripped at e2
    rw [show TL.tl (Builtin.Str.strSub x _ _) = _ from StrLaws.strSub_toList ..] at e2
    -- the letters of x: those taken off its head, the rest
    have hsplit : x.cps.toList = x.cps.toList.takeWhile y.cps.contains ++ x.cps.toList.dropWhile y.cps.contains := (List.takeWhile_append_dropWhile).symm
    have hlo : PySem.stripLo y.cps.contains true x = (x.cps.toList.takeWhile y.cps.contains).length := by
      unfold PySem.stripLo
      rw [if_pos rfl]
    have hdrop : x.cps.toList.drop (PySem.stripLo y.cps.contains true x) = x.cps.toList.dropWhile y.cps.contains := by
      rw [hlo]
      have z := List.drop_left (l₁ := x.cps.toList.takeWhile y.cps.contains) (l₂ := x.cps.toList.dropWhile y.cps.contains)
      rw [← hsplit] at z
      exact z
    have hne : x.cps.toList.dropWhile y.cps.contains ≠ [] := by
      intro z
      rw [z, List.append_nil] at hsplit
      rw [hsplit] at ha
      exact hna (tw_mem ha)
    unfold PySem.stripHi at e2
    rw [if_pos rfl, hdrop] at e2
    have hl : x.length = (x.cps.toList.takeWhile y.cps.contains).length + (x.cps.toList.dropWhile y.cps.contains).length := by
      rw [← List.length_append, List.takeWhile_append_dropWhile]
      simp [Str.length]
    have hlt : ((x.cps.toList.dropWhile y.cps.contains).reverse.takeWhile y.cps.contains).length < (x.cps.toList.dropWhile y.cps.contains).length := by
      have hle := (List.takeWhile_sublist (p := y.cps.contains) (l := (x.cps.toList.dropWhile y.cps.contains).reverse)).length_le
      rw [List.length_reverse] at hle
      rcases Nat.lt_or_ge ((x.cps.toList.dropWhile y.cps.contains).reverse.takeWhile y.cps.contains).length (x.cps.toList.dropWhile y.cps.contains).length with z | z
      · exact z
      · exfalso
        have heq : (x.cps.toList.dropWhile y.cps.contains).reverse.takeWhile y.cps.contains = (x.cps.toList.dropWhile y.cps.contains).reverse :=
          (List.takeWhile_sublist _).eq_of_length (by rw [List.length_reverse]; omega)
        have hall : ∀ a ∈ (x.cps.toList.dropWhile y.cps.contains).reverse, y.cps.contains a = true := fun a ha => by rw [← heq] at ha; exact tw_mem ha
        cases hd : x.cps.toList.dropWhile y.cps.contains with
        | nil => exact hne hd
        | cons c r =>
          have h1 := hall c (by rw [hd]; simp)
          have h2 := List.head_dropWhile_not (p := y.cps.contains) (l := x.cps.toList) (by rw [hd]; simp)
          have h3 : (x.cps.toList.dropWhile y.cps.contains).head (by rw [hd]; simp) = c := by simp [hd]
          rw [h3, h1] at h2
          cases h2
    have := congrArg List.length e2
    rw [List.length_take, List.length_nil, hlo] at this
    omega
/-- a text of the first k letters alone -/
def isLet (k : Nat) (z : Str) : Bool := z.cps.toList.all (enc (List.range k)).cps.contains
theorem strip_eq (k : Nat) (z : Str) : decide (V.str (Txt.stripChars z (enc (List.range k))) = V.str (Str.ofString "")) = isLet k z := by
  cases h : isLet k z with
  | true =>
    rw [strip_all h]
    exact decide_eq_true rfl
  | false =>
    refine decide_eq_false fun e => ?_
    have h2 : ¬ isLet k z = true := by rw [h]; exact Bool.false_ne_true
    exact strip_some h2 (V.str.inj e)
theorem let_mem {k c : Nat} : (enc (List.range k)).cps.contains c = true ↔ ∃ n, n < k ∧ c = 97 + n := by
  rw [Array.contains_iff]
  have e : c ∈ (enc (List.range k)).cps ↔ c ∈ cd (List.range k) := by
    rw [← Array.mem_toList_iff]
    exact Iff.rfl
  rw [e]
  unfold cd
  rw [List.mem_map]
  constructor
  · rintro ⟨n, hn, rfl⟩
    exact ⟨n, List.mem_range.mp hn, rfl⟩
  · rintro ⟨n, hn, rfl⟩
    exact ⟨n, List.mem_range.mpr hn, rfl⟩
theorem isLet_enc {k : Nat} {l : GRow} (h : RowOk k l) : isLet k (enc l) = true := by
  refine List.all_eq_true.mpr fun c hc => let_mem.mpr ?_
  have hc : c ∈ cd l := hc
  unfold cd at hc
  obtain ⟨n, hn, rfl⟩ := List.mem_map.mp hc
  exact ⟨n, h n hn, rfl⟩
theorem isLet_iff {k : Nat} {l : GRow} : isLet k (enc l) = true ↔ RowOk k l := by
  constructor
  · intro h n hn
    have := List.all_eq_true.mp h (97 + n) (by show _ ∈ cd l; unfold cd; exact List.mem_map.mpr ⟨n, hn, rfl⟩)
    obtain ⟨m, hm, e⟩ := let_mem.mp this
    omega
  · exact isLet_enc
end Gw

namespace Gw
open PySem PySem.Spec PyProof.Rows L2 Evl
/-! ### a reading of two kinds -/
theorem pe_or2 {X : Cx} {e : Expr} {t1 t2 : TE} (h1 : PE X e t1) (h2 : PE X e t2) : PE X e (fun σ H Q => t1 σ H Q ∨ t2 σ H Q) :=
  ⟨fun pins s σ H Q I h => h.elim (h1.run pins s σ H Q I) (h2.run pins s σ H Q I)⟩

/-! ### texts -/
section
variable {K : PySem.W.Frag} {σ : L2.St} {H H' : Hp} {ta tb te to : TE} {t u : TT} {x y v : V} {z : Str} {l : GRow} {n : Nat}
def rSIdx : V → List V → Hp → VK → Prop := fun x xs H Q => ∃ a b i rest, x = .str a ∧ xs = [.str b] ∧ Builtin.Str.occurrences a b 0 a.length 1 = i :: rest ∧ Q (.int (i : Nat)) H
theorem ev_bmS {r : V → List V → Hp → VK → Prop} {ta : TA} {vs : List V} (ho : Ev to σ H (.str z)) (ha : EvA ta σ H vs) (hr : ∀ H1 Q, Q v H1 → r (.str z) vs H1 Q) : Ev (tBM K "str" r to ta) σ H v := fun H1 e Q q =>
  ho H1 e _ fun H2 e2 => ⟨rfl, ha H2 (e.trans e2) _ fun H3 e3 => hr H3 Q (q H3 (e2.trans e3))⟩
theorem ea_one (h : Ev te σ H x) : EvA (tCons te tNil) σ H [x] := ea_cons h ea_nil
theorem ea_two (h : Ev ta σ H x) (h2 : Ev tb σ H y) : EvA (tCons ta (tCons tb tNil)) σ H [x, y] := ea_cons h (ea_cons h2 ea_nil)
theorem ea_three {w : V} (h : Ev ta σ H x) (h2 : Ev tb σ H y) (h3 : Ev te σ H w) : EvA (tCons ta (tCons tb (tCons te tNil))) σ H [x, y, w] := ea_cons h (ea_cons h2 (ea_cons h3 ea_nil))
/-- LETTERS.index(letter) -/
theorem ev_idx (ho : Ev to σ H (.str ALPH)) (h : Ev te σ H (.str (sg n))) (hn : n < 26) : Ev (tBM K "str" rSIdx to (tCons te tNil)) σ H (.int (n : Int)) :=
  ev_bmS ho (ea_one h) fun H1 Q q => by
    obtain ⟨rest, e⟩ := alph_occ hn
    exact ⟨ALPH, sg n, n, rest, rfl, rfl, e, q⟩
def rSCount : V → List V → Hp → VK → Prop := fun x xs H Q => ∃ a b, x = .str a ∧ xs = [.str b] ∧ Q (.int (Txt.count a b)) H
theorem ev_count (ho : Ev to σ H (.str (enc l))) (h : Ev te σ H (.str (sg n))) : Ev (tBM K "str" rSCount to (tCons te tNil)) σ H (.int (l.count n : Int)) :=
  ev_bmS ho (ea_one h) fun H1 Q q => ⟨enc l, sg n, rfl, rfl, by rw [count_enc]; exact q⟩
def rSStrip : V → List V → Hp → VK → Prop := fun x xs H Q => ∃ a b, x = .str a ∧ xs = [.str b] ∧ a.length ≤ sizeLine ∧ Q (.str (Txt.stripChars a b)) H
theorem ev_strip {b : Str} (ho : Ev to σ H (.str z)) (h : Ev te σ H (.str b)) (hz : z.length ≤ sizeLine) : Ev (tBM K "str" rSStrip to (tCons te tNil)) σ H (.str (Txt.stripChars z b)) :=
  ev_bmS ho (ea_one h) fun H1 Q q => ⟨z, b, rfl, rfl, hz, q⟩
theorem ev_slS {tl th : TO} {lo hi : Option Int} (h : Ev te σ H (.str z)) (h1 : EvO tl σ H lo) (h2 : EvO th σ H hi) (hz : z.length ≤ sizeLine) : Ev (tSl rSlS te tl th) σ H (.str (cutS z lo hi)) := fun H1 e Q q =>
  h H1 e _ fun H2 e2 => h1 H2 (e.trans e2) _ fun H3 e3 => h2 H3 ((e.trans e2).trans e3) _ fun H4 e4 => ⟨z, rfl, hz, q H4 ((e2.trans e3).trans e4)⟩
theorem alph_sz : ALPH.length ≤ sizeLine := by rw [alph_len]; decide
/-- LETTERS[:k] -/
theorem ev_alphCut {th : TO} {k : Nat} (h : Ev te σ H (.str ALPH)) (h2 : EvO th σ H (some (k : Int))) (hk : k ≤ 26) : Ev (tSl rSlS te tNoPart th) σ H (.str (enc (List.range k))) :=
  ev_is (ev_slS h eo_none h2 alph_sz) (by rw [alph_cut hk])
theorem ev_take {th : TO} {i : Int} (h : Ev te σ H (.str (enc l))) (h2 : EvO th σ H (some i)) (hi : 0 ≤ i) (hz : l.length ≤ sizeLine) : Ev (tSl rSlS te tNoPart th) σ H (.str (enc (l.take i.toNat))) :=
  ev_is (ev_slS h eo_none h2 (by rw [enc_len]; exact hz)) (by rw [cut_take hi])
def rSLen : List V → Hp → VK → Prop := fun xs H Q => ∃ z, xs = [.str z] ∧ z.length ≤ sizeLine ∧ Q (.int z.length) H
theorem ev_lenS (h : Ev te σ H (.str z)) (hz : z.length ≤ sizeLine) : Ev (tCB rSLen (tCons te tNil)) σ H (.int (z.length : Int)) := fun H1 e Q q =>
  h H1 e _ fun H2 e2 => ⟨z, rfl, hz, q H2 e2⟩
theorem ev_lenE (h : Ev te σ H (.str (enc l))) (hz : l.length ≤ sizeLine) : Ev (tCB rSLen (tCons te tNil)) σ H (.int (l.length : Int)) :=
  ev_is (ev_lenS h (by rw [enc_len]; exact hz)) (by rw [enc_len])
def rSJoin (K : PySem.W.Frag) : V → List V → Hp → VK → Prop := fun x xs H Q => ∃ a p, ∃ ys : List Str, x = .str a ∧ xs = [.ref p] ∧ (SqL K H p (ys.map V.str) ∨ SqT K H p (ys.map V.str)) ∧
  (ys.map (·.length)).sum + ys.length * a.length ≤ 16777216 ∧ Q (.str (Txt.join a ys)) H
theorem flat_len : ∀ ls : List GRow, ((ls.map enc).map (·.length)).sum = ls.flatten.length
  | [] => rfl
  | a :: ls => by rw [List.map_cons, List.map_cons, List.sum_cons, flat_len ls, enc_len, List.flatten_cons, List.length_append]
/-- "".join([..]), a new list of letters' texts -/
theorem ev_join {ls : List GRow} (ho : Ev to σ H (.str (enc []))) (h : EvL te σ H (ls.map fun r => V.str (enc r))) (hz : ls.flatten.length ≤ 16777216) : Ev (tM1 (rSJoin K) to te) σ H (.str (enc ls.flatten)) := fun H1 e Q q =>
  ho H1 e _ fun H2 e2 => ⟨⟨enc [], rfl⟩, h H2 (e.trans e2) _ fun p H3 _ e3 h3 => ⟨enc [], p, ls.map enc, rfl, rfl, Or.inl (sq_of (by rw [h3, List.map_map]; rfl)), by
    rw [flat_len, enc_len]
    show ls.flatten.length + (ls.map enc).length * 0 ≤ 16777216
    omega, by rw [join_enc]; exact q H3 (e2.trans e3)⟩⟩
theorem ev_eqS (s : Str) (ha : Ev ta σ H (.str z)) (hb : Ev tb σ H (.str s)) : Ev (tOp rEq ta tb) σ H (.bl (decide (V.str z = V.str s))) := ev_op ha hb (rv_eq rfl)
theorem ev_sumN {ns : List Int} (h : EvL te σ H (ns.map V.int)) : Ev (tCB (rSum K) (tCons te tNil)) σ H (.int ns.sum) := fun H1 e Q q =>
  h H1 e _ fun p H2 _ e2 h2 => ⟨p, ns, rfl, sq_of h2, q H2 e2⟩
theorem ev_sum {a : Addr} {ns : List Int} (h : Ev te σ H (.ref a)) (hs : SqL K H a (ns.map V.int)) : Ev (tCB (rSum K) (tCons te tNil)) σ H (.int ns.sum) := fun H1 e Q q =>
  h H1 e _ fun H2 e2 => ⟨a, ns, rfl, ex_l (e.trans e2) hs, q H2 e2⟩
theorem ev_allN {bs : List Bool} (h : EvL te σ H (bs.map V.bl)) : Ev (tCB (rAll K) (tCons te tNil)) σ H (.bl (bs.all id)) := fun H1 e Q q =>
  h H1 e _ fun p H2 _ e2 h2 => ⟨p, bs, rfl, sq_of h2, q H2 e2⟩
theorem ev_anyN {bs : List Bool} (h : EvL te σ H (bs.map V.bl)) : Ev (tCB (rAny K) (tCons te tNil)) σ H (.bl (bs.any id)) := fun H1 e Q q =>
  h H1 e _ fun p H2 _ e2 h2 => ⟨p, bs, rfl, sq_of h2, q H2 e2⟩
/-- isinstance(x, T) -/
theorem ty_ex {w : Value} (h : TyX K H x w) (e : Ex H H') : TyX K H' x w := by
  cases h with
  | base h => cases h with
    | non => exact .base .non
    | bl b => exact .base (.bl b)
    | int i => exact .base (.int i)
    | str s => exact .base (.str s)
    | flt f => exact .base (.flt f)
    | lst h => exact .base (.lst (e _ _ h))
    | frz h => exact .base (.frz (e _ _ h))
    | tup h => exact .base (.tup (e _ _ h))
    | dK h => exact .base (.dK (e _ _ h))
    | dT h => exact .base (.dT (e _ _ h))
    | ins h c1 c2 c3 c4 c5 => exact .base (.ins (e _ _ h) c1 c2 c3 c4 c5)
  | byt b => exact .byt b
  | set h => exact .set (e _ _ h)
  | kList h c => exact .kList h c
  | kTuple h c => exact .kTuple h c
  | kDict h c => exact .kDict h c
  | fTuple h => exact .fTuple (e _ _ h)
  | fDict h => exact .fDict (e _ _ h)
theorem ev_isi {T : String} {w : Value} {b : Bool} (h : Ev te σ H x) (ht : TyX K H x w) (hk : PySem.W.kitOne K w (.type T) = some b) : Ev (tCB (rIsi K) (tCons te (tCons (tC (.ty T)) tNil))) σ H (.bl b) := fun H1 e Q q =>
  h H1 e _ fun H2 e2 => ⟨x, .ty T, w, .type T, b, rfl, .ty T, ty_ex ht (e.trans e2), hk, q H2 e2⟩
theorem ev_isiC {C : Addr} {w : Value} {b : Bool} (h : Ev te σ H x) (ht : TyX K H x w) (hk : PySem.W.kitOne K w (.ref C) = some b) : Ev (tCB (rIsi K) (tCons te (tCons (tC (.ref C)) tNil))) σ H (.bl b) := fun H1 e Q q =>
  h H1 e _ fun H2 e2 => ⟨x, .ref C, w, .ref C, b, rfl, .own C, ty_ex ht (e.trans e2), hk, q H2 e2⟩
/-- a list's type, wherever it stands -/
theorem ty_list {a : Addr} {xs : List V} (h : SqL K H a xs) : TyX K H (.ref a) (.type "list") := by
  rcases h with (h | ⟨o, h⟩) | ⟨o, its, n, h, c, _⟩
  · exact .base (.lst h)
  · exact .base (.frz h)
  · exact .kList h c
/-- a < b < c -/
theorem ev_chain {r r' : R2} {tc : TE} {w : V} {a b : Bool} (ha : Ev ta σ H x) (hb : Ev tb σ H y) (hc : a = true → Ev tc σ H w) (h1 : RV r x y H (.bl a)) (h2 : a = true → RV r' y w H (.bl b)) : Ev (tChain r r' ta tb tc) σ H (.bl (a && b)) := fun H1 e Q q =>
  ha H1 e _ fun H2 e2 => hb H2 (e.trans e2) _ fun H3 e3 => h1 H3 ((e.trans e2).trans e3) _ fun H4 e4 => ⟨a, rfl, by
    cases a with
    | true =>
      rw [if_pos rfl]
      exact hc rfl H4 (((e.trans e2).trans e3).trans e4) _ fun H5 e5 => h2 rfl H5 ((((e.trans e2).trans e3).trans e4).trans e5) Q fun H6 e6 => q H6 ((((e2.trans e3).trans e4).trans e5).trans e6)
    | false =>
      rw [if_neg Bool.false_ne_true]
      exact q H4 ((e2.trans e3).trans e4)⟩
/-- pe_one: the last of an and, or -/
theorem ev_mul {i j : Int} (ha : Ev ta σ H (.int i)) (hb : Ev tb σ H (.int j)) (hc : CMul i j) : Ev (tOp (rI CMul fun i j => .int (i * j)) ta tb) σ H (.int (i * j)) := ev_op ha hb (rv_I hc)
end

/-! ### what is walked: n turns, its items -/
structure WI (wi : TI) (σ : L2.St) (H : Hp) (n : Nat) (Y : Nat → Hp → V → Hp → Prop) : Prop where
  go : ∀ H1, Ex H H1 → ∀ R : It → Hp → Prop, (∀ J G H2, Ex H1 H2 → Walk J n G Y → (∀ H3, Ex H2 H3 → G H3) → R J H2) → wi σ H1 R
section
variable {K : PySem.W.Frag} {σ : L2.St} {H H' : Hp} {te : TE} {ta : TA} {wi : TI} {n : Nat} {Y : Nat → Hp → V → Hp → Prop}
theorem WI.mono (e : Ex H H') (w : WI wi σ H n Y) : WI wi σ H' n Y := ⟨fun H1 e1 R k => w.go H1 (e.trans e1) R k⟩
theorem wi_list {a : Addr} {xs : List V} (h : Ev te σ H (.ref a)) (hx : SqL K H a xs) : WI (iList K te) σ H xs.length (YAt xs) :=
  ⟨fun H1 e R k => h H1 e _ fun H2 e2 => ⟨a, rfl, ⟨xs, ex_l (e.trans e2) hx⟩, k _ _ H2 e2 walk_list fun H3 e3 => ex_l ((e.trans e2).trans e3) hx⟩⟩
theorem wi_listN {xs : List V} (h : EvL te σ H xs) : WI (iList K te) σ H xs.length (YAt xs) :=
  ⟨fun H1 e R k => h H1 e _ fun p H2 _ e2 h2 => ⟨p, rfl, ⟨xs, sq_of h2⟩, k _ _ H2 e2 walk_list fun H3 e3 => sq_of (e3 _ _ h2)⟩⟩
theorem yat_str {l : GRow} {i : Nat} {v : V} {H H' : Hp} (h : H' = H ∧ ∃ c, (enc l).cps[i]? = some c ∧ v = .str ⟨#[c]⟩) : YAt (l.map fun n => V.str (sg n)) i H v H' := by
  obtain ⟨rfl, c, hc, rfl⟩ := h
  obtain ⟨m, hm, rfl⟩ := enc_get hc
  exact ⟨rfl, by rw [List.getElem?_map, hm]; rfl⟩
theorem wi_str {l : GRow} (h : Ev te σ H (.str (enc l))) : WI (iStr te) σ H l.length (YAt (l.map fun n => V.str (sg n))) :=
  ⟨fun H1 e R k => h H1 e _ fun H2 e2 => ⟨enc l, rfl, k _ (fun _ => True) H2 e2 (by
    have w := (walk_str (z := enc l)).mono (G' := fun _ => True) (Y' := YAt (l.map fun n => V.str (sg n))) (fun _ h => h) fun i H x H' _ _ y => yat_str y
    rw [enc_size] at w
    exact w) fun _ _ => True.intro⟩⟩
theorem wi_rng1 {m : Int} (h : EvA ta σ H [.int m]) (hm : -(2 ^ 62) ≤ m ∧ m < 2 ^ 62) : WI (iRng1 ta) σ H m.toNat (YFn fun i => .int (i : Int)) :=
  ⟨fun H1 e R k => h H1 e _ fun H2 e2 => ⟨m, rfl, hm.1, hm.2, k _ (fun _ => True) H2 e2 ((walk_range (lo := 0) (n := m.toNat)).mono (fun _ h => h) fun i H x H' _ _ y => ⟨y.1, y.2.trans (congrArg V.int (Int.zero_add _))⟩) fun _ _ => True.intro⟩⟩
theorem wi_zip {a b : Addr} {xs ys : List V} (h : EvA ta σ H [.ref a, .ref b]) (hx : SqL K H a xs) (hy : SqL K H b ys) (hn : n = min xs.length ys.length) : WI (iZip K ta) σ H n (YPair (fun i => xs[i]?) (fun i => ys[i]?)) :=
  ⟨fun H1 e R k => h H1 e _ fun H2 e2 => ⟨a, b, xs, ys, rfl, ex_l (e.trans e2) hx, ex_l (e.trans e2) hy, k _ _ H2 e2 (walk_zip hn) fun H3 e3 => ⟨ex_l ((e.trans e2).trans e3) hx, ex_l ((e.trans e2).trans e3) hy⟩⟩⟩
theorem wi_enum {a : Addr} {xs : List V} (h : EvA ta σ H [.ref a]) (hx : SqL K H a xs) : WI (iEnum K ta) σ H xs.length (YPair (fun i => some (.int (i : Nat))) (fun i => xs[i]?)) :=
  ⟨fun H1 e R k => h H1 e _ fun H2 e2 => ⟨a, xs, rfl, ex_l (e.trans e2) hx, k _ _ H2 e2 walk_enum fun H3 e3 => ex_l ((e.trans e2).trans e3) hx⟩⟩
/-- reversed(range(m)) -/
theorem wi_revR {tr : L2.St → Hp → (Int → Int → Hp → Prop) → Prop} {m : Nat} (h : ∀ H1, Ex H H1 → ∀ R : Int → Int → Hp → Prop, (∀ H2, Ex H1 H2 → R 0 (m : Int) H2) → tr σ H1 R) (hm : m < 1000000) :
    WI (iRevR tr) σ H m (YFn fun i => .int ((m : Int) - 1 - (i : Int))) :=
  ⟨fun H1 e R k => h H1 e _ fun H2 e2 => ⟨by omega, by omega, by omega, by omega, by
    have e0 : ((m : Int) - 0).toNat = m := by omega
    rw [e0]
    exact k _ (fun _ => True) H2 e2 ((walk_rangeC (lo := 0 + (m : Int) - 1) (c := -1) (n := m)).mono (fun _ h => h) fun i H x H' _ _ y => ⟨y.1, y.2.trans (congrArg V.int (by omega))⟩) fun _ _ => True.intro⟩⟩
end
/-! ### comprehensions -/
section
variable {K : PySem.W.Frag} {σ : L2.St} {H H' : Hp} {te : TE} {t : TT} {ta : TA} {wi : TI} {g : TG} {n j : Nat} {vs : List Nat} {Y : Nat → Hp → V → Hp → Prop}
/-- the list so far -/
def Lw (H : Hp) (v : Nat → V) (Dl : Addr) (i : Nat) (H' : Hp) : Prop := H Dl = none ∧ Ex H H' ∧ H' Dl = some (.lst ((List.range i).map v))
theorem range_snoc (v : Nat → V) (i : Nat) : (List.range (i + 1)).map v = (List.range i).map v ++ [v i] := by
  rw [List.range_succ, List.map_append]
  rfl
theorem tyes_go {P N : Hp → Prop} {σ : L2.St} {H : Hp} (h : P H) : tYes σ H fun b H3 => if b = true then P H3 else N H3 := by
  show if true = true then P H else N H
  rw [if_pos rfl]
  exact h
theorem el_any (w : WI wi σ H n Y) (v : Nat → V) (hn : n < sizeLine)
    (hs : ∀ i x H1 H2, i < n → Ex H H1 → Y i H1 x H2 → ∀ Q : L2.St → Hp → Prop, (∀ σ2 H3, wipe σ2 vs = wipe σ vs → Ex H1 H3 → Ev te σ2 H3 (v i) → Q σ2 H3) → g x (wipe σ vs) H2 Q) :
    EvL (tLc wi g tYes te vs) σ H ((List.range n).map v) := fun H0 e Q q => w.go H0 e _ fun J G H1 e1 wk hG Dl hD =>
  lc_it wk (Lw H1 v Dl) ⟨hD, Ex.new hD, upd_same⟩ (fun i H' _ p => hG H' p.2.1) (fun i x H2 H3 hi p y => hs i x H2 H3 hi ((e.trans e1).trans p.2.1) y _ fun σ2 H4 hw e4 hv => ⟨hw, by
    refine tyes_go ?_
    refine hv H4 (Ex.refl H4) _ fun H5 e5 => ⟨(List.range i).map v, e5 Dl _ (e4 Dl _ p.2.2), by rw [List.length_map, List.length_range]; omega, p.1, Ex.mut ((p.2.1.trans e4).trans e5) p.1, ?_⟩
    rw [range_snoc]
    exact upd_same⟩) fun H' p => q Dl H' (fresh_back e1 p.1) (e1.trans p.2.1) p.2.2
/-- .. with a test -/
theorem el_anyF (w : WI wi σ H n Y) (f : Nat → Bool) (v : Nat → V) (hn : n < sizeLine)
    (hs : ∀ i x H1 H2, i < n → Ex H H1 → Y i H1 x H2 → ∀ Q : L2.St → Hp → Prop, (∀ σ2 H3, wipe σ2 vs = wipe σ vs → Ex H1 H3 → EvT t σ2 H3 (f i) → (f i = true → Ev te σ2 H3 (v i)) → Q σ2 H3) → g x (wipe σ vs) H2 Q) :
    EvL (tLc wi g t te vs) σ H (given n f v) := fun H0 e Q q => w.go H0 e _ fun J G H1 e1 wk hG Dl hD =>
  lc_it wk (Cw H1 f v Dl) ⟨hD, Ex.new hD, upd_same⟩ (fun i H' _ p => hG H' p.2.1) (fun i x H2 H3 hi p y => hs i x H2 H3 hi ((e.trans e1).trans p.2.1) y _ fun σ2 H4 hw e4 ht hv => ⟨hw, by
    refine ht H4 (Ex.refl H4) _ fun H5 e5 => ?_
    cases hf : f i with
    | true =>
      rw [if_pos rfl]
      refine hv hf H5 e5 _ fun H6 e6 => ⟨given i f v, e6 Dl _ (e5 Dl _ (e4 Dl _ p.2.2)), by have := given_len i f v; omega, p.1, Ex.mut (((p.2.1.trans e4).trans e5).trans e6) p.1, ?_⟩
      rw [given_yes hf]
      exact upd_same
    | false =>
      rw [if_neg Bool.false_ne_true]
      refine ⟨p.1, (p.2.1.trans e4).trans e5, ?_⟩
      rw [given_no hf]
      exact e5 Dl _ (e4 Dl _ p.2.2)⟩) fun H' p => q Dl H' (fresh_back e1 p.1) (e1.trans p.2.1) p.2.2
/-- a list of new lists at p -/
def LL (H : Hp) (p : Addr) (as : List Addr) (xss : List (List V)) : Prop := H p = some (.lst (as.map V.ref)) ∧ as.length = xss.length ∧ ∀ (i : Nat) (a : Addr) (xs : List V), as[i]? = some a → xss[i]? = some xs → H a = some (.lst xs)
def EvLL (te : TE) (σ : L2.St) (H : Hp) (xss : List (List V)) : Prop := ∀ H1, Ex H H1 → ∀ Q : VK, (∀ p as H2, H1 p = none → (∀ a ∈ as, H1 a = none ∧ a ≠ p) → Ex H1 H2 → LL H2 p as xss → Q (.ref p) H2) → te σ H1 Q
theorem LL.mono {p : Addr} {as : List Addr} {xss : List (List V)} (e : Ex H H') (h : LL H p as xss) : LL H' p as xss := ⟨e _ _ h.1, h.2.1, fun i a xs h1 h2 => e _ _ (h.2.2 i a xs h1 h2)⟩
theorem LL.get {p : Addr} {as : List Addr} {xss : List (List V)} {i : Nat} {xs : List V} (h : LL H p as xss) (hx : xss[i]? = some xs) : ∃ a, (as.map V.ref)[i]? = some (V.ref a) ∧ H a = some (.lst xs) := by
  have hi : i < as.length := by rw [h.2.1]; exact (List.getElem?_eq_some_iff.mp hx).1
  exact ⟨as[i], by rw [List.getElem?_map, List.getElem?_eq_getElem hi]; rfl, h.2.2 i _ xs (List.getElem?_eq_getElem hi) hx⟩
def LLw (H : Hp) (v : Nat → List V) (Dl : Addr) (i : Nat) (H' : Hp) : Prop := H Dl = none ∧ Ex H H' ∧ ∃ as, (∀ a ∈ as, H a = none ∧ a ≠ Dl) ∧ LL H' Dl as ((List.range i).map v)
theorem ll_snoc {p a : Addr} {as : List Addr} {xss : List (List V)} {xs : List V} (h : LL H p as xss) (ha : H a = some (.lst xs)) (hp : p ≠ a) (hps : ∀ b ∈ as, b ≠ p) : LL (upd H p (.lst (as.map V.ref ++ [V.ref a]))) p (as ++ [a]) (xss ++ [xs]) := by
  refine ⟨by rw [upd_same, List.map_append]; rfl, by rw [List.length_append, List.length_append, h.2.1]; rfl, fun i b ys h1 h2 => ?_⟩
  by_cases hi : i < as.length
  · rw [List.getElem?_append_left hi] at h1
    rw [List.getElem?_append_left (by rw [← h.2.1]; exact hi)] at h2
    rw [upd_ne (hps b (List.mem_of_getElem? h1))]
    exact h.2.2 i b ys h1 h2
  · rw [List.getElem?_append_right (by omega)] at h1
    rw [List.getElem?_append_right (by rw [← h.2.1]; omega), ← h.2.1] at h2
    obtain ⟨k, hk⟩ : ∃ k, i - as.length = k := ⟨_, rfl⟩
    rw [hk] at h1 h2
    cases k with
    | zero =>
      cases h1
      cases h2
      rw [upd_ne hp.symm]
      exact ha
    | succ k => cases h1
theorem ell_any (w : WI wi σ H n Y) (v : Nat → List V) (hn : n < sizeLine)
    (hs : ∀ i x H1 H2, i < n → Ex H H1 → Y i H1 x H2 → ∀ Q : L2.St → Hp → Prop, (∀ σ2 H3, wipe σ2 vs = wipe σ vs → Ex H1 H3 → EvL te σ2 H3 (v i) → Q σ2 H3) → g x (wipe σ vs) H2 Q) :
    EvLL (tLc wi g tYes te vs) σ H ((List.range n).map v) := fun H0 e Q q => w.go H0 e _ fun J G H1 e1 wk hG Dl hD =>
  lc_it wk (LLw H1 v Dl) ⟨hD, Ex.new hD, [], fun a ha => absurd ha (by simp), upd_same, rfl, fun i a xs h1 => absurd h1 (by simp)⟩ (fun i H' _ p => hG H' p.2.1) (fun i x H2 H3 hi p y => hs i x H2 H3 hi ((e.trans e1).trans p.2.1) y _ fun σ2 H4 hw e4 hv => ⟨hw, by
    refine tyes_go ?_
    obtain ⟨p1, p2, as, p3, p4⟩ := p
    refine hv H4 (Ex.refl H4) _ fun b H5 hb e5 h5 => ⟨as.map V.ref, (p4.mono (e4.trans e5)).1, by rw [List.length_map, p4.2.1, List.length_map, List.length_range]; omega, p1, Ex.mut ((p2.trans e4).trans e5) p1, as ++ [b], ?_, ?_⟩
    · intro c hc
      rcases List.mem_append.mp hc with h | h
      · exact p3 c h
      · rw [List.mem_singleton.mp h]
        exact ⟨fresh_back (p2.trans e4) hb, Ne.symm (ne_of_none ((p4.mono e4).1) hb)⟩
    · rw [List.range_succ, List.map_append]
      have hDb : Dl ≠ b := ne_of_none ((p4.mono e4).1) hb
      refine ll_snoc (p4.mono (e4.trans e5)) h5 hDb fun c hc => ?_
      exact (p3 c hc).2⟩) fun H' p => by
    obtain ⟨p1, p2, as, p3, p4⟩ := p
    exact q Dl as H' (fresh_back e1 p1) (fun a ha => ⟨fresh_back e1 (p3 a ha).1, (p3 a ha).2⟩) (e1.trans p2) p4
end
end Gw
namespace Gw
open PySem PySem.Spec PyProof.Rows L2 Evl
/-! ### a def of the text -/
structure Df (K : PySem.W.Frag) (mg : Str → Option Value) (x : Str) (st : Stmt) : Prop where
  ex : ∃ f fd, FunD K x x (defArgs st) (defBody st) (defScope st) [] [] f fd ∧ mg x = some (.ref f)
section
variable {P : Program} {w : World} {K : PySem.W.Frag} {mg : Str → Option Value} {base : Heap} {x : Str} {st : Stmt} {N ps : List Str} {k : Nat} {sp : Sp}
theorem fn_ok {f : Addr} {fd : FuncData} (F : FunD K x x (defArgs st) (defBody st) (defScope st) [] [] f fd) (S : FnScope N ps (defScope st))
    (len : ∀ vs H Q E, sp vs H Q E → vs.length = ps.length)
    (hbody : ∀ (cdv : Value) (A : Around) (outer : List Env) (s : Shared) (H : Hp) (vs : List V) (Q : VK) (E : XK), Room k (A.deeper (envOfC x (defScope st) s.heap.objs.size f cdv)) → sp vs H Q E →
      ∃ t, PSs (cxOf CX0 P w K mg base N x (defScope st) f cdv A outer s H E).nox (defBody st) t ∧ t { nx := fun _ H' => Q .non H', rt := Q } (start N vs) H) : FnOk P w K mg base CX0 (k + 1) f fd ps sp := by
  refine F.ok S len (fun cdv A outer s H vs Q E hr h => ?_)
  obtain ⟨t, p, q⟩ := hbody cdv A outer s H vs Q E hr h
  exact ⟨t, p.nox, q⟩
theorem cal_of (D : Df K mg x st) (S : FnScope N ps (defScope st))
    (hb : ∀ (kV doc pm : Value) (an : Option Addr) (cdv ct : Value) (us : List Value), us.length = ps.length → bindArgs (PySem.W.fnOf x x (defArgs st) (defBody st) (defScope st) .none kV doc pm an cdv ct) ⟨us, []⟩ = pure (ps.zip us))
    (len : ∀ vs H Q E, sp vs H Q E → vs.length = ps.length)
    (hbody : ∀ (f : Addr) (cdv : Value) (A : Around) (outer : List Env) (s : Shared) (H : Hp) (vs : List V) (Q : VK) (E : XK), Room k (A.deeper (envOfC x (defScope st) s.heap.objs.size f cdv)) → sp vs H Q E →
      ∃ t, PSs (cxOf CX0 P w K mg base N x (defScope st) f cdv A outer s H E).nox (defBody st) t ∧ t { nx := fun _ H' => Q .non H', rt := Q } (start N vs) H) : C8.Cal P w K mg base (k + 1) x sp [] := by
  obtain ⟨f, fd, F, hm⟩ := D.ex
  refine ⟨f, fd, ps, [], F.ok S len (fun cdv A outer s H vs Q E hr h => ?_), hm, F.kp, F.bindsN hb, .nil⟩
  obtain ⟨t, p, q⟩ := hbody f cdv A outer s H vs Q E hr h
  exact ⟨t, p.nox, q⟩
end
/-- a value handed back | a new list -/
def spV (pre : List V → Hp → V → Prop) : Sp := fun vs H Q _ => ∃ v, pre vs H v ∧ RetV v H Q
def spL (pre : List V → Hp → List V → Prop) : Sp := fun vs H Q _ => ∃ xs, pre vs H xs ∧ RetL xs H Q
def RetLL (xss : List (List V)) (H : Hp) (Q : VK) : Prop := ∀ p as H2, H p = none → (∀ a ∈ as, H a = none ∧ a ≠ p) → Ex H H2 → LL H2 p as xss → Q (.ref p) H2
def spLL (pre : List V → Hp → List (List V) → Prop) : Sp := fun vs H Q _ => ∃ xss, pre vs H xss ∧ RetLL xss H Q
section
variable {σ : L2.St} {H : Hp} {ta : TA} {E : XK} {vs : List V}
theorem ev_spV {pre : List V → Hp → V → Prop} {v : V} (h : EvA ta σ H vs) (hp : ∀ H1, Ex H H1 → pre vs H1 v) : Ev (tCall (spV pre) [] E ta) σ H v := fun H1 e Q q =>
  h H1 e _ fun H2 e2 => by
    rw [List.append_nil]
    exact ⟨v, hp H2 (e.trans e2), fun H3 e3 => q H3 (e2.trans e3)⟩
theorem el_spL {pre : List V → Hp → List V → Prop} {xs : List V} (h : EvA ta σ H vs) (hp : ∀ H1, Ex H H1 → pre vs H1 xs) : EvL (tCall (spL pre) [] E ta) σ H xs := fun H1 e Q q =>
  h H1 e _ fun H2 e2 => by
    rw [List.append_nil]
    exact ⟨xs, hp H2 (e.trans e2), fun p H3 h0 e3 h3 => q p H3 (fresh_back e2 h0) (e2.trans e3) h3⟩
theorem ell_spLL {pre : List V → Hp → List (List V) → Prop} {xss : List (List V)} (h : EvA ta σ H vs) (hp : ∀ H1, Ex H H1 → pre vs H1 xss) : EvLL (tCall (spLL pre) [] E ta) σ H xss := fun H1 e Q q =>
  h H1 e _ fun H2 e2 => by
    rw [List.append_nil]
    exact ⟨xss, hp H2 (e.trans e2), fun p as H3 h0 ha e3 h3 => q p as H3 (fresh_back e2 h0) (fun a h => ⟨fresh_back e2 (ha a h).1, (ha a h).2⟩) (e2.trans e3) h3⟩
end
/-- rules as a list of texts at a -/
def RL (R : GRules) : List V := R.map fun r => V.str (enc r)
theorem RL_len (R : GRules) : (RL R).length = R.length := List.length_map _
theorem RL_get {R : GRules} {i : Nat} {x : V} (h : (RL R)[i]? = some x) : ∃ r, R[i]? = some r ∧ x = .str (enc r) := by
  unfold RL at h
  rw [List.getElem?_map] at h
  cases q : R[i]? with
  | none => rw [q] at h; cases h
  | some r => rw [q] at h; exact ⟨r, rfl, (Option.some.inj h).symm⟩
theorem RL_at {R : GRules} {n : Nat} (h : n < R.length) : (RL R)[n]? = some (.str (enc (ruleOf R n))) := by
  unfold RL
  rw [List.getElem?_map, rule_get h]
  rfl
end Gw
namespace Gw
open PySem PySem.Spec PyProof.Rows L2 Evl
/-! ### readings by name -/
theorem pe_alph {X : Cx} {j : Nat} {pos : Pos} : PE X (.Constant (.str (Str.ofString "abcdefghijklmnopqrstuvwxyz")) j pos) (tC (.str ALPH)) := by
  rw [← alph_eq]
  exact pe_str
theorem pe_empty {X : Cx} {j : Nat} {pos : Pos} : PE X (.Constant (.str (Str.ofString "")) j pos) (tC (.str (enc []))) := by
  rw [enc_nil]
  exact pe_str
abbrev tAl : TE := tC (.str ALPH)
/-- ALPH.index(e) -/
abbrev tIdx (K : PySem.W.Frag) (te : TE) : TE := tBM K "str" rSIdx tAl (tCons te tNil)
section
variable {K : PySem.W.Frag} {σ : L2.St} {H : Hp} {te : TE} {i n : Nat} {vs : List Nat}
theorem ev_ix {a : Addr} {xs : List V} {ta : TE} {v : V} (h : Ev ta σ H (.ref a)) (hs : SqL K H a xs) (hi : Ev te σ H (.int (n : Int))) (hn : xs[n]? = some v) : Ev (tOp (rIxL K) ta te) σ H v := ev_op h hi (rv_ixL hs (atI_nat hn))
theorem tidx (h : σ[i]? = some (some (.str (sg n)))) (hn : n < 26) : Ev (tIdx K (tVar i)) σ H (.int (n : Int)) := ev_idx ev_c (ev_var h) hn
end
/-- a comprehension over a text, its target a name -/
theorem el_str {K : PySem.W.Frag} {σ : L2.St} {H : Hp} {ti te : TE} {j : Nat} {vs : List Nat} {l : GRow} (h : Ev ti σ H (.str (enc l))) (v : Nat → V) (hl : l.length < sizeLine)
    (hw : ∀ x, wipe ((wipe σ vs).set j (some x)) vs = wipe σ vs) (hs : ∀ n ∈ l, ∀ H1, Ex H H1 → Ev te ((wipe σ vs).set j (some (.str (sg n)))) H1 (v n)) : EvL (tLc (iStr ti) (gName j) tYes te vs) σ H (l.map v) := by
  have e : l.map v = (List.range l.length).map fun i => v (l.getD i 0) := by
    apply List.ext_getElem?
    intro i
    rw [List.getElem?_map, List.getElem?_map]
    by_cases hi : i < l.length
    · rw [List.getElem?_range hi, List.getElem?_eq_getElem hi]
      simp [hi]
    · rw [List.getElem?_eq_none (by omega), List.getElem?_eq_none (by simp; omega)]
      rfl
  rw [e]
  refine el_any (wi_str h) _ hl fun i x H1 H2 hi e1 y Q k => ?_
  obtain ⟨rfl, hx⟩ := y
  rw [List.getElem?_map, List.getElem?_eq_getElem hi] at hx
  have hx : V.str (sg l[i]) = x := Option.some.inj hx
  subst hx
  refine k _ _ (hw _) (Ex.refl _) ?_
  have e2 : l.getD i 0 = l[i] := by simp [hi]
  rw [e2]
  exact hs l[i] (List.getElem_mem hi) _ e1
/-- .. over a list -/
theorem el_list {K : PySem.W.Frag} {σ : L2.St} {H : Hp} {ti te : TE} {j : Nat} {vs : List Nat} {α : Type} {l : List α} {u : α → V} (h : WI (iList K ti) σ H (l.map u).length (YAt (l.map u))) (v : α → V) (hl : l.length < sizeLine)
    (hw : ∀ x, wipe ((wipe σ vs).set j (some x)) vs = wipe σ vs) (hs : ∀ a ∈ l, ∀ H1, Ex H H1 → Ev te ((wipe σ vs).set j (some (u a))) H1 (v a)) : EvL (tLc (iList K ti) (gName j) tYes te vs) σ H (l.map v) := by
  have e : l.map v = (List.range (l.map u).length).map fun i => ((l[i]?).map v).getD .non := by
    apply List.ext_getElem?
    intro i
    rw [List.getElem?_map, List.getElem?_map]
    by_cases hi : i < l.length
    · rw [List.getElem?_range (by rw [List.length_map]; exact hi), List.getElem?_eq_getElem hi]
      simp [hi]
    · rw [List.getElem?_eq_none (by omega), List.getElem?_eq_none (by simp; omega)]
      rfl
  rw [e]
  refine el_any h _ (by rw [List.length_map]; exact hl) fun i x H1 H2 hi e1 y Q k => ?_
  rw [List.length_map] at hi
  obtain ⟨rfl, hx⟩ := y
  rw [List.getElem?_map, List.getElem?_eq_getElem hi] at hx
  have hx : u l[i] = x := Option.some.inj hx
  subst hx
  refine k _ _ (hw _) (Ex.refl _) ?_
  have e2 : ((l[i]?).map v).getD .non = v l[i] := by simp [hi]
  rw [e2]
  exact hs l[i] (List.getElem_mem hi) _ e1
/-- .. each item a new list -/
theorem ell_list {K : PySem.W.Frag} {σ : L2.St} {H : Hp} {ti te : TE} {j : Nat} {vs : List Nat} {α : Type} {l : List α} {u : α → V} (h : WI (iList K ti) σ H (l.map u).length (YAt (l.map u))) (v : α → List V) (hl : l.length < sizeLine)
    (hw : ∀ x, wipe ((wipe σ vs).set j (some x)) vs = wipe σ vs) (hs : ∀ a ∈ l, ∀ H1, Ex H H1 → EvL te ((wipe σ vs).set j (some (u a))) H1 (v a)) : EvLL (tLc (iList K ti) (gName j) tYes te vs) σ H (l.map v) := by
  have e : l.map v = (List.range (l.map u).length).map fun i => ((l[i]?).map v).getD [] := by
    apply List.ext_getElem?
    intro i
    rw [List.getElem?_map, List.getElem?_map]
    by_cases hi : i < l.length
    · rw [List.getElem?_range (by rw [List.length_map]; exact hi), List.getElem?_eq_getElem hi]
      simp [hi]
    · rw [List.getElem?_eq_none (by omega), List.getElem?_eq_none (by simp; omega)]
      rfl
  rw [e]
  refine ell_any h _ (by rw [List.length_map]; exact hl) fun i x H1 H2 hi e1 y Q k => ?_
  rw [List.length_map] at hi
  obtain ⟨rfl, hx⟩ := y
  rw [List.getElem?_map, List.getElem?_eq_getElem hi] at hx
  have hx : u l[i] = x := Option.some.inj hx
  subst hx
  refine k _ _ (hw _) (Ex.refl _) ?_
  have e2 : ((l[i]?).map v).getD [] = v l[i] := by simp [hi]
  rw [e2]
  exact hs l[i] (List.getElem_mem hi) _ e1
/-- .. over range(n) -/
theorem el_rng {σ : L2.St} {H : Hp} {ta : TA} {te : TE} {j : Nat} {vs : List Nat} {m : Nat} (h : EvA ta σ H [.int (m : Int)]) (v : Nat → V) (hm : m < sizeLine)
    (hw : ∀ x, wipe ((wipe σ vs).set j (some x)) vs = wipe σ vs) (hs : ∀ i, i < m → ∀ H1, Ex H H1 → Ev te ((wipe σ vs).set j (some (.int (i : Int)))) H1 (v i)) : EvL (tLc (iRng1 ta) (gName j) tYes te vs) σ H ((List.range m).map v) := by
  have hz : m < 2 ^ 62 := Nat.lt_trans hm (by decide)
  have w := wi_rng1 h ⟨by omega, by omega⟩
  rw [Int.toNat_natCast] at w
  refine el_any w v hm fun i x H1 H2 hi e1 y Q k => ?_
  obtain ⟨rfl, rfl⟩ := y
  exact k _ _ (hw _) (Ex.refl _) (hs i hi _ e1)
end Gw

namespace Gw
open PySem PySem.Spec PyProof.Rows L2 Evl
/-! ### short words for often met calls -/
section
variable {X : Cx} {o e e2 : Expr} {to te te2 : TE} {t : TA} {es : List Expr} {p pos apos cpos : Pos}
theorem pe_idx (ho : PE X o tAl) (he : PE X e te)
    (hbase : attributeBase o "index" X.env (eval o X.env) = eval o X.env := by rfl)
    (hfew : ((backTo cpos (starEach [e] X.env)).all (fun x => !x.1) && (backToKw cpos (keywordEach [] X.env)).all (fun x => x.1.isSome)
      && decide ([e].length + ([] : List Keyword).length + (if ([] : List Keyword).isEmpty then 0 else 1) < 30)) = true := by rfl)
    (hline : (apos.endLine == cpos.line) = true := by rfl) (hs : starEach [e] X.env = (false, eval e X.env) :: starEach [] X.env := by rfl) (hplain : (backTo cpos (starEach [] X.env)).any (·.1) = false := by rfl) :
    PE X (.Call (.Attribute o "index" apos) [e] [] cpos) (tIdx X.K te) :=
  pe_bm PySem.F.plainAttrs_str PySem.F.slot_str_index PySem.F.type_str_index mt_sindex ho (pa_cons he pa_nil hs) hbase hfew hline hs hplain
abbrev tCnt (K : PySem.W.Frag) (to te : TE) : TE := tBM K "str" rSCount to (tCons te tNil)
theorem pe_count (ho : PE X o to) (he : PE X e te)
    (hbase : attributeBase o "count" X.env (eval o X.env) = eval o X.env := by rfl)
    (hfew : ((backTo cpos (starEach [e] X.env)).all (fun x => !x.1) && (backToKw cpos (keywordEach [] X.env)).all (fun x => x.1.isSome)
      && decide ([e].length + ([] : List Keyword).length + (if ([] : List Keyword).isEmpty then 0 else 1) < 30)) = true := by rfl)
    (hline : (apos.endLine == cpos.line) = true := by rfl) (hs : starEach [e] X.env = (false, eval e X.env) :: starEach [] X.env := by rfl) (hplain : (backTo cpos (starEach [] X.env)).any (·.1) = false := by rfl) :
    PE X (.Call (.Attribute o "count" apos) [e] [] cpos) (tCnt X.K to te) :=
  pe_bm PySem.F.plainAttrs_str PySem.F.slot_str_count PySem.F.type_str_count mt_count ho (pa_cons he pa_nil hs) hbase hfew hline hs hplain
abbrev tStrip (K : PySem.W.Frag) (to te : TE) : TE := tBM K "str" rSStrip to (tCons te tNil)
theorem pe_strip1 (ho : PE X o to) (he : PE X e te)
    (hbase : attributeBase o "strip" X.env (eval o X.env) = eval o X.env := by rfl)
    (hfew : ((backTo cpos (starEach [e] X.env)).all (fun x => !x.1) && (backToKw cpos (keywordEach [] X.env)).all (fun x => x.1.isSome)
      && decide ([e].length + ([] : List Keyword).length + (if ([] : List Keyword).isEmpty then 0 else 1) < 30)) = true := by rfl)
    (hline : (apos.endLine == cpos.line) = true := by rfl) (hs : starEach [e] X.env = (false, eval e X.env) :: starEach [] X.env := by rfl) (hplain : (backTo cpos (starEach [] X.env)).any (·.1) = false := by rfl) :
    PE X (.Call (.Attribute o "strip" apos) [e] [] cpos) (tStrip X.K to te) :=
  pe_bm PySem.F.plainAttrs_str PySem.F.slot_str_strip PySem.F.type_str_strip mt_stripChars ho (pa_cons he pa_nil hs) hbase hfew hline hs hplain
abbrev tApp (K : PySem.W.Frag) (to te : TE) : TE := tBM K "list" rAppend to (tCons te tNil)
theorem pe_app (ho : PE X o to) (he : PE X e te)
    (hbase : attributeBase o "append" X.env (eval o X.env) = eval o X.env := by rfl)
    (hfew : ((backTo cpos (starEach [e] X.env)).all (fun x => !x.1) && (backToKw cpos (keywordEach [] X.env)).all (fun x => x.1.isSome)
      && decide ([e].length + ([] : List Keyword).length + (if ([] : List Keyword).isEmpty then 0 else 1) < 30)) = true := by rfl)
    (hline : (apos.endLine == cpos.line) = true := by rfl) (hs : starEach [e] X.env = (false, eval e X.env) :: starEach [] X.env := by rfl) (hplain : (backTo cpos (starEach [] X.env)).any (·.1) = false := by rfl) :
    PE X (.Call (.Attribute o "append" apos) [e] [] cpos) (tApp X.K to te) :=
  pe_bm PySem.F.plainAttrs_list PySem.F.slot_list_append PySem.F.type_list_append mt_append ho (pa_cons he pa_nil hs) hbase hfew hline hs hplain
abbrev tLen (K : PySem.W.Frag) (te : TE) : TE := tCB (rLenS K) (tCons te tNil)
theorem pe_len (z : X.mg "len" = none) (he : PE X e te) (hg : Gl X "len" := by exact rfl)
    (hs : starEach [e] X.env = (false, eval e X.env) :: starEach [] X.env := by rfl) (hpl : (backTo pos (starEach [] X.env)).any (·.1) = false := by rfl) : PE X (.Call (.Name "len" p) [e] [] pos) (tLen X.K te) :=
  pe_callB call_len_seq hg z PySem.boot_len (pa_cons he pa_nil hs) (by decide) (by decide) hs hpl
abbrev tLenT (te : TE) : TE := tCB rSLen (tCons te tNil)
theorem pe_lenT (z : X.mg "len" = none) (he : PE X e te) (hg : Gl X "len" := by exact rfl)
    (hs : starEach [e] X.env = (false, eval e X.env) :: starEach [] X.env := by rfl) (hpl : (backTo pos (starEach [] X.env)).any (·.1) = false := by rfl) : PE X (.Call (.Name "len" p) [e] [] pos) (tLenT te) :=
  pe_callB call_len_str hg z PySem.boot_len (pa_cons he pa_nil hs) (by decide) (by decide) hs hpl
abbrev tSum (K : PySem.W.Frag) (te : TE) : TE := tCB (rSum K) (tCons te tNil)
theorem pe_sum (hc : X.calm = true) (z : X.mg "sum" = none) (he : PE X e te) (hg : Gl X "sum" := by exact rfl)
    (hs : starEach [e] X.env = (false, eval e X.env) :: starEach [] X.env := by rfl) (hpl : (backTo pos (starEach [] X.env)).any (·.1) = false := by rfl) : PE X (.Call (.Name "sum" p) [e] [] pos) (tSum X.K te) :=
  pe_callB (cr_sum hc) hg z boot_sum (pa_cons he pa_nil hs) (by decide) (by decide) hs hpl
abbrev tAll (K : PySem.W.Frag) (te : TE) : TE := tCB (rAll K) (tCons te tNil)
theorem pe_all (hc : X.calm = true) (z : X.mg "all" = none) (he : PE X e te) (hg : Gl X "all" := by exact rfl)
    (hs : starEach [e] X.env = (false, eval e X.env) :: starEach [] X.env := by rfl) (hpl : (backTo pos (starEach [] X.env)).any (·.1) = false := by rfl) : PE X (.Call (.Name "all" p) [e] [] pos) (tAll X.K te) :=
  pe_callB (cr_all hc) hg z boot_all (pa_cons he pa_nil hs) (by decide) (by decide) hs hpl
abbrev tAny (K : PySem.W.Frag) (te : TE) : TE := tCB (rAny K) (tCons te tNil)
theorem pe_any (hc : X.calm = true) (z : X.mg "any" = none) (he : PE X e te) (hg : Gl X "any" := by exact rfl)
    (hs : starEach [e] X.env = (false, eval e X.env) :: starEach [] X.env := by rfl) (hpl : (backTo pos (starEach [] X.env)).any (·.1) = false := by rfl) : PE X (.Call (.Name "any" p) [e] [] pos) (tAny X.K te) :=
  pe_callB (cr_any hc) hg z boot_any (pa_cons he pa_nil hs) (by decide) (by decide) hs hpl
abbrev tIsi (K : PySem.W.Frag) (te : TE) (T : String) : TE := tCB (rIsi K) (tCons te (tCons (tC (.ty T)) tNil))
theorem pe_isi {x : Str} {T : String} (z : X.mg "isinstance" = none) (zt : X.mg x = none) (hb : bootBuiltins x = some (.type T)) (he : PE X e te) (hg : Gl X "isinstance" := by exact rfl) (hgt : Gl X x := by exact rfl)
    (hn : x ≠ "__name__" := by decide) (hd : (x == ("__debug__" : Str)) = false := by decide)
    (hs : starEach [e, .Name x p] X.env = (false, eval e X.env) :: starEach [.Name x p] X.env := by rfl) (hs2 : starEach [.Name x p] X.env = (false, eval (.Name x p) X.env) :: starEach [] X.env := by rfl)
    (hpl : (backTo pos (starEach [.Name x p] X.env)).any (·.1) = false := by rfl) : PE X (.Call (.Name "isinstance" apos) [e, .Name x p] [] pos) (tIsi X.K te T) :=
  pe_callB call_isi hg z boot_isinstance (pa_cons he (pa_cons (pe_bltn (v := .ty T) hgt zt hb rfl hn hd) pa_nil hs2) hs) (by decide) (by decide) hs hpl
end
section
variable {K : PySem.W.Frag} {σ : L2.St} {H : Hp} {te : TE} {x : V}
theorem ev_isT {T S : String} {b : Bool} (h : Ev te σ H x) (ht : TyX K H x (.type S)) (hk : kitB S T = some b) : Ev (tIsi K te T) σ H (.bl b) := ev_isi h ht (kit_ty hk)
theorem isi_ii : kitB "int" "int" = some true := by decide +kernel
theorem isi_ib : kitB "int" "bool" = some false := by decide +kernel
theorem isi_bb : kitB "bool" "bool" = some true := by decide +kernel
theorem isi_ss : kitB "str" "str" = some true := by decide +kernel
theorem isi_ll : kitB "list" "list" = some true := by decide +kernel
end
theorem ell_one {σ : L2.St} {H : Hp} {te : TE} {xs : List V} (h : EvL te σ H xs) : EvLL (tLst (tCons te tNil)) σ H [xs] := fun H1 e Q q =>
  h H1 e _ fun a H2 ha e2 h2 => ⟨(by show 1 ≤ sizeLine; decide), fun p hp => q p [a] _ (fresh_back e2 hp) (fun b hb => by rw [List.mem_singleton.mp hb]; exact ⟨ha, ne_of_none h2 hp⟩) (e2.trans (Ex.new hp)) ⟨upd_same, rfl, fun i b ys h1 h3 => by
    cases i with
    | zero =>
      cases h1
      cases h3
      rw [upd_ne (ne_of_none h2 hp)]
      exact h2
    | succ i => cases h1⟩⟩
section
variable {σ : L2.St} {H : Hp} {te : TE} {D : Ends} {tz tu : TS} {t : TT}
theorem s_asgLL {i : Nat} {xss : List (List V)} (h : EvLL te σ H xss) (k : ∀ p as H1, H p = none → (∀ a ∈ as, H a = none ∧ a ≠ p) → Ex H H1 → LL H1 p as xss → D.nx (σ.set i (some (.ref p))) H1) : tAsg te (gName i) D σ H := h H (Ex.refl H) _ k
theorem q_asgLL {i : Nat} {xss : List (List V)} (h : EvLL te σ H xss) (k : ∀ p as H1, H p = none → (∀ a ∈ as, H a = none ∧ a ≠ p) → Ex H H1 → LL H1 p as xss → tz D (σ.set i (some (.ref p))) H1) : tSeq (tAsg te (gName i)) tz D σ H := s_asgLL (D := { D with nx := tz D }) h k
/-- an if that is never taken: a raise behind it -/
theorem q_no (h : EvT t σ H false) (k : ∀ H1, Ex H H1 → tz D σ H1) : tSeq (tIfS t tNever tNext) tz D σ H := q_when h (fun b => Bool.noConfusion b) fun _ H1 e => k H1 e
theorem s_no (h : EvT t σ H false) (k : ∀ H1, Ex H H1 → D.nx σ H1) : tIfS t tNever tNext D σ H := s_when h (fun b => Bool.noConfusion b) fun _ H1 e => k H1 e
theorem s_retLL {xss : List (List V)} (h : EvLL te σ H xss) (k : ∀ p as H1, H p = none → (∀ a ∈ as, H a = none ∧ a ≠ p) → Ex H H1 → LL H1 p as xss → D.rt (.ref p) H1) : tRet te D σ H := h H (Ex.refl H) _ k
end
end Gw

namespace Gw
open PySem PySem.Spec PyProof.Rows L2 Evl
/-! ### a text again and again -/
theorem mul_enc (l : GRow) (k : Int) : Txt.mul (enc l) k = enc (List.replicate k.toNat l).flatten := by
  unfold Txt.mul
  by_cases h1 : k < 1
  · rw [if_pos h1]
    have : k.toNat = 0 := by omega
    rw [this]
    show Str.empty = enc []
    decide +kernel
  · rw [if_neg h1]
    by_cases h2 : (k == 1 || (enc l).length == 0) = true
    · rw [if_pos h2]
      rw [Bool.or_eq_true] at h2
      rcases h2 with h2 | h2
      · have : k = 1 := by simpa using h2
        subst this
        show enc l = enc (List.replicate 1 l).flatten
        simp
      · have : l.length = 0 := by rw [enc_len] at h2; simpa using h2
        have : l = [] := List.eq_nil_of_length_eq_zero this
        subst this
        congr 1
        have z : ∀ n, (List.replicate n ([] : GRow)).flatten = [] := by
          intro n
          induction n with
          | zero => rfl
          | succ n ih => rw [List.replicate_succ, List.flatten_cons, ih]; rfl
        rw [z]
    · rw [if_neg h2]
      apply TL.ext_tl
      have z : ∀ (n : Nat) (acc : Array Nat), ((List.replicate n (enc l).cps).foldl (· ++ ·) acc).toList = acc.toList ++ cd (List.replicate n l).flatten := by
        intro n
        induction n with
        | zero => intro acc; simp [cd]
        | succ n ih =>
          intro acc
          rw [List.replicate_succ, List.foldl_cons, ih, List.replicate_succ, List.flatten_cons, Array.toList_append]
          show acc.toList ++ cd l ++ _ = acc.toList ++ cd (l ++ _)
          unfold cd
          rw [List.map_append, List.append_assoc]
      show ((List.replicate k.toNat (enc l).cps).foldl (· ++ ·) #[]).toList = cd _
      rw [z]
      rfl
def rRepS : R2 := fun x y H Q => ∃ z k, x = .str z ∧ y = .int k ∧ MulOk z k ∧ Q (.str (Txt.mul z k)) H
theorem op_repS {X : Cx} : OpR X (binaryOp .Mult) rRepS := by
  intro pins s σ H x y v u Q I rx ry h
  obtain ⟨z, k, rfl, rfl, hok, q⟩ := h
  obtain ⟨t, rfl⟩ := rx
  obtain ⟨t2, rfl⟩ := ry
  exact SB.mul hok fun t' tk => ⟨.str (Txt.mul z k), H, I.tok tk, ⟨t', rfl⟩, q⟩
theorem mulOk_enc {l : GRow} {k : Int} (hk : k ≤ 100000) (h0 : 0 ≤ k) (hl : l.length ≤ 100000) (hz : l.length * k.toNat ≤ 16000000) : MulOk (enc l) k := by
  refine ⟨by simp; omega, fun h1 _ => ?_, fun h1 _ => ?_⟩
  · rw [enc_len]
    intro h
    have hk1 : 0 < k := by omega
    have h3 : (l.length : Int) * k = ((l.length * k.toNat : Nat) : Int) := by rw [Int.natCast_mul, Int.toNat_of_nonneg h0]
    have h4 : (l.length : Int) ≤ (2 ^ 63 - 1) / k := Int.le_ediv_of_mul_le hk1 (by rw [h3]; omega)
    omega
  · rw [enc_len]
    have : ¬ l.length * k.toNat > sizeLine := by
      rw [sizeLine_eq]
      omega
    simpa [Builtin.Str.tooLong] using this
theorem ev_repS {σ : L2.St} {H : Hp} {ta tb : TE} {l : GRow} {k : Int} (ha : Ev ta σ H (.str (enc l))) (hb : Ev tb σ H (.int k)) (h : MulOk (enc l) k) : Ev (tOp rRepS ta tb) σ H (.str (enc (List.replicate k.toNat l).flatten)) :=
  ev_op ha hb fun H1 _ Q q => ⟨enc l, k, rfl, rfl, h, by rw [mul_enc]; exact q H1 (Ex.refl H1)⟩
/-! ### small readings -/
def rCatS : R2 := fun x y H Q => ∃ i j, x = .str i ∧ y = .str j ∧ i.length + j.length ≤ sizeLine ∧ Q (.str (i ++ j)) H
section
variable {K : PySem.W.Frag} {σ : L2.St} {H : Hp} {ta tb te : TE} {l m : GRow} {i j : Int} {n : Nat}
theorem ev_addI (ha : Ev ta σ H (.int i)) (hb : Ev tb σ H (.int j)) : Ev (tOp (rI0 fun i j => .int (i + j)) ta tb) σ H (.int (i + j)) := ev_op ha hb rv_I0
theorem ev_subI (ha : Ev ta σ H (.int i)) (hb : Ev tb σ H (.int j)) : Ev (tOp (rI0 fun i j => .int (i - j)) ta tb) σ H (.int (i - j)) := ev_op ha hb rv_I0
theorem ev_mod (ha : Ev ta σ H (.int i)) (hb : Ev tb σ H (.int j)) (h : 0 < j) : Ev (tOp (rI (fun _ j => 0 < j) fun i j => .int (i % j)) ta tb) σ H (.int (i % j)) := ev_op ha hb (rv_I h)
theorem ev_div (ha : Ev ta σ H (.int i)) (hb : Ev tb σ H (.int j)) (h : 0 < j) (h2 : j < 1073741824) : Ev (tOp (rI CDiv fun i j => .int (i / j)) ta tb) σ H (.int (i / j)) := ev_op ha hb (rv_I ⟨h, h2⟩)
/-- ALPH[i] -/
theorem ev_alphAt (ha : Ev ta σ H (.str ALPH)) (hb : Ev tb σ H (.int i)) (hi : i = (n : Int)) (hn : n < 26) : Ev (tOp rIxS ta tb) σ H (.str (sg n)) := ev_op ha hb (rv_ixS (by rw [alph_len]; decide) (alph_at hi hn))
theorem ev_addS (ha : Ev ta σ H (.str (enc l))) (hb : Ev tb σ H (.str (enc m))) (h : l.length + m.length ≤ sizeLine) : Ev (tOp rCatS ta tb) σ H (.str (enc (l ++ m))) :=
  ev_op ha hb fun H1 _ Q q => ⟨enc l, enc m, rfl, rfl, by rw [enc_len, enc_len]; exact h, by rw [enc_append]; exact q H1 (Ex.refl H1)⟩
theorem ev_ixU {xs : List V} {v : V} (ha : EvU ta σ H xs) (hb : Ev tb σ H (.int i)) (h : atI xs i = some v) : Ev (tOp (rIxT K) ta tb) σ H v := fun H1 e Q q =>
  ha H1 e _ fun p H2 _ e2 h2 => hb H2 (e.trans e2) _ fun H3 e3 => ⟨p, xs, i, v, rfl, rfl, st_of (e3 _ _ h2), h, q H3 (e2.trans e3)⟩
theorem ev_ixN {xs : List V} {v : V} (ha : EvL ta σ H xs) (hb : Ev tb σ H (.int (n : Int))) (h : xs[n]? = some v) : Ev (tOp (rIxL K) ta tb) σ H v := fun H1 e Q q =>
  ha H1 e _ fun p H2 _ e2 h2 => hb H2 (e.trans e2) _ fun H3 e3 => ⟨p, xs, (n : Int), v, rfl, rfl, sq_of (e3 _ _ h2), atI_nat h, q H3 (e2.trans e3)⟩
end
/-- xs[:n] of a list -/
theorem el_take {K : PySem.W.Frag} {σ : L2.St} {H : Hp} {te : TE} {th : TO} {a : Addr} {xs : List V} {n : Nat} (h : Ev te σ H (.ref a)) (h2 : EvO th σ H (some (n : Int))) (hs : SqL K H a xs) : EvL (tSl (rSlL K) te tNoPart th) σ H (xs.take n) := by
  have e : cutV xs none (some (n : Int)) = xs.take n := by
    unfold cutV
    rw [HT.sIx_nat, HT.sIx_none, Nat.sub_zero, List.drop_zero]
    by_cases h : n ≤ xs.length
    · rw [Nat.min_eq_left h]
    · rw [Nat.min_eq_right (by omega), List.take_of_length_le (Nat.le_refl _), List.take_of_length_le (by omega)]
  rw [← e]
  exact el_sl h eo_none h2 hs
end Gw

namespace Gw
open PySem PySem.Spec PyProof.Rows L2 Evl
/-! ### lists compared -/
def dInts (ns : List Int) : PyData := .list (ns.map PyData.int)
def dRules (R : GRules) : PyData := .list (R.map fun r => PyData.str (enc r))
section
variable {K : PySem.W.Frag} {σ : L2.St} {H H' : Hp} {ta tb te : TE} {a b : Addr} {x y : V}
theorem dpAll_ints : ∀ ns : List Int, DpAll K H (ns.map V.int) (ns.map PyData.int)
  | [] => .nil
  | i :: ns => .cons (.int i) (dpAll_ints ns)
theorem dpAll_rules : ∀ R : GRules, DpAll K H (RL R) (R.map fun r => PyData.str (enc r))
  | [] => .nil
  | r :: R => .cons (.str _) (dpAll_rules R)
theorem dp_ints {ns : List Int} (h : SqL K H a (ns.map V.int)) : Dp K H (.ref a) (dInts ns) := .lst h (dpAll_ints ns)
theorem dp_rules {R : GRules} (h : SqL K H a (RL R)) : Dp K H (.ref a) (dRules R) := .lst h (dpAll_rules R)
theorem dp_two {p : Addr} {d e : PyData} (h : SqL K H p [x, y]) (h1 : Dp K H x d) (h2 : Dp K H y e) : Dp K H (.ref p) (.list [d, e]) := .lst h (.cons h1 (.cons h2 .nil))
mutual
theorem dp_ex (e : Ex H H') : ∀ (d : PyData) (x : V), Dp K H x d → Dp K H' x d
  | .none, _, h => by cases h; exact .non
  | .bool b, _, h => by cases h; exact .bl b
  | .int i, _, h => by cases h; exact .int i
  | .str s, _, h => by cases h; exact .str s
  | .list ds, _, h => by
    cases h with
    | lst hs ha => exact .lst (ex_l e hs) (dpAll_ex e ds _ ha)
  | .tuple ds, _, h => by
    cases h with
    | tup hs ha => exact .tup (ex_t e hs) (dpAll_ex e ds _ ha)
  | .dict _, _, h => by cases h
theorem dpAll_ex (e : Ex H H') : ∀ (ds : List PyData) (xs : List V), DpAll K H xs ds → DpAll K H' xs ds
  | [], _, h => by cases h; exact .nil
  | d :: ds, _, h => by
    cases h with
    | cons h1 h2 => exact .cons (dp_ex e d _ h1) (dpAll_ex e ds _ h2)
end
theorem rv_eqD {d : PyData} (h1 : Dp K H x d) (h2 : Dp K H y d) (hd : SeqAt.shaped d = true) : RV (rEqD K) x y H (.bl true) := fun H1 e Q q => ⟨d, d, dp_ex e _ _ h1, dp_ex e _ _ h2, hd, hd, by
  rw [SeqAt.eqv_refl d (SeqAt.canLay_of_shaped hd)]
  exact q H1 (Ex.refl H1)⟩
theorem rv_neD {d : PyData} (h1 : Dp K H x d) (h2 : Dp K H y d) (hd : SeqAt.shaped d = true) : RV (rNeD K) x y H (.bl false) := fun H1 e Q q => ⟨d, d, dp_ex e _ _ h1, dp_ex e _ _ h2, hd, hd, by
  rw [SeqAt.eqv_refl d (SeqAt.canLay_of_shaped hd)]
  exact q H1 (Ex.refl H1)⟩
end
theorem lay_ints : ∀ ns : List Int, PyData.canLayAll0 (ns.map PyData.int) = true ∧ PyData.depthAll (ns.map PyData.int) = 0
  | [] => ⟨by simp [PyData.canLayAll0], by simp [PyData.depthAll]⟩
  | i :: ns => by
    obtain ⟨h1, h2⟩ := lay_ints ns
    refine ⟨?_, ?_⟩
    · rw [List.map_cons, PyData.canLayAll0, h1]
      simp [PyData.canLay0]
    · rw [List.map_cons, PyData.depthAll, h2]
      simp [PyData.depth]
theorem shaped_ints (ns : List Int) : SeqAt.shaped (dInts ns) = true := by
  obtain ⟨h1, h2⟩ := lay_ints ns
  unfold SeqAt.shaped dInts
  rw [PyData.canLay0, PyData.depth, h1, h2]
  decide
theorem strOk_enc {r : GRow} (h : RowOk 26 r) : PyData.strOk (enc r) = true := by
  unfold PyData.strOk
  rw [← Array.all_toList]
  refine List.all_eq_true.mpr fun c hc => ?_
  have hc : c ∈ cd r := hc
  unfold cd at hc
  obtain ⟨n, hn, rfl⟩ := List.mem_map.mp hc
  have := h n hn
  exact decide_eq_true (by omega)
theorem lay_rules : ∀ R : GRules, (∀ r ∈ R, RowOk 26 r) → PyData.canLayAll0 (R.map fun r => PyData.str (enc r)) = true ∧ PyData.depthAll (R.map fun r => PyData.str (enc r)) = 0
  | [], _ => ⟨by simp [PyData.canLayAll0], by simp [PyData.depthAll]⟩
  | r :: R, h => by
    obtain ⟨h1, h2⟩ := lay_rules R fun q hq => h q (List.mem_cons_of_mem _ hq)
    refine ⟨?_, ?_⟩
    · rw [List.map_cons, PyData.canLayAll0, h1]
      simp [PyData.canLay0, strOk_enc (h r List.mem_cons_self)]
    · rw [List.map_cons, PyData.depthAll, h2]
      simp [PyData.depth]
theorem shaped_rules {R : GRules} (h : ∀ r ∈ R, RowOk 26 r) : SeqAt.shaped (dRules R) = true := by
  obtain ⟨h1, h2⟩ := lay_rules R h
  unfold SeqAt.shaped dRules
  rw [PyData.canLay0, PyData.depth, h1, h2]
  decide
theorem shaped_two {R S : GRules} (h1 : ∀ r ∈ R, RowOk 26 r) (h2 : ∀ r ∈ S, RowOk 26 r) : SeqAt.shaped (.list [dRules R, dRules S]) = true := by
  obtain ⟨a1, a2⟩ := lay_rules R h1
  obtain ⟨b1, b2⟩ := lay_rules S h2
  unfold SeqAt.shaped dRules
  simp [PyData.canLay0, PyData.canLayAll0, PyData.depth, PyData.depthAll, a1, a2, b1, b2]
/-! ### written texts -/
theorem pe_strV {X : Cx} {j : Nat} {pos : Pos} {s : Str} (l : GRow) (h : s = enc l) : PE X (.Constant (.str s) j pos) (tC (.str (enc l))) := by
  rw [h]
  exact pe_str
/-! ### max, min -/
theorem ev_maxN {K : PySem.W.Frag} {σ : L2.St} {H : Hp} {te : TE} {ns : List Int} {m : Int} (h : EvL te σ H (ns.map V.int)) (hm : m ∈ ns) (hle : ∀ y ∈ ns, y ≤ m) : Ev (tCB (rMax K) (tCons te tNil)) σ H (.int m) := fun H1 e Q q =>
  h H1 e _ fun p H2 _ e2 h2 => ⟨p, ns, rfl, sq_of h2, List.length_pos_of_mem hm, fun m' hm' hle' => by
    have : m' = m := Int.le_antisymm (hle m' hm') (hle' m hm)
    rw [this]
    exact q H2 e2⟩
theorem ev_minN {K : PySem.W.Frag} {σ : L2.St} {H : Hp} {te : TE} {ns : List Int} {m : Int} (h : EvL te σ H (ns.map V.int)) (hm : m ∈ ns) (hle : ∀ y ∈ ns, m ≤ y) : Ev (tCB (rMin K) (tCons te tNil)) σ H (.int m) := fun H1 e Q q =>
  h H1 e _ fun p H2 _ e2 h2 => ⟨p, ns, rfl, sq_of h2, List.length_pos_of_mem hm, fun m' hm' hle' => by
    have : m' = m := Int.le_antisymm (hle' m hm) (hle m' hm')
    rw [this]
    exact q H2 e2⟩
theorem max_ex : ∀ {ns : List Int}, ns ≠ [] → ∃ m, m ∈ ns ∧ ∀ y ∈ ns, y ≤ m
  | [], h => absurd rfl h
  | [a], _ => ⟨a, by simp, fun y hy => by rw [List.mem_singleton.mp hy]; exact Int.le_refl _⟩
  | a :: b :: ns, _ => by
    obtain ⟨m, hm, hle⟩ := max_ex (ns := b :: ns) (by simp)
    by_cases h : a ≤ m
    · exact ⟨m, List.mem_cons_of_mem _ hm, fun y hy => (List.mem_cons.mp hy).elim (fun e => e ▸ h) (hle y)⟩
    · exact ⟨a, by simp, fun y hy => (List.mem_cons.mp hy).elim (fun e => e ▸ Int.le_refl _) fun hy => Int.le_trans (hle y hy) (by omega)⟩
theorem min_ex : ∀ {ns : List Int}, ns ≠ [] → ∃ m, m ∈ ns ∧ ∀ y ∈ ns, m ≤ y
  | [], h => absurd rfl h
  | [a], _ => ⟨a, by simp, fun y hy => by rw [List.mem_singleton.mp hy]; exact Int.le_refl _⟩
  | a :: b :: ns, _ => by
    obtain ⟨m, hm, hle⟩ := min_ex (ns := b :: ns) (by simp)
    by_cases h : m ≤ a
    · exact ⟨m, List.mem_cons_of_mem _ hm, fun y hy => (List.mem_cons.mp hy).elim (fun e => e ▸ h) (hle y)⟩
    · exact ⟨a, by simp, fun y hy => (List.mem_cons.mp hy).elim (fun e => e ▸ Int.le_refl _) fun hy => Int.le_trans (by omega) (hle y hy)⟩
/-! ### a text's letters that a test leaves -/
theorem filt_range (p : Nat → Bool) (v : Nat → V) (l : GRow) : given l.length (fun i => p (l.getD i 0)) (fun i => v (l.getD i 0)) = (l.filter p).map v := by
  have e : (List.range l.length).map (fun i => l.getD i 0) = l := by
    apply List.ext_getElem?
    intro i
    rw [List.getElem?_map]
    by_cases hi : i < l.length
    · rw [List.getElem?_range hi]
      simp [hi]
    · rw [List.getElem?_eq_none (by simp; omega), List.getElem?_eq_none (by omega)]
      rfl
  conv => rhs; rw [← e]
  unfold given
  rw [List.filter_map, List.map_map]
  rfl
theorem el_strF {K : PySem.W.Frag} {σ : L2.St} {H : Hp} {ti te : TE} {t : TT} {j : Nat} {vs : List Nat} {l : GRow} (h : Ev ti σ H (.str (enc l))) (p : Nat → Bool) (v : Nat → V) (hl : l.length < sizeLine)
    (hw : ∀ x, wipe ((wipe σ vs).set j (some x)) vs = wipe σ vs) (ht : ∀ n ∈ l, ∀ H1, Ex H H1 → EvT t ((wipe σ vs).set j (some (.str (sg n)))) H1 (p n)) (hs : ∀ n ∈ l, ∀ H1, Ex H H1 → Ev te ((wipe σ vs).set j (some (.str (sg n)))) H1 (v n)) :
    EvL (tLc (iStr ti) (gName j) t te vs) σ H ((l.filter p).map v) := by
  rw [← filt_range]
  refine el_anyF (wi_str h) _ _ hl fun i x H1 H2 hi e1 y Q k => ?_
  obtain ⟨rfl, hx⟩ := y
  rw [List.getElem?_map, List.getElem?_eq_getElem hi] at hx
  have hx : V.str (sg l[i]) = x := Option.some.inj hx
  subst hx
  have e2 : l.getD i 0 = l[i] := by simp [hi]
  refine k _ _ (hw _) (Ex.refl _) ?_ fun _ => ?_
  · rw [e2]
    exact ht l[i] (List.getElem_mem hi) _ e1
  · rw [e2]
    exact hs l[i] (List.getElem_mem hi) _ e1
/-- a sign in a text -/
def rInC : R2 := fun x y H Q => ∃ (c : Nat) (z : Str), x = .str ⟨#[c]⟩ ∧ y = .str z ∧ Q (.bl (decide (c ∈ z.cps.toList))) H
theorem mem_enc {n : Nat} {l : GRow} : (97 + n ∈ (enc l).cps.toList) ↔ n ∈ l := by
  show 97 + n ∈ cd l ↔ n ∈ l
  unfold cd
  rw [List.mem_map]
  constructor
  · rintro ⟨m, hm, e⟩
    have : m = n := by omega
    exact this ▸ hm
  · exact fun h => ⟨n, h, rfl⟩
theorem ev_inC {σ : L2.St} {H : Hp} {ta tb : TE} {n : Nat} {l : GRow} (ha : Ev ta σ H (.str (sg n))) (hb : Ev tb σ H (.str (enc l))) : Ev (tOp rInC ta tb) σ H (.bl (decide (n ∈ l))) := ev_op ha hb fun H1 _ Q q => ⟨97 + n, enc l, rfl, rfl, by
  have e : decide (97 + n ∈ (enc l).cps.toList) = decide (n ∈ l) := decide_eq_decide.mpr mem_enc
  rw [e]
  exact q H1 (Ex.refl H1)⟩
end Gw

namespace Gw
open PySem PySem.Spec PyProof.Rows L2 Evl
section
variable {σ : L2.St} {H : Hp} {te : TE} {D : Ends} {tz tu : TS} {t : TT}
theorem q_skip (h : EvT t σ H false) (k : ∀ H1, Ex H H1 → tz D σ H1) : tSeq (tIfS t tu tNext) tz D σ H := q_when h (fun b => Bool.noConfusion b) fun _ H1 e => k H1 e
theorem s_skip (h : EvT t σ H false) (k : ∀ H1, Ex H H1 → D.nx σ H1) : tIfS t tu tNext D σ H := s_when h (fun b => Bool.noConfusion b) fun _ H1 e => k H1 e
end
theorem ell_two {σ : L2.St} {H : Hp} {ta tb : TE} {xs ys : List V} (h : EvL ta σ H xs) (h2 : EvL tb σ H ys) : EvLL (tLst (tCons ta (tCons tb tNil))) σ H [xs, ys] := fun H1 e Q q =>
  h H1 e _ fun a H2 ha e2 ha2 => h2 H2 (e.trans e2) _ fun b H3 hb e3 hb3 => ⟨(by show 2 ≤ sizeLine; decide), fun p hp => q p [a, b] _ (fresh_back (e2.trans e3) hp) (fun c hc => by
    have ha3 := e3 _ _ ha2
    rcases List.mem_cons.mp hc with rfl | hc
    · exact ⟨ha, ne_of_none ha3 hp⟩
    · rw [List.mem_singleton.mp hc]
      exact ⟨fresh_back e2 hb, ne_of_none hb3 hp⟩) ((e2.trans e3).trans (Ex.new hp)) ⟨upd_same, rfl, fun i c zs h1 h3 => by
    have ha3 := e3 _ _ ha2
    match i with
    | 0 =>
      cases h1
      cases h3
      rw [upd_ne (ne_of_none ha3 hp)]
      exact ha3
    | 1 =>
      cases h1
      cases h3
      rw [upd_ne (ne_of_none hb3 hp)]
      exact hb3
    | i + 2 => cases h1⟩⟩
theorem LL.two {H : Hp} {p : Addr} {as : List Addr} {xs ys : List V} (h : LL H p as [xs, ys]) : ∃ a b, as = [a, b] ∧ H p = some (.lst [.ref a, .ref b]) ∧ H a = some (.lst xs) ∧ H b = some (.lst ys) := by
  obtain ⟨h1, h2, h3⟩ := h
  match as, h2 with
  | [a, b], _ => exact ⟨a, b, rfl, h1, h3 0 a xs rfl rfl, h3 1 b ys rfl rfl⟩
/-- some rules: a new list -/
def EvX (te : TE) (σ : L2.St) (H : Hp) (C : GRules → Prop) : Prop := ∀ H1, Ex H H1 → ∀ Q : VK, (∀ p H2 R, H1 p = none → Ex H1 H2 → H2 p = some (.lst (RL R)) → C R → Q (.ref p) H2) → te σ H1 Q
theorem RL_rep (k : Nat) (R : GRules) : (List.replicate k (RL R)).flatten = RL (List.replicate k R).flatten := by
  unfold RL
  rw [List.map_flatten, List.map_replicate]
theorem ex_rep {σ : L2.St} {H : Hp} {te tn : TE} {C : GRules → Prop} {k : Nat} (h : EvX te σ H C) (hn : Ev tn σ H (.int (k : Int))) (hk : k ≤ 1000) (hC : ∀ R, C R → R.length ≤ 1000) : EvX (tOp rRep te tn) σ H (fun S => ∃ R, C R ∧ S = (List.replicate k R).flatten) := fun H1 e Q q =>
  h H1 e _ fun p H2 R hp e2 h2 hR => hn H2 (e.trans e2) _ fun H3 e3 => ⟨p, (k : Int), RL R, rfl, rfl, e3 _ _ h2, by omega, by omega, by
    rw [RL_len, Int.toNat_natCast, sizeLine_eq]
    have := Nat.mul_le_mul (hC R hR) hk
    omega, fun p2 hp2 => q p2 _ _ (fresh_back (e2.trans e3) hp2) ((e2.trans e3).trans (Ex.new hp2)) (by rw [upd_same, Int.toNat_natCast, RL_rep]) ⟨R, hR, rfl⟩⟩
theorem ex_take {K : PySem.W.Frag} {σ : L2.St} {H : Hp} {te : TE} {th : TO} {C : GRules → Prop} {n : Nat} (h : EvX te σ H C) (hn : EvO th σ H (some (n : Int))) : EvX (tSl (rSlL K) te tNoPart th) σ H (fun S => ∃ R, C R ∧ S = R.take n) := fun H1 e Q q =>
  h H1 e _ fun p H2 R hp e2 h2 hR => hn H2 (e.trans e2) _ fun H3 e3 => ⟨p, RL R, rfl, sq_of (e3 _ _ h2), fun p2 hp2 => q p2 _ _ (fresh_back (e2.trans e3) hp2) ((e2.trans e3).trans (Ex.new hp2)) (by
    rw [upd_same]
    have e : cutV (RL R) none (some (n : Int)) = RL (R.take n) := by
      unfold cutV
      rw [HT.sIx_nat, HT.sIx_none, Nat.sub_zero, List.drop_zero]
      unfold RL
      rw [List.map_take]
      by_cases h : n ≤ (R.map fun r => V.str (enc r)).length
      · rw [Nat.min_eq_left h]
      · rw [Nat.min_eq_right (by omega), List.take_of_length_le (Nat.le_refl _), List.take_of_length_le (by omega)]
    rw [e]) ⟨R, hR, rfl⟩⟩
theorem s_asgX {σ : L2.St} {H : Hp} {D : Ends} {te : TE} {tz : TS} {i : Nat} {C : GRules → Prop} (h : EvX te σ H C) (k : ∀ p H1 R, H p = none → Ex H H1 → H1 p = some (.lst (RL R)) → C R → tz D (σ.set i (some (.ref p))) H1) : tSeq (tAsg te (gName i)) tz D σ H := h H (Ex.refl H) _ k
/-- list(xs) -/
theorem el_copy {K : PySem.W.Frag} {σ : L2.St} {H : Hp} {ta : TE} {p : Addr} {xs : List V} (ha : Ev ta σ H (.ref p)) (h : SqL K H p xs) : EvL (tCB (rListS K) (tCons ta tNil)) σ H xs := Evl.el_list ha h
/-- xs[::-1] -/
theorem el_rev {K : PySem.W.Frag} {σ : L2.St} {H : Hp} {te : TE} {a : Addr} {xs : List V} (h : Ev te σ H (.ref a)) (hs : SqL K H a xs) : EvL (tRevL K te) σ H xs.reverse := fun H1 e Q q =>
  h H1 e _ fun H2 e2 => ⟨a, xs, rfl, ex_l (e.trans e2) hs, fun p hp => q p _ (fresh_back e2 hp) (e2.trans (Ex.new hp)) upd_same⟩
/-- rules at a -/
structure RAt (K : PySem.W.Frag) (H : Hp) (a : Addr) (R : GRules) : Prop where
  at_ : SqL K H a (RL R)
  ok : RulesOk R
  sz : ∀ r ∈ R, r.length ≤ 100000
theorem RAt.ex {K : PySem.W.Frag} {H H' : Hp} {a : Addr} {R : GRules} (h : RAt K H a R) (e : Ex H H') : RAt K H' a R := ⟨ex_l e h.at_, h.ok, h.sz⟩
/-! ### calls whose arguments are new lists -/
theorem el_spLNN {σ : L2.St} {H : Hp} {ta tb : TE} {E : XK} {xs ys zs : List V} {pre : List V → Hp → List V → Prop} (ha : EvL ta σ H xs) (hb : EvL tb σ H ys) (hp : ∀ a b H1, Ex H H1 → H1 a = some (.lst xs) → H1 b = some (.lst ys) → pre [.ref a, .ref b] H1 zs) :
    EvL (tCall (spL pre) [] E (tCons ta (tCons tb tNil))) σ H zs := fun H1 e Q q =>
  ha H1 e _ fun a H2 _ e2 h2 => hb H2 (e.trans e2) _ fun b H3 _ e3 h3 => by
    show spL pre [V.ref a, V.ref b] H3 Q E
    exact ⟨zs, hp a b H3 ((e.trans e2).trans e3) (e3 _ _ h2) h3, fun p H4 hp0 e4 h4 => q p H4 (fresh_back (e2.trans e3) hp0) ((e2.trans e3).trans e4) h4⟩
theorem ev_spVN3 {σ : L2.St} {H : Hp} {ta tb tc : TE} {E : XK} {y z v : V} {xs : List V} {pre : List V → Hp → V → Prop} (ha : EvL ta σ H xs) (hb : Ev tb σ H y) (hc : Ev tc σ H z) (hp : ∀ a H1, Ex H H1 → H1 a = some (.lst xs) → pre [.ref a, y, z] H1 v) :
    Ev (tCall (spV pre) [] E (tCons ta (tCons tb (tCons tc tNil)))) σ H v := fun H1 e Q q =>
  ha H1 e _ fun a H2 _ e2 h2 => hb H2 (e.trans e2) _ fun H3 e3 => hc H3 ((e.trans e2).trans e3) _ fun H4 e4 => by
    show spV pre [V.ref a, y, z] H4 Q E
    exact ⟨v, hp a H4 (((e.trans e2).trans e3).trans e4) ((e3.trans e4) _ _ h2), fun H5 e5 => q H5 (((e2.trans e3).trans e4).trans e5)⟩
theorem el_spLN3 {σ : L2.St} {H : Hp} {ta tb tc : TE} {E : XK} {y z : V} {xs ys : List V} {pre : List V → Hp → List V → Prop} (ha : EvL ta σ H xs) (hb : Ev tb σ H y) (hc : Ev tc σ H z) (hp : ∀ a H1, Ex H H1 → H1 a = some (.lst xs) → pre [.ref a, y, z] H1 ys) :
    EvL (tCall (spL pre) [] E (tCons ta (tCons tb (tCons tc tNil)))) σ H ys := fun H1 e Q q =>
  ha H1 e _ fun a H2 _ e2 h2 => hb H2 (e.trans e2) _ fun H3 e3 => hc H3 ((e.trans e2).trans e3) _ fun H4 e4 => by
    show spL pre [V.ref a, y, z] H4 Q E
    exact ⟨ys, hp a H4 (((e.trans e2).trans e3).trans e4) ((e3.trans e4) _ _ h2), fun p H5 hp0 e5 h5 => q p H5 (fresh_back ((e2.trans e3).trans e4) hp0) (((e2.trans e3).trans e4).trans e5) h5⟩
end Gw

namespace Gw
open PySem PySem.Spec PyProof.Rows L2 Evl
/-! ### walks that lean on no object: the heap may change under them -/
structure WF (wi : TI) (σ : L2.St) (H : Hp) (n : Nat) (f : Nat → V) : Prop where
  go : ∀ H1, Ex H H1 → ∀ R : It → Hp → Prop, (∀ J H2, Ex H1 H2 → Walk J n (fun _ => True) (YFn f) → R J H2) → wi σ H1 R
section
variable {σ : L2.St} {H : Hp} {te : TE} {ta : TA} {wi : TI} {n : Nat} {f : Nat → V} {D : Ends} {tb tz : TS}
theorem wf_rng1 {m : Nat} (h : EvA ta σ H [.int (m : Int)]) (hm : m < 1000000) : WF (iRng1 ta) σ H m (fun i => .int (i : Int)) :=
  ⟨fun H1 e R k => h H1 e _ fun H2 e2 => ⟨(m : Int), rfl, by omega, by omega, by
    rw [Int.toNat_natCast]
    exact k _ H2 e2 ((walk_range (lo := 0) (n := m)).mono (fun _ h => h) fun i H x H' _ _ y => ⟨y.1, y.2.trans (congrArg V.int (Int.zero_add _))⟩)⟩⟩
theorem wf_revR {tr : L2.St → Hp → (Int → Int → Hp → Prop) → Prop} {m : Nat} (h : ∀ H1, Ex H H1 → ∀ R : Int → Int → Hp → Prop, (∀ H2, Ex H1 H2 → R 0 (m : Int) H2) → tr σ H1 R) (hm : m < 1000000) :
    WF (iRevR tr) σ H m (fun i => .int ((m : Int) - 1 - (i : Int))) :=
  ⟨fun H1 e R k => h H1 e _ fun H2 e2 => ⟨by omega, by omega, by omega, by omega, by
    have e0 : ((m : Int) - 0).toNat = m := by omega
    rw [e0]
    exact k _ H2 e2 ((walk_rangeC (lo := 0 + (m : Int) - 1) (c := -1) (n := m)).mono (fun _ h => h) fun i H x H' _ _ y => ⟨y.1, y.2.trans (congrArg V.int (by omega))⟩)⟩⟩
theorem wf_str {l : GRow} (h : Ev te σ H (.str (enc l))) : WF (iStr te) σ H l.length (fun i => .str (sg (l.getD i 0))) :=
  ⟨fun H1 e R k => h H1 e _ fun H2 e2 => ⟨enc l, rfl, k _ H2 e2 (by
    have w := (walk_str (z := enc l)).mono (G' := fun _ => True) (Y' := YFn fun i => .str (sg (l.getD i 0))) (fun _ h => h) fun i H x H' _ _ y => by
      obtain ⟨rfl, hx⟩ := yat_str y
      rw [List.getElem?_map] at hx
      cases q : l[i]? with
      | none => rw [q] at hx; cases hx
      | some c =>
        rw [q] at hx
        have hx : V.str (sg c) = x := Option.some.inj hx
        refine ⟨rfl, ?_⟩
        rw [← hx]
        show V.str (sg c) = V.str (sg (l.getD i 0))
        rw [List.getD_eq_getElem?_getD, q]
        rfl
    rw [enc_size] at w
    exact w)⟩⟩
/-- range(a, b, c), c positive -/
theorem wf_rng3 {a b c : Int} {m : Nat} (h : EvA ta σ H [.int a, .int b, .int c]) (hr : RgC a b c m) : WF (iRng3 ta) σ H m (fun i => .int (a + (i : Nat) * c)) :=
  ⟨fun H1 e R k => h H1 e _ fun H2 e2 => ⟨a, b, c, m, rfl, hr, k _ H2 e2 walk_rangeC⟩⟩
theorem s_forF {j : Nat} (w : WF wi σ H n f) (Pv : Nat → L2.St → Hp → Prop) (h0 : ∀ H1, Ex H H1 → Pv 0 σ H1)
    (hs : ∀ i σ' H', i < n → Pv i σ' H' → tb { D with nx := Pv (i + 1), ct := Pv (i + 1), bk := D.nx } (σ'.set j (some (f i))) H') (hd : ∀ σ' H', Pv n σ' H' → D.nx σ' H') : tFor wi (gName j) tb D σ H :=
  w.go H (Ex.refl H) _ fun J H2 e2 wk => for_it wk Pv (h0 H2 e2) (fun _ _ _ _ _ => True.intro) (fun i x σ' H' H'' hi p y => by
    obtain ⟨rfl, rfl⟩ := y
    exact hs i σ' _ hi p) hd
theorem q_forF {j : Nat} (w : WF wi σ H n f) (Pv : Nat → L2.St → Hp → Prop) (h0 : ∀ H1, Ex H H1 → Pv 0 σ H1)
    (hs : ∀ i σ' H', i < n → Pv i σ' H' → tb { D with nx := Pv (i + 1), ct := Pv (i + 1), bk := tz D } (σ'.set j (some (f i))) H') (hd : ∀ σ' H', Pv n σ' H' → tz D σ' H') : tSeq (tFor wi (gName j) tb) tz D σ H :=
  s_forF (D := { D with nx := tz D }) w Pv h0 hs hd
end
/-- a letter, or none -/
def textOf : Option Nat → Str
  | none => enc []
  | some x => sg x
theorem textOf_eq (o : Option Nat) : decide (V.str (textOf o) = V.str (enc [])) = o.isNone := by
  cases o with
  | none => exact decide_eq_true rfl
  | some x =>
    refine decide_eq_false fun e => ?_
    have := enc_inj (a := [x]) (b := []) (V.str.inj e)
    cases this
end Gw

namespace Gw
open PySem PySem.Spec PyProof.Rows L2 Evl
/-! ### the hook, by further answers of K -/
abbrev AlQ : Type := Bool × He.AlD
def exB (ex : List (PySem.W.Frag → Bool)) (K : PySem.W.Frag) : Bool := ex.all fun f => f K
def obsQ (n : Nat) (fa : List He.Fa) (fn : List He.DefD) (ex : List (PySem.W.Frag → Bool)) (g : Addr → Option Obj) : AlQ := (exB ex (He.frG g (He.asD g n)), He.obsDG n fa fn g)
def hookQ (n : Nat) (fa : List He.Fa) (fn : List He.DefD) (ex : List (PySem.W.Frag → Bool)) : PySem.W.Hook where
  α := AlQ
  obs := fun s => obsQ n fa fn ex s.heap.get?
  val := fun _ => (true, He.valD fn)
  says := fun _ h => ∃ K : PySem.W.Frag, K.In h ∧ exB ex K = true ∧ He.SaysD fa fn K
  of := fun _ h e => ⟨_, He.frG_in, congrArg (fun z : AlQ => z.1) e, congrArg (fun z : AlQ => z.2) e⟩
  keeps := fun _ _ _ ⟨K, hK, c⟩ k => ⟨K, PySem.W.Frag.In.keeps hK k, c⟩
theorem obsQ_eq {n : Nat} {fa : List He.Fa} {fn : List He.DefD} {ex : List (PySem.W.Frag → Bool)} {g : Addr → Option Obj} {s : Shared} (h : ∀ a, g a = s.heap.get? a) : obsQ n fa fn ex g = (hookQ n fa fn ex).obs s := by
  have e : g = s.heap.get? := funext h
  rw [e] <;> rfl
theorem ex_at {ex : List (PySem.W.Frag → Bool)} {K : PySem.W.Frag} (c : exB ex K = true) (i : Nat) {f : PySem.W.Frag → Bool} (h : ex[i]? = some f := by rfl) : f K = true := List.all_eq_true.mp c f (List.mem_of_getElem? h)
/-! ### classes -/
structure Own (K : PySem.W.Frag) (C : Addr) : Prop where
  cl : Cls K C
  ha : PySem.W.findIn K (.ref C) "__class__" = some (some (.builtin "object.__class__"))
  hn : PySem.W.specialIn K (.builtin "object.__class__") "__get__" = some (some (.builtin "getset_descriptor.__get__"))
  htk : PySem.W.takesIn K (.builtin "object.__class__") = some true
  hm : PySem.W.mroIn K C (.type "object") = some true
def ownB (x : Str) (K : PySem.W.Frag) : Bool := He.eqO (PySem.W.findIn K (.ref (He.ga K x)) "__class__") (some (some (.builtin "object.__class__"))) && (decide (PySem.W.specialIn K (.builtin "object.__class__") "__get__" = some (some (.builtin "getset_descriptor.__get__"))) &&
  (decide (PySem.W.takesIn K (.builtin "object.__class__") = some true) && decide (PySem.W.mroIn K (He.ga K x) (.type "object") = some true)))
theorem own_ok {K : PySem.W.Frag} {x : Str} (c : Cls K (He.ga K x)) (h : ownB x K = true) : Own K (He.ga K x) := by
  obtain ⟨h1, h⟩ := He.ba h
  obtain ⟨h2, h⟩ := He.ba h
  obtain ⟨h3, h4⟩ := He.ba h
  exact ⟨c, He.eqO_ok h1, of_decide_eq_true h2, of_decide_eq_true h3, of_decide_eq_true h4⟩
def kitQ (x y : Str) (b : Bool) (K : PySem.W.Frag) : Bool := decide (PySem.W.kitOne K (.ref (He.ga K x)) (.ref (He.ga K y)) = some b)
theorem kit_ok {K : PySem.W.Frag} {x y : Str} {b : Bool} (h : kitQ x y b K = true) : PySem.W.kitOne K (.ref (He.ga K x)) (.ref (He.ga K y)) = some b := of_decide_eq_true h
def kitT (T : String) (y : Str) (b : Bool) (K : PySem.W.Frag) : Bool := decide (PySem.W.kitOne K (.type T) (.ref (He.ga K y)) = some b)
/-- made without an __init__ of the text -/
structure Bare (K : PySem.W.Frag) (C : Addr) : Prop where
  makes : PySem.W.makesIn K C = true
  init : PySem.W.findIn K (.ref C) "__init__" = some (some (.builtin "object.__init__"))
  top : PySem.W.mroIn K C (.type "object") = some true
  kp : PySem.W.keepIn K (.ref C) = true
def bareB (x : Str) (K : PySem.W.Frag) : Bool := PySem.W.makesIn K (He.ga K x) && (He.eqO (PySem.W.findIn K (.ref (He.ga K x)) "__init__") (some (some (.builtin "object.__init__"))) && (decide (PySem.W.mroIn K (He.ga K x) (.type "object") = some true) && PySem.W.keepIn K (.ref (He.ga K x))))
theorem bare_ok {K : PySem.W.Frag} {x : Str} (h : bareB x K = true) : Bare K (He.ga K x) := by
  obtain ⟨h1, h⟩ := He.ba h
  obtain ⟨h2, h⟩ := He.ba h
  obtain ⟨h3, h4⟩ := He.ba h
  exact ⟨h1, He.eqO_ok h2, of_decide_eq_true h3, h4⟩
/-- C() -/
def tMake0 (C : Addr) : TE := fun _ H Q => ∀ x dx, H x = none → H dx = none → dx ≠ x → Q (.ref x) (upd (upd H dx (.own x)) x (.ins C dx []))
theorem pe_make00 {X : Cx} {C : Addr} {x : Str} {p pos : Pos} (B : Bare X.K C) (hg : Gl X x) (hm : X.mg x = some (.ref C)) (hdb : (x == ("__debug__" : Str)) = false := by decide) : PE X (.Call (.Name x p) [] [] pos) (tMake0 C) := by
  refine ⟨fun pins s σ H Q I h => ?_⟩
  refine wpAny_Call_Name_kw (ld_glob I hg hm ?_ hdb)
  refine PySem.W.callWith_K0 I.kIn B.kp ?_
  have hq := h (s.heap.objs.size + 1) s.heap.objs.size (I.hok.fresh (Nat.le_succ _)) (I.hok.fresh (Nat.le_refl _)) (Nat.ne_of_lt (Nat.lt_succ_self _))
  have I2 := Inv.made (C := C) I
  refine wpAny_call (make_map0 I.kIn B.makes B.init (fun self => PySem.W.Looks.of_pure (PySem.W.oi_bind self)) ?_)
  have hx : ((s.heap.push PySem.W.emptyDict).push (PySem.W.instObj C s.heap.objs.size)).get? (s.heap.objs.size + 1) = some (PySem.W.instObj C s.heap.objs.size) := by
    have := Heap.get?_push_size (s.heap.push PySem.W.emptyDict) (o := PySem.W.instObj C s.heap.objs.size) rfl
    rwa [Heap.size_push] at this
  have t2 : PySem.W.Looks (model X.prog X.w) ((s.heap.push PySem.W.emptyDict).push (PySem.W.instObj C s.heap.objs.size)) (isInstance (.ref (s.heap.objs.size + 1)) (.type "object")) true :=
    ((PySem.W.Looks.ld hx).andThen .now).andThen (PySem.W.looks_mroIn I2.kIn B.top)
  refine codeAny_call_builtin PySem.W.oi_plain PySem.W.entry_oi (@PySem.W.check_slot (model X.prog X.w) _ _ _ "object.__init__" "object" "__init__" (.ref (s.heap.objs.size + 1)) [] [] _ PySem.W.oi_kind PySem.W.oi_split t2 (PySem.W.oi_args _) ?_)
  rw [PySem.W.oi_run]
  exact wpAny_pure (And.intro rfl ⟨V.ref (s.heap.objs.size + 1), _, I2, rfl, hq⟩)
/-! ### readings -/
def EvI (te : TE) (σ : L2.St) (H : Hp) (C : Addr) (fs : List (Str × V)) : Prop := ∀ H1, Ex H H1 → ∀ Q : VK, (∀ x dx H2, H1 x = none → Ex H1 H2 → H2 x = some (.ins C dx fs) → Q (.ref x) H2) → te σ H1 Q
/-- self.f = y -/
def spInit (C : Addr) : Str → Sp := fun f vs H Q _ => ∃ a dx y, vs = [.ref a, y] ∧ H a = some (.ins C dx []) ∧ Q .non (upd H a (.ins C dx [(f, y)]))
section
variable {K : PySem.W.Frag} {σ : L2.St} {H : Hp} {te ta : TE} {C : Addr} {f m : Str} {y v : V} {D : Ends} {tz : TS}
theorem Ex.made {H : Hp} {x dx : Addr} {o1 o2 : HO} (hx : H x = none) (hd : H dx = none) : Ex H (upd (upd H dx o1) x o2) := Ex.mut (Ex.new hd) hx
theorem ei_make {E : XK} (h : Ev te σ H y) : EvI (tMake C (spInit C f) [] E (tCons te tNil)) σ H C [(f, y)] := fun H1 e Q q => h H1 e _ fun H2 e2 x dx hx hd hne =>
  ⟨x, dx, y, rfl, upd_same, rfl, q x dx _ (fresh_back e2 hx) (e2.trans (Ex.mut (Ex.made hx hd) hx)) upd_same⟩
theorem ei_make0 : EvI (tMake0 C) σ H C [] := fun H1 e Q q x dx hx hd hne => q x dx _ hx (Ex.made hx hd) upd_same
theorem s_asgI {i : Nat} {fs : List (Str × V)} (h : EvI te σ H C fs) (k : ∀ x dx H1, H x = none → Ex H H1 → H1 x = some (.ins C dx fs) → D.nx (σ.set i (some (.ref x))) H1) : tAsg te (gName i) D σ H := h H (Ex.refl H) _ fun x dx H1 hx e h1 => k x dx H1 hx e h1
theorem s_retI {fs : List (Str × V)} (h : EvI te σ H C fs) (k : ∀ x dx H1, H x = none → Ex H H1 → H1 x = some (.ins C dx fs) → D.rt (.ref x) H1) : tRet te D σ H := h H (Ex.refl H) _ k
theorem ev_fld {a dx : Addr} {fs : List (Str × V)} (h : Ev te σ H (.ref a)) (hi : H a = some (.ins C dx fs)) (c : Cls K C) (n : NoAttr K C f) (hf : fs.lookup f = some v) : Ev (tFld K te f) σ H v := fun H1 e Q q =>
  h H1 e _ fun H2 e2 => ⟨a, C, dx, fs, v, rfl, (e.trans e2) _ _ hi, c, n, hf, q H2 e2⟩
/-- C(y).f -/
theorem ev_fldN {fs : List (Str × V)} (h : EvI te σ H C fs) (c : Cls K C) (n : NoAttr K C f) (hf : fs.lookup f = some v) : Ev (tFld K te f) σ H v := fun H1 e Q q =>
  h H1 e _ fun x dx H2 hx e2 h2 => ⟨x, C, dx, fs, v, rfl, h2, c, n, hf, q H2 e2⟩
theorem ev_meth {a dx : Addr} {fs : List (Str × V)} {E : XK} {ts : TA} {vs : List V} {pre : List V → Hp → V → Prop} (h : Ev te σ H (.ref a)) (hi : H a = some (.ins C dx fs)) (hf : fs.lookup m = none) (hA : EvA ts σ H vs) (hp : ∀ H1, Ex H H1 → pre (.ref a :: vs) H1 v) :
    Ev (tMeth C m (spV pre) [] E te ts) σ H v := fun H1 e Q q => h H1 e _ fun H2 e2 => ⟨a, dx, fs, rfl, (e.trans e2) _ _ hi, hf, hA H2 (e.trans e2) _ fun H3 e3 => by
    rw [List.append_nil]
    exact ⟨v, hp H3 ((e.trans e2).trans e3), fun H4 e4 => q H4 ((e2.trans e3).trans e4)⟩⟩
theorem ev_methN {fs : List (Str × V)} {E : XK} {ts : TA} {vs : List V} {pre : List V → Hp → V → Prop} (h : EvI te σ H C fs) (hf : fs.lookup m = none) (hA : EvA ts σ H vs) (hp : ∀ a dx H1, Ex H H1 → H1 a = some (.ins C dx fs) → pre (.ref a :: vs) H1 v) :
    Ev (tMeth C m (spV pre) [] E te ts) σ H v := fun H1 e Q q => h H1 e _ fun x dx H2 hx e2 h2 => ⟨x, dx, fs, rfl, h2, hf, hA H2 (e.trans e2) _ fun H3 e3 => by
    rw [List.append_nil]
    exact ⟨v, hp x dx H3 ((e.trans e2).trans e3) (e3 _ _ h2), fun H4 e4 => q H4 ((e2.trans e3).trans e4)⟩⟩
theorem ty_ins {a dx : Addr} {fs : List (Str × V)} (O : Own K C) (h : H a = some (.ins C dx fs)) : TyX K H (.ref a) (.ref C) := .base (.ins h O.cl O.ha O.hn O.htk O.hm)
/-- a comprehension over a list of lists -/
theorem el_LL {ti : TE} {j : Nat} {ws : List Nat} {p : Addr} {as : List Addr} {xss : List (List V)} (h : Ev ti σ H (.ref p)) (hL : LL H p as xss) (w : Nat → V) (hn : xss.length < sizeLine) (hw : ∀ x, wipe ((wipe σ ws).set j (some x)) ws = wipe σ ws)
    (hs : ∀ i c xs H1, xss[i]? = some xs → Ex H H1 → H1 c = some (.lst xs) → Ev te ((wipe σ ws).set j (some (.ref c))) H1 (w i)) : EvL (tLc (iList K ti) (gName j) tYes te ws) σ H ((List.range xss.length).map w) := by
  have al : as.length = xss.length := hL.2.1
  have W := wi_list (K := K) h (sq_of hL.1)
  rw [List.length_map, al] at W
  refine el_any W w hn fun i x H1 H2 hi e1 Y Q kk => ?_
  obtain ⟨rfl, hx⟩ := Y
  obtain ⟨xs, hxs⟩ : ∃ xs, xss[i]? = some xs := ⟨_, List.getElem?_eq_getElem hi⟩
  obtain ⟨c, hc1, hc2⟩ := hL.get hxs
  rw [hc1] at hx
  cases hx
  exact kk _ _ (hw _) (Ex.refl _) (hs i c xs _ hxs e1 (e1 _ _ hc2))
end
/-! ### methods -/
section
variable {P : Program} {w : World} {K : PySem.W.Frag} {mg : Str → Option Value} {base : Heap} {x q : Str} {st : Stmt} {N ps : List Str} {k : Nat} {sp : Sp} {C : Addr}
structure MthD (K : PySem.W.Frag) (C : Addr) (m q : Str) (st : Stmt) : Prop where
  ex : ∃ f fd, Meth K C m f ∧ FunD K m q (defArgs st) (defBody st) (defScope st) [] [] f fd
structure IniD (K : PySem.W.Frag) (mg : Str → Option Value) (C : Addr) (x q : Str) (st : Stmt) : Prop where
  ex : ∃ f fd, Mk K C f ∧ FunD K "__init__" q (defArgs st) (defBody st) (defScope st) [] [] f fd ∧ mg x = some (.ref C)
theorem met_of {m : Str} (c : Cls K C) (D : MthD K C m q st) (S : FnScope N ps (defScope st))
    (hb : ∀ (kV doc pm : Value) (an : Option Addr) (cdv ct : Value) (us : List Value), us.length = ps.length → bindArgs (PySem.W.fnOf m q (defArgs st) (defBody st) (defScope st) .none kV doc pm an cdv ct) ⟨us, []⟩ = pure (ps.zip us))
    (len : ∀ vs H Q E, sp vs H Q E → vs.length = ps.length)
    (hbody : ∀ (f : Addr) (cdv : Value) (A : Around) (outer : List Env) (s : Shared) (H : Hp) (vs : List V) (Q : VK) (E : XK), Room k (A.deeper (envOfC q (defScope st) s.heap.objs.size f cdv)) → sp vs H Q E →
      ∃ t, PSs (cxOf CX0 P w K mg base N q (defScope st) f cdv A outer s H E).nox (defBody st) t ∧ t { nx := fun _ H' => Q .non H', rt := Q } (start N vs) H) : C8.Met P w K mg base (k + 1) C m sp [] := by
  obtain ⟨f, fd, M, F⟩ := D.ex
  refine ⟨f, fd, ps, [], c, M, F.ok S len (fun cdv A outer s H vs Q E hr h => ?_), F.bindsN hb, .nil⟩
  obtain ⟨t, p, q⟩ := hbody f cdv A outer s H vs Q E hr h
  exact ⟨t, p.nox, q⟩
theorem mak_of (D : IniD K mg C x q st) (S : FnScope N ps (defScope st))
    (hb : ∀ (kV doc pm : Value) (an : Option Addr) (cdv ct : Value) (us : List Value), us.length = ps.length → bindArgs (PySem.W.fnOf "__init__" q (defArgs st) (defBody st) (defScope st) .none kV doc pm an cdv ct) ⟨us, []⟩ = pure (ps.zip us))
    (len : ∀ vs H Q E, sp vs H Q E → vs.length = ps.length)
    (hbody : ∀ (f : Addr) (cdv : Value) (A : Around) (outer : List Env) (s : Shared) (H : Hp) (vs : List V) (Q : VK) (E : XK), Room k (A.deeper (envOfC q (defScope st) s.heap.objs.size f cdv)) → sp vs H Q E →
      ∃ t, PSs (cxOf CX0 P w K mg base N q (defScope st) f cdv A outer s H E).nox (defBody st) t ∧ t { nx := fun _ H' => Q .non H', rt := Q } (start N vs) H) : C8.Mak P w K mg base (k + 1) x C sp [] := by
  obtain ⟨f, fd, M, F, hm⟩ := D.ex
  refine ⟨f, fd, ps, [], M, F.ok S len (fun cdv A outer s H vs Q E hr h => ?_), hm, F.bindsN hb, .nil⟩
  obtain ⟨t, p, q⟩ := hbody f cdv A outer s H vs Q E hr h
  exact ⟨t, p.nox, q⟩
end
end Gw

open PySem PySem.Spec PyProof.Rows L2 Evl
namespace Gw
def top (i : Nat) : Stmt := PySem.Challenge.pw_growrow_k06_answers_by_hand.main.body.getD i (.Pass ⟨0, 0, 0, 0⟩)
abbrev sIs_row : Stmt := top 2
abbrev sOnce : Stmt := top 3
abbrev sLengths_of : Stmt := top 4
abbrev sLong_by : Stmt := top 5
abbrev sCounted : Stmt := top 6
abbrev sGrown_counts : Stmt := top 7
abbrev cAnswer : Stmt := top 9
abbrev cTimes : Stmt := top 10
abbrev sTimes_init : Stmt := inClass cTimes 0
abbrev sTimes_shows : Stmt := inClass cTimes 1
abbrev cShut : Stmt := top 11
abbrev sShut_init : Stmt := inClass cShut 0
abbrev sShut_shows : Stmt := inClass cShut 1
abbrev cAlike : Stmt := top 12
abbrev sAlike_shows : Stmt := inClass cAlike 0
abbrev cApart : Stmt := top 13
abbrev sApart_init : Stmt := inClass cApart 0
abbrev sApart_shows : Stmt := inClass cApart 1
abbrev sLaw_rules : Stmt := top 15
abbrev sLaw_row : Stmt := top 16
abbrev sLaw_once : Stmt := top 17
abbrev sLaw_says : Stmt := top 18
abbrev sLaw_kinds : Stmt := top 19
abbrev sLaw_long : Stmt := top 20
abbrev sLaw_letters_right : Stmt := top 21
abbrev sLaw_rows_right : Stmt := top 22
abbrev sLaw : Stmt := top 23
/-- what the top has written -/
structure T (K : PySem.W.Frag) (mg : Str → Option Value) : Prop where
  z_isinstance : mg "isinstance" = none
  z_str : mg "str" = none
  z_bool : mg "bool" = none
  z_len : mg "len" = none
  z_all : mg "all" = none
  z_any : mg "any" = none
  z_sum : mg "sum" = none
  z_range : mg "range" = none
  z_zip : mg "zip" = none
  z_enumerate : mg "enumerate" = none
  z_max : mg "max" = none
  z_min : mg "min" = none
  z_sorted : mg "sorted" = none
  z_set : mg "set" = none
  LETTERS : ∃ u, mg "LETTERS" = some u ∧ RelV (.str ALPH) u
  d_is_row : Df K mg "is_row" sIs_row
  d_once : Df K mg "once" sOnce
  d_lengths_of : Df K mg "lengths_of" sLengths_of
  d_long_by : Df K mg "long_by" sLong_by
  d_counted : Df K mg "counted" sCounted
  d_grown_counts : Df K mg "grown_counts" sGrown_counts
  d_law_rules : Df K mg "_law_rules" sLaw_rules
  d_law_row : Df K mg "_law_row" sLaw_row
  d_law_once : Df K mg "_law_once" sLaw_once
  d_law_says : Df K mg "_law_says" sLaw_says
  d_law_kinds : Df K mg "_law_kinds" sLaw_kinds
  d_law_long : Df K mg "_law_long" sLaw_long
  d_law_letters_right : Df K mg "_law_letters_right" sLaw_letters_right
  d_law_rows_right : Df K mg "_law_rows_right" sLaw_rows_right
  g_Answer : mg "Answer" = some (.ref (He.ga K "Answer"))
  o_Answer : Own K (He.ga K "Answer")
  g_Times : mg "Times" = some (.ref (He.ga K "Times"))
  o_Times : Own K (He.ga K "Times")
  g_Shut : mg "Shut" = some (.ref (He.ga K "Shut"))
  o_Shut : Own K (He.ga K "Shut")
  g_Alike : mg "Alike" = some (.ref (He.ga K "Alike"))
  o_Alike : Own K (He.ga K "Alike")
  g_Apart : mg "Apart" = some (.ref (He.ga K "Apart"))
  o_Apart : Own K (He.ga K "Apart")
  k_Times_Answer : PySem.W.kitOne K (.ref (He.ga K "Times")) (.ref (He.ga K "Answer")) = some true
  k_Times_Times : PySem.W.kitOne K (.ref (He.ga K "Times")) (.ref (He.ga K "Times")) = some true
  k_Times_Shut : PySem.W.kitOne K (.ref (He.ga K "Times")) (.ref (He.ga K "Shut")) = some false
  k_Times_Alike : PySem.W.kitOne K (.ref (He.ga K "Times")) (.ref (He.ga K "Alike")) = some false
  k_Times_Apart : PySem.W.kitOne K (.ref (He.ga K "Times")) (.ref (He.ga K "Apart")) = some false
  k_Shut_Answer : PySem.W.kitOne K (.ref (He.ga K "Shut")) (.ref (He.ga K "Answer")) = some true
  k_Shut_Times : PySem.W.kitOne K (.ref (He.ga K "Shut")) (.ref (He.ga K "Times")) = some false
  k_Shut_Shut : PySem.W.kitOne K (.ref (He.ga K "Shut")) (.ref (He.ga K "Shut")) = some true
  k_Shut_Alike : PySem.W.kitOne K (.ref (He.ga K "Shut")) (.ref (He.ga K "Alike")) = some false
  k_Shut_Apart : PySem.W.kitOne K (.ref (He.ga K "Shut")) (.ref (He.ga K "Apart")) = some false
  k_Alike_Answer : PySem.W.kitOne K (.ref (He.ga K "Alike")) (.ref (He.ga K "Answer")) = some true
  k_Alike_Times : PySem.W.kitOne K (.ref (He.ga K "Alike")) (.ref (He.ga K "Times")) = some false
  k_Alike_Shut : PySem.W.kitOne K (.ref (He.ga K "Alike")) (.ref (He.ga K "Shut")) = some false
  k_Alike_Alike : PySem.W.kitOne K (.ref (He.ga K "Alike")) (.ref (He.ga K "Alike")) = some true
  k_Alike_Apart : PySem.W.kitOne K (.ref (He.ga K "Alike")) (.ref (He.ga K "Apart")) = some false
  k_Apart_Answer : PySem.W.kitOne K (.ref (He.ga K "Apart")) (.ref (He.ga K "Answer")) = some true
  k_Apart_Times : PySem.W.kitOne K (.ref (He.ga K "Apart")) (.ref (He.ga K "Times")) = some false
  k_Apart_Shut : PySem.W.kitOne K (.ref (He.ga K "Apart")) (.ref (He.ga K "Shut")) = some false
  k_Apart_Alike : PySem.W.kitOne K (.ref (He.ga K "Apart")) (.ref (He.ga K "Alike")) = some false
  k_Apart_Apart : PySem.W.kitOne K (.ref (He.ga K "Apart")) (.ref (He.ga K "Apart")) = some true
  n_Times : NoAttr K (He.ga K "Times") "many"
  i_Times : IniD K mg (He.ga K "Times") "Times" "Times.__init__" sTimes_init
  m_Times_shows : MthD K (He.ga K "Times") "shows" "Times.shows" sTimes_shows
  n_Shut : NoAttr K (He.ga K "Shut") "letters"
  i_Shut : IniD K mg (He.ga K "Shut") "Shut" "Shut.__init__" sShut_init
  m_Shut_shows : MthD K (He.ga K "Shut") "shows" "Shut.shows" sShut_shows
  m_Alike_shows : MthD K (He.ga K "Alike") "shows" "Alike.shows" sAlike_shows
  b_Alike : Bare K (He.ga K "Alike")
  n_Apart : NoAttr K (He.ga K "Apart") "many"
  i_Apart : IniD K mg (He.ga K "Apart") "Apart" "Apart.__init__" sApart_init
  m_Apart_shows : MthD K (He.ga K "Apart") "shows" "Apart.shows" sApart_shows
end Gw

namespace Gw
open PySem PySem.Spec PyProof.Rows L2 Evl
section
variable {P : Program} {w : World} {K : PySem.W.Frag} {mg : Str → Option Value} {base : Heap}
/-! ### is_number, is_row -/
def preIsNumber : List V → Hp → V → Prop := fun vs _ v => ∃ i j : Int, vs = [.int i, .int j] ∧ v = .bl (decide (j ≤ i))
theorem sc_is_row : FnScope ["rules", "thing"] ["rules", "thing"] (defScope sIs_row) := ⟨rfl, rfl, rfl, by decide +kernel, rfl, by decide +kernel, by decide +kernel⟩
def preIsRow (K : PySem.W.Frag) : List V → Hp → V → Prop := fun vs H v => ∃ a xs z, vs = [.ref a, .str z] ∧ SqL K H a xs ∧ xs.length ≤ 26 ∧ z.length ≤ sizeLine ∧ v = .bl (isLet xs.length z)
theorem ok_is_row (X : T K mg) : C8.Cal P w K mg base 1 "is_row" (spV (preIsRow K)) [] := by
  refine cal_of X.d_is_row sc_is_row (fun _ _ _ _ _ _ us hl => match us, hl with | [_, _], _ => rfl) (fun vs H Q E h => ?_) (fun f cdv A outer s H vs Q E hr h => ?_)
  · obtain ⟨v, ⟨a, xs, z, rfl, _⟩, _⟩ := h
    rfl
  · obtain ⟨v, ⟨a, xs, z, rfl, hx, h26, hz, rfl⟩, k⟩ := h
    refine ⟨_, pss_one (ps_ret (pe_and (pe_isi X.z_isinstance X.z_str boot_str (pv 1)) (pe_one (pe_cmpR op_eq (pe_strip1 (pv 1) (pe_slice sl_str (C8.pe_gc (by exact rfl) X.LETTERS) po_none (po_some (pe_len X.z_len (pv 0))))) pe_str (nomark _))))), ?_⟩
    refine s_ret (ev_is (ev_andV (ev_isT (ev_var rfl) (.base (.str z)) isi_ss) fun _ => ev_eqS _ (ev_strip (ev_var rfl) (ev_alphCut ev_c (eo_some (ev_len (ev_var rfl) hx)) h26) hz) ev_c) ?_) k
    rw [strip_eq]
    rfl
/-! ### refusals that don't come -/
def preAskRules (K : PySem.W.Frag) : List V → Hp → V → Prop := fun vs H v => ∃ a R, vs = [.ref a] ∧ RAt K H a R ∧ v = .non
def preAskRow (K : PySem.W.Frag) : List V → Hp → V → Prop := fun vs H v => ∃ a R r, vs = [.ref a, .str (enc r)] ∧ RAt K H a R ∧ RowOk R.length r ∧ r.length ≤ sizeLine ∧ v = .non
def preAskTimes : List V → Hp → V → Prop := fun vs _ v => ∃ t : Nat, vs = [.int (t : Int)] ∧ t ≤ 300 ∧ v = .non
/-! ### once -/
theorem sc_once : FnScope ["rules", "row", "letter"] ["rules", "row"] (defScope sOnce) := ⟨rfl, rfl, rfl, by decide +kernel, rfl, by decide +kernel, by decide +kernel⟩
def preOnce (K : PySem.W.Frag) : List V → Hp → V → Prop := fun vs H v => ∃ a R r, vs = [.ref a, .str (enc r)] ∧ SqL K H a (RL R) ∧ R.length ≤ 26 ∧ RowOk R.length r ∧ r.length < sizeLine ∧ (once R r).length ≤ 16777216 ∧ v = .str (enc (once R r))
theorem ok_once (X : T K mg) : C8.Cal P w K mg base 1 "once" (spV (preOnce K)) [] := by
  refine cal_of X.d_once sc_once (fun _ _ _ _ _ _ us hl => match us, hl with | [_, _], _ => rfl) (fun vs H Q E h => ?_) (fun f cdv A outer s H vs Q E hr h => ?_)
  · obtain ⟨v, ⟨a, R, r, rfl, _⟩, _⟩ := h
    rfl
  · obtain ⟨v, ⟨a, R, r, rfl, hR, h26, hr, hl, hz, rfl⟩, k⟩ := h
    refine ⟨_, pss_one (ps_ret (pe_join pe_empty (pe_lc (own := [("letter", 2)]) (g := gName 2) (tt := tYes) (te := tOp (rIxL K) (tVar 0) (tIdx K (tVar 2))) (by rfl) sc_once.nd (pi_str (pv 1)) (blkOk_by (N := ["rules", "row", "letter"]) (sc := defScope sOnce) (by decide +kernel))
      (fun _ _ _ _ _ => pg_name (i := 2) sc_once.nd rfl (Or.inl rfl)) (fun _ _ _ _ _ => pts_nil)
      (fun _ _ _ _ _ => pe_ix ix_list (pv 0) (pe_idx (C8.pe_gc (by exact rfl) X.LETTERS) (pv 2)) (fun _ _ => rfl))))), ?_⟩
    refine s_ret (ev_join (K := K) (ls := r.map (ruleOf R)) ev_c ?_ hz) k
    rw [List.map_map]
    exact el_str (K := K) (ev_var rfl) _ hl (fun _ => rfl) fun n hn H1 e1 => ev_ix (ev_var rfl) (ex_l e1 hR) (tidx rfl (Nat.lt_of_lt_of_le (hr n hn) h26)) (RL_at (hr n hn))
end
end Gw

namespace Gw
open PySem PySem.Spec PyProof.Rows L2 Evl
theorem int_get {T : List Int} {n : Nat} (h : n < T.length) : (T.map V.int)[n]? = some (.int (T.getD n 0)) := by
  rw [List.getElem?_map, List.getElem?_eq_getElem h]
  simp [h]
section
variable {P : Program} {w : World} {K : PySem.W.Frag} {mg : Str → Option Value} {base : Heap}
/-! ### long_by, counted -/
theorem sc_long_by : FnScope ["table", "row", "letter"] ["table", "row"] (defScope sLong_by) := ⟨rfl, rfl, rfl, by decide +kernel, rfl, by decide +kernel, by decide +kernel⟩
def preLongBy (K : PySem.W.Frag) : List V → Hp → V → Prop := fun vs H v => ∃ a T r, vs = [.ref a, .str (enc r)] ∧ SqL K H a (T.map V.int) ∧ T.length ≤ 26 ∧ RowOk T.length r ∧ r.length < sizeLine ∧ v = .int (longBy T r)
theorem ok_long_by (X : T K mg) : C8.Cal P w K mg base 1 "long_by" (spV (preLongBy K)) [] := by
  refine cal_of X.d_long_by sc_long_by (fun _ _ _ _ _ _ us hl => match us, hl with | [_, _], _ => rfl) (fun vs H Q E h => ?_) (fun f cdv A outer s H vs Q E hr h => ?_)
  · obtain ⟨v, ⟨a, R, r, rfl, _⟩, _⟩ := h
    rfl
  · obtain ⟨v, ⟨a, T, r, rfl, hT, h26, hr0, hl, rfl⟩, k⟩ := h
    refine ⟨_, pss_one (ps_ret (pe_sum rfl X.z_sum (pe_lc (own := [("letter", 2)]) (g := gName 2) (tt := tYes) (te := tOp (rIxL K) (tVar 0) (tIdx K (tVar 2))) (by rfl) sc_long_by.nd (pi_str (pv 1)) (blkOk_by (N := ["table", "row", "letter"]) (sc := defScope sLong_by) (by decide +kernel))
      (fun _ _ _ _ _ => pg_name (i := 2) sc_long_by.nd rfl (Or.inl rfl)) (fun _ _ _ _ _ => pts_nil)
      (fun _ _ _ _ _ => pe_ix ix_list (pv 0) (pe_idx (C8.pe_gc (by exact rfl) X.LETTERS) (pv 2)) (fun _ _ => rfl))))), ?_⟩
    refine s_ret (ev_sumN (K := K) (ns := r.map fun n => T.getD n 0) ?_) k
    rw [List.map_map]
    exact el_str (K := K) (ev_var rfl) _ hl (fun _ => rfl) fun n hn H1 e1 => ev_ix (ev_var rfl) (ex_l e1 hT) (tidx rfl (Nat.lt_of_lt_of_le (hr0 n hn) h26)) (int_get (hr0 n hn))
theorem sc_counted : FnScope ["rules", "row", "letter"] ["rules", "row"] (defScope sCounted) := ⟨rfl, rfl, rfl, by decide +kernel, rfl, by decide +kernel, by decide +kernel⟩
def preCounted (K : PySem.W.Frag) : List V → Hp → List V → Prop := fun vs H xs => ∃ a ys r, vs = [.ref a, .str (enc r)] ∧ SqL K H a ys ∧ ys.length ≤ 26 ∧ xs = (counted ys.length r).map V.int
theorem ok_counted (X : T K mg) : C8.Cal P w K mg base 1 "counted" (spL (preCounted K)) [] := by
  refine cal_of X.d_counted sc_counted (fun _ _ _ _ _ _ us hl => match us, hl with | [_, _], _ => rfl) (fun vs H Q E h => ?_) (fun f cdv A outer s H vs Q E hr h => ?_)
  · obtain ⟨v, ⟨a, R, r, rfl, _⟩, _⟩ := h
    rfl
  · obtain ⟨v, ⟨a, ys, r, rfl, hy, h26, rfl⟩, k⟩ := h
    refine ⟨_, pss_one (ps_ret (pe_lc (own := [("letter", 2)]) (g := gName 2) (tt := tYes) (te := tCnt K (tVar 1) (tVar 2)) (by rfl) sc_counted.nd (pi_str (pe_slice sl_str (C8.pe_gc (by exact rfl) X.LETTERS) po_none (po_some (pe_len X.z_len (pv 0))))) (blkOk_by (N := ["rules", "row", "letter"]) (sc := defScope sCounted) (by decide +kernel))
      (fun _ _ _ _ _ => pg_name (i := 2) sc_counted.nd rfl (Or.inl rfl)) (fun _ _ _ _ _ => pts_nil)
      (fun _ _ _ _ _ => pe_count (pv 1) (pv 2)))), ?_⟩
    unfold counted at k
    rw [List.map_map] at k
    exact s_retL (el_str (K := K) (ev_alphCut ev_c (eo_some (ev_len (ev_var rfl) hy)) h26) _ (by rw [List.length_range]; exact Nat.lt_of_le_of_lt h26 (by decide)) (fun _ => rfl) fun n hn H1 e1 => ev_count (ev_var rfl) (ev_var rfl)) k
/-! ### lengths_of -/
abbrev nLengthsOf : List Str := ["rules", "times", "found", "turn", "last", "rule", "letter"]
theorem sc_lengths_of : FnScope nLengthsOf ["rules", "times"] (defScope sLengths_of) := ⟨rfl, rfl, rfl, by decide +kernel, rfl, by decide +kernel, by decide +kernel⟩
/-- the tables up to times -/
def tabs (R : GRules) (t : Nat) : List (List V) := (List.range (t + 1)).map fun i => (lens R i).map V.int
theorem tabs_snoc (R : GRules) (t : Nat) : tabs R (t + 1) = tabs R t ++ [(lens R (t + 1)).map V.int] := by
  unfold tabs
  rw [List.range_succ, List.map_append]
  rfl
theorem tabs_get {R : GRules} {t i : Nat} (h : i ≤ t) : (tabs R t)[i]? = some ((lens R i).map V.int) := by
  unfold tabs
  rw [List.getElem?_map, List.getElem?_range (by omega)]
  rfl
theorem tabs_length (R : GRules) (t : Nat) : (tabs R t).length = t + 1 := by simp [tabs]
def preLengthsOf (K : PySem.W.Frag) : List V → Hp → List (List V) → Prop := fun vs H xss => ∃ a R, ∃ t : Nat, vs = [.ref a, .int (t : Int)] ∧ RAt K H a R ∧ t ≤ 300 ∧ xss = tabs R t
theorem ok_lengths_of (X : T K mg) : C8.Cal P w K mg base 1 "lengths_of" (spLL (preLengthsOf K)) [] := by
  refine cal_of X.d_lengths_of sc_lengths_of (fun _ _ _ _ _ _ us hl => match us, hl with | [_, _], _ => rfl) (fun vs H Q E h => ?_) (fun f cdv A outer s H vs Q E hr h => ?_)
  · obtain ⟨v, ⟨a, R, t, rfl, _⟩, _⟩ := h
    rfl
  · obtain ⟨v, ⟨a, R, t, rfl, hR, ht, rfl⟩, k⟩ := h
    have nd := sc_lengths_of.nd
    refine ⟨_, pss_cons (ps_set (i := 2) nd rfl (Or.inl rfl) (pe_lst (pa_cons (pe_lc (own := [("rule", 5)]) (g := gName 5) (tt := tYes) (te := tC (.int 1)) (by rfl) nd (pi_list (pv 0)) (blkOk_by (N := nLengthsOf) (sc := defScope sLengths_of) (by decide +kernel))
        (fun _ _ _ _ _ => pg_name (i := 5) nd rfl (Or.inl rfl)) (fun _ _ _ _ _ => pts_nil) (fun _ _ _ _ _ => pe_int)) pa_nil)))
      (pss_cons (ps_for PassesOwn.never rfl (pi_range1 rfl X.z_range (pa_cons (pv 1) pa_nil)) (pg_name (i := 3) nd rfl (Or.inl rfl))
        (pss_cons (ps_set (i := 4) nd rfl (Or.inr rfl) (pe_ix ix_list (pv 2) (pe_un un_neg pe_int) (fun _ _ => rfl)))
        (pss_one (ps_expr (pe_app (pv 2) (pe_lc (own := [("rule", 5)]) (g := gName 5) (tt := tYes)
          (te := tSum K (tLc (iStr (tVar 5)) (gName 6) tYes (tOp (rIxL K) (tVar 4) (tIdx K (tVar 6))) [6])) (by rfl) nd (pi_list (pv 0)) (blkOk_by (N := nLengthsOf) (sc := defScope sLengths_of) (by decide +kernel))
          (fun _ _ _ _ _ => pg_name (i := 5) nd rfl (Or.inl rfl)) (fun _ _ _ _ _ => pts_nil)
          (fun _ _ _ _ _ => pe_sum rfl X.z_sum (pe_lc (own := [("letter", 6)]) (g := gName 6) (tt := tYes) (te := tOp (rIxL K) (tVar 4) (tIdx K (tVar 6))) (by rfl) nd (pi_str (pv 5)) (blkOk_by (by rfl))
            (fun _ _ _ _ _ => pg_name (i := 6) nd rfl (Or.inl rfl)) (fun _ _ _ _ _ => pts_nil)
            (fun _ _ _ _ _ => pe_ix ix_list (pv 4) (pe_idx (C8.pe_gc (by exact rfl) X.LETTERS) (pv 6)) (fun _ _ => rfl))))))))))
      (pss_one (ps_ret (pv 2)))), ?_⟩
    have e0 : EvL (tLc (iList K (tVar 0)) (gName 5) tYes (tC (.int 1)) [5]) (L2.start nLengthsOf [V.ref a, V.int (t : Int)]) H ((lens R 0).map V.int) := by
      show EvL _ _ _ ((R.map fun _ => (1 : Int)).map V.int)
      rw [List.map_map]
      exact el_list (u := fun r => V.str (enc r)) (wi_list (ev_var rfl) hR.at_) _ (Nat.lt_of_le_of_lt hR.ok.few (by decide)) (fun _ => rfl) fun r hr H1 e1 => ev_c
    refine q_asgLL (ell_one e0) fun p as H1 hp has e1 hLL => ?_
    refine q_forR1 (ea_one (ev_var rfl)) ⟨by omega, by omega⟩ (fun i σ' H' => ∃ as u v, σ' = [some (.ref a), some (.int (t : Int)), some (.ref p), u, v, none, none] ∧ Ex H H' ∧ (∀ b ∈ as, H b = none ∧ b ≠ p) ∧ LL H' p as (tabs R i))
      (fun H2 e2 => ⟨as, none, none, rfl, e1.trans e2, has, hLL.mono e2⟩) ?_ ?_
    · rintro i σ' H' hi ⟨as, u, v, rfl, eH, hf, hL⟩
      have hlast : atI (as.map V.ref) (-1) = some (.ref (as.getD i 0)) ∧ H' (as.getD i 0) = some (.lst ((lens R i).map V.int)) := by
        have hl : as.length = i + 1 := by rw [hL.2.1, tabs_length]
        have hi2 : i < as.length := by omega
        refine ⟨?_, hL.2.2 i _ _ (by rw [List.getD_eq_getElem?_getD, List.getElem?_eq_getElem hi2]; rfl) (tabs_get (Nat.le_refl i))⟩
        have e : as.map V.ref = (as.take i).map V.ref ++ [V.ref (as.getD i 0)] := by
          have e2 : as = as.take i ++ [as.getD i 0] := by
            have e3 := List.take_append_drop i as
            rw [List.drop_eq_getElem_cons hi2, List.drop_eq_nil_of_le (by omega)] at e3
            have e4 : as.getD i 0 = as[i] := by simp [hi2]
            rw [e4]
            exact e3.symm
          conv => lhs; rw [e2]
          rw [List.map_append]
          rfl
        rw [e]
        exact atI_last _ _
      obtain ⟨hl1, hl2⟩ := hlast
      refine q_asg (v := .ref (as.getD i 0)) (ev_op (ev_var rfl) (ev_un ev_c ru_neg) (rv_ixL (sq_of hL.1) hl1)) fun H2 e2 => ?_
      have eN : EvL (tLc (iList K (tVar 0)) (gName 5) tYes (tSum K (tLc (iStr (tVar 5)) (gName 6) tYes (tOp (rIxL K) (tVar 4) (tIdx K (tVar 6))) [6])) [5])
          ([some (.ref a), some (.int (t : Int)), some (.ref p), some (.int (i : Int)), some (.ref (as.getD i 0)), none, none] : L2.St) H2 ((lens R (i + 1)).map V.int) := by
        show EvL _ _ _ ((R.map fun r => longBy (lens R i) r).map V.int)
        rw [List.map_map]
        refine el_list (u := fun r => V.str (enc r)) (wi_list (ev_var rfl) (ex_l (eH.trans e2) hR.at_)) _ (Nat.lt_of_le_of_lt hR.ok.few (by decide)) (fun _ => rfl) fun r hr H3 e3 => ?_
        refine ev_sumN (K := K) (ns := r.map fun n => (lens R i).getD n 0) ?_
        rw [List.map_map]
        have hrow := hR.ok.rows r hr
        exact el_str (K := K) (ev_var rfl) _ (Nat.lt_of_le_of_lt (hR.sz r hr) (by decide)) (fun _ => rfl) fun n hn H4 e4 => ev_ix (ev_var rfl) (sq_of (((e2.trans e3).trans e4) _ _ hl2)) (tidx rfl (Nat.lt_of_lt_of_le (hrow n hn) hR.ok.few)) (int_get (by rw [lens_length]; exact hrow n hn))
      refine s_appL (e2 _ _ hL.1) (ev_var rfl) eN (by rw [List.length_map, hL.2.1, tabs_length]; omega) fun b H3 hb e3 h3 => ?_
      have hp3 : H3 p = some (.lst (as.map V.ref)) := e3 _ _ (e2 _ _ hL.1)
      have hpb : b ≠ p := Ne.symm (ne_of_none (e2 _ _ hL.1) hb)
      refine ⟨as ++ [b], _, _, rfl, (eH.trans (e2.trans e3)).mut hp, fun c hc => ?_, ?_⟩
      · rcases List.mem_append.mp hc with hc | hc
        · exact hf c hc
        · rw [List.mem_singleton.mp hc]
          exact ⟨fresh_back (eH.trans e2) hb, hpb⟩
      · rw [tabs_snoc]
        exact ll_snoc (hL.mono (e2.trans e3)) h3 hpb.symm fun c hc => (hf c hc).2
    · rintro σ' H' ⟨as, u, v, rfl, eH, hf, hL⟩
      rw [Int.toNat_natCast] at hL
      exact s_ret (ev_var rfl) fun H2 e2 => k p as H2 hp hf (eH.trans e2) (hL.mono e2)
end
end Gw

namespace Gw
open PySem PySem.Spec PyProof.Rows L2 Evl
/-- a list handed back: the one handed in, or a new one -/
def spQ (pre : List V → Hp → Addr → List V → Prop) : Sp := fun vs H Q _ => ∃ b xs, pre vs H b xs ∧ ∀ q H2, Ex H H2 → (q = b ∨ H q = none) → H2 q = some (.lst xs) → Q (.ref q) H2
theorem el_spQ {σ : L2.St} {H : Hp} {ta tb tc : TE} {E : XK} {x y : V} {ys xs : List V} {pre : List V → Hp → Addr → List V → Prop} (ha : Ev ta σ H x) (hb : EvL tb σ H ys) (hc : Ev tc σ H y)
    (hp : ∀ b H1, Ex H H1 → H1 b = some (.lst ys) → pre [x, .ref b, y] H1 b xs) : EvL (tCall (spQ pre) [] E (tCons ta (tCons tb (tCons tc tNil)))) σ H xs := fun H1 e Q q =>
  ha H1 e _ fun H2 e2 => hb H2 (e.trans e2) _ fun b H3 hb0 e3 h3 => hc H3 ((e.trans e2).trans e3) _ fun H4 e4 => by
    show spQ pre [x, V.ref b, y] H4 Q E
    refine ⟨b, xs, hp b H4 (((e.trans e2).trans e3).trans e4) (e4 _ _ h3), fun p H5 e5 hp0 h5 => q p H5 ?_ (((e2.trans e3).trans e4).trans e5) h5⟩
    rcases hp0 with rfl | hp0
    · exact fresh_back e2 hb0
    · exact fresh_back ((e2.trans e3).trans e4) hp0
/-- the same of an old list -/
theorem s_asgQ {σ : L2.St} {H : Hp} {D : Ends} {tz : TS} {i : Nat} {b : Addr} {ta : TA} {E : XK} {vs xs : List V} {pre : List V → Hp → Addr → List V → Prop} (ha : EvA ta σ H vs) (hp : ∀ H1, Ex H H1 → pre vs H1 b xs)
    (k : ∀ q H1, Ex H H1 → (q = b ∨ H q = none) → H1 q = some (.lst xs) → tz D (σ.set i (some (.ref q))) H1) : tSeq (tAsg (tCall (spQ pre) [] E ta) (gName i)) tz D σ H := ha H (Ex.refl H) _ fun H1 e1 => by
  rw [List.append_nil]
  exact ⟨b, xs, hp H1 e1, fun q H2 e2 hq h2 => k q H2 (e1.trans e2) (hq.imp id fun h => fresh_back e1 h) h2⟩
section
variable {P : Program} {w : World} {K : PySem.W.Frag} {mg : Str → Option Value} {base : Heap}
/-! ### grown_counts -/
abbrev nGC : List Str := ["rules", "now", "times", "told", "turn", "rule", "many", "k"]
theorem sc_gc : FnScope nGC ["rules", "now", "times"] (defScope sGrown_counts) := ⟨rfl, rfl, rfl, by decide +kernel, rfl, by decide +kernel, by decide +kernel⟩
def toldOf (R : GRules) : List (List Int) := R.map (counted R.length)
theorem told_get {R : GRules} {i : Nat} (h : i < R.length) : ((toldOf R).map fun l => l.map V.int)[i]? = some (((toldOf R).getD i []).map V.int) := by
  have h2 : i < (toldOf R).length := by unfold toldOf; rw [List.length_map]; exact h
  rw [List.getElem?_map, List.getElem?_eq_getElem h2]
  simp [h2]
theorem told_len {R : GRules} {i : Nat} (h : i < R.length) : ((toldOf R).getD i []).length = R.length := by
  unfold toldOf
  rw [List.getD_eq_getElem?_getD, List.getElem?_map, List.getElem?_eq_getElem h]
  exact counted_length _ _
theorem told_small {R : GRules} (hz : ∀ r ∈ R, r.length ≤ 100000) (i k : Nat) : -(2 ^ 64) < ((toldOf R).getD i []).getD k 0 ∧ ((toldOf R).getD i []).getD k 0 < 2 ^ 64 := by
  have e : (toldOf R).getD i [] = ((R[i]?).map (counted R.length)).getD [] := by
    unfold toldOf
    rw [List.getD_eq_getElem?_getD, List.getElem?_map]
  rw [e]
  cases h : R[i]? with
  | none => simp
  | some r =>
    show -(2 ^ 64) < (counted R.length r).getD k 0 ∧ (counted R.length r).getD k 0 < 2 ^ 64
    by_cases hk : k < R.length
    · rw [counted_getD hk]
      have h1 := hz r (List.mem_of_getElem? h)
      have h2 : r.count k ≤ r.length := List.count_le_length
      omega
    · rw [List.getD_eq_getElem?_getD, List.getElem?_eq_none (by rw [counted_length]; omega)]
      simp
def preGC (K : PySem.W.Frag) : List V → Hp → Addr → List V → Prop := fun vs H b xs => ∃ a R, ∃ now : List Int, ∃ t : Nat, vs = [.ref a, .ref b, .int (t : Int)] ∧ RAt K H a R ∧ H b = some (.lst (now.map V.int)) ∧ now.length = R.length ∧ t ≤ 300 ∧ xs = (gcs R t now).map V.int
abbrev tZip (K : PySem.W.Frag) : TE := tLc (iZip K (tCons (tVar 1) (tCons (tVar 3) tNil))) (gTup K 2 (gCons (gName 6) (gCons (gName 5) gNil))) tYes (tOp (rI CMul fun i j => .int (i * j)) (tVar 6) (tOp (rIxL K) (tVar 5) (tVar 7))) [6, 5]
theorem ev_zipSum {σ : L2.St} {H : Hp} {q p : Addr} {as : List Addr} {R : GRules} {now : List Int} {k : Nat} (hR : RulesOk R) (hz : ∀ r ∈ R, r.length ≤ 100000) (hk : k < R.length) (h1 : σ[1]? = some (some (.ref q))) (h3 : σ[3]? = some (some (.ref p))) (h7 : σ[7]? = some (some (.int (k : Int)))) (hl : 8 = σ.length)
    (hq : H q = some (.lst (now.map V.int))) (hn : now.length = R.length) (hL : LL H p as ((toldOf R).map fun l => l.map V.int)) : Ev (tSum K (tZip K)) σ H (.int (dot k now (toldOf R))) := by
  have tl : (toldOf R).length = R.length := List.length_map _
  rw [← dot_range k now (toldOf R) (by rw [hn, tl])]
  refine ev_sumN ?_
  rw [List.map_map]
  have al : as.length = R.length := by rw [hL.2.1, List.length_map, tl]
  refine el_any (wi_zip (ea_two (ev_var h1) (ev_var h3)) (sq_of hq) (sq_of hL.1) (by rw [List.length_map, List.length_map, al, hn, Nat.min_self])) _ (by have := hR.few; rw [hn]; exact Nat.lt_of_le_of_lt this (by decide)) fun i x H1 H2 hi e1 y Q kk => ?_
  obtain ⟨T, u, v, rfl, hT, rfl, hu, hv⟩ := y
  have hu : (now.map V.int)[i]? = some u := hu
  rw [int_get hi] at hu
  cases hu
  have hiR : i < R.length := by rw [← hn]; exact hi
  obtain ⟨c, hc1, hc2⟩ := hL.get (told_get hiR)
  have hv : (as.map V.ref)[i]? = some v := hv
  rw [hc1] at hv
  cases hv
  have eT : Ex H1 (upd H1 T (.tup [V.int (now.getD i 0), V.ref c])) := Ex.new hT
  refine ⟨T, _, rfl, st_of upd_same, rfl, _, _, rfl, _, _, rfl, rfl, kk _ _ ?_ eT ?_⟩
  · match σ, hl with
    | [_, _, _, _, _, _, _, _], _ => rfl
  · match σ, hl, h7 with
    | [_, _, _, _, _, _, _, s7], _, h7 =>
      refine ev_mul (ev_var rfl) (ev_ix (n := k) (ev_var rfl) (sq_of ((e1.trans eT) _ _ hc2)) ?_ (int_get (by rw [told_len hiR]; exact hk))) (.inr (told_small hz i k))
      exact ev_var h7
theorem ok_gc (X : T K mg) : C8.Cal P w K mg base 2 "grown_counts" (spQ (preGC K)) [] := by
  refine cal_of X.d_grown_counts sc_gc (fun _ _ _ _ _ _ us hl => match us, hl with | [_, _, _], _ => rfl) (fun vs H Q E h => ?_) (fun f cdv A outer s H vs Q E hr h => ?_)
  · obtain ⟨v, xs, ⟨a, R, now, t, rfl, _⟩, _⟩ := h
    rfl
  · obtain ⟨b, xs, ⟨a, R, now, t, rfl, hR, hb, hnow, ht, rfl⟩, k⟩ := h
    have nd := sc_gc.nd
    refine ⟨_, pss_cons (ps_set (i := 3) nd rfl (Or.inr rfl) (pe_lc (own := [("rule", 5)]) (g := gName 5) (tt := tYes) (te := tCall (spL (preCounted K)) [] E0 (tCons (tVar 0) (tCons (tVar 5) tNil))) (by rfl) nd (pi_list (pv 0)) (blkOk_by (N := nGC) (sc := defScope sGrown_counts) (by decide +kernel))
        (fun _ _ _ _ _ => pg_name (i := 5) nd rfl (Or.inl rfl)) (fun _ _ _ _ _ => pts_nil) (fun _ _ _ _ _ => C8.pe_c (ok_counted X) hr (by decide) rfl (pa_cons (pv 0) (pa_cons (pv 5) pa_nil)))))
      (pss_cons (ps_for PassesOwn.never rfl (pi_range1 rfl X.z_range (pa_cons (pv 2) pa_nil)) (pg_name (i := 4) nd rfl (Or.inl rfl))
        (pss_one (ps_set (i := 1) nd rfl (Or.inr rfl) (pe_lc (own := [("k", 7)]) (g := gName 7) (tt := tYes) (te := tSum K (tZip K)) (by rfl) nd (pi_range1 rfl X.z_range (pa_cons (pe_len X.z_len (pv 0)) pa_nil)) (blkOk_by (N := nGC) (sc := defScope sGrown_counts) (by decide +kernel))
          (fun _ _ _ _ _ => pg_name (i := 7) nd rfl (Or.inr rfl)) (fun _ _ _ _ _ => pts_nil)
          (fun _ _ _ _ _ => pe_sum rfl X.z_sum (pe_lc (own := [("many", 6), ("rule", 5)]) (g := gTup K 2 (gCons (gName 6) (gCons (gName 5) gNil))) (tt := tYes) (te := tOp (rI CMul fun i j => .int (i * j)) (tVar 6) (tOp (rIxL K) (tVar 5) (tVar 7))) (by rfl) nd (pi_zip (by exact rfl) X.z_zip (pa_cons (pv 1) (pa_cons (pv 3) pa_nil))) (blkOk_by (by rfl))
            (fun _ _ _ _ _ => pg_tup rfl (pgs_cons (pg_name (i := 6) nd rfl (Or.inl rfl)) (pgs_cons (pg_name (i := 5) nd rfl (Or.inl rfl)) pgs_nil))) (fun _ _ _ _ _ => pts_nil)
            (fun _ _ _ _ _ => pe_op op_mul (pv 6) (pe_ix ix_list (pv 5) (pv 7) (fun _ _ => rfl)))))))))
      (pss_one (ps_ret (pv 1)))), ?_⟩
    have e0 : EvLL (tLc (iList K (tVar 0)) (gName 5) tYes (tCall (spL (preCounted K)) [] E0 (tCons (tVar 0) (tCons (tVar 5) tNil))) [5]) (L2.start nGC [V.ref a, V.ref b, V.int (t : Int)]) H ((toldOf R).map fun l => l.map V.int) := by
      unfold toldOf
      rw [List.map_map]
      refine ell_list (u := fun r => V.str (enc r)) (wi_list (ev_var rfl) hR.at_) _ (Nat.lt_of_le_of_lt hR.ok.few (by decide)) (fun _ => rfl) fun r hr H1 e1 => ?_
      exact el_spL (ea_two (ev_var rfl) (ev_var rfl)) fun H2 e2 => ⟨a, RL R, r, rfl, ex_l (e1.trans e2) hR.at_, by rw [RL_len]; exact hR.ok.few, by rw [RL_len]; rfl⟩
    refine q_asgLL e0 fun p as H1 hp has e1 hLL => ?_
    refine q_forR1 (ea_one (ev_var rfl)) ⟨by omega, by omega⟩ (fun i σ' H' => ∃ q u, σ' = [some (.ref a), some (.ref q), some (.int (t : Int)), some (.ref p), u, none, none, none] ∧ Ex H H' ∧ (q = b ∨ H q = none) ∧ H' q = some (.lst ((gtimes (toldOf R) R.length i now).map V.int)) ∧ LL H' p as ((toldOf R).map fun l => l.map V.int))
      (fun H2 e2 => ⟨b, none, rfl, e1.trans e2, .inl rfl, (e1.trans e2) _ _ hb, hLL.mono e2⟩) ?_ ?_
    · rintro i σ' H' hi ⟨q, u, rfl, eH, hq0, hq, hL⟩
      refine s_asgL (xs := (gtimes (toldOf R) R.length (i + 1) now).map V.int) ?_ fun q' H2 hq' e2 h2 => ⟨q', _, rfl, eH.trans e2, .inr (fresh_back eH hq'), h2, hL.mono e2⟩
      rw [gtimes_succ]
      unfold gstep
      rw [List.map_map]
      refine el_rng (by have z := ev_len (K := K) (σ := ([some (.ref a), some (.ref q), some (.int (t : Int)), some (.ref p), some (.int (i : Int)), none, none, none] : L2.St)) (ta := tVar 0) (ev_var rfl) (ex_l eH hR.at_); rw [RL_len] at z; exact ea_one z) _ (Nat.lt_of_le_of_lt hR.ok.few (by decide)) (fun _ => rfl) fun j hj H2 e2 => ?_
      exact ev_zipSum hR.ok hR.sz hj rfl rfl rfl rfl (e2 _ _ hq) (gtimes_length _ _ _ _ hnow) (hL.mono e2)
    · rintro σ' H' ⟨q, u, rfl, eH, hq0, hq, hL⟩
      rw [Int.toNat_natCast] at hq
      exact s_ret (ev_var rfl) fun H2 e2 => k q H2 (eH.trans e2) hq0 (e2 _ _ hq)
end
end Gw

namespace Gw
open PySem PySem.Spec PyProof.Rows L2 Evl
theorem once_length (R : GRules) : ∀ r : GRow, (r.map fun n => ((ruleOf R n).length : Int)).sum = ((once R r).length : Int)
  | [] => rfl
  | n :: r => by rw [List.map_cons, List.sum_cons, once_length R r, once_cons, List.length_append, Int.natCast_add]
/-- an item of a new list of new lists -/
theorem el_ixLL {K : PySem.W.Frag} {σ : L2.St} {H : Hp} {te ti : TE} {xss : List (List V)} {xs : List V} {i : Nat} (h : EvLL te σ H xss) (hi : Ev ti σ H (.int (i : Int))) (hx : xss[i]? = some xs) : EvL (tOp (rIxL K) te ti) σ H xs := fun H1 e Q q =>
  h H1 e _ fun p as H2 hp has e2 hL => hi H2 (e.trans e2) _ fun H3 e3 => by
    obtain ⟨c, hc1, hc2⟩ := (hL.mono e3).get hx
    have hm : c ∈ as := by
      have := List.mem_of_getElem? hc1
      obtain ⟨d, hd, e⟩ := List.mem_map.mp this
      cases e
      exact hd
    exact ⟨p, as.map V.ref, (i : Int), .ref c, rfl, rfl, sq_of (e3 _ _ hL.1), atI_nat hc1, q c H3 (has c hm).1 (e2.trans e3) hc2⟩
/-- a call whose first argument is a new list -/
theorem ev_spVL {σ : L2.St} {H : Hp} {ta tb : TE} {E : XK} {y v : V} {xs : List V} {pre : List V → Hp → V → Prop} (ha : EvL ta σ H xs) (hb : Ev tb σ H y) (hp : ∀ b H1, Ex H H1 → H1 b = some (.lst xs) → pre [.ref b, y] H1 v) :
    Ev (tCall (spV pre) [] E (tCons ta (tCons tb tNil))) σ H v := fun H1 e Q q =>
  ha H1 e _ fun b H2 _ e2 h2 => hb H2 (e.trans e2) _ fun H3 e3 => by
    show spV pre [V.ref b, y] H3 Q E
    exact ⟨v, hp b H3 ((e.trans e2).trans e3) (e3 _ _ h2), fun H4 e4 => q H4 ((e2.trans e3).trans e4)⟩
section
variable {P : Program} {w : World} {K : PySem.W.Frag} {mg : Str → Option Value} {base : Heap}
theorem ev_ask (K : PySem.W.Frag) {σ : L2.St} {H : Hp} {a : Addr} {R : GRules} (h0 : σ[0]? = some (some (.ref a))) (hR : RAt K H a R) : Ev (tCall (spV (preAskRules K)) [] E0 (tCons (tVar 0) tNil)) σ H .non := ev_spV (ea_one (ev_var h0)) fun H1 e1 => ⟨a, R, rfl, hR.ex e1, rfl⟩
theorem ev_askRow (K : PySem.W.Frag) {σ : L2.St} {H : Hp} {a : Addr} {R : GRules} {r : GRow} (h0 : σ[0]? = some (some (.ref a))) (h1 : σ[1]? = some (some (.str (enc r)))) (hR : RAt K H a R) (hr : RowOk R.length r) (hz : r.length ≤ sizeLine) : Ev (tCall (spV (preAskRow K)) [] E0 (tCons (tVar 0) (tCons (tVar 1) tNil))) σ H .non :=
  ev_spV (ea_two (ev_var h0) (ev_var h1)) fun H1 e1 => ⟨a, R, r, rfl, hR.ex e1, hr, hz, rfl⟩
theorem ev_askTimes {σ : L2.St} {H : Hp} {t : Nat} (h2 : σ[2]? = some (some (.int (t : Int)))) (ht : t ≤ 300) : Ev (tCall (spV preAskTimes) [] E0 (tCons (tVar 2) tNil)) σ H .non := ev_spV (ea_one (ev_var h2)) fun H1 e1 => ⟨t, rfl, ht, rfl⟩
/-- what counts, length, letter, first ask at their doors -/
structure Asked (K : PySem.W.Frag) (H : Hp) (a : Addr) (R : GRules) (r : GRow) (t : Nat) : Prop where
  rules : RAt K H a R
  row : RowOk R.length r
  sz : r.length < sizeLine
  times : t ≤ 300
theorem Asked.ex {H H' : Hp} {a : Addr} {R : GRules} {r : GRow} {t : Nat} (h : Asked K H a R r t) (e : Ex H H') : Asked K H' a R r t := ⟨h.rules.ex e, h.row, h.sz, h.times⟩
/-! ### counts, length -/
def preCounts (K : PySem.W.Frag) : List V → Hp → List V → Prop := fun vs H xs => ∃ a R r, ∃ t : Nat, vs = [.ref a, .str (enc r), .int (t : Int)] ∧ Asked K H a R r t ∧ xs = (counted R.length (grow R t r)).map V.int
def preLength (K : PySem.W.Frag) : List V → Hp → V → Prop := fun vs H v => ∃ a R r, ∃ t : Nat, vs = [.ref a, .str (enc r), .int (t : Int)] ∧ Asked K H a R r t ∧ v = .int ((grow R t r).length : Int)
/-! ### grown -/
abbrev nGrown : List Str := ["rules", "row", "times", "now", "turn", "letter"]
def preGrown (K : PySem.W.Frag) : List V → Hp → V → Prop := fun vs H v => ∃ a R r, ∃ t : Nat, vs = [.ref a, .str (enc r), .int (t : Int)] ∧ Asked K H a R r t ∧ (∀ i, i < t → (grow R (i + 1) r).length ≤ 100000) ∧ v = .str (enc (grow R t r))
end
end Gw

namespace Gw
open PySem PySem.Spec PyProof.Rows L2 Evl
section
variable {P : Program} {w : World} {K : PySem.W.Frag} {mg : Str → Option Value} {base : Heap}
/-! ### the law's own rules -/
structure GoodR (R : GRules) : Prop where
  ok : RulesOk R
  sz : ∀ r ∈ R, r.length ≤ 100
abbrev nLR : List Str := ["_law_script", "_law_kind", "_law_many", "_law_rules_here", "_law_cell", "_law_at", "_law_put", "_law_again", "_law_place", "_law_rule"]
theorem sc_lr : FnScope nLR ["_law_script"] (defScope sLaw_rules) := ⟨rfl, rfl, rfl, by decide +kernel, rfl, by decide +kernel, by decide +kernel⟩
def spLR (K : PySem.W.Frag) : Sp := fun vs H Q _ => ∃ a, ∃ ns : List Int, vs = [.ref a] ∧ SqL K H a (ns.map V.int) ∧ ns.length ≤ 63 ∧ ∀ p H2 R, H p = none → Ex H H2 → H2 p = some (.lst (RL R)) → GoodR R → Q (.ref p) H2
/-- rules while they are made: m of them, of at most i letters -/
structure HalfR (R : GRules) (m : Int) (i : Nat) : Prop where
  len : (R.length : Int) = m
  lo : 1 ≤ m
  hi : m ≤ 26
  rows : ∀ r ∈ R, RowOk R.length r
  sz : ∀ r ∈ R, r.length ≤ i
theorem HalfR.set {R : GRules} {m : Int} {i j n : Nat} (h : HalfR R m i) (hn : n < R.length) : HalfR (R.set j (ruleOf R j ++ [n])) m (i + 1) := by
  have hl : (R.set j (ruleOf R j ++ [n])).length = R.length := List.length_set ..
  refine ⟨by rw [hl]; exact h.len, h.lo, h.hi, fun r hr => ?_, fun r hr => ?_⟩
  · rw [hl]
    rcases List.mem_or_eq_of_mem_set hr with hr | rfl
    · exact h.rows r hr
    · refine RowOk.append ?_ (RowOk.cons hn (RowOk.nil _))
      by_cases hj : j < R.length
      · exact h.rows _ (List.mem_of_getElem? (rule_get hj))
      · have : ruleOf R j = [] := by
          unfold ruleOf
          rw [List.getD_eq_getElem?_getD, List.getElem?_eq_none (by omega)]
          rfl
        rw [this]
        exact RowOk.nil _
  · rcases List.mem_or_eq_of_mem_set hr with hr | rfl
    · exact Nat.le_succ_of_le (h.sz r hr)
    · rw [List.length_append]
      by_cases hj : j < R.length
      · have := h.sz _ (List.mem_of_getElem? (rule_get hj))
        simp
        omega
      · have : ruleOf R j = [] := by
          unfold ruleOf
          rw [List.getD_eq_getElem?_getD, List.getElem?_eq_none (by omega)]
          rfl
        rw [this]
        simp
theorem RL_set {R : GRules} {j : Nat} {r : GRow} : (RL R).set j (.str (enc r)) = RL (R.set j r) := by
  unfold RL
  rw [List.map_set]
/-- each one begun with its own letter -/
def begun (R : GRules) : GRules := (List.range R.length).map fun i => i :: ruleOf R i
theorem begun_half {R : GRules} {m : Int} {i : Nat} (h : HalfR R m i) : HalfR (begun R) m (i + 1) := by
  have hl : (begun R).length = R.length := by simp [begun]
  refine ⟨by rw [hl]; exact h.len, h.lo, h.hi, fun r hr => ?_, fun r hr => ?_⟩
  · rw [hl]
    obtain ⟨j, hj, rfl⟩ := List.mem_map.mp hr
    have hj := List.mem_range.mp hj
    exact RowOk.cons hj (h.rows _ (List.mem_of_getElem? (rule_get hj)))
  · obtain ⟨j, hj, rfl⟩ := List.mem_map.mp hr
    have hj := List.mem_range.mp hj
    have := h.sz _ (List.mem_of_getElem? (rule_get hj))
    rw [List.length_cons]
    omega
/-- long ones, cut -/
def again (R : GRules) (k : Nat) : GRules := R.map fun r => ((List.replicate k r).flatten).take 100
theorem rep_ok {n k : Nat} {r : GRow} (h : RowOk n r) : RowOk n (List.replicate k r).flatten := fun m hm => by
  obtain ⟨l, hl, hm⟩ := List.mem_flatten.mp hm
  rw [List.eq_of_mem_replicate hl] at hm
  exact h m hm
theorem rep_len (k : Nat) (r : GRow) : (List.replicate k r).flatten.length = r.length * k := by
  induction k with
  | zero => rfl
  | succ k ih =>
    rw [List.replicate_succ, List.flatten_cons, List.length_append, ih, Nat.mul_succ]
    omega
theorem again_half {R : GRules} {m : Int} {i : Nat} (h : HalfR R m i) (k : Nat) : HalfR (again R k) m 100 := by
  have hl : (again R k).length = R.length := by simp [again]
  refine ⟨by rw [hl]; exact h.len, h.lo, h.hi, fun r hr => ?_, fun r hr => ?_⟩
  · rw [hl]
    obtain ⟨q, hq, rfl⟩ := List.mem_map.mp hr
    exact RowOk.take 100 (rep_ok (h.rows q hq))
  · obtain ⟨q, hq, rfl⟩ := List.mem_map.mp hr
    rw [List.length_take]
    omega
theorem HalfR.good {R : GRules} {m : Int} {i : Nat} (h : HalfR R m i) (hi : i ≤ 100) : GoodR R :=
  ⟨⟨by have := h.len; have := h.lo; omega, by have := h.len; have := h.hi; omega, h.rows⟩, fun r hr => Nat.le_trans (h.sz r hr) hi⟩
abbrev tBegin : TE := tOp rCatS (tOp rIxS tAl (tVar 5)) (tVar 9)
abbrev tAgain : TE := tSl rSlS (tOp rRepS (tVar 9) (tVar 7)) tNoPart (tPart (tC (.int 100)))
theorem four {xs : List V} {i : Int} (x0 x1 x2 x3 : V) (h : xs = [x0, x1, x2, x3]) (h0 : 0 ≤ i) (h4 : i < 4) {C : V → Prop} (c0 : C x0) (c1 : C x1) (c2 : C x2) (c3 : C x3) : ∃ v, atI xs i = some v ∧ C v := by
  subst h
  have : i = ((0 : Nat) : Int) ∨ i = ((1 : Nat) : Int) ∨ i = ((2 : Nat) : Int) ∨ i = ((3 : Nat) : Int) := by omega
  rcases this with rfl | rfl | rfl | rfl
  · exact ⟨x0, atI_nat rfl, c0⟩
  · exact ⟨x1, atI_nat rfl, c1⟩
  · exact ⟨x2, atI_nat rfl, c2⟩
  · exact ⟨x3, atI_nat rfl, c3⟩
theorem ok_lr (X : T K mg) : C8.Cal P w K mg base 1 "_law_rules" (spLR K) [] := by
  refine cal_of X.d_law_rules sc_lr (fun _ _ _ _ _ _ us hl => match us, hl with | [_], _ => rfl) (fun vs H Q E h => ?_) (fun f cdv A outer s H vs Q E hr h => ?_)
  · obtain ⟨a, ns, rfl, _⟩ := h
    rfl
  · obtain ⟨a, ns, rfl, hS, hns, k⟩ := h
    have nd := sc_lr.nd
    refine ⟨_, pss_cons (ps_set (i := 1) nd rfl (Or.inl rfl) (pe_op op_mod (pe_sum rfl X.z_sum (pv 0)) pe_int))
      (pss_cons (ps_set (i := 2) nd rfl (Or.inl rfl) (pe_ix ix_tup (pe_tup (pa_cons pe_int (pa_cons pe_int (pa_cons (pe_op op_add pe_int (pe_op op_mod (pe_op op_fdiv (pe_len X.z_len (pv 0)) pe_int) pe_int)) (pa_cons pe_int pa_nil))))) (pv 1) (fun _ _ => rfl)))
      (pss_cut (ps_if (pt_cmpR op_eq (pe_op op_mod (pe_op op_fdiv (pe_sum rfl X.z_sum (pv 0)) pe_int) pe_int) pe_int (nomark _)) (pss_one (ps_set (i := 2) nd rfl (Or.inl rfl) (pe_op op_add pe_int (pe_op op_mod (pe_op op_fdiv (pe_sum rfl X.z_sum (pv 0)) pe_int) pe_int)))) pss_nil)
      (pss_cons (ps_setLc (i := 3) (own := [("_law_place", 8)]) (g := gName 8) (tt := tYes) (te := tC (.str (enc []))) rfl nd rfl rfl (sw_true rfl rfl rfl (by decide +kernel)) (pi_range1 rfl X.z_range (pa_cons (pv 2) pa_nil)) (blkOk_by (N := nLR) (sc := defScope sLaw_rules) (by decide +kernel))
          (fun _ _ _ _ _ => pg_name (i := 8) nd rfl (Or.inl rfl)) (fun _ _ _ _ _ => pts_nil) (fun _ _ _ _ _ => pe_empty))
      (pss_cons (ps_for PassesOwn.never rfl (pi_list (pe_slice sl_list (pv 0) po_none (po_some pe_int))) (pg_name (i := 4) nd rfl (Or.inl rfl))
        (pss_cons (ps_set (i := 5) nd rfl (Or.inl rfl) (pe_op op_mod (pe_op op_fdiv (pv 4) (pv 2)) (pv 2)))
        (pss_cons (ps_set (i := 6) nd rfl (Or.inl rfl) (pe_ix ix_str pe_alph (pe_op op_mod (pv 4) (pv 2)) (fun _ _ => rfl)))
        (pss_one (ps_asg (pe_op op_add_str (pe_ix ix_list (pv 3) (pv 5) (fun _ _ => rfl)) (pv 6)) (pg_sub (pv 3) (pv 5) set_list))))))
      (pss_cut (ps_if (pt_cmpR op_eq (pv 1) pe_int (nomark _)) (pss_one (ps_setLc (i := 3) (own := [("_law_at", 5), ("_law_rule", 9)]) (g := gTup K 2 (gCons (gName 5) (gCons (gName 9) gNil))) (tt := tYes) (te := tBegin) rfl nd rfl rfl (sw_true rfl rfl rfl (by decide +kernel))
          (pi_enum (by exact rfl) X.z_enumerate (pa_cons (pv 3) pa_nil)) (blkOk_by (N := nLR) (sc := defScope sLaw_rules) (by decide +kernel))
          (fun _ _ _ _ _ => pg_tup rfl (pgs_cons (pg_name (i := 5) nd rfl (Or.inl rfl)) (pgs_cons (pg_name (i := 9) nd rfl (Or.inl rfl)) pgs_nil))) (fun _ _ _ _ _ => pts_nil)
          (fun _ _ _ _ _ => pe_op op_add_str (pe_ix ix_str pe_alph (pv 5) (fun _ _ => rfl)) (pv 9)))) pss_nil)
      (pss_cut (ps_if (pt_cmpR op_eq (pe_op op_mod (pe_op op_fdiv (pe_sum rfl X.z_sum (pv 0)) pe_int) pe_int) pe_int (nomark _))
          (pss_cons (ps_set (i := 7) nd rfl (Or.inr rfl) (pe_op op_add pe_int (pe_op op_mod (pe_op op_fdiv (pe_sum rfl X.z_sum (pv 0)) pe_int) pe_int)))
          (pss_one (ps_setLc (i := 3) (own := [("_law_rule", 9)]) (g := gName 9) (tt := tYes) (te := tAgain) rfl nd rfl rfl (sw_true rfl rfl rfl (by decide +kernel)) (pi_list (pv 3)) (blkOk_by (N := nLR) (sc := defScope sLaw_rules) (by decide +kernel))
            (fun _ _ _ _ _ => pg_name (i := 9) nd rfl (Or.inl rfl)) (fun _ _ _ _ _ => pts_nil) (fun _ _ _ _ _ => pe_slice sl_str (pe_op op_repS (pv 9) (pv 7)) po_none (po_some pe_int))))) pss_nil)
      (pss_one (ps_ret (pv 3))))))))), ?_⟩
    have hsum : ∀ {σ : L2.St} {H' : Hp}, σ[0]? = some (some (.ref a)) → Ex H H' → Ev (tSum K (tVar 0)) σ H' (.int ns.sum) := fun h0 e => ev_sum (ev_var h0) (ex_l e hS)
    -- kind, many
    refine q_asg (ev_mod (hsum rfl (Ex.refl H)) ev_c (by decide)) fun H1 e1 => ?_
    have hk0 : 0 ≤ ns.sum % 4 := Int.emod_nonneg _ (by decide)
    have hk4 : ns.sum % 4 < 4 := Int.emod_lt_of_pos _ (by decide)
    have hm0 : 0 ≤ ((ns.map V.int).length : Int) / 5 % 12 := Int.emod_nonneg _ (by decide)
    have hm1 : ((ns.map V.int).length : Int) / 5 % 12 < 12 := Int.emod_lt_of_pos _ (by decide)
    obtain ⟨v, hv, m, rfl, hlo, hhi⟩ : ∃ v, atI [V.int 2, V.int 3, V.int (1 + ((ns.map V.int).length : Int) / 5 % 12), V.int 4] (ns.sum % 4) = some v ∧ ∃ m : Int, v = .int m ∧ 1 ≤ m ∧ m ≤ 26 :=
      four _ _ _ _ rfl hk0 hk4 ⟨2, rfl, by decide, by decide⟩ ⟨3, rfl, by decide, by decide⟩ ⟨_, rfl, by omega, by omega⟩ ⟨4, rfl, by decide, by decide⟩
    refine q_asg (v := .int m) (ev_ixU (eu_tup (ea_cons ev_c (ea_cons ev_c (ea_cons (ev_addI ev_c (ev_mod (ev_div (ev_len (ev_var rfl) (ex_l e1 hS)) ev_c (by decide) (by decide)) ev_c (by decide))) (ea_one ev_c)))) (by show 4 ≤ 100000; decide)) (ev_var rfl) hv) fun H2 e2 => ?_
    -- perhaps more of them
    refine q_cut (M := fun σ' H' => ∃ m : Int, σ' = [some (.ref a), some (.int (ns.sum % 4)), some (.int m), none, none, none, none, none, none, none] ∧ Ex H H' ∧ 1 ≤ m ∧ m ≤ 26)
      (s_when (et_test (ev_op (ev_mod (ev_div (hsum rfl (e1.trans e2)) ev_c (by decide) (by decide)) ev_c (by decide)) ev_c (rv_eq rfl)))
        (fun _ H3 e3 => s_asg (ev_addI ev_c (ev_mod (ev_div (hsum rfl ((e1.trans e2).trans e3)) ev_c (by decide) (by decide)) ev_c (by decide))) fun H4 e4 => ⟨_, rfl, ((e1.trans e2).trans e3).trans e4, by
          have h1 : 0 ≤ ns.sum / 36 % 14 := Int.emod_nonneg _ (by decide)
          omega, by
          have h2 : ns.sum / 36 % 14 < 14 := Int.emod_lt_of_pos _ (by decide)
          omega⟩)
        fun _ H3 e3 => ⟨m, rfl, (e1.trans e2).trans e3, hlo, hhi⟩) ?_
    rintro _ H5 ⟨m, rfl, e5, hlo, hhi⟩
    -- none of them has a letter
    obtain ⟨mn, rfl⟩ : ∃ mn : Nat, m = (mn : Int) := ⟨m.toNat, by omega⟩
    refine q_asgL (xs := RL ((List.range mn).map fun _ => [])) (by
      unfold RL
      rw [List.map_map]
      exact el_rng (ea_one (ev_var rfl)) _ (Nat.lt_of_le_of_lt (show mn ≤ 26 by omega) (by decide)) (fun _ => rfl) fun _ _ _ _ => ev_c) fun q H6 hq e6 h6 => ?_
    have hq0 : H q = none := fresh_back e5 hq
    have e06 := e5.trans e6
    have hR0 : HalfR ((List.range mn).map fun _ => []) (mn : Int) 0 := ⟨by simp, hlo, hhi, fun r hr => by
      obtain ⟨_, _, rfl⟩ := List.mem_map.mp hr
      exact RowOk.nil _, fun r hr => by
      obtain ⟨_, _, rfl⟩ := List.mem_map.mp hr
      exact Nat.zero_le _⟩
    refine q_forNLn (el_take (n := 63) (ev_var rfl) (eo_some ev_c) (ex_l e06 hS)) (fun p i σ' H' => ∃ R c u v, σ' = [some (.ref a), some (.int (ns.sum % 4)), some (.int (mn : Int)), some (.ref q), c, u, v, none, none, none] ∧ Ex H H' ∧ H' q = some (.lst (RL R)) ∧ HalfR R (mn : Int) i ∧ H' p = some (.lst ((ns.map V.int).take 63)) ∧ p ≠ q)
      (fun p H7 hp7 e7 h7 => ⟨_, none, none, none, rfl, e06.trans e7, e7 _ _ h6, hR0, h7, Ne.symm (ne_of_none h6 hp7)⟩) (fun p i σ' H' _ ⟨_, _, _, _, _, _, _, _, hp, _⟩ => sq_of hp) ?_ ?_
    · rintro p i x σ' H' hx ⟨R, c, u, v, rfl, eH, hRq, hR, hp, hpq⟩
      have hxm := List.mem_of_getElem? hx
      obtain ⟨z, hz, rfl⟩ := List.mem_map.mp (List.mem_of_mem_take hxm)
      have hmp : (0 : Int) < (mn : Int) := by omega
      have ha0 : 0 ≤ z / (mn : Int) % (mn : Int) := Int.emod_nonneg _ (by omega)
      have ha1 : z / (mn : Int) % (mn : Int) < (mn : Int) := Int.emod_lt_of_pos _ hmp
      have hb0 : 0 ≤ z % (mn : Int) := Int.emod_nonneg _ (by omega)
      have hb1 : z % (mn : Int) < (mn : Int) := Int.emod_lt_of_pos _ hmp
      obtain ⟨j, hj⟩ : ∃ j : Nat, z / (mn : Int) % (mn : Int) = (j : Int) := ⟨_, (Int.toNat_of_nonneg ha0).symm⟩
      obtain ⟨n, hn⟩ : ∃ n : Nat, z % (mn : Int) = (n : Int) := ⟨_, (Int.toNat_of_nonneg hb0).symm⟩
      have hlen := hR.len
      have hjR : j < R.length := by omega
      have hnR : n < R.length := by omega
      refine q_asg (ev_is (ev_mod (ev_div (ev_var rfl) (ev_var rfl) hmp (by omega)) (ev_var rfl) hmp) (congrArg V.int hj)) fun H8 e8 => ?_
      refine q_asg (ev_alphAt (n := n) ev_c (ev_is (ev_mod (ev_var rfl) (ev_var rfl) hmp) (congrArg V.int hn)) rfl (by omega)) fun H9 e9 => ?_
      have e89 := e8.trans e9
      refine s_setL (e89 _ _ hRq) (v := .str (enc (ruleOf R j ++ [n]))) (ev_addS (m := [n]) (ev_ix (ev_var rfl) (sq_of (e89 _ _ hRq)) (ev_var rfl) (RL_at hjR)) (ev_var rfl) ?_) (ev_var rfl) (ev_var rfl) (by rw [RL_len]; exact hjR) fun H10 e10 => ?_
      · have h1 := hR.sz _ (List.mem_of_getElem? (rule_get hjR))
        have h2 : i < 63 := by
          have := (List.getElem?_eq_some_iff.mp hx).1
          rw [List.length_take] at this
          omega
        rw [sizeLine_eq]
        simp
        omega
      · refine ⟨R.set j (ruleOf R j ++ [n]), _, _, _, rfl, Ex.mut (eH.trans (e89.trans e10)) hq0, by rw [upd_same, RL_set], hR.set hnR, by rw [upd_ne hpq]; exact (e89.trans e10) _ _ hp, hpq⟩
    · rintro p σ' H' ⟨R, c, u, v, rfl, eH, hRq, hR, hp, hpq⟩
      have hR64 : HalfR R (mn : Int) 63 := ⟨hR.len, hR.lo, hR.hi, hR.rows, fun r hr => Nat.le_trans (hR.sz r hr) (by rw [List.length_take]; exact Nat.min_le_left _ _)⟩
      have hlt : R.length < sizeLine := by
        have := hR.len
        exact Nat.lt_of_le_of_lt (show R.length ≤ 26 by omega) (by decide)
      refine q_cut (M := fun σ' H' => ∃ q R c u v, σ' = [some (.ref a), some (.int (ns.sum % 4)), some (.int (mn : Int)), some (.ref q), c, u, v, none, none, none] ∧ Ex H H' ∧ H q = none ∧ H' q = some (.lst (RL R)) ∧ HalfR R (mn : Int) 64)
        (s_when (et_test (ev_op (ev_var rfl) ev_c (rv_eq rfl))) (fun _ H7 e7 => s_asgL (xs := RL (begun R)) ?_ fun p2 H8 hp2 e8 h8 => ⟨p2, begun R, c, u, v, rfl, (eH.trans e7).trans e8, fresh_back (eH.trans e7) hp2, h8, begun_half hR64⟩)
          fun _ H7 e7 => ⟨q, R, c, u, v, rfl, eH.trans e7, hq0, e7 _ _ hRq, ⟨hR.len, hR.lo, hR.hi, hR.rows, fun r hr => Nat.le_succ_of_le (hR64.sz r hr)⟩⟩) ?_
      · unfold RL begun
        rw [List.map_map]
        have w := wi_enum (K := K) (σ := ([some (.ref a), some (.int (ns.sum % 4)), some (.int (mn : Int)), some (.ref q), c, u, v, none, none, none] : L2.St)) (ta := tCons (tVar 3) tNil) (ea_one (ev_var rfl)) (sq_of (e7 _ _ hRq))
        rw [RL_len] at w
        refine el_any w _ hlt fun i x H1 H2 hi e1 y Q kk => ?_
        obtain ⟨Tt, x1, x2, rfl, hT, rfl, hu, hv⟩ := y
        cases hu
        have hv : (RL R)[i]? = some x2 := hv
        rw [RL_at hi] at hv
        cases hv
        have hlen := hR.len
        refine ⟨Tt, _, rfl, st_of upd_same, rfl, _, _, rfl, _, _, rfl, rfl, kk _ _ rfl (Ex.new hT) ?_⟩
        refine ev_addS (l := [i]) (ev_alphAt (n := i) ev_c (ev_var rfl) rfl (by omega)) (ev_var rfl) ?_
        have := hR64.sz _ (List.mem_of_getElem? (rule_get hi))
        rw [sizeLine_eq, List.length_singleton]
        show 1 + (ruleOf R i).length ≤ 16777216
        omega
      rintro _ H8 ⟨q8, R8, c8, u8, v8, rfl, e8, hq8, hRq8, hR8⟩
      refine q_cut (M := fun σ' H' => ∃ q R, σ'[3]? = some (some (.ref q)) ∧ Ex H H' ∧ H q = none ∧ H' q = some (.lst (RL R)) ∧ GoodR R)
        (s_when (et_test (ev_op (ev_mod (ev_div (hsum rfl e8) ev_c (by decide) (by decide)) ev_c (by decide)) ev_c (rv_eq rfl)))
          (fun _ H9 e9 => q_asg (ev_addI ev_c (ev_mod (ev_div (hsum rfl (e8.trans e9)) ev_c (by decide) (by decide)) ev_c (by decide))) fun H10 e10 => ?_)
          fun _ H9 e9 => ⟨q8, R8, rfl, e8.trans e9, hq8, e9 _ _ hRq8, hR8.good (by decide)⟩) ?_
      · have h0 : 0 ≤ ns.sum / 28 % 30 := Int.emod_nonneg _ (by decide)
        have h1 : ns.sum / 28 % 30 < 30 := Int.emod_lt_of_pos _ (by decide)
        have e910 := (e8.trans e9).trans e10
        refine s_asgL (xs := RL (again R8 (2 + ns.sum / 28 % 30).toNat)) ?_ fun p2 H11 hp2 e11 h11 => ⟨p2, _, rfl, e910.trans e11, fresh_back e910 hp2, h11, (again_half hR8 _).good (by decide)⟩
        unfold RL again
        rw [List.map_map]
        have hl8 : R8.length < sizeLine := by
          have := hR8.len
          exact Nat.lt_of_le_of_lt (show R8.length ≤ 26 by omega) (by decide)
        refine el_list (u := fun r => V.str (enc r)) (wi_list (ev_var rfl) (sq_of ((e9.trans e10) _ _ hRq8))) _ hl8 (fun _ => rfl) fun r hr H11 e11 => ?_
        have hz := hR8.sz r hr
        have hk : (2 + ns.sum / 28 % 30).toNat ≤ 31 := by omega
        have hp : r.length * (2 + ns.sum / 28 % 30).toNat ≤ 64 * 31 := Nat.mul_le_mul hz hk
        refine ev_take (i := 100) (ev_repS (ev_var rfl) (ev_var rfl) (mulOk_enc (by omega) (by omega) (by omega) (by omega))) (eo_some ev_c) (by decide) ?_
        rw [rep_len, sizeLine_eq]
        omega
      rintro σ9 H9 ⟨q9, R9, h3, e9, hq9, hRq9, hR9⟩
      exact s_ret (ev_var h3) fun H10 e10 => k q9 H10 R9 hq9 (e9.trans e10) (e10 _ _ hRq9) hR9
/-! ### a short row, the row grown once -/
theorem sc_lrow : FnScope ["_law_rules_here", "_law_script", "_law_cell"] ["_law_rules_here", "_law_script"] (defScope sLaw_row) := ⟨rfl, rfl, rfl, by decide +kernel, rfl, by decide +kernel, by decide +kernel⟩
def spLRow (K : PySem.W.Frag) : Sp := fun vs H Q _ => ∃ b a xs, ∃ ns : List Int, vs = [.ref b, .ref a] ∧ SqL K H b xs ∧ 1 ≤ xs.length ∧ xs.length ≤ 26 ∧ SqL K H a (ns.map V.int) ∧ ∀ r H2, Ex H H2 → RowOk xs.length r → r.length ≤ 5 → Q (.str (enc r)) H2
abbrev tRowEl (K : PySem.W.Frag) : TE := tOp rIxS tAl (tOp (rI (fun _ j => 0 < j) fun i j => .int (i % j)) (tOp (rI CDiv fun i j => .int (i / j)) (tVar 2) (tC (.int 5))) (tLen K (tVar 0)))
theorem ok_lrow (X : T K mg) : C8.Cal P w K mg base 1 "_law_row" (spLRow K) [] := by
  refine cal_of X.d_law_row sc_lrow (fun _ _ _ _ _ _ us hl => match us, hl with | [_, _], _ => rfl) (fun vs H Q E h => ?_) (fun f cdv A outer s H vs Q E hr h => ?_)
  · obtain ⟨b, a, xs, ns, rfl, _⟩ := h
    rfl
  · obtain ⟨b, a, xs, ns, rfl, hx, h1, h26, hS, k⟩ := h
    have nd := sc_lrow.nd
    refine ⟨_, pss_one (ps_ret (pe_join pe_empty (pe_lc (own := [("_law_cell", 2)]) (g := gName 2) (tt := tYes) (te := tRowEl K) (by rfl) nd (pi_list (pe_slice sl_list (pv 1) po_none (po_some pe_int))) (blkOk_by (N := ["_law_rules_here", "_law_script", "_law_cell"]) (sc := defScope sLaw_row) (by decide +kernel))
      (fun _ _ _ _ _ => pg_name (i := 2) nd rfl (Or.inl rfl)) (fun _ _ _ _ _ => pts_nil)
      (fun _ _ _ _ _ => pe_ix ix_str pe_alph (pe_op op_mod (pe_op op_fdiv (pv 2) pe_int) (pe_len X.z_len (pv 0))) (fun _ _ => rfl))))), ?_⟩
    have hk : (0 : Int) < (xs.length : Int) := by omega
    refine s_ret (ev_join (K := K) (ls := (ns.take 5).map fun z => [(z / 5 % (xs.length : Int)).toNat]) ev_c ?_ ?_) fun H2 e2 => k _ H2 e2 ?_ ?_
    · rw [List.map_map]
      have w := wi_listN (K := K) (el_take (K := K) (σ := L2.start ["_law_rules_here", "_law_script", "_law_cell"] [V.ref b, V.ref a]) (te := tVar 1) (th := tPart (tC (.int 5))) (n := 5) (ev_var rfl) (eo_some ev_c) hS)
      rw [← List.map_take] at w
      refine el_list (u := V.int) w _ (Nat.lt_of_le_of_lt (show (ns.take 5).length ≤ 5 by rw [List.length_take]; exact Nat.min_le_left _ _) (by decide)) (fun _ => rfl) fun z hz H1 e1 => ?_
      have h0 : 0 ≤ z / 5 % (xs.length : Int) := Int.emod_nonneg _ (by omega)
      have h2 : z / 5 % (xs.length : Int) < (xs.length : Int) := Int.emod_lt_of_pos _ hk
      exact ev_alphAt (n := (z / 5 % (xs.length : Int)).toNat) ev_c (ev_mod (ev_div (ev_var rfl) ev_c (by decide) (by decide)) (ev_len (ev_var rfl) (ex_l e1 hx)) hk) (Int.toNat_of_nonneg h0).symm (by omega)
    · rw [List.length_flatten, List.map_map]
      have : ((ns.take 5).map (List.length ∘ fun z => [(z / 5 % (xs.length : Int)).toNat])).sum = (ns.take 5).length := by
        generalize ns.take 5 = l
        induction l with
        | nil => rfl
        | cons a l ih => rw [List.map_cons, List.sum_cons, ih, List.length_cons]; show 1 + l.length = l.length + 1; omega
      rw [this, List.length_take]
      omega
    · intro n hn
      obtain ⟨l, hl, hn⟩ := List.mem_flatten.mp hn
      obtain ⟨z, _, rfl⟩ := List.mem_map.mp hl
      have h0 : 0 ≤ z / 5 % (xs.length : Int) := Int.emod_nonneg _ (by omega)
      have h2 : z / 5 % (xs.length : Int) < (xs.length : Int) := Int.emod_lt_of_pos _ hk
      rw [List.mem_singleton.mp hn]
      omega
    · rw [List.length_flatten, List.map_map]
      have : ((ns.take 5).map (List.length ∘ fun z => [(z / 5 % (xs.length : Int)).toNat])).sum = (ns.take 5).length := by
        generalize ns.take 5 = l
        induction l with
        | nil => rfl
        | cons a l ih => rw [List.map_cons, List.sum_cons, ih, List.length_cons]; show 1 + l.length = l.length + 1; omega
      rw [this, List.length_take]
      omega
theorem sc_lonce : FnScope ["_law_rules_here", "_law_row_here", "_law_sign"] ["_law_rules_here", "_law_row_here"] (defScope sLaw_once) := ⟨rfl, rfl, rfl, by decide +kernel, rfl, by decide +kernel, by decide +kernel⟩
def preLOnce (K : PySem.W.Frag) : List V → Hp → V → Prop := fun vs H v => ∃ a R r, vs = [.ref a, .str (enc r)] ∧ SqL K H a (RL R) ∧ R.length ≤ 26 ∧ RowOk R.length r ∧ r.length < sizeLine ∧ (once R r).length ≤ 16777216 ∧ v = .str (enc (once R r))
theorem ok_lonce (X : T K mg) : C8.Cal P w K mg base 1 "_law_once" (spV (preLOnce K)) [] := by
  refine cal_of X.d_law_once sc_lonce (fun _ _ _ _ _ _ us hl => match us, hl with | [_, _], _ => rfl) (fun vs H Q E h => ?_) (fun f cdv A outer s H vs Q E hr h => ?_)
  · obtain ⟨v, ⟨a, R, r, rfl, _⟩, _⟩ := h
    rfl
  · obtain ⟨v, ⟨a, R, r, rfl, hR, h26, hr, hl, hz, rfl⟩, k⟩ := h
    refine ⟨_, pss_one (ps_ret (pe_join pe_empty (pe_lc (own := [("_law_sign", 2)]) (g := gName 2) (tt := tYes) (te := tOp (rIxL K) (tVar 0) (tIdx K (tVar 2))) (by rfl) sc_lonce.nd (pi_str (pv 1)) (blkOk_by (N := ["_law_rules_here", "_law_row_here", "_law_sign"]) (sc := defScope sLaw_once) (by decide +kernel))
      (fun _ _ _ _ _ => pg_name (i := 2) sc_lonce.nd rfl (Or.inl rfl)) (fun _ _ _ _ _ => pts_nil)
      (fun _ _ _ _ _ => pe_ix ix_list (pv 0) (pe_idx pe_alph (pv 2)) (fun _ _ => rfl))))), ?_⟩
    refine s_ret (ev_join (K := K) (ls := r.map (ruleOf R)) ev_c ?_ hz) k
    rw [List.map_map]
    exact el_str (K := K) (ev_var rfl) _ hl (fun _ => rfl) fun n hn H1 e1 => ev_ix (ev_var rfl) (ex_l e1 hR) (tidx rfl (Nat.lt_of_lt_of_le (hr n hn) h26)) (RL_at (hr n hn))
theorem ex_lr {σ : L2.St} {H : Hp} {te : TE} {E : XK} {a : Addr} {ns : List Int} (h : Ev te σ H (.ref a)) (hs : SqL K H a (ns.map V.int)) (hn : ns.length ≤ 63) : EvX (tCall (spLR K) [] E (tCons te tNil)) σ H GoodR := fun H1 e Q q =>
  h H1 e _ fun H2 e2 => by
    show spLR K [V.ref a] H2 Q E
    exact ⟨a, ns, rfl, ex_l (e.trans e2) hs, hn, fun p H3 R hp e3 h3 hR => q p H3 R (fresh_back e2 hp) (e2.trans e3) h3 hR⟩
theorem ex_lrN {σ : L2.St} {H : Hp} {te : TE} {E : XK} {ns : List Int} (h : EvL te σ H (ns.map V.int)) (hn : ns.length ≤ 63) : EvX (tCall (spLR K) [] E (tCons te tNil)) σ H GoodR := fun H1 e Q q =>
  h H1 e _ fun a H2 _ e2 h2 => by
    show spLR K [V.ref a] H2 Q E
    exact ⟨a, ns, rfl, sq_of h2, hn, fun p H3 R hp e3 h3 hR => q p H3 R (fresh_back e2 hp) (e2.trans e3) h3 hR⟩
theorem s_asgRow {σ : L2.St} {H : Hp} {D : Ends} {ta tb : TE} {tz : TS} {E : XK} {i : Nat} {b a : Addr} {xs : List V} {ns : List Int} (ha : Ev ta σ H (.ref b)) (hb : Ev tb σ H (.ref a)) (hx : SqL K H b xs) (h1 : 1 ≤ xs.length) (h26 : xs.length ≤ 26) (hs : SqL K H a (ns.map V.int))
    (k : ∀ r H1, Ex H H1 → RowOk xs.length r → r.length ≤ 5 → tz D (σ.set i (some (.str (enc r)))) H1) : tSeq (tAsg (tCall (spLRow K) [] E (tCons ta (tCons tb tNil))) (gName i)) tz D σ H := ha H (Ex.refl H) _ fun H1 e1 => hb H1 e1 _ fun H2 e2 => by
    show spLRow K [V.ref b, V.ref a] H2 (fun x H1 => tz D (σ.set i (some x)) H1) E
    exact ⟨b, a, xs, ns, rfl, ex_l (e1.trans e2) hx, h1, h26, ex_l (e1.trans e2) hs, fun r H3 e3 h1 h2 => k r H3 ((e1.trans e2).trans e3) h1 h2⟩
theorem GoodR.rat {H : Hp} {a : Addr} {R : GRules} (h : GoodR R) (hs : SqL K H a (RL R)) : RAt K H a R := ⟨hs, h.ok, fun r hr => Nat.le_trans (h.sz r hr) (by decide)⟩
end
end Gw

namespace Gw
open PySem PySem.Spec PyProof.Rows L2 Evl
theorem ev_ixRow {σ : L2.St} {H : Hp} {ta tb : TE} {l : GRow} {m x : Nat} (ha : Ev ta σ H (.str (enc l))) (hb : Ev tb σ H (.int (m : Int))) (hx : l[m]? = some x) (hz : l.length ≤ 100000) : Ev (tOp rIxS ta tb) σ H (.str (sg x)) :=
  ev_op ha hb (rv_ixS (by rw [enc_len]; exact hz) (atI_nat (by simp [enc, cd, hx])))
theorem counted_none (R : GRules) : (counted R.length []).map V.int = R.map fun _ => V.int 0 := by
  apply List.ext_getElem?
  intro i
  rw [List.getElem?_map, List.getElem?_map]
  by_cases hi : i < R.length
  · rw [counted_get hi, List.getElem?_eq_getElem hi]
    rfl
  · rw [List.getElem?_eq_none (by rw [counted_length]; omega), List.getElem?_eq_none (by omega)]
    rfl
theorem rg_ok {a L : Nat} (ha : a < 3) (hL : L < 400) : ∃ n, RgC (a : Int) (L : Int) (1 + (L : Int) / 2) n ∧ ∀ i, i < n → ∃ m : Nat, (a : Int) + (i : Int) * (1 + (L : Int) / 2) = (m : Int) ∧ m < L := by
  have z : ∀ a : Nat, a < 3 → ∀ L : Nat, L < 400 → (let c : Int := 1 + (L : Int) / 2
      let n := (Builtin.Range.rangeSize (a : Int) (L : Int) c).toNat
      decide (c ≠ 0) && decide (c.natAbs < 1073741824) && Builtin.Range.small (a : Int) (L : Int) c && decide (Builtin.Range.rangeSize (a : Int) (L : Int) c = (n : Int)) && (List.range n).all fun i => decide (a + i * (1 + L / 2) < L)) = true := by decide +kernel
  have h := z a ha L hL
  simp only [Bool.and_eq_true, decide_eq_true_eq, List.all_eq_true] at h
  obtain ⟨⟨⟨⟨h1, h2⟩, h3⟩, h4⟩, h5⟩ := h
  refine ⟨_, ⟨h1, h2, h3, h4⟩, fun i hi => ⟨a + i * (1 + L / 2), ?_, h5 i (List.mem_range.mpr hi)⟩⟩
  rw [Int.natCast_add, Int.natCast_mul, Int.natCast_add]
  rfl
section
variable {P : Program} {w : World} {K : PySem.W.Frag} {mg : Str → Option Value} {base : Heap}
def preLNumbers (K : PySem.W.Frag) : List V → Hp → V → Prop := fun vs H v => ∃ a, ∃ ns : List Int, vs = [.ref a] ∧ SqL K H a (ns.map V.int) ∧ ns.length < sizeLine ∧ v = .bl true
end
end Gw

namespace Gw
open PySem PySem.Spec PyProof.Rows L2 Evl
/-! ### texts backwards -/
def revS (z : Str) : Str := ⟨((Builtin.Str.strSliceIndices none none (-1) z.length).filterMap (z.cps[·]?)).toArray⟩
theorem revS_enc (l : GRow) : revS (enc l) = enc l.reverse := by
  unfold revS
  rw [picked_rev, enc_len]
  have hsz : (enc l).cps.size = l.length := enc_size l
  rw [filterMap_get (enc l).cps _ (fun i hi => by
    obtain ⟨k, hk, rfl⟩ := List.mem_map.mp hi
    have := List.mem_range.mp hk
    rw [hsz]
    omega), List.map_map]
  unfold enc cd
  congr 1
  congr 1
  refine List.ext_getElem (by simp) fun i h1 h2 => ?_
  rw [List.length_map, List.length_range] at h1
  have h3 : l.length - 1 - i < l.length := by omega
  rw [List.getElem_map, List.getElem_map, List.getElem_range, List.getElem_reverse]
  show ((l.map (97 + ·)).toArray).getD (l.length - 1 - i) 0 = _
  simp [Array.getD, h3]
def tRevS (te : TE) : TE := fun σ H Q => te σ H fun x H1 => ∃ z, x = .str z ∧ z.length ≤ sizeLine ∧ Q (.str (revS z)) H1
theorem pe_revS {X : Cx} {e : Expr} {te : TE} {k : Nat} {p1 p2 p3 pos : Pos} (he : PE X e te) : PE X (.Subscript e (.Slice none none (some (.UnaryOp .USub (.Constant (.int 1) k p1) p2)) p3) pos) (tRevS te) := by
  refine ⟨fun pins s σ H Q I h => ?_⟩
  refine Subscript_ (thn (he.run pins s σ H _ I h) fun v s1 ⟨x, H1, I1, r1, q1⟩ => ?_)
  obtain ⟨z, ex, hz, q⟩ := q1
  subst ex
  obtain ⟨t, rfl⟩ := r1
  have hst : PO X (some (.UnaryOp .USub (.Constant (.int 1) k p1) p2)) (tPart (tUn (rU fun i => .int (-i)) (tC (.int 1)))) := po_some (pe_un un_neg pe_int)
  refine wpAny_Slice (thn (po_none.run pins s1 σ H1 (fun o H2 => o = none ∧ H2 = H1) I1 ⟨rfl, rfl⟩) fun vl s2 ⟨l, H2, I2, pl, el, e2⟩ => ?_)
  subst el e2
  refine thn (po_none.run pins s2 σ H2 (fun o H3 => o = none ∧ H3 = H2) I2 ⟨rfl, rfl⟩) fun vu s3 ⟨u, H3, I3, pu, eu, e3⟩ => ?_
  subst eu e3
  refine thn (hst.run pins s3 σ H3 (fun o H4 => o = some (-1) ∧ H4 = H3) I3 ⟨1, rfl, -1, rfl, rfl, rfl⟩) fun vs s4 ⟨o, H4, I4, ps, eo, e4⟩ => ?_
  subst eo e4
  have I5 : Inv X pins σ H4 { s4 with heap := s4.heap.push { cls := .type "slice", data := .fields #[vl, vu, vs] } } := I4.kept (t' := s4.toks) fun b ob q => Heap.get?_push_of_some _ q
  show wpAny (model X.prog X.w) X.A (subscriptTail e (.Slice none none (some (.UnaryOp .USub (.Constant (.int 1) k p1) p2)) p3) (.str z t) (.ref s4.heap.objs.size)) (EP X pins σ Q) X.xe { s4 with heap := s4.heap.push { cls := .type "slice", data := .fields #[vl, vu, vs] } }
  refine tail_any (T := "str") (ops := [.str z t, .ref s4.heap.objs.size]) (typeIs_str _ _ _) F.slot_str_getitem.lookup ?_ (by with_unfolding_all rfl)
  obtain ⟨os, hos, hcs, hds⟩ := Heap.IsSliceOf.new s4.heap vl vu vs
  obtain ⟨l, rfl, hl⟩ := IsPart.raw pl
  obtain ⟨u, rfl, hu⟩ := IsPart.raw pu
  obtain ⟨st, rfl, hs⟩ := IsPart.raw ps
  cases l with
  | some l => cases hl
  | none =>
    cases u with
    | some u => cases hu
    | none =>
      cases st with
      | none => cases hs
      | some st =>
        obtain ⟨i, tk⟩ := st
        have hi : i = -1 := Option.some.inj hs
        subst hi
        refine wpAny_getItem_str_slice (l := none) (u := none) (st := some (-1, tk)) ⟨os, hos, hcs, hds⟩ rfl ?_
        show Made.post (Made.str (revS z)) (EP X pins σ Q) _
        refine ⟨?_, .str _, H4, I5.tok _, ⟨_, rfl⟩, q⟩
        show (revS z).length ≤ sizeLine
        have : (revS z).length ≤ z.length := by
          show ((Builtin.Str.strSliceIndices none none (-1) z.length).filterMap (z.cps[·]?)).toArray.size ≤ _
          rw [List.size_toArray]
          refine Nat.le_trans (List.length_filterMap_le _ _) ?_
          rw [picked_rev, List.length_map, List.length_range]
          exact Nat.le_refl _
        omega
theorem ev_revS {σ : L2.St} {H : Hp} {te : TE} {l : GRow} (h : Ev te σ H (.str (enc l))) (hz : l.length ≤ sizeLine) : Ev (tRevS te) σ H (.str (enc l.reverse)) := fun H1 e Q q => h H1 e _ fun H2 e2 => ⟨enc l, rfl, by rw [enc_len]; exact hz, by rw [revS_enc]; exact q H2 e2⟩
/-! ### a written text, then one replaced in -/
theorem pe_addRepl {X : Cx} {b : Str} {j : Nat} {c pos : Pos} {e : Expr} {te : TE} (he : PET X e te) : PE X (.BinOp (.Constant (.str b) j c) .Add e pos) (tOp rCatS (tC (.str b)) te) := by
  refine ⟨fun pins s σ H Q I h => ?_⟩
  refine wpAny_BinOp (Calls.Constant_str ?_)
  exact thn (he pins { s with toks := s.toks + 1 } σ H _ (Nat.succ_le_succ (Nat.zero_le _)) (I.tok _) h) fun u s2 ⟨y, H2, I2, r2, q2⟩ => op_add_str pins s2 σ H2 (.str b) y _ u Q I2 ⟨_, rfl⟩ r2 q2
theorem ev_repl {σ : L2.St} {H : Hp} {to : TE} {x y z : Str} (h : Ev to σ H (.str x)) (hz : x.length + (x.length + 1) * z.length ≤ 16777216) : Ev (CwR.tReplC to y z) σ H (.str (Txt.replace x y z)) := fun H1 e Q q => h H1 e _ fun H2 e2 => ⟨x, rfl, hz, q H2 e2⟩
/-! ### the rest -/
theorem take_rng {k n : Nat} (h : k ≤ n) : (List.range n).take k = List.range k := by rw [List.take_range, Nat.min_eq_left h]
/-- list + list -/
theorem el_cat {σ : L2.St} {H : Hp} {ta tb : TE} {xs ys : List V} (ha : EvL ta σ H xs) (hb : EvL tb σ H ys) (hz : xs.length + ys.length ≤ sizeLine) : EvL (tOp rCat ta tb) σ H (xs ++ ys) := fun H1 e Q q =>
  ha H1 e _ fun a H2 ha0 e2 h2 => hb H2 (e.trans e2) _ fun b H3 hb0 e3 h3 => ⟨a, b, xs, ys, rfl, rfl, e3 _ _ h2, h3, hz, fun p hp => q p _ (fresh_back (e2.trans e3) hp) ((e2.trans e3).trans (Ex.new hp)) upd_same⟩
/-- isinstance(x, C), an own class -/
abbrev tIsC (K : PySem.W.Frag) (te : TE) (C : Addr) : TE := tCB (rIsi K) (tCons te (tCons (tC (.ref C)) tNil))
theorem pe_isC {X : Cx} {x : Str} {C : Addr} {e : Expr} {te : TE} {p apos pos : Pos} (z : X.mg "isinstance" = none) (gC : X.mg x = some (.ref C)) (he : PE X e te) (hg : Gl X "isinstance" := by exact rfl) (hgt : Gl X x := by exact rfl)
    (hd : (x == ("__debug__" : Str)) = false := by decide)
    (hs : starEach [e, .Name x p] X.env = (false, eval e X.env) :: starEach [.Name x p] X.env := by rfl) (hs2 : starEach [.Name x p] X.env = (false, eval (.Name x p) X.env) :: starEach [] X.env := by rfl)
    (hpl : (backTo pos (starEach [.Name x p] X.env)).any (·.1) = false := by rfl) : PE X (.Call (.Name "isinstance" apos) [e, .Name x p] [] pos) (tIsC X.K te C) :=
  pe_callB call_isi hg z boot_isinstance (pa_cons he (pa_cons (C8.pe_gc hgt ⟨_, gC, rfl⟩ hd) pa_nil hs2) hs) (by decide) (by decide) hs hpl
theorem rv_notB {H : Hp} {a b : Bool} : RV rNotB (.bl a) (.bl b) H (.bl (!decide (a = b))) := fun H1 e Q q => ⟨a, b, rfl, rfl, q H1 (Ex.refl _)⟩
end Gw

namespace Gw
open PySem PySem.Spec PyProof.Rows L2 Evl
/-! ### zip of a list and a text -/
def Itzx (K : PySem.W.Frag) (a : Addr) (z : Str) : It :=
  ⟨fun i H => ∃ (xs : List V) (x : V) (c : Nat), SqL K H a xs ∧ xs[i]? = some x ∧ z.cps[i]? = some c,
    fun i H v H' => ∃ T x c, v = .ref T ∧ H T = none ∧ H' = upd H T (.tup [x, .str ⟨#[c]⟩]) ∧ (∀ xs, SqL K H a xs → xs[i]? = some x) ∧ z.cps[i]? = some c,
    fun i H => ∃ xs : List V, SqL K H a xs ∧ i ≤ xs.length ∧ i ≤ z.cps.size ∧ (i = xs.length ∨ i = z.cps.size)⟩
theorem turn_zipx {P : Program} {w : World} {K : PySem.W.Frag} {elts : List Expr} {kk : Nat} {tpos : Pos} {a z TI TO i1 i2 : Addr} {x : Str} {t : Tok} (S : ZipSep2 z TI TO i1 i2 [i1, a] [i2]) :
    Turn P w K (.Tuple elts kk tpos) (Itzx K a x) [z, TI, TO, i1, i2] z (fun i h => IsZip h z TI TO .none ∧ IsPair h TI (.ref i1) (.ref i2) ∧ (∃ x y, IsPair h TO x y) ∧ h.IsListIter i1 a i ∧ h.IsStrIter i2 (strIterType x) x t i) where
  mem := by simp
  obj := fun i h st c hc => by
    obtain ⟨hz, hTI, ⟨x, y, hTO⟩, ⟨o1, e1, _, d1⟩, ⟨o2, e2, _, d2⟩⟩ := st
    have e' : c = z ∨ c = TI ∨ c = TO ∨ c = i1 ∨ c = i2 := by simpa using hc
    rcases e' with q | q | q | q | q
    · rw [q]; exact ⟨_, hz, fun v q => nomatch q⟩
    · rw [q]; exact ⟨_, hTI, fun v q => nomatch q⟩
    · rw [q]; exact ⟨_, hTO, fun v q => nomatch q⟩
    · rw [q]; exact ⟨o1, e1, fun v q => by rw [d1] at q; cases q⟩
    · rw [q]; exact ⟨o2, e2, fun v q => by rw [d2] at q; cases q⟩
  keep := fun i h h' st k => by
    obtain ⟨hz, hTI, ⟨x, y, hTO⟩, h1, ⟨o2, e2, r2⟩⟩ := st
    exact ⟨k z (by simp) _ hz, k TI (by simp) _ hTI, ⟨x, y, k TO (by simp) _ hTO⟩, h1.at fun o q => k i1 (by simp) o q, ⟨o2, k i2 (by simp) o2 e2, r2⟩⟩
  item := by
    intro X hP hw hK hc i pins s σ H E I hf st hg
    subst hP hw hK
    obtain ⟨hz, hTI, ⟨x0, y0, hTO⟩, h1, h2⟩ := st
    obtain ⟨xs, v, c0, hqx, hx, hy⟩ := hg
    obtain ⟨its, rv, p, _⟩ := I.list hqx
    obtain ⟨u, hu, ru⟩ := rv.get hx
    have hzl : z < s.heap.objs.size := Heap.lt_size hz
    have hh : X.A.in1.handled = none := I.ok.hd hc
    have hne : a ≠ i1 := fun e => by
      obtain ⟨ol, hol, hcl, _⟩ := p.isList
      obtain ⟨oi, hoi, hci, _⟩ := h1
      rw [e, hoi] at hol
      cases hol
      rw [hci] at hcl
      exact absurd (Value.type.inj hcl) (by decide)
    refine wpAny_pyNext_zipD2_item S (Draws.list hh i1 a hne its.toArray) (Draws.text hh i2 x t) hz hTI hTO ⟨h1, p.isList⟩ h2 (by rw [List.size_toArray]; exact (List.getElem?_eq_some_iff.mp hu).1) (Array.getElem?_eq_some_iff.mp hy).1 fun u1 u2 h' tk q1 q2 z' TO' st1 st2 hT hsz hk => ?_
    have q1 : its.toArray[i]? = some u1 := q1
    rw [List.getElem?_toArray, hu] at q1
    cases q1
    obtain ⟨c1, t1, q3, rfl⟩ := q2
    rw [hy] at q3
    cases q3
    refine ⟨_, rfl, wpAny_letOwnedTupleGo_zip (s := { s with heap := h', toks := tk }) z' fun h'' z'' sb => ?_⟩
    have hT2 : h''.get? s.heap.objs.size = some { cls := .type "tuple", data := .seq #[u, .str ⟨#[c0]⟩ t1] } := (sb.2 _ (Nat.ne_of_gt hzl)).trans hT
    have new : ObjOk X.prog X.w (upd H s.heap.objs.size (.tup [v, .str ⟨#[c0]⟩])) h'' s.heap.objs.size (.tup [v, .str ⟨#[c0]⟩]) :=
      ⟨by show 2 ≤ sizeLine; decide, [u, .str ⟨#[c0]⟩ t1], .cons ru (.cons ⟨t1, rfl⟩ .nil), ⟨_, hT2, rfl, _, rfl⟩⟩
    have I1 : Inv X pins σ (upd H s.heap.objs.size (.tup [v, .str ⟨#[c0]⟩])) { s with heap := h'', toks := tk } :=
      I.turnedNew (t' := tk) (ch := [z, TI, TO, i1, i2]) (fun c o hb q => (sb.2 c (fun q' => hb (by simp [q']))).trans (hk c o (fun q' => hb (by simp [q'])) (fun q' => hb (by simp [q'])) (fun q' => hb (by simp [q'])) (fun q' => hb (by simp [q'])) q)) hf (Nat.le_refl _) new
    refine ⟨.ref s.heap.objs.size, _, I1, rfl, ⟨_, v, c0, rfl, I.hok.fresh (Nat.le_refl _), rfl, fun l hl => by rw [I.list_inj hl hqx]; exact hx, hy⟩, ⟨z'', ?_, ⟨u, .str ⟨#[c0]⟩ t1, ?_⟩, ?_, ?_⟩, fun c hcm => ?_⟩
    · exact (sb.2 _ S.TIz).trans (hk _ _ S.TIz S.TITO S.TIi1 S.TIi2 hTI)
    · exact (sb.2 _ S.TOz).trans TO'
    · exact st1.1.at fun o q => (sb.2 _ (Ne.symm S.zi1)).trans q
    · obtain ⟨o2, e2, r2⟩ := st2
      exact ⟨o2, (sb.2 _ (Ne.symm S.zi2)).trans e2, r2⟩
    · have hlt : c < s.heap.objs.size := by
        have e' : c = z ∨ c = TI ∨ c = TO ∨ c = i1 ∨ c = i2 := by simpa using hcm
        rcases e' with q | q | q | q | q
        · rw [q]; exact hzl
        · rw [q]; exact Heap.lt_size hTI
        · rw [q]; exact Heap.lt_size hTO
        · rw [q]; obtain ⟨_, e1, _⟩ := h1; exact Heap.lt_size e1
        · rw [q]; obtain ⟨_, e2, _⟩ := h2; exact Heap.lt_size e2
      rw [upd_ne (Nat.ne_of_lt hlt)]
      exact (hf c hcm).1
  done := by
    intro X hP hw hK hc i pins s σ H E I hf st hg
    subst hP hw hK
    obtain ⟨hz, hTI, ⟨x0, y0, hTO⟩, h1, h2⟩ := st
    obtain ⟨xs, hqx, hl1, hl2, hend⟩ := hg
    obtain ⟨its, rv, p, _⟩ := I.list hqx
    have l1 := rv.length
    have hh : X.A.in1.handled = none := I.ok.hd hc
    have hne : a ≠ i1 := fun e => by
      obtain ⟨ol, hol, hcl, _⟩ := p.isList
      obtain ⟨oi, hoi, hci, _⟩ := h1
      rw [e, hoi] at hol
      cases hol
      rw [hci] at hcl
      exact absurd (Value.type.inj hcl) (by decide)
    exact wpAny_pyNext_zipD2_end S (Draws.list hh i1 a hne its.toArray) (Draws.text hh i2 x t) hz hTI hTO ⟨h1, p.isList⟩ h2 (by rw [List.size_toArray]; omega) hl2 (by rw [List.size_toArray]; omega) fun h' tk hk => ⟨rfl, I.turnedL (t' := tk) (ch := [z, TI, TO, i1, i2]) (fun c o hb q =>
      hk c o (fun q' => hb (by simp [q'])) (fun q' => hb (by simp [q'])) (fun q' => hb (by simp [q'])) (fun q' => hb (by simp [q'])) q) hf⟩
  self := fun A i s Q E st h => wpAny_pyIter_zip st.1 h
def iZipx (K : PySem.W.Frag) (ta : TA) : TI := fun σ H R => ta σ H fun vs H1 => ∃ a z xs, vs = [.ref a, .str z] ∧ SqL K H1 a xs ∧ R (Itzx K a z) H1
theorem neA {a b : Nat} (h : a ≠ b) : (a : Addr) ≠ b := h
theorem pi_zipx {X : Cx} {e e2 : Expr} {ta : TA} {p pos tpos : Pos} {elts : List Expr} {kk : Nat} (hg : Gl X "zip") (hm : X.mg "zip" = none) (ha : PA X [e, e2] ta)
    (hs : starEach [e, e2] X.env = (false, eval e X.env) :: starEach [e2] X.env := by rfl) (hpl : (backTo pos (starEach [e2] X.env)).any (·.1) = false := by rfl) :
    PI X (.Tuple elts kk tpos) (.Call (.Name "zip" p) [e, e2] [] pos) (iZipx X.K ta) := by
  refine ⟨fun pins s σ H R I h => ?_⟩
  refine Call_ (ld_blt I hg hm PyProof.Rows.boot_zip (PyProof.Rows.callWith_type1 (thn (ha.run pos pins s σ H _ I h) fun us s1 ⟨vs, H1, I1, r1, q1⟩ => ?_) hs hpl))
  obtain ⟨a, x, xs, ex, hqx, q⟩ := q1
  subst ex
  cases r1 with
  | cons r rr =>
    cases rr with
    | cons r' rr =>
      cases rr
      cases r
      obtain ⟨t, rfl⟩ := r'
      obtain ⟨its, rv, p1, _⟩ := I1.list hqx
      have la : a < s1.heap.objs.size := p1.lt
      refine zip_begins2 (begins_list a its.toArray) (begins_text x t) p1.isList trivial fun h' hz hTI hTO h1 h2 hsz hk => wpAny_pyIter_zip hz ?_
      have I2 : Inv X pins σ H1 { s1 with heap := h' } := I1.kept (t' := s1.toks) hk
      have S : ZipSep2 (s1.heap.objs.size + 4) (s1.heap.objs.size + 2) (s1.heap.objs.size + 3) s1.heap.objs.size (s1.heap.objs.size + 1) [s1.heap.objs.size, a] [s1.heap.objs.size + 1] := by
        have D := PySem.W.ktu_apart s1.heap.objs.size a a la la
        refine ⟨D.TIz, D.TOz, D.TITO, D.TIi1, by simp, ?_, ?_, D.TIi2, by simp, ?_, ?_, ?_, ?_⟩
        · simp only [List.mem_cons, List.not_mem_nil, or_false, not_or]
          exact ⟨Ne.symm D.i1z, Ne.symm D.l1z⟩
        · simp only [List.mem_cons, List.not_mem_nil, or_false, not_or]
          exact ⟨D.TOi1, Ne.symm D.l1TO⟩
        · simp only [List.mem_cons, List.not_mem_nil, or_false]
          exact Ne.symm D.i2z
        · simp only [List.mem_cons, List.not_mem_nil, or_false]
          exact D.TOi2
        · simp only [List.mem_cons, List.not_mem_nil, or_false]
          exact D.i12
        · simp only [List.mem_cons, List.not_mem_nil, or_false, not_or]
          exact ⟨Ne.symm D.i12, Ne.symm D.l1i2⟩
      refine ⟨s1.heap.objs.size + 4, [s1.heap.objs.size + 4, s1.heap.objs.size + 2, s1.heap.objs.size + 3, s1.heap.objs.size, s1.heap.objs.size + 1], _, _, H1, rfl, I2, turn_zipx (x := x) (t := t) S, ⟨hz, hTI, ⟨_, _, hTO⟩, ⟨_, h1, rfl, rfl⟩, ⟨_, h2, rfl, rfl⟩⟩, fun c hcm => ?_, q⟩
      have e' : c = s1.heap.objs.size + 4 ∨ c = s1.heap.objs.size + 2 ∨ c = s1.heap.objs.size + 3 ∨ c = s1.heap.objs.size ∨ c = s1.heap.objs.size + 1 := by simpa using hcm
      have hle : s1.heap.objs.size ≤ c := by
        rcases e' with z | z | z | z | z
        · rw [z]; exact Nat.le_add_right _ _
        · rw [z]; exact Nat.le_add_right _ _
        · rw [z]; exact Nat.le_add_right _ _
        · rw [z]; exact Nat.le_refl _
        · rw [z]; exact Nat.le_add_right _ _
      exact I1.fpOk hle (I1.hok.fresh hle)
theorem walk_zipx {K : PySem.W.Frag} {a : Addr} {x : Str} {xs : List V} {n : Nat} (hn : n = min xs.length x.cps.size) : Walk (Itzx K a x) n (fun H => SqL K H a xs) (YPair (fun i => xs[i]?) (fun i => (x.cps[i]?).map fun c => V.str ⟨#[c]⟩)) := by
  refine ⟨fun i H hi h => ?_, fun H h => ?_, fun i H v H' hi h y => ?_⟩
  · exact ⟨xs, xs[i]'(by omega), x.cps[i]'(by omega), h, by simp, by simp⟩
  · exact ⟨xs, h, by omega, by omega, by omega⟩
  · obtain ⟨T, y, c, rfl, hT, rfl, h1, h2⟩ := y
    exact ⟨T, y, _, rfl, hT, rfl, h1 xs h, by show (x.cps[i]?).map _ = _; rw [h2]; rfl⟩
theorem wi_zipx {K : PySem.W.Frag} {σ : L2.St} {H : Hp} {ta : TA} {a : Addr} {x : Str} {xs : List V} {n : Nat} (h : EvA ta σ H [.ref a, .str x]) (hx : SqL K H a xs) (hn : n = min xs.length x.cps.size) : WI (iZipx K ta) σ H n (YPair (fun i => xs[i]?) (fun i => (x.cps[i]?).map fun c => V.str ⟨#[c]⟩)) :=
  ⟨fun H1 e R k => h H1 e _ fun H2 e2 => ⟨a, x, xs, rfl, ex_l (e.trans e2) hx, k _ _ H2 e2 (walk_zipx hn) fun H3 e3 => ex_l ((e.trans e2).trans e3) hx⟩⟩
end Gw

namespace Gw
open PySem PySem.Spec PyProof.Rows L2 Evl
section
variable {K : PySem.W.Frag} {σ : L2.St} {H H' : Hp} {te : TE} {t : TT} {ta : TA} {wi : TI} {g : TG} {n j : Nat} {Y : Nat → Hp → V → Hp → Prop} {D : Ends} {tb tz : TS}
theorem s_forW (w : WI wi σ H n Y) (Pv : Hp → Nat → L2.St → Hp → Prop) (h0 : ∀ H1, Ex H H1 → Pv H1 0 σ H1) (hex : ∀ H1 i σ' H', Pv H1 i σ' H' → Ex H1 H')
    (hs : ∀ H1 i x σ' H' H'', i < n → Pv H1 i σ' H' → Y i H' x H'' → g x σ' H'' fun σ2 H2 => tb { D with nx := Pv H1 (i + 1), ct := Pv H1 (i + 1), bk := D.nx } σ2 H2) (hd : ∀ H1 σ' H', Pv H1 n σ' H' → D.nx σ' H') : tFor wi g tb D σ H :=
  w.go H (Ex.refl H) _ fun J G H2 e2 wk hG => for_it wk (Pv H2) (h0 H2 e2) (fun i σ' H' _ p => hG H' (hex H2 i σ' H' p)) (fun i x σ' H' H'' hi p y => hs H2 i x σ' H' H'' hi p y) (hd H2)
theorem q_forW (w : WI wi σ H n Y) (Pv : Hp → Nat → L2.St → Hp → Prop) (h0 : ∀ H1, Ex H H1 → Pv H1 0 σ H1) (hex : ∀ H1 i σ' H', Pv H1 i σ' H' → Ex H1 H')
    (hs : ∀ H1 i x σ' H' H'', i < n → Pv H1 i σ' H' → Y i H' x H'' → g x σ' H'' fun σ2 H2 => tb { D with nx := Pv H1 (i + 1), ct := Pv H1 (i + 1), bk := tz D } σ2 H2) (hd : ∀ H1 σ' H', Pv H1 n σ' H' → tz D σ' H') : tSeq (tFor wi g tb) tz D σ H :=
  s_forW (D := { D with nx := tz D }) w Pv h0 hex hs hd
/-- a new list of new lists, counted -/
theorem wi_enumLL {xss : List (List V)} (h : EvLL te σ H xss) : WI (iEnum K (tCons te tNil)) σ H xss.length (fun i H1 v H2 => ∃ T c xs, v = .ref T ∧ H1 T = none ∧ H2 = upd H1 T (.tup [.int (i : Int), .ref c]) ∧ xss[i]? = some xs ∧ H1 c = some (.lst xs)) :=
  ⟨fun H1 e R k => h H1 e _ fun p as H2 hp has e2 hL => ⟨p, _, rfl, sq_of hL.1, k _ (fun H3 => LL H3 p as xss) H2 e2 (by
    have w := (walk_enum (K := K) (a := p) (xs := as.map V.ref)).mono (G' := fun H3 => LL H3 p as xss) (Y' := fun i H1 v H2 => ∃ T c xs, v = .ref T ∧ H1 T = none ∧ H2 = upd H1 T (.tup [.int (i : Int), .ref c]) ∧ xss[i]? = some xs ∧ H1 c = some (.lst xs)) (fun H3 hL3 => sq_of hL3.1) (fun i H3 v H4 hi hL3 y => by
      obtain ⟨T, x, y, rfl, hT, rfl, hx, hy⟩ := y
      have hy : (as.map V.ref)[i]? = some y := hy
      cases hx
      have hi2 : i < xss.length := by
        rw [← hL3.2.1]
        rw [List.length_map] at hi
        exact hi
      obtain ⟨c, hc1, hc2⟩ := hL3.get (List.getElem?_eq_getElem hi2)
      rw [hc1] at hy
      cases hy
      exact ⟨T, c, _, rfl, hT, rfl, List.getElem?_eq_getElem hi2, hc2⟩)
    rw [List.length_map, hL.2.1] at w
    exact w) fun H3 e3 => hL.mono e3⟩⟩
end
section
variable {P : Program} {w : World} {K : PySem.W.Frag} {mg : Str → Option Value} {base : Heap}
/-- two rows that are asked about -/
structure Two (K : PySem.W.Frag) (H : Hp) (a : Addr) (R : GRules) (r s : GRow) : Prop where
  rules : RAt K H a R
  row : RowOk R.length r
  sz : r.length < sizeLine
  row2 : RowOk R.length s
  sz2 : s.length < sizeLine
theorem Two.ex {H H' : Hp} {a : Addr} {R : GRules} {r s : GRow} (h : Two K H a R r s) (e : Ex H H') : Two K H' a R r s := ⟨h.rules.ex e, h.row, h.sz, h.row2, h.sz2⟩
abbrev tLongBy (K : PySem.W.Frag) (a b : TE) : TE := tCall (spV (preLongBy K)) [] E0 (tCons a (tCons b tNil))
theorem ev_long {σ : L2.St} {H : Hp} {c : Addr} {R : GRules} {q : GRow} {t : Nat} {ta tb : TE} (ok : RulesOk R) (h1 : Ev ta σ H (.ref c)) (h2 : Ev tb σ H (.str (enc q))) (hc : H c = some (.lst ((lens R t).map V.int))) (hq : RowOk R.length q) (hz : q.length < sizeLine) : Ev (tLongBy K ta tb) σ H (.int (gl R t q)) :=
  ev_spV (ea_two h1 h2) fun H1 e1 => ⟨c, lens R t, q, rfl, sq_of (e1 _ _ hc), by rw [lens_length]; exact ok.few, by rw [lens_length]; exact hq, hz, by rw [longBy_lens ok t hq]; rfl⟩
def alikeB (R : GRules) (r s : GRow) : Bool := (List.range R.length).all fun t => decide (gl R t r = gl R t s)
def preAlike (K : PySem.W.Frag) : List V → Hp → V → Prop := fun vs H v => ∃ x a R r s, vs = [.ref x, .ref a, .str (enc r), .str (enc s)] ∧ Two K H a R r s ∧ v = .bl (alikeB R r s)
abbrev nAl : List Str := ["self", "rules", "one", "other", "told", "table"]
theorem sc_alikeS : FnScope nAl ["self", "rules", "one", "other"] (defScope sAlike_shows) := ⟨rfl, rfl, rfl, by decide +kernel, rfl, by decide +kernel, by decide +kernel⟩
abbrev tSame (K : PySem.W.Frag) : TE := tOp rEq (tLongBy K (tVar 5) (tVar 2)) (tLongBy K (tVar 5) (tVar 3))
theorem ok_alikeS (X : T K mg) : C8.Met P w K mg base 2 (He.ga K "Alike") "shows" (spV (preAlike K)) [] := by
  refine met_of X.o_Alike.cl X.m_Alike_shows sc_alikeS (fun _ _ _ _ _ _ us hl => match us, hl with | [_, _, _, _], _ => rfl) (fun vs H Q E h => ?_) (fun f cdv A outer s H vs Q E hr h => ?_)
  · obtain ⟨v, ⟨x, a, R, r, s, rfl, _⟩, _⟩ := h
    rfl
  · obtain ⟨v, ⟨x, a, R, r, s, rfl, hT, rfl⟩, k⟩ := h
    have nd := sc_alikeS.nd
    refine ⟨_, (pss_cons (ps_set (i := 4) nd rfl (Or.inl rfl) (C8.pe_c (ok_lengths_of X) hr (by decide) rfl (pa_cons (pv 1) (pa_cons (pe_op op_sub (pe_len X.z_len (pv 1)) pe_int) pa_nil))))
      (pss_one (ps_ret (pe_all rfl X.z_all (pe_lc (own := [("table", 5)]) (g := gName 5) (tt := tYes) (te := tSame K) (by rfl) nd (pi_list (pv 4)) (blkOk_by (N := nAl) (sc := defScope sAlike_shows) (by decide +kernel))
        (fun _ _ _ _ _ => pg_name (i := 5) nd rfl (Or.inl rfl)) (fun _ _ _ _ _ => pts_nil)
        (fun _ _ _ _ _ => pe_cmpR op_eq (C8.pe_c (ok_long_by X) hr (by decide) rfl (pa_cons (pv 5) (pa_cons (pv 2) pa_nil))) (C8.pe_c (ok_long_by X) hr (by decide) rfl (pa_cons (pv 5) (pa_cons (pv 3) pa_nil))) (nomark _))))))), ?_⟩
    have ok := hT.rules.ok
    have hn1 := ok.pos
    have h26 := ok.few
    refine q_asgLL (ell_spLL (ea_two (ev_var rfl) (ev_is (ev_subI (j := 1) (ev_len (ev_var rfl) hT.rules.at_) ev_c) (show V.int (((RL R).length : Int) - 1) = V.int ((R.length - 1 : Nat) : Int) by rw [RL_len]; exact congrArg V.int (by omega)))) fun H1 e1 => ⟨a, R, R.length - 1, rfl, hT.rules.ex e1, by omega, rfl⟩) fun p as H1 hp has e1 hLL => ?_
    have tl : (tabs R (R.length - 1)).length = R.length := by rw [tabs_length]; omega
    have hL : EvL (tLc (iList K (tVar 4)) (gName 5) tYes (tSame K) [5]) ([some (.ref x), some (.ref a), some (.str (enc r)), some (.str (enc s)), some (.ref p), none] : L2.St) H1 (((List.range R.length).map fun t => decide (gl R t r = gl R t s)).map V.bl) := by
      rw [List.map_map]
      have := el_LL (K := K) (te := tSame K) (ti := tVar 4) (j := 5) (ws := [5]) (σ := ([some (.ref x), some (.ref a), some (.str (enc r)), some (.str (enc s)), some (.ref p), none] : L2.St)) (ev_var rfl) hLL (fun t => V.bl (decide (gl R t r = gl R t s))) (by rw [tl]; exact Nat.lt_of_le_of_lt h26 (by decide)) (fun _ => rfl) fun i c xs H2 hxs e2 hc => by
        have hi : i ≤ R.length - 1 := by
          have := (List.getElem?_eq_some_iff.mp hxs).1
          rw [tl] at this
          omega
        rw [tabs_get hi] at hxs
        cases hxs
        refine ev_is (ev_op (ev_long ok (ev_var rfl) (ev_var rfl) hc hT.row hT.sz) (ev_long ok (ev_var rfl) (ev_var rfl) hc hT.row2 hT.sz2) (rv_eq rfl)) ?_
        simp
      rw [tl] at this
      exact this
    exact s_ret (ev_is (ev_allN hL) (by rw [List.all_map]; rfl)) fun H2 e2 => k H2 (e1.trans e2)
/-! ### Apart -/
def apartB (R : GRules) (m : Int) (r s : GRow) : Bool := (decide (0 ≤ m) && decide (m < (R.length : Int))) && !decide (gl R m.toNat r = gl R m.toNat s)
def preApart (K : PySem.W.Frag) : List V → Hp → V → Prop := fun vs H v => ∃ x dx a R r s, ∃ m : Int, vs = [.ref x, .ref a, .str (enc r), .str (enc s)] ∧ H x = some (.ins (He.ga K "Apart") dx [("many", .int m)]) ∧ Two K H a R r s ∧ v = .bl (apartB R m r s)
theorem sc_apartI : FnScope ["self", "many"] ["self", "many"] (defScope sApart_init) := ⟨rfl, rfl, rfl, by decide +kernel, rfl, by decide +kernel, by decide +kernel⟩
theorem ok_apartI (X : T K mg) : C8.Mak P w K mg base 1 "Apart" (He.ga K "Apart") (spInit (He.ga K "Apart") "many") [] := by
  refine mak_of X.i_Apart sc_apartI (fun _ _ _ _ _ _ us hl => match us, hl with | [_, _], _ => rfl) (fun vs H Q E h => ?_) (fun f cdv A outer s H vs Q E hr h => ?_)
  · obtain ⟨a, dx, y, rfl, _⟩ := h
    rfl
  · obtain ⟨a, dx, y, rfl, hi, q⟩ := h
    refine ⟨_, pss_one (ps_fld (pv 0) (pv 1) rfl), ?_⟩
    exact ⟨y, rfl, .ref a, rfl, a, _, dx, [], rfl, hi, X.o_Apart.cl, X.n_Apart, by decide, q⟩
abbrev nAp : List Str := ["self", "rules", "one", "other", "table"]
theorem sc_apartS : FnScope nAp ["self", "rules", "one", "other"] (defScope sApart_shows) := ⟨rfl, rfl, rfl, by decide +kernel, rfl, by decide +kernel, by decide +kernel⟩
theorem ok_apartS (X : T K mg) : C8.Met P w K mg base 2 (He.ga K "Apart") "shows" (spV (preApart K)) [] := by
  refine met_of X.o_Apart.cl X.m_Apart_shows sc_apartS (fun _ _ _ _ _ _ us hl => match us, hl with | [_, _, _, _], _ => rfl) (fun vs H Q E h => ?_) (fun f cdv A outer s H vs Q E hr h => ?_)
  · obtain ⟨v, ⟨x, dx, a, R, r, s, m, rfl, _⟩, _⟩ := h
    rfl
  · obtain ⟨v, ⟨x, dx, a, R, r, s, m, rfl, hi, hT, rfl⟩, k⟩ := h
    have nd := sc_apartS.nd
    refine ⟨_, (pss_cons (ps_if (pt_not (pt_chain op_le op_lt pe_int (pe_fld (pv 0) rfl) (pe_len X.z_len (pv 1)))) (pss_one (ps_ret pe_bl)) pss_nil)
      (pss_cons (ps_set (i := 4) nd rfl (Or.inl rfl) (pe_ix ix_list (C8.pe_c (ok_lengths_of X) hr (by decide) rfl (pa_cons (pv 1) (pa_cons (pe_fld (pv 0) rfl) pa_nil))) (pe_fld (pv 0) rfl) (fun _ _ => rfl)))
      (pss_one (ps_ret (pe_cmpR op_ne (C8.pe_c (ok_long_by X) hr (by decide) rfl (pa_cons (pv 4) (pa_cons (pv 2) pa_nil))) (C8.pe_c (ok_long_by X) hr (by decide) rfl (pa_cons (pv 4) (pa_cons (pv 3) pa_nil))) (nomark _)))))), ?_⟩
    have ok := hT.rules.ok
    have h26 := ok.few
    have fld : ∀ {H' : Hp} {σ : L2.St}, σ[0]? = some (some (.ref x)) → Ex H H' → Ev (tFld K (tVar 0) "many") σ H' (.int m) := fun h e => ev_fld (ev_var h) (e _ _ hi) X.o_Apart.cl X.n_Apart rfl
    have lenR : ∀ {σ : L2.St} {H' : Hp}, σ[1]? = some (some (.ref a)) → Ex H H' → Ev (tLen K (tVar 1)) σ H' (.int (R.length : Int)) := fun h e => ev_is (ev_len (ev_var h) (hT.rules.ex e).at_) (by rw [RL_len])
    by_cases hm : 0 ≤ m ∧ m < (R.length : Int)
    · refine q_skip (et_is (et_not (et_test (ev_chain ev_c (fld rfl (Ex.refl _)) (fun _ => lenR rfl (Ex.refl _)) rv_I0 fun _ => rv_I0))) (by simp [hm.1, hm.2])) fun H1 e1 => ?_
      obtain ⟨mn, rfl⟩ : ∃ mn : Nat, m = (mn : Int) := ⟨m.toNat, by omega⟩
      refine q_asgL (el_ixLL (ell_spLL (ea_two (ev_var rfl) (fld rfl e1)) fun H2 e2 => ⟨a, R, mn, rfl, hT.rules.ex (e1.trans e2), by omega, rfl⟩) (fld rfl e1) (tabs_get (Nat.le_refl mn))) fun p H2 hp e2 h2 => ?_
      refine s_ret (ev_is (ev_op (ev_long ok (ev_var rfl) (ev_var rfl) h2 hT.row hT.sz) (ev_long ok (ev_var rfl) (ev_var rfl) h2 hT.row2 hT.sz2) (rv_ne rfl)) ?_) fun H3 e3 => k H3 ((e1.trans e2).trans e3)
      unfold apartB
      simp [hm.1, hm.2]
    · refine q_when (b := true) (et_is (et_not (et_test (ev_chain ev_c (fld rfl (Ex.refl _)) (fun _ => lenR rfl (Ex.refl _)) rv_I0 fun _ => rv_I0))) (by simp; omega)) (fun _ H1 e1 => ?_) fun hb => absurd hb (by decide)
      refine s_ret (ev_is (v := .bl false) ev_c ?_) fun H3 e3 => k H3 (e1.trans e3)
      unfold apartB
      have : (decide (0 ≤ m) && decide (m < (R.length : Int))) = false := by simp; omega
      rw [this]
      rfl
/-! ### lengths -/
abbrev nLn : List Str := ["rules", "one", "other", "many", "table"]
/-- the answer at x -/
def LensA (K : PySem.W.Frag) (R : GRules) (r s : GRow) (x : Addr) (H : Hp) : Prop :=
  (∃ dx, (∀ t, t < R.length → gl R t r = gl R t s) ∧ H x = some (.ins (He.ga K "Alike") dx [])) ∨ (∃ dx, ∃ m : Nat, m < R.length ∧ gl R m r ≠ gl R m s ∧ H x = some (.ins (He.ga K "Apart") dx [("many", .int (m : Int))]))
def spLens (K : PySem.W.Frag) : Sp := fun vs H Q _ => ∃ a R r s, vs = [.ref a, .str (enc r), .str (enc s)] ∧ Two K H a R r s ∧ ∀ x H2, H x = none → Ex H H2 → LensA K R r s x H2 → Q (.ref x) H2
end
end Gw

namespace Gw
open PySem PySem.Spec PyProof.Rows L2 Evl
def rNotC : R2 := fun x y H Q => ∃ (c : Nat) (z : Str), x = .str ⟨#[c]⟩ ∧ y = .str z ∧ Q (.bl (!decide (c ∈ z.cps.toList))) H
theorem op_notC {X : Cx} : OpR X (compareOp .NotIn) rNotC := op_notIn_sign
theorem ev_notC {σ : L2.St} {H : Hp} {ta tb : TE} {n : Nat} {l : GRow} (ha : Ev ta σ H (.str (sg n))) (hb : Ev tb σ H (.str (enc l))) : Ev (tOp rNotC ta tb) σ H (.bl (!decide (n ∈ l))) := ev_op ha hb fun H1 _ Q q => ⟨97 + n, enc l, rfl, rfl, by
  have e : decide (97 + n ∈ (enc l).cps.toList) = decide (n ∈ l) := decide_eq_decide.mpr mem_enc
  rw [e]
  exact q H1 (Ex.refl H1)⟩
theorem ev_inE {σ : L2.St} {H : Hp} {ta tb : TE} {n : Nat} {l : GRow} (ha : Ev ta σ H (.str (enc [n]))) (hb : Ev tb σ H (.str (enc l))) : Ev (tOp rInC ta tb) σ H (.bl (decide (n ∈ l))) := ev_inC ha hb
theorem one_row {k n : Nat} (h : n < k) : RowOk k [n] := fun m hm => by
  rw [List.mem_singleton.mp hm]
  exact h
section
variable {P : Program} {w : World} {K : PySem.W.Frag} {mg : Str → Option Value} {base : Heap}
def preAskLetter (K : PySem.W.Frag) : List V → Hp → V → Prop := fun vs H v => ∃ a R n, vs = [.ref a, .str (sg n)] ∧ RAt K H a R ∧ n < R.length ∧ v = .non
/-! ### Times -/
def timesB (R : GRules) (m : Int) (y z : Nat) : Bool := (decide (0 ≤ m) && decide (m ≤ (R.length : Int))) && decide (z ∈ grow R m.toNat [y])
def preTimes (K : PySem.W.Frag) : List V → Hp → V → Prop := fun vs H v => ∃ x dx a R y z, ∃ m : Int, vs = [.ref x, .ref a, .str (sg y), .str (sg z)] ∧ H x = some (.ins (He.ga K "Times") dx [("many", .int m)]) ∧ RAt K H a R ∧ y < R.length ∧ z < R.length ∧ v = .bl (timesB R m y z)
theorem sc_timesI : FnScope ["self", "many"] ["self", "many"] (defScope sTimes_init) := ⟨rfl, rfl, rfl, by decide +kernel, rfl, by decide +kernel, by decide +kernel⟩
theorem ok_timesI (X : T K mg) : C8.Mak P w K mg base 1 "Times" (He.ga K "Times") (spInit (He.ga K "Times") "many") [] := by
  refine mak_of X.i_Times sc_timesI (fun _ _ _ _ _ _ us hl => match us, hl with | [_, _], _ => rfl) (fun vs H Q E h => ?_) (fun f cdv A outer s H vs Q E hr h => ?_)
  · obtain ⟨a, dx, y, rfl, _⟩ := h
    rfl
  · obtain ⟨a, dx, y, rfl, hi, q⟩ := h
    refine ⟨_, pss_one (ps_fld (pv 0) (pv 1) rfl), ?_⟩
    exact ⟨y, rfl, .ref a, rfl, a, _, dx, [], rfl, hi, X.o_Times.cl, X.n_Times, by decide, q⟩
abbrev nTm : List Str := ["self", "rules", "one", "other", "now", "many", "letter"]
theorem sc_timesS : FnScope nTm ["self", "rules", "one", "other"] (defScope sTimes_shows) := ⟨rfl, rfl, rfl, by decide +kernel, rfl, by decide +kernel, by decide +kernel⟩
abbrev tTmEl : TE := tAndV (tOp (rI0 fun i j => .bl (decide (j < i))) (tVar 5) (tC (.int 0))) (tOp rEq (tVar 6) (tVar 3))
theorem ok_timesS (X : T K mg) : C8.Met P w K mg base 3 (He.ga K "Times") "shows" (spV (preTimes K)) [] := by
  refine met_of X.o_Times.cl X.m_Times_shows sc_timesS (fun _ _ _ _ _ _ us hl => match us, hl with | [_, _, _, _], _ => rfl) (fun vs H Q E h => ?_) (fun f cdv A outer s H vs Q E hr h => ?_)
  · obtain ⟨v, ⟨x, dx, a, R, y, z, m, rfl, _⟩, _⟩ := h
    rfl
  · obtain ⟨v, ⟨x, dx, a, R, y, z, m, rfl, hi, hR, hy, hz, rfl⟩, k⟩ := h
    have nd := sc_timesS.nd
    refine ⟨_, (pss_cons (ps_if (pt_not (pt_chain op_le op_le pe_int (pe_fld (pv 0) rfl) (pe_len X.z_len (pv 1)))) (pss_one (ps_ret pe_bl)) pss_nil)
      (pss_cons (ps_set (i := 4) nd rfl (Or.inl rfl) (C8.pe_c (ok_gc X) hr (by decide) rfl (pa_cons (pv 1) (pa_cons (C8.pe_c (ok_counted X) hr (by decide) rfl (pa_cons (pv 1) (pa_cons (pv 2) pa_nil))) (pa_cons (pe_fld (pv 0) rfl) pa_nil)))))
      (pss_one (ps_ret (pe_any rfl X.z_any (pe_lc (own := [("many", 5), ("letter", 6)]) (g := gTup K 2 (gCons (gName 5) (gCons (gName 6) gNil))) (tt := tYes) (te := tTmEl) (by rfl) nd (pi_zipx (by exact rfl) X.z_zip (pa_cons (pv 4) (pa_cons (C8.pe_gc (by exact rfl) X.LETTERS) pa_nil))) (blkOk_by (N := nTm) (sc := defScope sTimes_shows) (by decide +kernel))
          (fun _ _ _ _ _ => pg_tup rfl (pgs_cons (pg_name (i := 5) nd rfl (Or.inl rfl)) (pgs_cons (pg_name (i := 6) nd rfl (Or.inl rfl)) pgs_nil))) (fun _ _ _ _ _ => pts_nil)
          (fun _ _ _ _ _ => pe_and (pe_cmpR op_gt (pv 5) pe_int (nomark _)) (pe_one (pe_cmpR op_eq (pv 6) (pv 3) (nomark _)))))))))), ?_⟩
    have ok := hR.ok
    have h26 := ok.few
    have fld : ∀ {H' : Hp} {σ : L2.St}, σ[0]? = some (some (.ref x)) → Ex H H' → Ev (tFld K (tVar 0) "many") σ H' (.int m) := fun h e => ev_fld (ev_var h) (e _ _ hi) X.o_Times.cl X.n_Times rfl
    have lenR : ∀ {σ : L2.St} {H' : Hp}, σ[1]? = some (some (.ref a)) → Ex H H' → Ev (tLen K (tVar 1)) σ H' (.int (R.length : Int)) := fun h e => ev_is (ev_len (ev_var h) (hR.ex e).at_) (by rw [RL_len])
    by_cases hm : 0 ≤ m ∧ m ≤ (R.length : Int)
    · refine q_skip (et_is (et_not (et_test (ev_chain ev_c (fld rfl (Ex.refl _)) (fun _ => lenR rfl (Ex.refl _)) rv_I0 fun _ => rv_I0))) (by simp [hm.1, hm.2])) fun H1 e1 => ?_
      obtain ⟨mn, rfl⟩ : ∃ mn : Nat, m = (mn : Int) := ⟨m.toNat, by omega⟩
      refine q_asgL (xs := (counted R.length (grow R mn [y])).map V.int) ?_ fun p H2 hp e2 h2 => ?_
      · rw [← gcs_counted ok mn (one_row hy)]
        exact el_spQ (ys := (counted R.length [y]).map V.int) (ev_var rfl) (el_spL (ea_two (ev_var rfl) (ev_var rfl)) fun H4 e4 => ⟨a, RL R, [y], rfl, ex_l (e1.trans e4) hR.at_, by rw [RL_len]; exact h26, by rw [RL_len]⟩) (fld rfl e1) fun b H4 e4 hb =>
          ⟨a, R, counted R.length [y], mn, rfl, hR.ex (e1.trans e4), hb, counted_length _ _, by omega, rfl⟩
      · have e12 := e1.trans e2
        have cl : (counted R.length (grow R mn [y])).length = R.length := counted_length _ _
        have hL : EvL (tLc (iZipx K (tCons (tVar 4) (tCons (tC (.str ALPH)) tNil))) (gTup K 2 (gCons (gName 5) (gCons (gName 6) gNil))) tYes tTmEl [5, 6]) ([some (.ref x), some (.ref a), some (.str (sg y)), some (.str (sg z)), some (.ref p), none, none] : L2.St) H2 (((List.range R.length).map fun i => decide (0 < (grow R mn [y]).count i) && decide (i = z)).map V.bl) := by
          rw [List.map_map]
          have e26 : ALPH.cps.size = 26 := alph_len
          refine el_any (wi_zipx (ea_two (ev_var rfl) ev_c) (sq_of h2) (by rw [List.length_map, cl, e26]; omega)) _ (Nat.lt_of_le_of_lt h26 (by decide)) fun i v H3 H4 hi' e3 Y Q kk => ?_
          obtain ⟨T, u, v, rfl, hT, rfl, hu, hv⟩ := Y
          have hu : ((counted R.length (grow R mn [y])).map V.int)[i]? = some u := hu
          rw [List.getElem?_map, counted_get hi'] at hu
          cases hu
          have hv : (ALPH.cps[i]?).map (fun c => V.str ⟨#[c]⟩) = some v := hv
          have hc : ALPH.cps[i]? = some (97 + i) := by
            rw [← Array.getElem?_toList]
            exact cd_range_get (Nat.lt_of_lt_of_le hi' h26)
          rw [hc] at hv
          cases hv
          refine ⟨T, _, rfl, st_of upd_same, rfl, _, _, rfl, _, _, rfl, rfl, kk _ _ rfl (Ex.new hT) ?_⟩
          refine ev_is (ev_andV (a := decide (0 < (grow R mn [y]).count i)) (ev_is (ev_op (ev_var rfl) ev_c rv_I0) (by simp)) fun _ => ev_op (ev_var rfl) (ev_var rfl) (rv_eq rfl)) ?_
          have : decide (V.str (⟨#[97 + i]⟩ : Str) = V.str (sg z)) = decide (i = z) := by
            by_cases h : i = z
            · rw [h]
              simp [sg]
            · have : ¬ V.str (⟨#[97 + i]⟩ : Str) = V.str (sg z) := fun e => h (sg_inj (V.str.inj e))
              rw [decide_eq_false this, decide_eq_false h]
          rw [this]
          rfl
        refine s_ret (ev_is (ev_anyN hL) ?_) fun H3 e3 => k H3 (e12.trans e3)
        have : ((List.range R.length).map fun i => decide (0 < (grow R mn [y]).count i) && decide (i = z)).any id = decide (z ∈ grow R mn [y]) := by
          rw [List.any_map, Bool.eq_iff_iff, List.any_eq_true, decide_eq_true_eq]
          constructor
          · rintro ⟨i, hi', h⟩
            simp only [Function.comp, id, Bool.and_eq_true, decide_eq_true_eq] at h
            obtain ⟨h1, rfl⟩ := h
            exact List.count_pos_iff.mp h1
          · intro h
            refine ⟨z, List.mem_range.mpr hz, ?_⟩
            simp only [Function.comp, id, Bool.and_eq_true, decide_eq_true_eq]
            exact ⟨List.count_pos_iff.mpr h, trivial⟩
        rw [this]
        unfold timesB
        simp [hm.1, hm.2]
    · refine q_when (b := true) (et_is (et_not (et_test (ev_chain ev_c (fld rfl (Ex.refl _)) (fun _ => lenR rfl (Ex.refl _)) rv_I0 fun _ => rv_I0))) (by simp; omega)) (fun _ H1 e1 => ?_) fun hb => absurd hb (by decide)
      refine s_ret (ev_is (v := .bl false) ev_c ?_) fun H3 e3 => k H3 (e1.trans e3)
      unfold timesB
      have : (decide (0 ≤ m) && decide (m ≤ (R.length : Int))) = false := by simp; omega
      rw [this]
      rfl
/-! ### Shut -/
def shutB (R : GRules) (l : GRow) (y z : Nat) : Bool := ((isLet R.length (enc l) && decide (y ∈ l)) && !decide (z ∈ l)) && (once R l).all fun m => decide (m ∈ l)
def preShut (K : PySem.W.Frag) : List V → Hp → V → Prop := fun vs H v => ∃ x dx a R l y z, vs = [.ref x, .ref a, .str (sg y), .str (sg z)] ∧ H x = some (.ins (He.ga K "Shut") dx [("letters", .str (enc l))]) ∧ RAt K H a R ∧ l.length ≤ 100 ∧ v = .bl (shutB R l y z)
theorem sc_shutI : FnScope ["self", "letters"] ["self", "letters"] (defScope sShut_init) := ⟨rfl, rfl, rfl, by decide +kernel, rfl, by decide +kernel, by decide +kernel⟩
theorem ok_shutI (X : T K mg) : C8.Mak P w K mg base 1 "Shut" (He.ga K "Shut") (spInit (He.ga K "Shut") "letters") [] := by
  refine mak_of X.i_Shut sc_shutI (fun _ _ _ _ _ _ us hl => match us, hl with | [_, _], _ => rfl) (fun vs H Q E h => ?_) (fun f cdv A outer s H vs Q E hr h => ?_)
  · obtain ⟨a, dx, y, rfl, _⟩ := h
    rfl
  · obtain ⟨a, dx, y, rfl, hi, q⟩ := h
    refine ⟨_, pss_one (ps_fld (pv 0) (pv 1) rfl), ?_⟩
    exact ⟨y, rfl, .ref a, rfl, a, _, dx, [], rfl, hi, X.o_Shut.cl, X.n_Shut, by decide, q⟩
abbrev nSh : List Str := ["self", "rules", "one", "other", "letter"]
theorem sc_shutS : FnScope nSh ["self", "rules", "one", "other"] (defScope sShut_shows) := ⟨rfl, rfl, rfl, by decide +kernel, rfl, by decide +kernel, by decide +kernel⟩
theorem ok_shutS (X : T K mg) : C8.Met P w K mg base 2 (He.ga K "Shut") "shows" (spV (preShut K)) [] := by
  refine met_of X.o_Shut.cl X.m_Shut_shows sc_shutS (fun _ _ _ _ _ _ us hl => match us, hl with | [_, _, _, _], _ => rfl) (fun vs H Q E h => ?_) (fun f cdv A outer s H vs Q E hr h => ?_)
  · obtain ⟨v, ⟨x, dx, a, R, l, y, z, rfl, _⟩, _⟩ := h
    rfl
  · obtain ⟨v, ⟨x, dx, a, R, l, y, z, rfl, hi, hR, hl, rfl⟩, k⟩ := h
    have nd := sc_shutS.nd
    refine ⟨_, (pss_cons (ps_if (PW.pt (pw_or (pt_not (pt_val (C8.pe_c (ok_is_row X) hr (by decide) rfl (pa_cons (pv 1) (pa_cons (pe_fld (pv 0) rfl) pa_nil))))) (pw_or (pt_cmpR op_notC (pv 2) (pe_fld (pv 0) rfl) (by rfl)) (pw_or1 (pt_cmpR op_in_sign (pv 3) (pe_fld (pv 0) rfl) (by rfl)))))) (pss_one (ps_ret pe_bl)) pss_nil)
      (pss_one (ps_ret (pe_all rfl X.z_all (pe_lc (own := [("letter", 4)]) (g := gName 4) (tt := tYes) (te := tOp rInC (tVar 4) (tFld K (tVar 0) "letters")) (by rfl) nd (pi_str (C8.pe_c (ok_once X) hr (by decide) rfl (pa_cons (pv 1) (pa_cons (pe_fld (pv 0) rfl) pa_nil)))) (blkOk_by (N := nSh) (sc := defScope sShut_shows) (by decide +kernel))
          (fun _ _ _ _ _ => pg_name (i := 4) nd rfl (Or.inl rfl)) (fun _ _ _ _ _ => pts_nil)
          (fun _ _ _ _ _ => pe_cmpR op_in_sign (pv 4) (pe_fld (pv 0) (by exact rfl)) (by rfl))))))), ?_⟩
    have ok := hR.ok
    have h26 := ok.few
    have fld : ∀ {H' : Hp} {σ : L2.St}, σ[0]? = some (some (.ref x)) → Ex H H' → Ev (tFld K (tVar 0) "letters") σ H' (.str (enc l)) := fun h e => ev_fld (ev_var h) (e _ _ hi) X.o_Shut.cl X.n_Shut rfl
    have hc := et_or (et_not (et_B (ev_spV (E := E0) (v := .bl (isLet R.length (enc l))) (pre := preIsRow K) (ea_two (ev_var (σ := ([some (.ref x), some (.ref a), some (.str (sg y)), some (.str (sg z)), none] : L2.St)) (i := 1) rfl) (fld rfl (Ex.refl H))) fun H3 e3 => ⟨a, RL R, enc l, rfl, ex_l e3 hR.at_, by rw [RL_len]; exact h26, by rw [enc_len]; exact Nat.le_trans hl (by decide), by rw [RL_len]⟩))) fun _ => et_or (et_test (ev_notC (ev_var (i := 2) rfl) (fld rfl (Ex.refl H)))) fun _ => et_test (ev_inC (ev_var (i := 3) rfl) (fld rfl (Ex.refl H)))
    by_cases hb : ((isLet R.length (enc l) && decide (y ∈ l)) && !decide (z ∈ l)) = true
    · refine q_skip (et_is hc (by
        cases h1 : isLet R.length (enc l) <;> cases h2 : decide (y ∈ l) <;> cases h3 : decide (z ∈ l) <;> rw [h1, h2, h3] at hb <;> first | rfl | cases hb)) fun H1 e1 => ?_
      have hrow : RowOk R.length l := by
        simp only [Bool.and_eq_true] at hb
        exact isLet_iff.mp hb.1.1
      have oz : (once R l).length ≤ 16777216 := Nat.le_trans (once_bound hR.sz l) (Nat.le_trans (Nat.mul_le_mul_right _ hl) (by decide))
      have hL : EvL (tLc (iStr (tCall (spV (preOnce K)) [] E0 (tCons (tVar 1) (tCons (tFld K (tVar 0) "letters") tNil)))) (gName 4) tYes (tOp rInC (tVar 4) (tFld K (tVar 0) "letters")) [4]) ([some (.ref x), some (.ref a), some (.str (sg y)), some (.str (sg z)), none] : L2.St) H1 (((once R l).map fun m => decide (m ∈ l)).map V.bl) := by
        rw [List.map_map]
        refine el_str (K := K) (l := once R l) (ev_spV (ea_two (ev_var rfl) (fld rfl e1)) fun H2 e2 => ⟨a, R, l, rfl, (hR.ex (e1.trans e2)).at_, h26, hrow, Nat.lt_of_le_of_lt hl (by decide), oz, rfl⟩) _ (Nat.lt_of_le_of_lt (once_bound hR.sz l) (Nat.lt_of_le_of_lt (Nat.mul_le_mul_right _ hl) (by decide))) (fun _ => rfl) fun n hn H5 e5 => ?_
        exact ev_inC (ev_var rfl) (fld rfl (e1.trans e5))
      refine s_ret (ev_is (ev_allN hL) ?_) fun H2 e2 => k H2 (e1.trans e2)
      unfold shutB
      rw [hb, List.all_map]
      rfl
    · refine q_when (b := true) (et_is hc (by
        have hb' : ((isLet R.length (enc l) && decide (y ∈ l)) && !decide (z ∈ l)) = false := by simpa using hb
        cases h1 : isLet R.length (enc l) <;> cases h2 : decide (y ∈ l) <;> cases h3 : decide (z ∈ l) <;> rw [h1, h2, h3] at hb' <;> first | rfl | cases hb')) (fun _ H1 e1 => ?_) fun hb => absurd hb (by decide)
      refine s_ret (ev_is (v := .bl false) ev_c ?_) fun H3 e3 => k H3 (e1.trans e3)
      unfold shutB
      have hb' : ((isLet R.length (enc l) && decide (y ∈ l)) && !decide (z ∈ l)) = false := by simpa using hb
      rw [hb']
      rfl
end
end Gw

namespace Gw
open PySem PySem.Spec PyProof.Rows L2 Evl
/-! ### plain: what a letter comes to -/
theorem nodup_le : ∀ {n : Nat} {l : List Nat}, l.Nodup → (∀ i ∈ l, i < n) → l.length ≤ n
  | 0, l, _, h => by
    cases l with
    | nil => exact Nat.le_refl _
    | cons a l => exact absurd (h a (by simp)) (Nat.not_lt_zero a)
  | n + 1, l, d, h => by
    by_cases hn : n ∈ l
    · have ih := nodup_le (n := n) (d.erase n) fun i hi => by
        obtain ⟨h1, h2⟩ := d.mem_erase_iff.mp hi
        have := h i h2
        omega
      rw [List.length_erase_of_mem hn] at ih
      omega
    · have ih := nodup_le (n := n) d fun i hi => by
        have := h i hi
        have : i ≠ n := fun e => hn (e ▸ hi)
        omega
      omega
def nextN (R : GRules) (M N : List Nat) : List Nat := (List.range R.length).filter fun i => decide (i ∈ once R N) && !decide (i ∈ M ++ N)
theorem mem_next {R : GRules} {M N : List Nat} {i : Nat} : i ∈ nextN R M N ↔ i < R.length ∧ i ∈ once R N ∧ i ∉ M ++ N := by
  unfold nextN
  rw [List.mem_filter, List.mem_range, Bool.and_eq_true, decide_eq_true_eq, Bool.not_eq_true', decide_eq_false_iff_not]
theorem mem_once {R : GRules} {r : GRow} {x : Nat} : x ∈ once R r ↔ ∃ m ∈ r, x ∈ ruleOf R m := by
  unfold once
  rw [List.mem_flatten]
  constructor
  · rintro ⟨l, hl, hx⟩
    obtain ⟨m, hm, rfl⟩ := List.mem_map.mp hl
    exact ⟨m, hm, hx⟩
  · rintro ⟨m, hm, hx⟩
    exact ⟨_, List.mem_map.mpr ⟨m, hm, rfl⟩, hx⟩
structure CInv (R : GRules) (y z : Nat) (M N : List Nat) (k : Nat) : Prop where
  row : ∀ i ∈ M ++ N, i < R.length
  nd : (M ++ N).Nodup
  at_ : ∀ x ∈ N, x ∈ grow R k [y]
  has : y ∈ M ++ N
  no : z ∉ M
  closed : ∀ m ∈ M, ∀ x ∈ ruleOf R m, x ∈ M ++ N
  k_le : k ≤ M.length
theorem CInv.start {R : GRules} {y z : Nat} (hy : y < R.length) : CInv R y z [] [y] 0 :=
  ⟨fun i hi => by rw [List.mem_singleton.mp hi]; exact hy, by simp, fun x hx => hx, by simp, by simp, by simp, Nat.le_refl _⟩
theorem CInv.step {R : GRules} {y z : Nat} {M N : List Nat} {k : Nat} (ok : RulesOk R) (h : CInv R y z M N k) (hN : N ≠ []) (hz : z ∉ N) : CInv R y z (M ++ N) (nextN R M N) (k + 1) := by
  refine ⟨fun i hi => ?_, ?_, fun x hx => ?_, List.mem_append_left _ h.has, fun hm => ?_, fun m hm x hx => ?_, ?_⟩
  · rcases List.mem_append.mp hi with hi | hi
    · exact h.row i hi
    · exact (mem_next.mp hi).1
  · refine List.nodup_append.mpr ⟨h.nd, List.nodup_range.sublist List.filter_sublist, fun a ha b hb e => ?_⟩
    exact (mem_next.mp hb).2.2 (e ▸ ha)
  · obtain ⟨m, hm, hx2⟩ := mem_once.mp (mem_next.mp hx).2.1
    rw [grow_succ]
    exact mem_once.mpr ⟨m, h.at_ m hm, hx2⟩
  · rcases List.mem_append.mp hm with hm | hm
    · exact h.no hm
    · exact hz hm
  · rcases List.mem_append.mp hm with hm | hm
    · exact List.mem_append_left _ (h.closed m hm x hx)
    · by_cases hxM : x ∈ M ++ N
      · exact List.mem_append_left _ hxM
      · exact List.mem_append_right _ (mem_next.mpr ⟨rule_ok ok m x hx, mem_once.mpr ⟨m, hm, hx⟩, hxM⟩)
  · have : 1 ≤ N.length := by
      cases N with
      | nil => exact absurd rfl hN
      | cons a l => simp
    have := h.k_le
    rw [List.length_append]
    omega
/-! ### the dict of the letters met -/
def metK (M : List Nat) : List (Key × V) := M.map fun n => (Sum.inr (sg n), V.bl true)
theorem metK_val (M : List Nat) (n : Nat) : (valV (metK M) (Sum.inr (sg n) : Key)).isSome = decide (n ∈ M) := by
  unfold valV metK
  rw [List.find?_map]
  induction M with
  | nil => rfl
  | cons a M ih =>
    by_cases h : a = n
    · subst h
      simp [List.find?_cons]
    · have hne : ¬ (Sum.inr (sg a) : Key) = Sum.inr (sg n) := fun e => h (sg_inj (Sum.inr.inj e))
      have hn : ¬ n = a := fun e => h e.symm
      rw [List.find?_cons]
      have e1 : ((fun kv : Key × V => decide (kv.1 = (Sum.inr (sg n) : Key))) ∘ fun m => ((Sum.inr (sg m) : Key), V.bl true)) a = false := decide_eq_false hne
      rw [e1]
      rw [ih]
      simp [hn]
theorem metK_put {M : List Nat} {n : Nat} (h : n ∉ M) : putK (metK M) (Sum.inr (sg n) : Key) (.bl true) = metK (M ++ [n]) := by
  unfold putK
  have e : ((metK M).any fun kv => decide (kv.1 = (Sum.inr (sg n) : Key))) = false := by
    rw [List.any_eq_false]
    intro kv hkv
    obtain ⟨m, hm, rfl⟩ := List.mem_map.mp hkv
    have : ¬ (Sum.inr (sg m) : Key) = Sum.inr (sg n) := fun e => h (sg_inj (Sum.inr.inj e) ▸ hm)
    simpa using this
  rw [e]
  unfold metK
  rw [List.map_append]
  rfl
/-- sorted letters -/
theorem perm_sg {ys : List Str} {M : List Nat} (h : ys.Perm (M.map sg)) : ∃ l : List Nat, l.Perm M ∧ ys = l.map sg := by
  have hu : ∀ n, (fun z : Str => z.cps.getD 0 0 - 97) (sg n) = n := fun n => by
    show (#[97 + n] : Array Nat).getD 0 0 - 97 = n
    simp [Array.getD]
  refine ⟨ys.map fun z => z.cps.getD 0 0 - 97, ?_, ?_⟩
  · have := h.map fun z : Str => z.cps.getD 0 0 - 97
    rw [List.map_map] at this
    have e : M.map ((fun z : Str => z.cps.getD 0 0 - 97) ∘ sg) = M := (List.map_congr_left (g := id) fun n _ => hu n).trans (List.map_id M)
    rw [e] at this
    exact this
  · rw [List.map_map]
    have : ∀ y ∈ ys, (sg ∘ fun z : Str => z.cps.getD 0 0 - 97) y = y := fun y hy => by
      obtain ⟨n, _, rfl⟩ := List.mem_map.mp (h.mem_iff.mp hy)
      show sg ((fun z : Str => z.cps.getD 0 0 - 97) (sg n)) = sg n
      rw [hu]
    exact ((List.map_congr_left (g := id) this).trans (List.map_id ys)).symm
/-! ### comes -/
theorem flat_one : ∀ l : List Nat, (l.map fun n => ([n] : GRow)).flatten = l
  | [] => rfl
  | a :: l => by rw [List.map_cons, List.flatten_cons, flat_one l]; rfl
theorem one_enc (l : List Nat) : (l.map fun n => ([n] : GRow)).map enc = l.map sg := by
  rw [List.map_map]
  rfl
def tSortD : TE → TE := fun te => tCB (fun xs H Q => ∃ (a : Addr) (kvs : List (Key × V)) (ks : List Str), xs = [.ref a] ∧ Rd H a (.dK kvs) ∧ kvs.map (·.1) = ks.map Sum.inr ∧ ks.length < 64 ∧
    ∀ ys p, ys.Perm ks → sortedS ys = true → H p = none → Q (.ref p) (upd H p (.lst (ys.map V.str)))) (tCons te tNil)
/-- "".join(sorted(d)) -/
theorem go_sortJoin {K : PySem.W.Frag} {σ : L2.St} {H : Hp} {te : TE} {a : Addr} {M : List Nat} {Q : VK} (h : Ev te σ H (.ref a)) (ha : H a = some (.dK (metK M))) (hl : M.length ≤ 26) (q : ∀ l H2, Ex H H2 → l.Perm M → Q (.str (enc l)) H2) :
    tM1 (rSJoin K) (tC (.str (enc []))) (tSortD te) σ H Q := by
  refine ⟨⟨enc [], rfl⟩, h H (Ex.refl _) _ fun H1 e1 => ⟨a, metK M, M.map sg, rfl, .inl (e1 _ _ ha), ?_, by rw [List.length_map]; omega, fun ys p hy _ hp => ?_⟩⟩
  · unfold metK
    rw [List.map_map, List.map_map]
    rfl
  · obtain ⟨l, hl2, rfl⟩ := perm_sg hy
    have e2 := e1.trans (Ex.new (o := .lst ((l.map sg).map V.str)) hp)
    have hlen : l.length = M.length := hl2.length_eq
    refine ⟨enc [], p, l.map sg, rfl, rfl, Or.inl (sq_of upd_same), ?_, ?_⟩
    · have f := flat_len (l.map fun n => ([n] : GRow))
      rw [one_enc, flat_one] at f
      rw [f, enc_len]
      show l.length + (l.map sg).length * 0 ≤ 16777216
      omega
    · have j := join_enc (l.map fun n => ([n] : GRow))
      rw [one_enc, flat_one] at j
      rw [j]
      exact q l _ e2 hl2
theorem go_make {σ : L2.St} {H : Hp} {D : Ends} {C : Addr} {f : Str} {E : XK} {te : TE} {Pv : V → Hp → Prop} (h : ∀ Q' : VK, (∀ v H2, Pv v H2 → Q' v H2) → te σ H Q')
    (k : ∀ v H2 x dx, Pv v H2 → H2 x = none → H2 dx = none → D.rt (.ref x) (upd (upd (upd H2 dx (.own x)) x (.ins C dx [])) x (.ins C dx [(f, v)]))) : tRet (tMake C (spInit C f) [] E (tCons te tNil)) D σ H :=
  h _ fun v H2 hP x dx hx hd hne => ⟨x, dx, v, rfl, upd_same, rfl, k v H2 x dx hP hx hd⟩
section
variable {P : Program} {w : World} {K : PySem.W.Frag} {mg : Str → Option Value} {base : Heap}
abbrev nCm : List Str := ["rules", "one", "other", "met", "now", "many", "letter"]
def ComesA (K : PySem.W.Frag) (R : GRules) (y z : Nat) (x : Addr) (H : Hp) : Prop :=
  (∃ dx, ∃ k : Nat, k ≤ R.length ∧ z ∈ grow R k [y] ∧ H x = some (.ins (He.ga K "Times") dx [("many", .int (k : Int))])) ∨
  (∃ dx l, RowOk R.length l ∧ l.length ≤ 26 ∧ y ∈ l ∧ z ∉ l ∧ (∀ m ∈ once R l, m ∈ l) ∧ H x = some (.ins (He.ga K "Shut") dx [("letters", .str (enc l))]))
def spComes (K : PySem.W.Frag) : Sp := fun vs H Q _ => ∃ a R y z, vs = [.ref a, .str (sg y), .str (sg z)] ∧ RAt K H a R ∧ y < R.length ∧ z < R.length ∧ ∀ x H2, H x = none → Ex H H2 → ComesA K R y z x H2 → Q (.ref x) H2
abbrev tOnceC (K : PySem.W.Frag) : TE := tCall (spV (preOnce K)) [] E0 (tCons (tVar 0) (tCons (tVar 4) tNil))
abbrev tNewL (K : PySem.W.Frag) : TT := tAnd (tTest (tOp rInC (tVar 6) (tOnceC K))) (tB (tDNotIn (tVar 6) (tVar 3)))
end
end Gw

namespace Gw
open PySem PySem.Spec PyProof.Rows L2 Evl PySem.Froz
/-! ### a set of a text's signs -/
structure TxR (w : World) (D : SD) : Prop where
  ris : Ris D.2.2.place.toList
  led : w.params.followText "set-order" = true ∨ D.2.2.led = true
theorem TxR.add {w : World} {D : SD} (F : TxR w D) (h : Int) (v : Value) : TxR w (addTx h v D) := by
  obtain ⟨es, ep, t⟩ := D
  have r1 := layNew_ris t es h v F.ris
  have l1 := layNew_led t es h v
  have hl := F.led
  show TxR w (tailTx ep (layNew t es h v).1 (if (layNew t es h v).2.1.plain = true then { (layNew t es h v).2.1 with plain := false } else (layNew t es h v).2.1) (layNew t es h v).2.2.1)
  obtain ⟨t2, ht2, r2, l2⟩ : ∃ t2, (if (layNew t es h v).2.1.plain = true then { (layNew t es h v).2.1 with plain := false } else (layNew t es h v).2.1) = t2 ∧ Ris t2.place.toList ∧ t2.led = t.led := by
    by_cases c : (layNew t es h v).2.1.plain = true
    · rw [if_pos c]
      exact ⟨_, rfl, r1, l1⟩
    · rw [if_neg c]
      exact ⟨_, rfl, r1, l1⟩
  rw [ht2]
  unfold tailTx
  by_cases c : (!(layNew t es h v).2.2.1 && t2.tooFull) = true
  · rw [if_pos c]
    refine ⟨relayAll_ris t2 _ _, ?_⟩
    show _ ∨ (relayAll t2 _ _).2.1.led = true
    rw [relayAll_led, l2]
    exact hl
  · rw [if_neg c]
    refine ⟨r2, ?_⟩
    show _ ∨ t2.led = true
    rw [l2]
    exact hl
section
variable {P : Program} {w : World} {A : Around} {E : Value → Shared → Prop} {s : Shared}
theorem add_old {a : Addr} {T : String} {D : SD} {l : List Str} {k : Str} {u : Tok} {Q : Bool → Shared → Prop} (ho : s.heap.get? a = some (sObj T D)) (F : TxOk P w D l) (hk : k ∈ l) (hb : l.length + 1 < scanBound) (h : Q false s) :
    wpAny (model P w) A (setAddHashed a (.str k u) (hashStr w k)) Q E s := by
  obtain ⟨es, ep, t⟩ := D
  have hd : (sObj T (es, ep, t)).data = .set es ep t := rfl
  have hf : t.fits es.size = true := F.fit
  have hel : ElemsOf (strKind P w) es.toList := F.el
  have hsz : es.size = l.length := F.sz
  have hb0 : es.size < scanBound := by omega
  have hkey : (strKind P w).is k (.str k u) = true := is_str k u
  unfold setAddHashed setAddHashedIn
  refine wpAny_holding (wpAny_bind (wpAny_setState_of ho hd hf ?_))
  dsimp only
  rw [byScan_of rfl hb0 hel]
  simp only [↓reduceIte]
  unfold setAddByScan
  refine wpAny_bind ?_
  refine wpAny_bind (wpAny_rule ?_)
  refine wpAny_bind (wpAny_setScan_of (knd := strKind P w) (k := k) hkey ho hd hf hel ?_)
  cases hr : List.findIdx? (fun e => (strKind P w).is k e.2) es.toList with
  | some j =>
    dsimp only
    exact wpAny_pure (wpAny_pure h)
  | none =>
    obtain ⟨e, he, hp⟩ := (F.mem k).mp hk
    have := List.findIdx?_eq_none_iff.mp hr e he
    rw [hp] at this
    cases this
theorem code_updateD {a it : Addr} (hne : a ≠ it) {x : Str} {u : Tok} {R : Result → Shared → Prop} (hh : A.handled = none) : ∀ (cs : List Nat) (i : Nat) (D : SD) (l : List Str) (s : Shared), x.cps.toList.drop i = cs →
    s.heap.get? a = some (sObj "set" D) → s.heap.get? it = some (itObj x u i) → TxOk P w D l → TxR w D → l.Nodup → l.length + cs.length + 1 < scanBound →
    (∀ h' tk D' l', (∀ b o, b ≠ a → b ≠ it → s.heap.get? b = some o → h'.get? b = some o) → h'.get? a = some (sObj "set" D') → TxOk P w D' l' → TxR w D' → l'.Nodup → (∀ k, k ∈ l' ↔ (k ∈ l ∨ ∃ c ∈ cs, k = sing c)) → l'.length ≤ l.length + cs.length → R (.ok (.ret .none)) { s with heap := h', toks := tk }) →
    codeAny (model P w) A (.builtin "set.update.loop" ⟨[.ref a, .ref it], []⟩) R s
  | [], i, D, l, s, hd, ha, hit, F, G, nd, _, h => by
    refine codeAny_builtin PyProof.Rows.F.entry_set_update_loop ?_
    rw [Around.under_plainId PyProof.Rows.F.plain_set_update_loop _]
    show wpAny _ A.in1 (pyNext (.ref it) >>= _) _ _ s
    refine wpAny_bind (end_x (u := u) (by exact hh) hit (at_end hd) ?_)
    show wpAny _ A.in1 (ret Value.none) _ _ _
    refine wpAny_pure ?_
    refine h _ s.toks D l (fun b o h1 h2 e => ?_) ?_ F G nd (fun k => by simp) (by simp)
    · exact Heap.get?_push_of_some _ (Heap.get?_push_of_some _ (PySem.Heap.get?_update_of_ne _ (Ne.symm h2) e))
    · exact Heap.get?_push_of_some _ (Heap.get?_push_of_some _ (PySem.Heap.get?_update_of_ne _ (Ne.symm hne) ha))
  | c :: r, i, D, l, s, hd, ha, hit, F, G, nd, hb, h => by
    obtain ⟨hx, hd2⟩ := at_of hd
    have hb2 : l.length + (r.length + 1) + 1 < scanBound := hb
    refine codeAny_builtin PyProof.Rows.F.entry_set_update_loop ?_
    rw [Around.under_plainId PyProof.Rows.F.plain_set_update_loop _]
    show wpAny _ A.in1 (pyNext (.ref it) >>= _) _ _ s
    refine wpAny_bind (next_x (u := u) hit hx ?_)
    show wpAny _ A.in1 (holding [Value.str (sing c) s.toks] (setAdd a (.str (sing c) s.toks)) >>= _) _ _ _
    refine wpAny_bind (wpAny_holding ?_)
    unfold setAdd
    refine wpAny_holding ?_
    refine wpAny_bind ((strKind P w).pyHash (k := sing c) (is_str _ _) ?_)
    have ha1 : (s.heap.update it (fun _ => itObj x u (i + 1))).get? a = some (sObj "set" D) := PySem.Heap.get?_update_of_ne _ (Ne.symm hne) ha
    have hit1 : (s.heap.update it (fun _ => itObj x u (i + 1))).get? it = some (itObj x u (i + 1)) := get_upd _ hit rfl
    by_cases hcl : sing c ∈ l
    · refine add_old (l := l) (D := D) (s := { s with heap := s.heap.update it (fun _ => itObj x u (i + 1)), toks := s.toks + 1 + 1 }) ha1 F hcl (by omega) ?_
      refine wpAny_pure ⟨plainId_quiet PyProof.Rows.F.plain_set_update_loop _, code_updateD hne hh r (i + 1) D l _ hd2 ha1 hit1 F G nd (by show l.length + r.length + 1 < scanBound; omega) fun h' tk D' l' hk ha' F' G' nd' hm hl => ?_⟩
      refine h h' tk D' l' (fun b o h1 h2 e => hk b o h1 h2 (PySem.Heap.get?_update_of_ne _ (Ne.symm h2) e)) ha' F' G' nd' (fun k => (hm k).trans ?_) (by rw [List.length_cons]; omega)
      constructor
      · rintro (q | ⟨d, hd', q⟩)
        · exact .inl q
        · exact .inr ⟨d, List.mem_cons_of_mem _ hd', q⟩
      · rintro (q | ⟨d, hd', q⟩)
        · exact .inl q
        · rcases List.mem_cons.mp hd' with e | e
          · rw [q, e]
            exact .inl hcl
          · exact .inr ⟨d, e, q⟩
    · refine add_x (l := l) (D := D) (s := { s with heap := s.heap.update it (fun _ => itObj x u (i + 1)), toks := s.toks + 1 + 1 }) ha1 F hcl (by omega) ?_
      have ha2 : ((s.heap.update it (fun _ => itObj x u (i + 1))).update a (fun _ => sObj "set" (addTx (hashStr w (sing c)) (.str (sing c) s.toks) D))).get? a = some (sObj "set" (addTx (hashStr w (sing c)) (.str (sing c) s.toks) D)) := get_upd _ ha1 rfl
      have hit2 : ((s.heap.update it (fun _ => itObj x u (i + 1))).update a (fun _ => sObj "set" (addTx (hashStr w (sing c)) (.str (sing c) s.toks) D))).get? it = some (itObj x u (i + 1)) := PySem.Heap.get?_update_of_ne _ hne hit1
      refine wpAny_pure ⟨plainId_quiet PyProof.Rows.F.plain_set_update_loop _, code_updateD hne hh r (i + 1) _ (sing c :: l) _ hd2 ha2 hit2 (add_ok s.toks F) (G.add _ _) (List.nodup_cons.mpr ⟨hcl, nd⟩) (by show l.length + 1 + r.length + 1 < scanBound; omega) fun h' tk D' l' hk ha' F' G' nd' hm hl => ?_⟩
      refine h h' tk D' l' (fun b o h1 h2 e => hk b o h1 h2 (PySem.Heap.get?_update_of_ne _ (Ne.symm h1) (PySem.Heap.get?_update_of_ne _ (Ne.symm h2) e))) ha' F' G' nd' (fun k => (hm k).trans ?_) (by rw [List.length_cons] at hl ⊢; omega)
      constructor
      · rintro (q | ⟨d, hd', q⟩)
        · rcases List.mem_cons.mp q with q | q
          · exact .inr ⟨c, List.mem_cons_self, q⟩
          · exact .inl q
        · exact .inr ⟨d, List.mem_cons_of_mem _ hd', q⟩
      · rintro (q | ⟨d, hd', q⟩)
        · exact .inl (List.mem_cons_of_mem _ q)
        · rcases List.mem_cons.mp hd' with e | e
          · rw [q, e]
            exact .inl List.mem_cons_self
          · exact .inr ⟨d, e, q⟩
set_option maxHeartbeats 6400000 in
/-- set(x) of a text of plain signs -/
theorem call_set_text {x : Str} {u : Tok} {Q : Value → Shared → Prop} (hh : A.handled = none) (hx : x.cps.all (· < 128) = true) (hb : x.length + 1 < scanBound)
    (h : ∀ (h' : Heap) (tk : Tok) (D : SD) (l : List Str), h'.get? s.heap.objs.size = some (sObj "set" D) → TxOk P w D l → TxR w D → l.Nodup → (∀ k, k ∈ l ↔ ∃ c ∈ x.cps.toList, k = sing c) → (∀ b o, s.heap.get? b = some o → h'.get? b = some o) → Q (.ref s.heap.objs.size) { s with heap := h', toks := tk }) :
    wpAny (model P w) A (call (.type "set") [.str x u]) Q E s := by
  obtain ⟨c, tl, hmro⟩ := PySem.F.called_set.mro
  have hmade := PySem.F.called_set.made
  have hsub := PySem.F.called_set.sub
  refine wpAny_call (codeAny_of_tree ?_)
  show wpAny _ _ (callAny (.type "set") _) _ _ _
  refine wpAny_pure ⟨Code.quiet_builtin _ (by decide +kernel), codeAny_builtin PySem.F.entry_type_call ?_⟩
  rw [Around.under_plain (weight_type_call_type "set" [.str x u] []) rfl]
  have h1 := PySem.F.called_set.notType
  have h2 := PySem.F.called_set.canCreate
  have hct := (by kernel_rfl : checkTypeCall "set" ⟨[Value.str x u], []⟩ = pure ())
  repeat (any_goals (first | assumption | wp_step))
  refine codeAny_mono (code_set_led1 (.str x u) (E := E) (Q₁ := fun obj s₁ => obj = .ref s.heap.objs.size ∧ s₁ = { s with heap := s.heap.push { cls := .type "set", dict := none, data := .set #[] 0 (.fresh 0 0 (!w.params.followText "set-order")) } }) ⟨rfl, rfl⟩) fun r s₁ hr => ?_
  cases r with
  | error e => exact hr
  | ok fl =>
    cases fl with
    | ret obj =>
      obtain ⟨rfl, rfl⟩ := hr
      have hS : (s.heap.push { cls := .type "set", dict := none, data := .set #[] 0 (.fresh 0 0 (!w.params.followText "set-order")) }).get? s.heap.objs.size = some { cls := .type "set", dict := none, data := .set #[] 0 (.fresh 0 0 (!w.params.followText "set-order")) } := Heap.get?_push_size _ rfl
      have hT : Shared.TypeIs { s with heap := s.heap.push { cls := .type "set", dict := none, data := .set #[] 0 (.fresh 0 0 (!w.params.followText "set-order")) } } (.ref s.heap.objs.size) "set" := ⟨_, hS, rfl⟩
      have hli := PySem.F.called_set.init.lookup
      have hbi := PySem.F.called_set.init.bind (.ref s.heap.objs.size)
      repeat (any_goals (first | assumption | wp_step))
      refine codeAny_mono (codeAny_call_builtin (R := wants (fun r s₂ => r = .none ∧ ∃ h' tk D l, s₂ = { s with heap := h', toks := tk } ∧ h'.get? s.heap.objs.size = some (sObj "set" D) ∧ TxOk P w D l ∧ TxR w D ∧ l.Nodup ∧ (∀ k, k ∈ l ↔ ∃ c ∈ x.cps.toList, k = sing c) ∧
          (∀ b o, s.heap.get? b = some o → h'.get? b = some o)) E) PySem.F.called_set.init.plain PySem.F.entry_set_init (check_set_init_1 hT ?_)) fun r₂ s₂ hr₂ => ?_
      · have hsls := PySem.F.sub_str_set
        have hslf := PySem.F.sub_str_frozenset
        have hne : (Value.type "str" == Value.type "dict") = false := by decide
        unfold Builtin.«set.__init__» noKeywords Builtin.Frozenset.updateFrom
        generalize hPI : pyIter = PI
        wp_walk
        subst hPI
        refine wpAny_pyIter_ascii hx ?_
        refine wpAny_bind (wpAny_runValue ?_)
        have hz1 : (s.heap.push { cls := .type "set", dict := none, data := .set #[] 0 (.fresh 0 0 (!w.params.followText "set-order")) }).objs.size = s.heap.objs.size + 1 := Heap.size_push ..
        have hneI : s.heap.objs.size ≠ (s.heap.push { cls := .type "set", dict := none, data := .set #[] 0 (.fresh 0 0 (!w.params.followText "set-order")) }).objs.size := by
          rw [Heap.size_push]; exact Nat.ne_of_lt (Nat.lt_succ_self _)
        refine code_updateD (x := x) (u := u) hneI (by simp [hh]) x.cps.toList 0 (#[], 0, .fresh 0 0 (!w.params.followText "set-order")) [] _ rfl (Heap.get?_push_of_some _ hS) (Heap.get?_push_size _ rfl) (TxOk.nil rfl) ⟨List.Pairwise.nil, ?_⟩ List.nodup_nil (by
            show 0 + x.cps.toList.length + 1 < scanBound
            rw [Array.length_toList]
            have : x.cps.size = x.length := rfl
            omega) fun h' tk D l hk ha F G nd hm hl => ?_
        · show _ ∨ (!w.params.followText "set-order") = true
          cases w.params.followText "set-order"
          · exact .inr rfl
          · exact .inl rfl
        · show wpAny _ _ _ _ _ _
          refine wpAny_pure ?_
          show wpAny _ _ (ret Value.none) _ _ _
          refine wpAny_pure ⟨rfl, h', tk, D, l, rfl, ha, F, G, nd, fun k => by rw [hm k]; simp, fun b o e => ?_⟩
          have hb0 : b < s.heap.objs.size := Heap.lt_size e
          exact hk b o (Nat.ne_of_lt hb0) (by rw [Heap.size_push]; exact Nat.ne_of_lt (Nat.lt_succ_of_lt hb0)) (Heap.get?_push_of_some _ (Heap.get?_push_of_some _ e))
      · cases r₂ with
        | error e => exact hr₂
        | ok fl₂ =>
          cases fl₂ with
          | ret r =>
            obtain ⟨rfl, h', tk, D, l, rfl, ha, F, G, nd, hm, hk⟩ := hr₂
            repeat (any_goals (first | assumption | wp_step))
            exact h _ _ _ _ ha F G nd hm hk
          | _ => exact hr₂.elim
    | _ => exact hr.elim
end
end Gw

namespace Gw
open PySem PySem.Spec PyProof.Rows L2 Evl PySem.Froz
def strOf : Value → Str
  | .str k _ => k
  | _ => Str.empty
theorem strs_of : ∀ {vs : List Value}, (∀ v ∈ vs, ∃ k t, v = .str k t) → StrsAre vs (vs.map strOf)
  | [], _ => .nil
  | v :: vs, h => by
    obtain ⟨k, t, rfl⟩ := h v List.mem_cons_self
    exact .cons k t (strs_of fun u hu => h u (List.mem_cons_of_mem _ hu))
section
variable {P : Program} {w : World} {A : Around} {E : Value → Shared → Prop} {s : Shared}
theorem sorted_setX {a : Addr} {D : SD} {l : List Str} {Q : Value → Shared → Prop} (ho : s.heap.get? a = some (sObj "set" D)) (F : TxOk P w D l) (G : TxR w D) (hh : A.handled = none) (h64 : l.length < 64)
    (hQ : ∀ s' p (out : Array Value) (c : Nat) (ys : List Str), (∀ b o, s.heap.get? b = some o → s'.heap.get? b = some o) → s'.gens = s.gens → s'.os = s.os → s.heap.objs.size ≤ p →
      s'.heap.get? p = some (seqObj "list" out c) → StrsAre out.toList ys → (∀ k, k ∈ ys ↔ k ∈ l) → ys.length = l.length → Q (.ref p) s') :
    wpAny (model P w) A (call (.builtin "sorted") [.ref a]) Q E s := by
  obtain ⟨es, ep, t⟩ := D
  have hsz : es.size = l.length := F.sz
  have hb : es.size < scanBound := by
    have : (64 : Nat) ≤ scanBound := by decide
    omega
  refine Calls.call_function_entry kind_sorted plain_sorted entry_sorted (args_sorted1 _) ?_
  unfold Builtin.«sorted»
  refine wpAny_bind (m := checkCount "sorted" 1 1 _) (wpAny_pure ?_)
  refine wpAny_bind (collect_set (A := A.in1) hh ⟨_, ho, rfl, rfl⟩ F.fit hb G.ris G.led fun s1 vs k1 hz g1 o1 pm => ?_)
  have hvl : vs.length = l.length := by rw [pm.length_eq, List.length_map, Array.length_toList]; exact hsz
  have hvs : ∀ v ∈ vs, ∃ k t, v = Value.str k t ∧ k ∈ l := fun v hv => by
    obtain ⟨e, he, q⟩ := List.mem_map.mp (pm.mem_iff.mp hv)
    obtain ⟨⟨k, hk, _⟩, _⟩ := F.el e he
    have hk2 : Value.isStrOf k e.2 = true := hk
    obtain ⟨t, ht⟩ := Value.isStrOf_shape hk2
    exact ⟨k, t, by rw [← q]; exact ht, (F.mem k).mpr ⟨e, he, hk⟩⟩
  have hS : StrsAre vs (vs.map strOf) := strs_of fun v hv => by
    obtain ⟨k, t, h, _⟩ := hvs v hv
    exact ⟨k, t, h⟩
  have hmem : ∀ k, k ∈ vs.map strOf ↔ k ∈ l := fun k => by
    constructor
    · intro h
      obtain ⟨v, hv, rfl⟩ := List.mem_map.mp h
      obtain ⟨k, t, rfl, hk⟩ := hvs v hv
      exact hk
    · intro h
      obtain ⟨e, he, hk⟩ := (F.mem k).mp h
      have hk2 : Value.isStrOf k e.2 = true := hk
      obtain ⟨t, ht⟩ := Value.isStrOf_shape hk2
      exact List.mem_map.mpr ⟨e.2, pm.mem_iff.mpr (List.mem_map.mpr ⟨e, he, rfl⟩), by rw [ht]; rfl⟩
  refine wpAny_bind (wpAny_newList ?_ (by rw [hvl, sizeLine_eq]; omega))
  have hoL : (s1.heap.push (seqObj "list" vs.toArray 0)).get? s1.heap.objs.size = some (seqObj "list" vs.toArray 0) := Heap.get?_push_size _ rfl
  refine wpAny_bind (wpAny_holding (wpAny_call_entry slot_list_sort ⟨_, hoL, rfl⟩ entry_list_sort
    (list_sort_treeK strKind_oneLt hoL hS.keysOf (fun v₁ v₂ rest e => keyKind_strs (by rw [← e]; exact hS)) (by rw [hvl]; exact h64) fun st' hp hs => ⟨_, rfl, ?_⟩) (args_list_sort _)))
  obtain ⟨ys, y1, y2, y3⟩ := sorted_out_str hS hp hs
  obtain ⟨c, hc⟩ := sortedHeap_at (vs := vs) (out := (arrOf st').map (·.2)) hoL
  refine wpAny_pure ⟨_, rfl, hQ _ s1.heap.objs.size ((arrOf st').map (·.2)) c ys (fun b u e => ?_) g1 o1 hz hc y1 (fun k => y2.mem_iff.trans (hmem k)) (by rw [y2.length_eq, List.length_map, hvl])⟩
  have q := k1 b u e
  have hlt := Heap.lt_size q
  show (sortedHeap (s1.heap.push (seqObj "list" vs.toArray 0)) s1.heap.objs.size vs ((arrOf st').map (·.2))).get? b = some u
  rw [sortedHeap_old (Nat.ne_of_lt hlt) (by rw [size_push']; exact Nat.lt_succ_of_lt hlt)]
  exact Heap.get?_push_of_some _ q
end
/-! ### sorted(set(e)) -/
def tSortSet (te : TE) : TE := fun σ H Q => te σ H fun x H1 => ∃ l : GRow, x = .str (enc l) ∧ RowOk 26 l ∧ l.length ≤ 4000 ∧ ∀ (p : Addr) (m : List Nat), H1 p = none → (∀ i, i ∈ m ↔ i ∈ l) → m.length ≤ 26 → Q (.ref p) (upd H1 p (.lst ((m.map sg).map V.str)))
theorem enc_ascii {l : GRow} (h : RowOk 26 l) : (enc l).cps.all (· < 128) = true := by
  rw [← Array.all_toList]
  refine List.all_eq_true.mpr fun c hc => ?_
  obtain ⟨n, hn, rfl⟩ := List.mem_map.mp (show c ∈ l.map (97 + ·) from hc)
  have := h n hn
  simp
  omega
theorem sg_back {ys : List Str} (h : ∀ y ∈ ys, ∃ n, y = sg n) : ∃ m : List Nat, ys = m.map sg := by
  induction ys with
  | nil => exact ⟨[], rfl⟩
  | cons y ys ih =>
    obtain ⟨n, rfl⟩ := h y List.mem_cons_self
    obtain ⟨m, rfl⟩ := ih fun z hz => h z (List.mem_cons_of_mem _ hz)
    exact ⟨n :: m, rfl⟩
theorem pe_sortSet {X : Cx} {e : Expr} {te : TE} {p p2 q pos : Pos} (z : X.mg "sorted" = none) (z2 : X.mg "set" = none) (he : PE X e te) (hg : Gl X "sorted" := by exact rfl) (hg2 : Gl X "set" := by exact rfl) (hc : X.calm = true := by rfl)
    (na : starEach [e] X.env = (false, eval e X.env) :: starEach [] X.env := by rfl) : PE X (.Call (.Name "sorted" p) [.Call (.Name "set" p2) [e] [] q] [] pos) (tSortSet te) := by
  refine ⟨fun pins s σ H Q I h => ?_⟩
  refine Call_ (ld_blt I hg z (show bootBuiltins ("sorted" : Str) = some (.builtin "sorted") by decide +kernel) ?_)
  refine PyProof.Rows.callWith_builtin1 (PyProof.Rows.args_cons ?_ rfl) rfl rfl
  refine Call_ (ld_blt I hg2 z2 (show bootBuiltins ("set" : Str) = some (.type "set") by decide +kernel) ?_)
  refine PyProof.Rows.callWith_type1 (PyProof.Rows.args_cons (thn (he.run pins s σ H _ I h) fun v s1 ⟨x, H1, I1, r1, q1⟩ => PyProof.Rows.args_nil ?_) na) na rfl
  obtain ⟨l, rfl, hl, hz, q1⟩ := q1
  obtain ⟨t, rfl⟩ := r1
  refine call_set_text (I1.ok.hd hc) (enc_ascii hl) (by rw [enc_len]; unfold scanBound; omega) fun h' tk D ls ho F G nd hm hk => ?_
  refine PyProof.Rows.args_nil ?_
  have I2 : Inv X pins σ H1 { s1 with heap := h', toks := tk } := I1.kept hk
  have hsg : ∀ y ∈ ls, ∃ n, n < 26 ∧ n ∈ l ∧ y = sg n := fun y hy => by
    obtain ⟨c, hc', rfl⟩ := (hm y).mp hy
    obtain ⟨n, hn, rfl⟩ := List.mem_map.mp (show c ∈ l.map (97 + ·) from hc')
    exact ⟨n, hl n hn, hn, rfl⟩
  obtain ⟨ms, rfl⟩ := sg_back (ys := ls) fun y hy => by
    obtain ⟨n, _, _, e⟩ := hsg y hy
    exact ⟨n, e⟩
  have hms : ms.length ≤ 26 := nodup_le (List.Pairwise.of_map sg (fun a b hne e => hne (by rw [e])) nd) fun i hi => by
    obtain ⟨n, h26, _, e⟩ := hsg (sg i) (List.mem_map.mpr ⟨i, hi, rfl⟩)
    rw [sg_inj e]
    exact h26
  refine sorted_setX (s := { s1 with heap := h', toks := tk }) ho F G (I2.ok.hd hc) (by rw [List.length_map]; omega) fun s' p out c ys k g o hp hgp hys hmem hlen => ?_
  obtain ⟨m, rfl⟩ := sg_back (ys := ys) fun y hy => by
    obtain ⟨i, _, e⟩ := List.mem_map.mp ((hmem y).mp hy)
    exact ⟨i, e.symm⟩
  have hml : m.length ≤ 26 := by
    rw [List.length_map, List.length_map] at hlen
    omega
  have hmm : ∀ i, i ∈ m ↔ i ∈ l := fun i => by
    constructor
    · intro hi
      obtain ⟨n, _, hn, e⟩ := hsg (sg i) ((hmem (sg i)).mp (List.mem_map.mpr ⟨i, hi, rfl⟩))
      rw [sg_inj e]
      exact hn
    · intro hi
      have : sg i ∈ m.map sg := (hmem _).mpr ((hm _).mpr ⟨97 + i, List.mem_map.mpr ⟨i, hi, rfl⟩, rfl⟩)
      obtain ⟨j, hj, e⟩ := List.mem_map.mp this
      rw [← sg_inj e]
      exact hj
  have hlen2 : ((m.map sg).map V.str).length ≤ sizeLine := by rw [List.length_map, List.length_map, sizeLine_eq]; omega
  have hn : H1 p = none := I2.hok.fresh hp
  have J : Inv X pins σ (upd H1 p (.lst ((m.map sg).map V.str))) { ({ s1 with heap := h', toks := tk } : Shared) with heap := s'.heap, gens := s'.gens, drawn := s'.drawn, toks := s'.toks } :=
    I2.call (ch := []) (Un.laid k hp hn) (I2.hok.laid k hp ⟨hlen2, out.toList, c, vals_of_strs hys, hgp⟩) (by rw [g]; exact I2.bare) (fun _ z => nomatch z)
  have e : s' = { ({ s1 with heap := h', toks := tk } : Shared) with heap := s'.heap, gens := s'.gens, drawn := s'.drawn, toks := s'.toks } := by
    cases s'
    cases s1
    cases o
    rfl
  rw [e]
  exact ⟨.ref p, _, J, rfl, q1 p m hn hmm hml⟩
/-- "".join of letters' texts at p -/
theorem go_joinSg {K : PySem.W.Frag} {σ : L2.St} {H : Hp} {to : TE} {te : TE} {Q : VK} {Pm : List Nat → Prop} (ho : Ev to σ H (.str (enc []))) (h : ∀ H1, Ex H H1 → ∀ Q' : VK, (∀ p m H2, Ex H1 H2 → H2 p = some (.lst ((m.map sg).map V.str)) → Pm m → m.length ≤ 26 → Q' (.ref p) H2) → te σ H1 Q')
    (q : ∀ m H2, Ex H H2 → Pm m → m.length ≤ 26 → Q (.str (enc m)) H2) : tM1 (rSJoin K) to te σ H Q := ho H (Ex.refl _) _ fun H1 e1 =>
  ⟨⟨enc [], rfl⟩, h H1 e1 _ fun p m H2 e2 h2 hP hl => ⟨enc [], p, m.map sg, rfl, rfl, Or.inl (sq_of h2), by
    have f := flat_len (m.map fun n => ([n] : GRow))
    rw [one_enc, flat_one] at f
    rw [f, enc_len]
    show m.length + (m.map sg).length * 0 ≤ 16777216
    omega, by
    have j := join_enc (m.map fun n => ([n] : GRow))
    rw [one_enc, flat_one] at j
    rw [j]
    exact q m H2 (e1.trans e2) hP hl⟩⟩
theorem go_setJoin {K : PySem.W.Frag} {σ : L2.St} {H : Hp} {to te : TE} {l : GRow} {Q : VK} (ho : Ev to σ H (.str (enc []))) (h : Ev te σ H (.str (enc l))) (hl : RowOk 26 l) (hz : l.length ≤ 4000) (q : ∀ m H2, Ex H H2 → (∀ i, i ∈ m ↔ i ∈ l) → m.length ≤ 26 → Q (.str (enc m)) H2) :
    tM1 (rSJoin K) to (tSortSet te) σ H Q :=
  go_joinSg (Pm := fun m => ∀ i, i ∈ m ↔ i ∈ l) ho (fun H1 e1 Q' q' => by
    unfold tSortSet
    exact h H1 e1 _ fun H2 e2 => ⟨l, rfl, hl, hz, fun p m hp hm hml => q' p m _ (e2.trans (Ex.new hp)) upd_same hm hml⟩) q
theorem q_asgSet {K : PySem.W.Frag} {σ : L2.St} {H : Hp} {D : Ends} {tz : TS} {i : Nat} {to te : TE} {l : GRow} (ho : Ev to σ H (.str (enc []))) (h : Ev te σ H (.str (enc l))) (hl : RowOk 26 l) (hz : l.length ≤ 4000)
    (k : ∀ m H1, Ex H H1 → (∀ i, i ∈ m ↔ i ∈ l) → m.length ≤ 26 → tz D (σ.set i (some (.str (enc m)))) H1) : tSeq (tAsg (tM1 (rSJoin K) to (tSortSet te)) (gName i)) tz D σ H := go_setJoin (Q := fun v H1 => tz D (σ.set i (some v)) H1) ho h hl hz k
theorem s_asgSet {K : PySem.W.Frag} {σ : L2.St} {H : Hp} {D : Ends} {i : Nat} {to te : TE} {l : GRow} (ho : Ev to σ H (.str (enc []))) (h : Ev te σ H (.str (enc l))) (hl : RowOk 26 l) (hz : l.length ≤ 4000)
    (k : ∀ m H1, Ex H H1 → (∀ i, i ∈ m ↔ i ∈ l) → m.length ≤ 26 → D.nx (σ.set i (some (.str (enc m)))) H1) : tAsg (tM1 (rSJoin K) to (tSortSet te)) (gName i) D σ H := go_setJoin (Q := fun v H1 => D.nx (σ.set i (some v)) H1) ho h hl hz k
end Gw

namespace Gw
open PySem PySem.Spec PyProof.Rows L2 Evl
/-! ### xs[a::b] of a list -/
theorem vals_pick {xs : List V} {us : List Value} (r : Vals xs us) : ∀ ids : List Nat, Vals (ids.filterMap (xs[·]?)) (ids.filterMap (us.toArray[·]?))
  | [] => .nil
  | i :: ids => by
    have ih := vals_pick r ids
    cases hx : xs[i]? with
    | some x =>
      obtain ⟨u, hu, ru⟩ := r.get hx
      have hu2 : us.toArray[i]? = some u := by rw [List.getElem?_toArray]; exact hu
      rw [List.filterMap_cons, List.filterMap_cons, hx, hu2]
      exact .cons ru ih
    | none =>
      have hl : xs.length ≤ i := List.getElem?_eq_none_iff.mp hx
      have hu2 : us.toArray[i]? = none := by
        rw [List.getElem?_toArray]
        exact List.getElem?_eq_none_iff.mpr (by rw [← r.length]; exact hl)
      rw [List.filterMap_cons, List.filterMap_cons, hx, hu2]
      exact ih
def tStepL (K : PySem.W.Frag) (te : TE) : TE := fun σ H Q => te σ H fun x H1 => ∃ l xs, x = .ref l ∧ SqL K H1 l xs ∧ ∀ (p : Addr) (ys : List V), H1 p = none → (∀ y ∈ ys, y ∈ xs) → ys.length ≤ xs.length → Q (.ref p) (upd H1 p (.lst ys))
theorem pe_stepL {X : Cx} {e : Expr} {te : TE} {a b : Int} {k1 k2 : Nat} {c1 c2 p3 pos : Pos} (he : PE X e te) (hb : b ≠ 0) : PE X (.Subscript e (.Slice (some (.Constant (.int a) k1 c1)) none (some (.Constant (.int b) k2 c2)) p3) pos) (tStepL X.K te) := by
  refine ⟨fun pins s σ H Q I h => ?_⟩
  refine Subscript_ (thn (he.run pins s σ H _ I h) fun v s1 ⟨x, H1, I1, r1, q1⟩ => ?_)
  obtain ⟨l, xs, ex, hx, q⟩ := q1
  subst ex
  cases r1
  have ha : PO X (some (.Constant (.int a) k1 c1)) (tPart (tC (.int a))) := po_some pe_int
  have hst : PO X (some (.Constant (.int b) k2 c2)) (tPart (tC (.int b))) := po_some pe_int
  refine wpAny_Slice (thn (ha.run pins s1 σ H1 (fun o H2 => o = some a ∧ H2 = H1) I1 ⟨a, rfl, rfl, rfl⟩) fun vl s2 ⟨o1, H2, I2, pl, el, e2⟩ => ?_)
  subst el e2
  refine thn (po_none.run pins s2 σ H2 (fun o H3 => o = none ∧ H3 = H2) I2 ⟨rfl, rfl⟩) fun vu s3 ⟨u, H3, I3, pu, eu, e3⟩ => ?_
  subst eu e3
  refine thn (hst.run pins s3 σ H3 (fun o H4 => o = some b ∧ H4 = H3) I3 ⟨b, rfl, rfl, rfl⟩) fun vs s4 ⟨o, H4, I4, ps, eo, e4⟩ => ?_
  subst eo e4
  have I5 : Inv X pins σ H4 { s4 with heap := s4.heap.push { cls := .type "slice", data := .fields #[vl, vu, vs] } } := I4.kept (t' := s4.toks) fun b ob q => Heap.get?_push_of_some _ q
  obtain ⟨its, r, ht, hz⟩ := I5.list hx
  have hlen := r.length
  show wpAny (model X.prog X.w) X.A (subscriptTail e (.Slice (some (.Constant (.int a) k1 c1)) none (some (.Constant (.int b) k2 c2)) p3) (.ref l) (.ref s4.heap.objs.size)) (EP X pins σ Q) X.xe { s4 with heap := s4.heap.push { cls := .type "slice", data := .fields #[vl, vu, vs] } }
  refine tail_any (ops := [.ref l, .ref s4.heap.objs.size]) ht.isList.typeIs (PySem.slot_list_getitem.lookup) ?_ (by with_unfolding_all rfl)
  refine wpAny_getItem_list_slice ht.isList (Heap.IsSliceOf.new _ vl vu vs) pl pu ps (fun e => hb (Option.some.inj e)) ?_ (by rw [List.size_toArray]; omega)
  have hp := slicePick_size_le its.toArray (some a) none (some b)
  unfold slicePick at hp ⊢
  generalize sliceRange (sliceBounds (some a) none (some b) its.toArray.size).1 (sliceBounds (some a) none (some b) its.toArray.size).2.1 (sliceBounds (some a) none (some b) its.toArray.size).2.2 = ids at hp ⊢
  have rv := vals_pick r ids
  have hl2 : (ids.filterMap (xs[·]?)).length ≤ xs.length := by
    rw [rv.length]
    rw [List.size_toArray, List.size_toArray] at hp
    omega
  refine ⟨.ref _, _, I5.laid (t' := s4.toks) (o := .lst (ids.filterMap (xs[·]?))) (fun b ob q => Heap.get?_push_of_some _ q) (Nat.le_refl _) ?_, rfl, q _ _ (I5.hok.fresh (Nat.le_refl _)) (fun y hy => ?_) hl2⟩
  · exact ⟨Nat.le_trans hl2 hz, _, 0, rv, Heap.get?_push_size _ rfl⟩
  · obtain ⟨i, _, hi⟩ := List.mem_filterMap.mp hy
    exact List.mem_of_getElem? hi
/-! ### new lists that a word holds of -/
section
variable {K : PySem.W.Frag} {σ : L2.St} {H : Hp} {te ta tb : TE} {g : TG} {D : Ends} {tz : TS} {bd : TS} {P : List V → Prop}
def EvLx (te : TE) (σ : L2.St) (H : Hp) (P : List V → Prop) : Prop := ∀ H1, Ex H H1 → ∀ Q : VK, (∀ p xs H2, H1 p = none → Ex H1 H2 → H2 p = some (.lst xs) → P xs → Q (.ref p) H2) → te σ H1 Q
theorem elx_step {l : Addr} {xs : List V} (h : Ev te σ H (.ref l)) (hs : SqL K H l xs) : EvLx (tStepL K te) σ H (fun ys => (∀ y ∈ ys, y ∈ xs) ∧ ys.length ≤ xs.length) := fun H1 e Q q => by
  unfold tStepL
  exact h H1 e _ fun H2 e2 => ⟨l, xs, rfl, ex_l (e.trans e2) hs, fun p ys hp h1 h2 => q p ys _ (fresh_back e2 hp) (e2.trans (Ex.new hp)) upd_same ⟨h1, h2⟩⟩
theorem elx_cat {xs : List V} (ha : EvL ta σ H xs) (hb : EvLx tb σ H P) (hz : ∀ ys, P ys → xs.length + ys.length ≤ sizeLine) : EvLx (tOp rCat ta tb) σ H (fun zs => ∃ ys, P ys ∧ zs = xs ++ ys) := fun H1 e Q q =>
  ha H1 e _ fun a H2 ha0 e2 h2 => hb H2 (e.trans e2) _ fun b ys H3 hb0 e3 h3 hP => ⟨a, b, xs, ys, rfl, rfl, e3 _ _ h2, h3, hz ys hP, fun p hp => q p _ _ (fresh_back (e2.trans e3) hp) ((e2.trans e3).trans (Ex.new hp)) upd_same ⟨ys, hP, rfl⟩⟩
theorem q_forLx {j : Nat} (h : EvLx te σ H P) (Pv : Addr → List V → Nat → L2.St → Hp → Prop) (h0 : ∀ p xs H1, H p = none → Ex H H1 → H1 p = some (.lst xs) → P xs → Pv p xs 0 σ H1) (hl : ∀ p xs i σ' H', Pv p xs i σ' H' → SqL K H' p xs)
    (hs : ∀ p xs i x σ' H', P xs → xs[i]? = some x → Pv p xs i σ' H' → bd { D with nx := Pv p xs (i + 1), ct := Pv p xs (i + 1), bk := tz D } (σ'.set j (some x)) H') (hd : ∀ p xs σ' H', P xs → Pv p xs xs.length σ' H' → tz D σ' H') : tSeq (tFor (iList K te) (gName j) bd) tz D σ H :=
  h H (Ex.refl H) _ fun p xs H2 hp e2 h2 hP => ⟨p, rfl, ⟨xs, sq_of h2⟩, for_it (D := { D with nx := tz D }) (walk_list (K := K) (a := p) (xs := xs)) (Pv p xs) (h0 p xs H2 hp e2 h2 hP) (fun i σ' H' _ pv => hl p xs i σ' H' pv) (fun i x σ' H' H'' hi pv y => by
    obtain ⟨rfl, hx⟩ := y
    exact hs p xs i x σ' H'' hP hx pv) (fun σ' H' pv => hd p xs σ' H' hP pv)⟩
end
end Gw

namespace Gw
open PySem PySem.Spec PyProof.Rows L2 Evl
/-! ### lists of things that a word holds of -/
section
variable {K : PySem.W.Frag} {σ : L2.St} {H : Hp} {te : TE} {ta : TA} {D : Ends} {tz : TS} {P : V → Hp → Prop}
def EvP (te : TE) (σ : L2.St) (H : Hp) (P : V → Hp → Prop) : Prop := ∀ H1, Ex H H1 → ∀ Q : VK, (∀ v H2, Ex H1 H2 → P v H2 → Q v H2) → te σ H1 Q
def EvAP (ta : TA) (σ : L2.St) (H : Hp) (n : Nat) (P : V → Hp → Prop) : Prop := ∀ H1, Ex H H1 → ∀ Q : List V → Hp → Prop, (∀ vs H2, Ex H1 H2 → vs.length = n → (∀ v ∈ vs, P v H2) → Q vs H2) → ta σ H1 Q
def EvLP (te : TE) (σ : L2.St) (H : Hp) (n : Nat) (P : V → Hp → Prop) : Prop := ∀ H1, Ex H H1 → ∀ Q : VK, (∀ p vs Hb H2, H1 p = none → Ex H1 Hb → Hb p = none → Ex Hb H2 → H2 p = some (.lst vs) → vs.length = n → (∀ v ∈ vs, P v Hb) → Q (.ref p) H2) → te σ H1 Q
theorem eap_nil : EvAP tNil σ H 0 P := fun H1 e Q q => q [] H1 (Ex.refl _) rfl fun v hv => absurd hv (by simp)
theorem eap_cons {n : Nat} {tr : TA} (m : ∀ v H H', Ex H H' → P v H → P v H') (h : EvP te σ H P) (hr : EvAP tr σ H n P) : EvAP (tCons te tr) σ H (n + 1) P := fun H1 e Q q => h H1 e _ fun v H2 e2 hv => hr H2 (e.trans e2) _ fun vs H3 e3 hl hP =>
  q (v :: vs) H3 (e2.trans e3) (by rw [List.length_cons, hl]) fun w hw => by
    rcases List.mem_cons.mp hw with rfl | hw
    · exact m _ _ _ e3 hv
    · exact hP w hw
theorem elp_lst {n : Nat} (h : EvAP ta σ H n P) (hn : n ≤ 100000) : EvLP (tLst ta) σ H n P := fun H1 e Q q => h H1 e _ fun vs H2 e2 hl hP => ⟨by rw [hl]; exact sz_of hn, fun p hp => q p vs H2 _ (fresh_back e2 hp) e2 hp (Ex.new hp) upd_same hl hP⟩
theorem q_asgLP {n i : Nat} (h : EvLP te σ H n P) (k : ∀ p vs Hb H2, H p = none → Ex H Hb → Hb p = none → Ex Hb H2 → H2 p = some (.lst vs) → vs.length = n → (∀ v ∈ vs, P v Hb) → tz D (σ.set i (some (.ref p))) H2) : tSeq (tAsg te (gName i)) tz D σ H := h H (Ex.refl H) _ k
/-- an old list and a new one behind it -/
theorem q_forLP {n : Nat} {g : TG} {bd : TS} (h : EvLP te σ H n P) (Pv : Addr → List V → Hp → Nat → L2.St → Hp → Prop) (h0 : ∀ p vs H1, H p = none → Ex H H1 → H1 p = some (.lst vs) → vs.length = n → (∀ v ∈ vs, P v H1) → Pv p vs H1 0 σ H1) (m : ∀ v H H', Ex H H' → P v H → P v H')
    (hl : ∀ p vs H1 i σ' H', Pv p vs H1 i σ' H' → SqL K H' p vs) (hs : ∀ p vs H1 i x σ' H', vs[i]? = some x → P x H1 → Pv p vs H1 i σ' H' → g x σ' H' fun σ2 H2 => bd { D with nx := Pv p vs H1 (i + 1), ct := Pv p vs H1 (i + 1), bk := tz D } σ2 H2) (hd : ∀ p vs H1 σ' H', Pv p vs H1 vs.length σ' H' → tz D σ' H') : tSeq (tFor (iList K te) g bd) tz D σ H :=
  h H (Ex.refl H) _ fun p vs Hb H2 hp eb hbn e2 h2 hvl hP => ⟨p, rfl, ⟨vs, sq_of h2⟩, for_it (D := { D with nx := tz D }) (walk_list (K := K) (a := p) (xs := vs)) (Pv p vs H2) (h0 p vs H2 hp (eb.trans e2) h2 hvl fun v hv => m _ _ _ e2 (hP v hv)) (fun i σ' H' _ pv => hl p vs H2 i σ' H' pv) (fun i x σ' H' H'' hi pv y => by
    obtain ⟨rfl, hx⟩ := y
    exact hs p vs H2 i x σ' H'' hx (m _ _ _ e2 (hP x (List.mem_of_getElem? hx))) pv) (fun σ' H' pv => hd p vs H2 σ' H' pv)⟩
theorem s_forLP {n : Nat} {g : TG} {bd : TS} (h : EvLP te σ H n P) (Pv : Addr → List V → Hp → Nat → L2.St → Hp → Prop) (h0 : ∀ p vs H1, H p = none → Ex H H1 → H1 p = some (.lst vs) → vs.length = n → (∀ v ∈ vs, P v H1) → Pv p vs H1 0 σ H1) (m : ∀ v H H', Ex H H' → P v H → P v H')
    (hl : ∀ p vs H1 i σ' H', Pv p vs H1 i σ' H' → SqL K H' p vs) (hs : ∀ p vs H1 i x σ' H', vs[i]? = some x → P x H1 → Pv p vs H1 i σ' H' → g x σ' H' fun σ2 H2 => bd { D with nx := Pv p vs H1 (i + 1), ct := Pv p vs H1 (i + 1), bk := D.nx } σ2 H2) (hd : ∀ p vs H1 σ' H', Pv p vs H1 vs.length σ' H' → D.nx σ' H') : tFor (iList K te) g bd D σ H :=
  h H (Ex.refl H) _ fun p vs Hb H2 hp eb hbn e2 h2 hvl hP => ⟨p, rfl, ⟨vs, sq_of h2⟩, for_it (walk_list (K := K) (a := p) (xs := vs)) (Pv p vs H2) (h0 p vs H2 hp (eb.trans e2) h2 hvl fun v hv => m _ _ _ e2 (hP v hv)) (fun i σ' H' _ pv => hl p vs H2 i σ' H' pv) (fun i x σ' H' H'' hi pv y => by
    obtain ⟨rfl, hx⟩ := y
    exact hs p vs H2 i x σ' H'' hx (m _ _ _ e2 (hP x (List.mem_of_getElem? hx))) pv) (fun σ' H' pv => hd p vs H2 σ' H' pv)⟩
theorem q_asgCat {n i : Nat} {tb : TE} {a : Addr} {vs : List V} (m : ∀ v H H', Ex H H' → P v H → P v H') (h : Ev te σ H (.ref a)) (ha : H a = some (.lst vs)) (hv : ∀ v ∈ vs, P v H) (hb : EvLP tb σ H n P) (hz : vs.length + n ≤ sizeLine)
    (k : ∀ p ws H2, H p = none → Ex H H2 → H2 p = some (.lst ws) → (∀ v ∈ ws, P v H2) → tz D (σ.set i (some (.ref p))) H2) : tSeq (tAsg (tOp rCat te tb) (gName i)) tz D σ H := h H (Ex.refl H) _ fun H1 e1 => hb H1 e1 _ fun b ws Hb H2 hb0 eb hbn e2 h2 hl hP =>
  ⟨a, b, vs, ws, rfl, rfl, (e1.trans (eb.trans e2)) _ _ ha, h2, by rw [hl]; exact hz, fun p hp => k p (vs ++ ws) _ (fresh_back (e1.trans (eb.trans e2)) hp) ((e1.trans (eb.trans e2)).trans (Ex.new hp)) upd_same fun v hv' => by
    rcases List.mem_append.mp hv' with hv' | hv'
    · exact m _ _ _ ((e1.trans (eb.trans e2)).trans (Ex.new hp)) (hv v hv')
    · exact m _ _ _ (e2.trans (Ex.new hp)) (hP v hv')⟩
theorem q_appT3 {l : Addr} {xs ys : List V} {t1 t2 t3 to : TE} {y z : V} (hl : H l = some (.lst xs)) (ho : Ev to σ H (.ref l)) (h1 : EvL t1 σ H ys) (h2 : Ev t2 σ H y) (h3 : Ev t3 σ H z) (hz : xs.length < 100000)
    (k : ∀ p T H1, H p = none → H T = none → Ex H H1 → H1 p = some (.lst ys) → H1 T = some (.tup [.ref p, y, z]) → tz D σ (upd H1 l (.lst (xs ++ [.ref T])))) :
    tSeq (tDrop (tBM K "list" rAppend to (tCons (tTup (tCons t1 (tCons t2 (tCons t3 tNil)))) tNil))) tz D σ H := ho H (Ex.refl H) _ fun H1 e1 =>
  ⟨Or.inl ⟨rfl, xs, sq_of (e1 l _ hl)⟩, h1 H1 e1 _ fun p H2 hp e2 hp2 => h2 H2 (e1.trans e2) _ fun H3 e3 => h3 H3 ((e1.trans e2).trans e3) _ fun H4 e4 => ⟨by show 3 ≤ sizeLine; decide, fun T hT => by
    have e := ((e1.trans e2).trans e3).trans e4
    refine ⟨l, xs, .ref T, rfl, rfl, (e.trans (Ex.new hT)) l _ hl, sz_lt hz, k p T _ (fresh_back e1 hp) (fresh_back e hT) (e.trans (Ex.new hT)) ((e3.trans e4).trans (Ex.new hT) _ _ hp2) upd_same⟩⟩⟩
end
end Gw

namespace Gw
open PySem PySem.Spec PyProof.Rows L2 Evl
section
variable {P : Program} {w : World} {K : PySem.W.Frag} {mg : Str → Option Value} {base : Heap}
/-! ### the letters that a letter has become -/
abbrev nKd : List Str := ["_law_rules_here", "_law_one", "_law_times", "_law_now", "_law_turn"]
theorem sc_kinds : FnScope nKd ["_law_rules_here", "_law_one", "_law_times"] (defScope sLaw_kinds) := ⟨rfl, rfl, rfl, by decide +kernel, rfl, by decide +kernel, by decide +kernel⟩
def spKinds (K : PySem.W.Frag) : Sp := fun vs H Q _ => ∃ a R y, ∃ t : Nat, vs = [.ref a, .str (sg y), .int (t : Int)] ∧ RAt K H a R ∧ (∀ q ∈ R, q.length ≤ 100) ∧ y < R.length ∧ t ≤ 300 ∧
  ∀ m H2, Ex H H2 → (∀ i, i ∈ m ↔ i ∈ grow R t [y]) → m.length ≤ 26 → Q (.str (enc m)) H2
theorem ok_kinds (X : T K mg) : C8.Cal P w K mg base 2 "_law_kinds" (spKinds K) [] := by
  refine cal_of X.d_law_kinds sc_kinds (fun _ _ _ _ _ _ us hl => match us, hl with | [_, _, _], _ => rfl) (fun vs H Q E h => ?_) (fun f cdv A outer s H vs Q E hr h => ?_)
  · obtain ⟨a, R, y, t, rfl, _⟩ := h
    rfl
  · obtain ⟨a, R, y, t, rfl, hR, h100, hy, ht, k⟩ := h
    have nd := sc_kinds.nd
    refine ⟨_, (pss_cons (ps_set (i := 3) nd rfl (Or.inl rfl) (pv 1))
      (pss_cons (ps_for PassesOwn.never rfl (pi_range1 rfl X.z_range (pa_cons (pv 2) pa_nil)) (pg_name (i := 4) nd rfl (Or.inl rfl))
        (pss_one (ps_set (i := 3) nd rfl (Or.inl rfl) (pe_join pe_empty (pe_sortSet X.z_sorted X.z_set (C8.pe_c (ok_lonce X) hr (by decide) rfl (pa_cons (pv 0) (pa_cons (pv 3) pa_nil))))))))
      (pss_one (ps_ret (pv 3))))), ?_⟩
    have ok := hR.ok
    have h26 := ok.few
    refine q_asg (v := .str (enc [y])) (ev_var rfl) fun H1 e1 => ?_
    refine q_forR1 (ea_one (ev_var rfl)) ⟨by omega, by omega⟩ (fun i σ' H' => ∃ m u, σ' = [some (.ref a), some (.str (sg y)), some (.int (t : Int)), some (.str (enc m)), u] ∧ Ex H H' ∧ (∀ j, j ∈ m ↔ j ∈ grow R i [y]) ∧ m.length ≤ 26)
      (fun H2 e2 => ⟨[y], none, rfl, e1.trans e2, fun j => Iff.rfl, by show 1 ≤ 26; decide⟩) ?_ ?_
    · rintro i σ' H' hi ⟨m, u, rfl, eH, hm, hl⟩
      have hrow : RowOk R.length m := fun j hj => grow_ok ok i (one_row hy) j ((hm j).mp hj)
      have oz : (once R m).length ≤ 2600 := Nat.le_trans (once_bound h100 m) (Nat.le_trans (Nat.mul_le_mul_right _ hl) (by decide))
      refine s_asgSet (l := once R m) ev_c (ev_spV (ea_two (ev_var rfl) (ev_var rfl)) fun H2 e2 => ⟨a, R, m, rfl, (hR.ex (eH.trans e2)).at_, h26, hrow, Nat.lt_of_le_of_lt hl (by decide), Nat.le_trans oz (by decide), rfl⟩) ((once_ok ok m).of_mono h26) (by omega) fun m' H2 e2 hm' hl' => ⟨m', _, rfl, eH.trans e2, fun j => ?_, hl'⟩
      rw [hm' j, grow_succ, mem_once, mem_once]
      constructor
      · rintro ⟨q, hq, h⟩
        exact ⟨q, (hm q).mp hq, h⟩
      · rintro ⟨q, hq, h⟩
        exact ⟨q, (hm q).mpr hq, h⟩
    · rintro σ' H' ⟨m, u, rfl, eH, hm, hl⟩
      rw [Int.toNat_natCast] at hm
      exact s_ret (ev_var rfl) fun H2 e2 => k m H2 (eH.trans e2) hm hl
theorem ev_inKinds {σ : L2.St} {H : Hp} {tz : TE} {ta : TA} {E : XK} {a : Addr} {R : GRules} {y z t : Nat} (hz : Ev tz σ H (.str (sg z))) (hA : EvA ta σ H [.ref a, .str (sg y), .int (t : Int)]) (hR : RAt K H a R) (h100 : ∀ q ∈ R, q.length ≤ 100) (hy : y < R.length) (ht : t ≤ 300) :
    Ev (tOp rInC tz (tCall (spKinds K) [] E ta)) σ H (.bl (decide (z ∈ grow R t [y]))) := fun H1 e Q q => hz H1 e _ fun H2 e2 => hA H2 (e.trans e2) _ fun H3 e3 => by
  rw [List.append_nil]
  refine ⟨a, R, y, t, rfl, hR.ex ((e.trans e2).trans e3), h100, hy, ht, fun m H4 e4 hm hl => ⟨97 + z, enc m, rfl, rfl, ?_⟩⟩
  have : decide (97 + z ∈ (enc m).cps.toList) = decide (z ∈ grow R t [y]) := decide_eq_decide.mpr (mem_enc.trans (hm z))
  rw [this]
  exact q H4 ((e2.trans e3).trans e4)
/-! ### the answer's word, asked -/
abbrev tShowC (K : PySem.W.Frag) (to : TE) (ta : TA) : TE := fun σ H Q => tMeth (He.ga K "Times") "shows" (spV (preTimes K)) [] E0 to ta σ H Q ∨ tMeth (He.ga K "Shut") "shows" (spV (preShut K)) [] E0 to ta σ H Q
theorem ev_showT {σ : L2.St} {H : Hp} {to : TE} {ta : TA} {x dx a : Addr} {R : GRules} {y z : Nat} {m : Int} (ho : Ev to σ H (.ref x)) (hi : H x = some (.ins (He.ga K "Times") dx [("many", .int m)])) (hA : EvA ta σ H [.ref a, .str (sg y), .str (sg z)]) (hR : RAt K H a R) (hy : y < R.length) (hz : z < R.length) :
    Ev (tShowC K to ta) σ H (.bl (timesB R m y z)) := fun H1 e Q q => Or.inl (ev_meth ho hi rfl hA (fun H2 e2 => ⟨x, dx, a, R, y, z, m, rfl, e2 _ _ hi, hR.ex e2, hy, hz, rfl⟩) H1 e Q q)
theorem ev_showS {σ : L2.St} {H : Hp} {to : TE} {ta : TA} {x dx a : Addr} {R : GRules} {l : GRow} {y z : Nat} (ho : Ev to σ H (.ref x)) (hi : H x = some (.ins (He.ga K "Shut") dx [("letters", .str (enc l))])) (hA : EvA ta σ H [.ref a, .str (sg y), .str (sg z)]) (hR : RAt K H a R) (hl : l.length ≤ 100) :
    Ev (tShowC K to ta) σ H (.bl (shutB R l y z)) := fun H1 e Q q => Or.inr (ev_meth ho hi rfl hA (fun H2 e2 => ⟨x, dx, a, R, l, y, z, rfl, e2 _ _ hi, hR.ex e2, hl, rfl⟩) H1 e Q q)
/-! ### _law_right -/
abbrev nRt : List Str := ["_law_rules_here", "_law_one", "_law_other", "_law_found", "_law_letters", "_law_sign"]
def preRight (K : PySem.W.Frag) : List V → Hp → V → Prop := fun vs H v => ∃ a R y z x, vs = [.ref a, .str (sg y), .str (sg z), .ref x] ∧ RAt K H a R ∧ (∀ q ∈ R, q.length ≤ 100) ∧ y < R.length ∧ z < R.length ∧ ComesA K R y z x H ∧ v = .bl true
theorem Ex.comes {H H' : Hp} {R : GRules} {y z : Nat} {x : Addr} (e : Ex H H') (h : ComesA K R y z x H) : ComesA K R y z x H' := by
  rcases h with ⟨dx, k, h1, h2, h3⟩ | ⟨dx, l, h1, h2, h3, h4, h5, h6⟩
  · exact .inl ⟨dx, k, h1, h2, e _ _ h3⟩
  · exact .inr ⟨dx, l, h1, h2, h3, h4, h5, e _ _ h6⟩
end
end Gw

namespace Gw
open PySem PySem.Spec PyProof.Rows L2 Evl
/-! ### a fact G of the raw heap that every step keeps -/
structure Stb (X : Cx) (G : Heap → Prop) : Prop where
  slot : ∀ h h' : Heap, G h → (∀ o, h.get? X.env.locals = some o → ∃ sl, h'.get? X.env.locals = some { o with slots := sl }) → G h'
/-- .. a store of the name x too -/
def StoOk (X : Cx) (G : Heap → Prop) (x : Str) : Prop := ∀ (h h' : Heap) (m : Str → Option Value) (u : Value), G h → h.Ns X.env.locals m → h'.Ns X.env.locals (fun y => if y = x then some u else m y) → G h'
abbrev Zq (G : Heap → Prop) {α : Type} (P : α → Shared → Prop) : α → Shared → Prop := fun a t => G t.heap ∧ P a t
abbrev Wz (X : Cx) {α : Type} (t : Sem α) (Q : α → Shared → Prop) (s : Shared) : Prop := wpAny (model X.prog X.w) X.A t Q X.xe s
section
variable {X : Cx} {G : Heap → Prop} {h h' : Heap}
theorem Stb.keep (S : Stb X G) (z : G h) (k : ∀ b o, h.get? b = some o → h'.get? b = some o) : G h' := S.slot h h' z fun o e => ⟨o.slots, k _ _ e⟩
theorem Stb.but {a : Addr} (S : Stb X G) (z : G h) (k : ∀ b o, b ≠ a → h.get? b = some o → h'.get? b = some o) (ne : X.env.locals ≠ a) : G h' := S.slot h h' z fun o e => ⟨o.slots, k _ _ ne e⟩
end
structure EZ (X : Cx) (G : Heap → Prop) (e : Expr) (t : TE) : Prop where
  run : ∀ (pins : List (Addr × Obj)) (s : Shared) (σ : L2.St) (H : Hp) (Q : VK), Inv X pins σ H s → G s.heap → t σ H Q → Wz X (eval e X.env) (Zq G (EP X pins σ Q)) s
structure TZ (X : Cx) (G : Heap → Prop) (e : Expr) (t : TT) : Prop where
  run : ∀ (wh : Sem Value) (pins : List (Addr × Obj)) (s : Shared) (σ : L2.St) (H : Hp) (Q : Bool → Hp → Prop), wh = eval e X.env → Inv X pins σ H s → G s.heap → t σ H Q → Wz X (isTrue e X.env wh) (Zq G (TP X pins σ Q)) s
structure WZ (X : Cx) (G : Heap → Prop) (e : Expr) (t : TT) : Prop where
  run : ∀ (wh : Sem Value) (pins : List (Addr × Obj)) (s : Shared) (σ : L2.St) (H : Hp) (Q : Bool → Hp → Prop), Inv X pins σ H s → G s.heap → t σ H Q → Wz X (isTrue e X.env wh) (Zq G (TP X pins σ Q)) s
structure AZ (X : Cx) (G : Heap → Prop) (es : List Expr) (t : TA) : Prop where
  run : ∀ (pos : Pos) (pins : List (Addr × Obj)) (s : Shared) (σ : L2.St) (H : Hp) (Q : List V → Hp → Prop), Inv X pins σ H s → G s.heap → t σ H Q → Wz X (spliced (backTo pos (starEach es X.env))) (Zq G (AP X pins σ Q)) s
structure SZ (X : Cx) (G : Heap → Prop) (c : Stmt) (t : TS) : Prop where
  run : ∀ (pins : List (Addr × Obj)) (s : Shared) (σ : L2.St) (H : Hp) (D : Ends), Inv X pins σ H s → G s.heap → t D σ H → Wz X (exec c X.env) (Zq G (SP X pins D)) s
structure BZ (X : Cx) (G : Heap → Prop) (c : List Stmt) (t : TS) : Prop where
  run : ∀ (pins : List (Addr × Obj)) (s : Shared) (σ : L2.St) (H : Hp) (D : Ends), Inv X pins σ H s → G s.heap → t D σ H → Wz X (execs c X.env) (Zq G (SP X pins D)) s
/-- by values -/
def OZ (X : Cx) (G : Heap → Prop) (f : Value → Value → Sem Value) (r : R2) : Prop :=
  ∀ (pins : List (Addr × Obj)) (s : Shared) (σ : L2.St) (H : Hp) (x y : V) (v u : Value) (Q : VK), Inv X pins σ H s → G s.heap → RelV x v → RelV y u → r x y H Q → Wz X (f v u) (Zq G (EP X pins σ Q)) s
def CZ (X : Cx) (G : Heap → Prop) (f : Value) (r : List V → Hp → VK → Prop) : Prop :=
  ∀ (pins : List (Addr × Obj)) (s : Shared) (σ : L2.St) (H : Hp) (xs : List V) (us : List Value) (Q : VK), Inv X pins σ H s → G s.heap → Vals xs us → r xs H Q → Wz X (call f us) (Zq G (EP X pins σ Q)) s
section
variable {X : Cx} {G : Heap → Prop} {a b c e o : Expr} {ta tb tc te to : TE} {pos p : Pos} {es : List Expr} {t : TA} {x : Str}
/-! names, constants -/
theorem ez_var {i : Nat} (hN : X.N[i]? = some x) (hv : Vis X.env.scope x) (hd : (x == ("__debug__" : Str)) = false := by decide) (hcd : (x == ("__classdict__" : Str)) = false := by decide) : EZ X G (.Name x pos) (tVar i) :=
  ⟨fun pins s σ H Q I z ⟨v, q, h⟩ => raw_name hN hv I q (fun u r => ⟨z, v, H, I, r, h⟩) hd hcd⟩
theorem zv (i : Nat) (hN : X.N[i]? = some x := by rfl) (hv : Vis X.env.scope x := by first | exact Or.inl rfl | exact Or.inr (Or.inl rfl) | exact Or.inr (Or.inr rfl)) (hd : (x == ("__debug__" : Str)) = false := by decide) (hcd : (x == ("__classdict__" : Str)) = false := by decide) :
    EZ X G (.Name x pos) (tVar i) := ez_var hN hv hd hcd
theorem ez_int {i j} : EZ X G (.Constant (.int i) j pos) (tC (.int i)) := ⟨fun pins s σ H Q I z q => wpAny_Constant_int ⟨z, .int i, H, I.tok _, ⟨_, rfl⟩, q⟩⟩
theorem ez_str {y : Str} {j} : EZ X G (.Constant (.str y) j pos) (tC (.str y)) := ⟨fun pins s σ H Q I z q => Calls.Constant_str ⟨z, .str y, H, I.tok _, ⟨_, rfl⟩, q⟩⟩
theorem ez_bl {y j} : EZ X G (.Constant (.bool y) j pos) (tC (.bl y)) := ⟨fun pins s σ H Q I z q => Constant_bool ⟨z, .bl y, H, I, rfl, q⟩⟩
/-! operators -/
theorem ez_op {op : Operator} {r : R2} (ho : OZ X G (binaryOp op) r) (ha : EZ X G a ta) (hb : EZ X G b tb) : EZ X G (.BinOp a op b pos) (tOp r ta tb) :=
  ⟨fun pins s σ H Q I z q => wpAny_BinOp (thn (ha.run pins s σ H _ I z q) fun v s1 ⟨z1, x, H1, J, r1, q1⟩ => thn (hb.run pins s1 σ H1 _ J z1 q1) fun u s2 ⟨z2, y, H2, J2, r2, q2⟩ => ho pins s2 σ H2 x y v u Q J2 z2 r1 r2 q2)⟩
theorem oz_i {f : Value → Value → Sem Value} {C : Int → Int → Prop} {g : Int → Int → Int}
    (rule : ∀ (i j : Int) (t u : Tok) (s : Shared) (Q : Value → Shared → Prop) (E : Value → Shared → Prop), C i j → Q (.int (g i j) s.toks) { s with toks := s.toks + 1 } → wpAny (model X.prog X.w) X.A (f (.int i t) (.int j u)) Q E s) :
    OZ X G f (rI C fun i j => .int (g i j)) := by
  intro pins s σ H y1 y2 v u Q I z rx ry q
  obtain ⟨i, j, rfl, rfl, hc, q⟩ := q
  obtain ⟨t, e1⟩ := rx
  obtain ⟨t', e2⟩ := ry
  rw [e1, e2]
  exact rule i j t t' s _ _ hc ⟨z, V.int (g i j), H, I.tok _, ⟨_, rfl⟩, q⟩
theorem oz_i0 {f : Value → Value → Sem Value} {g : Int → Int → Int}
    (rule : ∀ (i j : Int) (t u : Tok) (s : Shared) (Q : Value → Shared → Prop) (E : Value → Shared → Prop), Q (.int (g i j) s.toks) { s with toks := s.toks + 1 } → wpAny (model X.prog X.w) X.A (f (.int i t) (.int j u)) Q E s) :
    OZ X G f (rI0 fun i j => .int (g i j)) := by
  intro pins s σ H y1 y2 v u Q I z rx ry q
  obtain ⟨i, j, rfl, rfl, q⟩ := q
  obtain ⟨t, e1⟩ := rx
  obtain ⟨t', e2⟩ := ry
  rw [e1, e2]
  exact rule i j t t' s _ _ ⟨z, V.int (g i j), H, I.tok _, ⟨_, rfl⟩, q⟩
theorem oz_b0 {f : Value → Value → Sem Value} {g : Int → Int → Bool}
    (rule : ∀ (i j : Int) (t u : Tok) (s : Shared) (Q : Value → Shared → Prop) (E : Value → Shared → Prop), Q (.bool (g i j)) s → wpAny (model X.prog X.w) X.A (f (.int i t) (.int j u)) Q E s) :
    OZ X G f (rI0 fun i j => .bl (g i j)) := by
  intro pins s σ H y1 y2 v u Q I z rx ry q
  obtain ⟨i, j, rfl, rfl, q⟩ := q
  obtain ⟨t, e1⟩ := rx
  obtain ⟨t', e2⟩ := ry
  rw [e1, e2]
  exact rule i j t t' s _ _ ⟨z, V.bl (g i j), H, I, rfl, q⟩
theorem oz_add : OZ X G (binaryOp .Add) (rI0 fun i j => .int (i + j)) := oz_i0 fun _ _ _ _ _ _ _ q => add_int q
theorem oz_sub : OZ X G (binaryOp .Sub) (rI0 fun i j => .int (i - j)) := oz_i0 fun _ _ _ _ _ _ _ q => sub_int q
theorem oz_fdiv : OZ X G (binaryOp .FloorDiv) (rI CDiv fun i j => .int (i / j)) := oz_i fun i j _ _ _ _ _ hc q =>
  have h1 : (0 : Int) < j := hc.1
  have h2 : j < 1073741824 := hc.2
  floordiv_int (show j ≠ 0 by omega) (by rw [Int.fdiv_eq_ediv_of_nonneg i (Int.le_of_lt h1)]; exact q) (.inl (PyProof.noPylong_small (show j.natAbs < 1073741824 by omega)))
theorem oz_mod : OZ X G (binaryOp .Mod) (rI (fun _ j => 0 < j) fun i j => .int (i % j)) := oz_i fun i j _ _ _ _ _ hc q =>
  have h1 : (0 : Int) < j := hc
  mod_int' (show j ≠ 0 by omega) (by rw [Int.fmod_eq_emod_of_nonneg i (Int.le_of_lt h1)]; exact q)
theorem oz_pow : OZ X G (binaryOp .Pow) (rI CPow fun i j => .int (i ^ j.toNat)) := oz_i fun _ _ _ _ _ _ _ hc q => pow_int_small hc.1 hc.2.1 hc.2.2 q
theorem oz_le : OZ X G (compareOp .LtE) (rI0 fun i j => .bl (decide (i ≤ j))) := oz_b0 fun _ _ _ _ _ _ _ q => le_int q
theorem oz_ne : OZ X G (compareOp .NotEq) (rI0 fun i j => .bl (!decide (i = j))) := oz_b0 fun _ _ _ _ _ _ _ q => ne_int (by rw [bne, Bool.beq_eq_decide_eq]; exact q)
theorem oz_cat : OZ X G (binaryOp .Add) rCatS := by
  intro pins s σ H y1 y2 v u Q I z rx ry q
  obtain ⟨i, j, rfl, rfl, hz, q⟩ := q
  obtain ⟨t, e1⟩ := rx
  obtain ⟨t', e2⟩ := ry
  rw [e1, e2]
  exact add_str (fun _ _ => ⟨z, V.str (i ++ j), H, I.tok _, ⟨_, rfl⟩, q⟩) hz
theorem oz_in : OZ X G (compareOp .In) rInC := by
  intro pins s σ H y1 y2 v u Q I z rx ry q
  obtain ⟨i, j, rfl, rfl, q⟩ := q
  obtain ⟨t, e1⟩ := rx
  obtain ⟨t', e2⟩ := ry
  rw [e1, e2]
  exact PyProof.Rows.in_str ⟨z, fin_bl I q (PySem.StrLaws.found_one j i).symm⟩
/-! comparisons -/
theorem ez_cmp {op : CmpOp} {r : R2} (ho : OZ X G (compareOp op) r) (ha : EZ X G a ta) (hb : EZ X G b tb) (hm : behindInMarks op b = false) : EZ X G (.Compare a [op] [b] pos) (tOp r ta tb) :=
  ⟨fun pins s σ H Q I z q => wpAny_Compare1 (thn (ha.run pins s σ H _ I z q) fun v s1 ⟨z1, x, H1, J, r1, q1⟩ => thn (hb.run pins s1 σ H1 _ J z1 q1) fun u s2 ⟨z2, y, H2, J2, r2, q2⟩ => ho pins s2 σ H2 x y v u Q J2 z2 r1 r2 q2) hm⟩
theorem tz_cmp {op : CmpOp} {r : R2} (ho : OZ X G (compareOp op) r) (ha : EZ X G a ta) (hb : EZ X G b tb) (hm : behindInMarks op b = false) : TZ X G (.Compare a [op] [b] pos) (tTest (tOp r ta tb)) :=
  ⟨fun wh pins s σ H Q e I z q => by
    subst e
    refine wpAny_isTrue_Compare1 (thn (ha.run pins s σ H _ I z q) fun v s1 ⟨z1, x, H1, J, r1, q1⟩ => thn (hb.run pins s1 σ H1 _ J z1 q1) fun u s2 ⟨z2, y, H2, J2, r2, q2⟩ => thn (ho pins s2 σ H2 x y v u _ J2 z2 r1 r2 q2) fun d s3 ⟨z3, y3, H3, J3, r3, k, ek, q3⟩ => ?_) hm
    subst ek
    cases r3
    exact wpAny_truthy_bool ⟨z3, H3, J3, q3⟩⟩
theorem ez_chain {op op' : CmpOp} {r r' : R2} (ho : OZ X G (compareOp op) r) (ho' : OZ X G (compareOp op') r') (ha : EZ X G a ta) (hb : EZ X G b tb) (hc : EZ X G c tc) (hm : lastMarks [op, op'] [b, c] = false := by with_unfolding_all rfl) :
    EZ X G (.Compare a [op, op'] [b, c] pos) (tChain r r' ta tb tc) :=
  ⟨fun pins s σ H Q I z q => by
    refine Compare_chain (thn (ha.run pins s σ H _ I z q) fun v s1 ⟨z1, x, H1, J, r1, q1⟩ => chain_link (thn (hb.run pins s1 σ H1 _ J z1 q1) fun u s2 ⟨z2, y, H2, J2, r2, q2⟩ => thn (ho pins s2 σ H2 x y v u _ J2 z2 r1 r2 q2) fun d s3 ⟨z3, y3, H3, J3, r3, k, ek, q3⟩ => ?_)) hm
    subst ek
    cases r3
    refine wpAny_truthy_bool ?_
    cases k with
    | false => exact ite_ff ⟨z3, V.bl false, H3, J3, rfl, q3⟩
    | true => exact ite_tt (chain_last (thn (hc.run pins s3 σ H3 _ J3 z3 q3) fun u4 s4 ⟨z4, y4, H4, J4, r4, q4⟩ => ho' pins s4 σ H4 y y4 u u4 Q J4 z4 r2 r4 q4))⟩
theorem ez_one {op} (h : EZ X G a ta) : EZ X G (.BoolOp op [a] pos) ta := ⟨fun pins s σ H Q I z q => BoolOp_one (h.run pins s σ H Q I z q)⟩
theorem ez_and {rest : List Expr} (ha : EZ X G a ta) (hb : EZ X G (.BoolOp .And (b :: rest) pos) tb) : EZ X G (.BoolOp .And (a :: b :: rest) pos) (tAndV ta tb) :=
  ⟨fun pins s σ H Q I z q => by
    refine BoolOp_and (thn (ha.run pins s σ H _ I z q) fun v s1 ⟨z1, y, H1, J, r1, k, ek, q1⟩ => ?_)
    subst ek
    cases r1
    refine wpAny_truthy_bool ?_
    cases k with
    | false => exact ⟨z1, V.bl false, H1, J, rfl, q1⟩
    | true => exact hb.run pins s1 σ H1 Q J z1 q1⟩
/-! tests -/
theorem tz_val (h : EZ X G e te) (he : ∀ whole, isTrue e X.env whole = (do let v ← whole; standAt e.pos; holding [v] (truthy v)) := by intro _; rfl) : TZ X G e (tB te) :=
  ⟨fun wh pins s σ H Q ew I z q => by
    subst ew
    refine isTrue_plain (thn (h.run pins s σ H _ I z q) fun v s1 ⟨z1, y, H1, J, r1, k, ek, q1⟩ => ?_) (he _)
    subst ek
    cases r1
    exact wpAny_truthy_bool ⟨z1, H1, J, q1⟩⟩
theorem tz_not {tA : TT} (h : TZ X G a tA) : TZ X G (.UnaryOp .Not a pos) (tNot tA) := ⟨fun wh pins s σ H Q ew I z q => by
  subst ew
  exact isTrue_not (h.run _ pins s σ H (fun k H1 => Q (!k) H1) rfl I z q)⟩
theorem wz_or1 {tA : TT} (h : TZ X G a tA) : WZ X G (.BoolOp .Or [a] pos) tA := ⟨fun wh pins s σ H Q I z q => by
  refine isTrue_or (thn (h.run _ pins s σ H Q rfl I z q) fun k s1 r => ?_)
  cases k with
  | false => exact isTrue_or_nil r
  | true => exact r⟩
theorem wz_or {tA tB' : TT} {rest : List Expr} (h : TZ X G a tA) (hb : WZ X G (.BoolOp .Or (b :: rest) pos) tB') : WZ X G (.BoolOp .Or (a :: b :: rest) pos) (tOr tA tB') := ⟨fun wh pins s σ H Q I z q => by
  refine isTrue_or (thn (h.run _ pins s σ H _ rfl I z q) fun k s1 ⟨z1, H1, J, q1⟩ => ?_)
  cases k with
  | false => exact hb.run wh pins s1 σ H1 Q J z1 q1
  | true => exact ⟨z1, H1, J, q1⟩⟩
theorem WZ.tz {tA : TT} (h : WZ X G a tA) : TZ X G a tA := ⟨fun wh pins s σ H Q _ I z q => h.run wh pins s σ H Q I z q⟩
/-! arguments, displays -/
theorem az_nil : AZ X G [] tNil := ⟨fun ps pins s σ H Q I z q => Calls.spliced_nil ⟨z, [], H, I, .nil, q⟩⟩
theorem az_cons (ha : EZ X G e te) (hr : AZ X G es t) (hs : starEach (e :: es) X.env = (false, eval e X.env) :: starEach es X.env := by rfl) : AZ X G (e :: es) (tCons te t) :=
  ⟨fun ps pins s σ H Q I z q => by
    rw [hs]
    refine Calls.spliced_cons (rest := backTo ps (starEach es X.env)) (thn (ha.run pins s σ H _ I z q) fun v s1 ⟨z1, y, H1, J, r1, q1⟩ => ?_)
    exact thn (hr.run ps pins s1 σ H1 _ J z1 q1) fun us s2 ⟨z2, ys, H2, J2, r2, q2⟩ => ⟨z2, y :: ys, H2, J2, .cons r1 r2, q2⟩⟩
theorem ez_lst (S : Stb X G) (h : AZ X G es t) : EZ X G (.List es pos) (tLst t) :=
  ⟨fun pins s σ H Q I z q => by
    refine wpAny_List_spliced (thn (h.run pos pins s σ H _ I z q) fun us s1 ⟨z1, ys, H1, J, r, hz, q1⟩ => ⟨by rw [← r.length]; exact hz, ?_⟩)
    have hf : H1 s1.heap.objs.size = none := J.hok.fresh (Nat.le_refl _)
    have k : ∀ b o, s1.heap.get? b = some o → (s1.heap.push { cls := .type "list", data := .seq us.toArray 0 }).get? b = some o := fun b o q => Heap.get?_push_of_some _ q
    exact ⟨S.keep z1 k, V.ref s1.heap.objs.size, upd H1 s1.heap.objs.size (.lst ys), J.laid (t' := s1.toks) k (Nat.le_refl _) ⟨hz, us, 0, r, Heap.get?_push_size _ rfl⟩, rfl, q1 _ hf⟩⟩
end
end Gw

namespace Gw
open PySem PySem.Spec PyProof.Rows L2 Evl
section
variable {X : Cx} {G : Heap → Prop} {a b c e o : Expr} {ta tb tc te to : TE} {pos p apos : Pos} {es : List Expr} {t : TA} {x m : Str} {id : String} {r : List V → Hp → VK → Prop}
/-! ### calls of built-in functions -/
theorem ez_callB (hc : CZ X G (.builtin id) r) (hm : X.mg x = none) (hv : bootBuiltins x = some (.builtin id)) (ha : AZ X G (e :: es) t) (hg : Gl X x := by exact rfl) (hn : x ≠ "__name__" := by decide) (hdb : (x == ("__debug__" : Str)) = false := by decide)
    (he : starEach (e :: es) X.env = (false, eval e X.env) :: starEach es X.env := by rfl) (hpl : (backTo pos (starEach es X.env)).any (·.1) = false := by rfl) : EZ X G (.Call (.Name x p) (e :: es) [] pos) (tCB r t) :=
  ⟨fun pins s σ H Q I z q => wpAny_Call_Name_kw (ld_blt I hg hm hv (callWith_builtin1 (thn (ha.run pos pins s σ H _ I z q) fun us s1 ⟨z1, vs, H1, J, r1, q1⟩ => hc pins s1 σ H1 vs us Q J z1 r1 q1) he hpl) hn hdb)⟩
theorem cz_len : CZ X G (.builtin "len") (rLenS X.K) := by
  intro pins s σ H xs us Q I z hr q
  obtain ⟨y, ys, rfl, hy, q⟩ := q
  obtain ⟨u, rfl, ru⟩ := vals1 hr
  cases ru
  have hl := line63
  have hs : sizeLine = 16777216 := sizeLine_eq
  rcases hy with hy | hy
  · obtain ⟨its, r2, pl, hz⟩ := I.list hy
    have e2 := r2.length
    have hb : (its.toArray.size : Int) < 2 ^ 63 := by rw [List.size_toArray]; omega
    exact Calls.call_len_list pl.isList hb ⟨z, V.int ys.length, H, I.tok _, ⟨_, by rw [List.size_toArray, e2]⟩, q⟩
  · obtain ⟨its, r2, pl, hz⟩ := I.tuple hy
    have e2 := r2.length
    have hb : (its.toArray.size : Int) < 2 ^ 63 := by rw [List.size_toArray]; omega
    exact len_tuple pl hb ⟨z, V.int ys.length, H, I.tok _, ⟨_, by rw [List.size_toArray, e2]⟩, q⟩
theorem cz_max2 (S : Stb X G) (hc : X.calm = true) : CZ X G (.builtin "max") rMax2 := by
  intro pins s σ H xs us Q I z hr q
  obtain ⟨i, j, rfl, q⟩ := q
  obtain ⟨u, v, rfl, ⟨t1, e1⟩, ⟨t2, e2⟩⟩ := vals2 hr
  rw [e1, e2]
  refine max_two_ints (I.ok.hd hc) fun h2 tk k => ⟨S.keep z k, _, H, I.kept k, ?_, q⟩
  split
  · exact ⟨_, rfl⟩
  · exact ⟨_, rfl⟩
def rMin2 : List V → Hp → VK → Prop := fun xs H Q => ∃ i j, xs = [.int i, .int j] ∧ Q (.int (if j < i then j else i)) H
theorem cz_min2 (S : Stb X G) (hc : X.calm = true) : CZ X G (.builtin "min") rMin2 := by
  intro pins s σ H xs us Q I z hr q
  obtain ⟨i, j, rfl, q⟩ := q
  obtain ⟨u, v, rfl, ⟨t1, e1⟩, ⟨t2, e2⟩⟩ := vals2 hr
  rw [e1, e2]
  refine min_two_ints (I.ok.hd hc) fun h2 tk k => ⟨S.keep z k, _, H, I.kept k, ?_, q⟩
  split
  · exact ⟨_, rfl⟩
  · exact ⟨_, rfl⟩
theorem ez_len (hm : X.mg "len" = none) (he : EZ X G e te) (hg : Gl X "len" := by exact rfl) (hs : starEach [e] X.env = (false, eval e X.env) :: starEach [] X.env := by rfl) (hpl : (backTo pos (starEach [] X.env)).any (·.1) = false := by rfl) :
    EZ X G (.Call (.Name "len" p) [e] [] pos) (tLen X.K te) := ez_callB cz_len hm PySem.boot_len (az_cons he az_nil hs) hg (by decide) (by decide) hs hpl
/-! ### calls of own defs -/
theorem callee_kept (S : Stb X G) {pins : List (Addr × Obj)} {s s1 : Shared} {σ : L2.St} {H : Hp} {Q : VK} {u : Value} (I : Inv X pins σ H s) (z : G s.heap) (h : CE X.stack X.prog X.w H s Q u s1) : Zq G (EP X pins σ Q) u s1 := by
  refine ⟨?_, I.after h⟩
  obtain ⟨_, _, _, _, un, _⟩ := h
  exact S.slot _ _ z fun ob e => un.any e I.free (fun q => nomatch q)
section
variable {k j : Nat} {f C : Addr} {fd : FuncData} {ps : List Str} {sp : Sp} {dvs : List V} {ds : List Value} {E : XK}
theorem fz_run (S : Stb X G) {pins : List (Addr × Obj)} {σ : L2.St} {H : Hp} {s : Shared} {Q : VK} {us : List Value} {vs : List V} (F : FnOk X.prog X.w X.K X.mg X.base CX0 k f fd ps sp) (hr : Room k X.A) (hb : Binds X.K fd ps ds) (hd : Vals dvs ds)
    (I : Inv X pins σ H s) (z : G s.heap) (rv : Vals vs us) (q : sp (vs ++ dvs) H Q E0) : Wz X (call (.ref f) us) (Zq G (EP X pins σ Q)) s := by
  have rr : Vals (vs ++ dvs) (us ++ ds) := rv.append hd
  have hl : (us ++ ds).length = ps.length := by rw [← rr.length]; exact F.len _ _ _ _ q
  refine wpAny_call (codeAny_mono (F.run X.A X.stack s H ⟨us, []⟩ (us ++ ds) (vs ++ dvs) Q E0 hr I.env0 (hb s us I.kIn hl) rr q) fun w s1 hw => ?_)
  match w, hw with
  | .error _, hw => exact pass0 pins σ H s _ s1 I hw
  | .ok (.ret _), hw => exact callee_kept S I z hw
  | .ok .next, hw => exact False.elim hw
  | .ok .brk, hw => exact False.elim hw
  | .ok .cont, hw => exact False.elim hw
theorem ez_c (S : Stb X G) (cl : C8.Cal X.prog X.w X.K X.mg X.base k x sp dvs) (hr : Room j X.A) (hk : k ≤ j) (ha : AZ X G (e :: es) t) (hg : Gl X x := by exact rfl)
    (hdb : (x == ("__debug__" : Str)) = false := by decide) (he : starEach (e :: es) X.env = (false, eval e X.env) :: starEach es X.env := by rfl) (hpl : (backTo pos (starEach es X.env)).any (·.1) = false := by rfl) :
    EZ X G (.Call (.Name x p) (e :: es) [] pos) (tCall sp dvs E0 t) := by
  obtain ⟨f, fd, ps, ds, F, hm, kp, hb, hd⟩ := cl.ex
  exact ⟨fun pins s σ H Q I z q => wpAny_Call_Name_kw (ld_glob I hg hm (PySem.W.callWith_K (h₀ := X.base) I.ok.mod.kin kp (thn (ha.run pos pins s σ H _ I z q) fun us s1 ⟨z1, vs, H1, J, r1, q1⟩ => ⟨J.kIn, fz_run S F (hr.mono hk) hb hd J z1 r1 q1⟩) he hpl) hdb)⟩
theorem ez_mt {pl : Sem Bool} (S : Stb X G) (cl : C8.Met X.prog X.w X.K X.mg X.base k C m sp dvs) (hr : Room j X.A) (hk : k ≤ j) (ho : EZ X G o to) (ha : AZ X G (e :: es) t)
    (hst : starEach (e :: es) X.env = (false, eval e X.env) :: starEach es X.env := by rfl) (hpl : (backTo pos (starEach es X.env)).any (·.1) = false := by rfl)
    (ht : eval (.Call (.Attribute o m apos) (e :: es) [] pos) X.env = (do
      let ov ← eval o X.env
      standAt apos.atName
      let (f, first) ← holding [ov] (getMethod ov m pl)
      callWith pos f first (backTo pos (starEach (e :: es) X.env)) (backToKw pos (keywordEach [] X.env))) := by rfl) :
    EZ X G (.Call (.Attribute o m apos) (e :: es) [] pos) (tMeth C m sp dvs E0 to t) := by
  obtain ⟨f, fd, ps, ds, hcl, hme, F, hb, hd⟩ := cl.ex
  refine ⟨fun pins s σ H Q I z q => PySem.W.methodCall_KW (pl := pl) (thn (ho.run pins s σ H _ I z q) fun u s1 ⟨z1, y, H1, J, ry, y1, dx, fs, ey, ea, l, q1⟩ => ?_) ht⟩
  subst ey
  have eu : u = Value.ref y1 := ry
  subst eu
  refine getmeth_ok J ea hcl hme l (PySem.W.callWith_K (first := [.ref y1]) (h₀ := X.base) J.ok.mod.kin hme.kp (thn (ha.run pos pins s1 σ H1 _ J z1 q1) fun us s2 ⟨z2, vs, H2, J2, r2, q2⟩ => ⟨J2.kIn, ?_⟩) hst hpl)
  exact fz_run (us := .ref y1 :: us) (vs := .ref y1 :: vs) S F (hr.mono hk) hb hd J2 z2 (.cons rfl r2) q2
theorem fz_make (S : Stb X G) {pins : List (Addr × Obj)} {σ : L2.St} {H : Hp} {s : Shared} {Q : VK} {us : List Value} {vs : List V} (M : Mk X.K C f) (F : FnOk X.prog X.w X.K X.mg X.base CX0 k f fd ps sp) (hr : Room (k + 1) X.A) (hb : Binds X.K fd ps ds) (hd : Vals dvs ds)
    (I : Inv X pins σ H s) (z : G s.heap) (rv : Vals vs us)
    (q : ∀ x dx, H x = none → H dx = none → dx ≠ x → sp (.ref x :: (vs ++ dvs)) (upd (upd H dx (.own x)) x (.ins C dx [])) (fun v H2 => v = .non ∧ Q (.ref x) H2) E0) :
    Wz X (call (.ref C) us) (Zq G (EP X pins σ Q)) s := by
  have q2 := q (s.heap.objs.size + 1) s.heap.objs.size (I.hok.fresh (Nat.le_add_right _ _)) (I.hok.fresh (Nat.le_refl _)) (Nat.ne_of_lt (Nat.lt_add_one _))
  have J := Inv.made (C := C) I
  have z2 : G ((s.heap.push PySem.W.emptyDict).push (PySem.W.instObj C s.heap.objs.size)) := S.keep z fun b ob e => Heap.get?_push_of_some _ (Heap.get?_push_of_some _ e)
  have rr : Vals (V.ref (s.heap.objs.size + 1) :: (vs ++ dvs)) (Value.ref (s.heap.objs.size + 1) :: (us ++ ds)) := .cons rfl (rv.append hd)
  have hl : (Value.ref (s.heap.objs.size + 1) :: us ++ ds).length = ps.length := (rr.length.symm.trans (F.len _ _ _ _ q2) : _)
  refine wpAny_call (make_map (f := f) I.kIn M.makes M.init (beq_iff_eq.mp M.fn) (codeAny_mono (F.run _ X.stack _ _ ⟨Value.ref (s.heap.objs.size + 1) :: us, []⟩ (Value.ref (s.heap.objs.size + 1) :: (us ++ ds)) _ _ E0 (hr.make C us [])
    (J.env0.make C us []) (hb _ (Value.ref (s.heap.objs.size + 1) :: us) J.kIn hl) rr q2) fun w s1 hw => ?_))
  match w, hw with
  | .error _, hw => exact pass0 pins σ _ _ _ s1 J hw
  | .ok (.ret u), hw =>
    obtain ⟨z3, v, H3, J3, rv3, ev, q3⟩ := callee_kept S J z2 hw
    subst ev
    exact ⟨rv3, ⟨z3, V.ref (s.heap.objs.size + 1), H3, J3, rfl, q3⟩⟩
  | .ok .next, hw => exact False.elim hw
  | .ok .brk, hw => exact False.elim hw
  | .ok .cont, hw => exact False.elim hw
theorem ez_mk (S : Stb X G) (cl : C8.Mak X.prog X.w X.K X.mg X.base k x C sp dvs) (hr : Room j X.A) (hk : k + 1 ≤ j) (ha : AZ X G (e :: es) t) (hg : Gl X x := by exact rfl)
    (hdb : (x == ("__debug__" : Str)) = false := by decide) (he : starEach (e :: es) X.env = (false, eval e X.env) :: starEach es X.env := by rfl) (hpl : (backTo pos (starEach es X.env)).any (·.1) = false := by rfl) :
    EZ X G (.Call (.Name x p) (e :: es) [] pos) (tMake C sp dvs E0 t) := by
  obtain ⟨f, fd, ps, ds, M, F, hm, hb, hd⟩ := cl.ex
  exact ⟨fun pins s σ H Q I z q => wpAny_Call_Name_kw (ld_glob I hg hm (PySem.W.callWith_K (h₀ := X.base) I.ok.mod.kin M.kp (thn (ha.run pos pins s σ H _ I z q) fun us s1 ⟨z1, vs, H1, J, r1, q1⟩ => ⟨J.kIn, fz_make S M F (hr.mono hk) hb hd J z1 r1 q1⟩) he hpl) hdb)⟩
theorem ez_fld (he : EZ X G e te) (hb : attributeBase e x X.env (eval e X.env) = eval e X.env) : EZ X G (.Attribute e x pos) (tFld X.K te x) :=
  ⟨fun pins s σ H Q I z q => by
    refine attr_of hb (thn (he.run pins s σ H _ I z q) fun u s1 ⟨z1, y, H1, J, ry, y1, C, dx, fs, v, ey, ea, hcl, hna, l, q1⟩ => ?_)
    subst ey
    have eu : u = Value.ref y1 := ry
    subst eu
    obtain ⟨mA, O, rA, _, _, _⟩ := ins_get J.hok ea
    obtain ⟨u2, hu, ru⟩ := RelO.some_of (v := v) (o := mA x) (by rw [← l]; exact rA x)
    exact get_map J.kIn O (hcl.get x) hcl.hd hna hu (handed_of ru) ⟨z1, v, H1, J.tok _, ru, q1⟩⟩
end
end
end Gw

namespace Gw
open PySem PySem.Spec PyProof.Rows L2 Evl PySem.Froz
section
variable {X : Cx} {G : Heap → Prop} {a b c e o : Expr} {ta tb tc te to : TE} {pos p p2 q0 apos : Pos} {es : List Expr} {t : TA} {x m : Str}
/-! ### texts -/
theorem ez_join (ho : EZ X G o to) (he : EZ X G e te) (hs : starEach [e] X.env = [(false, eval e X.env)] := by rfl) (hbase : attributeBase o "join" X.env (eval o X.env) = eval o X.env := by rfl) (hline : (apos.endLine == pos.line) = true := by rfl) :
    EZ X G (.Call (.Attribute o "join" apos) [e] [] pos) (tM1 (rSJoin X.K) to te) :=
  ⟨fun pins s σ H Q I z q => by
    refine PySem.Call_method1 hbase hs hline (thn (ho.run pins s σ H _ I z q) fun v s1 ⟨z1, y, H1, J, r1, ⟨ys, ey⟩, q1⟩ => ?_)
    subst ey
    obtain ⟨t1, e1⟩ := r1
    subst e1
    refine ⟨"str", _, F.plainAttrs_str, F.slot_str_join, F.type_str_join, typeIs_str _ _ _, (fun _ e => nomatch e), Calls.callWith_builtin rfl (Calls.evalArgs_plain (Calls.spliced_cons ?_))⟩
    refine thn (he.run pins s1 σ H1 _ J z1 q1) fun u s2 ⟨z2, y2, H2, J2, r2, q2⟩ => Calls.spliced_nil ?_
    obtain ⟨g, l, zs, eg, el, hl, hz, q2⟩ := q2
    cases eg
    cases el
    cases r2
    rcases hl with hl | hl
    · obtain ⟨its, rv, ⟨ob, n, h1, h2, _, h3⟩, _⟩ := J2.list hl
      exact PyProof.Rows.join_list (items := its.toArray) ⟨ob, h1, h2, n, h3⟩ (by rw [List.toList_toArray]; exact strs_of_vals rv) hz fun t2 k2 => ⟨z2, V.str _, H2, J2.tok k2, ⟨t2, rfl⟩, q2⟩
    · obtain ⟨its, rv, ht, _⟩ := J2.tuple hl
      exact PyProof.Rows.join_tuple (items := its.toArray) ht (by rw [List.toList_toArray]; exact strs_of_vals rv) hz fun t2 k2 => ⟨z2, V.str _, H2, J2.tok k2, ⟨t2, rfl⟩, q2⟩⟩
theorem ez_sortSet (S : Stb X G) (hm : X.mg "sorted" = none) (hm2 : X.mg "set" = none) (he : EZ X G e te) (hg : Gl X "sorted" := by exact rfl) (hg2 : Gl X "set" := by exact rfl) (hc : X.calm = true := by rfl)
    (na : starEach [e] X.env = (false, eval e X.env) :: starEach [] X.env := by rfl) : EZ X G (.Call (.Name "sorted" p) [.Call (.Name "set" p2) [e] [] q0] [] pos) (tSortSet te) := by
  refine ⟨fun pins s σ H Q I z h => ?_⟩
  refine Call_ (ld_blt I hg hm (show bootBuiltins ("sorted" : Str) = some (.builtin "sorted") by decide +kernel) ?_)
  refine PyProof.Rows.callWith_builtin1 (PyProof.Rows.args_cons ?_ rfl) rfl rfl
  refine Call_ (ld_blt I hg2 hm2 (show bootBuiltins ("set" : Str) = some (.type "set") by decide +kernel) ?_)
  refine PyProof.Rows.callWith_type1 (PyProof.Rows.args_cons (thn (he.run pins s σ H _ I z h) fun v s1 ⟨z1, x, H1, I1, r1, q1⟩ => PyProof.Rows.args_nil ?_) na) na rfl
  obtain ⟨l, rfl, hl, hz, q1⟩ := q1
  obtain ⟨t, rfl⟩ := r1
  refine call_set_text (I1.ok.hd hc) (enc_ascii hl) (by rw [enc_len]; unfold scanBound; omega) fun h' tk D ls ho F Gs nd hm hk => ?_
  refine PyProof.Rows.args_nil ?_
  have I2 : Inv X pins σ H1 { s1 with heap := h', toks := tk } := I1.kept hk
  have z2 : G h' := S.keep z1 hk
  have hsg : ∀ y ∈ ls, ∃ n, n < 26 ∧ n ∈ l ∧ y = sg n := fun y hy => by
    obtain ⟨c, hc', rfl⟩ := (hm y).mp hy
    obtain ⟨n, hn, rfl⟩ := List.mem_map.mp (show c ∈ l.map (97 + ·) from hc')
    exact ⟨n, hl n hn, hn, rfl⟩
  obtain ⟨ms, rfl⟩ := sg_back (ys := ls) fun y hy => by
    obtain ⟨n, _, _, e⟩ := hsg y hy
    exact ⟨n, e⟩
  have hms : ms.length ≤ 26 := nodup_le (List.Pairwise.of_map sg (fun a b hne e => hne (by rw [e])) nd) fun i hi => by
    obtain ⟨n, h26, _, e⟩ := hsg (sg i) (List.mem_map.mpr ⟨i, hi, rfl⟩)
    rw [sg_inj e]
    exact h26
  refine sorted_setX (s := { s1 with heap := h', toks := tk }) ho F Gs (I2.ok.hd hc) (by rw [List.length_map]; omega) fun s' p out c ys k g o hp hgp hys hmem hlen => ?_
  obtain ⟨m, rfl⟩ := sg_back (ys := ys) fun y hy => by
    obtain ⟨i, _, e⟩ := List.mem_map.mp ((hmem y).mp hy)
    exact ⟨i, e.symm⟩
  have hml : m.length ≤ 26 := by
    rw [List.length_map, List.length_map] at hlen
    omega
  have hmm : ∀ i, i ∈ m ↔ i ∈ l := fun i => by
    constructor
    · intro hi
      obtain ⟨n, _, hn, e⟩ := hsg (sg i) ((hmem (sg i)).mp (List.mem_map.mpr ⟨i, hi, rfl⟩))
      rw [sg_inj e]
      exact hn
    · intro hi
      have : sg i ∈ m.map sg := (hmem _).mpr ((hm _).mpr ⟨97 + i, List.mem_map.mpr ⟨i, hi, rfl⟩, rfl⟩)
      obtain ⟨j, hj, e⟩ := List.mem_map.mp this
      rw [← sg_inj e]
      exact hj
  have hlen2 : ((m.map sg).map V.str).length ≤ sizeLine := by rw [List.length_map, List.length_map, sizeLine_eq]; omega
  have hn : H1 p = none := I2.hok.fresh hp
  have J : Inv X pins σ (upd H1 p (.lst ((m.map sg).map V.str))) { ({ s1 with heap := h', toks := tk } : Shared) with heap := s'.heap, gens := s'.gens, drawn := s'.drawn, toks := s'.toks } :=
    I2.call (ch := []) (Un.laid k hp hn) (I2.hok.laid k hp ⟨hlen2, out.toList, c, vals_of_strs hys, hgp⟩) (by rw [g]; exact I2.bare) (fun _ z => nomatch z)
  have e : s' = { ({ s1 with heap := h', toks := tk } : Shared) with heap := s'.heap, gens := s'.gens, drawn := s'.drawn, toks := s'.toks } := by
    cases s'
    cases s1
    cases o
    rfl
  rw [e]
  exact ⟨S.keep z2 k, .ref p, _, J, rfl, q1 p m hn hmm hml⟩
/-- a text's slice -/
theorem ez_cutTo (S : Stb X G) (he : EZ X G e te) (hu : EZ X G a ta) : EZ X G (.Subscript e (.Slice none (some a) none p2) pos) (tSl rSlS te tNoPart (tPart ta)) := by
  refine ⟨fun pins s σ H Q I z q => ?_⟩
  refine Subscript_ (thn (he.run pins s σ H _ I z q) fun v s1 ⟨z1, y, H1, J, r1, q1⟩ => ?_)
  refine wpAny_Slice ?_
  rw [evalPart_none]
  refine wpAny_pure ?_
  rw [evalPart_some]
  refine thn (hu.run pins s1 σ H1 _ J z1 q1) fun u s2 ⟨z2, y2, H2, J2, r2, j, ej, q2⟩ => ?_
  subst ej
  obtain ⟨tu, rfl⟩ := r2
  refine wpAny_pure ?_
  obtain ⟨w, rfl, hw, q3⟩ := q2
  obtain ⟨tw, rfl⟩ := r1
  have k : ∀ b o, s2.heap.get? b = some o → (s2.heap.push { cls := .type "slice", data := .fields #[.none, .int j tu, .none] }).get? b = some o := fun b o q => Heap.get?_push_of_some _ q
  have J3 : Inv X pins σ H2 { s2 with heap := s2.heap.push { cls := .type "slice", data := .fields #[.none, .int j tu, .none] } } := J2.kept (t' := s2.toks) k
  have z3 := S.keep z2 k
  show Wz X (subscriptTail e (.Slice none (some a) none p2) (.str w tw) (.ref s2.heap.objs.size)) _ { s2 with heap := s2.heap.push { cls := .type "slice", data := .fields #[.none, .int j tu, .none] } }
  refine tail_any (T := "str") (ops := [.ref s2.heap.objs.size, .str w tw]) (typeIs_str _ _ _) F.slot_str_getitem.lookup ?_ (by with_unfolding_all rfl)
  obtain ⟨os, hos, hcs, hds⟩ := Heap.IsSliceOf.new s2.heap .none (.int j tu) .none
  refine wpAny_getItem_str_slice (l := none) (u := some (j, tu)) (st := none) ⟨os, hos, hcs, hds⟩ rfl ?_
  have hsl : (PySem.StrLaws.sliceText w none (some j)).length ≤ sizeLine := by
    rw [sliceText_cut]
    exact Nat.le_trans (cutS_length w _ _) hw
  rw [← sliceText_cut] at q3
  unfold PySem.StrLaws.sliceText at q3 hsl
  show Made.post (if ((1 : Int) == 1 && (Builtin.Str.strSliceIndices none (some j) 1 w.length).length == w.length) = true then Made.val (.str w tw) else Made.str ⟨((Builtin.Str.strSliceIndices none (some j) 1 w.length).filterMap (w.cps[·]?)).toArray⟩) _ _
  by_cases hc : ((1 : Int) == 1 && (Builtin.Str.strSliceIndices none (some j) 1 w.length).length == w.length) = true
  · rw [if_pos hc] at q3 ⊢
    exact ⟨z3, V.str w, H2, J3, ⟨tw, rfl⟩, q3⟩
  · rw [if_neg hc] at q3 hsl ⊢
    exact ⟨hsl, z3, V.str _, H2, J3.tok _, ⟨_, rfl⟩, q3⟩
end
end Gw

namespace Gw
open PySem PySem.Spec PyProof.Rows L2 Evl
section
variable {X : Cx} {G : Heap → Prop} {a b c e o : Expr} {ta tb tc te to : TE} {pos p p2 q0 apos : Pos} {es : List Expr} {t : TA} {x m : Str}
/-- a text backwards -/
theorem ez_revS {k : Nat} {p1 p3 : Pos} (S : Stb X G) (he : EZ X G e te) : EZ X G (.Subscript e (.Slice none none (some (.UnaryOp .USub (.Constant (.int 1) k p1) p2)) p3) pos) (tRevS te) := by
  refine ⟨fun pins s σ H Q I z q => ?_⟩
  refine Subscript_ (thn (he.run pins s σ H _ I z q) fun v s1 ⟨z1, y, H1, J, r1, w, ey, hw, q1⟩ => ?_)
  subst ey
  obtain ⟨tw, rfl⟩ := r1
  refine wpAny_Slice ?_
  rw [evalPart_none]
  refine wpAny_pure (wpAny_pure ?_)
  rw [evalPart_some]
  refine UnaryOp_ (wpAny_Constant_int (neg_int ?_))
  have kk : ∀ b o, s1.heap.get? b = some o → (s1.heap.push { cls := .type "slice", data := .fields #[.none, .none, .int (-1) (s1.toks + 1)] }).get? b = some o := fun b o q => Heap.get?_push_of_some _ q
  have J2 : Inv X pins σ H1 { s1 with heap := s1.heap.push { cls := .type "slice", data := .fields #[.none, .none, .int (-1) (s1.toks + 1)] }, toks := s1.toks + 1 + 1 } := J.kept kk
  have z2 := S.keep z1 kk
  show Wz X (subscriptTail e (.Slice none none (some (.UnaryOp .USub (.Constant (.int 1) k p1) p2)) p3) (.str w tw) (.ref s1.heap.objs.size)) _ { s1 with heap := s1.heap.push { cls := .type "slice", data := .fields #[.none, .none, .int (-1) (s1.toks + 1)] }, toks := s1.toks + 1 + 1 }
  refine tail_any (T := "str") (ops := [.str w tw, .ref s1.heap.objs.size]) (typeIs_str _ _ _) F.slot_str_getitem.lookup ?_ (by with_unfolding_all rfl)
  obtain ⟨os, hos, hcs, hds⟩ := Heap.IsSliceOf.new s1.heap .none .none (.int (-1) (s1.toks + 1))
  refine wpAny_getItem_str_slice (l := none) (u := none) (st := some (-1, s1.toks + 1)) ⟨os, hos, hcs, hds⟩ rfl ?_
  show Made.post (Made.str (revS w)) _ _
  refine ⟨?_, z2, V.str _, H1, J2.tok _, ⟨_, rfl⟩, q1⟩
  have : (revS w).length ≤ w.length := by
    show ((Builtin.Str.strSliceIndices none none (-1) w.length).filterMap (w.cps[·]?)).toArray.size ≤ _
    rw [List.size_toArray]
    refine Nat.le_trans (List.length_filterMap_le _ _) ?_
    rw [picked_rev, List.length_map, List.length_range]
    exact Nat.le_refl _
  omega
/-! ### statements -/
theorem store_y {pins : List (Addr × Obj)} {σ : L2.St} {H : Hp} {s : Shared} {M : Model} {A : Around} {E : Value → Shared → Prop} {i : Nat} {v : V} {u : Value} {Q : Unit → Shared → Prop} (So : ∀ h2 m, s.heap.Ns X.env.locals m → h2.Ns X.env.locals (fun y => if y = x then some u else m y) → G h2) (I : Inv X pins σ H s) (hN : X.N.Nodup) (hi : X.N[i]? = some x)
    (hk : X.env.scope.names.lookup x = some .local) (r : RelV v u) (q : ∀ s1, Inv X pins (σ.set i (some v)) H s1 → G s1.heap → Q () s1) : wpAny M A (storeName X.env x u) Q E s := by
  obtain ⟨m, hm, hl⟩ := id I.loc
  have hlen : i < σ.length := by rw [I.len]; exact (List.getElem?_eq_some_iff.mp hi).1
  have cne := I.cne
  refine wpAny_storeName_local hk hm (fun h2 hm2 sb => ?_) (by rw [I.ok.kind]; rfl)
  have young : ∀ {b : Addr} {ob : Obj}, X.s_0.heap.get? b = some ob → b ≠ X.env.locals := fun {b ob} w => Nat.ne_of_lt (Nat.lt_of_lt_of_le (Heap.lt_size w) I.ok.above)
  have same : ∀ {b : Addr} {ob : Obj}, b ≠ X.env.locals → s.heap.get? b = some ob → h2.get? b = some ob := fun {b ob} n w => (sb.2 b n).trans w
  have hH : HOk X.prog X.w H h2 := fun d ob w => (I.hok d ob w).stay (fun f v' hf y => by
    refine same (fun ef => ?_) y
    have hfr := I.free
    rw [← ef] at hfr
    rcases hf with hf | hf
    · rw [hf, w] at hfr
      cases hfr
    · rw [hf] at hfr
      cases hfr) (fun _ y => y) fun _ _ y => y
  refine q _ { ok := I.ok, os := I.os, bare := I.bare, base := ?_, loc := ⟨_, hm2, ?_⟩, cell := ?_, free := I.free, freeC := I.freeC, pin := ?_, hok := hH, len := by rw [List.length_set]; exact I.len } (So _ m hm hm2)
  · exact { keep := fun b ob w n hb hx => same (young w) (I.base.keep b ob w n hb hx)
            slot := fun b ob w n hb hx => let ⟨sl, w2⟩ := I.base.slot b ob w n hb hx; ⟨sl, same (young w) w2⟩
            free := I.base.free
            there := fun b ob w hx => let ⟨o2, w2⟩ := I.base.there b ob w hx; ⟨o2, same (young w) w2⟩
            tups := I.base.tups
            frzs := I.base.frzs
            tbls := I.base.tbls }
  · intro j y v2 hj hs hv
    by_cases ej : j = i
    · subst ej
      rw [hi] at hj
      cases hj
      rw [List.getElem?_set_self hlen] at hs
      cases hs
      exact ⟨u, r, .inl ⟨hk, if_pos rfl⟩⟩
    · rw [List.getElem?_set_ne (Ne.symm ej)] at hs
      obtain ⟨u2, r2, hu⟩ := hl j y v2 hj hs hv
      have ny : y ≠ x := fun w => ej (nodup_ix hN hj (w ▸ hi))
      refine ⟨u2, r2, ?_⟩
      rcases hu with ⟨w1, w2⟩ | ⟨w1, d, w2, w3⟩
      · exact .inl ⟨w1, (if_neg ny).trans w2⟩
      · exact .inr ⟨w1, d, w2, w3.sameBut sb (cne y d w2)⟩
  · intro y d w
    obtain ⟨v2, w2⟩ := I.cell y d w
    exact ⟨v2, w2.sameBut sb (cne y d w)⟩
  · intro pr hp
    obtain ⟨w1, w2, w3, w4⟩ := I.pin pr hp
    exact ⟨same w3 w1, w2, w3, w4⟩
theorem store_z {pins : List (Addr × Obj)} {σ : L2.St} {H : Hp} {s : Shared} {M : Model} {A : Around} {E : Value → Shared → Prop} {i : Nat} {v : V} {u : Value} {Q : Unit → Shared → Prop} (So : StoOk X G x) (I : Inv X pins σ H s) (z : G s.heap) (hN : X.N.Nodup) (hi : X.N[i]? = some x)
    (hk : X.env.scope.names.lookup x = some .local) (r : RelV v u) (q : ∀ s1, Inv X pins (σ.set i (some v)) H s1 → G s1.heap → Q () s1) : wpAny M A (storeName X.env x u) Q E s := store_y (fun h2 m w1 w2 => So _ h2 m u z w1 w2) I hN hi hk r q
theorem sz_set {i : Nat} (So : StoOk X G x) (hN : X.N.Nodup) (hi : X.N[i]? = some x) (hk : X.env.scope.names.lookup x = some .local) (he : EZ X G e te) (hs : swapsWith e (some (.Name x p)) pos.line X.env = pure false := by rfl) :
    SZ X G (.Assign [.Name x p] e pos) (tAsg te (gName i)) :=
  ⟨fun pins s σ H D I z q => wpAny_Assign_Name (thn (he.run pins s σ H _ I z q) fun v s1 ⟨z1, y, H1, J, r1, q1⟩ => store_z So J z1 hN hi hk r1 fun s2 J2 z2 => ⟨z2, _, H1, J2, q1⟩) hs⟩
theorem sz_if {l1 l2 : List Stmt} {tA : TT} {u1 u2 : TS} (hc : TZ X G c tA) (h1 : BZ X G l1 u1) (h2 : BZ X G l2 u2) : SZ X G (.If c l1 l2 pos) (tIfS tA u1 u2) :=
  ⟨fun pins s σ H D I z q => wpAny_If (thn (hc.run _ pins s σ H _ rfl I z q) fun k s1 ⟨z1, H1, J, q1⟩ => by
    cases k with
    | false => exact h2.run pins s1 σ H1 D J z1 q1
    | true => exact h1.run pins s1 σ H1 D J z1 q1)⟩
theorem sz_ret (he : EZ X G e te) : SZ X G (.Return (some e) pos) (tRet te) :=
  ⟨fun pins s σ H D I z q => wpAny_Return_some (thn (he.run pins s σ H _ I z q) fun v s1 ⟨z1, y, H1, J, r1, q1⟩ => ⟨z1, y, σ, H1, J, r1, q1⟩)⟩
theorem bz_nil : BZ X G [] tNext := ⟨fun pins s σ H D I z q => wpAny_execs_nil ⟨z, σ, H, I, q⟩⟩
section
variable {d : Stmt} {ds : List Stmt} {u1 u2 : TS}
theorem bz_cons (h1 : SZ X G d u1) (h2 : BZ X G ds u2) : BZ X G (d :: ds) (tSeq u1 u2) :=
  ⟨fun pins s σ H D I z q => wpAny_execs_cons (thn (h1.run pins s σ H { D with nx := u2 D } I z q) fun f s1 w => by
    cases f with
    | next =>
      obtain ⟨z1, σ1, H1, J, q1⟩ := w
      exact h2.run pins s1 σ1 H1 D J z1 q1
    | ret v => exact w
    | brk => exact w
    | cont => exact w)⟩
theorem bz_one (h1 : SZ X G d u1) : BZ X G [d] u1 :=
  ⟨fun pins s σ H D I z q => wpAny_execs_cons (thn (h1.run pins s σ H D I z q) fun f s1 w => by
    cases f with
    | next => exact wpAny_execs_nil w
    | ret v => exact w
    | brk => exact w
    | cont => exact w)⟩
end
/-! ### loops -/
structure GZ1 (X : Cx) (G : Heap → Prop) (tg : Expr) (g : TG) : Prop where
  run : ∀ (pins : List (Addr × Obj)) (s : Shared) (σ : L2.St) (H : Hp) (v : V) (u : Value) (Q : L2.St → Hp → Prop), Inv X pins σ H s → G s.heap → RelV v u → g v σ H Q →
    Wz X (assign tg X.env u) (fun _ s1 => G s1.heap ∧ ∃ σ1 H1, Inv X pins σ1 H1 s1 ∧ Q σ1 H1) s
theorem gz_name {i : Nat} (So : StoOk X G x) (hN : X.N.Nodup) (hi : X.N[i]? = some x) (hk : X.env.scope.names.lookup x = some .local) : GZ1 X G (.Name x pos) (gName i) :=
  ⟨fun pins s σ H v u Q I z r q => wpAny_assign_Name (store_z So I z hN hi hk r fun s1 J z1 => ⟨z1, _, H, J, q⟩)⟩
/-- what an iterator's turns keep -/
structure TnZ (X : Cx) (G : Heap → Prop) (tg : Expr) (J : It) (fp : List Addr) (it : Addr) (tn : Nat → Heap → Prop) : Prop where
  item : ∀ (i : Nat) (pins : List (Addr × Obj)) (s : Shared) (σ : L2.St) (H : Hp), Inv X pins σ H s → G s.heap → (∀ b ∈ fp, FpOk X pins H b) → tn i s.heap → J.go i H →
    Wz X (pyNext (.ref it)) (fun r s1 => ∃ u, r = some u ∧ Wz X (letOwnedTupleGo tg (.ref it) u) (fun _ s2 => G s2.heap ∧ ∃ y H1, Inv X pins σ H1 s2 ∧ RelV y u ∧ J.yld i H y H1 ∧ tn (i + 1) s2.heap ∧ ∀ b ∈ fp, H1 b = none) s1) s
  done : ∀ (i : Nat) (pins : List (Addr × Obj)) (s : Shared) (σ : L2.St) (H : Hp), Inv X pins σ H s → G s.heap → (∀ b ∈ fp, FpOk X pins H b) → tn i s.heap → J.stop i H →
    Wz X (pyNext (.ref it)) (fun r s1 => r = none ∧ G s1.heap ∧ Inv X pins σ H s1) s
def PZ (X : Cx) (G : Heap → Prop) (pins : List (Addr × Obj)) (σ : L2.St) (tg : Expr) (R : It → Hp → Prop) (v : Value) (s : Shared) : Prop :=
  G s.heap ∧ ∃ (it : Addr) (fp : List Addr) (tn : Nat → Heap → Prop) (J : It) (H : Hp), v = .ref it ∧ Inv X pins σ H s ∧ Turn X.prog X.w X.K tg J fp it tn ∧ TnZ X G tg J fp it tn ∧ tn 0 s.heap ∧ (∀ b ∈ fp, FpOk X pins H b) ∧ R J H
/-- the loop, its iterator made -/
theorem loop_z {tg : Expr} {body : List Stmt} {g : TG} {tB0 : TS} {pins : List (Addr × Obj)} {s : Shared} {σ : L2.St} {D : Ends} {v : Value} (hp : PassesOwn (model X.prog X.w) X.A X.env X.xe) (hg : GZ1 X G tg g) (hb : BZ X G body tB0)
    (w : PZ X G pins σ tg (fun J H1 => ∃ W : Nat → Nat → L2.St → Hp → Prop, (∃ m, W 0 m σ H1) ∧ ∀ i m σ H, W i m σ H →
      (J.stop i H ∧ D.nx σ H) ∨ (J.go i H ∧ ∃ N : L2.St → Hp → Prop, (∀ σ' H', N σ' H' → ∃ m', m' < m ∧ W (i + 1) m' σ' H') ∧ ∀ x H', J.yld i H x H' → g x σ H' fun σ2 H2 => tB0 { D with nx := N, ct := N, bk := D.nx } σ2 H2)) v s) :
    codeAny (model X.prog X.w) X.A (.forLoop tg v body [] X.env) (fun r s1 => match r with | .ok f => Zq G (SP X pins D) f s1 | .error er => cameBackBy (model X.prog X.w) X.A X.env X.xe er s1) s := by
  obtain ⟨z, it, fp, tn, J, H, ev, I, T, TZ1, st, fo, W, ⟨m0, w0⟩, turn⟩ := w
  subst ev
  have al : ∀ {H1 : Hp}, (∀ d ∈ fp, H1 d = none) → ∀ d ∈ fp, FpOk X pins H1 d := fun hn d hd => ⟨hn d hd, (fo d hd).2⟩
  refine codeAny_forLoop_any (fun n t => G t.heap ∧ ∃ i σ1 H1, Inv X pins σ1 H1 t ∧ tn i t.heap ∧ (∀ d ∈ fp, H1 d = none) ∧ W i n σ1 H1) ?_ m0 ⟨z, 0, σ, H, I, st, fun d hd => (fo d hd).1, w0⟩
  rintro n s3 ⟨z3, i, σ3, H3, I3, st3, fr3, w3⟩
  rcases turn i n σ3 H3 w3 with ⟨stop, qn⟩ | ⟨go, N, hN, step⟩
  · refine wpAny_passesOwn hp (thn (TZ1.done i pins s3 σ3 H3 I3 z3 (al fr3) st3 stop) fun r s4 ⟨er, z4, I4⟩ => ?_)
    subst er
    exact wpAny_execs_nil ⟨z4, σ3, H3, I4, qn⟩
  · refine wpAny_passesOwn hp (thn (TZ1.item i pins s3 σ3 H3 I3 z3 (al fr3) st3 go) fun r s4 ⟨u, er, w4⟩ => ?_)
    subst er
    refine wpAny_passesOwn hp (thn w4 fun _ s5 ⟨z5, y, H5, I5, r5, y5, st5, fr5⟩ => ?_)
    have I5p := I5.pinned (al fr5) (T.obj _ _ st5)
    refine wpAny_passesOwn hp (thn (hg.run _ s5 σ3 H5 y u _ I5p z5 r5 (step y H5 y5)) fun _ s6 ⟨z6, σ6, H6, I6, q6⟩ => ?_)
    refine wpAny_passesOwn hp (thn (hb.run _ s6 σ6 H6 _ I6 z6 q6) fun f s7 ⟨z7, q7⟩ => ?_)
    have next : ∀ {σ7 : L2.St} {H7 : Hp}, Inv X (pins ++ pinsAt fp s5.heap) σ7 H7 s7 → N σ7 H7 → ∃ m, m < n ∧ G s7.heap ∧ ∃ i σ1 H1, Inv X pins σ1 H1 s7 ∧ tn i s7.heap ∧ (∀ d ∈ fp, H1 d = none) ∧ W i m σ1 H1 := fun {σ7 H7} I7 n7 => by
      obtain ⟨m1, hm, w7⟩ := hN σ7 H7 n7
      have pn : ∀ d ∈ fp, ∀ ob, s5.heap.get? d = some ob → s7.heap.get? d = some ob ∧ H7 d = none := fun d hd ob w =>
        let w2 := I7.pin (d, ob) (List.mem_append_right _ (List.mem_append_right _ (mem_pinsAt hd w)))
        ⟨w2.1, w2.2.1⟩
      exact ⟨m1, hm, z7, i + 1, σ7, H7, I7.unpinned, T.keep _ _ _ st5 fun d hd ob w => (pn d hd ob w).1, fun d hd => let ⟨ob, w, _⟩ := T.obj _ _ st5 d hd; (pn d hd ob w).2, w7⟩
    cases f with
    | next => obtain ⟨σ7, H7, I7, n7⟩ := q7; exact next I7 n7
    | cont => obtain ⟨σ7, H7, I7, n7⟩ := q7; exact next I7 n7
    | brk => obtain ⟨σ7, H7, I7, q7⟩ := q7; exact ⟨z7, σ7, H7, I7.unpinned, q7⟩
    | ret v => obtain ⟨y7, σ7, H7, I7, r7, q7⟩ := q7; exact ⟨z7, y7, σ7, H7, I7.unpinned, r7, q7⟩
structure IZ (X : Cx) (G : Heap → Prop) (tg iter : Expr) (wi : TI) : Prop where
  run : ∀ (pins : List (Addr × Obj)) (s : Shared) (σ : L2.St) (H : Hp) (R : It → Hp → Prop), Inv X pins σ H s → G s.heap → wi σ H R → Wz X (eval iter X.env) (fun v s1 => Wz X (pyIter v) (PZ X G pins σ tg R) s1) s
theorem sz_for {tg iter : Expr} {body : List Stmt} {wi : TI} {g : TG} {tB0 : TS} (hp : PassesOwn (model X.prog X.w) X.A X.env X.xe) (hi : IZ X G tg iter wi) (hg : GZ1 X G tg g) (hb : BZ X G body tB0) (hs : ∀ x, foldedSetIterable iter X.env x = pure x := by intro _; rfl) :
    SZ X G (.For tg iter body [] pos) (tFor wi g tB0) :=
  ⟨fun pins s σ H D I z q => wpAny_For (thn (hi.run pins s σ H _ I z q) fun v s1 w1 => thn w1 fun v2 s2 w2 => loop_z hp hg hb w2) hs⟩
end
end Gw

namespace Gw
open PySem PySem.Spec PyProof.Rows L2 Evl
section
variable {X : Cx} {G : Heap → Prop} {a b c e o : Expr} {ta tb tc te to : TE} {pos p p2 q0 apos : Pos} {es : List Expr} {t : TA} {x m : Str} {tg : Expr}
/-! ### what a loop walks -/
theorem tnz_list (S : Stb X G) (hc : X.calm = true) (l it : Addr) : TnZ X G tg (Itl X.K l) [it] it (fun i h => h.IsListIter it l i) where
  item := fun i pins s σ H I z fo st go => by
    obtain ⟨xs, y, hl, hy⟩ := go
    obtain ⟨its, rv, pl, hz⟩ := I.list hl
    obtain ⟨u, hu, ru⟩ := rv.get hy
    obtain ⟨f0, f1, f2, f3, f4, f5⟩ := fo it List.mem_cons_self
    refine wpAny_pyNext_list_item st pl.isList (x := u) (by rw [List.getElem?_toArray]; exact hu) fun h2 st2 sb => ?_
    have kp : ∀ d ob, d ≠ it → s.heap.get? d = some ob → h2.get? d = some ob := fun d ob n w => (sb.2 d n).trans w
    have z2 : G h2 := S.but z kp (Ne.symm f1)
    have J : Inv X pins σ H { s with heap := h2 } := I.turned (t' := s.toks) kp f0 f1 f3 f4 f5
    obtain ⟨ob, w1, w2, w3⟩ := id st2
    refine ⟨u, rfl, go_of (s := { s with heap := h2 }) w1 w2 w3 (by decide) ⟨z2, y, H, J, ru, ⟨rfl, fun ys hys => ?_⟩, st2, fun d hd => (fo d hd).1⟩⟩
    rw [I.list_inj hys hl]
    exact hy
  done := fun i pins s σ H I z fo st sp => by
    obtain ⟨xs, hl, hi⟩ := sp
    obtain ⟨its, rv, pl, hz⟩ := I.list hl
    obtain ⟨f0, f1, f2, f3, f4, f5⟩ := fo it List.mem_cons_self
    have e1 := rv.length
    refine wpAny_pyNext_list_end (I.ok.hd hc) st pl.isList (by rw [List.getElem?_toArray]; exact List.getElem?_eq_none (by omega)) fun h2 eb => ?_
    have kp : ∀ d ob, d ≠ it → s.heap.get? d = some ob → h2.get? d = some ob := fun d ob n w => eb d ob n w
    exact ⟨rfl, S.but z kp (Ne.symm f1), I.turned (t' := s.toks) kp f0 f1 f3 f4 f5⟩
theorem tnz_range (S : Stb X G) (hc : X.calm = true) (it : Addr) (lo : Int) (n : Nat) : TnZ X G tg (Itr lo n) [it] it (fun i h => IsRangeIter h it (lo + (i : Nat) * 1) ((n : Int) - (i : Nat)) 1) where
  item := fun i pins s σ H I z fo st go => by
    obtain ⟨f0, f1, f2, f3, f4, f5⟩ := fo it List.mem_cons_self
    refine (Walks.range (prog := X.prog) (w := X.w) (I.ok.hd hc) it lo 1 n).item i s _ _ go st fun v h2 tk hv st2 kk => ?_
    have kp : ∀ d ob, d ≠ it → s.heap.get? d = some ob → h2.get? d = some ob := fun d ob n w => kk d ob (by simpa using n) w
    have z2 : G h2 := S.but z kp (Ne.symm f1)
    have J : Inv X pins σ H { s with heap := h2, toks := tk } := I.turned kp f0 f1 f3 f4 f5
    obtain ⟨t1, e1⟩ := hv
    refine ⟨v, rfl, go_of (s := { s with heap := h2, toks := tk }) (n := "range_iterator") st2 rfl rfl (by decide) ⟨z2, V.int (lo + i), H, J, ⟨t1, ?_⟩, ⟨rfl, rfl⟩, st2, fun d hd => (fo d hd).1⟩⟩
    rw [e1, Int.mul_one]
  done := fun i pins s σ H I z fo st sp => by
    obtain ⟨f0, f1, f2, f3, f4, f5⟩ := fo it List.mem_cons_self
    have hi : n ≤ i := sp
    refine wpAny_pyNext_range_end (I.ok.hd hc) st (by omega) fun h2 eb => ?_
    have kp : ∀ d ob, d ≠ it → s.heap.get? d = some ob → h2.get? d = some ob := fun d ob n w => eb d ob n w
    exact ⟨rfl, S.but z kp (Ne.symm f1), I.turned (t' := s.toks) kp f0 f1 f3 f4 f5⟩
theorem pz_list (S : Stb X G) (hc : X.calm = true) {pins : List (Addr × Obj)} {s : Shared} {σ : L2.St} {H : Hp} {R : It → Hp → Prop} {l : Addr} {xs : List V} (I : Inv X pins σ H s) (z : G s.heap) (hl : SqL X.K H l xs) (q : R (Itl X.K l) H) : Wz X (pyIter (.ref l)) (PZ X G pins σ tg R) s := by
  obtain ⟨its, rv, pl, hz⟩ := I.list hl
  refine wpAny_pyIter_list pl.isList ⟨S.keep z fun d ob w => Heap.get?_push_of_some _ w, s.heap.objs.size, [s.heap.objs.size], _, _, H, rfl, I.kept (t' := s.toks) fun d ob w => Heap.get?_push_of_some _ w, turn_list l _, tnz_list S hc l _, ⟨_, Heap.get?_push_size _ rfl, rfl, rfl⟩, fun d hd => ?_, q⟩
  rw [List.mem_singleton.mp hd]
  exact I.fpOk (Nat.le_refl _) (I.hok.fresh (Nat.le_refl _))
theorem iz_list (S : Stb X G) (hc : X.calm = true) (he : EZ X G e te) : IZ X G tg e (iList X.K te) :=
  ⟨fun pins s σ H R I z q => thn (he.run pins s σ H _ I z q) fun v s1 ⟨z1, y, H1, J, r1, l, ey, ⟨xs, hl⟩, q1⟩ => by
    subst ey
    cases r1
    exact pz_list S hc J z1 hl q1⟩
theorem iz_range1 (S : Stb X G) (hc : X.calm = true) (hm : X.mg "range" = none) (ha : AZ X G [e] t) (hg : Gl X "range" := by exact rfl) (hs : starEach [e] X.env = [(false, eval e X.env)] := by rfl) : IZ X G tg (.Call (.Name "range" p) [e] [] pos) (iRng1 t) :=
  ⟨fun pins s σ H R I z q => by
    refine Call_ (ld_blt I hg hm boot_range (PyProof.Rows.callWith_type1 (thn (ha.run pos pins s σ H _ I z q) fun us s1 ⟨z1, vs, H1, J, rv, j, ev, g1, g2, q1⟩ => ?_) hs rfl))
    subst ev
    obtain ⟨u, rfl, t1, rfl⟩ := vals1 rv
    refine call_range_1 ?_
    have kk : ∀ d ob, s1.heap.get? d = some ob → (s1.heap.push { cls := .type "range", data := .fields #[.int 0 s1.toks, .int j t1, .int 1 (s1.toks + 1)] }).get? d = some ob := fun d ob w => Heap.get?_push_of_some _ w
    have z2 := S.keep z1 kk
    have J2 : Inv X pins σ H1 { s1 with heap := s1.heap.push { cls := .type "range", data := .fields #[.int 0 s1.toks, .int j t1, .int 1 (s1.toks + 1)] }, toks := s1.toks + 1 + 1 } := J.kept kk
    refine wpAny_pyIter_range (IsRange.new ..) (small_one (by omega) (by omega) g1 g2) ?_
    refine ⟨S.keep z2 fun d ob w => Heap.get?_push_of_some _ w, (s1.heap.push { cls := .type "range", data := .fields #[.int 0 s1.toks, .int j t1, .int 1 (s1.toks + 1)] }).objs.size, [_], _, _, H1, rfl, J2.kept (t' := s1.toks + 1 + 1) fun d ob w => Heap.get?_push_of_some _ w, turn_range _ 0 j.toNat, tnz_range S hc _ 0 j.toNat, ?_, fun d hd => ?_, q1⟩
    · have e1 : (0 : Int) + ((0 : Nat) : Int) * 1 = 0 := by simp
      have e2 : ((j.toNat : Nat) : Int) - ((0 : Nat) : Int) = Builtin.Range.rangeSize 0 j 1 := by rw [rangeSize_one]; split <;> omega
      show IsRangeIter _ _ ((0 : Int) + ((0 : Nat) : Int) * 1) (((j.toNat : Nat) : Int) - ((0 : Nat) : Int)) 1
      rw [e1, e2]
      exact Heap.get?_push_size _ rfl
    · rw [List.mem_singleton.mp hd]
      exact J2.fpOk (Nat.le_refl _) (J2.hok.fresh (Nat.le_refl _))⟩
/-! ### nothing to keep -/
theorem BZ.of {l : List Stmt} {u : TS} (h : PSs X l u) : BZ X (fun _ => True) l u := ⟨fun pins s σ H D I _ q => thn (h.run pins s σ H D I q) fun _ _ w => ⟨trivial, w⟩⟩
theorem GZ1.of {g : TG} (h : PG X tg g) : GZ1 X (fun _ => True) tg g := ⟨fun pins s σ H v u Q I _ r q => thn (h.run pins s σ H v u Q I r q) fun _ _ w => ⟨trivial, w⟩⟩
theorem stb_T : Stb X (fun _ => True) := ⟨fun _ _ _ _ => trivial⟩
end
/-! ### a local's raw value -/
def RS (X : Cx) (x0 : Str) (u0 : Value) (h : Heap) : Prop := ∃ m, h.Ns X.env.locals m ∧ m x0 = some u0
theorem ns_one {h : Heap} {L : Addr} {m m' : Str → Option Value} (h1 : h.Ns L m) (h2 : h.Ns L m') (x : Str) : m x = m' x := by
  obtain ⟨o1, es1, ep1, a1, b1, _, c1⟩ := h1
  obtain ⟨o2, es2, ep2, a2, b2, _, c2⟩ := h2
  rw [a1] at a2
  cases a2
  rw [b1] at b2
  cases b2
  exact (c1 x).symm.trans (c2 x)
section
variable {X : Cx} {x0 : Str} {u0 : Value} {t0 : Tok} {a b c e o : Expr} {ta tb tc te to : TE} {pos p p2 q0 apos : Pos} {es : List Expr} {t : TA} {x m : Str} {tg : Expr}
theorem stb_RS : Stb X (RS X x0 u0) := ⟨fun h h2 ⟨m, ⟨ob, es, ep, w, rest⟩, hm⟩ k => let ⟨sl, w2⟩ := k ob w; ⟨m, ⟨_, es, ep, w2, rest⟩, hm⟩⟩
theorem sto_RS (hx : x ≠ x0 := by decide) : StoOk X (RS X x0 u0) x := fun h h2 m u ⟨m1, w1, hm⟩ w w2 => ⟨_, w2, (if_neg (Ne.symm hx)).trans ((ns_one w w1 x0).trans hm)⟩
/-- a block behind which nothing of it is asked -/
def QZ (X : Cx) (x0 : Str) (u0 : Value) (t0 : Tok) (l : List Stmt) (t : TS) : Prop :=
  ∀ (pins : List (Addr × Obj)) (s : Shared) (σ : L2.St) (H : Hp) (D : Ends), Inv X pins σ H s → RS X x0 u0 s.heap → t0 < s.toks → t D σ H → Wz X (execs l X.env) (SP X pins D) s
theorem qz_cons {d : Stmt} {ds : List Stmt} {u1 u2 : TS} (h1 : SZ X (RS X x0 u0) d u1) (h2 : QZ X x0 u0 t0 ds u2) : QZ X x0 u0 t0 (d :: ds) (tSeq u1 u2) := fun pins s σ H D I z ht q =>
  wpAny_execs_cons (wpAny_mono (PySem.wpAny_toks (h1.run pins s σ H { D with nx := u2 D } I z q)) (fun f s1 ⟨hk, w⟩ => by
    cases f with
    | next =>
      obtain ⟨z1, σ1, H1, J, q1⟩ := w
      exact h2 pins s1 σ1 H1 D J z1 (Nat.lt_of_lt_of_le ht hk) q1
    | ret v => exact w.2
    | brk => exact w.2
    | cont => exact w.2) fun _ _ w => w.2)
def AQ (X : Cx) (x0 : Str) (u0 : Value) (t0 : Tok) (es : List Expr) (t : TA) : Prop :=
  ∀ (ps : Pos) (pins : List (Addr × Obj)) (s : Shared) (σ : L2.St) (H : Hp) (Q : List V → Hp → Prop), Inv X pins σ H s → RS X x0 u0 s.heap → t0 < s.toks → t σ H Q → Wz X (spliced (backTo ps (starEach es X.env))) (AP X pins σ Q) s
def EQ (X : Cx) (x0 : Str) (u0 : Value) (t0 : Tok) (e : Expr) (t : TE) : Prop :=
  ∀ (pins : List (Addr × Obj)) (s : Shared) (σ : L2.St) (H : Hp) (Q : VK), Inv X pins σ H s → RS X x0 u0 s.heap → t0 < s.toks → t σ H Q → Wz X (eval e X.env) (EP X pins σ Q) s
theorem aq_z (ha : EZ X (RS X x0 u0) e te) (hr : AQ X x0 u0 t0 es t) (hs : starEach (e :: es) X.env = (false, eval e X.env) :: starEach es X.env := by rfl) : AQ X x0 u0 t0 (e :: es) (tCons te t) := fun ps pins s σ H Q I z ht q => by
  rw [hs]
  refine Calls.spliced_cons (rest := backTo ps (starEach es X.env)) (wpAny_mono (PySem.wpAny_toks (ha.run pins s σ H _ I z q)) (fun v s1 ⟨hk, z1, y, H1, J, r1, q1⟩ => ?_) fun _ _ w => w.2)
  exact thn (hr ps pins s1 σ H1 _ J z1 (Nat.lt_of_lt_of_le ht hk) q1) fun us s2 ⟨ys, H2, J2, r2, q2⟩ => ⟨y :: ys, H2, J2, .cons r1 r2, q2⟩
theorem aq_q (ha : EQ X x0 u0 t0 e te) (hr : PA X es t) (hs : starEach (e :: es) X.env = (false, eval e X.env) :: starEach es X.env := by rfl) : AQ X x0 u0 t0 (e :: es) (tCons te t) := fun ps pins s σ H Q I z ht q => by
  rw [hs]
  refine Calls.spliced_cons (rest := backTo ps (starEach es X.env)) (thn (ha pins s σ H _ I z ht q) fun v s1 ⟨y, H1, J, r1, q1⟩ => ?_)
  exact thn (hr.run ps pins s1 σ H1 _ J q1) fun us s2 ⟨ys, H2, J2, r2, q2⟩ => ⟨y :: ys, H2, J2, .cons r1 r2, q2⟩
/-- o.replace(x0, "..") -/
def tRepl (i0 : Nat) (w : Str) (to : TE) : TE := fun σ H Q => to σ H fun y H1 => ∃ a b, y = .str a ∧ σ[i0]? = some (some (.str b)) ∧ (b == w) = false ∧ a.length + (a.length + 1) * w.length ≤ 16777216 ∧ Q (.str (Txt.replace a b w)) H1
theorem eq_repl {i0 i : Nat} {xo w : Str} {po : Pos} {j : Nat} {cp px : Pos} {bw : Str} (eu : u0 = .str bw t0) (ht0 : 0 < t0) (hN : X.N[i0]? = some x0) (hk0 : X.env.scope.names.lookup x0 = some .local) (hNo : X.N[i]? = some xo) (hvo : Vis X.env.scope xo)
    (hd0 : (x0 == ("__debug__" : Str)) = false := by decide) (hdo : (xo == ("__debug__" : Str)) = false := by decide) (hco : (xo == ("__classdict__" : Str)) = false := by decide)
    (hst : starEach [.Name x0 px, .Constant (.str w) j cp] X.env = [(false, eval (.Name x0 px) X.env), (false, eval (.Constant (.str w) j cp) X.env)] := by rfl)
    (hbase : attributeBase (.Name xo po) "replace" X.env (eval (.Name xo po) X.env) = eval (.Name xo po) X.env := by rfl) (hline : (apos.endLine == pos.line) = true := by rfl) :
    EQ X x0 u0 t0 (.Call (.Attribute (.Name xo po) "replace" apos) [.Name x0 px, .Constant (.str w) j cp] [] pos) (tRepl i0 w (tVar i)) := fun pins s σ H Q I z ht q => by
  obtain ⟨vo, ho, av, bv, ea, hb, hne, hlen, q⟩ := q
  subst ea
  obtain ⟨m, hm, hl⟩ := I.loc
  obtain ⟨m1, hm1, hx1⟩ := z
  have hmx : m x0 = some u0 := (ns_one hm hm1 x0).trans hx1
  have ebw : bw = bv := by
    obtain ⟨u2, ⟨t2, e2⟩, l2⟩ := hl i0 x0 _ hN hb (.inl hk0)
    rcases l2 with ⟨_, l2⟩ | ⟨l2, _⟩
    · rw [hmx, eu, e2] at l2
      cases l2
      rfl
    · rw [show X.env.kindOf x0 = some .local from hk0] at l2
      rcases l2 with l2 | l2 <;> cases l2
  refine PySem.Call_method2 hbase hst hline (raw_name hNo hvo I ho (fun v r => ?_) hdo hco)
  obtain ⟨ta, e1⟩ := r
  subst e1
  refine ⟨"str", _, F.plainAttrs_str, F.slot_str_replace, F.type_str_replace, typeIs_str _ _ _, (fun _ e => nomatch e), Calls.callWith_builtin rfl (Calls.evalArgs_plain (Calls.spliced_cons ?_))⟩
  refine wpAny_Name (wpAny_loadName_local I.ok.kind hk0 hm hmx ?_) hd0
  refine Calls.spliced_cons (Calls.Constant_str (Calls.spliced_nil ?_))
  subst eu ebw
  exact PySem.SC.replace (Nat.ne_of_gt ht0) (Nat.ne_of_gt (Nat.lt_of_le_of_lt (Nat.zero_le _) ht)) (Nat.ne_of_lt ht) hne hlen fun t' k => ⟨.str _, H, I.tok k, ⟨t', rfl⟩, q⟩
/-- for .. in [.., o.replace(..), ..] -/
theorem qz_for {tg : Expr} {body rest : List Stmt} {g : TG} {tB0 u2 : TS} {lp : Pos} (hp : PassesOwn (model X.prog X.w) X.A X.env X.xe) (hc : X.calm = true) (ha : AQ X x0 u0 t0 es t) (hg : PG X tg g) (hb : PSs X body tB0) (h2 : PSs X rest u2)
    (hs : ∀ x, foldedSetIterable (.List es lp) X.env x = pure x := by intro _; rfl) : QZ X x0 u0 t0 (.For tg (.List es lp) body [] pos :: rest) (tSeq (tFor (iList X.K (tLst t)) g tB0) u2) := fun pins s σ H D I z ht q => by
  have main : Wz X (exec (.For tg (.List es lp) body [] pos) X.env) (Zq (fun _ => True) (SP X pins { D with nx := u2 D })) s := by
    refine wpAny_For (wpAny_List_spliced (thn (ha lp pins s σ H _ I z ht q) fun us s1 ⟨ys, H1, J, r, hz, q1⟩ => ⟨by rw [← r.length]; exact hz, ?_⟩)) hs
    have hf : H1 s1.heap.objs.size = none := J.hok.fresh (Nat.le_refl _)
    obtain ⟨l, el, ⟨xs, hl⟩, q2⟩ := q1 _ hf
    cases el
    have J2 : Inv X pins σ (upd H1 s1.heap.objs.size (.lst ys)) { s1 with heap := s1.heap.push { cls := .type "list", data := .seq us.toArray 0 } } := J.laid (t' := s1.toks) (fun d ob w => Heap.get?_push_of_some _ w) (Nat.le_refl _) ⟨hz, us, 0, r, Heap.get?_push_size _ rfl⟩
    exact thn (pz_list (tg := tg) stb_T hc J2 trivial hl q2) fun v2 s2 w2 => loop_z hp (GZ1.of hg) (BZ.of hb) w2
  refine wpAny_execs_cons (thn main fun f s1 ⟨_, w⟩ => ?_)
  cases f with
  | next =>
    obtain ⟨σ1, H1, J, q1⟩ := w
    exact h2.run pins s1 σ1 H1 D J q1
  | ret v => exact w
  | brk => exact w
  | cont => exact w
/-- x0 = a[b], a sign of a text: from here on its token is known -/
theorem psst_tok {i : Nat} {rest : List Stmt} {u2 : TS} {bp : Pos} (hN : X.N.Nodup) (hi : X.N[i]? = some x0) (hk : X.env.scope.names.lookup x0 = some .local) (ha : PE X a ta) (hb : PE X b tb) (hix : PlainIx b) (h2 : ∀ bw t1, 0 < t1 → QZ X x0 (.str bw t1) t1 rest u2)
    (hs : swapsWith (.Subscript a b bp) (some (.Name x0 p)) pos.line X.env = pure false := by rfl) : PSsT X (.Assign [.Name x0 p] (.Subscript a b bp) pos :: rest) (tSeq (tAsg (tOp rIxS ta tb) (gName i)) u2) := by
  intro pins s σ H D h0 I q
  refine wpAny_execs_cons (wpAny_Assign_Name (Subscript_ ?_) hs)
  refine wpAny_mono (PySem.wpAny_toks (ha.run pins s σ H _ I q)) (fun v s1 ⟨k1, y, H1, J, r1, q1⟩ => ?_) fun _ _ w => w.2
  refine wpAny_mono (PySem.wpAny_toks (hb.run pins s1 σ H1 _ J q1)) (fun v2 s2 ⟨k2, y2, H2, J2, r2, z, j, cd, e1, e2, hz, hat, q2⟩ => ?_) fun _ _ w => w.2
  subst e1 e2
  obtain ⟨t1, rfl⟩ := r1
  obtain ⟨t2, rfl⟩ := r2
  obtain ⟨n, g1, g2, g3, g4, g5⟩ := atI_get hat
  have hl : z.cps.toList.length = z.length := by simp [Str.length]
  rw [hl] at g1 g4 g5
  have hn := line63
  have low : decide (j < -(2 ^ 63 : Int)) = false := decide_eq_false (by omega)
  have high : decide (j ≥ 2 ^ 63) = false := decide_eq_false (by omega)
  have pos0 : 0 < s2.toks := Nat.lt_of_lt_of_le h0 (Nat.le_trans k1 k2)
  refine tail_any (typeIs_str s2 z t1) slot_str_getitem.lookup (getItem_str (c := cd) (by rw [low, high]; rfl) (by rw [g1]; simpa using g2) ?_) (hix _ _)
  refine wpAny_mono (PySem.wpAny_toks (store_y (G := RS X x0 (.str ⟨#[cd]⟩ s2.toks)) (s := { s2 with toks := s2.toks + 1 }) (v := V.str ⟨#[cd]⟩) (u := .str ⟨#[cd]⟩ s2.toks) (Q := fun _ s3 => Inv X pins (σ.set i (some (V.str ⟨#[cd]⟩))) H2 s3 ∧ RS X x0 (.str ⟨#[cd]⟩ s2.toks) s3.heap)
    (fun h3 m _ w => ⟨_, w, if_pos rfl⟩) (J2.tok _) hN hi hk ⟨_, rfl⟩ fun s3 J3 z3 => ⟨J3, z3⟩)) (fun _ s3 ⟨k3, J3, z3⟩ => ?_) fun _ _ w => w.2
  exact h2 _ _ pos0 pins s3 _ H2 D J3 z3 (Nat.lt_of_lt_of_le (Nat.lt_succ_self _) k3) q2
end
end Gw

namespace Gw
open PySem PySem.Spec PyProof.Rows L2 Evl
section
variable {P : Program} {w : World} {K : PySem.W.Frag} {mg : Str → Option Value} {base : Heap}
/-! ### a word that is right -/
theorem sc_says : FnScope ["_law_said", "_law_due"] ["_law_said", "_law_due"] (defScope sLaw_says) := ⟨rfl, rfl, rfl, by decide +kernel, rfl, by decide +kernel, by decide +kernel⟩
def preSays : List V → Hp → V → Prop := fun vs H v => ∃ a b, vs = [.bl a, .bl b] ∧ v = .bl (decide (a = b))
theorem ok_says (X : T K mg) : C8.Cal P w K mg base 1 "_law_says" (spV preSays) [] := by
  refine cal_of X.d_law_says sc_says (fun _ _ _ _ _ _ us hl => match us, hl with | [_, _], _ => rfl) (fun vs H Q E h => ?_) (fun f cdv A outer s H vs Q E hr h => ?_)
  · obtain ⟨v, ⟨a, b, rfl, _⟩, _⟩ := h
    rfl
  · obtain ⟨v, ⟨a, b, rfl, rfl⟩, k⟩ := h
    refine ⟨_, pss_one (ps_ret (pe_and (pe_isi X.z_isinstance X.z_bool boot_bool (pv 0)) (pe_one (pe_cmpR op_eq (pv 0) (pv 1) (nomark _))))), ?_⟩
    refine s_ret (ev_is (ev_andV (a := true) (ev_isT (ev_var rfl) (.base (.bl a)) isi_bb) fun _ => ev_op (ev_var rfl) (ev_var rfl) (rv_eq rfl)) ?_) k
    simp
/-! ### how many letters a row has, grown so often, by counts -/
abbrev nLg : List Str := ["_law_rules_here", "_law_row_here", "_law_times", "_law_names", "_law_now", "_law_name", "_law_turn", "_law_k"]
theorem sc_llong : FnScope nLg ["_law_rules_here", "_law_row_here", "_law_times"] (defScope sLaw_long) := ⟨rfl, rfl, rfl, by decide +kernel, rfl, by decide +kernel, by decide +kernel⟩
abbrev tLgEl (K : PySem.W.Frag) : TE := tOp (rI CMul fun i j => .int (i * j)) (tOp (rIxL K) (tVar 4) (tVar 7)) (tCnt K (tOp (rIxL K) (tVar 0) (tVar 7)) (tVar 5))
abbrev tLgIn (K : PySem.W.Frag) : TE := tSum K (tLc (iRng1 (tCons (tLen K (tVar 0)) tNil)) (gName 7) tYes (tLgEl K) [7])
theorem ev_lgIn {σ : L2.St} {H : Hp} {q a : Addr} {R : GRules} {now : List Int} {k : Nat} (hR : RulesOk R) (hz : ∀ r ∈ R, r.length ≤ 100000) (hk : k < R.length) (h0 : σ[0]? = some (some (.ref a))) (h4 : σ[4]? = some (some (.ref q))) (h5 : σ[5]? = some (some (.str (sg k)))) (hl : 8 = σ.length)
    (ha : SqL K H a (RL R)) (hq : H q = some (.lst (now.map V.int))) (hn : now.length = R.length) : Ev (tLgIn K) σ H (.int (dot k now (toldOf R))) := by
  have tl : (toldOf R).length = R.length := List.length_map _
  rw [← dot_range k now (toldOf R) (by rw [hn, tl])]
  refine ev_sumN ?_
  rw [List.map_map, hn]
  match σ, hl, h0, h4, h5 with
  | [s0, s1, s2, s3, s4, s5, s6, s7], _, h0, h4, h5 =>
    refine el_rng (by have z := ev_len (K := K) (ta := tVar 0) (ev_var h0) ha; rw [RL_len] at z; exact ea_one z) _ (Nat.lt_of_le_of_lt hR.few (by decide)) (fun _ => rfl) fun j hj H1 e1 => ?_
    have e2 : (toldOf R).getD j [] = counted R.length (ruleOf R j) := by
      unfold toldOf
      rw [List.getD_eq_getElem?_getD, List.getElem?_map, rule_get hj]
      rfl
    have hs := told_small hz j k
    show Ev (tLgEl K) _ H1 (.int (now.getD j 0 * ((toldOf R).getD j []).getD k 0))
    rw [e2, counted_getD hk] at hs ⊢
    refine ev_mul (ev_ix (n := j) (ev_var h4) (sq_of (e1 _ _ hq)) (ev_var rfl) (int_get (by rw [hn]; exact hj))) (ev_count (ev_ix (n := j) (ev_var h0) (ex_l e1 ha) (ev_var rfl) (RL_at hj)) (ev_var h5)) (.inr hs)
def preLLong (K : PySem.W.Frag) : List V → Hp → V → Prop := fun vs H v => ∃ a R r, ∃ t : Nat, vs = [.ref a, .str (enc r), .int (t : Int)] ∧ RAt K H a R ∧ RowOk R.length r ∧ t ≤ 300 ∧ v = .int (gl R t r)
theorem ok_llong (X : T K mg) : C8.Cal P w K mg base 1 "_law_long" (spV (preLLong K)) [] := by
  refine cal_of X.d_law_long sc_llong (fun _ _ _ _ _ _ us hl => match us, hl with | [_, _, _], _ => rfl) (fun vs H Q E h => ?_) (fun f cdv A outer s H vs Q E hr h => ?_)
  · obtain ⟨v, ⟨a, R, r, t, rfl, _⟩, _⟩ := h
    rfl
  · obtain ⟨v, ⟨a, R, r, t, rfl, hR, hrow, ht, rfl⟩, k⟩ := h
    have nd := sc_llong.nd
    refine ⟨_, (pss_cons (ps_set (i := 3) nd rfl (Or.inl rfl) (pe_slice sl_str pe_alph po_none (po_some (pe_len X.z_len (pv 0)))))
      (pss_cons (ps_set (i := 4) nd rfl (Or.inr rfl) (pe_lc (own := [("_law_name", 5)]) (g := gName 5) (tt := tYes) (te := tCnt K (tVar 1) (tVar 5)) (by rfl) nd (pi_str (pv 3)) (blkOk_by (N := nLg) (sc := defScope sLaw_long) (by decide +kernel))
          (fun _ _ _ _ _ => pg_name (i := 5) nd rfl (Or.inl rfl)) (fun _ _ _ _ _ => pts_nil) (fun _ _ _ _ _ => pe_count (pv 1) (pv 5))))
      (pss_cons (ps_for PassesOwn.never rfl (pi_range1 rfl X.z_range (pa_cons (pv 2) pa_nil)) (pg_name (i := 6) nd rfl (Or.inl rfl))
        (pss_one (ps_set (i := 4) nd rfl (Or.inr rfl) (pe_lc (own := [("_law_name", 5)]) (g := gName 5) (tt := tYes) (te := tLgIn K) (by rfl) nd (pi_str (pv 3)) (blkOk_by (N := nLg) (sc := defScope sLaw_long) (by decide +kernel))
          (fun _ _ _ _ _ => pg_name (i := 5) nd rfl (Or.inr rfl)) (fun _ _ _ _ _ => pts_nil)
          (fun _ _ _ _ _ => pe_sum rfl X.z_sum (pe_lc (own := [("_law_k", 7)]) (g := gName 7) (tt := tYes) (te := tLgEl K) (by rfl) nd (pi_range1 (by exact rfl) X.z_range (pa_cons (pe_len X.z_len (pv 0)) pa_nil)) (blkOk_by (by rfl))
            (fun _ _ _ _ _ => pg_name (i := 7) nd rfl (Or.inl rfl)) (fun _ _ _ _ _ => pts_nil)
            (fun _ _ _ _ _ => pe_op op_mul (pe_ix ix_list (pv 4) (pv 7) (fun _ _ => rfl)) (pe_count (pe_ix ix_list (pv 0) (pv 7) (fun _ _ => rfl)) (pv 5)))))))))
      (pss_one (ps_ret (pe_sum rfl X.z_sum (pv 4))))))), ?_⟩
    have ok := hR.ok
    have h26 := ok.few
    have lenR : ∀ {σ : L2.St} {H' : Hp}, σ[0]? = some (some (.ref a)) → Ex H H' → Ev (tLen K (tVar 0)) σ H' (.int (R.length : Int)) := fun h e => ev_is (ev_len (ev_var h) (hR.ex e).at_) (by rw [RL_len])
    refine q_asg (v := .str (enc (List.range R.length))) (ev_alphCut ev_c (eo_some (lenR rfl (Ex.refl _))) h26) fun H1 e1 => ?_
    refine q_asgL (xs := (counted R.length r).map V.int) ?_ fun p H2 hp e2 h2 => ?_
    · unfold counted
      rw [List.map_map]
      exact el_str (K := K) (ev_var rfl) _ (by rw [List.length_range]; exact Nat.lt_of_le_of_lt h26 (by decide)) (fun _ => rfl) fun n hn H1 e1 => ev_count (ev_var rfl) (ev_var rfl)
    · have e12 := e1.trans e2
      refine q_forR1 (ea_one (ev_var rfl)) ⟨by omega, by omega⟩ (fun i σ' H' => ∃ q u, σ' = [some (.ref a), some (.str (enc r)), some (.int (t : Int)), some (.str (enc (List.range R.length))), some (.ref q), none, u, none] ∧ Ex H H' ∧ H' q = some (.lst ((gtimes (toldOf R) R.length i (counted R.length r)).map V.int)))
        (fun H3 e3 => ⟨p, none, rfl, e12.trans e3, e3 _ _ h2⟩) ?_ ?_
      · rintro i σ' H' hi ⟨q, u, rfl, eH, hq⟩
        refine s_asgL (xs := (gtimes (toldOf R) R.length (i + 1) (counted R.length r)).map V.int) ?_ fun q' H3 hq' e3 h3 => ⟨q', _, rfl, eH.trans e3, h3⟩
        rw [gtimes_succ]
        unfold gstep
        rw [List.map_map]
        refine el_str (K := K) (ev_var rfl) (fun k => V.int (dot k (gtimes (toldOf R) R.length i (counted R.length r)) (toldOf R))) (by rw [List.length_range]; exact Nat.lt_of_le_of_lt h26 (by decide)) (fun _ => rfl) fun n hn H3 e3 => ?_
        exact ev_lgIn ok hR.sz (List.mem_range.mp hn) rfl rfl rfl rfl (hR.ex (eH.trans e3)).at_ (e3 _ _ hq) (gtimes_length _ _ _ _ (counted_length _ _))
      · rintro σ' H' ⟨q, u, rfl, eH, hq⟩
        rw [Int.toNat_natCast] at hq
        have g : gtimes (toldOf R) R.length t (counted R.length r) = counted R.length (grow R t r) := gcs_counted ok t hrow
        rw [g] at hq
        exact s_ret (ev_is (ev_sum (ev_var rfl) (sq_of hq)) (congrArg V.int (counted_sum (grow_ok ok t hrow)))) fun H3 e3 => k H3 (eH.trans e3)
end
end Gw

namespace Gw
open PySem PySem.Spec PyProof.Rows L2 Evl
theorem cut_drop {l : GRow} {i : Int} (h : 0 ≤ i) : cutS (enc l) (some i) none = enc (l.drop i.toNat) := by
  rw [C8.cutS_slice]
  refine (SX.slice_from (a := cd l) h).trans ?_
  show SX.S _ = SX.S _
  unfold cd
  rw [List.map_drop]
theorem z_eq : Str.ofString "z" = enc [25] := by decide +kernel
theorem repl_row {n z : Nat} (h : n ≤ 26) (hz : z < n) : Txt.replace (enc (List.range n)) (sg z) (Str.ofString "") = enc ((List.range n).filter fun i => decide (i ≠ z)) := by
  have all : ∀ n, n < 27 → ∀ z, z < n → Txt.replace (enc (List.range n)) (sg z) (Str.ofString "") = enc ((List.range n).filter fun i => decide (i ≠ z)) := by decide +kernel
  exact all n (by omega) z hz
theorem sg_some (z : Nat) : (sg z == Str.ofString "") = false := by
  refine beq_eq_false_iff_ne.mpr fun e => ?_
  have := congrArg Str.length e
  have e2 : (Str.ofString "").length = 0 := by decide +kernel
  rw [e2] at this
  cases this
theorem ez_empty {X : Cx} {G : Heap → Prop} {j : Nat} {pos : Pos} : EZ X G (.Constant (.str (Str.ofString "")) j pos) (tC (.str (enc []))) := by
  rw [enc_nil]
  exact ez_str
section
variable {P : Program} {w : World} {K : PySem.W.Frag} {mg : Str → Option Value} {base : Heap}
theorem ev_min2 {σ : L2.St} {H : Hp} {ta tb : TE} {i j : Int} (ha : Ev ta σ H (.int i)) (hb : Ev tb σ H (.int j)) : Ev (tCB rMin2 (tCons ta (tCons tb tNil))) σ H (.int (if j < i then j else i)) := fun H1 e Q q =>
  ha H1 e _ fun H2 e2 => hb H2 (e.trans e2) _ fun H3 e3 => ⟨i, j, rfl, q H3 (e2.trans e3)⟩
theorem ev_cutTail {σ : L2.St} {H : Hp} {te : TE} {tl : TO} {l : GRow} {i : Int} (h : Ev te σ H (.str (enc l))) (h2 : EvO tl σ H (some i)) (hi : 0 ≤ i) (hz : l.length ≤ sizeLine) : Ev (tSl rSlS te tl tNoPart) σ H (.str (enc (l.drop i.toNat))) := fun H1 e Q q =>
  h H1 e _ fun H2 e2 => h2 H2 (e.trans e2) _ fun H3 e3 => ⟨enc l, rfl, by rw [enc_len]; exact hz, by rw [cut_drop hi]; exact q H3 (e2.trans e3)⟩
theorem ev_replx {σ : L2.St} {H : Hp} {to : TE} {i0 n z : Nat} (ho : Ev to σ H (.str (enc (List.range n)))) (h0 : σ[i0]? = some (some (.str (sg z)))) (h : n ≤ 26) (hz : z < n) : Ev (tRepl i0 (Str.ofString "") to) σ H (.str (enc ((List.range n).filter fun i => decide (i ≠ z)))) := fun H1 e Q q =>
  ho H1 e _ fun H2 e2 => ⟨enc (List.range n), sg z, rfl, h0, sg_some z, by
    have e0 : (Str.ofString "").length = 0 := by decide +kernel
    rw [e0, enc_len, List.length_range]
    omega, by rw [repl_row h hz]; exact q H2 e2⟩
abbrev nLr : List Str := ["_law_rules_here", "_law_cell", "_law_names", "_law_one", "_law_other", "_law_many", "_law_due", "_law_reached", "_law_turn", "_law_every", "_law_letters", "_law_sign"]
theorem sc_lr6 : FnScope nLr ["_law_rules_here", "_law_cell"] (defScope sLaw_letters_right) := ⟨rfl, rfl, rfl, by decide +kernel, rfl, by decide +kernel, by decide +kernel⟩
def preLR6 (K : PySem.W.Frag) : List V → Hp → V → Prop := fun vs H v => ∃ a R, ∃ c : Int, vs = [.ref a, .int c] ∧ RAt K H a R ∧ (∀ q ∈ R, q.length ≤ 100) ∧ v = .bl true
theorem ok_lr6 (X : T K mg) : C8.Cal P w K mg base 4 "_law_letters_right" (spV (preLR6 K)) [] := by
  refine cal_of X.d_law_letters_right sc_lr6 (fun _ _ _ _ _ _ us hl => match us, hl with | [_, _], _ => rfl) (fun vs H Q E h => ?_) (fun f cdv A outer s H vs Q E hr h => ?_)
  · obtain ⟨v, ⟨a, R, c, rfl, _⟩, _⟩ := h
    rfl
  · obtain ⟨v, ⟨a, R, c, rfl, hR, h100, rfl⟩, k⟩ := h
    have nd := sc_lr6.nd
    refine ⟨_, pss_str (i := 2) nd rfl (Or.inl rfl) (psst_cons (PST.of (ps_set (i := 3) nd rfl (Or.inl rfl) (pe_ix ix_str (pv 2) (pe_op op_mod (pe_op op_fdiv (pv 1) pe_int) (pe_len X.z_len (pv 0))) (fun _ _ => rfl))))
      (psst_tok (i := 4) nd rfl rfl (pv 2) (pe_op op_mod (pe_op op_fdiv (pv 1) pe_int) (pe_len X.z_len (pv 0))) (fun _ _ => rfl) fun bw t1 ht =>
      (qz_cons (sz_for PassesOwn.never (iz_list stb_RS rfl (ez_lst stb_RS (az_cons (ez_op oz_sub (ez_op oz_mod (ez_op oz_fdiv (zv 1) ez_int) (ez_op oz_add (ez_len X.z_len (zv 0)) ez_int)) ez_int) (az_cons ez_int (az_cons (ez_op oz_pow ez_int ez_int) az_nil))))) (gz_name (i := 5) sto_RS nd rfl rfl)
        (bz_cons (sz_set (i := 6) sto_RS nd rfl rfl (ez_and (ez_chain oz_le oz_le ez_int (zv 5) (ez_len X.z_len (zv 0))) (ez_one (ez_cmp oz_in (zv 4) (ez_c stb_RS (ok_kinds X) hr (by decide) (az_cons (zv 0) (az_cons (zv 3) (az_cons
            (ez_callB (cz_min2 stb_RS rfl) X.z_min (by decide +kernel) (az_cons (ez_callB (cz_max2 stb_RS rfl) X.z_max (by decide +kernel) (az_cons (zv 5) (az_cons ez_int az_nil))) (az_cons (ez_len X.z_len (zv 0)) az_nil))) az_nil)))) (by rfl)))))
        (bz_one (sz_if (WZ.tz (wz_or (tz_cmp oz_ne (ez_fld (ez_mk stb_RS (ok_timesI X) hr (by decide) (az_cons (zv 5) az_nil)) rfl) (zv 5) (nomark _)) (wz_or1 (tz_not (tz_val (ez_c stb_RS (ok_says X) hr (by decide) (az_cons
            (ez_mt stb_RS (ok_timesS X) hr (by decide) (ez_mk stb_RS (ok_timesI X) hr (by decide) (az_cons (zv 5) az_nil)) (az_cons (zv 0) (az_cons (zv 3) (az_cons (zv 4) az_nil)))) (az_cons (zv 6) az_nil)))))))) (bz_one (sz_ret ez_bl)) bz_nil))))
      (qz_cons (sz_set (i := 7) sto_RS nd rfl rfl (zv 3))
      (qz_cons (sz_for PassesOwn.never (iz_range1 stb_RS rfl X.z_range (az_cons (ez_len X.z_len (zv 0)) az_nil)) (gz_name (i := 8) sto_RS nd rfl rfl)
        (bz_one (sz_set (i := 7) sto_RS nd rfl rfl (ez_join ez_empty (ez_sortSet stb_RS X.z_sorted X.z_set (ez_op oz_cat (zv 7) (ez_c stb_RS (ok_lonce X) hr (by decide) (az_cons (zv 0) (az_cons (zv 7) az_nil)))))))))
      (qz_cons (sz_set (i := 9) sto_RS nd rfl rfl (ez_cutTo stb_RS (zv 2) (ez_len X.z_len (zv 0))))
      (qz_for PassesOwn.never rfl (aq_z (zv 7) (aq_z (ez_op oz_cat (ez_revS stb_RS (zv 7)) (zv 3)) (aq_q (eq_repl (i0 := 4) (i := 9) rfl ht rfl rfl rfl (Or.inl rfl)) (pa_cons (pv 3) (pa_cons (pe_slice sl_str (pv 7) (po_some pe_int) po_none) (pa_cons (pe_op op_add_str (pv 3) (pe_strV [25] z_eq)) (pa_cons pe_empty pa_nil)))))))
        (pg_name (i := 10) nd rfl (Or.inr rfl))
        (pss_cons (ps_set (i := 6) nd rfl (Or.inl rfl) (pe_and (pe_cmpR op_eq (pe_strip1 (pv 10) (pv 9)) pe_empty (nomark _)) (pe_and (pe_cmpR op_in_sign (pv 3) (pv 10) (by rfl)) (pe_one (pe_cmpR op_notC (pv 4) (pv 10) (by rfl))))))
      (pss_cons (ps_set (i := 6) nd rfl (Or.inl rfl) (pe_and (pv 6) (pe_one (pe_all rfl X.z_all (pe_lc (own := [("_law_sign", 11)]) (g := gName 11) (tt := tYes) (te := tOp rInC (tVar 11) (tVar 10)) (by rfl) nd (pi_str (C8.pe_c (ok_lonce X) hr (by decide) rfl (pa_cons (pv 0) (pa_cons (pv 10) pa_nil)))) (blkOk_by (N := nLr) (sc := defScope sLaw_letters_right) (by decide +kernel))
            (fun _ _ _ _ _ => pg_name (i := 11) nd rfl (Or.inl rfl)) (fun _ _ _ _ _ => pts_nil) (fun _ _ _ _ _ => pe_cmpR op_in_sign (pv 11) (pv 10) (by rfl)))))))
      (pss_one (ps_if (PW.pt (pw_or (pt_cmpR op_ne (pe_fld (C8.pe_mk (ok_shutI X) hr (by decide) rfl (pa_cons (pv 10) pa_nil)) rfl) (pv 10) (nomark _)) (pw_or1 (pt_not (pt_val (C8.pe_c (ok_says X) hr (by decide) rfl (pa_cons (C8.pe_mt (ok_shutS X) hr (by decide) (C8.pe_mk (ok_shutI X) hr (by decide) rfl (pa_cons (pv 10) pa_nil)) (pa_cons (pv 0) (pa_cons (pv 3) (pa_cons (pv 4) pa_nil)))) (pa_cons (pv 6) pa_nil)))))))) (pss_one (ps_ret pe_bl)) pss_nil))))
        (pss_one (ps_ret pe_bl))))))))), ?_⟩
    have ok := hR.ok
    have hn1 := ok.pos
    have h26 := ok.few
    have lenR : ∀ {σ : L2.St} {H' : Hp}, σ[0]? = some (some (.ref a)) → Ex H H' → Ev (tLen K (tVar 0)) σ H' (.int (R.length : Int)) := fun h e => ev_is (ev_len (ev_var h) (hR.ex e).at_) (by rw [RL_len])
    have hpos : (0 : Int) < (R.length : Int) := by omega
    obtain ⟨y, hy1, hy⟩ : ∃ y : Nat, c / 3 % (R.length : Int) = (y : Int) ∧ y < R.length := by
      have h0 : 0 ≤ c / 3 % (R.length : Int) := Int.emod_nonneg _ (by omega)
      have h2 : c / 3 % (R.length : Int) < (R.length : Int) := Int.emod_lt_of_pos _ hpos
      exact ⟨(c / 3 % (R.length : Int)).toNat, by omega, by omega⟩
    obtain ⟨z, hz1, hz⟩ : ∃ z : Nat, c / 7 % (R.length : Int) = (z : Int) ∧ z < R.length := by
      have h0 : 0 ≤ c / 7 % (R.length : Int) := Int.emod_nonneg _ (by omega)
      have h2 : c / 7 % (R.length : Int) < (R.length : Int) := Int.emod_lt_of_pos _ hpos
      exact ⟨(c / 7 % (R.length : Int)).toNat, by omega, by omega⟩
    refine q_asg (v := .str ALPH) (ev_is ev_c (by rw [alph_eq])) fun H1 e1 => ?_
    refine q_asg (v := .str (sg y)) (ev_alphAt (ev_var rfl) (ev_mod (ev_div (ev_var rfl) ev_c (by decide) (by decide)) (lenR rfl e1) hpos) hy1 (by omega)) fun H2 e2 => ?_
    refine q_asg (v := .str (sg z)) (ev_alphAt (ev_var rfl) (ev_mod (ev_div (ev_var rfl) ev_c (by decide) (by decide)) (lenR rfl (e1.trans e2)) hpos) hz1 (by omega)) fun H3 e3 => ?_
    have e13 := (e1.trans e2).trans e3
    -- counts of times by hand
    refine q_forNLn (xs := [V.int (c / 5 % ((R.length : Int) + 3) - 1), V.int 0, V.int (10 ^ 30)]) (el_lst (ea_three (ev_subI (ev_mod (ev_div (ev_var rfl) ev_c (by decide) (by decide)) (ev_addI (lenR rfl e13) ev_c) (by omega)) ev_c) ev_c (ev_op ev_c ev_c (rv_I ⟨by decide, by decide, by decide⟩))) (by show 3 ≤ 100000; decide))
      (fun p i σ' H' => ∃ u5 u6, σ' = [some (.ref a), some (.int c), some (.str ALPH), some (.str (sg y)), some (.str (sg z)), u5, u6, none, none, none, none, none] ∧ Ex H H' ∧ H' p = some (.lst [V.int (c / 5 % ((R.length : Int) + 3) - 1), V.int 0, V.int (10 ^ 30)]))
      (fun p H4 hp e4 h4 => ⟨none, none, rfl, e13.trans e4, h4⟩) (fun p i σ' H' _ ⟨_, _, _, _, h⟩ => sq_of h) ?_ ?_
    · rintro p i x σ' H' hx ⟨u5, u6, rfl, eH, hp⟩
      obtain ⟨m, rfl⟩ : ∃ m : Int, x = V.int m := by
        have := List.mem_of_getElem? hx
        simp only [List.mem_cons, List.not_mem_nil, or_false] at this
        rcases this with h | h | h <;> exact ⟨_, h⟩
      refine q_asg (v := .bl (timesB R m y z)) (ev_is (ev_andV (ev_chain ev_c (ev_var rfl) (fun _ => lenR rfl eH) rv_I0 fun _ => rv_I0) fun hb => ev_inKinds (t := m.toNat) (ev_var rfl) (ea_three (ev_var rfl) (ev_var rfl) (ev_is (ev_min2 (ev_max2 (ev_var rfl) ev_c) (lenR rfl eH)) ?_)) (hR.ex eH) h100 hy ?_) rfl) fun H5 e5 => ?_
      · simp only [Bool.and_eq_true, decide_eq_true_eq] at hb
        refine congrArg V.int ?_
        have h0 : ¬ (0 : Int) > m := by omega
        rw [if_neg h0, if_neg (by omega)]
        omega
      · simp only [Bool.and_eq_true, decide_eq_true_eq] at hb
        omega
      have e05 := eH.trans e5
      refine s_skip (et_is (et_or (et_test (ev_op (ev_fldN (ei_make (ev_var rfl)) X.o_Times.cl X.n_Times rfl) (ev_var rfl) rv_I0)) fun _ => et_not (et_B (ev_spV (v := .bl true) (ea_two (ev_methN (v := .bl (timesB R m y z)) (ei_make (ev_var rfl)) rfl (ea_three (ev_var rfl) (ev_var rfl) (ev_var rfl)) fun x1 dx H6 e6 hi => ⟨x1, dx, a, R, y, z, m, rfl, hi, hR.ex (e05.trans e6), hy, hz, rfl⟩) (ev_var rfl)) fun H6 e6 => ⟨_, _, rfl, by simp⟩))) (by simp)) fun H6 e6 => ?_
      exact ⟨_, _, rfl, e05.trans e6, (e5.trans e6) _ _ hp⟩
    · rintro p σ' H4 ⟨u5, u6, rfl, eH, _⟩
      refine q_asg (v := .str (sg y)) (ev_var rfl) fun H5 e5 => ?_
      have e05 := eH.trans e5
      -- letters that it comes to
      refine q_forR1 (ea_one (lenR rfl e05)) ⟨by omega, by omega⟩ (fun i σ' H' => ∃ m u, σ' = [some (.ref a), some (.int c), some (.str ALPH), some (.str (sg y)), some (.str (sg z)), u5, u6, some (.str (enc m)), u, none, none, none] ∧ Ex H H' ∧ RowOk R.length m ∧ m.length ≤ 26)
        (fun H6 e6 => ⟨[y], none, rfl, e05.trans e6, one_row hy, by show 1 ≤ 26; decide⟩) ?_ ?_
      · rintro i σ' H' hi ⟨m, u, rfl, eH, hm, hl⟩
        have oz : (once R m).length ≤ 2600 := Nat.le_trans (once_bound h100 m) (Nat.le_trans (Nat.mul_le_mul_right _ hl) (by decide))
        refine s_asgSet (l := m ++ once R m) ev_c (ev_addS (ev_var rfl) (ev_spV (ea_two (ev_var rfl) (ev_var rfl)) fun H7 e7 => ⟨a, R, m, rfl, (hR.ex (eH.trans e7)).at_, h26, hm, Nat.lt_of_le_of_lt hl (by decide), Nat.le_trans oz (by decide), rfl⟩) (by rw [sizeLine_eq]; omega)) ((hm.append (once_ok ok m)).of_mono h26) (by rw [List.length_append]; omega) fun m' H7 e7 hm' hl' => ⟨m', _, rfl, eH.trans e7, fun j hj => ?_, hl'⟩
        exact (hm.append (once_ok ok m)) j ((hm' j).mp hj)
      · rintro σ' H6 ⟨m, u, rfl, e06, hm, hl⟩
        refine q_asg (v := .str (enc (List.range R.length))) (ev_alphCut (ev_var rfl) (eo_some (lenR rfl e06)) h26) fun H7 e7 => ?_
        have e07 := e06.trans e7
        have hls : ∀ l ∈ ([m, m.reverse ++ [y], (List.range R.length).filter fun i => decide (i ≠ z), [y], m.drop 1, [y] ++ [25], []] : List GRow), l.length ≤ 60 ∧ RowOk 26 l := by
          have h2 := hm.of_mono h26
          intro l hl2
          simp only [List.mem_cons, List.not_mem_nil, or_false] at hl2
          rcases hl2 with rfl | rfl | rfl | rfl | rfl | rfl | rfl
          · exact ⟨by omega, h2⟩
          · refine ⟨by simp; omega, fun n hn => ?_⟩
            rcases List.mem_append.mp hn with hn | hn
            · exact h2 n (List.mem_reverse.mp hn)
            · rw [List.mem_singleton.mp hn]
              omega
          · refine ⟨Nat.le_trans (List.length_filter_le _ _) (by rw [List.length_range]; omega), fun n hn => ?_⟩
            have := List.mem_range.mp (List.mem_filter.mp hn).1
            omega
          · exact ⟨by show 1 ≤ 60; decide, one_row (by omega)⟩
          · exact ⟨by rw [List.length_drop]; omega, fun n hn => h2 n (List.mem_of_mem_drop hn)⟩
          · refine ⟨by show 2 ≤ 60; decide, fun n hn => ?_⟩
            simp only [List.mem_append, List.mem_cons, List.not_mem_nil, or_false] at hn
            omega
          · exact ⟨by show 0 ≤ 60; decide, fun n hn => absurd hn (by simp)⟩
        refine q_forNLn (xs := ([m, m.reverse ++ [y], (List.range R.length).filter fun i => decide (i ≠ z), [y], m.drop 1, [y] ++ [25], []] : List GRow).map fun l => V.str (enc l)) (el_lst (ea_cons (ev_var rfl) (ea_cons (ev_addS (m := [y]) (ev_revS (ev_var rfl) (by rw [sizeLine_eq]; omega)) (ev_var rfl) (by rw [sizeLine_eq, List.length_reverse]; show m.length + 1 ≤ 16777216; omega)) (ea_cons (ev_replx (ev_var rfl) rfl h26 hz) (ea_cons (ev_var rfl) (ea_cons (ev_cutTail (i := 1) (ev_var rfl) (eo_some ev_c) (by decide) (by rw [sizeLine_eq]; omega))
            (ea_cons (ev_addS (l := [y]) (m := [25]) (ev_var rfl) ev_c (by rw [sizeLine_eq]; show 1 + 1 ≤ 16777216; decide)) (ea_one ev_c))))))) (by show 7 ≤ 100000; decide))
          (fun p i σ' H' => ∃ u6 u10, σ' = [some (.ref a), some (.int c), some (.str ALPH), some (.str (sg y)), some (.str (sg z)), u5, u6, some (.str (enc m)), u, some (.str (enc (List.range R.length))), u10, none] ∧ Ex H H' ∧ H' p = some (.lst (([m, m.reverse ++ [y], (List.range R.length).filter fun i => decide (i ≠ z), [y], m.drop 1, [y] ++ [25], []] : List GRow).map fun l => V.str (enc l))))
          (fun p H8 hp e8 h8 => ⟨_, _, rfl, e07.trans e8, h8⟩) (fun p i σ' H' _ ⟨_, _, _, _, h⟩ => sq_of h) ?_ ?_
        · rintro p i x σ' H' hx ⟨u6, u10, rfl, eH, hp⟩
          obtain ⟨l, hl, rfl⟩ := List.mem_map.mp (List.mem_of_getElem? hx)
          obtain ⟨h60, hrow⟩ := hls l hl
          have hst : decide (V.str (Txt.stripChars (enc l) (enc (List.range R.length))) = V.str (enc [])) = isLet R.length (enc l) := by
            rw [enc_nil]
            exact strip_eq R.length (enc l)
          refine q_asg (v := .bl (isLet R.length (enc l) && (decide (y ∈ l) && !decide (z ∈ l)))) (ev_andV (ev_is (ev_op (ev_strip (ev_var rfl) (ev_var rfl) (by rw [enc_len, sizeLine_eq]; omega)) ev_c (rv_eq rfl)) (congrArg V.bl hst)) fun _ => ev_andV (ev_inC (ev_var rfl) (ev_var rfl)) fun _ => ev_notC (ev_var rfl) (ev_var rfl)) fun H8 e8 => ?_
          have e08 := eH.trans e8
          refine q_asg (v := .bl (shutB R l y z)) (ev_is (ev_andV (b := ((once R l).map fun m => decide (m ∈ l)).all id) (ev_var rfl) fun hb => ev_allN ?_) ?_) fun H9 e9 => ?_
          · simp only [Bool.and_eq_true] at hb
            have hrw : RowOk R.length l := isLet_iff.mp hb.1
            have oz : (once R l).length ≤ 6000 := Nat.le_trans (once_bound h100 l) (Nat.le_trans (Nat.mul_le_mul_right _ h60) (by decide))
            rw [List.map_map]
            refine el_str (K := K) (l := once R l) (ev_spV (ea_two (ev_var rfl) (ev_var rfl)) fun H9 e9 => ⟨a, R, l, rfl, (hR.ex (e08.trans e9)).at_, h26, hrw, Nat.lt_of_le_of_lt h60 (by decide), Nat.le_trans oz (by decide), rfl⟩) _ (Nat.lt_of_le_of_lt oz (by decide)) (fun _ => rfl) fun n hn H9 e9 => ?_
            exact ev_inC (ev_var rfl) (ev_var rfl)
          · unfold shutB
            rw [List.all_map, ← Bool.and_assoc]
            rfl
          have e09 := e08.trans e9
          refine s_skip (et_is (et_or (et_test (ev_op (ev_fldN (ei_make (ev_var rfl)) X.o_Shut.cl X.n_Shut rfl) (ev_var rfl) (rv_ne rfl))) fun _ => et_not (et_B (ev_spV (v := .bl true) (ea_two (ev_methN (v := .bl (shutB R l y z)) (ei_make (ev_var rfl)) rfl (ea_three (ev_var rfl) (ev_var rfl) (ev_var rfl)) fun x1 dx H6 e6 hi => ⟨x1, dx, a, R, l, y, z, rfl, hi, hR.ex (e09.trans e6), Nat.le_trans h60 (by decide), rfl⟩) (ev_var rfl)) fun H6 e6 => ⟨_, _, rfl, by simp⟩))) (by simp)) fun H10 e10 => ?_
          exact ⟨_, _, rfl, e09.trans e10, ((e8.trans e9).trans e10) _ _ hp⟩
        · rintro p σ' H' ⟨u6, u10, rfl, eH, hp⟩
          exact s_ret ev_c fun H9 e9 => k H9 (eH.trans e9)
end
end Gw

namespace Gw
open PySem PySem.Spec PyProof.Rows L2 Evl
theorem a_eq : Str.ofString "a" = enc [0] := by decide +kernel
theorem b_eq : Str.ofString "b" = enc [1] := by decide +kernel
theorem ab_eq : Str.ofString "ab" = enc [0, 1] := by decide +kernel
theorem aa_eq : Str.ofString "aa" = enc [0, 0] := by decide +kernel
theorem shut_told : shutB [[0, 0], [1]] [0] 0 1 = true := by decide +kernel
theorem times_told : timesB [[0, 1], []] 1 0 1 = true := by decide +kernel
section
variable {P : Program} {w : World} {K : PySem.W.Frag} {mg : Str → Option Value} {base : Heap}
theorem ev_methNL {σ : L2.St} {H : Hp} {C : Addr} {m : Str} {te tl tb tc : TE} {v x y : V} {xs : List V} {fs : List (Str × V)} {E : XK} {pre : List V → Hp → V → Prop} (h : EvI te σ H C fs) (hf : fs.lookup m = none) (hl : EvL tl σ H xs) (hb : Ev tb σ H x) (hc : Ev tc σ H y)
    (hp : ∀ a dx p H1, H1 a = some (.ins C dx fs) → H1 p = some (.lst xs) → pre [.ref a, .ref p, x, y] H1 v) : Ev (tMeth C m (spV pre) [] E te (tCons tl (tCons tb (tCons tc tNil)))) σ H v := fun H1 e Q q =>
  h H1 e _ fun a dx H2 _ e2 h2 => ⟨a, dx, fs, rfl, h2, hf, hl H2 (e.trans e2) _ fun p H3 _ e3 h3 => ea_two hb hc H3 ((e.trans e2).trans e3) _ fun H4 e4 => ⟨v, hp a dx p H4 ((e3.trans e4) _ _ h2) (e4 _ _ h3), fun H5 e5 => q H5 (((e2.trans e3).trans e4).trans e5)⟩⟩
/-! ### rows by hand -/
abbrev nRr : List Str := ["_law_rules_here", "_law_script", "_law_cell", "_law_one", "_law_other", "_law_lasts", "_law_many", "_law_due", "_law_times"]
theorem sc_rr6 : FnScope nRr ["_law_rules_here", "_law_script", "_law_cell"] (defScope sLaw_rows_right) := ⟨rfl, rfl, rfl, by decide +kernel, rfl, by decide +kernel, by decide +kernel⟩
def preRR6 (K : PySem.W.Frag) : List V → Hp → V → Prop := fun vs H v => ∃ a b R, ∃ ns : List Int, ∃ c : Int, vs = [.ref a, .ref b, .int c] ∧ RAt K H a R ∧ SqL K H b (ns.map V.int) ∧ v = .bl true
abbrev tLgC (K : PySem.W.Frag) (ta tb tc : TE) : TE := tCall (spV (preLLong K)) [] E0 (tCons ta (tCons tb (tCons tc tNil)))
theorem ev_lgC {σ : L2.St} {H : Hp} {ta tb tc : TE} {a : Addr} {R : GRules} {r : GRow} {t : Nat} (h1 : Ev ta σ H (.ref a)) (h2 : Ev tb σ H (.str (enc r))) (h3 : Ev tc σ H (.int (t : Int))) (hR : RAt K H a R) (hr : RowOk R.length r) (ht : t ≤ 300) : Ev (tLgC K ta tb tc) σ H (.int (gl R t r)) :=
  ev_spV (ea_three h1 h2 h3) fun H1 e1 => ⟨a, R, r, t, rfl, hR.ex e1, hr, ht, rfl⟩
theorem ok_rr6 (X : T K mg) : C8.Cal P w K mg base 3 "_law_rows_right" (spV (preRR6 K)) [] := by
  refine cal_of X.d_law_rows_right sc_rr6 (fun _ _ _ _ _ _ us hl => match us, hl with | [_, _, _], _ => rfl) (fun vs H Q E h => ?_) (fun f cdv A outer s H vs Q E hr h => ?_)
  · obtain ⟨v, ⟨a, b, R, ns, c, rfl, _⟩, _⟩ := h
    rfl
  · obtain ⟨v, ⟨a, b, R, ns, c, rfl, hR, hS, rfl⟩, k⟩ := h
    have nd := sc_rr6.nd
    refine ⟨_, (pss_cons (ps_set (i := 3) nd rfl (Or.inr rfl) (C8.pe_c (ok_lrow X) hr (by decide) rfl (pa_cons (pv 0) (pa_cons (pv 1) pa_nil))))
      (pss_cons (ps_set (i := 4) nd rfl (Or.inr rfl) (pe_op op_add_str (pe_slice sl_str (pv 3) (po_some pe_int) po_none) (pe_ix ix_str pe_alph (pe_op op_mod (pe_op op_fdiv (pv 2) pe_int) (pe_len X.z_len (pv 0))) (fun _ _ => rfl))))
      (pss_cons (ps_set (i := 5) nd rfl (Or.inl rfl) (pe_callB (call_min2 rfl) (by exact rfl) X.z_min (by decide +kernel) (pa_cons (pe_len X.z_len (pv 0)) (pa_cons pe_int pa_nil))))
      (pss_cons (ps_for PassesOwn.never rfl (pi_list (pe_lst (pa_cons (pe_op op_sub (pe_op op_mod (pe_op op_fdiv (pv 2) pe_int) (pe_op op_add (pv 5) pe_int)) pe_int) (pa_cons (pe_op op_pow pe_int pe_int) (pa_cons (pe_un un_neg pe_int) pa_nil))))) (pg_name (i := 6) nd rfl (Or.inl rfl))
        (pss_cons (ps_set (i := 7) nd rfl (Or.inl rfl) (pe_chain op_le op_lt pe_int (pv 6) (pe_len X.z_len (pv 0))))
      (pss_cons (ps_if (pt_val (pv 7)) (pss_one (ps_set (i := 7) nd rfl (Or.inl rfl) (pe_cmpR op_ne (C8.pe_c (ok_llong X) hr (by decide) rfl (pa_cons (pv 0) (pa_cons (pv 3) (pa_cons (pv 6) pa_nil)))) (C8.pe_c (ok_llong X) hr (by decide) rfl (pa_cons (pv 0) (pa_cons (pv 4) (pa_cons (pv 6) pa_nil)))) (nomark _)))) pss_nil)
      (pss_one (ps_if (PW.pt (pw_or (pt_cmpR op_ne (pe_fld (C8.pe_mk (ok_apartI X) hr (by decide) rfl (pa_cons (pv 6) pa_nil)) rfl) (pv 6) (nomark _)) (pw_or1 (pt_not (pt_val (C8.pe_c (ok_says X) hr (by decide) rfl (pa_cons (C8.pe_mt (ok_apartS X) hr (by decide) (C8.pe_mk (ok_apartI X) hr (by decide) rfl (pa_cons (pv 6) pa_nil)) (pa_cons (pv 0) (pa_cons (pv 3) (pa_cons (pv 4) pa_nil)))) (pa_cons (pv 7) pa_nil)))))))) (pss_one (ps_ret pe_bl)) pss_nil)))))
      (pss_cons (ps_set (i := 7) nd rfl (Or.inl rfl) (pe_all rfl X.z_all (pe_lc (own := [("_law_times", 8)]) (g := gName 8) (tt := tYes) (te := tOp rEq (tLgC K (tVar 0) (tVar 3) (tVar 8)) (tLgC K (tVar 0) (tVar 4) (tVar 8))) (by rfl) nd (pi_range1 rfl X.z_range (pa_cons (pe_len X.z_len (pv 0)) pa_nil)) (blkOk_by (N := nRr) (sc := defScope sLaw_rows_right) (by decide +kernel))
          (fun _ _ _ _ _ => pg_name (i := 8) nd rfl (Or.inl rfl)) (fun _ _ _ _ _ => pts_nil)
          (fun _ _ _ _ _ => pe_cmpR op_eq (C8.pe_c (ok_llong X) hr (by decide) rfl (pa_cons (pv 0) (pa_cons (pv 3) (pa_cons (pv 8) pa_nil)))) (C8.pe_c (ok_llong X) hr (by decide) rfl (pa_cons (pv 0) (pa_cons (pv 4) (pa_cons (pv 8) pa_nil)))) (nomark _)))))
      (pss_one (ps_ret (C8.pe_c (ok_says X) hr (by decide) rfl (pa_cons (C8.pe_mt (ok_alikeS X) hr (by decide) (pe_make00 X.b_Alike rfl X.g_Alike) (pa_cons (pv 0) (pa_cons (pv 3) (pa_cons (pv 4) pa_nil)))) (pa_cons (pv 7) pa_nil)))))))))), ?_⟩
    have ok := hR.ok
    have hn1 := ok.pos
    have h26 := ok.few
    have hpos : (0 : Int) < (R.length : Int) := by omega
    have lenR : ∀ {σ : L2.St} {H' : Hp}, σ[0]? = some (some (.ref a)) → Ex H H' → Ev (tLen K (tVar 0)) σ H' (.int (R.length : Int)) := fun h e => ev_is (ev_len (ev_var h) (hR.ex e).at_) (by rw [RL_len])
    refine s_asgRow (ev_var rfl) (ev_var rfl) hR.at_ (by rw [RL_len]; exact hn1) (by rw [RL_len]; exact h26) hS fun r H1 e1 hr1 hr5 => ?_
    rw [RL_len] at hr1
    obtain ⟨z, hz1, hz⟩ : ∃ z : Nat, c / 3 % (R.length : Int) = (z : Int) ∧ z < R.length := by
      have h0 : 0 ≤ c / 3 % (R.length : Int) := Int.emod_nonneg _ (by omega)
      have h2 : c / 3 % (R.length : Int) < (R.length : Int) := Int.emod_lt_of_pos _ hpos
      exact ⟨(c / 3 % (R.length : Int)).toNat, by omega, by omega⟩
    have hdl : (r.drop 1).length ≤ 5 := by rw [List.length_drop]; omega
    refine q_asg (v := .str (enc (r.drop 1 ++ [z]))) (ev_addS (m := [z]) (ev_cutTail (i := 1) (ev_var rfl) (eo_some ev_c) (by decide) (by rw [sizeLine_eq]; omega)) (ev_alphAt ev_c (ev_mod (ev_div (ev_var rfl) ev_c (by decide) (by decide)) (lenR rfl e1) hpos) hz1 (by omega)) (by rw [sizeLine_eq]; show (r.drop 1).length + 1 ≤ 16777216; omega)) fun H2 e2 => ?_
    have hs1 : RowOk R.length (r.drop 1 ++ [z]) := fun n hn => by
      rcases List.mem_append.mp hn with hn | hn
      · exact hr1 n (List.mem_of_mem_drop hn)
      · rw [List.mem_singleton.mp hn]
        exact hz
    have hs6 : (r.drop 1 ++ [z]).length ≤ 6 := by rw [List.length_append]; show (r.drop 1).length + 1 ≤ 6; omega
    generalize r.drop 1 ++ [z] = s at hs1 hs6 ⊢
    have e12 := e1.trans e2
    have two : ∀ {H'}, Ex H H' → Two K H' a R r s := fun e => ⟨hR.ex e, hr1, Nat.lt_of_le_of_lt hr5 (by decide), hs1, Nat.lt_of_le_of_lt hs6 (by decide)⟩
    refine q_asg (v := .int (if (5 : Int) < (R.length : Int) then 5 else (R.length : Int))) (ev_min2 (lenR rfl e12) ev_c) fun H3 e3 => ?_
    have hL0 : (0 : Int) < (if (5 : Int) < (R.length : Int) then 5 else (R.length : Int)) + 2 := by split <;> omega
    generalize (if (5 : Int) < (R.length : Int) then (5 : Int) else (R.length : Int)) = lasts at hL0 ⊢
    have e13 := e12.trans e3
    refine q_forNLn (xs := [V.int (c / 5 % (lasts + 2) - 1), V.int (10 ^ 20), V.int (-3)]) (el_lst (ea_three (ev_subI (ev_mod (ev_div (ev_var rfl) ev_c (by decide) (by decide)) (ev_addI (ev_var rfl) ev_c) hL0) ev_c) (ev_op ev_c ev_c (rv_I ⟨by decide, by decide, by decide⟩)) (ev_un ev_c ru_neg)) (by show 3 ≤ 100000; decide))
      (fun p i σ' H' => ∃ u6 u7, σ' = [some (.ref a), some (.ref b), some (.int c), some (.str (enc r)), some (.str (enc s)), some (.int lasts), u6, u7, none] ∧ Ex H H' ∧ H' p = some (.lst [V.int (c / 5 % (lasts + 2) - 1), V.int (10 ^ 20), V.int (-3)]))
      (fun p H4 hp e4 h4 => ⟨none, none, rfl, e13.trans e4, h4⟩) (fun p i σ' H' _ ⟨_, _, _, _, h⟩ => sq_of h) ?_ ?_
    · rintro p i x σ' H' hx ⟨u6, u7, rfl, eH, hp⟩
      obtain ⟨m, rfl⟩ : ∃ m : Int, x = V.int m := by
        have := List.mem_of_getElem? hx
        simp only [List.mem_cons, List.not_mem_nil, or_false] at this
        rcases this with h | h | h <;> exact ⟨_, h⟩
      refine q_asg (v := .bl (decide (0 ≤ m) && decide (m < (R.length : Int)))) (ev_chain ev_c (ev_var rfl) (fun _ => lenR rfl eH) rv_I0 fun _ => rv_I0) fun H5 e5 => ?_
      have e05 := eH.trans e5
      refine q_ifAsg (v := .bl (apartB R m r s)) (et_B (ev_var rfl)) (fun hb => ?_) (fun hb => ?_) fun H6 e6 => ?_
      · have hb2 := hb
        simp only [Bool.and_eq_true, decide_eq_true_eq] at hb2
        have em : V.int m = V.int ((m.toNat : Nat) : Int) := congrArg V.int (by omega)
        refine ev_is (ev_op (ev_lgC (t := m.toNat) (ev_var rfl) (ev_var rfl) (ev_is (ev_var rfl) em) (hR.ex e05) hr1 (by omega)) (ev_lgC (t := m.toNat) (ev_var rfl) (ev_var rfl) (ev_is (ev_var rfl) em) (hR.ex e05) hs1 (by omega)) (rv_ne rfl)) ?_
        unfold apartB
        rw [hb]
        simp
      · have : apartB R m r s = (decide (0 ≤ m) && decide (m < (R.length : Int))) := by
          unfold apartB
          rw [hb]
          rfl
        rw [this]
        rfl
      have e06 := e05.trans e6
      refine s_skip (et_is (et_or (et_test (ev_op (ev_fldN (ei_make (ev_var rfl)) X.o_Apart.cl X.n_Apart rfl) (ev_var rfl) (rv_ne rfl))) fun _ => et_not (et_B (ev_spV (v := .bl true) (ea_two (ev_methN (v := .bl (apartB R m r s)) (ei_make (ev_var rfl)) rfl (ea_three (ev_var rfl) (ev_var rfl) (ev_var rfl)) fun x1 dx H7 e7 hi => ⟨x1, dx, a, R, r, s, m, rfl, hi, two (e06.trans e7), rfl⟩) (ev_var rfl)) fun H7 e7 => ⟨_, _, rfl, by simp⟩))) (by simp)) fun H7 e7 => ?_
      exact ⟨_, _, rfl, e06.trans e7, ((e5.trans e6).trans e7) _ _ hp⟩
    · rintro p σ' H4 ⟨u6, u7, rfl, eH, _⟩
      have hL : EvL (tLc (iRng1 (tCons (tLen K (tVar 0)) tNil)) (gName 8) tYes (tOp rEq (tLgC K (tVar 0) (tVar 3) (tVar 8)) (tLgC K (tVar 0) (tVar 4) (tVar 8))) [8]) ([some (.ref a), some (.ref b), some (.int c), some (.str (enc r)), some (.str (enc s)), some (.int lasts), u6, u7, none] : L2.St) H4 (((List.range R.length).map fun t => decide (gl R t r = gl R t s)).map V.bl) := by
        rw [List.map_map]
        refine el_rng (ea_one (lenR rfl eH)) _ (Nat.lt_of_le_of_lt h26 (by decide)) (fun _ => rfl) fun j hj H5 e5 => ?_
        refine ev_is (ev_op (ev_lgC (ev_var rfl) (ev_var rfl) (ev_var rfl) (hR.ex (eH.trans e5)) hr1 (by omega)) (ev_lgC (ev_var rfl) (ev_var rfl) (ev_var rfl) (hR.ex (eH.trans e5)) hs1 (by omega)) (rv_eq rfl)) ?_
        simp
      refine q_asg (v := .bl (alikeB R r s)) (ev_is (ev_allN hL) (by rw [List.all_map]; rfl)) fun H5 e5 => ?_
      have e05 := eH.trans e5
      exact s_ret (v := .bl true) (ev_spV (ea_two (ev_methN (v := .bl (alikeB R r s)) ei_make0 rfl (ea_three (ev_var rfl) (ev_var rfl) (ev_var rfl)) fun x1 dx H6 e6 hi => ⟨x1, a, R, r, s, rfl, two (e05.trans e6), rfl⟩) (ev_var rfl)) fun H6 e6 => ⟨_, _, rfl, by simp⟩) fun H6 e6 => k H6 (e05.trans e6)
/-! ### the law -/
abbrev nLaw : List Str := ["_law_script", "_law_rules_here", "_law_cell", "_law_one"]
theorem sc_law : FnScope nLaw ["_law_script"] (defScope sLaw) := ⟨rfl, rfl, rfl, by decide +kernel, rfl, by decide +kernel, by decide +kernel⟩
def spLaw (K : PySem.W.Frag) : Sp := fun vs H Q _ => ∃ a, ∃ ns : List Int, vs = [.ref a] ∧ SqL K H a (ns.map V.int) ∧ ns.length ≤ 63 ∧ ∀ H', Q (.bl true) H'
theorem two_rules {H : Hp} {p : Addr} {q1 q2 : GRow} (h : H p = some (.lst [V.str (enc q1), V.str (enc q2)])) (h1 : RowOk 2 q1) (h2 : RowOk 2 q2) (l1 : q1.length ≤ 2) (l2 : q2.length ≤ 2) : RAt K H p [q1, q2] := by
  refine ⟨sq_of h, ⟨by show 1 ≤ 2; decide, by show 2 ≤ 26; decide, fun r hr => ?_⟩, fun r hr => ?_⟩
  · simp only [List.mem_cons, List.not_mem_nil, or_false] at hr
    rcases hr with rfl | rfl
    · exact h1
    · exact h2
  · simp only [List.mem_cons, List.not_mem_nil, or_false] at hr
    rcases hr with rfl | rfl <;> omega
theorem ok_law (X : T K mg) {f : Addr} {fd : FuncData} (F : FunD K "law" "law" (defArgs sLaw) (defBody sLaw) (defScope sLaw) [] [] f fd) : FnOk P w K mg base CX0 5 f fd ["_law_script"] (spLaw K) := by
  refine fn_ok F sc_law (fun vs H Q E h => ?_) (fun cdv A outer s H vs Q E hr h => ?_)
  · obtain ⟨a, ns, rfl, _⟩ := h
    rfl
  · obtain ⟨sa, ns, rfl, hS, hns, k⟩ := h
    have nd := sc_law.nd
    refine ⟨_, (pss_cons (ps_set (i := 1) nd rfl (Or.inl rfl) (C8.pe_c (ok_lr X) hr (by decide) rfl (pa_cons (pv 0) pa_nil)))
      (pss_cons (ps_for PassesOwn.never rfl (pi_list (pe_op op_cat (pe_slice sl_list (pv 0) po_none (po_some pe_int)) (pe_stepL (pv 0) (by decide)))) (pg_name (i := 2) nd rfl (Or.inl rfl))
        (pss_one (ps_if (PW.pt (pw_or (pt_not (pt_val (C8.pe_c (ok_lr6 X) hr (by decide) rfl (pa_cons (pv 1) (pa_cons (pv 2) pa_nil))))) (pw_or1 (pt_not (pt_val (C8.pe_c (ok_rr6 X) hr (by decide) rfl (pa_cons (pv 1) (pa_cons (pv 0) (pa_cons (pv 2) pa_nil))))))))) (pss_one (ps_ret pe_bl)) pss_nil)))
      (pss_cons (ps_set (i := 3) nd rfl (Or.inl rfl) (C8.pe_mt (ok_shutS X) hr (by decide) (C8.pe_mk (ok_shutI X) hr (by decide) rfl (pa_cons (pe_strV [0] a_eq) pa_nil)) (pa_cons (pe_lst (pa_cons (pe_strV [0, 0] aa_eq) (pa_cons (pe_strV [1] b_eq) pa_nil))) (pa_cons (pe_strV [0] a_eq) (pa_cons (pe_strV [1] b_eq) pa_nil)))))
      (pss_one (ps_ret (pe_and (C8.pe_c (ok_says X) hr (by decide) rfl (pa_cons (pv 3) (pa_cons pe_bl pa_nil))) (pe_one (C8.pe_c (ok_says X) hr (by decide) rfl (pa_cons (C8.pe_mt (ok_timesS X) hr (by decide) (C8.pe_mk (ok_timesI X) hr (by decide) rfl (pa_cons pe_int pa_nil)) (pa_cons (pe_lst (pa_cons (pe_strV [0, 1] ab_eq) (pa_cons pe_empty pa_nil))) (pa_cons (pe_strV [0] a_eq) (pa_cons (pe_strV [1] b_eq) pa_nil)))) (pa_cons pe_bl pa_nil)))))))))), ?_⟩
    refine s_asgX (ex_lr (ev_var rfl) hS hns) fun p1 H1 R hp1 e1 h1 hR => ?_
    have o1 : ∀ {H' : Hp}, Ex H1 H' → RAt K H' p1 R := fun e => hR.rat (sq_of (e _ _ h1))
    refine q_forLx (elx_cat (el_take (n := 2) (ev_var rfl) (eo_some ev_c) (ex_l e1 hS)) (elx_step (ev_var rfl) (ex_l e1 hS)) fun ys hy => by
        have h2 := hy.2
        rw [List.length_map] at h2
        rw [List.length_take, List.length_map, sizeLine_eq]
        omega) (fun p xs i σ' H' => ∃ u2, σ' = [some (.ref sa), some (.ref p1), u2, none] ∧ Ex H1 H' ∧ H' p = some (.lst xs))
      (fun p xs H4 hp e4 h4 _ => ⟨none, rfl, e4, h4⟩) (fun p xs i σ' H' ⟨_, _, _, h⟩ => sq_of h) ?_ ?_
    · rintro p xs i v σ' H' ⟨ys, hy, rfl⟩ hx ⟨u2, rfl, eH, hp⟩
      have hv : v ∈ ns.map V.int := by
        rcases List.mem_append.mp (List.mem_of_getElem? hx) with h | h
        · exact List.mem_of_mem_take h
        · exact hy.1 v h
      obtain ⟨c, _, rfl⟩ := List.mem_map.mp hv
      refine s_skip (et_is (et_or (et_not (et_B (ev_spV (v := .bl true) (ea_two (ev_var rfl) (ev_var rfl)) fun H5 e5 => ⟨p1, R, c, rfl, o1 (eH.trans e5), hR.sz, rfl⟩))) fun _ => et_not (et_B (ev_spV (v := .bl true) (ea_three (ev_var rfl) (ev_var rfl) (ev_var rfl)) fun H5 e5 => ⟨p1, sa, R, ns, c, rfl, o1 (eH.trans e5), ex_l (e1.trans (eH.trans e5)) hS, rfl⟩))) rfl) fun H5 e5 => ?_
      exact ⟨_, rfl, eH.trans e5, e5 _ _ hp⟩
    · rintro p xs σ' H' _ ⟨u2, rfl, eH, hp⟩
      refine q_asg (v := .bl true) (ev_methNL (xs := [V.str (enc [0, 0]), V.str (enc [1])]) (x := .str (sg 0)) (y := .str (sg 1)) (ei_make (y := .str (enc [0])) ev_c) rfl (el_lst (ea_two ev_c ev_c) (by show 2 ≤ 100000; decide)) ev_c ev_c fun x1 dx p2 H5 hi hl => ⟨x1, dx, p2, [[0, 0], [1]], [0], 0, 1, rfl, hi, two_rules hl (by unfold RowOk; decide) (by unfold RowOk; decide) (by decide) (by decide), by decide, by rw [shut_told]⟩) fun H5 e5 => ?_
      refine s_ret (v := .bl true) (ev_andV (a := true) (b := true) (ev_spV (ea_two (ev_var rfl) ev_c) fun H6 e6 => ⟨true, true, rfl, rfl⟩) fun _ => ev_spV (ea_two (x := .bl true) (y := .bl true) (ev_methNL (xs := [V.str (enc [0, 1]), V.str (enc [])]) (x := .str (sg 0)) (y := .str (sg 1)) (ei_make (y := .int 1) ev_c) rfl (el_lst (ea_two ev_c ev_c) (by show 2 ≤ 100000; decide)) ev_c ev_c fun x1 dx p2 H6 hi hl => ⟨x1, dx, p2, [[0, 1], []], 0, 1, 1, rfl, hi, two_rules hl (by unfold RowOk; decide) (by unfold RowOk; decide) (by decide) (by decide), by decide, by decide, by rw [times_told]⟩) ev_c) fun H6 e6 => ⟨true, true, rfl, rfl⟩) fun H6 e6 => k H6
end
end Gw

namespace Gw
open PySem PySem.Spec PyProof.Rows L2 Evl
def fn : List He.DefD := [
  ⟨("is_row", none), "is_row", "is_row", defArgs sIs_row, defBody sIs_row, defScope sIs_row, [], []⟩,
  ⟨("once", none), "once", "once", defArgs sOnce, defBody sOnce, defScope sOnce, [], []⟩,
  ⟨("lengths_of", none), "lengths_of", "lengths_of", defArgs sLengths_of, defBody sLengths_of, defScope sLengths_of, [], []⟩,
  ⟨("long_by", none), "long_by", "long_by", defArgs sLong_by, defBody sLong_by, defScope sLong_by, [], []⟩,
  ⟨("counted", none), "counted", "counted", defArgs sCounted, defBody sCounted, defScope sCounted, [], []⟩,
  ⟨("grown_counts", none), "grown_counts", "grown_counts", defArgs sGrown_counts, defBody sGrown_counts, defScope sGrown_counts, [], []⟩,
  ⟨("Times", some "__init__"), "__init__", "Times.__init__", defArgs sTimes_init, defBody sTimes_init, defScope sTimes_init, [], []⟩,
  ⟨("Times", some "shows"), "shows", "Times.shows", defArgs sTimes_shows, defBody sTimes_shows, defScope sTimes_shows, [], []⟩,
  ⟨("Shut", some "__init__"), "__init__", "Shut.__init__", defArgs sShut_init, defBody sShut_init, defScope sShut_init, [], []⟩,
  ⟨("Shut", some "shows"), "shows", "Shut.shows", defArgs sShut_shows, defBody sShut_shows, defScope sShut_shows, [], []⟩,
  ⟨("Alike", some "shows"), "shows", "Alike.shows", defArgs sAlike_shows, defBody sAlike_shows, defScope sAlike_shows, [], []⟩,
  ⟨("Apart", some "__init__"), "__init__", "Apart.__init__", defArgs sApart_init, defBody sApart_init, defScope sApart_init, [], []⟩,
  ⟨("Apart", some "shows"), "shows", "Apart.shows", defArgs sApart_shows, defBody sApart_shows, defScope sApart_shows, [], []⟩,
  ⟨("_law_rules", none), "_law_rules", "_law_rules", defArgs sLaw_rules, defBody sLaw_rules, defScope sLaw_rules, [], []⟩,
  ⟨("_law_row", none), "_law_row", "_law_row", defArgs sLaw_row, defBody sLaw_row, defScope sLaw_row, [], []⟩,
  ⟨("_law_once", none), "_law_once", "_law_once", defArgs sLaw_once, defBody sLaw_once, defScope sLaw_once, [], []⟩,
  ⟨("_law_says", none), "_law_says", "_law_says", defArgs sLaw_says, defBody sLaw_says, defScope sLaw_says, [], []⟩,
  ⟨("_law_kinds", none), "_law_kinds", "_law_kinds", defArgs sLaw_kinds, defBody sLaw_kinds, defScope sLaw_kinds, [], []⟩,
  ⟨("_law_long", none), "_law_long", "_law_long", defArgs sLaw_long, defBody sLaw_long, defScope sLaw_long, [], []⟩,
  ⟨("_law_letters_right", none), "_law_letters_right", "_law_letters_right", defArgs sLaw_letters_right, defBody sLaw_letters_right, defScope sLaw_letters_right, [], []⟩,
  ⟨("_law_rows_right", none), "_law_rows_right", "_law_rows_right", defArgs sLaw_rows_right, defBody sLaw_rows_right, defScope sLaw_rows_right, [], []⟩,
  ⟨("law", none), "law", "law", defArgs sLaw, defBody sLaw, defScope sLaw, [], []⟩]
def fa0 : List He.Fa := [.free "isinstance", .free "str", .free "bool", .free "len", .free "all", .free "any", .free "sum", .free "range", .free "zip", .free "enumerate", .free "max", .free "min", .free "sorted", .free "set", .str "LETTERS" "abcdefghijklmnopqrstuvwxyz", .glo "is_row", .glo "once", .glo "lengths_of", .glo "long_by", .glo "counted", .glo "grown_counts", .glo "_law_rules", .glo "_law_row", .glo "_law_once", .glo "_law_says", .glo "_law_kinds", .glo "_law_long", .glo "_law_letters_right", .glo "_law_rows_right", .glo "law"]
def fa1 : List He.Fa := [.glo "Answer", .cls "Answer", .glo "Times", .cls "Times", .glo "Shut", .cls "Shut", .glo "Alike", .cls "Alike", .glo "Apart", .cls "Apart", .noat "Times" "many", .glo "Times", .mkr "Times", .meth "Times" "shows", .noat "Shut" "letters", .glo "Shut", .mkr "Shut", .meth "Shut" "shows", .meth "Alike" "shows", .noat "Apart" "many", .glo "Apart", .mkr "Apart", .meth "Apart" "shows"]
def fa : List He.Fa := fa0 ++ fa1
def nm0 : List Str := ["LETTERS", "is_row", "once", "lengths_of", "long_by", "counted", "grown_counts", "Answer", "Times", "Shut", "Alike", "Apart", "_law_rules", "_law_row", "_law_once", "_law_says", "_law_kinds", "_law_long", "_law_letters_right", "_law_rows_right"]
def loose : List Str := nm0
def ex0 : List (PySem.W.Frag → Bool) := [ownB "Answer", ownB "Times", ownB "Shut", ownB "Alike", ownB "Apart", kitQ "Times" "Answer" true, kitQ "Times" "Times" true, kitQ "Times" "Shut" false, kitQ "Times" "Alike" false, kitQ "Times" "Apart" false, kitQ "Shut" "Answer" true, kitQ "Shut" "Times" false, kitQ "Shut" "Shut" true, kitQ "Shut" "Alike" false, kitQ "Shut" "Apart" false, kitQ "Alike" "Answer" true, kitQ "Alike" "Times" false, kitQ "Alike" "Shut" false, kitQ "Alike" "Alike" true, kitQ "Alike" "Apart" false, kitQ "Apart" "Answer" true, kitQ "Apart" "Times" false, kitQ "Apart" "Shut" false, kitQ "Apart" "Alike" false, kitQ "Apart" "Apart" true, bareB "Alike"]
def exs : List (PySem.W.Frag → Bool) := ex0
abbrev theRow : PySem.W.OpenRow := PySem.W.OpenLaw.row PySem.Challenge.rw_growrow_k06_answers_by_hand
abbrev theHook : PySem.W.Hook := hookQ 4 fa fn exs
def seen (s : PySem.W.SharedT) : AlQ := obsQ 4 fa fn exs (HandSHeadRun.getT s)
theorem seen_eq (s : PySem.W.SharedT) : seen s = theHook.obs s.abs := obsQ_eq (HandSHeadRun.getT_eq s)
set_option maxHeartbeats 0 in
theorem topRun (w : World) : HandSHeadRun.RunEq theRow (PySem.W.view theRow.prog [23]) theHook seen 4000 loose w := by
  intro os
  kernel_rfl
theorem facts {K : PySem.W.Frag} {h : Heap} {mg : Str → Option Value} (X : K.In h) (G : h.Ns mainGlobals mg) (cx : exB exs K = true) (c : He.SaysD fa fn K) : T K mg where
  z_isinstance := He.free_ok X G (c.fact 0 (f := .free "isinstance") rfl)
  z_str := He.free_ok X G (c.fact 1 (f := .free "str") rfl)
  z_bool := He.free_ok X G (c.fact 2 (f := .free "bool") rfl)
  z_len := He.free_ok X G (c.fact 3 (f := .free "len") rfl)
  z_all := He.free_ok X G (c.fact 4 (f := .free "all") rfl)
  z_any := He.free_ok X G (c.fact 5 (f := .free "any") rfl)
  z_sum := He.free_ok X G (c.fact 6 (f := .free "sum") rfl)
  z_range := He.free_ok X G (c.fact 7 (f := .free "range") rfl)
  z_zip := He.free_ok X G (c.fact 8 (f := .free "zip") rfl)
  z_enumerate := He.free_ok X G (c.fact 9 (f := .free "enumerate") rfl)
  z_max := He.free_ok X G (c.fact 10 (f := .free "max") rfl)
  z_min := He.free_ok X G (c.fact 11 (f := .free "min") rfl)
  z_sorted := He.free_ok X G (c.fact 12 (f := .free "sorted") rfl)
  z_set := He.free_ok X G (c.fact 13 (f := .free "set") rfl)
  LETTERS := (by
      obtain ⟨t, e⟩ := He.str_ok X G (c.fact 14 (f := .str "LETTERS" "abcdefghijklmnopqrstuvwxyz") rfl)
      exact ⟨_, e, by rw [← alph_eq]; exact ⟨t, rfl⟩⟩)
  d_is_row := (by
      obtain ⟨fd, F⟩ := c.def_ 0 (d := ⟨("is_row", none), "is_row", "is_row", defArgs sIs_row, defBody sIs_row, defScope sIs_row, [], []⟩) rfl
      exact ⟨_, fd, F, He.glo_ok X G (c.fact 15 (f := .glo "is_row") rfl)⟩)
  d_once := (by
      obtain ⟨fd, F⟩ := c.def_ 1 (d := ⟨("once", none), "once", "once", defArgs sOnce, defBody sOnce, defScope sOnce, [], []⟩) rfl
      exact ⟨_, fd, F, He.glo_ok X G (c.fact 16 (f := .glo "once") rfl)⟩)
  d_lengths_of := (by
      obtain ⟨fd, F⟩ := c.def_ 2 (d := ⟨("lengths_of", none), "lengths_of", "lengths_of", defArgs sLengths_of, defBody sLengths_of, defScope sLengths_of, [], []⟩) rfl
      exact ⟨_, fd, F, He.glo_ok X G (c.fact 17 (f := .glo "lengths_of") rfl)⟩)
  d_long_by := (by
      obtain ⟨fd, F⟩ := c.def_ 3 (d := ⟨("long_by", none), "long_by", "long_by", defArgs sLong_by, defBody sLong_by, defScope sLong_by, [], []⟩) rfl
      exact ⟨_, fd, F, He.glo_ok X G (c.fact 18 (f := .glo "long_by") rfl)⟩)
  d_counted := (by
      obtain ⟨fd, F⟩ := c.def_ 4 (d := ⟨("counted", none), "counted", "counted", defArgs sCounted, defBody sCounted, defScope sCounted, [], []⟩) rfl
      exact ⟨_, fd, F, He.glo_ok X G (c.fact 19 (f := .glo "counted") rfl)⟩)
  d_grown_counts := (by
      obtain ⟨fd, F⟩ := c.def_ 5 (d := ⟨("grown_counts", none), "grown_counts", "grown_counts", defArgs sGrown_counts, defBody sGrown_counts, defScope sGrown_counts, [], []⟩) rfl
      exact ⟨_, fd, F, He.glo_ok X G (c.fact 20 (f := .glo "grown_counts") rfl)⟩)
  d_law_rules := (by
      obtain ⟨fd, F⟩ := c.def_ 13 (d := ⟨("_law_rules", none), "_law_rules", "_law_rules", defArgs sLaw_rules, defBody sLaw_rules, defScope sLaw_rules, [], []⟩) rfl
      exact ⟨_, fd, F, He.glo_ok X G (c.fact 21 (f := .glo "_law_rules") rfl)⟩)
  d_law_row := (by
      obtain ⟨fd, F⟩ := c.def_ 14 (d := ⟨("_law_row", none), "_law_row", "_law_row", defArgs sLaw_row, defBody sLaw_row, defScope sLaw_row, [], []⟩) rfl
      exact ⟨_, fd, F, He.glo_ok X G (c.fact 22 (f := .glo "_law_row") rfl)⟩)
  d_law_once := (by
      obtain ⟨fd, F⟩ := c.def_ 15 (d := ⟨("_law_once", none), "_law_once", "_law_once", defArgs sLaw_once, defBody sLaw_once, defScope sLaw_once, [], []⟩) rfl
      exact ⟨_, fd, F, He.glo_ok X G (c.fact 23 (f := .glo "_law_once") rfl)⟩)
  d_law_says := (by
      obtain ⟨fd, F⟩ := c.def_ 16 (d := ⟨("_law_says", none), "_law_says", "_law_says", defArgs sLaw_says, defBody sLaw_says, defScope sLaw_says, [], []⟩) rfl
      exact ⟨_, fd, F, He.glo_ok X G (c.fact 24 (f := .glo "_law_says") rfl)⟩)
  d_law_kinds := (by
      obtain ⟨fd, F⟩ := c.def_ 17 (d := ⟨("_law_kinds", none), "_law_kinds", "_law_kinds", defArgs sLaw_kinds, defBody sLaw_kinds, defScope sLaw_kinds, [], []⟩) rfl
      exact ⟨_, fd, F, He.glo_ok X G (c.fact 25 (f := .glo "_law_kinds") rfl)⟩)
  d_law_long := (by
      obtain ⟨fd, F⟩ := c.def_ 18 (d := ⟨("_law_long", none), "_law_long", "_law_long", defArgs sLaw_long, defBody sLaw_long, defScope sLaw_long, [], []⟩) rfl
      exact ⟨_, fd, F, He.glo_ok X G (c.fact 26 (f := .glo "_law_long") rfl)⟩)
  d_law_letters_right := (by
      obtain ⟨fd, F⟩ := c.def_ 19 (d := ⟨("_law_letters_right", none), "_law_letters_right", "_law_letters_right", defArgs sLaw_letters_right, defBody sLaw_letters_right, defScope sLaw_letters_right, [], []⟩) rfl
      exact ⟨_, fd, F, He.glo_ok X G (c.fact 27 (f := .glo "_law_letters_right") rfl)⟩)
  d_law_rows_right := (by
      obtain ⟨fd, F⟩ := c.def_ 20 (d := ⟨("_law_rows_right", none), "_law_rows_right", "_law_rows_right", defArgs sLaw_rows_right, defBody sLaw_rows_right, defScope sLaw_rows_right, [], []⟩) rfl
      exact ⟨_, fd, F, He.glo_ok X G (c.fact 28 (f := .glo "_law_rows_right") rfl)⟩)
  g_Answer := He.glo_ok X G (c.fact 30 (f := .glo "Answer") rfl)
  o_Answer := own_ok (He.cls_ok (c.fact 31 (f := .cls "Answer") rfl)) (ex_at cx 0 (f := ownB "Answer") rfl)
  g_Times := He.glo_ok X G (c.fact 32 (f := .glo "Times") rfl)
  o_Times := own_ok (He.cls_ok (c.fact 33 (f := .cls "Times") rfl)) (ex_at cx 1 (f := ownB "Times") rfl)
  g_Shut := He.glo_ok X G (c.fact 34 (f := .glo "Shut") rfl)
  o_Shut := own_ok (He.cls_ok (c.fact 35 (f := .cls "Shut") rfl)) (ex_at cx 2 (f := ownB "Shut") rfl)
  g_Alike := He.glo_ok X G (c.fact 36 (f := .glo "Alike") rfl)
  o_Alike := own_ok (He.cls_ok (c.fact 37 (f := .cls "Alike") rfl)) (ex_at cx 3 (f := ownB "Alike") rfl)
  g_Apart := He.glo_ok X G (c.fact 38 (f := .glo "Apart") rfl)
  o_Apart := own_ok (He.cls_ok (c.fact 39 (f := .cls "Apart") rfl)) (ex_at cx 4 (f := ownB "Apart") rfl)
  k_Times_Answer := kit_ok (ex_at cx 5 (f := kitQ "Times" "Answer" true) rfl)
  k_Times_Times := kit_ok (ex_at cx 6 (f := kitQ "Times" "Times" true) rfl)
  k_Times_Shut := kit_ok (ex_at cx 7 (f := kitQ "Times" "Shut" false) rfl)
  k_Times_Alike := kit_ok (ex_at cx 8 (f := kitQ "Times" "Alike" false) rfl)
  k_Times_Apart := kit_ok (ex_at cx 9 (f := kitQ "Times" "Apart" false) rfl)
  k_Shut_Answer := kit_ok (ex_at cx 10 (f := kitQ "Shut" "Answer" true) rfl)
  k_Shut_Times := kit_ok (ex_at cx 11 (f := kitQ "Shut" "Times" false) rfl)
  k_Shut_Shut := kit_ok (ex_at cx 12 (f := kitQ "Shut" "Shut" true) rfl)
  k_Shut_Alike := kit_ok (ex_at cx 13 (f := kitQ "Shut" "Alike" false) rfl)
  k_Shut_Apart := kit_ok (ex_at cx 14 (f := kitQ "Shut" "Apart" false) rfl)
  k_Alike_Answer := kit_ok (ex_at cx 15 (f := kitQ "Alike" "Answer" true) rfl)
  k_Alike_Times := kit_ok (ex_at cx 16 (f := kitQ "Alike" "Times" false) rfl)
  k_Alike_Shut := kit_ok (ex_at cx 17 (f := kitQ "Alike" "Shut" false) rfl)
  k_Alike_Alike := kit_ok (ex_at cx 18 (f := kitQ "Alike" "Alike" true) rfl)
  k_Alike_Apart := kit_ok (ex_at cx 19 (f := kitQ "Alike" "Apart" false) rfl)
  k_Apart_Answer := kit_ok (ex_at cx 20 (f := kitQ "Apart" "Answer" true) rfl)
  k_Apart_Times := kit_ok (ex_at cx 21 (f := kitQ "Apart" "Times" false) rfl)
  k_Apart_Shut := kit_ok (ex_at cx 22 (f := kitQ "Apart" "Shut" false) rfl)
  k_Apart_Alike := kit_ok (ex_at cx 23 (f := kitQ "Apart" "Alike" false) rfl)
  k_Apart_Apart := kit_ok (ex_at cx 24 (f := kitQ "Apart" "Apart" true) rfl)
  n_Times := He.noat_ok (c.fact 40 (f := .noat "Times" "many") rfl)
  i_Times := (by
      obtain ⟨fd, F⟩ := c.def_ 6 (d := ⟨("Times", some "__init__"), "__init__", "Times.__init__", defArgs sTimes_init, defBody sTimes_init, defScope sTimes_init, [], []⟩) rfl
      exact ⟨_, fd, He.mkr_ok (c.fact 42 (f := .mkr "Times") rfl), F, He.glo_ok X G (c.fact 41 (f := .glo "Times") rfl)⟩)
  m_Times_shows := (by
      obtain ⟨fd, F⟩ := c.def_ 7 (d := ⟨("Times", some "shows"), "shows", "Times.shows", defArgs sTimes_shows, defBody sTimes_shows, defScope sTimes_shows, [], []⟩) rfl
      exact ⟨_, fd, He.meth_ok (c.fact 43 (f := .meth "Times" "shows") rfl), F⟩)
  n_Shut := He.noat_ok (c.fact 44 (f := .noat "Shut" "letters") rfl)
  i_Shut := (by
      obtain ⟨fd, F⟩ := c.def_ 8 (d := ⟨("Shut", some "__init__"), "__init__", "Shut.__init__", defArgs sShut_init, defBody sShut_init, defScope sShut_init, [], []⟩) rfl
      exact ⟨_, fd, He.mkr_ok (c.fact 46 (f := .mkr "Shut") rfl), F, He.glo_ok X G (c.fact 45 (f := .glo "Shut") rfl)⟩)
  m_Shut_shows := (by
      obtain ⟨fd, F⟩ := c.def_ 9 (d := ⟨("Shut", some "shows"), "shows", "Shut.shows", defArgs sShut_shows, defBody sShut_shows, defScope sShut_shows, [], []⟩) rfl
      exact ⟨_, fd, He.meth_ok (c.fact 47 (f := .meth "Shut" "shows") rfl), F⟩)
  m_Alike_shows := (by
      obtain ⟨fd, F⟩ := c.def_ 10 (d := ⟨("Alike", some "shows"), "shows", "Alike.shows", defArgs sAlike_shows, defBody sAlike_shows, defScope sAlike_shows, [], []⟩) rfl
      exact ⟨_, fd, He.meth_ok (c.fact 48 (f := .meth "Alike" "shows") rfl), F⟩)
  b_Alike := bare_ok (ex_at cx 25 (f := bareB "Alike") rfl)
  n_Apart := He.noat_ok (c.fact 49 (f := .noat "Apart" "many") rfl)
  i_Apart := (by
      obtain ⟨fd, F⟩ := c.def_ 11 (d := ⟨("Apart", some "__init__"), "__init__", "Apart.__init__", defArgs sApart_init, defBody sApart_init, defScope sApart_init, [], []⟩) rfl
      exact ⟨_, fd, He.mkr_ok (c.fact 51 (f := .mkr "Apart") rfl), F, He.glo_ok X G (c.fact 50 (f := .glo "Apart") rfl)⟩)
  m_Apart_shows := (by
      obtain ⟨fd, F⟩ := c.def_ 12 (d := ⟨("Apart", some "shows"), "shows", "Apart.shows", defArgs sApart_shows, defBody sApart_shows, defScope sApart_shows, [], []⟩) rfl
      exact ⟨_, fd, He.meth_ok (c.fact 52 (f := .meth "Apart" "shows") rfl), F⟩)
theorem lawFn {P : Program} {w : World} {K : PySem.W.Frag} {h : Heap} {mg : Str → Option Value} {f : Addr} (X : K.In h) (G : h.Ns mainGlobals mg) (hfa : mg ("law" : Str) = some (.ref f)) (cx : exB exs K = true) (c : He.SaysD fa fn K) :
    ∃ fd : FuncData, (∀ (s : Shared) (v : Value), BindsTo s fd ⟨[v], []⟩ [("_law_script", v)]) ∧ ∀ base : Heap, K.In base → base.Ns mainGlobals mg → FnOk P w K mg base CX0 5 f fd ["_law_script"] (spLaw K) := by
  obtain ⟨fd, F⟩ := c.def_ 21 (d := ⟨("law", none), "law", "law", defArgs sLaw, defBody sLaw, defScope sLaw, [], []⟩) rfl
  have e := hfa.symm.trans (He.glo_ok X G (c.fact 29 (f := .glo "law") rfl))
  cases e
  have b := FunD.bindsA (ps := ["_law_script"]) F fun _ _ _ _ _ _ us hl => match us, hl with | [_], _ => rfl
  exact ⟨fd, fun s v => b s [v] rfl, fun base _ _ => ok_law (facts X G cx c) F⟩
end Gw
open PySem PySem.W PySem.Calls PyProof.Rows
set_option maxRecDepth 100000 in
set_option maxHeartbeats 0 in
theorem PySem.Challenge.cw_growrow_k06_answers_by_hand_holds : PySem.Challenge.rw_growrow_k06_answers_by_hand.Holds := by
  w_on; o_law
  refine HandSHeadRun.head_any (r := OpenLaw.row PySem.Challenge.rw_growrow_k06_answers_by_hand) (q := view (OpenLaw.row PySem.Challenge.rw_growrow_k06_answers_by_hand).prog [23]) (H := Gw.theHook) (ob := Gw.seen) (M := 4000) (loose := Gw.loose) (d := HandSHeadRun.topDef (OpenLaw.row PySem.Challenge.rw_growrow_k06_answers_by_hand).prog 23) (kwd := []) Gw.seen_eq
    (by kernel_rfl) (fun s => by kernel_rfl) Gw.topRun (by kernel_rfl) (by kernel_rfl) (by kernel_rfl) (by rfl) (by first | assumption | decide +kernel) (by decide +kernel) ⟨rfl, rfl, rfl, rfl, rfl, by decide +kernel⟩ ?hw ?hc
  case hw => w_witness2
  case hc =>
    refine L2.walk_ofE (l := PySem.Challenge.rw_growrow_k06_answers_by_hand) (n := 63) (k := 5) (x := "_law_script") (CX := L2.CX0) rfl (by decide) (by kernel_rfl) ⟨rfl, by decide, by decide⟩ ?F (fun _ _ _ _ z => z)
    intro w mg fa h Y G hmg0
    obtain ⟨K, KX, cx, c⟩ := Y
    have hmg : mg ("law" : PySem.Str) = some (.ref fa) := by
      have e : (HandSHeadRun.topDef (OpenLaw.row PySem.Challenge.rw_growrow_k06_answers_by_hand).prog 23).name = ("law" : PySem.Str) := by kernel_rfl
      rw [← e]
      exact hmg0
    obtain ⟨fd, hb, hF⟩ := Gw.lawFn (P := (PySem.Challenge.rw_growrow_k06_answers_by_hand).prog) (w := w) KX G hmg cx c
    exact ⟨K, fd, Gw.spLaw K, KX, hb, fun H a ns hl _ hS => ⟨a, ns, rfl, hS, hl, fun _ => rfl⟩, hF⟩
#print axioms PySem.Challenge.cw_growrow_k06_answers_by_hand_holds

