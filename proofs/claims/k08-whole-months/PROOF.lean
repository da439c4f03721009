import PyProof.Rows.All
import Wide.All
import OpenK.AllK
import Wide.FinOn
import HandS.ForMost
import HandS.Codes
import HandS.ClsMeth
import HandS.IsInst
import HandS.Evl
import HandS.Walk
import HandS.Rev
import HandS.Zip
import PySem.Challenge.RW_coinroll_k08_whole_months_sum
set_option Elab.async false
set_option linter.all false
set_option maxRecDepth 100000
set_option maxHeartbeats 4000000
/-! The mathematics of the law: rounding, bands, dues; no program here. -/
namespace Km

inductive Way where
  | down | up | near | even
  deriving DecidableEq

/-- rounding a count of 1/10000, for counts of at least 0 -/
def rnd (n : Int) : Way → Int
  | .down => n / 10000
  | .up => if n % 10000 = 0 then n / 10000 else n / 10000 + 1
  | .near => if 2 * (n % 10000) < 10000 then n / 10000 else n / 10000 + 1
  | .even => if 2 * (n % 10000) < 10000 then n / 10000 else if 10000 < 2 * (n % 10000) then n / 10000 + 1 else n / 10000 + (n / 10000) % 2

theorem rnd_zero (w : Way) : rnd 0 w = 0 := by cases w <;> decide
theorem rnd_nonneg {n : Int} (h : 0 ≤ n) (w : Way) : 0 ≤ rnd n w := by
  have h1 : 0 ≤ n / 10000 := by omega
  cases w with
  | down => exact h1
  | up => show 0 ≤ (if n % 10000 = 0 then n / 10000 else n / 10000 + 1); split <;> omega
  | near => show 0 ≤ (if 2 * (n % 10000) < 10000 then n / 10000 else n / 10000 + 1); split <;> omega
  | even =>
    show 0 ≤ (if 2 * (n % 10000) < 10000 then n / 10000 else if 10000 < 2 * (n % 10000) then n / 10000 + 1 else n / 10000 + (n / 10000) % 2)
    split
    · omega
    · split <;> omega
theorem rnd_mono {a b : Int} (h : a ≤ b) (w : Way) : rnd a w ≤ rnd b w := by
  cases w with
  | down => unfold rnd; simp only; omega
  | up => unfold rnd; simp only; split <;> split <;> omega
  | near => unfold rnd; simp only; split <;> split <;> omega
  | even => unfold rnd; simp only; repeat' split
            all_goals omega

/-- the program's loop over the bands, from the last one down -/
def bandsR : List (Int × Int) → Int → Int
  | [], _ => 0
  | (b, p) :: r, l => if b < l then (l - b) * p + bandsR r b else bandsR r l
def RowOk (x : Int × Int) : Prop := 0 ≤ x.1 ∧ x.1 ≤ 1000000000000 ∧ 0 ≤ x.2 ∧ x.2 ≤ 20000
theorem bandsR_nonneg : ∀ (r : List (Int × Int)) (l : Int), (∀ x ∈ r, RowOk x) → 0 ≤ bandsR r l
  | [], _, _ => Int.le_refl 0
  | (b, p) :: r, l, h => by
    have hr := fun x hx => h x (List.mem_cons_of_mem _ hx)
    have h0 := h (b, p) List.mem_cons_self
    unfold bandsR
    split
    · have h1 := bandsR_nonneg r b hr
      have h2 : 0 ≤ (l - b) * p := Int.mul_nonneg (by omega) h0.2.2.1
      omega
    · exact bandsR_nonneg r l hr
theorem bandsR_mono : ∀ (r : List (Int × Int)) (l m : Int), (∀ x ∈ r, RowOk x) → l ≤ m → bandsR r l ≤ bandsR r m
  | [], _, _, _, _ => Int.le_refl 0
  | (b, p) :: r, l, m, h, hlm => by
    have hr := fun x hx => h x (List.mem_cons_of_mem _ hx)
    have h0 := h (b, p) List.mem_cons_self
    unfold bandsR
    by_cases h1 : b < l
    · have h2 : b < m := by omega
      rw [if_pos h1, if_pos h2]
      have h3 : (l - b) * p ≤ (m - b) * p := Int.mul_le_mul_of_nonneg_right (by omega) h0.2.2.1
      omega
    · rw [if_neg h1]
      by_cases h2 : b < m
      · rw [if_pos h2]
        have h3 : 0 ≤ (m - b) * p := Int.mul_nonneg (by omega) h0.2.2.1
        have h4 := bandsR_mono r l b hr (by omega)
        omega
      · rw [if_neg h2]
        exact bandsR_mono r l m hr hlm
theorem bandsR_zero : ∀ (r : List (Int × Int)), (∀ x ∈ r, RowOk x) → bandsR r 0 = 0
  | [], _ => rfl
  | (b, p) :: r, h => by
    have h0 := h (b, p) List.mem_cons_self
    have h0' : 0 ≤ b := h0.1
    unfold bandsR
    rw [if_neg (by omega)]
    exact bandsR_zero r fun x hx => h x (List.mem_cons_of_mem _ hx)

/-- the kinds of rules, and a rule by its numbers -/
inductive Kd where
  | flat | share | capped | least | bands | ontop
  deriving DecidableEq
inductive Rl where
  | flat (a : Int)
  | share (p : Int) (w : Way)
  | capped (p m : Int) (w : Way)
  | least (p l : Int) (w : Way)
  | bands (rows : List (Int × Int)) (w : Way)
  | ontop (p : Int) (w : Way) (r : Rl)
def Rl.kd : Rl → Kd
  | .flat .. => .flat
  | .share .. => .share
  | .capped .. => .capped
  | .least .. => .least
  | .bands .. => .bands
  | .ontop .. => .ontop
/-- what is due of a total and a number of months -/
def Rl.due : Rl → Int → Int → Int
  | .flat a, _, m => a * m
  | .share p w, t, _ => rnd (t * p) w
  | .capped p c w, t, _ => rnd ((if c < t then c else t) * p) w
  | .least p l w, t, m => if l * m > rnd (t * p) w then l * m else rnd (t * p) w
  | .bands rows w, t, _ => rnd (bandsR rows.reverse t) w
  | .ontop p w r, t, m => rnd (r.due t m * p) w
def Rl.deep : Rl → Nat
  | .ontop _ _ r => r.deep + 1
  | _ => 0
def PartsOk (p : Int) : Prop := 0 ≤ p ∧ p ≤ 20000
def AmtOk (a : Int) : Prop := 0 ≤ a ∧ a ≤ 1000000000000
/-- rising borders from nought -/
def RowsOk (rows : List (Int × Int)) : Prop :=
  1 ≤ rows.length ∧ rows.length ≤ 12 ∧ (∀ x ∈ rows, RowOk x) ∧ (∀ x, rows[0]? = some x → x.1 = 0) ∧ ∀ (i : Nat) (x y : Int × Int), rows[i]? = some x → rows[i + 1]? = some y → x.1 < y.1
def Rl.Ok : Rl → Prop
  | .flat a => AmtOk a
  | .share p _ => PartsOk p
  | .capped p c _ => PartsOk p ∧ AmtOk c
  | .least p l _ => PartsOk p ∧ AmtOk l
  | .bands rows _ => RowsOk rows
  | .ontop p _ r => PartsOk p ∧ r.Ok
theorem rows_rev {rows : List (Int × Int)} (h : RowsOk rows) : ∀ x ∈ rows.reverse, RowOk x := fun x hx => h.2.2.1 x (List.mem_reverse.mp hx)
theorem due_zero : ∀ (r : Rl), r.Ok → r.due 0 0 = 0
  | .flat a, _ => Int.mul_zero a
  | .share p w, _ => by show rnd (0 * p) w = 0; rw [Int.zero_mul, rnd_zero]
  | .capped p c w, h => by
    show rnd ((if c < 0 then c else 0) * p) w = 0
    rw [if_neg (by have := h.2.1; omega), Int.zero_mul, rnd_zero]
  | .least p l w, h => by
    show (if l * 0 > rnd (0 * p) w then l * 0 else rnd (0 * p) w) = 0
    rw [Int.mul_zero, Int.zero_mul, rnd_zero]; rfl
  | .bands rows w, h => by
    show rnd (bandsR rows.reverse 0) w = 0
    rw [bandsR_zero _ (rows_rev h), rnd_zero]
  | .ontop p w r, h => by
    show rnd (r.due 0 0 * p) w = 0
    rw [due_zero r h.2, Int.zero_mul, rnd_zero]
theorem due_nonneg : ∀ (r : Rl) {t m : Int}, r.Ok → 0 ≤ t → 0 ≤ m → 0 ≤ r.due t m
  | .flat a, t, m, h, _, hm => Int.mul_nonneg h.1 hm
  | .share p w, t, m, h, ht, _ => rnd_nonneg (Int.mul_nonneg ht h.1) w
  | .capped p c w, t, m, h, ht, _ => by
    show 0 ≤ rnd ((if c < t then c else t) * p) w
    refine rnd_nonneg (Int.mul_nonneg ?_ h.1.1) w
    have := h.2.1
    split <;> omega
  | .least p l w, t, m, h, ht, hm => by
    show 0 ≤ (if l * m > rnd (t * p) w then l * m else rnd (t * p) w)
    have h1 := Int.mul_nonneg h.2.1 hm
    have h2 := rnd_nonneg (Int.mul_nonneg ht h.1.1) w
    split <;> omega
  | .bands rows w, t, m, h, ht, _ => rnd_nonneg (bandsR_nonneg _ _ (rows_rev h)) w
  | .ontop p w r, t, m, h, ht, hm => rnd_nonneg (Int.mul_nonneg (due_nonneg r h.2 ht hm) h.1.1) w
theorem due_mono : ∀ (r : Rl) {t t' m m' : Int}, r.Ok → t ≤ t' → m ≤ m' → r.due t m ≤ r.due t' m'
  | .flat a, t, t', m, m', h, _, hm => Int.mul_le_mul_of_nonneg_left hm h.1
  | .share p w, t, t', m, m', h, ht, _ => rnd_mono (Int.mul_le_mul_of_nonneg_right ht h.1) w
  | .capped p c w, t, t', m, m', h, ht, _ => by
    show rnd ((if c < t then c else t) * p) w ≤ rnd ((if c < t' then c else t') * p) w
    refine rnd_mono (Int.mul_le_mul_of_nonneg_right ?_ h.1.1) w
    split <;> split <;> omega
  | .least p l w, t, t', m, m', h, ht, hm => by
    show (if l * m > rnd (t * p) w then l * m else rnd (t * p) w) ≤ (if l * m' > rnd (t' * p) w then l * m' else rnd (t' * p) w)
    have h1 : l * m ≤ l * m' := Int.mul_le_mul_of_nonneg_left hm h.2.1
    have h2 : rnd (t * p) w ≤ rnd (t' * p) w := rnd_mono (Int.mul_le_mul_of_nonneg_right ht h.1.1) w
    split <;> split <;> omega
  | .bands rows w, t, t', m, m', h, ht, _ => rnd_mono (bandsR_mono _ _ _ (rows_rev h) ht) w
  | .ontop p w r, t, t', m, m', h, ht, hm => rnd_mono (Int.mul_le_mul_of_nonneg_right (due_mono r h.2 ht hm) h.1.1) w

/-- how many are above nought -/
def cnt (bs : List Int) : Int := ((bs.filter fun b => decide (0 < b)).length : Nat)
theorem cnt_nonneg (bs : List Int) : 0 ≤ cnt bs := Int.natCast_nonneg _
theorem cnt_take_le (bs : List Int) (n : Nat) : cnt (bs.take n) ≤ cnt (bs.take (n + 1)) := by
  rw [List.take_add_one]
  unfold cnt
  rw [List.filter_append, List.length_append]
  omega
theorem sum_take_le (bs : List Int) (h : ∀ b ∈ bs, 0 ≤ b) (n : Nat) : (bs.take n).sum ≤ (bs.take (n + 1)).sum := by
  rw [List.take_add_one, List.sum_append]
  cases e : bs[n]? with
  | none => simp
  | some b =>
    have := h b (List.mem_of_getElem? e)
    simp
    omega
theorem sum_nonneg : ∀ (bs : List Int), (∀ b ∈ bs, 0 ≤ b) → 0 ≤ bs.sum
  | [], _ => Int.le_refl 0
  | b :: r, h => by
    rw [List.sum_cons]
    have h1 := h b List.mem_cons_self
    have h2 := sum_nonneg r fun x hx => h x (List.mem_cons_of_mem _ hx)
    omega
theorem sum_perm {a b : List Int} (h : a.Perm b) : a.sum = b.sum := by
  induction h with
  | nil => rfl
  | cons x _ ih => rw [List.sum_cons, List.sum_cons, ih]
  | swap x y l => simp only [List.sum_cons]; omega
  | trans _ _ ih1 ih2 => exact ih1.trans ih2
theorem cnt_perm {a b : List Int} (h : a.Perm b) : cnt a = cnt b := by
  unfold cnt
  rw [(h.filter _).length_eq]
/-- what is due of so many months' bases -/
def Rl.of (r : Rl) (bs : List Int) : Int := r.due bs.sum (cnt bs)
theorem of_nil (r : Rl) (h : r.Ok) : r.of [] = 0 := due_zero r h
theorem of_nonneg (r : Rl) {bs : List Int} (h : r.Ok) (hb : ∀ b ∈ bs, 0 ≤ b) : 0 ≤ r.of bs := due_nonneg r h (sum_nonneg bs hb) (cnt_nonneg bs)
theorem of_take (r : Rl) {bs : List Int} (h : r.Ok) (hb : ∀ b ∈ bs, 0 ≤ b) (n : Nat) : r.of (bs.take n) ≤ r.of (bs.take (n + 1)) := due_mono r h (sum_take_le bs hb n) (cnt_take_le bs n)
theorem of_perm (r : Rl) {a b : List Int} (h : a.Perm b) : r.of a = r.of b := by
  unfold Rl.of
  rw [sum_perm h, cnt_perm h]
end Km
namespace Km
/-! the program's rounding, way by way -/
theorem rnd_1 {n : Int} {y : Way} (h : n % 10000 = 0 ∨ y = .down) : rnd n y = n / 10000 := by
  cases y with
  | down => rfl
  | up =>
    show (if n % 10000 = 0 then n / 10000 else n / 10000 + 1) = n / 10000
    rw [if_pos (by simpa using h)]
  | near =>
    show (if 2 * (n % 10000) < 10000 then n / 10000 else n / 10000 + 1) = n / 10000
    have h0 : n % 10000 = 0 := by simpa using h
    rw [if_pos (by omega)]
  | even =>
    show (if 2 * (n % 10000) < 10000 then n / 10000 else if 10000 < 2 * (n % 10000) then n / 10000 + 1 else n / 10000 + (n / 10000) % 2) = n / 10000
    have h0 : n % 10000 = 0 := by simpa using h
    rw [if_pos (by omega)]
theorem rnd_2 {n : Int} {y : Way} (h1 : ¬ (n % 10000 = 0 ∨ y = .down)) (h : y = .up ∨ 10000 < 2 * (n % 10000)) : rnd n y = n / 10000 + 1 := by
  cases y with
  | down => exact absurd (Or.inr rfl) h1
  | up =>
    show (if n % 10000 = 0 then n / 10000 else n / 10000 + 1) = n / 10000 + 1
    rw [if_neg fun z => h1 (Or.inl z)]
  | near =>
    show (if 2 * (n % 10000) < 10000 then n / 10000 else n / 10000 + 1) = n / 10000 + 1
    have h0 : 10000 < 2 * (n % 10000) := by simpa using h
    rw [if_neg (by omega)]
  | even =>
    show (if 2 * (n % 10000) < 10000 then n / 10000 else if 10000 < 2 * (n % 10000) then n / 10000 + 1 else n / 10000 + (n / 10000) % 2) = n / 10000 + 1
    have h0 : 10000 < 2 * (n % 10000) := by simpa using h
    rw [if_neg (by omega), if_pos h0]
theorem rnd_3 {n : Int} {y : Way} (h2 : ¬ (y = .up ∨ 10000 < 2 * (n % 10000))) (h : 2 * (n % 10000) < 10000) : rnd n y = n / 10000 := by
  cases y with
  | down => rfl
  | up => exact absurd (Or.inl rfl) h2
  | near =>
    show (if 2 * (n % 10000) < 10000 then n / 10000 else n / 10000 + 1) = n / 10000
    rw [if_pos h]
  | even =>
    show (if 2 * (n % 10000) < 10000 then n / 10000 else if 10000 < 2 * (n % 10000) then n / 10000 + 1 else n / 10000 + (n / 10000) % 2) = n / 10000
    rw [if_pos h]
theorem rnd_4 {n : Int} (h2 : ¬ 10000 < 2 * (n % 10000)) (h3 : ¬ 2 * (n % 10000) < 10000) : rnd n .even = n / 10000 + (n / 10000) % 2 := by
  show (if 2 * (n % 10000) < 10000 then n / 10000 else if 10000 < 2 * (n % 10000) then n / 10000 + 1 else n / 10000 + (n / 10000) % 2) = _
  rw [if_neg h3, if_neg h2]
theorem rnd_5 {n : Int} (h0 : 0 ≤ n) (h3 : ¬ 2 * (n % 10000) < 10000) : rnd n .near = n / 10000 + (if decide (0 < n) = true then 1 else 0) := by
  show (if 2 * (n % 10000) < 10000 then n / 10000 else n / 10000 + 1) = _
  have : 0 < n := by
    rcases Int.lt_or_eq_of_le h0 with h | h
    · exact h
    · subst h; exact absurd (by decide) h3
  rw [if_neg h3, if_pos (decide_eq_true this)]
theorem way_last {n : Int} {y : Way} (h1 : ¬ (n % 10000 = 0 ∨ y = .down)) (h2 : ¬ (y = .up ∨ 10000 < 2 * (n % 10000))) (h4 : y ≠ .even) : y = .near := by
  cases y with
  | down => exact absurd (Or.inr rfl) h1
  | up => exact absurd (Or.inl rfl) h2
  | near => rfl
  | even => exact absurd rfl h4
/-- the law's own rounding, of none below nought -/
def rndL (n : Int) : Way → Int
  | .down => n / 10000
  | .up => n / 10000 + (if decide (0 < n - n / 10000 * 10000) = true then 1 else 0)
  | .near => n / 10000 + (if decide (5000 ≤ n - n / 10000 * 10000) = true then 1 else 0)
  | .even => n / 10000 + (if (decide (5000 < n - n / 10000 * 10000) || (decide (n - n / 10000 * 10000 = 5000) && decide (n / 10000 % 2 = 1))) = true then 1 else 0)
theorem rndL_eq (n : Int) (y : Way) : rndL n y = rnd n y := by
  cases y with
  | down => rfl
  | up =>
    show n / 10000 + (if decide (0 < n - n / 10000 * 10000) = true then 1 else 0) = (if n % 10000 = 0 then n / 10000 else n / 10000 + 1)
    by_cases h : n % 10000 = 0
    · rw [if_pos h, if_neg (by simp; omega)]; omega
    · rw [if_neg h, if_pos (by simp; omega)]
  | near =>
    show n / 10000 + (if decide (5000 ≤ n - n / 10000 * 10000) = true then 1 else 0) = (if 2 * (n % 10000) < 10000 then n / 10000 else n / 10000 + 1)
    by_cases h : 2 * (n % 10000) < 10000
    · rw [if_pos h, if_neg (by simp; omega)]; omega
    · rw [if_neg h, if_pos (by simp; omega)]
  | even =>
    show n / 10000 + (if (decide (5000 < n - n / 10000 * 10000) || (decide (n - n / 10000 * 10000 = 5000) && decide (n / 10000 % 2 = 1))) = true then 1 else 0) = (if 2 * (n % 10000) < 10000 then n / 10000 else if 10000 < 2 * (n % 10000) then n / 10000 + 1 else n / 10000 + (n / 10000) % 2)
    by_cases h : 2 * (n % 10000) < 10000
    · rw [if_pos h, if_neg (by simp; omega)]; omega
    · rw [if_neg h]
      by_cases h2 : 10000 < 2 * (n % 10000)
      · rw [if_pos h2, if_pos (by simp; omega)]
      · rw [if_neg h2]
        by_cases h3 : n / 10000 % 2 = 1
        · rw [if_pos (by simp; omega), h3]
        · rw [if_neg (by simp; omega)]; omega
theorem cnt_range (bs : List Int) : (((List.range bs.length).filter fun i => decide (0 < bs.getD i 0)).length : Nat) = cnt bs := by
  have e : (List.range bs.length).map (fun i => bs.getD i 0) = bs := by
    apply List.ext_getElem (by simp)
    intro i h1 h2
    simp at h1
    simp [h1]
  unfold cnt
  conv => rhs; rw [← e]
  rw [List.filter_map, List.length_map]
  rfl
end Km

/-! The base of this claim's walk: the text by places, what the top must hold, calls by name, evaluation of readings. -/
namespace Co
open PySem PySem.Spec PyProof.Rows L2 Evl Km

/-! ### the text by places -/
def top (i : Nat) : Stmt := PySem.Challenge.pw_coinroll_k08_whole_months_sum.main.body.getD i (.Pass ⟨0, 0, 0, 0⟩)

/-! ### ways and names as texts -/
def wtxt : Way → Str
  | .down => "down"
  | .up => "up"
  | .near => "near"
  | .even => "even"
def LET : Str := "abcdefghijklmnopqrstuvwxyz"
def NON : List Str := ["base", "net", "month", "sums"]
/-- a name that a rule may have -/
structure NameOk (n : Str) : Prop where
  lo : 1 ≤ n.length
  hi : n.length ≤ 8
  ab : ∀ c ∈ n.cps.toList, c ∈ LET.cps.toList
  no : n ∉ NON

/-! ### what the walk asks of the top -/
structure Blt (mg : Str → Option Value) : Prop where
  isinstance_ : mg "isinstance" = none
  int_ : mg "int" = none
  bool_ : mg "bool" = none
  str_ : mg "str" = none
  tuple_ : mg "tuple" = none
  list_ : mg "list" = none
  len_ : mg "len" = none
  all_ : mg "all" = none
  sum_ : mg "sum" = none
  min_ : mg "min" = none
  max_ : mg "max" = none
  divmod_ : mg "divmod" = none
  range_ : mg "range" = none
  zip_ : mg "zip" = none
  reversed_ : mg "reversed" = none
abbrev Held (mg : Str → Option Value) (x : Str) (v : V) : Prop := ∃ u, mg x = some u ∧ RelV v u
structure Gv (K : PySem.W.Frag) (mg : Str → Option Value) (aW aN : Addr) : Prop where
  letters : Held mg "LETTERS" (.str LET)
  signs : Held mg "MOST_SIGNS" (.int 8)
  whole : Held mg "WHOLE" (.int 10000)
  mpc : Held mg "MOST_PARTS_coins" (.int 20000)
  mpr : Held mg "MOST_PARTS_rules" (.int 20000)
  mamt : Held mg "MOST_AMOUNT" (.int 1000000000000)
  mdeep : Held mg "MOST_DEEP" (.int 3)
  mbands : Held mg "MOST_BANDS" (.int 12)
  ways : Held mg "WAYS" (.ref aW)
  nonames : Held mg "NO_NAMES" (.ref aN)
  wayT : ∀ H, SqT K H aW [.str "down", .str "up", .str "near", .str "even"]
  nonT : ∀ H, SqT K H aN [.str "base", .str "net", .str "month", .str "sums"]

/-! ### calls by name, by class, by method -/
structure Cal (P : Program) (w : World) (K : PySem.W.Frag) (mg : Str → Option Value) (base : Heap) (k : Nat) (x : Str) (sp : Sp) : Prop where
  ex : ∃ (f : Addr) (fd : FuncData) (ps : List Str), FnOk P w K mg base CX0 k f fd ps sp ∧ mg x = some (.ref f) ∧ PySem.W.keepIn K (.ref f) = true ∧ Binds K fd ps []
/-- a def of the module, as the top leaves it -/
structure Def (K : PySem.W.Frag) (mg : Str → Option Value) (x : Str) (st : Stmt) (ps : List Str) : Prop where
  ex : ∃ (f : Addr) (fd : FuncData), Fun K x x st f fd ∧ mg x = some (.ref f) ∧ Binds K fd ps []
section
variable {P : Program} {w : World} {K : PySem.W.Frag} {mg : Str → Option Value} {base : Heap}
theorem Cal.imp {k : Nat} {x : Str} {sp sp' : Sp} (c : Cal P w K mg base k x sp) (h : ∀ vs H Q E, sp' vs H Q E → sp vs H Q E) : Cal P w K mg base k x sp' := by
  obtain ⟨f, fd, ps, F, r⟩ := c.ex
  exact ⟨f, fd, ps, F.imp h, r⟩
theorem Cal.mono {j k : Nat} {x : Str} {sp : Sp} (c : Cal P w K mg base j x sp) (h : j ≤ k) : Cal P w K mg base k x sp := by
  obtain ⟨f, fd, ps, F, r⟩ := c.ex
  exact ⟨f, fd, ps, F.mono h, r⟩
/-- a def's promise by its body -/
theorem cal_of {x : Str} {st : Stmt} {N ps : List Str} {k : Nat} {sp : Sp} (D : Def K mg x st ps) (S : FnScope N ps (defScope st)) (len : ∀ vs H Q E, sp vs H Q E → vs.length = ps.length)
    (hbody : ∀ (f : Addr) (cdv : Value) (A : Around) (outer : List Env) (s : Shared) (H : Hp) (vs : List V) (Q : VK) (E : XK), Room k (A.deeper (envOfC x (defScope st) s.heap.objs.size f cdv)) → sp vs H Q E →
      ∃ t, PSs (cxOf CX0 P w K mg base N x (defScope st) f cdv A outer s H E).nox (defBody st) t ∧ t { nx := fun _ H' => Q .non H', rt := Q } (start N vs) H) : Cal P w K mg base (k + 1) x sp := by
  obtain ⟨f, fd, F, hm, hb⟩ := D.ex
  exact ⟨f, fd, ps, F.ok S len fun cdv A outer s H vs Q E hr h => hbody f cdv A outer s H vs Q E hr h, hm, F.kp, hb⟩
end
/-- a def at an address, as a class holds it -/
structure Fat (P : Program) (w : World) (K : PySem.W.Frag) (mg : Str → Option Value) (base : Heap) (k : Nat) (f : Addr) (sp : Sp) : Prop where
  ex : ∃ (data : FuncData) (params : List Str), FnOk P w K mg base CX0 k f data params sp ∧ PySem.W.keepIn K (.ref f) = true ∧ Binds K data params []
structure Dat (K : PySem.W.Frag) (x qual : Str) (st : Stmt) (f : Addr) (ps : List Str) : Prop where
  ex : ∃ fd : FuncData, Fun K x qual st f fd ∧ Binds K fd ps []
section
variable {P : Program} {w : World} {K : PySem.W.Frag} {mg : Str → Option Value} {base : Heap}
theorem Fat.imp {k : Nat} {f : Addr} {sp sp' : Sp} (c : Fat P w K mg base k f sp) (h : ∀ vs H Q E, sp' vs H Q E → sp vs H Q E) : Fat P w K mg base k f sp' := by
  obtain ⟨fd, ps, F, r⟩ := c.ex
  exact ⟨fd, ps, F.imp h, r⟩
theorem Fat.mono {j k : Nat} {f : Addr} {sp : Sp} (c : Fat P w K mg base j f sp) (h : j ≤ k) : Fat P w K mg base k f sp := by
  obtain ⟨fd, ps, F, r⟩ := c.ex
  exact ⟨fd, ps, F.mono h, r⟩
theorem fat_of {x qual : Str} {st : Stmt} {f : Addr} {N ps : List Str} {k : Nat} {sp : Sp} (D : Dat K x qual st f ps) (S : FnScope N ps (defScope st)) (len : ∀ vs H Q E, sp vs H Q E → vs.length = ps.length)
    (body : ∀ (cdv : Value) (A : Around) (outer : List Env) (s : Shared) (H : Hp) (vs : List V) (Q : VK) (E : XK), Room k (A.deeper (envOfC qual (defScope st) s.heap.objs.size f cdv)) → sp vs H Q E →
      ∃ t, PSs (cxOf CX0 P w K mg base N qual (defScope st) f cdv A outer s H E).nox (defBody st) t ∧ t { nx := fun _ H' => Q .non H', rt := Q } (start N vs) H) : Fat P w K mg base (k + 1) f sp := by
  obtain ⟨fd, F, hb⟩ := D.ex
  exact ⟨fd, ps, F.ok S len fun cdv A outer s H vs Q E hr h => body cdv A outer s H vs Q E hr h, F.kp, hb⟩
end
section
variable {X : Cx} {k j : Nat} {C f : Addr} {x m : Str} {sp : Sp} {p p1 pos apos : Pos} {e o : Expr} {es : List Expr} {ta : TE} {t : TA}
theorem pe_c (c : Cal X.prog X.w X.K X.mg X.base k x sp) (hr : Room j X.A) (hk : k ≤ j) (hg : Gl X x) (ha : PA X (e :: es) t)
    (dbg : (x == ("__debug__" : Str)) = false := by decide) (star : starEach (e :: es) X.env = (false, eval e X.env) :: starEach es X.env := by rfl) (plain : (backTo pos (starEach es X.env)).any (·.1) = false := by rfl) :
    PE X (.Call (.Name x p) (e :: es) [] pos) (tCall sp [] E0 t) := by
  obtain ⟨f, fd, ps, F, hm, kp, b⟩ := c.ex
  exact pe_call F (hr.mono hk) hg hm kp b .nil pass0 ha dbg star plain
/-- C(e, ..) -/
theorem pe_mk (M : PySem.W.makesIn X.K C = true ∧ PySem.W.findIn X.K (.ref C) "__init__" = some (some (.ref f)) ∧ PySem.W.isFn X.K (.ref f) = true ∧ PySem.W.keepIn X.K (.ref C) = true ∧ X.mg x = some (.ref C)) (c : Fat X.prog X.w X.K X.mg X.base k f sp) (hr : Room j X.A) (hk : k + 1 ≤ j) (hg : Gl X x) (ha : PA X (e :: es) t)
    (dbg : (x == ("__debug__" : Str)) = false := by decide) (star : starEach (e :: es) X.env = (false, eval e X.env) :: starEach es X.env := by rfl) (plain : (backTo pos (starEach es X.env)).any (·.1) = false := by rfl) :
    PE X (.Call (.Name x p) (e :: es) [] pos) (tMake C sp [] E0 t) := by
  obtain ⟨fd, ps, F, kp, b⟩ := c.ex
  exact pe_make ⟨M.1, M.2.1, M.2.2.1, M.2.2.2.1⟩ F (hr.mono hk) hg M.2.2.2.2 b .nil pass0 ha dbg star plain
/-- o.m(e, ..), o of the class at C -/
theorem pe_mt {pl : Sem Bool} (c : Cls X.K C) (hm : Meth X.K C m f) (F : Fat X.prog X.w X.K X.mg X.base k f sp) (hr : Room j X.A) (hk : k ≤ j) (he : PE X o ta) (ha : PA X (e :: es) t)
    (star : starEach (e :: es) X.env = (false, eval e X.env) :: starEach es X.env := by rfl) (plain : (backTo pos (starEach es X.env)).any (·.1) = false := by rfl)
    (tells : eval (.Call (.Attribute o m apos) (e :: es) [] pos) X.env = (do { let it ← eval o X.env; standAt apos.atName; let (g, front) ← holding [it] (getMethod it m pl); callWith pos g front (backTo pos (starEach (e :: es) X.env)) (backToKw pos (keywordEach [] X.env)) }) := by rfl) :
    PE X (.Call (.Attribute o m apos) (e :: es) [] pos) (tMeth C m sp [] E0 ta t) := by
  obtain ⟨fd, ps, F, kp, b⟩ := F.ex
  exact pe_meth (pl := pl) he c hm F (hr.mono hk) b .nil pass0 ha star plain tells
/-- one of several rules, the choice made where the state is known -/
theorem pe_ex {ι : Type} {e : Expr} {t : ι → TE} (h : ∀ i, PE X e (t i)) : PE X e (fun σ H Q => ∃ i, t i σ H Q) :=
  ⟨fun pins s σ H Q I q => let ⟨i, q⟩ := q; (h i).run pins s σ H Q I q⟩
/-- C.f(e, ..), C an own class by its name, f a def of it -/
structure CFn (K : PySem.W.Frag) (mg : Str → Option Value) (x : Str) (C : Addr) (m : Str) (f : Addr) : Prop where
  mgC : mg x = some (.ref C)
  rd : ∃ mc, ClX.CRead K C mc ∧ ClX.CVal K C mc m (.ref f) (.ref f)
theorem pe_cf {pl : Sem Bool} (c : CFn X.K X.mg x C m f) (F : Fat X.prog X.w X.K X.mg X.base k f sp) (hr : Room j X.A) (hk : k ≤ j) (hg : Gl X x) (ha : PA X (e :: es) t)
    (dbg : (x == ("__debug__" : Str)) = false := by decide)
    (star : starEach (e :: es) X.env = (false, eval e X.env) :: starEach es X.env := by rfl) (plain : (backTo pos (starEach es X.env)).any (·.1) = false := by rfl)
    (tells : eval (.Call (.Attribute (.Name x p1) m apos) (e :: es) [] pos) X.env = (do { let it ← eval (.Name x p1) X.env; standAt apos.atName; let (g, front) ← holding [it] (getMethod it m pl); callWith pos g front (backTo pos (starEach (e :: es) X.env)) (backToKw pos (keywordEach [] X.env)) }) := by rfl) :
    PE X (.Call (.Attribute (.Name x p1) m apos) (e :: es) [] pos) (tCall sp [] E0 t) := by
  obtain ⟨fd, ps, F, kp, b⟩ := F.ex
  obtain ⟨mc, r, v⟩ := c.rd
  refine ⟨fun pins s σ H Q I h => ?_⟩
  refine PySem.W.methodCall_KW (pl := pl) (thn ((pe_glob (v := .ref C) (pos := p1) hg c.mgC rfl dbg).run pins s σ H (fun v H1 => v = .ref C ∧ t σ H1 fun vs H2 => sp (vs ++ []) H2 Q E0) I ⟨rfl, h⟩) fun u s1 ⟨y, H1, I1, ry, ey, q⟩ => ?_) tells
  subst ey
  obtain rfl : u = Value.ref C := ry
  refine PySem.W.method_cls I1.kIn r.ga (ClX.getcval_ok I1 r v fun s2 I2 => ?_)
  refine PySem.W.callWith_K (first := []) (h₀ := X.base) I2.ok.mod.kin kp (thn (ha.run pos pins s2 σ H1 _ I2 q) fun us s3 ⟨vs, H2, I3, rr, q2⟩ => ⟨I3.kIn, ?_⟩) star plain
  exact run_fn F (hr.mono hk) b .nil pass0 I3 rr q2
end

/-- reading a constant the module holds -/
theorem pe_gc {X : Cx} {x : Str} {pos : Pos} {v : V} (hg : Gl X x) (h : Held X.mg x v) (hd : (x == ("__debug__" : Str)) = false := by decide) : PE X (.Name x pos) (tC v) := by
  obtain ⟨u, hm, r⟩ := h
  exact pe_glob hg hm r hd

/-! ### evaluation: what Evl has not -/
section
variable {K : PySem.W.Frag} {σ : L2.St} {H H' : Hp} {ta tb tc te tx : TE} {t u : TT} {x y z v : V} {r r' : R2}
theorem ev_fld {a C dx : Addr} {fs : List (Str × V)} {f : Str} (h : Ev ta σ H (.ref a)) (hi : H a = some (.ins C dx fs)) (c : Cls K C) (n : NoAttr K C f) (l : fs.lookup f = some v) : Ev (tFld K ta f) σ H v := fun H1 e Q q =>
  h H1 e _ fun H2 e2 => ⟨a, C, dx, fs, v, rfl, e2 _ _ (e _ _ hi), c, n, l, q H2 e2⟩
theorem ev_chain {b c : Bool} (ha : Ev ta σ H x) (hb : Ev tb σ H y) (hr : RV r x y H (.bl b)) (hc : b = true → Ev tc σ H z) (hr' : b = true → RV r' y z H (.bl c)) : Ev (tChain r r' ta tb tc) σ H (.bl (b && c)) := fun H1 e Q q =>
  ha H1 e _ fun H2 e2 => hb H2 (e.trans e2) _ fun H3 e3 => hr H3 ((e.trans e2).trans e3) _ fun H4 e4 => ⟨b, rfl, by
    cases b with
    | true =>
      show tc σ H4 fun w' H4 => r' y w' H4 Q
      exact hc rfl H4 (((e.trans e2).trans e3).trans e4) _ fun H5 e5 => hr' rfl H5 ((((e.trans e2).trans e3).trans e4).trans e5) _ fun H6 e6 => q H6 ((((e2.trans e3).trans e4).trans e5).trans e6)
    | false =>
      show Q (.bl false) H4
      exact q H4 ((e2.trans e3).trans e4)⟩
theorem ev_mth {C a dx : Addr} {m : Str} {sp : Sp} {E : XK} {fs : List (Str × V)} {tg : TA} {vs : List V} (h : Ev ta σ H (.ref a)) (hi : H a = some (.ins C dx fs)) (hl : fs.lookup m = none) (hv : EvA tg σ H vs) (hs : SpV sp (.ref a :: vs) H z) : Ev (tMeth C m sp [] E ta tg) σ H z := fun H1 e Q q =>
  h H1 e _ fun H2 e2 => ⟨a, dx, fs, rfl, e2 _ _ (e _ _ hi), hl, hv H2 (e.trans e2) _ fun H3 e3 => by
    rw [List.append_nil]
    exact hs H3 ((e.trans e2).trans e3) Q (fun H4 e4 => q H4 ((e2.trans e3).trans e4)) E⟩
theorem ev_ex {ι : Type} {t : ι → TE} (i : ι) (h : Ev (t i) σ H v) : Ev (fun σ H Q => ∃ i, t i σ H Q) σ H v := fun H1 e Q q => ⟨i, h H1 e Q q⟩
theorem ev_callx {sp : Sp} {vs : List V} {E : XK} {tg : TA} (h : EvA tg σ H vs) (hs : SpV sp vs H z) : Ev (tCall sp [] E tg) σ H z := ev_call h (by rw [List.append_nil]; exact hs)
theorem rv_addS {a b : Str} (h : a.length + b.length ≤ 100000) : RV (fun x y H Q => ∃ i j, x = V.str i ∧ y = V.str j ∧ i.length + j.length ≤ sizeLine ∧ Q (.str (i ++ j)) H) (.str a) (.str b) H (.str (a ++ b)) :=
  fun H1 _ _ q => ⟨a, b, rfl, rfl, sz_of h, q H1 (Ex.refl H1)⟩
theorem rv_inS {c : Nat} {w : Str} : RV (fun x y H Q => ∃ (c : Nat) (z : Str), x = V.str ⟨#[c]⟩ ∧ y = V.str z ∧ Q (.bl (decide (c ∈ z.cps.toList))) H) (.str ⟨#[c]⟩) (.str w) H (.bl (decide (c ∈ w.cps.toList))) :=
  fun H1 _ _ q => ⟨c, w, rfl, rfl, q H1 (Ex.refl H1)⟩
theorem rc_isi {c t : V} {tv u : Value} {b : Bool} (hc : ClsV c u) (ht : ∀ H1, Ex H H1 → TyX K H1 t tv) (hk : PySem.W.kitOne K tv u = some b) : RC (rIsi K) [t, c] H (.bl b) :=
  fun H1 e _ q => ⟨t, c, tv, u, b, rfl, hc, ht H1 e, hk, q H1 (Ex.refl H1)⟩
theorem rc_lenS {a : Str} (h : a.length ≤ 100000) : RC (fun xs H Q => ∃ z, xs = [V.str z] ∧ z.length ≤ sizeLine ∧ Q (.int z.length) H) [.str a] H (.int (a.length : Int)) :=
  fun H1 _ _ q => ⟨a, rfl, sz_of h, q H1 (Ex.refl H1)⟩
theorem rc_lenL {a : Addr} {xs : List V} (h : SqL K H a xs) : RC (fun zs H Q => ∃ p ys, zs = [V.ref p] ∧ (SqL K H p ys ∨ SqT K H p ys) ∧ Q (.int ys.length) H) [.ref a] H (.int (xs.length : Int)) :=
  fun H1 e _ q => ⟨a, xs, rfl, .inl (ex_l e h), q H1 (Ex.refl H1)⟩
theorem rc_lenT {a : Addr} {xs : List V} (h : SqT K H a xs) : RC (fun zs H Q => ∃ p ys, zs = [V.ref p] ∧ (SqL K H p ys ∨ SqT K H p ys) ∧ Q (.int ys.length) H) [.ref a] H (.int (xs.length : Int)) :=
  fun H1 e _ q => ⟨a, xs, rfl, .inr (ex_t e h), q H1 (Ex.refl H1)⟩
theorem rc_sum {a : Addr} {ns : List Int} (h : SqL K H a (ns.map V.int)) : RC (rSum K) [.ref a] H (.int ns.sum) := fun H1 e _ q => ⟨a, ns, rfl, ex_l e h, q H1 (Ex.refl H1)⟩
theorem rc_min {i j : Int} : RC (fun xs H Q => ∃ i j, xs = [V.int i, V.int j] ∧ Q (.int (if j < i then j else i)) H) [.int i, .int j] H (.int (if j < i then j else i)) := fun H1 _ _ q => ⟨i, j, rfl, q H1 (Ex.refl H1)⟩
theorem rc_max {i j : Int} : RC (fun xs H Q => ∃ i j, xs = [V.int i, V.int j] ∧ Q (.int (if j > i then j else i)) H) [.int i, .int j] H (.int (if j > i then j else i)) := fun H1 _ _ q => ⟨i, j, rfl, q H1 (Ex.refl H1)⟩
theorem rc_intB {b : Bool} : RC (fun xs H Q => (∃ i, xs = [V.int i] ∧ Q (.int i) H) ∨ ∃ k, xs = [V.bl k] ∧ Q (.int (if k then 1 else 0)) H) [.bl b] H (.int (if b then 1 else 0)) :=
  fun H1 _ _ q => .inr ⟨b, rfl, q H1 (Ex.refl H1)⟩
/-- len([..]) of a new list; all([..]) -/
theorem ev_lenNew {xs : List V} (ha : EvL ta σ H xs) : Ev (tCB (fun zs H Q => ∃ p ys, zs = [V.ref p] ∧ (SqL K H p ys ∨ SqT K H p ys) ∧ Q (.int ys.length) H) (tCons ta tNil)) σ H (.int (xs.length : Int)) := fun H1 e Q q =>
  ha H1 e _ fun p H2 _ e2 h2 => ⟨p, xs, rfl, .inl (sq_of h2), q H2 e2⟩
theorem ev_allNew {bs : List Bool} (ha : EvL ta σ H (bs.map V.bl)) : Ev (tCB (rAll K) (tCons ta tNil)) σ H (.bl (bs.all id)) := fun H1 e Q q =>
  ha H1 e _ fun p H2 _ e2 h2 => ⟨p, bs, rfl, sq_of h2, q H2 e2⟩
/-- [..][i], a new list read at once -/
theorem ev_ixNew {xs : List V} {i : Int} (ha : EvL ta σ H xs) (hb : Ev tb σ H (.int i)) (hv : atI xs i = some v) : Ev (tOp (rIxL K) ta tb) σ H v := fun H1 e Q q =>
  ha H1 e _ fun p H2 _ e2 h2 => hb H2 (e.trans e2) _ fun H3 e3 => ⟨p, xs, i, v, rfl, rfl, sq_of (e3 _ _ h2), hv, q H3 (e2.trans e3)⟩
theorem ev_slS {tl th : TO} {a : Str} {lo hi : Option Int} (h : Ev te σ H (.str a)) (h1 : EvO tl σ H lo) (h2 : EvO th σ H hi) (hz : a.length ≤ 100000) : Ev (tSl rSlS te tl th) σ H (.str (cutS a lo hi)) := fun H1 e _ q =>
  h H1 e _ fun H2 e2 => h1 H2 (e.trans e2) _ fun H3 e3 => h2 H3 ((e.trans e2).trans e3) _ fun H4 e4 => ⟨a, rfl, sz_of hz, q H4 ((e2.trans e3).trans e4)⟩
theorem eu_slT {tl th : TO} {a : Addr} {xs : List V} {lo hi : Option Int} (h : Ev te σ H (.ref a)) (h1 : EvO tl σ H lo) (h2 : EvO th σ H hi) (hs : SqT K H a xs) (hn : ¬ (HT.sIx xs.length 0 lo = 0 ∧ HT.sIx xs.length xs.length hi = xs.length)) : EvU (tSl (rSlT K) te tl th) σ H (cutV xs lo hi) := fun H1 e _ q => h H1 e _ fun H2 e2 => h1 H2 (e.trans e2) _ fun H3 e3 => h2 H3 ((e.trans e2).trans e3) _ fun H4 e4 => ⟨a, xs, rfl, ex_t (((e.trans e2).trans e3).trans e4) hs, hn, fun p hp => q p _ (fresh_back ((e2.trans e3).trans e4) hp) (((e2.trans e3).trans e4).trans (Ex.new hp)) upd_same⟩
theorem et_yes : EvT tYes σ H true := fun H1 _ _ q => q H1 (Ex.refl H1)
/-- a comprehension over a text, over a tuple -/
theorem el_lcS {z : Str} {tl : TE} {j : Nat} {vs : List Nat} (f : Nat → Bool) (v : Nat → V) (h : Ev tl σ H (.str z)) (hz : z.cps.size ≤ 40000) (hw : ∀ x, wipe ((wipe σ vs).set j (some x)) vs = wipe σ vs)
    (ht : ∀ (i : Nat) (c : Nat) H1, Ex H H1 → z.cps[i]? = some c → EvT t ((wipe σ vs).set j (some (.str ⟨#[c]⟩))) H1 (f i)) (he : ∀ (i : Nat) (c : Nat) H1, Ex H H1 → z.cps[i]? = some c → f i = true → Ev te ((wipe σ vs).set j (some (.str ⟨#[c]⟩))) H1 (v i)) :
    EvL (tLc (iStr tl) (gName j) t te vs) σ H (given z.cps.size f v) := fun H0 e Q q => h H0 e _ fun H1 e1 => ⟨z, rfl, fun Dl hD =>
  lc_it walk_str (Cw H1 f v Dl) ⟨hD, Ex.new hD, upd_same⟩ (fun _ _ _ _ => True.intro) (fun i x H2 H3 hi p y => by
    obtain ⟨rfl, c, hc, rfl⟩ := y
    exact ⟨hw _, cw_turn p (by omega) (ht i c H1 (e.trans e1) hc) (fun hf => he i c H1 (e.trans e1) hc hf)⟩) (fun H' p => q Dl H' (fresh_back e1 p.1) (e1.trans p.2.1) p.2.2)⟩
theorem el_lcT {a : Addr} {xs : List V} {tl : TE} {j : Nat} {vs : List Nat} (f : Nat → Bool) (v : Nat → V) (h : Ev tl σ H (.ref a)) (hx : SqT K H a xs) (hz : xs.length ≤ 40000) (hw : ∀ x, wipe ((wipe σ vs).set j (some x)) vs = wipe σ vs) (ht : ∀ (i : Nat) (x : V) H1, Ex H H1 → xs[i]? = some x → EvT t ((wipe σ vs).set j (some x)) H1 (f i)) (he : ∀ (i : Nat) (x : V) H1, Ex H H1 → xs[i]? = some x → f i = true → Ev te ((wipe σ vs).set j (some x)) H1 (v i)) :
    EvL (tLc (iTup K tl) (gName j) t te vs) σ H (given xs.length f v) := fun H0 e Q q => h H0 e _ fun H1 e1 => ⟨a, rfl, ⟨xs, ex_t (e.trans e1) hx⟩, fun Dl hD =>
  lc_tup (xs := xs) (Cw H1 f v Dl) ⟨hD, Ex.new hD, upd_same⟩ (fun i H' _ p => ex_t ((e.trans e1).trans p.2.1) hx) (fun i x H' hi p => ⟨hw x, cw_turn p (by have := (List.getElem?_eq_some_iff.mp hi).1; omega) (ht i x H1 (e.trans e1) hi) (fun hf => he i x H1 (e.trans e1) hi hf)⟩) (fun H' p => q Dl H' (fresh_back e1 p.1) (e1.trans p.2.1) p.2.2)⟩
/-- all turns give True -/
theorem given_all (n : Nat) : given n (fun _ => true) (fun _ => V.bl true) = (List.replicate n true).map V.bl := by
  induction n with
  | zero => rfl
  | succ n ih => rw [given_yes rfl, ih, List.replicate_succ', List.map_append]; rfl
theorem all_rep (n : Nat) : (List.replicate n true).all id = true := by
  rw [List.all_eq_true]
  intro x hx
  rw [(List.mem_replicate.mp hx).2]; rfl

/-! ### statements -/
variable {D : Ends} {tu tw tz : TS}
theorem s_fld {C a dx : Addr} {fs : List (Str × V)} {f : Str} {tv : TE} (hv : Ev tv σ H y) (ho : Ev ta σ H (.ref a)) (hi : H a = some (.ins C dx fs)) (c : Cls K C) (n : NoAttr K C f) (hl : fs.length < 1000) (k : ∀ H1, Ex H H1 → D.nx σ (upd H1 a (.ins C dx (putF f y fs)))) : sFld K ta tv f D σ H :=
  hv H (Ex.refl H) _ fun H1 e1 => ho H1 e1 _ fun H2 e2 => ⟨a, C, dx, fs, rfl, (e1.trans e2) _ _ hi, c, n, hl, k H2 (e1.trans e2)⟩
theorem q_fld {C a dx : Addr} {fs : List (Str × V)} {f : Str} {tv : TE} (hv : Ev tv σ H y) (ho : Ev ta σ H (.ref a)) (hi : H a = some (.ins C dx fs)) (c : Cls K C) (n : NoAttr K C f) (hl : fs.length < 1000) (k : ∀ H1, Ex H H1 → tz D σ (upd H1 a (.ins C dx (putF f y fs)))) : tSeq (sFld K ta tv f) tz D σ H :=
  s_fld (D := { D with nx := tz D }) hv ho hi c n hl k
/-- a test that is never true: raise behind it -/
theorem q_no (h : EvT t σ H false) (k : ∀ H1, Ex H H1 → tz D σ H1) : tSeq (tIfS t tu tNext) tz D σ H := q_when h (fun z => nomatch z) (fun _ => k)
theorem s_no (h : EvT t σ H false) (k : ∀ H1, Ex H H1 → D.nx σ H1) : tIfS t tu tNext D σ H := s_when h (fun z => nomatch z) (fun _ => k)
theorem putF_new {f : Str} {v : V} : ∀ {fs : List (Str × V)}, fs.lookup f = none → putF f v fs = fs ++ [(f, v)]
  | [], _ => rfl
  | (g, x) :: r, h => by
    rw [List.lookup_cons] at h
    by_cases e : g = f
    · rw [e, beq_self_eq_true] at h; cases h
    · have hb : (f == g) = false := beq_eq_false_iff_ne.mpr fun z => e z.symm
      rw [hb] at h
      show (if g = f then _ else (g, x) :: putF f v r) = _
      rw [if_neg e, putF_new h]; rfl
theorem lk_hd {k : Str} {v : V} {r : List (Str × V)} : ((k, v) :: r).lookup k = some v := by rw [List.lookup_cons, beq_self_eq_true]
theorem lk_tl {k g : Str} {v : V} {r : List (Str × V)} (h : (k == g) = false) : ((g, v) :: r).lookup k = r.lookup k := by rw [List.lookup_cons, h]
end
end Co

/-! names and coins -/
namespace Co
open PySem PySem.Spec PyProof.Rows L2 Evl Km
local macro_rules | `(tactic| walk_at "ev") => `(tactic| (repeat' (first
  | ((with_reducible apply ev_var); rfl) | ((with_reducible apply rv_eq); rfl) | ((with_reducible apply rv_ne); rfl)
  | with_reducible exact ev_c | with_reducible exact rv_I0 | with_reducible exact ea_nil | with_reducible exact et_yes | with_reducible exact eo_none | with_reducible exact rc_intB | with_reducible exact rc_min | with_reducible exact rc_max | with_reducible exact rv_inS
  | walk_at "sp"
  | with_reducible apply rv_I | with_reducible apply ev_op | with_reducible apply ev_un | with_reducible apply ev_callx | with_reducible apply ea_cons | with_reducible apply et_test | with_reducible apply et_B | with_reducible apply et_not | with_reducible apply ev_notV | with_reducible apply ev_cb | with_reducible apply eo_some | with_reducible apply ev_chain | with_reducible apply ev_andV | with_reducible apply ev_orV | with_reducible apply et_and | with_reducible apply et_or
  | with_reducible intro _)))
section
variable {P : Program} {w : World} {K : PySem.W.Frag} {mg : Str → Option Value} {base : Heap} {aW aN : Addr} {σ : L2.St} {H : Hp}
abbrev s_is_whole : Stmt := top 9
theorem sc_is_whole : FnScope ["thing"] ["thing"] (defScope s_is_whole) := ⟨rfl, rfl, rfl, by decide +kernel, rfl, by decide +kernel, by decide +kernel⟩
def sp_is_whole : Sp := fun vs H Q _ => ∃ i : Int, vs = [.int i] ∧ RetV (.bl true) H Q
theorem spv_is_whole {i : Int} : SpV sp_is_whole [.int i] H (.bl true) := fun H1 e Q q E => ⟨i, rfl, q⟩
local macro_rules | `(tactic| walk_at "sp") => `(tactic| with_reducible exact spv_is_whole)
theorem cal_is_whole (D : Def K mg "is_whole" s_is_whole ["thing"]) (B : Blt mg) : Cal P w K mg base 1 "is_whole" sp_is_whole := by
  refine cal_of D sc_is_whole (fun vs H Q E h => ?_) (fun f cdv A outer s H vs Q E hr h => ?_)
  · obtain ⟨i, rfl, _⟩ := h; rfl
  · obtain ⟨i, rfl, q⟩ := h
    refine ⟨_, (pss_one (ps_ret (pe_and (pe_callB call_isi (by rfl) B.isinstance_ (by decide +kernel) (pa_cons (pv 0) (pa_cons (pe_bltn (v := .ty "int") (by rfl) B.int_ (by decide +kernel) rfl) pa_nil))) (pe_one (pe_not (pe_callB call_isi (by rfl) B.isinstance_ (by decide +kernel) (pa_cons (pv 0) (pa_cons (pe_bltn (v := .ty "bool") (by rfl) B.bool_ (by decide +kernel) rfl) pa_nil)))))))), ?_⟩
    refine s_ret (ev_andV (a := true) ?_ fun _ => ev_notV (a := false) ?_) q
    · exact ev_cb (ea_cons (ev_var rfl) (ea_cons ev_c ea_nil)) (rc_isi (.ty "int") (fun _ _ => .base (.int i)) (kit_ty (by decide +kernel)))
    · exact ev_cb (ea_cons (ev_var rfl) (ea_cons ev_c ea_nil)) (rc_isi (.ty "bool") (fun _ _ => .base (.int i)) (kit_ty (by decide +kernel)))
abbrev s_is_among : Stmt := top 10
theorem sc_is_among : FnScope ["thing", "least", "most"] ["thing", "least", "most"] (defScope s_is_among) := ⟨rfl, rfl, rfl, by decide +kernel, rfl, by decide +kernel, by decide +kernel⟩
def sp_is_among : Sp := fun vs H Q _ => ∃ i a b : Int, vs = [.int i, .int a, .int b] ∧ RetV (.bl (decide (a ≤ i) && decide (i ≤ b))) H Q
theorem spv_is_among {i a b : Int} (h1 : a ≤ i) (h2 : i ≤ b) : SpV sp_is_among [.int i, .int a, .int b] H (.bl true) := fun H1 e Q q E => ⟨i, a, b, rfl, by
  rw [decide_eq_true h1, decide_eq_true h2]; exact q⟩
theorem cal_is_among (D : Def K mg "is_among" s_is_among ["thing", "least", "most"]) (c_is_whole : Cal P w K mg base 1 "is_whole" sp_is_whole) : Cal P w K mg base 2 "is_among" sp_is_among := by
  refine cal_of D sc_is_among (fun vs H Q E h => ?_) (fun f cdv A outer s H vs Q E hr h => ?_)
  · obtain ⟨i, a, b, rfl, _⟩ := h; rfl
  · obtain ⟨i, a, b, rfl, q⟩ := h
    refine ⟨_, (pss_one (ps_ret (pe_and (pe_c c_is_whole hr (by omega) rfl (pa_cons (pv 0) pa_nil)) (pe_one (pe_chain op_le op_le (pv 1) (pv 0) (pv 2)))))), ?_⟩
    refine s_ret ?_ q
    refine ev_is (ev_andV (a := true) ?_ fun _ => ?_) (by rw [Bool.true_and])
    · walk_at "ev"
    · walk_at "ev"
abbrev s_is_way : Stmt := top 17
theorem sc_is_way : FnScope ["thing"] ["thing"] (defScope s_is_way) := ⟨rfl, rfl, rfl, by decide +kernel, rfl, by decide +kernel, by decide +kernel⟩
def sp_is_way : Sp := fun vs H Q _ => ∃ y : Way, vs = [.str (wtxt y)] ∧ RetV (.bl true) H Q
theorem spv_is_way {y : Way} : SpV sp_is_way [.str (wtxt y)] H (.bl true) := fun H1 e Q q E => ⟨y, rfl, q⟩
local macro_rules | `(tactic| walk_at "sp") => `(tactic| with_reducible exact spv_is_way)
theorem way_in (y : Way) : inV (.str (wtxt y)) [.str "down", .str "up", .str "near", .str "even"] = true := by
  cases y <;> decide +kernel
theorem cal_is_way (D : Def K mg "is_way" s_is_way ["thing"]) (B : Blt mg) (G : Gv K mg aW aN) : Cal P w K mg base 1 "is_way" sp_is_way := by
  refine cal_of D sc_is_way (fun vs H Q E h => ?_) (fun f cdv A outer s H vs Q E hr h => ?_)
  · obtain ⟨y, rfl, _⟩ := h; rfl
  · obtain ⟨y, rfl, q⟩ := h
    refine ⟨_, (pss_one (ps_ret (pe_and (pe_callB call_isi (by rfl) B.isinstance_ (by decide +kernel) (pa_cons (pv 0) (pa_cons (pe_bltn (v := .ty "str") (by rfl) B.str_ (by decide +kernel) rfl) pa_nil))) (pe_one (pe_cmpR op_in_seq (pv 0) (pe_gc rfl G.ways) (by rfl)))))), ?_⟩
    refine s_ret (ev_is (ev_andV (a := true) ?_ fun _ => ev_op (ev_var rfl) ev_c (rv_isT (G.wayT _) rfl rfl)) (by rw [way_in]; rfl)) q
    exact ev_cb (ea_cons (ev_var rfl) (ea_cons ev_c ea_nil)) (rc_isi (.ty "str") (fun _ _ => .base (.str _)) (kit_ty (by decide +kernel)))
abbrev s_need_amount : Stmt := top 18
theorem sc_need_amount : FnScope ["thing"] ["thing"] (defScope s_need_amount) := ⟨rfl, rfl, rfl, by decide +kernel, rfl, by decide +kernel, by decide +kernel⟩
def sp_need_amount : Sp := fun vs H Q _ => ∃ i : Int, vs = [.int i] ∧ RetV .non H Q
theorem spv_need_amount {i : Int} : SpV sp_need_amount [.int i] H .non := fun H1 e Q q E => ⟨i, rfl, q⟩
local macro_rules | `(tactic| walk_at "sp") => `(tactic| with_reducible exact spv_need_amount)
theorem cal_need_amount (D : Def K mg "need_amount" s_need_amount ["thing"]) (c_is_whole : Cal P w K mg base 1 "is_whole" sp_is_whole) : Cal P w K mg base 2 "need_amount" sp_need_amount := by
  refine cal_of D sc_need_amount (fun vs H Q E h => ?_) (fun f cdv A outer s H vs Q E hr h => ?_)
  · obtain ⟨i, rfl, _⟩ := h; rfl
  · obtain ⟨i, rfl, q⟩ := h
    refine ⟨_, (pss_one (ps_if (pt_not (pt_val (pe_c c_is_whole hr (by omega) rfl (pa_cons (pv 0) pa_nil))))
 (pss_one ps_never) pss_nil)), ?_⟩
    refine s_no (et_not (a := true) ?_) q
    walk_at "ev"
theorem wt_eq {y z : Way} (h : wtxt y = wtxt z) : y = z := by
  cases y <;> cases z <;> first | rfl | exact absurd h (by decide +kernel)
theorem dv_str {y z : Way} : decide (V.str (wtxt y) = V.str (wtxt z)) = decide (y = z) := by
  by_cases h : y = z
  · rw [h, decide_eq_true rfl, decide_eq_true rfl]
  · rw [decide_eq_false h, decide_eq_false fun q => h (wt_eq (V.str.inj q))]
theorem dv_down {y : Way} : decide (V.str (wtxt y) = V.str "down") = decide (y = .down) := dv_str (z := .down)
theorem dv_up {y : Way} : decide (V.str (wtxt y) = V.str "up") = decide (y = .up) := dv_str (z := .up)
theorem dv_near {y : Way} : decide (V.str (wtxt y) = V.str "near") = decide (y = .near) := dv_str (z := .near)
theorem dv_even {y : Way} : decide (V.str (wtxt y) = V.str "even") = decide (y = .even) := dv_str (z := .even)
theorem dv_int {i j : Int} : decide (V.int i = V.int j) = decide (i = j) := by
  by_cases h : i = j
  · rw [h, decide_eq_true rfl, decide_eq_true rfl]
  · rw [decide_eq_false h, decide_eq_false fun q => h (V.int.inj q)]
abbrev s_rounded : Stmt := top 19
theorem sc_rounded : FnScope ["number", "way", "whole", "rest"] ["number", "way"] (defScope s_rounded) := ⟨rfl, rfl, rfl, by decide +kernel, rfl, by decide +kernel, by decide +kernel⟩
def sp_rounded : Sp := fun vs H Q _ => ∃ (n : Int) (y : Way), vs = [.int n, .str (wtxt y)] ∧ 0 ≤ n ∧ RetV (.int (rnd n y)) H Q
theorem spv_rounded {n : Int} {y : Way} (h : 0 ≤ n) : SpV sp_rounded [.int n, .str (wtxt y)] H (.int (rnd n y)) := fun H1 e Q q E => ⟨n, y, rfl, h, q⟩
theorem cal_rounded (D : Def K mg "rounded" s_rounded ["number", "way"]) (B : Blt mg) (G : Gv K mg aW aN) (c_is_way : Cal P w K mg base 1 "is_way" sp_is_way) (c_need_amount : Cal P w K mg base 2 "need_amount" sp_need_amount) : Cal P w K mg base 3 "rounded" sp_rounded := by
  refine cal_of D sc_rounded (fun vs H Q E h => ?_) (fun f cdv A outer s H vs Q E hr h => ?_)
  · obtain ⟨n, y, rfl, _⟩ := h; rfl
  · obtain ⟨n, y, rfl, hn, q⟩ := h
    refine ⟨_, (pss_cons (ps_expr (pe_c c_need_amount hr (by omega) rfl (pa_cons (pv 0) pa_nil)))
 (pss_cons (ps_if (pt_not (pt_val (pe_c c_is_way hr (by omega) rfl (pa_cons (pv 1) pa_nil))))
 (pss_one ps_never) pss_nil)
 (pss_cons (ps_asg (pe_callB call_divmod (by rfl) B.divmod_ (by decide +kernel) (pa_cons (pv 0) (pa_cons (pe_gc rfl G.whole) pa_nil))) (pg_tup rfl (pgs_cons (pg_name (i := 2) sc_rounded.nd rfl (Or.inl rfl)) (pgs_cons (pg_name (i := 3) sc_rounded.nd rfl (Or.inl rfl)) pgs_nil))))
 (pss_cons (ps_if (PW.pt (pw_or (pt_cmpR op_eq (pv 3) pe_int (nomark _)) (pw_or1 (pt_cmpR op_eq (pv 1) pe_str (nomark _)))))
 (pss_one (ps_ret (pv 2))) pss_nil)
 (pss_cons (ps_if (PW.pt (pw_or (pt_cmpR op_eq (pv 1) pe_str (nomark _)) (pw_or1 (pt_cmpR op_gt (pe_op op_mul pe_int (pv 3)) (pe_gc rfl G.whole) (nomark _)))))
 (pss_one (ps_ret (pe_op op_add (pv 2) pe_int))) pss_nil)
 (pss_cons (ps_if (pt_cmpR op_lt (pe_op op_mul pe_int (pv 3)) (pe_gc rfl G.whole) (nomark _))
 (pss_one (ps_ret (pv 2))) pss_nil)
 (pss_cons (ps_if (pt_cmpR op_eq (pv 1) pe_str (nomark _))
 (pss_one (ps_ret (pe_op op_add (pv 2) (pe_op op_mod (pv 2) pe_int)))) pss_nil)
 (pss_one (ps_ret (pe_op op_add (pv 2) (pe_callTy call_int1 (by rfl) B.int_ (by decide +kernel) (pa_cons (pe_cmpR op_gt (pv 0) pe_int (nomark _)) pa_nil)))))))))))), ?_⟩
    refine q_drop (v := .non) (by walk_at "ev") fun H1 e1 => ?_
    refine q_no (et_not (a := true) (et_B (by walk_at "ev"))) fun H2 e2 => ?_
    refine ⟨_, rfl, n, 10000, rfl, ⟨by decide, by decide⟩, fun p hp => ⟨p, [.int (n / 10000), .int (n % 10000)], rfl, .inl (.inl upd_same), rfl, _, _, rfl, _, _, rfl, rfl, ?_⟩⟩
    have e3 : Ex H (upd H2 p (.tup [.int (n / 10000), .int (n % 10000)])) := (e1.trans e2).trans (Ex.new hp)
    dsimp only
    refine q_when (b := decide (n % 10000 = 0) || decide (y = .down)) ?_ (fun hb H4 e4 => ?_) (fun hb H4 e4 => ?_)
    · rw [← dv_int, ← dv_down]
      walk_at "ev"
    · have hb' : n % 10000 = 0 ∨ y = .down := by simpa using hb
      refine s_ret (ev_var rfl) fun H5 e5 => ?_
      rw [← rnd_1 hb']
      exact q _ ((e3.trans e4).trans e5)
    have hb1 : ¬ (n % 10000 = 0 ∨ y = .down) := by simpa using hb
    refine q_when (b := decide (y = .up) || decide (10000 < 2 * (n % 10000))) ?_ (fun hb H5 e5 => ?_) (fun hb H5 e5 => ?_)
    · rw [← dv_up]
      walk_at "ev"
      exact .inl ⟨by decide, by decide⟩
    · have hb' : y = .up ∨ 10000 < 2 * (n % 10000) := by simpa using hb
      refine s_ret (v := .int (rnd n y)) ?_ fun H6 e6 => q _ (((e3.trans e4).trans e5).trans e6)
      rw [rnd_2 hb1 hb']
      walk_at "ev"
    have hb2 : ¬ (y = .up ∨ 10000 < 2 * (n % 10000)) := by simpa using hb
    refine q_when (b := decide (2 * (n % 10000) < 10000)) ?_ (fun hb H6 e6 => ?_) (fun hb H6 e6 => ?_)
    · walk_at "ev"
      exact .inl ⟨by decide, by decide⟩
    · have hb' : 2 * (n % 10000) < 10000 := of_decide_eq_true hb
      refine s_ret (ev_var rfl) fun H7 e7 => ?_
      rw [← rnd_3 hb2 hb']
      exact q _ ((((e3.trans e4).trans e5).trans e6).trans e7)
    have hb3 : ¬ 2 * (n % 10000) < 10000 := of_decide_eq_false hb
    refine q_when (b := decide (y = .even)) ?_ (fun hb H7 e7 => ?_) (fun hb H7 e7 => ?_)
    · rw [← dv_even]
      walk_at "ev"
    · have hb' : y = .even := of_decide_eq_true hb
      subst hb'
      refine s_ret (v := .int (rnd n .even)) ?_ fun H8 e8 => q _ (((((e3.trans e4).trans e5).trans e6).trans e7).trans e8)
      rw [rnd_4 (fun z => hb2 (Or.inr z)) hb3]
      walk_at "ev"
      decide
    · have hb' : y = .near := way_last hb1 hb2 (of_decide_eq_false hb)
      subst hb'
      refine s_ret (v := .int (rnd n .near)) ?_ fun H8 e8 => q _ (((((e3.trans e4).trans e5).trans e6).trans e7).trans e8)
      rw [rnd_5 hn hb3]
      walk_at "ev"
abbrev s_share_of : Stmt := top 20
theorem sc_share_of : FnScope ["amount", "parts", "way"] ["amount", "parts", "way"] (defScope s_share_of) := ⟨rfl, rfl, rfl, by decide +kernel, rfl, by decide +kernel, by decide +kernel⟩
def sp_share_of : Sp := fun vs H Q _ => ∃ (a p : Int) (y : Way), vs = [.int a, .int p, .str (wtxt y)] ∧ 0 ≤ a ∧ PartsOk p ∧ RetV (.int (rnd (a * p) y)) H Q
theorem spv_share_of {a p : Int} {y : Way} (h : 0 ≤ a) (hp : PartsOk p) : SpV sp_share_of [.int a, .int p, .str (wtxt y)] H (.int (rnd (a * p) y)) := fun H1 e Q q E => ⟨a, p, y, rfl, h, hp, q⟩
theorem cal_share_of (D : Def K mg "share_of" s_share_of ["amount", "parts", "way"]) (G : Gv K mg aW aN) (c_need_amount : Cal P w K mg base 2 "need_amount" sp_need_amount) (c_is_among : Cal P w K mg base 2 "is_among" sp_is_among) (c_rounded : Cal P w K mg base 3 "rounded" sp_rounded) : Cal P w K mg base 4 "share_of" sp_share_of := by
  refine cal_of D sc_share_of (fun vs H Q E h => ?_) (fun f cdv A outer s H vs Q E hr h => ?_)
  · obtain ⟨a, p, y, rfl, _⟩ := h; rfl
  · obtain ⟨a, p, y, rfl, ha, hp, q⟩ := h
    refine ⟨_, (pss_cons (ps_expr (pe_c c_need_amount hr (by omega) rfl (pa_cons (pv 0) pa_nil)))
 (pss_cons (ps_if (pt_not (pt_val (pe_c c_is_among hr (by omega) rfl (pa_cons (pv 1) (pa_cons pe_int (pa_cons (pe_gc rfl G.mpc) pa_nil))))))
 (pss_one ps_never) pss_nil)
 (pss_one (ps_ret (pe_c c_rounded hr (by omega) rfl (pa_cons (pe_op op_mul (pv 0) (pv 1)) (pa_cons (pv 2) pa_nil))))))), ?_⟩
    refine q_drop (v := .non) (by walk_at "ev") fun H1 e1 => ?_
    refine q_no (et_not (a := true) (et_B (ev_callx ?_ (spv_is_among hp.1 hp.2)))) fun H2 e2 => ?_
    · walk_at "ev"
    refine s_ret (ev_callx ?_ (spv_rounded (Int.mul_nonneg ha hp.1))) fun H3 e3 => q _ ((e1.trans e2).trans e3)
    walk_at "ev"
    exact .inr ⟨by have := hp.1; omega, by have := hp.2; omega⟩
abbrev s_need_parts : Stmt := top 25
theorem sc_need_parts : FnScope ["thing"] ["thing"] (defScope s_need_parts) := ⟨rfl, rfl, rfl, by decide +kernel, rfl, by decide +kernel, by decide +kernel⟩
def sp_need_parts : Sp := fun vs H Q _ => ∃ p : Int, vs = [.int p] ∧ PartsOk p ∧ RetV .non H Q
theorem spv_need_parts {p : Int} (h : PartsOk p) : SpV sp_need_parts [.int p] H .non := fun H1 e Q q E => ⟨p, rfl, h, q⟩
theorem cal_need_parts (D : Def K mg "need_parts" s_need_parts ["thing"]) (G : Gv K mg aW aN) (c_is_among : Cal P w K mg base 2 "is_among" sp_is_among) : Cal P w K mg base 3 "need_parts" sp_need_parts := by
  refine cal_of D sc_need_parts (fun vs H Q E h => ?_) (fun f cdv A outer s H vs Q E hr h => ?_)
  · obtain ⟨p, rfl, _⟩ := h; rfl
  · obtain ⟨p, rfl, hp, q⟩ := h
    refine ⟨_, (pss_one (ps_if (pt_not (pt_val (pe_c c_is_among hr (by omega) rfl (pa_cons (pv 0) (pa_cons pe_int (pa_cons (pe_gc rfl G.mpr) pa_nil))))))
 (pss_one ps_never) pss_nil)), ?_⟩
    refine s_no (et_not (a := true) (et_B (ev_callx ?_ (spv_is_among hp.1 hp.2)))) q
    walk_at "ev"
abbrev s_need_rule_amount : Stmt := top 27
theorem sc_need_rule_amount : FnScope ["thing"] ["thing"] (defScope s_need_rule_amount) := ⟨rfl, rfl, rfl, by decide +kernel, rfl, by decide +kernel, by decide +kernel⟩
def sp_need_rule_amount : Sp := fun vs H Q _ => ∃ p : Int, vs = [.int p] ∧ AmtOk p ∧ RetV .non H Q
theorem spv_need_rule_amount {p : Int} (h : AmtOk p) : SpV sp_need_rule_amount [.int p] H .non := fun H1 e Q q E => ⟨p, rfl, h, q⟩
theorem cal_need_rule_amount (D : Def K mg "need_rule_amount" s_need_rule_amount ["thing"]) (G : Gv K mg aW aN) (c_is_among : Cal P w K mg base 2 "is_among" sp_is_among) : Cal P w K mg base 3 "need_rule_amount" sp_need_rule_amount := by
  refine cal_of D sc_need_rule_amount (fun vs H Q E h => ?_) (fun f cdv A outer s H vs Q E hr h => ?_)
  · obtain ⟨p, rfl, _⟩ := h; rfl
  · obtain ⟨p, rfl, hp, q⟩ := h
    refine ⟨_, (pss_one (ps_if (pt_not (pt_val (pe_c c_is_among hr (by omega) rfl (pa_cons (pv 0) (pa_cons pe_int (pa_cons (pe_gc rfl G.mamt) pa_nil))))))
 (pss_one ps_never) pss_nil)), ?_⟩
    refine s_no (et_not (a := true) (et_B (ev_callx ?_ (spv_is_among hp.1 hp.2)))) q
    walk_at "ev"
abbrev s_need_way : Stmt := top 26
theorem sc_need_way : FnScope ["thing"] ["thing"] (defScope s_need_way) := ⟨rfl, rfl, rfl, by decide +kernel, rfl, by decide +kernel, by decide +kernel⟩
def sp_need_way : Sp := fun vs H Q _ => ∃ y : Way, vs = [.str (wtxt y)] ∧ RetV .non H Q
theorem spv_need_way {y : Way} : SpV sp_need_way [.str (wtxt y)] H .non := fun H1 e Q q E => ⟨y, rfl, q⟩
theorem cal_need_way (D : Def K mg "need_way" s_need_way ["thing"]) (c_is_way : Cal P w K mg base 1 "is_way" sp_is_way) : Cal P w K mg base 2 "need_way" sp_need_way := by
  refine cal_of D sc_need_way (fun vs H Q E h => ?_) (fun f cdv A outer s H vs Q E hr h => ?_)
  · obtain ⟨y, rfl, _⟩ := h; rfl
  · obtain ⟨y, rfl, q⟩ := h
    refine ⟨_, (pss_one (ps_if (pt_not (pt_val (pe_c c_is_way hr (by omega) rfl (pa_cons (pv 0) pa_nil))))
 (pss_one ps_never) pss_nil)), ?_⟩
    refine s_no (et_not (a := true) (et_B ?_)) q
    walk_at "ev"
abbrev s_is_of : Stmt := top 11
theorem sc_is_of : FnScope ["thing", "signs", "sign"] ["thing", "signs"] (defScope s_is_of) := ⟨rfl, rfl, rfl, by decide +kernel, rfl, by decide +kernel, by decide +kernel⟩
def sp_is_of : Sp := fun vs H Q _ => ∃ n z : Str, vs = [.str n, .str z] ∧ 1 ≤ n.length ∧ n.length ≤ 8 ∧ (∀ c ∈ n.cps.toList, c ∈ z.cps.toList) ∧ RetV (.bl true) H Q
theorem spv_is_of {n z : Str} (h1 : 1 ≤ n.length) (h2 : n.length ≤ 8) (h3 : ∀ c ∈ n.cps.toList, c ∈ z.cps.toList) : SpV sp_is_of [.str n, .str z] H (.bl true) := fun H1 e Q q E => ⟨n, z, rfl, h1, h2, h3, q⟩
theorem cal_is_of (D : Def K mg "is_of" s_is_of ["thing", "signs"]) (B : Blt mg) (G : Gv K mg aW aN) : Cal P w K mg base 1 "is_of" sp_is_of := by
  refine cal_of D sc_is_of (fun vs H Q E h => ?_) (fun f cdv A outer s H vs Q E hr h => ?_)
  · obtain ⟨n, z, rfl, _⟩ := h; rfl
  · obtain ⟨n, z, rfl, h1, h2, h3, q⟩ := h
    refine ⟨_, (pss_cons (ps_if (PW.pt (pw_or (pt_not (pt_val (pe_callB call_isi (by rfl) B.isinstance_ (by decide +kernel) (pa_cons (pv 0) (pa_cons (pe_bltn (v := .ty "str") (by rfl) B.str_ (by decide +kernel) rfl) pa_nil))))) (pw_or1 (pt_not (pt_chain op_le op_le pe_int (pe_callB call_len_str (by rfl) B.len_ (by decide +kernel) (pa_cons (pv 0) pa_nil)) (pe_gc rfl G.signs))))))
 (pss_one (ps_ret pe_bl)) pss_nil)
 (pss_one (ps_ret (pe_callB (cr_all rfl) (by rfl) B.all_ (by decide +kernel) (pa_cons (pe_lc (own := [("sign", 2)]) rfl sc_is_of.nd (pi_str (pv 0)) (blkOk_by (own := [("sign", 2)]) (N := ["thing", "signs", "sign"]) (sc := defScope s_is_of) (by decide +kernel)) (fun _ _ _ _ _ => pg_name (i := 2) sc_is_of.nd rfl (Or.inl rfl)) (fun _ _ _ _ _ => pts_nil) (fun _ _ _ _ _ => (pe_cmpR op_in_sign (pv 2) (pv 1) (by rfl)))) pa_nil))))), ?_⟩
    refine q_no (et_is (et_or (a := false) (et_not (a := true) (et_B (ev_cb (ea_cons (ev_var rfl) (ea_cons ev_c ea_nil)) (rc_isi (.ty "str") (fun _ _ => .base (.str _)) (kit_ty (by decide +kernel)))))) fun _ =>
      et_not (et_test (ev_chain (b := decide ((1 : Int) ≤ (n.length : Int))) (c := decide ((n.length : Int) ≤ 8)) ev_c (ev_cb (ea_cons (ev_var rfl) ea_nil) (rc_lenS (by omega))) rv_I0 (fun _ => ev_c) (fun _ => rv_I0)))) ?_) fun H1 e1 => ?_
    · rw [decide_eq_true (show (1 : Int) ≤ (n.length : Int) by omega), decide_eq_true (show (n.length : Int) ≤ 8 by omega)]; rfl
    refine s_ret (ev_is (ev_allNew (bs := List.replicate n.cps.size true) ?_) (by rw [all_rep])) fun H2 e2 => q _ (e1.trans e2)
    rw [← given_all]
    have hz : n.cps.size ≤ 40000 := Nat.le_trans h2 (by decide)
    refine el_lcS (fun _ => true) (fun _ => .bl true) (ev_var rfl) hz (fun _ => rfl) (fun _ _ _ _ _ => et_yes) (fun i c H3 e3 hc _ => ?_)
    rw [← Array.getElem?_toList] at hc
    have hm := h3 c (List.mem_of_getElem? hc)
    exact ev_is (ev_op (ev_var rfl) (ev_var rfl) rv_inS) (by rw [decide_eq_true hm])
abbrev s_is_name : Stmt := top 12
theorem sc_is_name : FnScope ["thing"] ["thing"] (defScope s_is_name) := ⟨rfl, rfl, rfl, by decide +kernel, rfl, by decide +kernel, by decide +kernel⟩
def sp_is_name : Sp := fun vs H Q _ => ∃ n : Str, vs = [.str n] ∧ NameOk n ∧ RetV (.bl true) H Q
theorem spv_is_name {n : Str} (h : NameOk n) : SpV sp_is_name [.str n] H (.bl true) := fun H1 e Q q E => ⟨n, rfl, h, q⟩
theorem cal_is_name (D : Def K mg "is_name" s_is_name ["thing"]) (G : Gv K mg aW aN) (c_is_of : Cal P w K mg base 1 "is_of" sp_is_of) : Cal P w K mg base 2 "is_name" sp_is_name := by
  refine cal_of D sc_is_name (fun vs H Q E h => ?_) (fun f cdv A outer s H vs Q E hr h => ?_)
  · obtain ⟨n, rfl, _⟩ := h; rfl
  · obtain ⟨n, rfl, h, q⟩ := h
    refine ⟨_, (pss_one (ps_ret (pe_c c_is_of hr (by omega) rfl (pa_cons (pv 0) (pa_cons (pe_gc rfl G.letters) pa_nil))))), ?_⟩
    refine s_ret (ev_callx ?_ (spv_is_of h.lo h.hi h.ab)) q
    walk_at "ev"
abbrev s_months_with : Stmt := top 28
theorem sc_months_with : FnScope ["bases", "base"] ["bases"] (defScope s_months_with) := ⟨rfl, rfl, rfl, by decide +kernel, rfl, by decide +kernel, by decide +kernel⟩
def sp_months_with : Sp := fun vs H Q _ => ∃ (a : Addr) (bs : List Int), vs = [.ref a] ∧ H a = some (.lst (bs.map V.int)) ∧ bs.length ≤ 1000 ∧ RetV (.int (cnt bs)) H Q
theorem spv_months_with {a : Addr} {bs : List Int} (h : H a = some (.lst (bs.map V.int))) (hl : bs.length ≤ 1000) : SpV sp_months_with [.ref a] H (.int (cnt bs)) := fun H1 e Q q E => ⟨a, bs, rfl, e _ _ h, hl, q⟩
theorem at_int {bs : List Int} {i : Nat} {x : V} (h : (bs.map V.int)[i]? = some x) : x = .int (bs.getD i 0) := by
  rw [List.getElem?_map] at h
  cases e : bs[i]? with
  | none => rw [e] at h; cases h
  | some z =>
    rw [e] at h
    have : x = .int z := (Option.some.inj h).symm
    rw [this, List.getD_eq_getElem?_getD, e]; rfl
theorem cal_months_with (D : Def K mg "months_with" s_months_with ["bases"]) (B : Blt mg) : Cal P w K mg base 1 "months_with" sp_months_with := by
  refine cal_of D sc_months_with (fun vs H Q E h => ?_) (fun f cdv A outer s H vs Q E hr h => ?_)
  · obtain ⟨a, bs, rfl, _⟩ := h; rfl
  · obtain ⟨a, bs, rfl, hS, hl, q⟩ := h
    refine ⟨_, (pss_one (ps_ret (pe_callB call_len_seq (by rfl) B.len_ (by decide +kernel) (pa_cons (pe_lc (own := [("base", 1)]) rfl sc_months_with.nd (pi_list (pv 0)) (blkOk_by (own := [("base", 1)]) (N := ["bases", "base"]) (sc := defScope s_months_with) (by decide +kernel)) (fun _ _ _ _ _ => pg_name (i := 1) sc_months_with.nd rfl (Or.inl rfl)) (fun _ _ _ _ _ => (pts_one (pt_cmpR op_gt (pv 1) pe_int (nomark _)))) (fun _ _ _ _ _ => (pv 1))) pa_nil)))), ?_⟩
    refine s_ret (ev_is (ev_lenNew (el_lcL (xs := bs.map V.int) (fun i => decide (0 < bs.getD i 0)) (fun i => .int (bs.getD i 0)) (ev_var rfl) (sq_of hS) (by rw [List.length_map]; omega) (fun _ => rfl) (fun i x H1 e1 hx => ?_) (fun i x H1 e1 hx hf => ?_))) ?_) q
    · rw [at_int hx]
      walk_at "ev"
    · rw [at_int hx]
      walk_at "ev"
    · unfold given
      rw [List.length_map, List.length_map, cnt_range]
end
end Co

/-! rules as objects -/
namespace Co
open PySem PySem.Spec PyProof.Rows L2 Evl Km
local macro_rules | `(tactic| walk_at "ev") => `(tactic| (repeat' (first
  | ((with_reducible apply ev_var); rfl) | ((with_reducible apply rv_eq); rfl) | ((with_reducible apply rv_ne); rfl)
  | with_reducible exact ev_c | with_reducible exact rv_I0 | with_reducible exact ea_nil | with_reducible exact et_yes | with_reducible exact eo_none | with_reducible exact rc_intB | with_reducible exact rc_min | with_reducible exact rc_max | with_reducible exact rv_inS
  | walk_at "sp"
  | with_reducible apply rv_I | with_reducible apply ev_op | with_reducible apply ev_un | with_reducible apply ev_callx | with_reducible apply ea_cons | with_reducible apply et_test | with_reducible apply et_B | with_reducible apply et_not | with_reducible apply ev_notV | with_reducible apply ev_cb | with_reducible apply eo_some | with_reducible apply ev_chain | with_reducible apply ev_andV | with_reducible apply ev_orV | with_reducible apply et_and | with_reducible apply et_or
  | with_reducible intro _)))
local macro_rules | `(tactic| walk_at "sp") => `(tactic| with_reducible exact spv_is_whole)
local macro_rules | `(tactic| walk_at "sp") => `(tactic| with_reducible exact spv_is_way)
local macro_rules | `(tactic| walk_at "sp") => `(tactic| with_reducible exact spv_need_way)
local macro_rules | `(tactic| walk_at "sp") => `(tactic| with_reducible exact spv_need_amount)
/-! ### what stands in the heap -/
/-- rows of bands, a tuple of pairs -/
def RowsAt (H : Hp) (t : Addr) (rows : List (Int × Int)) : Prop := ∃ rs : List Addr, H t = some (.tup (rs.map V.ref)) ∧ rs.length = rows.length ∧ ∀ (i : Nat) (x : Int × Int), rows[i]? = some x → ∃ a, rs[i]? = some a ∧ H a = some (.tup [.int x.1, .int x.2])
theorem RowsAt.mono {H H' : Hp} {t : Addr} {rows : List (Int × Int)} (e : Ex H H') (h : RowsAt H t rows) : RowsAt H' t rows := by
  obtain ⟨rs, h1, h2, h3⟩ := h
  exact ⟨rs, e _ _ h1, h2, fun i x hx => let ⟨a, h4, h5⟩ := h3 i x hx; ⟨a, h4, e _ _ h5⟩⟩
def flds (n : Str) (q : Addr) : Rl → List (Str × V)
  | .flat a => [("name", .str n), ("amount", .int a)]
  | .share p y => [("name", .str n), ("parts", .int p), ("way", .str (wtxt y))]
  | .capped p m y => [("name", .str n), ("parts", .int p), ("way", .str (wtxt y)), ("most", .int m)]
  | .least p l y => [("name", .str n), ("parts", .int p), ("way", .str (wtxt y)), ("least", .int l)]
  | .bands _ y => [("name", .str n), ("bands", .ref q), ("way", .str (wtxt y))]
  | .ontop p y _ => [("name", .str n), ("parts", .int p), ("way", .str (wtxt y)), ("under", .ref q)]
/-- a rule stands at p -/
def RuleAt (cA : Kd → Addr) (H : Hp) (n : Str) : Rl → Addr → Prop
  | .flat a, p => ∃ dx q, H p = some (.ins (cA .flat) dx (flds n q (.flat a)))
  | .share a y, p => ∃ dx q, H p = some (.ins (cA .share) dx (flds n q (.share a y)))
  | .capped a m y, p => ∃ dx q, H p = some (.ins (cA .capped) dx (flds n q (.capped a m y)))
  | .least a l y, p => ∃ dx q, H p = some (.ins (cA .least) dx (flds n q (.least a l y)))
  | .bands rows y, p => ∃ dx q, H p = some (.ins (cA .bands) dx (flds n q (.bands rows y))) ∧ RowsAt H q rows
  | .ontop a y r, p => ∃ dx q, H p = some (.ins (cA .ontop) dx (flds n q (.ontop a y r))) ∧ RuleAt cA H n r q
theorem RuleAt.mono {cA : Kd → Addr} {H H' : Hp} {n : Str} (e : Ex H H') : ∀ {r : Rl} {p : Addr}, RuleAt cA H n r p → RuleAt cA H' n r p
  | .flat _, _, ⟨dx, q, h⟩ => ⟨dx, q, e _ _ h⟩
  | .share _ _, _, ⟨dx, q, h⟩ => ⟨dx, q, e _ _ h⟩
  | .capped _ _ _, _, ⟨dx, q, h⟩ => ⟨dx, q, e _ _ h⟩
  | .least _ _ _, _, ⟨dx, q, h⟩ => ⟨dx, q, e _ _ h⟩
  | .bands _ _, _, ⟨dx, q, h, h2⟩ => ⟨dx, q, e _ _ h, h2.mono e⟩
  | .ontop _ _ _, _, ⟨dx, q, h, h2⟩ => ⟨dx, q, e _ _ h, RuleAt.mono e h2⟩
theorem RuleAt.ins {cA : Kd → Addr} {H : Hp} {n : Str} : ∀ {r : Rl} {p : Addr}, RuleAt cA H n r p → ∃ dx q, H p = some (.ins (cA r.kd) dx (flds n q r))
  | .flat _, _, ⟨dx, q, h⟩ => ⟨dx, q, h⟩
  | .share _ _, _, ⟨dx, q, h⟩ => ⟨dx, q, h⟩
  | .capped _ _ _, _, ⟨dx, q, h⟩ => ⟨dx, q, h⟩
  | .least _ _ _, _, ⟨dx, q, h⟩ => ⟨dx, q, h⟩
  | .bands _ _, _, ⟨dx, q, h, _⟩ => ⟨dx, q, h⟩
  | .ontop _ _ _, _, ⟨dx, q, h, _⟩ => ⟨dx, q, h⟩
/-! a name that no rule has as a field -/
theorem fl_no {n : Str} {q : Addr} {m : Str} (r : Rl) (h1 : (m == "name") = false) (h2 : (m == "amount") = false) (h3 : (m == "parts") = false) (h4 : (m == "way") = false) (h5 : (m == "most") = false) (h6 : (m == "least") = false) (h7 : (m == "bands") = false) (h8 : (m == "under") = false) : (flds n q r).lookup m = none := by
  cases r <;> (unfold flds; repeat (first | rfl | rw [lk_tl h1] | rw [lk_tl h2] | rw [lk_tl h3] | rw [lk_tl h4] | rw [lk_tl h5] | rw [lk_tl h6] | rw [lk_tl h7] | rw [lk_tl h8]))
theorem fl_until {n : Str} {q : Addr} (r : Rl) : (flds n q r).lookup ("until" : Str) = none := fl_no r (by decide +kernel) (by decide +kernel) (by decide +kernel) (by decide +kernel) (by decide +kernel) (by decide +kernel) (by decide +kernel) (by decide +kernel)
theorem fl_counted {n : Str} {q : Addr} (r : Rl) : (flds n q r).lookup ("counted" : Str) = none := fl_no r (by decide +kernel) (by decide +kernel) (by decide +kernel) (by decide +kernel) (by decide +kernel) (by decide +kernel) (by decide +kernel) (by decide +kernel)
theorem fl_of_month {n : Str} {q : Addr} (r : Rl) : (flds n q r).lookup ("of_month" : Str) = none := fl_no r (by decide +kernel) (by decide +kernel) (by decide +kernel) (by decide +kernel) (by decide +kernel) (by decide +kernel) (by decide +kernel) (by decide +kernel)
theorem kn1 : (("way" : Str) == "name") = false := by decide +kernel
theorem kn2 : (("way" : Str) == "parts") = false := by decide +kernel
theorem kn3 : (("way" : Str) == "bands") = false := by decide +kernel
theorem kn4 : (("parts" : Str) == "name") = false := by decide +kernel
theorem kn5 : (("amount" : Str) == "name") = false := by decide +kernel
theorem kn6 : (("bands" : Str) == "name") = false := by decide +kernel
theorem kn7 : (("most" : Str) == "name") = false := by decide +kernel
theorem kn8 : (("most" : Str) == "parts") = false := by decide +kernel
theorem kn9 : (("most" : Str) == "way") = false := by decide +kernel
theorem kn10 : (("least" : Str) == "name") = false := by decide +kernel
theorem kn11 : (("least" : Str) == "parts") = false := by decide +kernel
theorem kn12 : (("least" : Str) == "way") = false := by decide +kernel
theorem kn13 : (("under" : Str) == "name") = false := by decide +kernel
theorem kn14 : (("under" : Str) == "parts") = false := by decide +kernel
theorem kn15 : (("under" : Str) == "way") = false := by decide +kernel
local macro_rules | `(tactic| walk_at "lk") => `(tactic| (repeat (first | exact lk_hd | (show List.lookup _ [] = _; rfl) | rw [lk_tl kn1] | rw [lk_tl kn2] | rw [lk_tl kn3] | rw [lk_tl kn4] | rw [lk_tl kn5] | rw [lk_tl kn6] | rw [lk_tl kn7] | rw [lk_tl kn8] | rw [lk_tl kn9] | rw [lk_tl kn10] | rw [lk_tl kn11] | rw [lk_tl kn12] | rw [lk_tl kn13] | rw [lk_tl kn14] | rw [lk_tl kn15])))
/-! ### what the classes must be -/
structure Ct (K : PySem.W.Frag) (mg : Str → Option Value) (cA : Kd → Addr) (cR cS fRi fSi : Addr) : Prop where
  cl : ∀ k, Cls K (cA k)
  n_name : ∀ k, NoAttr K (cA k) "name"
  n_amount : ∀ k, NoAttr K (cA k) "amount"
  n_parts : ∀ k, NoAttr K (cA k) "parts"
  n_way : ∀ k, NoAttr K (cA k) "way"
  n_most : ∀ k, NoAttr K (cA k) "most"
  n_least : ∀ k, NoAttr K (cA k) "least"
  n_bands : ∀ k, NoAttr K (cA k) "bands"
  n_under : ∀ k, NoAttr K (cA k) "under"
  ha : ∀ k, PySem.W.findIn K (.ref (cA k)) "__class__" = some (some (.builtin "object.__class__"))
  (htk : PySem.W.takesIn K (.builtin "object.__class__") = some true) (hn : PySem.W.specialIn K (.builtin "object.__class__") "__get__" = some (some (.builtin "getset_descriptor.__get__")))
  hm : ∀ k, PySem.W.mroIn K (cA k) (.type "object") = some true
  isR : ∀ k, PySem.W.kitOne K (.ref (cA k)) (.ref cR) = some true
  isO : ∀ k, PySem.W.kitOne K (.ref (cA k)) (.ref (cA .ontop)) = some (decide (k = .ontop))
  mg_Rule : mg "Rule" = some (.ref cR)
  mg_Share : mg "Share" = some (.ref cS)
  mg_OnTop : mg "OnTop" = some (.ref (cA .ontop))
  ci_Rule : CFn K mg "Rule" cR "__init__" fRi
  ci_Share : CFn K mg "Share" cS "__init__" fSi
/-- a method that each kind has, its promise by the kind -/
structure Um (P : Program) (w : World) (K : PySem.W.Frag) (mg : Str → Option Value) (base : Heap) (cA : Kd → Addr) (k : Nat) (m : Str) (sp : Kd → Sp) : Prop where
  ex : ∀ kd, ∃ f, Meth K (cA kd) m f ∧ Fat P w K mg base k f (sp kd)
theorem pe_um {X : Cx} {cA : Kd → Addr} {cR cS fRi fSi : Addr} {k j : Nat} {m : Str} {sp : Kd → Sp} {pos apos : Pos} {e o : Expr} {es : List Expr} {ta : TE} {t : TA} {pl : Sem Bool} (T : Ct X.K X.mg cA cR cS fRi fSi) (u : Um X.prog X.w X.K X.mg X.base cA k m sp) (hr : Room j X.A) (hk : k ≤ j) (kd : Kd) (he : PE X o ta) (ha : PA X (e :: es) t)
    (star : starEach (e :: es) X.env = (false, eval e X.env) :: starEach es X.env := by rfl) (plain : (backTo pos (starEach es X.env)).any (·.1) = false := by rfl)
    (tells : eval (.Call (.Attribute o m apos) (e :: es) [] pos) X.env = (do { let it ← eval o X.env; standAt apos.atName; let (g, front) ← holding [it] (getMethod it m pl); callWith pos g front (backTo pos (starEach (e :: es) X.env)) (backToKw pos (keywordEach [] X.env)) }) := by rfl) :
    PE X (.Call (.Attribute o m apos) (e :: es) [] pos) (tMeth (cA kd) m (sp kd) [] E0 ta t) := by
  obtain ⟨f, hm, F⟩ := u.ex kd
  exact pe_mt (pl := pl) (T.cl kd) hm F hr hk he ha star plain tells
/-- all but the object at x is as it was -/
def ExB (x : Addr) (H H' : Hp) : Prop := ∀ b o, b ≠ x → H b = some o → H' b = some o
theorem ExB.of {x : Addr} {H H' : Hp} (e : Ex H H') : ExB x H H' := fun b o _ h => e b o h
theorem ExB.trans {x : Addr} {H H1 H2 : Hp} (a : ExB x H H1) (b : ExB x H1 H2) : ExB x H H2 := fun c o n h => b c o n (a c o n h)
theorem ExB.upd {x : Addr} {H : Hp} {o : HO} : ExB x H (L2.upd H x o) := fun b u n h => by rw [upd_ne n]; exact h
section
variable {P : Program} {w : World} {K : PySem.W.Frag} {mg : Str → Option Value} {base : Heap} {aW aN : Addr} {σ : L2.St} {H : Hp} {cA : Kd → Addr} {cR cS fRi fSi : Addr}
theorem ty_rule (T : Ct K mg cA cR cS fRi fSi) {n : Str} {r : Rl} {p : Addr} (h : RuleAt cA H n r p) : TyX K H (.ref p) (.ref (cA r.kd)) := by
  obtain ⟨dx, q, e⟩ := h.ins
  exact .base (.ins e (T.cl _) (T.ha _) T.hn T.htk (T.hm _))
/-- a call as a statement, the callee's promise behind it -/
theorem q_callE {sp : Sp} {vs : List V} {E : XK} {tg : TA} {D : Ends} {tz : TS} (h : EvA tg σ H vs) (k : ∀ H1, Ex H H1 → sp vs H1 (fun _ H2 => tz D σ H2) E) : tSeq (tDrop (tCall sp [] E tg)) tz D σ H :=
  h H (Ex.refl H) _ fun H1 e => by
    rw [List.append_nil]
    exact k H1 e
abbrev s_Rule_init : Stmt := inClass (top 29) 0
theorem sc_Rule_init : FnScope ["self", "name"] ["self", "name"] (defScope s_Rule_init) := ⟨rfl, rfl, rfl, by decide +kernel, rfl, by decide +kernel, by decide +kernel⟩
def sp_Rule_init (cA : Kd → Addr) : Sp := fun vs H Q _ => ∃ (x dx : Addr) (k : Kd) (n : Str), vs = [.ref x, .str n] ∧ H x = some (.ins (cA k) dx []) ∧ NameOk n ∧ ∀ H2, ExB x H H2 → H2 x = some (.ins (cA k) dx [("name", .str n)]) → Q .non H2
theorem non_not {n : Str} (h : n ∉ NON) : inV (.str n) [.str "base", .str "net", .str "month", .str "sums"] = false := by
  have e : ∀ z : Str, z ∈ NON → eqV (.str z) (.str n) = false := fun z hz => beq_eq_false_iff_ne.mpr fun q => h (q ▸ hz)
  show (eqV _ _ || (eqV _ _ || (eqV _ _ || (eqV _ _ || false)))) = false
  rw [e "base" (by unfold NON; simp), e "net" (by unfold NON; simp), e "month" (by unfold NON; simp), e "sums" (by unfold NON; simp)]
  rfl
theorem fat_Rule_init (D : Dat K "__init__" "Rule.__init__" s_Rule_init fRi ["self", "name"]) (G : Gv K mg aW aN) (T : Ct K mg cA cR cS fRi fSi) (c_is_name : Cal P w K mg base 2 "is_name" sp_is_name) : Fat P w K mg base 3 fRi (sp_Rule_init cA) := by
  refine fat_of D sc_Rule_init (fun vs H Q E h => ?_) (fun cdv A outer s H vs Q E hr h => ?_)
  · obtain ⟨x, dx, k, n, rfl, _⟩ := h; rfl
  · obtain ⟨x, dx, k, n, rfl, hx, hn, q⟩ := h
    refine ⟨_, (pss_cons (ps_if (PW.pt (pw_or (pt_not (pt_val (pe_c c_is_name hr (by omega) rfl (pa_cons (pv 1) pa_nil)))) (pw_or1 (pt_cmpR op_in_seq (pv 1) (pe_gc rfl G.nonames) (by rfl)))))
 (pss_one ps_never) pss_nil)
 (pss_one (ps_fld (pv 0) (pv 1) rfl))), ?_⟩
    refine q_no (et_is (et_or (a := false) (et_not (a := true) (et_B (ev_callx (ea_cons (ev_var rfl) ea_nil) (spv_is_name hn)))) fun _ => et_test (ev_op (ev_var rfl) ev_c (rv_isT (G.nonT _) rfl rfl))) (by rw [non_not hn.no]; rfl)) fun H1 e1 => ?_
    refine s_fld (ev_var rfl) (ev_var rfl) (e1 _ _ hx) (T.cl k) (T.n_name k) (by show 0 < 1000; decide) fun H2 e2 => ?_
    exact q _ ((ExB.of (e1.trans e2)).trans .upd) upd_same
abbrev s_Flat_init : Stmt := inClass (top 30) 0
theorem sc_Flat_init : FnScope ["self", "name", "amount"] ["self", "name", "amount"] (defScope s_Flat_init) := ⟨rfl, rfl, rfl, by decide +kernel, rfl, by decide +kernel, by decide +kernel⟩
def sp_Flat_init (cA : Kd → Addr) : Sp := fun vs H Q _ => ∃ (x dx : Addr) (n : Str) (a : Int), vs = [.ref x, .str n, .int a] ∧ H x = some (.ins (cA .flat) dx []) ∧ NameOk n ∧ AmtOk a ∧ ∀ H2, ExB x H H2 → H2 x = some (.ins (cA .flat) dx (flds n 0 (.flat a))) → Q .non H2
theorem fat_Flat_init {f : Addr} (D : Dat K "__init__" "Flat.__init__" s_Flat_init f ["self", "name", "amount"]) (T : Ct K mg cA cR cS fRi fSi) (c_Rule_init : Fat P w K mg base 3 fRi (sp_Rule_init cA)) (c_need_rule_amount : Cal P w K mg base 3 "need_rule_amount" sp_need_rule_amount) : Fat P w K mg base 4 f (sp_Flat_init cA) := by
  refine fat_of D sc_Flat_init (fun vs H Q E h => ?_) (fun cdv A outer s H vs Q E hr h => ?_)
  · obtain ⟨x, dx, n, a, rfl, _⟩ := h; rfl
  · obtain ⟨x, dx, n, a, rfl, hx, hn, ha, q⟩ := h
    refine ⟨_, (pss_cons (ps_expr (pe_cf T.ci_Rule c_Rule_init hr (by omega) rfl (pa_cons (pv 0) (pa_cons (pv 1) pa_nil))))
 (pss_cons (ps_expr (pe_c c_need_rule_amount hr (by omega) rfl (pa_cons (pv 2) pa_nil)))
 (pss_one (ps_fld (pv 0) (pv 2) rfl)))), ?_⟩
    refine q_callE (ea_cons (ev_var rfl) (ea_cons (ev_var rfl) ea_nil)) fun H1 e1 => ⟨x, dx, .flat, n, rfl, e1 _ _ hx, hn, fun H2 b2 h2 => ?_⟩
    refine q_drop (ev_callx (ea_cons (ev_var rfl) ea_nil) (spv_need_rule_amount ha)) fun H3 e3 => ?_
    refine s_fld (ev_var rfl) (ev_var rfl) (e3 _ _ h2) (T.cl _) (T.n_amount _) (by show 1 < 1000; decide) fun H4 e4 => ?_
    refine q _ ((((ExB.of e1).trans b2).trans (ExB.of (e3.trans e4))).trans .upd) ?_
    rw [upd_same, putF_new (by walk_at "lk")]; rfl
abbrev s_Share_init : Stmt := inClass (top 31) 0
theorem sc_Share_init : FnScope ["self", "name", "parts", "way"] ["self", "name", "parts", "way"] (defScope s_Share_init) := ⟨rfl, rfl, rfl, by decide +kernel, rfl, by decide +kernel, by decide +kernel⟩
def sp_Share_init (cA : Kd → Addr) : Sp := fun vs H Q _ => ∃ (x dx : Addr) (k : Kd) (n : Str) (a : Int) (y : Way), vs = [.ref x, .str n, .int a, .str (wtxt y)] ∧ H x = some (.ins (cA k) dx []) ∧ NameOk n ∧ PartsOk a ∧ ∀ H2, ExB x H H2 → H2 x = some (.ins (cA k) dx (flds n 0 (.share a y))) → Q .non H2
theorem fat_Share_init (D : Dat K "__init__" "Share.__init__" s_Share_init fSi ["self", "name", "parts", "way"]) (T : Ct K mg cA cR cS fRi fSi) (c_Rule_init : Fat P w K mg base 3 fRi (sp_Rule_init cA)) (c_need_parts : Cal P w K mg base 3 "need_parts" sp_need_parts) (c_need_way : Cal P w K mg base 2 "need_way" sp_need_way) : Fat P w K mg base 4 fSi (sp_Share_init cA) := by
  refine fat_of D sc_Share_init (fun vs H Q E h => ?_) (fun cdv A outer s H vs Q E hr h => ?_)
  · obtain ⟨x, dx, k, n, a, y, rfl, _⟩ := h; rfl
  · obtain ⟨x, dx, k, n, a, y, rfl, hx, hn, ha, q⟩ := h
    refine ⟨_, (pss_cons (ps_expr (pe_cf T.ci_Rule c_Rule_init hr (by omega) rfl (pa_cons (pv 0) (pa_cons (pv 1) pa_nil))))
 (pss_cons (ps_expr (pe_c c_need_parts hr (by omega) rfl (pa_cons (pv 2) pa_nil)))
 (pss_cons (ps_expr (pe_c c_need_way hr (by omega) rfl (pa_cons (pv 3) pa_nil)))
 (pss_cons (ps_fld (pv 0) (pv 2) rfl)
 (pss_one (ps_fld (pv 0) (pv 3) rfl)))))), ?_⟩
    refine q_callE (ea_cons (ev_var rfl) (ea_cons (ev_var rfl) ea_nil)) fun H1 e1 => ⟨x, dx, k, n, rfl, e1 _ _ hx, hn, fun H2 b2 h2 => ?_⟩
    refine q_drop (ev_callx (ea_cons (ev_var rfl) ea_nil) (spv_need_parts ha)) fun H3 e3 => ?_
    refine q_drop (ev_callx (ea_cons (ev_var rfl) ea_nil) spv_need_way) fun H4 e4 => ?_
    refine q_fld (ev_var rfl) (ev_var rfl) ((e3.trans e4) _ _ h2) (T.cl _) (T.n_parts _) (by show 1 < 1000; decide) fun H5 e5 => ?_
    refine s_fld (ev_var rfl) (ev_var rfl) upd_same (T.cl _) (T.n_way _) (by rw [putF_new (by walk_at "lk")]; show 2 < 1000; decide) fun H6 e6 => ?_
    refine q _ (((((ExB.of e1).trans b2).trans (ExB.of ((e3.trans e4).trans e5))).trans .upd).trans ((ExB.of e6).trans .upd)) ?_
    rw [upd_same, putF_new (by rw [putF_new (by walk_at "lk")]; show List.lookup _ (_ :: _ :: []) = _; walk_at "lk"), putF_new (by walk_at "lk")]; rfl
abbrev s_Capped_init : Stmt := inClass (top 32) 0
theorem sc_Capped_init : FnScope ["self", "name", "parts", "most", "way"] ["self", "name", "parts", "most", "way"] (defScope s_Capped_init) := ⟨rfl, rfl, rfl, by decide +kernel, rfl, by decide +kernel, by decide +kernel⟩
def sp_Capped_init (cA : Kd → Addr) : Sp := fun vs H Q _ => ∃ (x dx : Addr) (n : Str) (a m : Int) (y : Way), vs = [.ref x, .str n, .int a, .int m, .str (wtxt y)] ∧ H x = some (.ins (cA .capped) dx []) ∧ NameOk n ∧ PartsOk a ∧ AmtOk m ∧ ∀ H2, ExB x H H2 → H2 x = some (.ins (cA .capped) dx (flds n 0 (.capped a m y))) → Q .non H2
theorem fat_Capped_init {f : Addr} (D : Dat K "__init__" "Capped.__init__" s_Capped_init f ["self", "name", "parts", "most", "way"]) (T : Ct K mg cA cR cS fRi fSi) (c_Share_init : Fat P w K mg base 4 fSi (sp_Share_init cA)) (c_need_rule_amount : Cal P w K mg base 3 "need_rule_amount" sp_need_rule_amount) : Fat P w K mg base 5 f (sp_Capped_init cA) := by
  refine fat_of D sc_Capped_init (fun vs H Q E h => ?_) (fun cdv A outer s H vs Q E hr h => ?_)
  · obtain ⟨x, dx, n, a, m, y, rfl, _⟩ := h; rfl
  · obtain ⟨x, dx, n, a, m, y, rfl, hx, hn, ha, hm, q⟩ := h
    refine ⟨_, (pss_cons (ps_expr (pe_cf T.ci_Share c_Share_init hr (by omega) rfl (pa_cons (pv 0) (pa_cons (pv 1) (pa_cons (pv 2) (pa_cons (pv 4) pa_nil))))))
 (pss_cons (ps_expr (pe_c c_need_rule_amount hr (by omega) rfl (pa_cons (pv 3) pa_nil)))
 (pss_one (ps_fld (pv 0) (pv 3) rfl)))), ?_⟩
    refine q_callE (ea_cons (ev_var rfl) (ea_cons (ev_var rfl) (ea_cons (ev_var rfl) (ea_cons (ev_var rfl) ea_nil)))) fun H1 e1 => ⟨x, dx, .capped, n, a, y, rfl, e1 _ _ hx, hn, ha, fun H2 b2 h2 => ?_⟩
    refine q_drop (ev_callx (ea_cons (ev_var rfl) ea_nil) (spv_need_rule_amount hm)) fun H3 e3 => ?_
    refine s_fld (ev_var rfl) (ev_var rfl) (e3 _ _ h2) (T.cl _) (T.n_most _) (by show 3 < 1000; decide) fun H4 e4 => ?_
    refine q _ ((((ExB.of e1).trans b2).trans (ExB.of (e3.trans e4))).trans .upd) ?_
    rw [upd_same, putF_new (by unfold flds; walk_at "lk")]; rfl
abbrev s_Least_init : Stmt := inClass (top 33) 0
theorem sc_Least_init : FnScope ["self", "name", "parts", "least", "way"] ["self", "name", "parts", "least", "way"] (defScope s_Least_init) := ⟨rfl, rfl, rfl, by decide +kernel, rfl, by decide +kernel, by decide +kernel⟩
def sp_Least_init (cA : Kd → Addr) : Sp := fun vs H Q _ => ∃ (x dx : Addr) (n : Str) (a m : Int) (y : Way), vs = [.ref x, .str n, .int a, .int m, .str (wtxt y)] ∧ H x = some (.ins (cA .least) dx []) ∧ NameOk n ∧ PartsOk a ∧ AmtOk m ∧ ∀ H2, ExB x H H2 → H2 x = some (.ins (cA .least) dx (flds n 0 (.least a m y))) → Q .non H2
theorem fat_Least_init {f : Addr} (D : Dat K "__init__" "Least.__init__" s_Least_init f ["self", "name", "parts", "least", "way"]) (T : Ct K mg cA cR cS fRi fSi) (c_Share_init : Fat P w K mg base 4 fSi (sp_Share_init cA)) (c_need_rule_amount : Cal P w K mg base 3 "need_rule_amount" sp_need_rule_amount) : Fat P w K mg base 5 f (sp_Least_init cA) := by
  refine fat_of D sc_Least_init (fun vs H Q E h => ?_) (fun cdv A outer s H vs Q E hr h => ?_)
  · obtain ⟨x, dx, n, a, m, y, rfl, _⟩ := h; rfl
  · obtain ⟨x, dx, n, a, m, y, rfl, hx, hn, ha, hm, q⟩ := h
    refine ⟨_, (pss_cons (ps_expr (pe_cf T.ci_Share c_Share_init hr (by omega) rfl (pa_cons (pv 0) (pa_cons (pv 1) (pa_cons (pv 2) (pa_cons (pv 4) pa_nil))))))
 (pss_cons (ps_expr (pe_c c_need_rule_amount hr (by omega) rfl (pa_cons (pv 3) pa_nil)))
 (pss_one (ps_fld (pv 0) (pv 3) rfl)))), ?_⟩
    refine q_callE (ea_cons (ev_var rfl) (ea_cons (ev_var rfl) (ea_cons (ev_var rfl) (ea_cons (ev_var rfl) ea_nil)))) fun H1 e1 => ⟨x, dx, .least, n, a, y, rfl, e1 _ _ hx, hn, ha, fun H2 b2 h2 => ?_⟩
    refine q_drop (ev_callx (ea_cons (ev_var rfl) ea_nil) (spv_need_rule_amount hm)) fun H3 e3 => ?_
    refine s_fld (ev_var rfl) (ev_var rfl) (e3 _ _ h2) (T.cl _) (T.n_least _) (by show 3 < 1000; decide) fun H4 e4 => ?_
    refine q _ ((((ExB.of e1).trans b2).trans (ExB.of (e3.trans e4))).trans .upd) ?_
    rw [upd_same, putF_new (by unfold flds; walk_at "lk")]; rfl
abbrev s_deep_of : Stmt := top 36
theorem sc_deep_of : FnScope ["rule", "deep"] ["rule"] (defScope s_deep_of) := ⟨rfl, rfl, rfl, by decide +kernel, rfl, by decide +kernel, by decide +kernel⟩
def sp_deep_of (cA : Kd → Addr) : Sp := fun vs H Q _ => ∃ (p : Addr) (n : Str) (r : Rl), vs = [.ref p] ∧ RuleAt cA H n r p ∧ RetV (.int (r.deep : Int)) H Q
theorem spv_deep_of {p : Addr} {n : Str} {r : Rl} (h : RuleAt cA H n r p) : SpV (sp_deep_of cA) [.ref p] H (.int (r.deep : Int)) := fun H1 e Q q E => ⟨p, n, r, rfl, h.mono e, q⟩
theorem cal_deep_of (D : Def K mg "deep_of" s_deep_of ["rule"]) (B : Blt mg) (T : Ct K mg cA cR cS fRi fSi) : Cal P w K mg base 1 "deep_of" (sp_deep_of cA) := by
  refine cal_of D sc_deep_of (fun vs H Q E h => ?_) (fun f cdv A outer s H vs Q E hr h => ?_)
  · obtain ⟨p, n, r, rfl, _⟩ := h; rfl
  · obtain ⟨p, n, r, rfl, hp, q⟩ := h
    refine ⟨_, (pss_cons (ps_set (i := 1) sc_deep_of.nd rfl (Or.inl rfl) pe_int)
 (pss_cons (ps_while PassesOwn.never (pt_val (pe_callB call_isi (by rfl) B.isinstance_ (by decide +kernel) (pa_cons (pv 0) (pa_cons (pe_glob (v := .ref _) rfl T.mg_OnTop rfl) pa_nil))))
 (pss_cons (ps_aug (i := 1) sc_deep_of.nd rfl (Or.inl rfl) pe_int ip_add)
 (pss_one (ps_set (i := 0) sc_deep_of.nd rfl (Or.inl rfl) (pe_fld (pv 0) rfl)))))
 (pss_one (ps_ret (pv 1))))), ?_⟩
    refine q_asg ev_c fun H1 e1 => ?_
    refine q_while (fun m σ' H' => ∃ (r' : Rl) (p' : Addr) (d : Nat), σ' = [some (.ref p'), some (.int (d : Int))] ∧ Ex H H' ∧ RuleAt cA H' n r' p' ∧ m = r'.deep ∧ d + r'.deep = r.deep) r.deep ⟨r, p, 0, rfl, e1, hp.mono e1, rfl, by omega⟩ ?_
    rintro m σ' H' ⟨r', p', d, rfl, e2, h2, rfl, hd⟩
    refine ⟨decide (r'.kd = .ontop), et_B (ev_cb (ea_cons (ev_var rfl) (ea_cons ev_c ea_nil)) (rc_isi (.own _) (fun _ e => ty_rule T (h2.mono e)) (T.isO _))), fun hb H3 e3 => ?_, fun hb H3 e3 => ?_⟩
    · cases r' with
      | ontop a y r2 =>
        obtain ⟨dx, q2, h4, h5⟩ := h2.mono e3
        refine ⟨fun σ2 H2 => ∃ (d' : Nat), σ2 = [some (.ref q2), some (.int (d' : Int))] ∧ Ex H H2 ∧ RuleAt cA H2 n r2 q2 ∧ d' + r2.deep = r.deep, ?_, ?_⟩
        · rintro σ2 H2 ⟨d', rfl, f1, f2, f3⟩
          exact ⟨r2.deep, Nat.lt_succ_self _, r2, q2, d', rfl, f1, f2, rfl, f3⟩
        · refine q_aug (a := (d : Int)) (b := 1) rfl ev_c fun H4 e4 => ?_
          refine s_asg (ev_fld (ev_var rfl) (e4 _ _ h4) (T.cl _) (T.n_under _) (by unfold flds; walk_at "lk")) fun H5 e5 => ?_
          refine ⟨d + 1, rfl, ((e2.trans e3).trans e4).trans e5, h5.mono (e4.trans e5), ?_⟩
          have : (Rl.ontop a y r2).deep = r2.deep + 1 := rfl
          omega
      | flat a => exact absurd (of_decide_eq_true hb) (fun z => nomatch z)
      | share a y => exact absurd (of_decide_eq_true hb) (fun z => nomatch z)
      | capped a y z => exact absurd (of_decide_eq_true hb) (fun z => nomatch z)
      | least a y z => exact absurd (of_decide_eq_true hb) (fun z => nomatch z)
      | bands a y => exact absurd (of_decide_eq_true hb) (fun z => nomatch z)
    · have h0 : r'.deep = 0 := by
        cases r' with
        | ontop a y r2 => exact absurd rfl (of_decide_eq_false hb)
        | _ => rfl
      have hd2 : d = r.deep := by omega
      subst hd2
      exact s_ret (ev_var rfl) fun H4 e4 => q _ ((e2.trans e3).trans e4)
end
end Co

/-! what is due: until, of_month -/
namespace Co
open PySem PySem.Spec PyProof.Rows L2 Evl Km
local macro_rules | `(tactic| walk_at "ev") => `(tactic| (repeat' (first
  | ((with_reducible apply ev_var); rfl) | ((with_reducible apply rv_eq); rfl) | ((with_reducible apply rv_ne); rfl)
  | with_reducible exact ev_c | with_reducible exact rv_I0 | with_reducible exact ea_nil | with_reducible exact et_yes | with_reducible exact eo_none | with_reducible exact rc_intB | with_reducible exact rc_min | with_reducible exact rc_max | with_reducible exact rv_inS
  | walk_at "sp"
  | with_reducible apply rv_I | with_reducible apply ev_op | with_reducible apply ev_un | with_reducible apply ev_callx | with_reducible apply ea_cons | with_reducible apply et_test | with_reducible apply et_B | with_reducible apply et_not | with_reducible apply ev_notV | with_reducible apply ev_cb | with_reducible apply eo_some | with_reducible apply ev_chain | with_reducible apply ev_andV | with_reducible apply ev_orV | with_reducible apply et_and | with_reducible apply et_or
  | with_reducible intro _)))
local macro_rules | `(tactic| walk_at "sp") => `(tactic| with_reducible exact spv_is_whole)
local macro_rules | `(tactic| walk_at "sp") => `(tactic| with_reducible exact spv_is_way)
local macro_rules | `(tactic| walk_at "sp") => `(tactic| with_reducible exact spv_need_way)
local macro_rules | `(tactic| walk_at "sp") => `(tactic| with_reducible exact spv_need_amount)
local macro_rules | `(tactic| walk_at "lk") => `(tactic| (repeat (first | exact lk_hd | (show List.lookup _ [] = _; rfl) | rw [lk_tl kn1] | rw [lk_tl kn2] | rw [lk_tl kn3] | rw [lk_tl kn4] | rw [lk_tl kn5] | rw [lk_tl kn6] | rw [lk_tl kn7] | rw [lk_tl kn8] | rw [lk_tl kn9] | rw [lk_tl kn10] | rw [lk_tl kn11] | rw [lk_tl kn12] | rw [lk_tl kn13] | rw [lk_tl kn14] | rw [lk_tl kn15])))

theorem ex_of_b {H0 H H2 : Hp} {x : Addr} (e : Ex H0 H) (h0 : H0 x = none) (b : ExB x H H2) : Ex H0 H2 := fun c o h => b c o (by rintro rfl; rw [h0] at h; cases h) (e c o h)
/-- a new list as the second operand's place -/
theorem dp_ints (K : PySem.W.Frag) (H : Hp) : ∀ ns : List Int, DpAll K H (ns.map V.int) (ns.map PyData.int)
  | [] => .nil
  | n :: r => .cons (.int n) (dp_ints K H r)
theorem lay_ints : ∀ ns : List Int, PyData.canLayAll0 (ns.map PyData.int) = true
  | [] => rfl
  | n :: r => by
    show (PyData.canLay0 (.int n) && PyData.canLayAll0 (r.map PyData.int)) = true
    rw [lay_ints r]; rfl
theorem dep_ints : ∀ ns : List Int, PyData.depthAll (ns.map PyData.int) = 0
  | [] => rfl
  | n :: r => by
    show max (PyData.depth (.int n)) (PyData.depthAll (r.map PyData.int)) = 0
    rw [dep_ints r]; rfl
theorem shaped_ints (ns : List Int) : SeqAt.shaped (.list (ns.map PyData.int)) = true := by
  show (PyData.canLayAll0 (ns.map PyData.int) && decide (PyData.depthAll (ns.map PyData.int) + 1 ≤ 64)) = true
  rw [lay_ints, dep_ints]; rfl
theorem rv_eqNil {K : PySem.W.Frag} {H : Hp} {a b : Addr} {ns : List Int} (ha : H a = some (.lst (ns.map V.int))) (hb : H b = some (.lst [])) : RV (rEqD K) (.ref a) (.ref b) H (.bl ns.isEmpty) := fun H1 e Q q => by
  refine ⟨.list (ns.map PyData.int), .list [], .lst (sq_of (e _ _ ha)) (dp_ints K H1 ns), .lst (sq_of (e _ _ hb)) .nil, shaped_ints ns, rfl, ?_⟩
  have : PyData.eqv (.list (ns.map PyData.int)) (.list []) = ns.isEmpty := by cases ns <;> rfl
  rw [this]
  exact q H1 (Ex.refl H1)
theorem cut_last (bs : List Int) : cutV (bs.map V.int) none (some (-1)) = bs.dropLast.map V.int := by
  have h2 : HT.sIx (bs.map V.int).length (bs.map V.int).length (some (-1)) = bs.length - 1 := by
    rw [List.length_map]
    show (if (-1 : Int) < 0 then ((-1 : Int) + (bs.length : Int)).toNat else min (-1 : Int).toNat bs.length) = _
    rw [if_pos (by decide)]; omega
  unfold cutV
  rw [h2, HT.sIx_none, List.drop_zero, Nat.sub_zero, List.dropLast_eq_take, List.map_take]
/-- the bases of some months, a list of its own -/
structure BasesAt (H : Hp) (a : Addr) (bs : List Int) : Prop where
  at_ : H a = some (.lst (bs.map V.int))
  nn : ∀ b ∈ bs, 0 ≤ b
  len : bs.length ≤ 1000
theorem BasesAt.mono {H H' : Hp} {a : Addr} {bs : List Int} (e : Ex H H') (h : BasesAt H a bs) : BasesAt H' a bs := ⟨e _ _ h.at_, h.nn, h.len⟩
def ctd : Rl → Int → Int
  | .capped _ m _, t => if m < t then m else t
  | _, t => t
def sp_counted (cA : Kd → Addr) (k : Kd) : Sp := fun vs H Q _ => ∃ (p : Addr) (n : Str) (r : Rl) (t : Int), vs = [.ref p, .int t] ∧ r.kd = k ∧ RuleAt cA H n r p ∧ RetV (.int (ctd r t)) H Q
def sp_until (cA : Kd → Addr) (d : Nat) (k : Kd) : Sp := fun vs H Q _ => ∃ (p a : Addr) (n : Str) (r : Rl) (bs : List Int), vs = [.ref p, .ref a] ∧ r.kd = k ∧ r.deep ≤ d ∧ RuleAt cA H n r p ∧ r.Ok ∧ BasesAt H a bs ∧ RetV (.int (r.of bs)) H Q
def sp_of_month (cA : Kd → Addr) (d : Nat) (k : Kd) : Sp := fun vs H Q _ => ∃ (p a : Addr) (n : Str) (r : Rl) (bs : List Int), vs = [.ref p, .ref a] ∧ r.kd = k ∧ r.deep ≤ d ∧ RuleAt cA H n r p ∧ r.Ok ∧ bs ≠ [] ∧ BasesAt H a bs ∧ RetV (.int (r.of bs - r.of bs.dropLast)) H Q
theorem deep_of_kd {r : Rl} {k : Kd} (h : r.kd = k) (hk : k ≠ .ontop) : r.deep = 0 := by
  subst h
  cases r with
  | ontop a y r2 => exact absurd rfl hk
  | _ => rfl
section
variable {P : Program} {w : World} {K : PySem.W.Frag} {mg : Str → Option Value} {base : Heap} {aW aN : Addr} {σ : L2.St} {H : Hp} {cA : Kd → Addr} {cR cS fRi fSi : Addr}
theorem spv_counted {p : Addr} {n : Str} {r : Rl} {t : Int} (h : RuleAt cA H n r p) : SpV (sp_counted cA r.kd) [.ref p, .int t] H (.int (ctd r t)) := fun H1 e Q q E => ⟨p, n, r, t, rfl, rfl, h.mono e, q⟩
theorem spv_until {p a : Addr} {n : Str} {r : Rl} {bs : List Int} {d : Nat} (hd : r.deep ≤ d) (h : RuleAt cA H n r p) (ho : r.Ok) (hb : BasesAt H a bs) : SpV (sp_until cA d r.kd) [.ref p, .ref a] H (.int (r.of bs)) := fun H1 e Q q E => ⟨p, a, n, r, bs, rfl, rfl, hd, h.mono e, ho, hb.mono e, q⟩
theorem spv_of_month {p a : Addr} {n : Str} {r : Rl} {bs : List Int} {d : Nat} (hd : r.deep ≤ d) (h : RuleAt cA H n r p) (ho : r.Ok) (hn : bs ≠ []) (hb : BasesAt H a bs) : SpV (sp_of_month cA d r.kd) [.ref p, .ref a] H (.int (r.of bs - r.of bs.dropLast)) := fun H1 e Q q E => ⟨p, a, n, r, bs, rfl, rfl, hd, h.mono e, ho, hn, hb.mono e, q⟩
abbrev s_OnTop_init : Stmt := inClass (top 37) 0
theorem sc_OnTop_init : FnScope ["self", "name", "parts", "way", "rule"] ["self", "name", "parts", "way", "rule"] (defScope s_OnTop_init) := ⟨rfl, rfl, rfl, by decide +kernel, rfl, by decide +kernel, by decide +kernel⟩
def sp_OnTop_init (cA : Kd → Addr) : Sp := fun vs H Q _ => ∃ (x dx p : Addr) (n : Str) (a : Int) (y : Way) (r : Rl) (H0 : Hp), vs = [.ref x, .str n, .int a, .str (wtxt y), .ref p] ∧ H x = some (.ins (cA .ontop) dx []) ∧ NameOk n ∧ PartsOk a ∧ Ex H0 H ∧ H0 x = none ∧ RuleAt cA H0 n r p ∧ r.deep ≤ 2 ∧
  ∀ H2, ExB x H H2 → H2 x = some (.ins (cA .ontop) dx (flds n p (.ontop a y r))) → Q .non H2
theorem fat_OnTop_init {f : Addr} (D : Dat K "__init__" "OnTop.__init__" s_OnTop_init f ["self", "name", "parts", "way", "rule"]) (B : Blt mg) (G : Gv K mg aW aN) (T : Ct K mg cA cR cS fRi fSi) (c_Rule_init : Fat P w K mg base 3 fRi (sp_Rule_init cA)) (c_need_parts : Cal P w K mg base 3 "need_parts" sp_need_parts) (c_need_way : Cal P w K mg base 2 "need_way" sp_need_way)
    (c_deep_of : Cal P w K mg base 1 "deep_of" (sp_deep_of cA)) : Fat P w K mg base 4 f (sp_OnTop_init cA) := by
  refine fat_of D sc_OnTop_init (fun vs H Q E h => ?_) (fun cdv A outer s H vs Q E hr h => ?_)
  · obtain ⟨x, dx, p, n, a, y, r, H0, rfl, _⟩ := h; rfl
  · obtain ⟨x, dx, p, n, a, y, r, H0, rfl, hx, hn, ha, e0, hx0, hp, hd, q⟩ := h
    refine ⟨_, (pss_cons (ps_expr (pe_cf T.ci_Rule c_Rule_init hr (by omega) rfl (pa_cons (pv 0) (pa_cons (pv 1) pa_nil))))
 (pss_cons (ps_expr (pe_c c_need_parts hr (by omega) rfl (pa_cons (pv 2) pa_nil)))
 (pss_cons (ps_expr (pe_c c_need_way hr (by omega) rfl (pa_cons (pv 3) pa_nil)))
 (pss_cons (ps_if (PW.pt (pw_or (pt_not (pt_val (pe_callB call_isi (by rfl) B.isinstance_ (by decide +kernel) (pa_cons (pv 4) (pa_cons (pe_glob (v := .ref _) rfl T.mg_Rule rfl) pa_nil))))) (pw_or1 (pt_cmpR op_eq (pe_c c_deep_of hr (by omega) rfl (pa_cons (pv 4) pa_nil)) (pe_gc rfl G.mdeep) (nomark _)))))
 (pss_one ps_never) pss_nil)
 (pss_cons (ps_fld (pv 0) (pv 2) rfl)
 (pss_cons (ps_fld (pv 0) (pv 3) rfl)
 (pss_one (ps_fld (pv 0) (pv 4) rfl)))))))), ?_⟩
    refine q_callE (ea_cons (ev_var rfl) (ea_cons (ev_var rfl) ea_nil)) fun H1 e1 => ⟨x, dx, .ontop, n, rfl, e1 _ _ hx, hn, fun H2 b2 h2 => ?_⟩
    refine q_drop (ev_callx (ea_cons (ev_var rfl) ea_nil) (spv_need_parts ha)) fun H3 e3 => ?_
    refine q_drop (ev_callx (ea_cons (ev_var rfl) ea_nil) spv_need_way) fun H4 e4 => ?_
    have x4 : Ex H0 H4 := ((ex_of_b (e0.trans e1) hx0 b2).trans e3).trans e4
    have hp4 := hp.mono x4
    refine q_no (et_is (et_or (a := false) (et_not (a := true) (et_B (ev_cb (ea_cons (ev_var rfl) (ea_cons ev_c ea_nil)) (rc_isi (.own _) (fun _ e => ty_rule T (hp4.mono e)) (T.isR _))))) fun _ => et_test (ev_op (ev_callx (ea_cons (ev_var rfl) ea_nil) (spv_deep_of hp4)) ev_c (rv_eq rfl))) ?_) fun H5 e5 => ?_
    · rw [dv_int, decide_eq_false (by omega)]; rfl
    refine q_fld (ev_var rfl) (ev_var rfl) (((e3.trans e4).trans e5) _ _ h2) (T.cl _) (T.n_parts _) (by show 1 < 1000; decide) fun H6 e6 => ?_
    rw [putF_new (by walk_at "lk")]
    refine q_fld (ev_var rfl) (ev_var rfl) upd_same (T.cl _) (T.n_way _) (by show 2 < 1000; decide) fun H7 e7 => ?_
    rw [putF_new (by show List.lookup _ (_ :: _ :: []) = _; walk_at "lk")]
    refine s_fld (ev_var rfl) (ev_var rfl) upd_same (T.cl _) (T.n_under _) (by show 3 < 1000; decide) fun H8 e8 => ?_
    rw [putF_new (by show List.lookup _ (_ :: _ :: _ :: []) = _; walk_at "lk")]
    refine q _ (((ExB.of e1).trans b2).trans ((ExB.of (((e3.trans e4).trans e5).trans e6)).trans (ExB.upd.trans ((ExB.of e7).trans (ExB.upd.trans ((ExB.of e8).trans .upd)))))) ?_
    rw [upd_same]; rfl
abbrev s_Share_counted : Stmt := inClass (top 31) 1
theorem sc_Share_counted : FnScope ["self", "total"] ["self", "total"] (defScope s_Share_counted) := ⟨rfl, rfl, rfl, by decide +kernel, rfl, by decide +kernel, by decide +kernel⟩
theorem fat_Share_counted {f : Addr} (D : Dat K "counted" "Share.counted" s_Share_counted f ["self", "total"]) {k : Kd} (hk : k ≠ .capped) : Fat P w K mg base 1 f (sp_counted cA k) := by
  refine fat_of D sc_Share_counted (fun vs H Q E h => ?_) (fun cdv A outer s H vs Q E hr h => ?_)
  · obtain ⟨p, n, r, t, rfl, _⟩ := h; rfl
  · obtain ⟨p, n, r, t, rfl, rfl, hp, q⟩ := h
    refine ⟨_, (pss_one (ps_ret (pv 1))), ?_⟩
    have e : ctd r t = t := by
      cases r with
      | capped a m y => exact absurd rfl hk
      | _ => rfl
    rw [e] at q
    exact s_ret (ev_var rfl) q
abbrev s_Capped_counted : Stmt := inClass (top 32) 1
theorem sc_Capped_counted : FnScope ["self", "total"] ["self", "total"] (defScope s_Capped_counted) := ⟨rfl, rfl, rfl, by decide +kernel, rfl, by decide +kernel, by decide +kernel⟩
theorem fat_Capped_counted {f : Addr} (D : Dat K "counted" "Capped.counted" s_Capped_counted f ["self", "total"]) (B : Blt mg) (T : Ct K mg cA cR cS fRi fSi) : Fat P w K mg base 1 f (sp_counted cA .capped) := by
  refine fat_of D sc_Capped_counted (fun vs H Q E h => ?_) (fun cdv A outer s H vs Q E hr h => ?_)
  · obtain ⟨p, n, r, t, rfl, _⟩ := h; rfl
  · obtain ⟨p, n, r, t, rfl, hk, hp, q⟩ := h
    refine ⟨_, (pss_one (ps_ret (pe_callB (call_min2 rfl) (by rfl) B.min_ (by decide +kernel) (pa_cons (pv 1) (pa_cons (pe_fld (pv 0) rfl) pa_nil))))), ?_⟩
    cases r with
    | capped a m y =>
      obtain ⟨dx, _, hi⟩ := hp
      exact s_ret (ev_cb (ea_cons (ev_var rfl) (ea_cons (ev_fld (ev_var rfl) hi (T.cl _) (T.n_most _) (by unfold flds; walk_at "lk")) ea_nil)) rc_min) q
    | _ => cases hk
abbrev s_Flat_until : Stmt := inClass (top 30) 1
theorem sc_Flat_until : FnScope ["self", "bases"] ["self", "bases"] (defScope s_Flat_until) := ⟨rfl, rfl, rfl, by decide +kernel, rfl, by decide +kernel, by decide +kernel⟩
theorem fat_Flat_until {f : Addr} (D : Dat K "until" "Flat.until" s_Flat_until f ["self", "bases"]) (T : Ct K mg cA cR cS fRi fSi) (c_months_with : Cal P w K mg base 1 "months_with" sp_months_with) : Fat P w K mg base 2 f (sp_until cA 0 .flat) := by
  refine fat_of D sc_Flat_until (fun vs H Q E h => ?_) (fun cdv A outer s H vs Q E hr h => ?_)
  · obtain ⟨p, a, n, r, bs, rfl, _⟩ := h; rfl
  · obtain ⟨p, a, n, r, bs, rfl, hk, _, hp, ho, hb, q⟩ := h
    refine ⟨_, (pss_one (ps_ret (pe_op op_mul (pe_fld (pv 0) rfl) (pe_c c_months_with hr (by omega) rfl (pa_cons (pv 1) pa_nil))))), ?_⟩
    cases r with
    | flat m =>
      obtain ⟨dx, _, hi⟩ := hp
      refine s_ret (ev_op (ev_fld (ev_var rfl) hi (T.cl _) (T.n_amount _) (by unfold flds; walk_at "lk")) (ev_callx (ea_cons (ev_var rfl) ea_nil) (spv_months_with hb.at_ hb.len)) (rv_I (.inl ?_))) q
      have h1 : 0 ≤ m := ho.1
      have h2 : m ≤ 1000000000000 := ho.2
      exact ⟨by omega, by omega⟩
    | _ => cases hk
abbrev s_Share_until : Stmt := inClass (top 31) 2
theorem sc_Share_until : FnScope ["self", "bases"] ["self", "bases"] (defScope s_Share_until) := ⟨rfl, rfl, rfl, by decide +kernel, rfl, by decide +kernel, by decide +kernel⟩
theorem fat_Share_until {f fC : Addr} {kd : Kd} (hkd : kd = .share ∨ kd = .capped) (D : Dat K "until" "Share.until" s_Share_until f ["self", "bases"]) (B : Blt mg) (T : Ct K mg cA cR cS fRi fSi) (M : Meth K (cA kd) "counted" fC) (FC : Fat P w K mg base 1 fC (sp_counted cA kd)) (c_share_of : Cal P w K mg base 4 "share_of" sp_share_of) : Fat P w K mg base 5 f (sp_until cA 0 kd) := by
  refine fat_of D sc_Share_until (fun vs H Q E h => ?_) (fun cdv A outer s H vs Q E hr h => ?_)
  · obtain ⟨p, a, n, r, bs, rfl, _⟩ := h; rfl
  · obtain ⟨p, a, n, r, bs, rfl, hk, _, hp, ho, hb, q⟩ := h
    refine ⟨_, (pss_one (ps_ret (pe_c c_share_of hr (by omega) rfl (pa_cons (pe_mt (T.cl kd) M FC hr (by omega) (pv 0) (pa_cons (pe_callB (cr_sum rfl) (by rfl) B.sum_ (by decide +kernel) (pa_cons (pv 1) pa_nil)) pa_nil)) (pa_cons (pe_fld (pv 0) rfl) (pa_cons (pe_fld (pv 0) rfl) pa_nil)))))), ?_⟩
    subst hk
    have hs : 0 ≤ bs.sum := sum_nonneg bs hb.nn
    cases r with
    | share pp y =>
      obtain ⟨dx, _, hi⟩ := id hp
      exact s_ret (ev_callx (ea_cons (ev_mth (ev_var rfl) hi (fl_counted _) (ea_cons (ev_cb (ea_cons (ev_var rfl) ea_nil) (rc_sum (sq_of hb.at_))) ea_nil) (spv_counted hp)) (ea_cons (ev_fld (ev_var rfl) hi (T.cl _) (T.n_parts _) (by unfold flds; walk_at "lk")) (ea_cons (ev_fld (ev_var rfl) hi (T.cl _) (T.n_way _) (by unfold flds; walk_at "lk")) ea_nil))) (spv_share_of hs ho)) q
    | capped pp m y =>
      obtain ⟨dx, _, hi⟩ := id hp
      have hc : 0 ≤ ctd (.capped pp m y) bs.sum := by
        show 0 ≤ (if m < bs.sum then m else bs.sum)
        have h1 : 0 ≤ m := ho.2.1
        split <;> omega
      exact s_ret (ev_callx (ea_cons (ev_mth (ev_var rfl) hi (fl_counted _) (ea_cons (ev_cb (ea_cons (ev_var rfl) ea_nil) (rc_sum (sq_of hb.at_))) ea_nil) (spv_counted hp)) (ea_cons (ev_fld (ev_var rfl) hi (T.cl _) (T.n_parts _) (by unfold flds; walk_at "lk")) (ea_cons (ev_fld (ev_var rfl) hi (T.cl _) (T.n_way _) (by unfold flds; walk_at "lk")) ea_nil))) (spv_share_of hc ho.1)) q
    | _ => rcases hkd with z | z <;> cases z
abbrev s_Least_until : Stmt := inClass (top 33) 1
theorem sc_Least_until : FnScope ["self", "bases", "share"] ["self", "bases"] (defScope s_Least_until) := ⟨rfl, rfl, rfl, by decide +kernel, rfl, by decide +kernel, by decide +kernel⟩
theorem fat_Least_until {f fC : Addr} (D : Dat K "until" "Least.until" s_Least_until f ["self", "bases"]) (B : Blt mg) (T : Ct K mg cA cR cS fRi fSi) (M : Meth K (cA .least) "counted" fC) (FC : Fat P w K mg base 1 fC (sp_counted cA .least)) (c_share_of : Cal P w K mg base 4 "share_of" sp_share_of) (c_months_with : Cal P w K mg base 1 "months_with" sp_months_with) : Fat P w K mg base 5 f (sp_until cA 0 .least) := by
  refine fat_of D sc_Least_until (fun vs H Q E h => ?_) (fun cdv A outer s H vs Q E hr h => ?_)
  · obtain ⟨p, a, n, r, bs, rfl, _⟩ := h; rfl
  · obtain ⟨p, a, n, r, bs, rfl, hk, _, hp, ho, hb, q⟩ := h
    refine ⟨_, (pss_cons (ps_set (i := 2) sc_Least_until.nd rfl (Or.inl rfl) (pe_c c_share_of hr (by omega) rfl (pa_cons (pe_mt (T.cl .least) M FC hr (by omega) (pv 0) (pa_cons (pe_callB (cr_sum rfl) (by rfl) B.sum_ (by decide +kernel) (pa_cons (pv 1) pa_nil)) pa_nil)) (pa_cons (pe_fld (pv 0) rfl) (pa_cons (pe_fld (pv 0) rfl) pa_nil)))))
 (pss_one (ps_ret (pe_callB (call_max2 rfl) (by rfl) B.max_ (by decide +kernel) (pa_cons (pv 2) (pa_cons (pe_op op_mul (pe_fld (pv 0) rfl) (pe_c c_months_with hr (by omega) rfl (pa_cons (pv 1) pa_nil))) pa_nil)))))), ?_⟩
    have hs : 0 ≤ bs.sum := sum_nonneg bs hb.nn
    cases r with
    | least pp m y =>
      obtain ⟨dx, _, hi⟩ := id hp
      refine q_asg (v := .int (rnd (bs.sum * pp) y)) (ev_callx (ea_cons (ev_mth (ev_var rfl) hi (fl_counted (.least pp m y)) (ea_cons (ev_cb (ea_cons (ev_var rfl) ea_nil) (rc_sum (sq_of hb.at_))) ea_nil) (spv_counted hp)) (ea_cons (ev_fld (ev_var rfl) hi (T.cl _) (T.n_parts _) (by unfold flds; walk_at "lk")) (ea_cons (ev_fld (ev_var rfl) hi (T.cl _) (T.n_way _) (by unfold flds; walk_at "lk")) ea_nil))) (spv_share_of hs ho.1)) fun H1 e1 => ?_
      refine s_ret (ev_cb (ea_cons (ev_var rfl) (ea_cons (ev_op (ev_fld (ev_var rfl) (e1 _ _ hi) (T.cl _) (T.n_least _) (by unfold flds; walk_at "lk")) (ev_callx (ea_cons (ev_var rfl) ea_nil) (spv_months_with (e1 _ _ hb.at_) hb.len)) (rv_I (.inl ?_))) ea_nil)) rc_max) fun H2 e2 => q _ (e1.trans e2)
      have h1 : 0 ≤ m := ho.2.1
      have h2 : m ≤ 1000000000000 := ho.2.2
      exact ⟨by omega, by omega⟩
    | _ => cases hk
abbrev s_OnTop_until : Stmt := inClass (top 37) 1
theorem sc_OnTop_until : FnScope ["self", "bases"] ["self", "bases"] (defScope s_OnTop_until) := ⟨rfl, rfl, rfl, by decide +kernel, rfl, by decide +kernel, by decide +kernel⟩
theorem fat_OnTop_until {f : Addr} {d k : Nat} (hk4 : 4 ≤ k) (D : Dat K "until" "OnTop.until" s_OnTop_until f ["self", "bases"]) (T : Ct K mg cA cR cS fRi fSi) (m_until : Um P w K mg base cA k "until" (sp_until cA d)) (c_share_of : Cal P w K mg base 4 "share_of" sp_share_of) : Fat P w K mg base (k + 1) f (sp_until cA (d + 1) .ontop) := by
  refine fat_of D sc_OnTop_until (fun vs H Q E h => ?_) (fun cdv A outer s H vs Q E hr h => ?_)
  · obtain ⟨p, a, n, r, bs, rfl, _⟩ := h; rfl
  · obtain ⟨p, a, n, r, bs, rfl, hk, hd, hp, ho, hb, q⟩ := h
    cases r with
    | ontop pp y r2 =>
      obtain ⟨dx, p2, hi, hp2⟩ := id hp
      obtain ⟨dx2, q2, hi2⟩ := hp2.ins
      refine ⟨_, (pss_one (ps_ret (pe_c c_share_of hr (by omega) rfl (pa_cons (pe_um T m_until hr (by omega) r2.kd (pe_fld (pv 0) rfl) (pa_cons (pv 1) pa_nil)) (pa_cons (pe_fld (pv 0) rfl) (pa_cons (pe_fld (pv 0) rfl) pa_nil)))))), ?_⟩
      have hd2 : r2.deep ≤ d := Nat.le_of_succ_le_succ hd
      have h0 : 0 ≤ r2.of bs := of_nonneg r2 ho.2 hb.nn
      exact s_ret (ev_callx (ea_cons (ev_mth (ev_fld (ev_var rfl) hi (T.cl _) (T.n_under _) (by unfold flds; walk_at "lk")) hi2 (fl_until _) (ea_cons (ev_var rfl) ea_nil) (spv_until hd2 hp2 ho.2 hb)) (ea_cons (ev_fld (ev_var rfl) hi (T.cl _) (T.n_parts _) (by unfold flds; walk_at "lk")) (ea_cons (ev_fld (ev_var rfl) hi (T.cl _) (T.n_way _) (by unfold flds; walk_at "lk")) ea_nil))) (spv_share_of h0 ho.1)) q
    | _ => cases hk
abbrev s_Rule_of_month : Stmt := inClass (top 29) 2
theorem sc_Rule_of_month : FnScope ["self", "bases"] ["self", "bases"] (defScope s_Rule_of_month) := ⟨rfl, rfl, rfl, by decide +kernel, rfl, by decide +kernel, by decide +kernel⟩
theorem fat_Rule_of_month {f : Addr} {d k : Nat} (D : Dat K "of_month" "Rule.of_month" s_Rule_of_month f ["self", "bases"]) (T : Ct K mg cA cR cS fRi fSi) (m_until : Um P w K mg base cA k "until" (sp_until cA d)) (kd : Kd) : Fat P w K mg base (k + 1) f (sp_of_month cA d kd) := by
  refine fat_of D sc_Rule_of_month (fun vs H Q E h => ?_) (fun cdv A outer s H vs Q E hr h => ?_)
  · obtain ⟨p, a, n, r, bs, rfl, _⟩ := h; rfl
  · obtain ⟨p, a, n, r, bs, rfl, rfl, hd, hp, ho, hne, hb, q⟩ := h
    refine ⟨_, (pss_cons (ps_if (pt_cmpR (op_eqD hr.units) (pv 1) (pe_lst pa_nil) (nomark _))
 (pss_one (ps_ret pe_int)) pss_nil)
 (pss_one (ps_ret (pe_op op_sub (pe_um T m_until hr (by omega) r.kd (pv 0) (pa_cons (pv 1) pa_nil)) (pe_um T m_until hr (by omega) r.kd (pv 0) (pa_cons (pe_slice sl_list (pv 1) po_none (po_some (pe_un un_neg pe_int))) pa_nil)))))), ?_⟩
    obtain ⟨dx, q0, hi⟩ := hp.ins
    refine q_no (et_test (ev_is (ev_opL (ev_var rfl) (el_lst ea_nil (by show 0 ≤ 100000; decide)) fun b H1 h1 e1 => rv_eqNil (e1 _ _ hb.at_) h1) ?_)) fun H1 e1 => ?_
    · cases bs with
      | nil => exact absurd rfl hne
      | cons b r => rfl
    -- the difference of two promises of until
    refine ev_mth (ev_var rfl) (e1 _ _ hi) (fl_until r) (ea_cons (ev_var rfl) ea_nil) (spv_until hd (hp.mono e1) ho (hb.mono e1)) H1 (Ex.refl H1) _ fun H2 e2 => ?_
    have x2 := e1.trans e2
    refine ⟨.ref p, rfl, p, dx, _, rfl, x2 _ _ hi, fl_until r, ?_⟩
    refine el_sl (xs := bs.map V.int) (hi := some (-1)) (ev_var rfl) eo_none (eo_some (ev_un ev_c ru_neg)) (sq_of (x2 _ _ hb.at_)) H2 (Ex.refl H2) _ fun c H3 hc e3 h3 => ?_
    rw [cut_last] at h3
    have hb3 : BasesAt H3 c bs.dropLast := ⟨h3, fun b hb' => hb.nn b ((List.dropLast_sublist bs).subset hb'), by rw [List.length_dropLast]; have := hb.len; omega⟩
    exact ⟨p, c, n, r, bs.dropLast, rfl, rfl, hd, hp.mono (x2.trans e3), ho, hb3, fun H4 e4 => ⟨_, _, rfl, rfl, q _ ((x2.trans e3).trans e4)⟩⟩
end
end Co

/-! bands -/
namespace Co
open PySem PySem.Spec PyProof.Rows L2 Evl Km
local macro_rules | `(tactic| walk_at "ev") => `(tactic| (repeat' (first
  | ((with_reducible apply ev_var); rfl) | ((with_reducible apply rv_eq); rfl) | ((with_reducible apply rv_ne); rfl)
  | with_reducible exact ev_c | with_reducible exact rv_I0 | with_reducible exact ea_nil | with_reducible exact et_yes | with_reducible exact eo_none | with_reducible exact rc_intB | with_reducible exact rc_min | with_reducible exact rc_max | with_reducible exact rv_inS
  | walk_at "sp"
  | with_reducible apply rv_I | with_reducible apply ev_op | with_reducible apply ev_un | with_reducible apply ev_callx | with_reducible apply ea_cons | with_reducible apply et_test | with_reducible apply et_B | with_reducible apply et_not | with_reducible apply ev_notV | with_reducible apply ev_cb | with_reducible apply eo_some | with_reducible apply ev_chain | with_reducible apply ev_andV | with_reducible apply ev_orV | with_reducible apply et_and | with_reducible apply et_or
  | with_reducible intro _)))
local macro_rules | `(tactic| walk_at "lk") => `(tactic| (repeat (first | exact lk_hd | (show List.lookup _ [] = _; rfl) | rw [lk_tl kn1] | rw [lk_tl kn2] | rw [lk_tl kn3] | rw [lk_tl kn4] | rw [lk_tl kn5] | rw [lk_tl kn6] | rw [lk_tl kn7] | rw [lk_tl kn8] | rw [lk_tl kn9] | rw [lk_tl kn10] | rw [lk_tl kn11] | rw [lk_tl kn12] | rw [lk_tl kn13] | rw [lk_tl kn14] | rw [lk_tl kn15])))

theorem walk_zipT {K : PySem.W.Frag} {a b : Addr} {xs ys : List V} {n : Nat} (hn : n = min xs.length ys.length) : Walk (RZ.ItzT K a b) n (fun H => SqT K H a xs ∧ SqT K H b ys) (YPair (fun i => xs[i]?) (fun i => ys[i]?)) := by
  subst hn
  exact ⟨fun i _ hi both => have la : i < xs.length := (by omega); have lb : i < ys.length := (by omega)
      ⟨xs, ys, xs[i], ys[i], both.1, both.2, by simp [la], by simp [lb]⟩,
    fun _ both => ⟨xs, ys, both.1, both.2, by omega⟩, fun _ _ _ _ _ both ⟨pr, u, v, e1, e2, e3, e4, e5⟩ => ⟨pr, u, v, e1, e2, e3, e4 xs both.1, e5 ys both.2⟩⟩
theorem RowsAt.at {H : Hp} {rows : List (Int × Int)} {rs : List Addr} (h3 : ∀ (i : Nat) (x : Int × Int), rows[i]? = some x → ∃ a, rs[i]? = some a ∧ H a = some (.tup [.int x.1, .int x.2])) (hl : rs.length = rows.length) {i : Nat} {v : V} (hv : (rs.map V.ref)[i]? = some v) :
    ∃ a x, v = .ref a ∧ rows[i]? = some x ∧ H a = some (.tup [.int x.1, .int x.2]) := by
  have hi : i < rows.length := by
    have := (List.getElem?_eq_some_iff.mp hv).1
    rw [List.length_map, hl] at this
    exact this
  obtain ⟨a, h4, h5⟩ := h3 i rows[i] (List.getElem?_eq_getElem hi)
  rw [List.getElem?_map, h4] at hv
  exact ⟨a, rows[i], (Option.some.inj hv).symm, List.getElem?_eq_getElem hi, h5⟩
theorem cut_tail (xs : List V) : cutV xs (some 1) none = xs.drop 1 := by
  unfold cutV
  rw [HT.sIx_none, show HT.sIx xs.length 0 (some 1) = min 1 xs.length from HT.sIx_nat xs.length 0 1]
  cases xs with
  | nil => rfl
  | cons y ys =>
    rw [show min 1 (y :: ys).length = 1 by rw [List.length_cons]; omega, List.length_cons, Nat.add_sub_cancel]
    exact List.take_length
theorem q_forRevT {K : PySem.W.Frag} {σ : L2.St} {H : Hp} {te : TE} {g : TG} {tu tz : TS} {D : Ends} {t : Addr} {xs : List V} (h : Ev te σ H (.ref t)) (hx : SqT K H t xs) (Pv : Nat → L2.St → Hp → Prop) (h0 : ∀ H1, Ex H H1 → Pv 0 σ H1) (hq : ∀ i σ H, Pv i σ H → SqT K H t xs)
    (hs : ∀ (i : Nat) (x : V) (σ : L2.St) (H : Hp), i < xs.length → xs[xs.length - 1 - i]? = some x → Pv i σ H → g x σ H fun σ2 H2 => tu { D with nx := Pv (i + 1), ct := Pv (i + 1), bk := tz D } σ2 H2) (hd : ∀ σ H, Pv xs.length σ H → tz D σ H) : tSeq (tFor (RT.iRevA K te) g tu) tz D σ H :=
  h H (Ex.refl H) _ fun H1 e => ⟨t, xs, rfl, .inr ⟨ex_t e hx, RT.for_ItvT (D := { D with nx := tz D }) Pv (h0 H1 e) hq hs hd⟩⟩
section
variable {P : Program} {w : World} {K : PySem.W.Frag} {mg : Str → Option Value} {base : Heap} {aW aN : Addr} {σ : L2.St} {H : Hp} {cA : Kd → Addr} {cR cS fRi fSi : Addr}
abbrev s_is_band : Stmt := top 40
theorem sc_is_band : FnScope ["thing"] ["thing"] (defScope s_is_band) := ⟨rfl, rfl, rfl, by decide +kernel, rfl, by decide +kernel, by decide +kernel⟩
def sp_is_band : Sp := fun vs H Q _ => ∃ (t : Addr) (x : Int × Int), vs = [.ref t] ∧ H t = some (.tup [.int x.1, .int x.2]) ∧ RowOk x ∧ RetV (.bl true) H Q
theorem spv_is_band {t : Addr} {x : Int × Int} (h : H t = some (.tup [.int x.1, .int x.2])) (hx : RowOk x) : SpV sp_is_band [.ref t] H (.bl true) := fun H1 e Q q E => ⟨t, x, rfl, e _ _ h, hx, q⟩
theorem cal_is_band (D : Def K mg "is_band" s_is_band ["thing"]) (B : Blt mg) (G : Gv K mg aW aN) (c_is_among : Cal P w K mg base 2 "is_among" sp_is_among) : Cal P w K mg base 3 "is_band" sp_is_band := by
  refine cal_of D sc_is_band (fun vs H Q E h => ?_) (fun f cdv A outer s H vs Q E hr h => ?_)
  · obtain ⟨t, x, rfl, _⟩ := h; rfl
  · obtain ⟨t, x, rfl, ht, hx, q⟩ := h
    refine ⟨_, (pss_cons (ps_if (PW.pt (pw_or (pt_not (pt_val (pe_callB call_isi (by rfl) B.isinstance_ (by decide +kernel) (pa_cons (pv 0) (pa_cons (pe_bltn (v := .ty "tuple") (by rfl) B.tuple_ (by decide +kernel) rfl) pa_nil))))) (pw_or1 (pt_cmpR op_ne (pe_callB call_len_seq (by rfl) B.len_ (by decide +kernel) (pa_cons (pv 0) pa_nil)) pe_int (nomark _)))))
 (pss_one (ps_ret pe_bl)) pss_nil)
 (pss_one (ps_ret (pe_and (pe_c c_is_among hr (by omega) rfl (pa_cons (pe_ix ix_tup (pv 0) pe_int (fun _ _ => rfl)) (pa_cons pe_int (pa_cons (pe_gc rfl G.mamt) pa_nil)))) (pe_one (pe_c c_is_among hr (by omega) rfl (pa_cons (pe_ix ix_tup (pv 0) pe_int (fun _ _ => rfl)) (pa_cons pe_int (pa_cons (pe_gc rfl G.mpr) pa_nil))))))))), ?_⟩
    refine q_no (et_is (et_or (a := false) (et_not (a := true) (et_B (ev_cb (ea_cons (ev_var rfl) (ea_cons ev_c ea_nil)) (rc_isi (.ty "tuple") (fun _ e => .base (.tup (e _ _ ht))) (kit_ty (by decide +kernel)))))) fun _ => et_test (ev_op (ev_cb (ea_cons (ev_var rfl) ea_nil) (rc_lenT (st_of ht))) ev_c (rv_ne rfl))) (by rfl)) fun H1 e1 => ?_
    have ht1 := e1 _ _ ht
    refine s_ret (ev_is (ev_andV (a := true) (ev_callx (ea_cons (ev_op (ev_var rfl) ev_c (rv_ixT (st_of ht1) (atI_nat (j := 0) rfl))) (ea_cons ev_c (ea_cons ev_c ea_nil))) (spv_is_among hx.1 hx.2.1)) fun _ =>
      ev_callx (ea_cons (ev_op (ev_var rfl) ev_c (rv_ixT (st_of ht1) (atI_nat (j := 1) rfl))) (ea_cons ev_c (ea_cons ev_c ea_nil))) (spv_is_among hx.2.2.1 hx.2.2.2)) (by rfl)) fun H2 e2 => q _ (e1.trans e2)
abbrev s_need_bands : Stmt := top 41
theorem sc_need_bands : FnScope ["thing", "one", "other"] ["thing"] (defScope s_need_bands) := ⟨rfl, rfl, rfl, by decide +kernel, rfl, by decide +kernel, by decide +kernel⟩
def sp_need_bands : Sp := fun vs H Q _ => ∃ (t : Addr) (rows : List (Int × Int)), vs = [.ref t] ∧ RowsAt H t rows ∧ RowsOk rows ∧ RetV .non H Q
theorem spv_need_bands {t : Addr} {rows : List (Int × Int)} (h : RowsAt H t rows) (hx : RowsOk rows) : SpV sp_need_bands [.ref t] H .non := fun H1 e Q q E => ⟨t, rows, rfl, h.mono e, hx, q⟩
theorem cal_need_bands (D : Def K mg "need_bands" s_need_bands ["thing"]) (B : Blt mg) (G : Gv K mg aW aN) (c_is_band : Cal P w K mg base 3 "is_band" sp_is_band) : Cal P w K mg base 4 "need_bands" sp_need_bands := by
  refine cal_of D sc_need_bands (fun vs H Q E h => ?_) (fun f cdv A outer s H vs Q E hr h => ?_)
  · obtain ⟨t, rows, rfl, _⟩ := h; rfl
  · obtain ⟨t, rows, rfl, ⟨rs, ht, hl, hrow⟩, ho, q⟩ := h
    have lm : (rs.map V.ref).length = rows.length := by rw [List.length_map, hl]
    have l1 := ho.1
    have l2 := ho.2.1
    refine ⟨_, (pss_cons (ps_if (PW.pt (pw_or (pt_not (pt_val (pe_callB call_isi (by rfl) B.isinstance_ (by decide +kernel) (pa_cons (pv 0) (pa_cons (pe_bltn (v := .ty "tuple") (by rfl) B.tuple_ (by decide +kernel) rfl) pa_nil))))) (pw_or (pt_not (pt_chain op_le op_le pe_int (pe_callB call_len_seq (by rfl) B.len_ (by decide +kernel) (pa_cons (pv 0) pa_nil)) (pe_gc rfl G.mbands))) (pw_or1 (pt_not (pt_val (pe_callB (cr_all rfl) (by rfl) B.all_ (by decide +kernel) (pa_cons (pe_lc (own := [("one", 1)]) rfl sc_need_bands.nd (pi_tup (pv 0)) (blkOk_by (own := [("one", 1)]) (N := ["thing", "one", "other"]) (sc := defScope s_need_bands) (by decide +kernel)) (fun _ _ _ _ _ => pg_name (i := 1) sc_need_bands.nd rfl (Or.inl rfl)) (fun _ _ _ _ _ => pts_nil) (fun _ _ _ _ _ => (pe_c c_is_band hr (by omega) rfl (pa_cons (pv 1) pa_nil)))) pa_nil))))))))
 (pss_one ps_never) pss_nil)
 (pss_one (ps_if (PW.pt (pw_or (pt_cmpR op_ne (pe_ix ix_tup (pe_ix ix_tup (pv 0) pe_int (fun _ _ => rfl)) pe_int (fun _ _ => rfl)) pe_int (nomark _)) (pw_or1 (pt_not (pt_val (pe_callB (cr_all rfl) (by rfl) B.all_ (by decide +kernel) (pa_cons (pe_lc (g := gTup K 2 (gCons (gName 1) (gCons (gName 2) gNil))) (own := [("one", 1), ("other", 2)]) rfl sc_need_bands.nd (RZ.pi_zipA rfl B.zip_ (pa_cons (pv 0) (pa_cons (pe_slice sl_tup (pv 0) (po_some pe_int) po_none) pa_nil))) (blkOk_by (own := [("one", 1), ("other", 2)]) (N := ["thing", "one", "other"]) (sc := defScope s_need_bands) (by decide +kernel)) (fun _ _ _ _ _ => (pg_tup rfl (pgs_cons (pg_name (i := 1) sc_need_bands.nd rfl (Or.inl rfl)) (pgs_cons (pg_name (i := 2) sc_need_bands.nd rfl (Or.inl rfl)) pgs_nil)))) (fun _ _ _ _ _ => pts_nil) (fun _ _ _ _ _ => (pe_cmpR op_lt (pe_ix (show IxR _ (rIxT K) from ix_tup) (pv 1) pe_int (fun _ _ => rfl)) (pe_ix (show IxR _ (rIxT K) from ix_tup) (pv 2) pe_int (fun _ _ => rfl)) (nomark _)))) pa_nil)))))))
 (pss_one ps_never) pss_nil))), ?_⟩
    have all1 : ∀ {te : TE}, (∀ (i : Nat) (v : V) H1, Ex H H1 → (rs.map V.ref)[i]? = some v → Ev te ((wipe (L2.start ["thing", "one", "other"] [.ref t]) [1]).set 1 (some v)) H1 (.bl true)) →
        Ev (tCB (rAll K) (tCons (tLc (iTup K (tVar 0)) (gName 1) tYes te [1]) tNil)) (L2.start ["thing", "one", "other"] [.ref t]) H (.bl true) := fun {te} he => by
      refine ev_is (ev_allNew (bs := List.replicate (rs.map V.ref).length true) ?_) (by rw [all_rep])
      rw [← given_all]
      exact el_lcT (fun _ => true) (fun _ => .bl true) (ev_var rfl) (st_of ht) (by omega) (fun _ => rfl) (fun _ _ _ _ _ => et_yes) fun i v H1 e1 hv _ => he i v H1 e1 hv
    refine q_no (et_is (et_or (a := false) (et_not (a := true) (et_B (ev_cb (ea_cons (ev_var rfl) (ea_cons ev_c ea_nil)) (rc_isi (.ty "tuple") (fun _ e => .base (.tup (e _ _ ht))) (kit_ty (by decide +kernel)))))) fun _ =>
      et_or (a := false) (et_is (et_not (et_test (ev_chain (b := decide ((1 : Int) ≤ ((rs.map V.ref).length : Int))) (c := decide (((rs.map V.ref).length : Int) ≤ 12)) ev_c (ev_cb (ea_cons (ev_var rfl) ea_nil) (rc_lenT (st_of ht))) rv_I0 (fun _ => ev_c) (fun _ => rv_I0)))) ?_) fun _ =>
      et_not (a := true) (et_B (all1 fun i v H1 e1 hv => ?_))) (by rfl)) fun H1 e1 => ?_
    · rw [decide_eq_true (show (1 : Int) ≤ ((rs.map V.ref).length : Int) by omega), decide_eq_true (show ((rs.map V.ref).length : Int) ≤ 12 by omega)]; rfl
    · obtain ⟨a, x, rfl, hx, ha⟩ := RowsAt.at hrow hl hv
      exact ev_callx (ea_cons (ev_var rfl) ea_nil) (spv_is_band (e1 _ _ ha) (ho.2.2.1 x (List.mem_of_getElem? hx)))
    -- the first border
    have hi0 : 0 < (rs.map V.ref).length := by omega
    obtain ⟨a0, x0, ev0, hx0, ha0⟩ := RowsAt.at hrow hl (List.getElem?_eq_getElem hi0)
    have z0 : x0.1 = 0 := ho.2.2.2.1 x0 hx0
    have ht1 := e1 _ _ ht
    refine s_no (et_is (et_or (a := false) (et_is (et_test (ev_op (ev_op (ev_op (ev_var rfl) ev_c (rv_ixT (st_of ht1) (atI_nat (j := 0) (List.getElem?_eq_getElem hi0)))) ev_c (by rw [ev0]; exact rv_ixT (st_of (e1 _ _ ha0)) (atI_nat (j := 0) rfl))) ev_c (rv_ne rfl))) ?_) fun _ => et_not (a := true) (et_B ?_)) (by rfl)) fun H2 e2 => q _ (e1.trans e2)
    · rw [dv_int, decide_eq_true z0]; rfl
    -- the borders rise, pair by pair
    refine ev_is (ev_allNew (bs := List.replicate (rows.length - 1) true) ?_) (by rw [all_rep])
    rw [← given_all]
    intro H2 e2 Q2 q2
    have x2 := e1.trans e2
    refine ⟨_, rfl, ?_⟩
    refine eu_slT (ev_var rfl) (eo_some ev_c) eo_none (st_of (x2 _ _ ht)) ?_ H2 (Ex.refl H2) _ fun c H3 hc e3 h3 => ?_
    · rintro ⟨z, _⟩
      rw [show HT.sIx (rs.map V.ref).length 0 (some 1) = min 1 (rs.map V.ref).length from HT.sIx_nat _ 0 1] at z
      omega
    rw [cut_tail] at h3
    have x3 := x2.trans e3
    refine ⟨t, c, rs.map V.ref, (rs.map V.ref).drop 1, rfl, .inr ⟨st_of (x3 _ _ ht), st_of h3, fun Dl hD => ?_⟩⟩
    refine lc_it (walk_zipT (n := rows.length - 1) (xs := rs.map V.ref) (ys := (rs.map V.ref).drop 1) (by rw [List.length_drop, lm]; omega)) (Cw H3 (fun _ => true) (fun _ => .bl true) Dl) ⟨hD, Ex.new hD, upd_same⟩
      (fun i H' _ p => ⟨st_of (p.2.1 _ _ (x3 _ _ ht)), st_of (p.2.1 _ _ h3)⟩) (fun i v H4 H5 hi p y => ?_) (fun H' p => q2 Dl H' (fresh_back e3 p.1) (e3.trans p.2.1) p.2.2)
    obtain ⟨T, v1, v2, rfl, hT, rfl, f1, f2⟩ := y
    dsimp only at f2
    rw [List.getElem?_drop, Nat.add_comm 1 i] at f2
    obtain ⟨a1, x1, rfl, g1, ha1⟩ := RowsAt.at hrow hl f1
    obtain ⟨a2, x2', rfl, g2, ha2⟩ := RowsAt.at hrow hl f2
    have p5 : Cw H3 (fun _ => true) (fun _ => .bl true) Dl i (upd H4 T (.tup [.ref a1, .ref a2])) := ⟨p.1, p.2.1.trans (Ex.new hT), by rw [upd_ne (ne_of_none p.2.2 hT)]; exact p.2.2⟩
    refine ⟨T, [.ref a1, .ref a2], rfl, .inl (.inl upd_same), rfl, _, _, rfl, _, _, rfl, rfl, rfl, ?_⟩
    refine cw_turn p5 (by omega) et_yes fun _ => ?_
    refine ev_is (ev_op (ev_op (ev_var rfl) ev_c (rv_ixT (st_of (x3 _ _ ha1)) (atI_nat (j := 0) rfl))) (ev_op (ev_var rfl) ev_c (rv_ixT (st_of (x3 _ _ ha2)) (atI_nat (j := 0) rfl))) rv_I0) ?_
    rw [decide_eq_true (ho.2.2.2.2 i x1 x2' g1 g2)]
abbrev s_Bands_init : Stmt := inClass (top 42) 0
theorem sc_Bands_init : FnScope ["self", "name", "rows", "way"] ["self", "name", "rows", "way"] (defScope s_Bands_init) := ⟨rfl, rfl, rfl, by decide +kernel, rfl, by decide +kernel, by decide +kernel⟩
def sp_Bands_init (cA : Kd → Addr) : Sp := fun vs H Q _ => ∃ (x dx t : Addr) (n : Str) (rows : List (Int × Int)) (y : Way) (H0 : Hp), vs = [.ref x, .str n, .ref t, .str (wtxt y)] ∧ H x = some (.ins (cA .bands) dx []) ∧ NameOk n ∧ Ex H0 H ∧ H0 x = none ∧ RowsAt H0 t rows ∧ RowsOk rows ∧
  ∀ H2, ExB x H H2 → H2 x = some (.ins (cA .bands) dx (flds n t (.bands rows y))) → Q .non H2
theorem fat_Bands_init {f : Addr} (D : Dat K "__init__" "Bands.__init__" s_Bands_init f ["self", "name", "rows", "way"]) (T : Ct K mg cA cR cS fRi fSi) (c_Rule_init : Fat P w K mg base 3 fRi (sp_Rule_init cA)) (c_need_bands : Cal P w K mg base 4 "need_bands" sp_need_bands) (c_need_way : Cal P w K mg base 2 "need_way" sp_need_way) : Fat P w K mg base 5 f (sp_Bands_init cA) := by
  refine fat_of D sc_Bands_init (fun vs H Q E h => ?_) (fun cdv A outer s H vs Q E hr h => ?_)
  · obtain ⟨x, dx, t, n, rows, y, H0, rfl, _⟩ := h; rfl
  · obtain ⟨x, dx, t, n, rows, y, H0, rfl, hx, hn, e0, hx0, ht, ho, q⟩ := h
    refine ⟨_, (pss_cons (ps_expr (pe_cf T.ci_Rule c_Rule_init hr (by omega) rfl (pa_cons (pv 0) (pa_cons (pv 1) pa_nil))))
 (pss_cons (ps_expr (pe_c c_need_bands hr (by omega) rfl (pa_cons (pv 2) pa_nil)))
 (pss_cons (ps_expr (pe_c c_need_way hr (by omega) rfl (pa_cons (pv 3) pa_nil)))
 (pss_cons (ps_fld (pv 0) (pv 2) rfl)
 (pss_one (ps_fld (pv 0) (pv 3) rfl)))))), ?_⟩
    refine q_callE (ea_cons (ev_var rfl) (ea_cons (ev_var rfl) ea_nil)) fun H1 e1 => ⟨x, dx, .bands, n, rfl, e1 _ _ hx, hn, fun H2 b2 h2 => ?_⟩
    have x2 : Ex H0 H2 := ex_of_b (e0.trans e1) hx0 b2
    refine q_drop (ev_callx (ea_cons (ev_var rfl) ea_nil) (spv_need_bands (ht.mono x2) ho)) fun H3 e3 => ?_
    refine q_drop (ev_callx (ea_cons (ev_var rfl) ea_nil) spv_need_way) fun H4 e4 => ?_
    refine q_fld (ev_var rfl) (ev_var rfl) ((e3.trans e4) _ _ h2) (T.cl _) (T.n_bands _) (by show 1 < 1000; decide) fun H5 e5 => ?_
    rw [putF_new (by walk_at "lk")]
    refine s_fld (ev_var rfl) (ev_var rfl) upd_same (T.cl _) (T.n_way _) (by show 2 < 1000; decide) fun H6 e6 => ?_
    rw [putF_new (by show List.lookup _ (_ :: _ :: []) = _; walk_at "lk")]
    refine q _ (((ExB.of e1).trans b2).trans ((ExB.of ((e3.trans e4).trans e5)).trans (ExB.upd.trans ((ExB.of e6).trans .upd)))) ?_
    rw [upd_same]; rfl
abbrev s_Bands_until : Stmt := inClass (top 42) 1
theorem sc_Bands_until : FnScope ["self", "bases", "left", "whole", "border", "parts"] ["self", "bases"] (defScope s_Bands_until) := ⟨rfl, rfl, rfl, by decide +kernel, rfl, by decide +kernel, by decide +kernel⟩
theorem fat_Bands_until {f : Addr} (D : Dat K "until" "Bands.until" s_Bands_until f ["self", "bases"]) (B : Blt mg) (T : Ct K mg cA cR cS fRi fSi) (c_rounded : Cal P w K mg base 3 "rounded" sp_rounded) : Fat P w K mg base 4 f (sp_until cA 0 .bands) := by
  refine fat_of D sc_Bands_until (fun vs H Q E h => ?_) (fun cdv A outer s H vs Q E hr h => ?_)
  · obtain ⟨p, a, n, r, bs, rfl, _⟩ := h; rfl
  · obtain ⟨p, a, n, r, bs, rfl, hk, _, hp, ho, hb, q⟩ := h
    refine ⟨_, (pss_cons (ps_set (i := 2) sc_Bands_until.nd rfl (Or.inl rfl) (pe_callB (cr_sum rfl) (by rfl) B.sum_ (by decide +kernel) (pa_cons (pv 1) pa_nil)))
 (pss_cons (ps_set (i := 3) sc_Bands_until.nd rfl (Or.inl rfl) pe_int)
 (pss_cons (ps_for PassesOwn.never rfl (RT.pi_revA rfl B.reversed_ (pe_fld (pv 0) rfl)) (pg_tup rfl (pgs_cons (pg_name (i := 4) sc_Bands_until.nd rfl (Or.inl rfl)) (pgs_cons (pg_name (i := 5) sc_Bands_until.nd rfl (Or.inl rfl)) pgs_nil)))
 (pss_one (ps_if (pt_cmpR op_gt (pv 2) (pv 4) (nomark _))
 (pss_cons (ps_aug (i := 3) sc_Bands_until.nd rfl (Or.inl rfl) (pe_op op_mul (pe_op op_sub (pv 2) (pv 4)) (pv 5)) ip_add)
 (pss_one (ps_set (i := 2) sc_Bands_until.nd rfl (Or.inl rfl) (pv 4)))) pss_nil)))
 (pss_one (ps_ret (pe_c c_rounded hr (by omega) rfl (pa_cons (pv 3) (pa_cons (pe_fld (pv 0) rfl) pa_nil)))))))), ?_⟩
    cases r with
    | bands rows y =>
      obtain ⟨dx, t, hi, rs, ht, hl, hrow⟩ := id hp
      have lm : (rs.map V.ref).length = rows.length := by rw [List.length_map, hl]
      have hs : 0 ≤ bs.sum := sum_nonneg bs hb.nn
      refine q_asg (ev_cb (ea_cons (ev_var rfl) ea_nil) (rc_sum (sq_of hb.at_))) fun H1 e1 => ?_
      refine q_asg ev_c fun H2 e2 => ?_
      have x2 := e1.trans e2
      refine q_forRevT (ev_fld (ev_var rfl) (x2 _ _ hi) (T.cl _) (T.n_bands _) (by unfold flds; walk_at "lk")) (st_of (x2 _ _ ht)) (fun i σ' H' => ∃ (l wh : Int) (v4 v5 : Option V), σ' = [some (.ref p), some (.ref a), some (.int l), some (.int wh), v4, v5] ∧ Ex H H' ∧ wh + bandsR (rows.reverse.drop i) l = bandsR rows.reverse bs.sum)
        (fun H3 e3 => ⟨bs.sum, 0, none, none, rfl, x2.trans e3, by rw [List.drop_zero]; omega⟩) (fun i σ' H' ⟨_, _, _, _, _, e, _⟩ => st_of (e _ _ ht)) ?_ ?_
      · rintro i v σ' H' hi' hv ⟨l, wh, v4, v5, rfl, e4, hw⟩
        obtain ⟨a1, x, rfl, hx, ha1⟩ := RowsAt.at hrow hl hv
        have hxo := ho.2.2.1 x (List.mem_of_getElem? hx)
        have hil : i < rows.length := by omega
        have hd : rows.reverse.drop i = x :: rows.reverse.drop (i + 1) := by
          have hr' : rows.reverse[i]? = some x := by
            rw [List.getElem?_reverse hil, ← lm]; exact hx
          obtain ⟨h1, h2⟩ := List.getElem?_eq_some_iff.mp hr'
          rw [← h2]
          exact List.drop_eq_getElem_cons h1
        rw [hd] at hw
        obtain ⟨b, pp⟩ := x
        refine ⟨a1, [.int b, .int pp], rfl, st_of (e4 _ _ ha1), rfl, _, _, rfl, _, _, rfl, rfl, ?_⟩
        have hw' : wh + (if b < l then (l - b) * pp + bandsR (rows.reverse.drop (i + 1)) b else bandsR (rows.reverse.drop (i + 1)) l) = bandsR rows.reverse bs.sum := hw
        refine s_when (b := decide (b < l)) (et_test (ev_op (ev_var rfl) (ev_var rfl) rv_I0)) (fun hbl H5 e5 => ?_) (fun hbl H5 e5 => ?_)
        · rw [if_pos (of_decide_eq_true hbl)] at hw'
          refine q_aug (a := wh) (b := (l - b) * pp) rfl (ev_op (ev_op (ev_var rfl) (ev_var rfl) rv_I0) (ev_var rfl) (rv_I (.inr ⟨by have := hxo.2.2.1; simp only at this; omega, by have := hxo.2.2.2; simp only at this; omega⟩))) fun H6 e6 => ?_
          refine s_asg (ev_var rfl) fun H7 e7 => ?_
          exact ⟨b, wh + (l - b) * pp, _, _, rfl, ((e4.trans e5).trans e6).trans e7, by omega⟩
        · rw [if_neg (of_decide_eq_false hbl)] at hw'
          exact ⟨l, wh, _, _, rfl, e4.trans e5, hw'⟩
      · rintro σ' H' ⟨l, wh, v4, v5, rfl, e4, hw⟩
        have hz : rows.reverse.drop (rs.map V.ref).length = [] := List.drop_eq_nil_of_le (by rw [List.length_reverse, lm]; exact Nat.le_refl _)
        rw [hz] at hw
        have hw' : wh = bandsR rows.reverse bs.sum := by
          have : wh + 0 = bandsR rows.reverse bs.sum := hw
          omega
        subst hw'
        exact s_ret (ev_callx (ea_cons (ev_var rfl) (ea_cons (ev_fld (ev_var rfl) (e4 _ _ hi) (T.cl _) (T.n_way _) (by unfold flds; walk_at "lk")) ea_nil)) (spv_rounded (bandsR_nonneg _ _ (rows_rev ho)))) fun H5 e5 => q _ (e4.trans e5)
    | _ => cases hk
end
end Co

/-! what the law draws: numbers -/
namespace Co
open PySem PySem.Spec PyProof.Rows L2 Evl Km
local macro_rules | `(tactic| walk_at "ev") => `(tactic| (repeat' (first
  | ((with_reducible apply ev_var); rfl) | ((with_reducible apply rv_eq); rfl) | ((with_reducible apply rv_ne); rfl)
  | with_reducible exact ev_c | with_reducible exact rv_I0 | with_reducible exact ea_nil | with_reducible exact et_yes | with_reducible exact eo_none | with_reducible exact rc_intB | with_reducible exact rc_min | with_reducible exact rc_max | with_reducible exact rv_inS
  | walk_at "sp"
  | with_reducible apply rv_I | with_reducible apply ev_op | with_reducible apply ev_un | with_reducible apply ev_callx | with_reducible apply ea_cons | with_reducible apply et_test | with_reducible apply et_B | with_reducible apply et_not | with_reducible apply ev_notV | with_reducible apply ev_cb | with_reducible apply eo_some | with_reducible apply ev_chain | with_reducible apply ev_andV | with_reducible apply ev_orV | with_reducible apply et_and | with_reducible apply et_or
  | with_reducible intro _)))
theorem at_menu {xs : List Int} {i : Int} (h0 : 0 ≤ i) (h1 : i < xs.length) : atI (xs.map V.int) i = some (.int (xs.getD i.toNat 0)) := by
  have e : i = ((i.toNat : Nat) : Int) := by omega
  have hi : i.toNat < xs.length := by omega
  rw [e]
  refine (atI_nat (v := .int (xs.getD i.toNat 0)) ?_).trans ?_
  · rw [List.getElem?_map, List.getElem?_eq_getElem hi, List.getD_eq_getElem?_getD, List.getElem?_eq_getElem hi]; rfl
  · rw [← e]
def mixN (c k : Int) : Int := (c * 48271 + 7919 * k + 11) % 1000003
def mixed (c k : Int) : Int := mixN c k * mixN c k % 1000003 * mixN c k % 1000003
theorem mixed_lo (c k : Int) : 0 ≤ mixed c k := by unfold mixed; omega
theorem mixed_hi (c k : Int) : mixed c k < 1000003 := by unfold mixed; omega
def amountL (c k : Int) : List Int := [0, mixed c k / 7 % 30, mixed c k / 7 % 40000, mixed c k / 7 % 19 * 5000, mixed c k / 7 * 50, (mixed c k * 1000003 + mixed c (k + 60)) % (1000000000000 + 1), 1000000000000]
def amount (c k : Int) : Int := (amountL c k).getD (mixed c k % 7).toNat 0
theorem getD_all {P : Int → Prop} : ∀ {xs : List Int} {i : Nat} {d : Int}, (∀ x ∈ xs, P x) → i < xs.length → P (xs.getD i d)
  | xs, i, d, h, hi => by
    rw [List.getD_eq_getElem?_getD, List.getElem?_eq_getElem hi]
    exact h _ (List.getElem_mem hi)
theorem amount_ok (c k : Int) : AmtOk (amount c k) := by
  have h1 := mixed_lo c k
  have h2 := mixed_hi c k
  refine getD_all (P := AmtOk) (fun x hx => ?_) (by show (mixed c k % 7).toNat < 7; omega)
  unfold amountL at hx
  simp only [List.mem_cons, List.mem_nil_iff, or_false] at hx
  unfold AmtOk
  rcases hx with rfl | rfl | rfl | rfl | rfl | rfl | rfl <;> omega
def partsL (c k : Int) : List Int := [0, 1, 5000, 2500, 10000, 20000, 19999, 625, mixed c k / 10 % 20001, mixed c k / 10 % 300]
def parts (c k : Int) : Int := (partsL c k).getD (mixed c k % 10).toNat 0
theorem parts_ok (c k : Int) : PartsOk (parts c k) := by
  have h1 := mixed_lo c k
  have h2 := mixed_hi c k
  refine getD_all (P := PartsOk) (fun x hx => ?_) (by show (mixed c k % 10).toNat < 10; omega)
  unfold partsL at hx
  simp only [List.mem_cons, List.mem_nil_iff, or_false] at hx
  unfold PartsOk
  rcases hx with rfl | rfl | rfl | rfl | rfl | rfl | rfl | rfl | rfl | rfl <;> omega
def wayAt (i : Int) : Way := if i = 0 then .down else if i = 1 then .up else if i = 2 then .near else .even
theorem way_at {i : Int} (h0 : 0 ≤ i) (h1 : i < 4) : atI [V.str "down", .str "up", .str "near", .str "even"] i = some (.str (wtxt (wayAt i))) := by
  have h : i = 0 ∨ i = 1 ∨ i = 2 ∨ i = 3 := by omega
  rcases h with rfl | rfl | rfl | rfl <;> rfl
theorem ev_pow12 {σ : L2.St} {H : Hp} : Ev (tOp (rI CPow fun i j => .int (i ^ j.toNat)) (tC (.int 10)) (tC (.int 12))) σ H (.int 1000000000000) :=
  ev_is (ev_op ev_c ev_c (rv_I ⟨by decide, by decide, by decide⟩)) (by decide +kernel)
local macro_rules | `(tactic| walk_at "sp") => `(tactic| with_reducible exact ev_pow12)
section
variable {P : Program} {w : World} {K : PySem.W.Frag} {mg : Str → Option Value} {base : Heap} {aW aN : Addr} {σ : L2.St} {H : Hp} {cA : Kd → Addr} {cR cS fRi fSi : Addr}
abbrev s_l_cell_at : Stmt := top 44
theorem sc_l_cell_at : FnScope ["_law_script", "_law_k"] ["_law_script", "_law_k"] (defScope s_l_cell_at) := ⟨rfl, rfl, rfl, by decide +kernel, rfl, by decide +kernel, by decide +kernel⟩
/-- the script is a list of ints, whatever may hold it -/
def sp_l_cell_at (K : PySem.W.Frag) : Sp := fun vs H Q _ => ∃ (a : Addr) (ns : List Int) (k : Nat), vs = [.ref a, .int (k : Int)] ∧ SqL K H a (ns.map V.int) ∧ RetV (.int (ns.getD k 0)) H Q
theorem spv_l_cell_at {a : Addr} {ns : List Int} {k : Nat} (h : SqL K H a (ns.map V.int)) : SpV (sp_l_cell_at K) [.ref a, .int (k : Int)] H (.int (ns.getD k 0)) := fun H1 e Q q E => ⟨a, ns, k, rfl, ex_l e h, q⟩
theorem cal_l_cell_at (D : Def K mg "_law_cell_at" s_l_cell_at ["_law_script", "_law_k"]) (B : Blt mg) : Cal P w K mg base 1 "_law_cell_at" (sp_l_cell_at K) := by
  refine cal_of D sc_l_cell_at (fun vs H Q E h => ?_) (fun f cdv A outer s H vs Q E hr h => ?_)
  · obtain ⟨a, ns, k, rfl, _⟩ := h; rfl
  · obtain ⟨a, ns, k, rfl, hS, q⟩ := h
    refine ⟨_, (pss_cons (ps_if (pt_cmpR op_lt (pv 1) (pe_callB call_len_seq (by rfl) B.len_ (by decide +kernel) (pa_cons (pv 0) pa_nil)) (nomark _))
 (pss_one (ps_ret (pe_ix ix_list (pv 0) (pv 1) (fun _ _ => rfl)))) pss_nil)
 (pss_one (ps_ret pe_int))), ?_⟩
    refine q_when (b := decide ((k : Int) < ((ns.map V.int).length : Int))) (et_test (ev_op (ev_var rfl) (ev_cb (ea_cons (ev_var rfl) ea_nil) (rc_lenL hS)) rv_I0)) (fun hb H1 e1 => ?_) (fun hb H1 e1 => ?_)
    · have h1 := of_decide_eq_true hb
      have h2 : (k : Int) < (ns.length : Int) := by rw [List.length_map] at h1; exact h1
      have h3 := at_menu (xs := ns) (i := (k : Int)) (by omega) h2
      refine s_ret (ev_op (ev_var rfl) (ev_var rfl) (rv_ixL (ex_l e1 hS) h3)) fun H2 e2 => ?_
      rw [Int.toNat_natCast]
      exact q _ (e1.trans e2)
    · have h1 := of_decide_eq_false hb
      rw [List.length_map] at h1
      refine s_ret ev_c fun H2 e2 => ?_
      have h0 : ns.getD k 0 = 0 := by
        rw [List.getD_eq_getElem?_getD, List.getElem?_eq_none (by omega)]; rfl
      rw [h0] at q
      exact q _ (e1.trans e2)
abbrev s_l_mixed : Stmt := top 45
theorem sc_l_mixed : FnScope ["_law_cell", "_law_k", "_law_number"] ["_law_cell", "_law_k"] (defScope s_l_mixed) := ⟨rfl, rfl, rfl, by decide +kernel, rfl, by decide +kernel, by decide +kernel⟩
def sp_l_mixed : Sp := fun vs H Q _ => ∃ c k : Int, vs = [.int c, .int k] ∧ RetV (.int (mixed c k)) H Q
theorem spv_l_mixed {c k : Int} : SpV sp_l_mixed [.int c, .int k] H (.int (mixed c k)) := fun H1 e Q q E => ⟨c, k, rfl, q⟩
local macro_rules | `(tactic| walk_at "sp") => `(tactic| with_reducible exact spv_l_mixed)
theorem cal_l_mixed (D : Def K mg "_law_mixed" s_l_mixed ["_law_cell", "_law_k"]) : Cal P w K mg base 1 "_law_mixed" sp_l_mixed := by
  refine cal_of D sc_l_mixed (fun vs H Q E h => ?_) (fun f cdv A outer s H vs Q E hr h => ?_)
  · obtain ⟨c, k, rfl, _⟩ := h; rfl
  · obtain ⟨c, k, rfl, q⟩ := h
    refine ⟨_, (pss_cons (ps_set (i := 2) sc_l_mixed.nd rfl (Or.inl rfl) (pe_op op_mod (pe_op op_add (pe_op op_add (pe_op op_mul (pv 0) pe_int) (pe_op op_mul pe_int (pv 1))) pe_int) pe_int))
 (pss_one (ps_ret (pe_op op_mod (pe_op op_mul (pe_op op_mod (pe_op op_mul (pv 2) (pv 2)) pe_int) (pv 2)) pe_int)))), ?_⟩
    refine q_asg (v := .int (mixN c k)) ?_ fun H1 e1 => ?_
    · unfold mixN
      walk_at "ev"
      · exact .inr ⟨by decide, by decide⟩
      · exact .inl ⟨by decide, by decide⟩
      · decide
    have h1 : 0 ≤ mixN c k := by unfold mixN; omega
    have h2 : mixN c k < 1000003 := by unfold mixN; omega
    refine s_ret (v := .int (mixed c k)) ?_ fun H2 e2 => q _ (e1.trans e2)
    unfold mixed
    walk_at "ev"
    · exact .inl ⟨by omega, by omega⟩
    · decide
    · exact .inr ⟨by omega, by omega⟩
    · decide
abbrev s_l_whole : Stmt := top 46
theorem sc_l_whole : FnScope ["_law_found"] ["_law_found"] (defScope s_l_whole) := ⟨rfl, rfl, rfl, by decide +kernel, rfl, by decide +kernel, by decide +kernel⟩
def sp_l_whole : Sp := fun vs H Q _ => ∃ i : Int, vs = [.int i] ∧ RetV (.bl true) H Q
theorem spv_l_whole {i : Int} : SpV sp_l_whole [.int i] H (.bl true) := fun H1 e Q q E => ⟨i, rfl, q⟩
theorem cal_l_whole (D : Def K mg "_law_whole" s_l_whole ["_law_found"]) (B : Blt mg) : Cal P w K mg base 1 "_law_whole" sp_l_whole := by
  refine cal_of D sc_l_whole (fun vs H Q E h => ?_) (fun f cdv A outer s H vs Q E hr h => ?_)
  · obtain ⟨i, rfl, _⟩ := h; rfl
  · obtain ⟨i, rfl, q⟩ := h
    refine ⟨_, (pss_one (ps_ret (pe_and (pe_callB call_isi (by rfl) B.isinstance_ (by decide +kernel) (pa_cons (pv 0) (pa_cons (pe_bltn (v := .ty "int") (by rfl) B.int_ (by decide +kernel) rfl) pa_nil))) (pe_one (pe_not (pe_callB call_isi (by rfl) B.isinstance_ (by decide +kernel) (pa_cons (pv 0) (pa_cons (pe_bltn (v := .ty "bool") (by rfl) B.bool_ (by decide +kernel) rfl) pa_nil)))))))), ?_⟩
    refine s_ret (ev_andV (a := true) ?_ fun _ => ev_notV (a := false) ?_) q
    · exact ev_cb (ea_cons (ev_var rfl) (ea_cons ev_c ea_nil)) (rc_isi (.ty "int") (fun _ _ => .base (.int i)) (kit_ty (by decide +kernel)))
    · exact ev_cb (ea_cons (ev_var rfl) (ea_cons ev_c ea_nil)) (rc_isi (.ty "bool") (fun _ _ => .base (.int i)) (kit_ty (by decide +kernel)))
abbrev s_l_amount : Stmt := top 47
theorem sc_l_amount : FnScope ["_law_cell", "_law_k", "_law_number", "_law_more", "_law_wide"] ["_law_cell", "_law_k"] (defScope s_l_amount) := ⟨rfl, rfl, rfl, by decide +kernel, rfl, by decide +kernel, by decide +kernel⟩
def sp_l_amount : Sp := fun vs H Q _ => ∃ c k : Int, vs = [.int c, .int k] ∧ RetV (.int (amount c k)) H Q
theorem spv_l_amount {c k : Int} : SpV sp_l_amount [.int c, .int k] H (.int (amount c k)) := fun H1 e Q q E => ⟨c, k, rfl, q⟩
local macro_rules | `(tactic| walk_at "sp") => `(tactic| with_reducible exact spv_l_amount)
theorem cal_l_amount (D : Def K mg "_law_amount" s_l_amount ["_law_cell", "_law_k"]) (c_l_mixed : Cal P w K mg base 1 "_law_mixed" sp_l_mixed) : Cal P w K mg base 2 "_law_amount" sp_l_amount := by
  refine cal_of D sc_l_amount (fun vs H Q E h => ?_) (fun f cdv A outer s H vs Q E hr h => ?_)
  · obtain ⟨c, k, rfl, _⟩ := h; rfl
  · obtain ⟨c, k, rfl, q⟩ := h
    refine ⟨_, (pss_cons (ps_set (i := 2) sc_l_amount.nd rfl (Or.inl rfl) (pe_c c_l_mixed hr (by omega) rfl (pa_cons (pv 0) (pa_cons (pv 1) pa_nil))))
 (pss_cons (ps_set (i := 3) sc_l_amount.nd rfl (Or.inl rfl) (pe_op op_fdiv (pv 2) pe_int))
 (pss_cons (ps_set (i := 4) sc_l_amount.nd rfl (Or.inl rfl) (pe_op op_add (pe_op op_mul (pv 2) pe_int) (pe_c c_l_mixed hr (by omega) rfl (pa_cons (pv 0) (pa_cons (pe_op op_add (pv 1) pe_int) pa_nil)))))
 (pss_one (ps_ret (pe_ix ix_list (pe_lst (pa_cons pe_int (pa_cons (pe_op op_mod (pv 3) pe_int) (pa_cons (pe_op op_mod (pv 3) pe_int) (pa_cons (pe_op op_mul (pe_op op_mod (pv 3) pe_int) pe_int) (pa_cons (pe_op op_mul (pv 3) pe_int) (pa_cons (pe_op op_mod (pv 4) (pe_op op_add (pe_op op_pow pe_int pe_int) pe_int)) (pa_cons (pe_op op_pow pe_int pe_int) pa_nil)))))))) (pe_op op_mod (pv 2) pe_int) (fun _ _ => rfl))))))), ?_⟩
    have h1 := mixed_lo c k
    have h2 := mixed_hi c k
    refine q_asg (v := .int (mixed c k)) (by walk_at "ev") fun H1 e1 => ?_
    refine q_asg (v := .int (mixed c k / 7)) (ev_op (ev_var rfl) ev_c (rv_I ⟨by decide, by decide⟩)) fun H2 e2 => ?_
    refine q_asg (v := .int (mixed c k * 1000003 + mixed c (k + 60))) ?_ fun H3 e3 => ?_
    · walk_at "ev"
      exact .inl ⟨by omega, by omega⟩
    refine s_ret (ev_ixNew (xs := (amountL c k).map V.int) (el_lst ?_ (by show 7 ≤ 100000; decide)) (ev_op (ev_var rfl) ev_c (rv_I (show (0 : Int) < 7 by decide))) (at_menu (by omega) (by show mixed c k % 7 < 7; omega))) fun H4 e4 => q _ (((e1.trans e2).trans e3).trans e4)
    unfold amountL
    rw [List.map_cons, List.map_cons, List.map_cons, List.map_cons, List.map_cons, List.map_cons, List.map_cons, List.map_nil]
    walk_at "ev"
    all_goals first | (show (0 : Int) < _; decide) | exact .inr ⟨by decide, by decide⟩ | exact .inl ⟨by omega, by omega⟩
abbrev s_l_parts : Stmt := top 50
theorem sc_l_parts : FnScope ["_law_cell", "_law_k", "_law_number"] ["_law_cell", "_law_k"] (defScope s_l_parts) := ⟨rfl, rfl, rfl, by decide +kernel, rfl, by decide +kernel, by decide +kernel⟩
def sp_l_parts : Sp := fun vs H Q _ => ∃ c k : Int, vs = [.int c, .int k] ∧ RetV (.int (parts c k)) H Q
theorem spv_l_parts {c k : Int} : SpV sp_l_parts [.int c, .int k] H (.int (parts c k)) := fun H1 e Q q E => ⟨c, k, rfl, q⟩
theorem cal_l_parts (D : Def K mg "_law_parts" s_l_parts ["_law_cell", "_law_k"]) (c_l_mixed : Cal P w K mg base 1 "_law_mixed" sp_l_mixed) : Cal P w K mg base 2 "_law_parts" sp_l_parts := by
  refine cal_of D sc_l_parts (fun vs H Q E h => ?_) (fun f cdv A outer s H vs Q E hr h => ?_)
  · obtain ⟨c, k, rfl, _⟩ := h; rfl
  · obtain ⟨c, k, rfl, q⟩ := h
    refine ⟨_, (pss_cons (ps_set (i := 2) sc_l_parts.nd rfl (Or.inl rfl) (pe_c c_l_mixed hr (by omega) rfl (pa_cons (pv 0) (pa_cons (pv 1) pa_nil))))
 (pss_one (ps_ret (pe_ix ix_list (pe_lst (pa_cons pe_int (pa_cons pe_int (pa_cons pe_int (pa_cons pe_int (pa_cons pe_int (pa_cons pe_int (pa_cons pe_int (pa_cons pe_int (pa_cons (pe_op op_mod (pe_op op_fdiv (pv 2) pe_int) pe_int) (pa_cons (pe_op op_mod (pe_op op_fdiv (pv 2) pe_int) pe_int) pa_nil))))))))))) (pe_op op_mod (pv 2) pe_int) (fun _ _ => rfl))))), ?_⟩
    have h1 := mixed_lo c k
    have h2 := mixed_hi c k
    refine q_asg (v := .int (mixed c k)) (by walk_at "ev") fun H1 e1 => ?_
    refine s_ret (ev_ixNew (xs := (partsL c k).map V.int) (el_lst ?_ (by show 10 ≤ 100000; decide)) (ev_op (ev_var rfl) ev_c (rv_I (show (0 : Int) < 10 by decide))) (at_menu (by omega) (by show mixed c k % 10 < 10; omega))) fun H4 e4 => q _ (e1.trans e4)
    unfold partsL
    rw [List.map_cons, List.map_cons, List.map_cons, List.map_cons, List.map_cons, List.map_cons, List.map_cons, List.map_cons, List.map_cons, List.map_cons, List.map_nil]
    walk_at "ev"
    all_goals first | (show (0 : Int) < _; decide) | exact ⟨by decide, by decide⟩
abbrev s_l_way : Stmt := top 51
theorem sc_l_way : FnScope ["_law_cell", "_law_k"] ["_law_cell", "_law_k"] (defScope s_l_way) := ⟨rfl, rfl, rfl, by decide +kernel, rfl, by decide +kernel, by decide +kernel⟩
def sp_l_way : Sp := fun vs H Q _ => ∃ c k : Int, vs = [.int c, .int k] ∧ RetV (.str (wtxt (wayAt (mixed c k / 5 % 4)))) H Q
theorem spv_l_way {c k : Int} : SpV sp_l_way [.int c, .int k] H (.str (wtxt (wayAt (mixed c k / 5 % 4)))) := fun H1 e Q q E => ⟨c, k, rfl, q⟩
theorem cal_l_way (D : Def K mg "_law_way" s_l_way ["_law_cell", "_law_k"]) (c_l_mixed : Cal P w K mg base 1 "_law_mixed" sp_l_mixed) : Cal P w K mg base 2 "_law_way" sp_l_way := by
  refine cal_of D sc_l_way (fun vs H Q E h => ?_) (fun f cdv A outer s H vs Q E hr h => ?_)
  · obtain ⟨c, k, rfl, _⟩ := h; rfl
  · obtain ⟨c, k, rfl, q⟩ := h
    refine ⟨_, (pss_one (ps_ret (pe_ix ix_list (pe_lst (pa_cons pe_str (pa_cons pe_str (pa_cons pe_str (pa_cons pe_str pa_nil))))) (pe_op op_mod (pe_op op_fdiv (pe_c c_l_mixed hr (by omega) rfl (pa_cons (pv 0) (pa_cons (pv 1) pa_nil))) pe_int) pe_int) (fun _ _ => rfl)))), ?_⟩
    have h1 := mixed_lo c k
    have h2 := mixed_hi c k
    refine s_ret (ev_ixNew (el_lst (vs := [V.str "down", .str "up", .str "near", .str "even"]) ?_ (by show 4 ≤ 100000; decide)) (ev_op (ev_op (ev_callx (ea_cons (ev_var rfl) (ea_cons (ev_var rfl) ea_nil)) spv_l_mixed) ev_c (rv_I ⟨by decide, by decide⟩)) ev_c (rv_I (show (0 : Int) < 4 by decide))) (way_at (by omega) (by omega))) q
    walk_at "ev"
abbrev s_l_bases : Stmt := top 48
theorem sc_l_bases : FnScope ["_law_cell", "_law_many", "_law_found", "_law_k", "_law_amount_here"] ["_law_cell", "_law_many"] (defScope s_l_bases) := ⟨rfl, rfl, rfl, by decide +kernel, rfl, by decide +kernel, by decide +kernel⟩
def sp_l_bases : Sp := fun vs H Q _ => ∃ (c : Int) (n : Nat), vs = [.int c, .int (n : Int)] ∧ n ≤ 1000 ∧ ∀ p bs H2, Ex H H2 → BasesAt H2 p bs → bs.length = n → Q (.ref p) H2
theorem cal_l_bases (D : Def K mg "_law_bases" s_l_bases ["_law_cell", "_law_many"]) (B : Blt mg) (c_l_amount : Cal P w K mg base 2 "_law_amount" sp_l_amount) : Cal P w K mg base 3 "_law_bases" sp_l_bases := by
  refine cal_of D sc_l_bases (fun vs H Q E h => ?_) (fun f cdv A outer s H vs Q E hr h => ?_)
  · obtain ⟨c, n, rfl, _⟩ := h; rfl
  · obtain ⟨c, n, rfl, hn, q⟩ := h
    refine ⟨_, (pss_cons (ps_set (i := 2) sc_l_bases.nd rfl (Or.inl rfl) (pe_lst pa_nil))
 (pss_cons (ps_for PassesOwn.never rfl (pi_range1 rfl B.range_ (pa_cons (pv 1) pa_nil)) (pg_name (i := 3) sc_l_bases.nd rfl (Or.inl rfl))
 (pss_cons (ps_set (i := 4) sc_l_bases.nd rfl (Or.inl rfl) (pe_c c_l_amount hr (by omega) rfl (pa_cons (pv 0) (pa_cons (pe_op op_add pe_int (pv 3)) pa_nil))))
 (pss_cons (ps_if (pt_cmpR op_eq (pe_op op_mod (pv 0) pe_int) pe_int (nomark _))
 (pss_one (ps_set (i := 4) sc_l_bases.nd rfl (Or.inl rfl) (pe_op op_mod (pv 4) pe_int))) pss_nil)
 (pss_one (ps_expr (pe_bm PySem.F.plainAttrs_list PySem.F.slot_list_append PySem.F.type_list_append mt_append (pv 2) (pa_cons (pv 4) pa_nil)))))))
 (pss_one (ps_ret (pv 2))))), ?_⟩
    refine q_asgL (el_lst ea_nil (by show 0 ≤ 100000; decide)) fun l H1 hl e1 h1 => ?_
    refine q_forR1 (n := (n : Int)) (ea_cons (ev_var rfl) ea_nil) (by omega) (fun i σ' H' => ∃ (bs : List Int) (v3 v4 : Option V), σ' = [some (.int c), some (.int (n : Int)), some (.ref l), v3, v4] ∧ Ex H H' ∧ BasesAt H' l bs ∧ bs.length = i)
      (fun H2 e2 => ⟨[], none, none, rfl, e1.trans e2, ⟨e2 _ _ h1, fun b hb => (by cases hb), Nat.zero_le _⟩, rfl⟩) ?_ ?_
    · rintro i σ' H' hi ⟨bs, v3, v4, rfl, e2, hb, hbl⟩
      have ha := amount_ok c (10 + (i : Int))
      refine q_asg (v := .int (amount c (10 + (i : Int)))) (by walk_at "ev") fun H3 e3 => ?_
      refine q_ifAsg (b := decide (c % 4 = 1)) (v := .int (if c % 4 = 1 then amount c (10 + (i : Int)) % 9 else amount c (10 + (i : Int)))) ?_ (fun hb => ?_) (fun hb => ?_) fun H4 e4 => ?_
      · rw [← dv_int]
        walk_at "ev"
        decide
      · rw [if_pos (of_decide_eq_true hb)]
        walk_at "ev"
        decide
      · rw [if_neg (of_decide_eq_false hb)]; rfl
      · refine s_app (((e3.trans e4)) _ _ hb.at_) (ev_var rfl) (ev_var rfl) (by rw [List.length_map]; omega) fun H5 e5 => ?_
        have hm : Ex H (L2.upd H5 l (.lst (bs.map V.int ++ [.int (if c % 4 = 1 then amount c (10 + (i : Int)) % 9 else amount c (10 + (i : Int)))]))) := Ex.mut (((e2.trans e3).trans e4).trans e5) hl
        refine ⟨bs ++ [if c % 4 = 1 then amount c (10 + (i : Int)) % 9 else amount c (10 + (i : Int))], _, _, rfl, hm, ⟨?_, fun b hb' => ?_, ?_⟩, ?_⟩
        · rw [upd_same, List.map_append]; rfl
        · rcases List.mem_append.mp hb' with z | z
          · exact hb.nn b z
          · rw [List.mem_singleton.mp z]
            have := ha.1
            split <;> omega
        · rw [List.length_append, List.length_singleton]; omega
        · rw [List.length_append, List.length_singleton]; omega
    · rintro σ' H' ⟨bs, v3, v4, rfl, e2, hb, hbl⟩
      exact s_ret (ev_var rfl) fun H3 e3 => q l bs H3 (e2.trans e3) (hb.mono e3) (by rw [hbl, Int.toNat_natCast])
end
end Co

/-! what the law draws: names, pairs, rules -/
namespace Co
open PySem PySem.Spec PyProof.Rows L2 Evl Km
local macro_rules | `(tactic| walk_at "ev") => `(tactic| (repeat' (first
  | ((with_reducible apply ev_var); rfl) | ((with_reducible apply rv_eq); rfl) | ((with_reducible apply rv_ne); rfl)
  | with_reducible exact ev_c | with_reducible exact rv_I0 | with_reducible exact ea_nil | with_reducible exact et_yes | with_reducible exact eo_none | with_reducible exact rc_intB | with_reducible exact rc_min | with_reducible exact rc_max | with_reducible exact rv_inS
  | walk_at "sp"
  | with_reducible apply rv_I | with_reducible apply ev_op | with_reducible apply ev_un | with_reducible apply ev_callx | with_reducible apply ea_cons | with_reducible apply et_test | with_reducible apply et_B | with_reducible apply et_not | with_reducible apply ev_notV | with_reducible apply ev_cb | with_reducible apply eo_some | with_reducible apply ev_chain | with_reducible apply ev_andV | with_reducible apply ev_orV | with_reducible apply et_and | with_reducible apply et_or
  | with_reducible intro _)))
local macro_rules | `(tactic| walk_at "sp") => `(tactic| with_reducible exact ev_pow12)
local macro_rules | `(tactic| walk_at "sp") => `(tactic| with_reducible exact spv_l_mixed)
local macro_rules | `(tactic| walk_at "sp") => `(tactic| with_reducible exact spv_l_parts)
local macro_rules | `(tactic| walk_at "sp") => `(tactic| with_reducible exact spv_l_amount)
local macro_rules | `(tactic| walk_at "sp") => `(tactic| with_reducible exact spv_l_way)
/-! ### texts as lists of signs -/
open SX (S)
def letL : List Nat := [97, 98, 99, 100, 101, 102, 103, 104, 105, 106, 107, 108, 109, 110, 111, 112, 113, 114, 115, 116, 117, 118, 119, 120, 121, 122]
def somL : List Nat := [97, 99, 100, 102, 103, 104, 105, 106, 107, 108, 111, 112, 113, 114, 116, 117, 118, 119, 120, 121, 122]
def nonL : List (List Nat) := [[98, 97, 115, 101], [110, 101, 116], [109, 111, 110, 116, 104], [115, 117, 109, 115]]
theorem let_S : LET = S letL := by decide +kernel
theorem som_S : ("acdfghijklopqrtuvwxyz" : Str) = S somL := by decide +kernel
theorem non_S : NON = nonL.map S := by decide +kernel
theorem som_let : ∀ c ∈ somL, c ∈ letL := by decide
def bad (c : Nat) : Bool := decide (c ∈ ([98, 101, 109, 110, 115] : List Nat))
theorem som_bad : ∀ c ∈ somL, bad c = false := by decide
theorem non_bad : ∀ l ∈ nonL, 2 ≤ l.countP bad := by decide
theorem nameOk_S {l : List Nat} (h1 : 1 ≤ l.length) (h2 : l.length ≤ 8) (h3 : ∀ c ∈ l, c ∈ letL) (h4 : l ∉ nonL) : NameOk (S l) := by
  refine ⟨by rw [SX.S_len]; exact h1, by rw [SX.S_len]; exact h2, fun c hc => ?_, fun hm => ?_⟩
  · rw [let_S]
    exact h3 c hc
  · rw [non_S] at hm
    obtain ⟨m, hm1, hm2⟩ := List.mem_map.mp hm
    exact h4 (SX.S_inj hm2 ▸ hm1)
theorem nameOk_bad {u v : List Nat} {c : Nat} (hu : ∀ x ∈ u, x ∈ somL) (hv : ∀ x ∈ v, x ∈ somL) (hc : c ∈ letL) (hl : u.length + v.length ≤ 7) : NameOk (S (u ++ [c] ++ v)) := by
  refine nameOk_S (by simp; omega) (by simp; omega) (fun x hx => ?_) fun hm => ?_
  · simp only [List.mem_append, List.mem_singleton] at hx
    rcases hx with (hx | rfl) | hx
    · exact som_let x (hu x hx)
    · exact hc
    · exact som_let x (hv x hx)
  · have h2 := non_bad _ hm
    have z : ∀ {w : List Nat}, (∀ x ∈ w, x ∈ somL) → w.countP bad = 0 := fun {w} h => List.countP_eq_zero.mpr fun x hx => by rw [som_bad x (h x hx)]; decide
    rw [List.countP_append, List.countP_append, z hu, z hv] at h2
    have h3 : ([c] : List Nat).countP bad ≤ 1 := List.countP_le_length
    omega
theorem nameOk_q {v : List Nat} (hv : ∀ x ∈ v, x ∈ somL) (hl : v.length ≤ 7) : NameOk (S (113 :: v)) := by
  refine nameOk_S (by simp) (by simp; omega) (fun x hx => ?_) fun hm => ?_
  · rcases List.mem_cons.mp hx with rfl | hx
    · decide
    · exact som_let x (hv x hx)
  · unfold nonL at hm
    simp at hm
def wordsS : List Str := ["bases", "nets", "months", "sum", "ne", "basis", "bet", "sumsum", "netnet", "mont"]
theorem word_ok : ∀ n ∈ wordsS, NameOk n := by
  intro n hn
  unfold wordsS at hn
  simp only [List.mem_cons, List.mem_nil_iff, or_false] at hn
  rcases hn with rfl | rfl | rfl | rfl | rfl | rfl | rfl | rfl | rfl | rfl <;> exact ⟨by decide +kernel, by decide +kernel, by decide +kernel, by decide +kernel⟩
theorem joinL_one : ∀ cs : List Nat, TL.joinL [] (cs.map fun c => [c]) = cs
  | [] => rfl
  | [c] => rfl
  | c :: d :: r => by
    show [c] ++ ([] ++ TL.joinL [] ((d :: r).map fun c => [c])) = c :: d :: r
    rw [joinL_one (d :: r)]; rfl
theorem join_one (cs : List Nat) : Txt.join "" (cs.map fun c => S [c]) = S cs := by
  have e : cs.map (fun c => S [c]) = (cs.map fun c => [c]).map S := by rw [List.map_map]; rfl
  rw [e, show ("" : Str) = S [] from by decide +kernel, SX.join_S, joinL_one]
theorem cut_take (f : List Nat) (k : Nat) : cutS (S f) none (some (k : Int)) = S (f.take k) := by
  unfold cutS
  rw [SX.S_len, HT.sIx_none, HT.sIx_nat, List.drop_zero, Nat.sub_zero]
  show S (f.take (min k f.length)) = S (f.take k)
  rw [List.take_eq_take_min (i := k)]
theorem cut_mid (f : List Nat) (a b : Nat) (h1 : a ≤ f.length) (h2 : b ≤ f.length) : cutS (S f) (some (a : Int)) (some (b : Int)) = S ((f.drop a).take (b - a)) := by
  unfold cutS
  rw [SX.S_len, HT.sIx_nat, HT.sIx_nat, Nat.min_eq_left h1, Nat.min_eq_left h2]
theorem at_nats {xs : List Nat} {i : Int} (h0 : 0 ≤ i) (h1 : i < xs.length) : atI xs i = some (xs.getD i.toNat 0) := by
  have e : i = ((i.toNat : Nat) : Int) := by omega
  have hi : i.toNat < xs.length := by omega
  have := atI_nat (xs := xs) (j := i.toNat) (v := xs.getD i.toNat 0) (by rw [List.getElem?_eq_getElem hi, List.getD_eq_getElem?_getD, List.getElem?_eq_getElem hi]; rfl)
  rw [← e] at this
  exact this
theorem getD_mem {xs : List Nat} {i : Nat} {d : Nat} (hi : i < xs.length) : xs.getD i d ∈ xs := by
  rw [List.getD_eq_getElem?_getD, List.getElem?_eq_getElem hi]
  exact List.getElem_mem hi
theorem given_map (n : Nat) (v : Nat → V) : given n (fun _ => true) v = (List.range n).map v := by
  unfold given
  rw [List.filter_eq_self.mpr fun _ _ => rfl]
def frameL (c : Int) : List Nat := (List.range 7).map fun (j : Nat) => somL.getD (mixed c (120 + (j : Int)) % 21).toNat 0
theorem frame_som (c : Int) : ∀ x ∈ frameL c, x ∈ somL := fun x hx => by
  obtain ⟨j, _, rfl⟩ := List.mem_map.mp hx
  have h1 := mixed_lo c (120 + (j : Int))
  exact getD_mem (by show _ < 21; omega)
theorem frame_len (c : Int) : (frameL c).length = 7 := by unfold frameL; rw [List.length_map, List.length_range]
theorem ev_joinNew {K : PySem.W.Frag} {σ : L2.St} {H : Hp} {tl : TE} {a : Str} {ys : List Str} (ha : EvL tl σ H (ys.map V.str)) (hz : (ys.map (·.length)).sum + ys.length * a.length ≤ 16777216) :
    Ev (tM1 (fun x xs H Q => ∃ a p, ∃ ys : List Str, x = .str a ∧ xs = [.ref p] ∧ (SqL K H p (ys.map V.str) ∨ SqT K H p (ys.map V.str)) ∧ (ys.map (·.length)).sum + ys.length * a.length ≤ 16777216 ∧ Q (.str (Txt.join a ys)) H) (tC (.str a)) tl) σ H (.str (Txt.join a ys)) := fun H1 e Q q =>
  ⟨⟨a, rfl⟩, ha H1 e _ fun p H2 _ e2 h2 => ⟨a, p, ys, rfl, rfl, .inl (sq_of h2), hz, q H2 e2⟩⟩
section
variable {P : Program} {w : World} {K : PySem.W.Frag} {mg : Str → Option Value} {base : Heap} {aW aN : Addr} {σ : L2.St} {H : Hp} {cA : Kd → Addr} {cR cS fRi fSi : Addr}
abbrev s_l_names : Stmt := top 49
theorem sc_l_names : FnScope ["_law_cell", "_law_many", "_law_letters", "_law_some", "_law_number", "_law_frame", "_law_at", "_law_size", "_law_signs", "_law_words", "_law_j", "_law_k", "_law_sign"] ["_law_cell", "_law_many"] (defScope s_l_names) := ⟨rfl, rfl, rfl, by decide +kernel, rfl, by decide +kernel, by decide +kernel⟩
def sp_l_names : Sp := fun vs H Q _ => ∃ c : Int, vs = [.int c, .int 2] ∧ ∀ p n0 n1 H2, Ex H H2 → H2 p = some (.lst [.str n0, .str n1]) → NameOk n0 → NameOk n1 → Q (.ref p) H2
theorem cal_l_names (D : Def K mg "_law_names" s_l_names ["_law_cell", "_law_many"]) (B : Blt mg) (c_l_mixed : Cal P w K mg base 1 "_law_mixed" sp_l_mixed) : Cal P w K mg base 2 "_law_names" sp_l_names := by
  refine cal_of D sc_l_names (fun vs H Q E h => ?_) (fun f cdv A outer s H vs Q E hr h => ?_)
  · obtain ⟨c, rfl, _⟩ := h; rfl
  · obtain ⟨c, rfl, q⟩ := h
    refine ⟨_, (pss_cons (ps_set (i := 2) sc_l_names.nd rfl (Or.inr rfl) pe_str)
 (pss_cons (ps_set (i := 3) sc_l_names.nd rfl (Or.inr rfl) pe_str)
 (pss_cons (ps_set (i := 4) sc_l_names.nd rfl (Or.inr rfl) (pe_c c_l_mixed hr (by omega) rfl (pa_cons (pv 0) (pa_cons pe_int pa_nil))))
 (pss_cons (ps_set (i := 5) sc_l_names.nd rfl (Or.inr rfl) (pe_join pe_str (pe_lc (own := [("_law_j", 10)]) rfl sc_l_names.nd (pi_range1 rfl B.range_ (pa_cons pe_int pa_nil)) (blkOk_by (own := [("_law_j", 10)]) (N := ["_law_cell", "_law_many", "_law_letters", "_law_some", "_law_number", "_law_frame", "_law_at", "_law_size", "_law_signs", "_law_words", "_law_j", "_law_k", "_law_sign"]) (sc := defScope s_l_names) (by decide +kernel)) (fun _ _ _ _ _ => pg_name (i := 10) sc_l_names.nd rfl (Or.inl rfl)) (fun _ _ _ _ _ => pts_nil) (fun _ _ _ _ _ => (pe_ix ix_str (pv 3) (pe_op op_mod (pe_c c_l_mixed hr (by omega) rfl (pa_cons (pv 0) (pa_cons (pe_op op_add pe_int (pv 10)) pa_nil))) pe_int) (fun _ _ => rfl))))))
 (pss_cons (ps_set (i := 6) sc_l_names.nd rfl (Or.inr rfl) (pe_op op_mod (pe_op op_fdiv (pv 4) pe_int) pe_int))
 (pss_cons (ps_set (i := 7) sc_l_names.nd rfl (Or.inr rfl) (pe_op op_add (pv 6) (pe_op op_mod (pe_op op_fdiv (pv 4) pe_int) (pe_op op_sub pe_int (pv 6)))))
 (pss_cons (ps_if (pt_cmpR op_eq (pe_op op_mod (pv 4) pe_int) pe_int (nomark _))
 (pss_cons (ps_setLc (i := 8) (own := [("_law_k", 11)]) rfl sc_l_names.nd rfl rfl (sw_true rfl rfl rfl (by decide +kernel)) (pi_range1 rfl B.range_ (pa_cons (pv 1) pa_nil)) (blkOk_by (own := [("_law_k", 11)]) (N := ["_law_cell", "_law_many", "_law_letters", "_law_some", "_law_number", "_law_frame", "_law_at", "_law_size", "_law_signs", "_law_words", "_law_j", "_law_k", "_law_sign"]) (sc := defScope s_l_names) (by decide +kernel)) (fun _ _ _ _ _ => pg_name (i := 11) sc_l_names.nd rfl (Or.inl rfl)) (fun _ _ _ _ _ => pts_nil) (fun _ _ _ _ _ => (pe_ix ix_str (pv 2) (pe_op op_mod (pe_op op_add (pe_op op_fdiv (pv 4) pe_int) (pe_op op_mul pe_int (pv 11))) pe_int) (fun _ _ => rfl))))
 (pss_one (ps_ret (pe_lc (own := [("_law_sign", 12)]) rfl sc_l_names.nd (pi_list (pv 8)) (blkOk_by (own := [("_law_sign", 12)]) (N := ["_law_cell", "_law_many", "_law_letters", "_law_some", "_law_number", "_law_frame", "_law_at", "_law_size", "_law_signs", "_law_words", "_law_j", "_law_k", "_law_sign"]) (sc := defScope s_l_names) (by decide +kernel)) (fun _ _ _ _ _ => pg_name (i := 12) sc_l_names.nd rfl (Or.inl rfl)) (fun _ _ _ _ _ => pts_nil) (fun _ _ _ _ _ => (pe_op op_add_str (pe_op op_add_str (pe_slice sl_str (pv 5) po_none (po_some (pv 6))) (pv 12)) (pe_slice sl_str (pv 5) (po_some (pv 6)) (po_some (pv 7))))))))) pss_nil)
 (pss_cons (ps_if (pt_cmpR op_eq (pe_op op_mod (pv 4) pe_int) pe_int (nomark _))
 (pss_one (ps_ret (pe_lc (own := [("_law_k", 11)]) rfl sc_l_names.nd (pi_range1 rfl B.range_ (pa_cons (pv 1) pa_nil)) (blkOk_by (own := [("_law_k", 11)]) (N := ["_law_cell", "_law_many", "_law_letters", "_law_some", "_law_number", "_law_frame", "_law_at", "_law_size", "_law_signs", "_law_words", "_law_j", "_law_k", "_law_sign"]) (sc := defScope s_l_names) (by decide +kernel)) (fun _ _ _ _ _ => pg_name (i := 11) sc_l_names.nd rfl (Or.inl rfl)) (fun _ _ _ _ _ => pts_nil) (fun _ _ _ _ _ => (pe_slice sl_str (pe_op op_add_str pe_str (pv 5)) po_none (po_some (pe_op op_add pe_int (pv 11)))))))) pss_nil)
 (pss_cons (ps_set (i := 9) sc_l_names.nd rfl (Or.inr rfl) (pe_lst (pa_cons pe_str (pa_cons pe_str (pa_cons pe_str (pa_cons pe_str (pa_cons pe_str (pa_cons pe_str (pa_cons pe_str (pa_cons pe_str (pa_cons pe_str (pa_cons pe_str pa_nil))))))))))))
 (pss_one (ps_ret (pe_lc (own := [("_law_k", 11)]) rfl sc_l_names.nd (pi_range1 rfl B.range_ (pa_cons (pv 1) pa_nil)) (blkOk_by (own := [("_law_k", 11)]) (N := ["_law_cell", "_law_many", "_law_letters", "_law_some", "_law_number", "_law_frame", "_law_at", "_law_size", "_law_signs", "_law_words", "_law_j", "_law_k", "_law_sign"]) (sc := defScope s_l_names) (by decide +kernel)) (fun _ _ _ _ _ => pg_name (i := 11) sc_l_names.nd rfl (Or.inl rfl)) (fun _ _ _ _ _ => pts_nil) (fun _ _ _ _ _ => (pe_ix (show IxR _ (rIxL K) from ix_list) (pv 9) (pe_op op_mod (pe_op op_add (pe_op op_fdiv (pv 4) pe_int) (pv 11)) pe_int) (fun _ _ => rfl))))))))))))))), ?_⟩
    have m1 := mixed_lo c 3
    refine q_asg ev_c fun H1 e1 => ?_
    refine q_asg ev_c fun H2 e2 => ?_
    refine q_asg (v := .int (mixed c 3)) (ev_callx (ea_cons (ev_var rfl) (ea_cons ev_c ea_nil)) spv_l_mixed) fun H3 e3 => ?_
    refine q_asg (v := .str (S (frameL c))) ?_ fun H4 e4 => ?_
    · refine ev_is (ev_joinNew (ys := (frameL c).map fun x => S [x]) ?_ ?_) (by rw [join_one])
      · have e : (List.map V.str ((frameL c).map fun x => S [x])) = given 7 (fun _ => true) (fun j => .str ⟨#[somL.getD (mixed c (120 + (j : Int)) % 21).toNat 0]⟩) := by
          rw [given_map]; unfold frameL
          rw [List.map_map, List.map_map]; rfl
        rw [e]
        refine el_lcR1 (n := 7) (fun _ => true) _ (ea_cons ev_c ea_nil) ⟨by decide, by decide⟩ (fun _ => rfl) (fun _ _ _ _ => et_yes) (fun i H5 e5 hi _ => ?_)
        have m2 := mixed_lo c (120 + (i : Int))
        refine ev_op (ev_var rfl) (ev_op (ev_callx (ea_cons (ev_var rfl) (ea_cons (ev_op ev_c (ev_var rfl) rv_I0) ea_nil)) spv_l_mixed) ev_c (rv_I (show (0 : Int) < 21 by decide))) (rv_ixS (w := "acdfghijklopqrtuvwxyz") (by decide +kernel) ?_)
        rw [som_S]
        exact at_nats (by omega) (by show _ < (21 : Int); omega)
      · rw [List.length_map, frame_len, List.map_map]
        have : (List.map ((fun (x : Str) => x.length) ∘ fun x => S [x]) (frameL c)).sum = 7 := by
          have e : ((fun (x : Str) => x.length) ∘ fun (x : Nat) => S [x]) = fun _ => 1 := rfl
          rw [e, List.map_const', frame_len]; rfl
        rw [this]; decide
    have a0 : 0 ≤ mixed c 3 / 3 % 8 := by omega
    obtain ⟨a, ha⟩ : ∃ a : Nat, mixed c 3 / 3 % 8 = (a : Int) := ⟨_, (Int.toNat_of_nonneg a0).symm⟩
    have a7 : a ≤ 7 := by omega
    refine q_asg (v := .int (a : Int)) (ev_is (ev_op (ev_op (ev_var rfl) ev_c (rv_I ⟨by decide, by decide⟩)) ev_c (rv_I (show (0 : Int) < 8 by decide))) (by rw [ha])) fun H5 e5 => ?_
    have b0 : 0 ≤ (a : Int) + mixed c 3 / 24 % (8 - (a : Int)) := by
      have := Int.emod_nonneg (mixed c 3 / 24) (show (8 - (a : Int)) ≠ 0 by omega)
      omega
    have b7 : (a : Int) + mixed c 3 / 24 % (8 - (a : Int)) ≤ 7 ∧ (a : Int) ≤ (a : Int) + mixed c 3 / 24 % (8 - (a : Int)) := by
      have h1 := Int.emod_nonneg (mixed c 3 / 24) (show (8 - (a : Int)) ≠ 0 by omega)
      have h2 := Int.emod_lt_of_pos (mixed c 3 / 24) (show 0 < 8 - (a : Int) by omega)
      omega
    obtain ⟨b, hb⟩ : ∃ b : Nat, (a : Int) + mixed c 3 / 24 % (8 - (a : Int)) = (b : Int) := ⟨_, (Int.toNat_of_nonneg b0).symm⟩
    rw [hb] at b7
    refine q_asg (v := .int (b : Int)) (ev_is (ev_op (ev_var rfl) (ev_op (ev_op (ev_var rfl) ev_c (rv_I ⟨by decide, by decide⟩)) (ev_op ev_c (ev_var rfl) rv_I0) (rv_I (show 0 < 8 - (a : Int) by omega))) rv_I0) (by rw [hb])) fun H6 e6 => ?_
    have x6 : Ex H H6 := ((((e1.trans e2).trans e3).trans e4).trans e5).trans e6
    refine q_when (b := decide (mixed c 3 % 3 = 0)) (by rw [← dv_int]; exact et_test (ev_op (ev_op (ev_var rfl) ev_c (rv_I (show (0 : Int) < 3 by decide))) ev_c (rv_eq rfl))) (fun hb H7 e7 => ?_) (fun hb H7 e7 => ?_)
    · have z2 : ∀ i : Nat, i < 2 → letL.getD ((mixed c 3 / 200 + 3 * (i : Int)) % 26).toNat 0 ∈ letL := fun i hi => getD_mem (by show _ < 26; omega)
      refine q_asgL (xs := given 2 (fun _ => true) fun i => .str ⟨#[letL.getD ((mixed c 3 / 200 + 3 * (i : Int)) % 26).toNat 0]⟩) ?_ fun l H8 hl e8 h8 => ?_
      · refine el_lcR1 (n := 2) (fun _ => true) _ (ea_cons (ev_var rfl) ea_nil) ⟨by decide, by decide⟩ (fun _ => rfl) (fun _ _ _ _ => et_yes) (fun i H9 e9 hi _ => ?_)
        refine ev_op (ev_var rfl) (ev_op (ev_op (ev_op (ev_var rfl) ev_c (rv_I ⟨by decide, by decide⟩)) (ev_op ev_c (ev_var rfl) (rv_I (.inl ⟨by decide, by decide⟩))) rv_I0) ev_c (rv_I (show (0 : Int) < 26 by decide))) (rv_ixS (w := LET) (by decide +kernel) ?_)
        rw [let_S]
        exact at_nats (by omega) (by show _ < (26 : Int); omega)
      · have ok : ∀ i : Nat, i < 2 → NameOk (S ((frameL c).take a) ++ S [letL.getD ((mixed c 3 / 200 + 3 * (i : Int)) % 26).toNat 0] ++ S (((frameL c).drop a).take (b - a))) := fun i hi => by
          rw [SX.S_cat, SX.S_cat]
          refine nameOk_bad (fun x hx => frame_som c x (List.mem_of_mem_take hx)) (fun x hx => frame_som c x (List.mem_of_mem_drop (List.mem_of_mem_take hx))) (z2 i hi) ?_
          rw [List.length_take, List.length_take, List.length_drop, frame_len]
          omega
        refine s_retL (el_lcL (xs := [.str (S [letL.getD ((mixed c 3 / 200 + 3 * ((0 : Nat) : Int)) % 26).toNat 0]), .str (S [letL.getD ((mixed c 3 / 200 + 3 * ((1 : Nat) : Int)) % 26).toNat 0])]) (fun _ => true)
          (fun i => .str (S ((frameL c).take a) ++ S [letL.getD ((mixed c 3 / 200 + 3 * (i : Int)) % 26).toNat 0] ++ S (((frameL c).drop a).take (b - a)))) (ev_var rfl) (sq_of h8) (by show 2 ≤ 40000; decide) (fun _ => rfl) (fun _ _ _ _ _ => et_yes) (fun i x H9 e9 hx _ => ?_)) fun p H9 hp e9 h9 => q p _ _ H9 (((x6.trans e7).trans e8).trans e9) h9 (ok 0 (by decide)) (ok 1 (by decide))
        have hx2 : x = .str (S [letL.getD ((mixed c 3 / 200 + 3 * (i : Int)) % 26).toNat 0]) := by
          match i, hx with
          | 0, hx => exact (Option.some.inj hx).symm
          | 1, hx => exact (Option.some.inj hx).symm
          | i + 2, hx => simp at hx
        rw [hx2]
        have l5 : (S (frameL c)).length ≤ 100000 := by rw [SX.S_len, frame_len]; decide
        refine ev_op (ev_op (ev_is (ev_slS (hi := some (a : Int)) (ev_var rfl) eo_none (eo_some (ev_var rfl)) l5) (by rw [cut_take])) (ev_var rfl) (rv_addS ?_)) (ev_is (ev_slS (lo := some (a : Int)) (hi := some (b : Int)) (ev_var rfl) (eo_some (ev_var rfl)) (eo_some (ev_var rfl)) l5) (by rw [cut_mid _ _ _ (by rw [frame_len]; omega) (by rw [frame_len]; omega)])) (rv_addS ?_)
        · rw [SX.S_len, SX.S_len, List.length_take, frame_len]; simp; omega
        · rw [SX.S_cat, SX.S_len, SX.S_len, List.length_append, List.length_take, List.length_take, List.length_drop, frame_len]; simp; omega
    refine q_when (b := decide (mixed c 3 % 3 = 1)) (by rw [← dv_int]; exact et_test (ev_op (ev_op (ev_var rfl) ev_c (rv_I (show (0 : Int) < 3 by decide))) ev_c (rv_eq rfl))) (fun hb H8 e8 => ?_) (fun hb H8 e8 => ?_)
    · have ok : ∀ i : Nat, i < 2 → NameOk (S ((113 :: frameL c).take (1 + i))) := fun i hi => by
        rw [Nat.add_comm 1 i, List.take_succ_cons]
        refine nameOk_q (fun x hx => frame_som c x (List.mem_of_mem_take hx)) ?_
        rw [List.length_take]; omega
      refine s_retL (el_lcR1 (n := 2) (fun _ => true) (fun i => .str (S ((113 :: frameL c).take (1 + i)))) (ea_cons (ev_var rfl) ea_nil) ⟨by decide, by decide⟩ (fun _ => rfl) (fun _ _ _ _ => et_yes) (fun i H9 e9 hi _ => ?_)) fun p H9 hp e9 h9 => q p _ _ H9 (((x6.trans e7).trans e8).trans e9) h9 (ok 0 (by decide)) (ok 1 (by decide))
      have eq1 : ("q" : Str) ++ S (frameL c) = S (113 :: frameL c) := by
        rw [show ("q" : Str) = S [113] from by decide +kernel, SX.S_cat]; rfl
      refine ev_is (ev_slS (hi := some (((1 + i : Nat)) : Int)) (ev_op ev_c (ev_var rfl) (rv_addS ?_)) eo_none (eo_some (ev_is (ev_op ev_c (ev_var rfl) rv_I0) ?_)) ?_) (by rw [eq1, cut_take])
      · have lq : ("q" : Str).length = 1 := by decide +kernel
        have lf : (S (frameL c)).length = 7 := by rw [SX.S_len, frame_len]
        show ("q" : Str).length + (S (frameL c)).length ≤ 100000
        rw [lq, lf]; decide
      · show V.int (1 + (i : Int)) = V.int ((1 + i : Nat) : Int)
        rw [Int.natCast_add]; rfl
      · rw [eq1, SX.S_len, List.length_cons, frame_len]; decide
    · refine q_asgL (xs := wordsS.map V.str) (el_lst ?_ (by show 10 ≤ 100000; decide)) fun l H9 hl e9 h9 => ?_
      · unfold wordsS
        rw [List.map_cons, List.map_cons, List.map_cons, List.map_cons, List.map_cons, List.map_cons, List.map_cons, List.map_cons, List.map_cons, List.map_cons, List.map_nil]
        walk_at "ev"
      have z2 : ∀ i : Nat, ((mixed c 3 / 3 + (i : Int)) % 10).toNat < 10 := fun i => by omega
      have ok : ∀ i : Nat, NameOk (wordsS.getD ((mixed c 3 / 3 + (i : Int)) % 10).toNat "") := fun i => by
        rw [List.getD_eq_getElem?_getD, List.getElem?_eq_getElem (show _ < wordsS.length from z2 i)]
        exact word_ok _ (List.getElem_mem _)
      refine s_retL (el_lcR1 (n := 2) (fun _ => true) (fun i => .str (wordsS.getD ((mixed c 3 / 3 + (i : Int)) % 10).toNat "")) (ea_cons (ev_var rfl) ea_nil) ⟨by decide, by decide⟩ (fun _ => rfl) (fun _ _ _ _ => et_yes) (fun i H10 e10 hi _ => ?_)) fun p H10 hp e10 h10 => q p _ _ H10 ((((x6.trans e7).trans e8).trans e9).trans e10) h10 (ok 0) (ok 1)
      refine ev_op (ev_var rfl) (ev_op (ev_op (ev_op (ev_var rfl) ev_c (rv_I ⟨by decide, by decide⟩)) (ev_var rfl) rv_I0) ev_c (rv_I (show (0 : Int) < 10 by decide))) (rv_ixL (sq_of (e10 _ _ h9)) ?_)
      have hi2 := z2 i
      have e : (mixed c 3 / 3 + (i : Int)) % 10 = ((((mixed c 3 / 3 + (i : Int)) % 10).toNat : Nat) : Int) := by omega
      have hv : (wordsS.map V.str)[((mixed c 3 / 3 + (i : Int)) % 10).toNat]? = some (.str (wordsS.getD ((mixed c 3 / 3 + (i : Int)) % 10).toNat "")) := by
        rw [List.getElem?_map, List.getD_eq_getElem?_getD, List.getElem?_eq_getElem (show _ < wordsS.length from hi2)]; rfl
      have := atI_nat hv
      rw [← e] at this
      exact this
end
end Co

/-! what the law draws: pairs, rules -/
namespace Co
open PySem PySem.Spec PyProof.Rows L2 Evl Km
local macro_rules | `(tactic| walk_at "ev") => `(tactic| (repeat' (first
  | ((with_reducible apply ev_var); rfl) | ((with_reducible apply rv_eq); rfl) | ((with_reducible apply rv_ne); rfl)
  | with_reducible exact ev_c | with_reducible exact rv_I0 | with_reducible exact ea_nil | with_reducible exact et_yes | with_reducible exact eo_none | with_reducible exact rc_intB | with_reducible exact rc_min | with_reducible exact rc_max | with_reducible exact rv_inS
  | walk_at "sp"
  | with_reducible apply rv_I | with_reducible apply ev_op | with_reducible apply ev_un | with_reducible apply ev_callx | with_reducible apply ea_cons | with_reducible apply et_test | with_reducible apply et_B | with_reducible apply et_not | with_reducible apply ev_notV | with_reducible apply ev_cb | with_reducible apply eo_some | with_reducible apply ev_chain | with_reducible apply ev_andV | with_reducible apply ev_orV | with_reducible apply et_and | with_reducible apply et_or
  | with_reducible intro _)))
local macro_rules | `(tactic| walk_at "sp") => `(tactic| with_reducible exact ev_pow12)
local macro_rules | `(tactic| walk_at "sp") => `(tactic| with_reducible exact spv_l_mixed)
local macro_rules | `(tactic| walk_at "sp") => `(tactic| with_reducible exact spv_l_parts)
local macro_rules | `(tactic| walk_at "sp") => `(tactic| with_reducible exact spv_l_amount)
local macro_rules | `(tactic| walk_at "sp") => `(tactic| with_reducible exact spv_l_way)
def stepL (m : Int) : List Int := [1, 2 + m / 5 % 20, m * 30, m / 5 % 9 * 5000 + 1, 1 + m / 5 * 200000]
def stepOf (m : Int) : Int := (stepL m).getD (m % 5).toNat 0
theorem step_pos {m : Int} (h : 0 ≤ m) : 1 ≤ stepOf m := by
  unfold stepOf
  have h5 : m % 5 = 0 ∨ m % 5 = 1 ∨ m % 5 = 2 ∨ m % 5 = 3 ∨ m % 5 = 4 := by omega
  rcases h5 with e | e | e | e | e <;> rw [e]
  · show 1 ≤ (1 : Int); omega
  · show 1 ≤ 2 + m / 5 % 20; omega
  · show 1 ≤ m * 30; omega
  · show 1 ≤ m / 5 % 9 * 5000 + 1; omega
  · show 1 ≤ 1 + m / 5 * 200000; omega
def manyL (m : Int) : List Int := [0, 1, 2, 3, 11, m / 30 % 12]
def many (m : Int) : Int := (manyL m).getD (m % 6).toNat 0
theorem many_ok {m : Int} (h : 0 ≤ m) : 0 ≤ many m ∧ many m ≤ 11 := by
  refine getD_all (P := fun x => 0 ≤ x ∧ x ≤ 11) (fun x hx => ?_) (by show (m % 6).toNat < 6; omega)
  unfold manyL at hx
  simp only [List.mem_cons, List.mem_nil_iff, or_false] at hx
  rcases hx with rfl | rfl | rfl | rfl | rfl | rfl <;> omega
/-- the pairs of a list or a tuple, one tuple each -/
structure RowsIn (H : Hp) (rs : List Addr) (rows : List (Int × Int)) : Prop where
  len : rs.length = rows.length
  at_ : ∀ (i : Nat) (x : Int × Int), rows[i]? = some x → ∃ a, rs[i]? = some a ∧ H a = some (.tup [.int x.1, .int x.2])
theorem RowsIn.mono {H H' : Hp} {rs : List Addr} {rows : List (Int × Int)} (h : RowsIn H rs rows) (e : ∀ a xs, H a = some (.tup xs) → H' a = some (.tup xs)) : RowsIn H' rs rows :=
  ⟨h.len, fun i x hx => let ⟨a, h1, h2⟩ := h.at_ i x hx; ⟨a, h1, e _ _ h2⟩⟩
structure RowsPre (rows : List (Int × Int)) : Prop where
  ok : ∀ x ∈ rows, RowOk x
  first : ∀ x, rows[0]? = some x → x.1 = 0
  rise : ∀ (i : Nat) (x y : Int × Int), rows[i]? = some x → rows[i + 1]? = some y → x.1 < y.1
theorem RowsIn.add {H : Hp} {rs : List Addr} {rows : List (Int × Int)} {a : Addr} {x : Int × Int} (h : RowsIn H rs rows) (ha : H a = some (.tup [.int x.1, .int x.2])) : RowsIn H (rs ++ [a]) (rows ++ [x]) := by
  refine ⟨by rw [List.length_append, List.length_append, h.len]; rfl, fun i y hy => ?_⟩
  by_cases hi : i < rows.length
  · rw [List.getElem?_append_left hi] at hy
    obtain ⟨b, h1, h2⟩ := h.at_ i y hy
    exact ⟨b, by rw [List.getElem?_append_left (by rw [h.len]; exact hi)]; exact h1, h2⟩
  · have e : i = rows.length := by
      have := (List.getElem?_eq_some_iff.mp hy).1
      rw [List.length_append, List.length_singleton] at this
      omega
    subst e
    rw [List.getElem?_append_right (Nat.le_refl _), Nat.sub_self] at hy
    have ey : y = x := (Option.some.inj hy).symm
    subst ey
    exact ⟨a, by rw [← h.len, List.getElem?_append_right (Nat.le_refl _), Nat.sub_self]; rfl, ha⟩
theorem RowsPre.add {rows : List (Int × Int)} {z x : Int × Int} (h : RowsPre (rows ++ [z])) (hx : RowOk x) (hlt : z.1 < x.1) : RowsPre (rows ++ [z] ++ [x]) := by
  refine ⟨fun y hy => ?_, fun y hy => ?_, fun i y y2 h1 h2 => ?_⟩
  · rcases List.mem_append.mp hy with hy | hy
    · exact h.ok y hy
    · rw [List.mem_singleton.mp hy]; exact hx
  · rw [List.getElem?_append_left (by rw [List.length_append, List.length_singleton]; omega)] at hy
    exact h.first y hy
  · have hi2 := (List.getElem?_eq_some_iff.mp h2).1
    simp only [List.length_append, List.length_singleton] at hi2
    rw [List.getElem?_append_left (by rw [List.length_append, List.length_singleton]; omega)] at h1
    by_cases hi : i + 1 < (rows ++ [z]).length
    · rw [List.getElem?_append_left hi] at h2
      exact h.rise i y y2 h1 h2
    · rw [List.length_append, List.length_singleton] at hi
      have e : i = rows.length := by omega
      subst e
      rw [List.getElem?_append_right (Nat.le_refl _), Nat.sub_self] at h1
      rw [List.getElem?_append_right (by rw [List.length_append, List.length_singleton]; exact Nat.le_refl _), List.length_append, List.length_singleton, Nat.sub_self] at h2
      rw [← Option.some.inj h1, ← Option.some.inj h2]
      exact hlt
/-- the law's tuple of a rule -/
def TupAt (H : Hp) (n : Str) : Rl → Addr → Prop
  | .flat a, t => H t = some (.tup [.str "flat", .str n, .int a])
  | .share a y, t => H t = some (.tup [.str "share", .str n, .int a, .str (wtxt y)])
  | .capped a m y, t => H t = some (.tup [.str "capped", .str n, .int a, .int m, .str (wtxt y)])
  | .least a l y, t => H t = some (.tup [.str "least", .str n, .int a, .int l, .str (wtxt y)])
  | .bands rows y, t => ∃ q, H t = some (.tup [.str "bands", .str n, .ref q, .str (wtxt y)]) ∧ RowsAt H q rows
  | .ontop a y r, t => ∃ q, H t = some (.tup [.str "ontop", .str n, .int a, .str (wtxt y), .ref q]) ∧ TupAt H n r q
theorem TupAt.mono {H H' : Hp} {n : Str} (e : Ex H H') : ∀ {r : Rl} {p : Addr}, TupAt H n r p → TupAt H' n r p
  | .flat _, _, h => e _ _ h
  | .share _ _, _, h => e _ _ h
  | .capped _ _ _, _, h => e _ _ h
  | .least _ _ _, _, h => e _ _ h
  | .bands _ _, _, ⟨q, h, h2⟩ => ⟨q, e _ _ h, h2.mono e⟩
  | .ontop _ _ _, _, ⟨q, h, h2⟩ => ⟨q, e _ _ h, TupAt.mono e h2⟩
section
variable {P : Program} {w : World} {K : PySem.W.Frag} {mg : Str → Option Value} {base : Heap} {aW aN : Addr} {σ : L2.St} {H : Hp} {cA : Kd → Addr} {cR cS fRi fSi : Addr}
theorem q_asgLU {D : Ends} {tz : TS} {ta : TA} {i : Nat} {xs : List V} (h : EvA ta σ H xs) (hz : xs.length ≤ 100000) (k : ∀ t l H1, H l = none → Ex H H1 → H1 t = some (.tup xs) → H1 l = some (.lst [.ref t]) → tz D (σ.set i (some (.ref l))) H1) :
    tSeq (tAsg (tLst (tCons (tTup ta) tNil)) (gName i)) tz D σ H :=
  h H (Ex.refl H) _ fun H1 e1 => ⟨sz_of hz, fun t ht => ⟨(by show 1 ≤ sizeLine; decide), fun l hl => by
    have e2 : Ex H1 (L2.upd H1 t (.tup xs)) := Ex.new ht
    refine k t l _ (fresh_back (e1.trans e2) hl) ((e1.trans e2).trans (Ex.new hl)) ?_ upd_same
    exact (Ex.new hl) _ _ upd_same⟩⟩
theorem eu_tupOf {te : TE} {l : Addr} {ys : List V} (h : Ev te σ H (.ref l)) (hl : SqL K H l ys) :
    EvU (tCB (fun xs H Q => ∃ p ys, xs = [V.ref p] ∧ ((SqL K H p ys ∧ ∀ l, H l = none → Q (.ref l) (upd H l (.tup ys))) ∨ (SqT K H p ys ∧ Q (.ref p) H))) (tCons te tNil)) σ H ys := fun H1 e Q q =>
  h H1 e _ fun H2 e2 => ⟨l, ys, rfl, .inl ⟨ex_l (e.trans e2) hl, fun p hp => q p _ (fresh_back e2 hp) (e2.trans (Ex.new hp)) upd_same⟩⟩
abbrev s_l_pairs : Stmt := top 52
theorem sc_l_pairs : FnScope ["_law_cell", "_law_number", "_law_pairs_here", "_law_k", "_law_more", "_law_step"] ["_law_cell"] (defScope s_l_pairs) := ⟨rfl, rfl, rfl, by decide +kernel, rfl, by decide +kernel, by decide +kernel⟩
def sp_l_pairs : Sp := fun vs H Q _ => ∃ c : Int, vs = [.int c] ∧ ∀ p rows H2, Ex H H2 → RowsAt H2 p rows → RowsOk rows → Q (.ref p) H2
theorem cal_l_pairs (D : Def K mg "_law_pairs" s_l_pairs ["_law_cell"]) (B : Blt mg) (c_l_mixed : Cal P w K mg base 1 "_law_mixed" sp_l_mixed) (c_l_parts : Cal P w K mg base 2 "_law_parts" sp_l_parts) : Cal P w K mg base 3 "_law_pairs" sp_l_pairs := by
  refine cal_of D sc_l_pairs (fun vs H Q E h => ?_) (fun f cdv A outer s H vs Q E hr h => ?_)
  · obtain ⟨c, rfl, _⟩ := h; rfl
  · obtain ⟨c, rfl, q⟩ := h
    refine ⟨_, (pss_cons (ps_set (i := 1) sc_l_pairs.nd rfl (Or.inl rfl) (pe_c c_l_mixed hr (by omega) rfl (pa_cons (pv 0) (pa_cons pe_int pa_nil))))
 (pss_cons (ps_set (i := 2) sc_l_pairs.nd rfl (Or.inl rfl) (pe_lst (pa_cons (pe_tup (pa_cons pe_int (pa_cons (pe_c c_l_parts hr (by omega) rfl (pa_cons (pv 0) (pa_cons pe_int pa_nil))) pa_nil))) pa_nil)))
 (pss_cons (ps_for PassesOwn.never rfl (pi_range1 rfl B.range_ (pa_cons (pe_ix ix_list (pe_lst (pa_cons pe_int (pa_cons pe_int (pa_cons pe_int (pa_cons pe_int (pa_cons pe_int (pa_cons (pe_op op_mod (pe_op op_fdiv (pv 1) pe_int) pe_int) pa_nil))))))) (pe_op op_mod (pv 1) pe_int) (fun _ _ => rfl)) pa_nil)) (pg_name (i := 3) sc_l_pairs.nd rfl (Or.inl rfl))
 (pss_cons (ps_set (i := 4) sc_l_pairs.nd rfl (Or.inl rfl) (pe_c c_l_mixed hr (by omega) rfl (pa_cons (pv 0) (pa_cons (pe_op op_add pe_int (pv 3)) pa_nil))))
 (pss_cons (ps_set (i := 5) sc_l_pairs.nd rfl (Or.inl rfl) (pe_ix ix_list (pe_lst (pa_cons pe_int (pa_cons (pe_op op_add pe_int (pe_op op_mod (pe_op op_fdiv (pv 4) pe_int) pe_int)) (pa_cons (pe_op op_mul (pv 4) pe_int) (pa_cons (pe_op op_add (pe_op op_mul (pe_op op_mod (pe_op op_fdiv (pv 4) pe_int) pe_int) pe_int) pe_int) (pa_cons (pe_op op_add pe_int (pe_op op_mul (pe_op op_fdiv (pv 4) pe_int) pe_int)) pa_nil)))))) (pe_op op_mod (pv 4) pe_int) (fun _ _ => rfl)))
 (pss_one (ps_if (pt_cmpR op_le (pe_op op_add (pe_ix ix_tup (pe_ix ix_list (pv 2) (pe_un un_neg pe_int) (fun _ _ => rfl)) pe_int (fun _ _ => rfl)) (pv 5)) (pe_op op_pow pe_int pe_int) (nomark _))
 (pss_one (ps_expr (pe_bm PySem.F.plainAttrs_list PySem.F.slot_list_append PySem.F.type_list_append mt_append (pv 2) (pa_cons (pe_tup (pa_cons (pe_op op_add (pe_ix ix_tup (pe_ix ix_list (pv 2) (pe_un un_neg pe_int) (fun _ _ => rfl)) pe_int (fun _ _ => rfl)) (pv 5)) (pa_cons (pe_c c_l_parts hr (by omega) rfl (pa_cons (pv 0) (pa_cons (pe_op op_add pe_int (pv 3)) pa_nil))) pa_nil))) pa_nil)))) pss_nil)))))
 (pss_one (ps_ret (pe_callTy call_tuple_of (by rfl) B.tuple_ (by decide +kernel) (pa_cons (pv 2) pa_nil))))))), ?_⟩
    have m1 := mixed_lo c 40
    refine q_asg (v := .int (mixed c 40)) (by walk_at "ev") fun H1 e1 => ?_
    refine q_asgLU (xs := [.int 0, .int (parts c 41)]) (by walk_at "ev") (by show 2 ≤ 100000; decide) fun t0 l H2 hl e2 ht0 hl2 => ?_
    have hl0 : H l = none := fresh_back e1 hl
    refine q_forR1 (n := many (mixed c 40)) (ea_cons (ev_ixNew (xs := (manyL (mixed c 40)).map V.int) (el_lst ?_ (by show 6 ≤ 100000; decide)) (ev_op (ev_var rfl) ev_c (rv_I (show (0 : Int) < 6 by decide))) (at_menu (by omega) (by show mixed c 40 % 6 < 6; omega))) ea_nil) ⟨(many_ok m1).1, by have := (many_ok m1).2; omega⟩
      (fun i σ' H' => ∃ (rs : List Addr) (rows : List (Int × Int)) (a : Addr) (x : Int × Int) (v3 v4 v5 : Option V), σ' = [some (.int c), some (.int (mixed c 40)), some (.ref l), v3, v4, v5] ∧ Ex H H' ∧ H' l = some (.lst ((rs ++ [a]).map V.ref)) ∧ H' a = some (.tup [.int x.1, .int x.2]) ∧ RowsIn H' (rs ++ [a]) (rows ++ [x]) ∧ RowsPre (rows ++ [x]) ∧ rows.length ≤ i) (fun H3 e3 => ?_) ?_ ?_
    · unfold manyL
      rw [List.map_cons, List.map_cons, List.map_cons, List.map_cons, List.map_cons, List.map_cons, List.map_nil]
      walk_at "ev"
      all_goals first | (show (0 : Int) < _; decide) | exact ⟨by decide, by decide⟩
    · refine ⟨[], [], t0, (0, parts c 41), none, none, none, rfl, (e1.trans e2).trans e3, e3 _ _ hl2, e3 _ _ ht0, ⟨rfl, fun i x hx => ?_⟩, ⟨fun x hx => ?_, fun x hx => ?_, fun i x y h1 h2 => ?_⟩, Nat.le_refl _⟩
      · match i, hx with
        | 0, hx => exact ⟨t0, rfl, by rw [← Option.some.inj hx]; exact e3 _ _ ht0⟩
        | i + 1, hx => simp at hx
      · rw [List.mem_singleton.mp hx]
        have := parts_ok c 41
        exact ⟨show (0 : Int) ≤ 0 by decide, show (0 : Int) ≤ 1000000000000 by decide, this.1, this.2⟩
      · rw [← Option.some.inj hx]
      · simp at h2
    · rintro i σ' H' hi ⟨rs, rows, a, x, v3, v4, v5, rfl, e3, hl3, ha, hin, hpre, hlen⟩
      have m2 := mixed_lo c (42 + (i : Int))
      have m3 := mixed_hi c (42 + (i : Int))
      refine q_asg (v := .int (mixed c (42 + (i : Int)))) (by walk_at "ev") fun H4 e4 => ?_
      refine q_asg (v := .int (stepOf (mixed c (42 + (i : Int))))) (ev_ixNew (xs := (stepL (mixed c (42 + (i : Int)))).map V.int) (el_lst ?_ (by show 5 ≤ 100000; decide)) (ev_op (ev_var rfl) ev_c (rv_I (show (0 : Int) < 5 by decide))) (at_menu (by omega) (by show mixed c (42 + (i : Int)) % 5 < 5; omega))) fun H5 e5 => ?_
      · unfold stepL
        rw [List.map_cons, List.map_cons, List.map_cons, List.map_cons, List.map_cons, List.map_nil]
        walk_at "ev"
        all_goals first | (show (0 : Int) < _; decide) | exact ⟨by decide, by decide⟩ | exact .inr ⟨by decide, by decide⟩
      have x5 := e4.trans e5
      have hst := step_pos m2
      have last : ∀ {σ2 : L2.St} {H6 : Hp}, σ2[2]? = some (some (.ref l)) → Ex H' H6 → Ev (tOp (rIxT K) (tOp (rIxL K) (tVar 2) (tUn (rU fun i => .int (-i)) (tC (.int 1)))) (tC (.int 0))) σ2 H6 (.int x.1) := fun {σ2 H6} h2 e6 => by
        have hl6 := e6 _ _ hl3
        rw [List.map_append] at hl6
        exact ev_op (ev_op (ev_var h2) (ev_un ev_c ru_neg) (rv_ixL (sq_of hl6) (atI_last _ _))) ev_c (rv_ixT (st_of (e6 _ _ ha)) (atI_nat (j := 0) rfl))
      refine s_when (b := decide (x.1 + stepOf (mixed c (42 + (i : Int))) ≤ 1000000000000)) (et_test (ev_op (ev_op (last rfl x5) (ev_var rfl) rv_I0) ev_pow12 rv_I0)) (fun hb H6 e6 => ?_) (fun hb H6 e6 => ?_)
      · have hle := of_decide_eq_true hb
        have x6 := x5.trans e6
        refine s_appU (x6 _ _ hl3) (ev_var rfl) (eu_tup (vs := [.int (x.1 + stepOf (mixed c (42 + (i : Int)))), .int (parts c (55 + (i : Int)))]) (ea_cons (ev_op (last rfl x6) (ev_var rfl) rv_I0) (ea_cons ?_ ea_nil)) (by show 2 ≤ 100000; decide)) (by rw [List.length_map, hin.len, List.length_append, List.length_singleton]; have := (many_ok m1).2; omega) fun p H7 hp e7 h7 => ?_
        · walk_at "ev"
        have x7 := x6.trans e7
        have hlx := x7 _ _ hl3
        have hne : ∀ (b : Addr) (xs : List V), H7 b = some (.tup xs) → L2.upd H7 l (.lst ((rs ++ [a]).map V.ref ++ [.ref p])) b = some (.tup xs) := fun b xs hb => by
          rw [upd_ne (ne_of hb hlx (by intro z; cases z))]; exact hb
        have hp7 := hne p _ h7
        have hpo := parts_ok c (55 + (i : Int))
        have hx0 := hpre.ok x (List.mem_append_right _ (List.mem_singleton.mpr rfl))
        refine ⟨rs ++ [a], rows ++ [x], p, (x.1 + stepOf (mixed c (42 + (i : Int))), parts c (55 + (i : Int))), _, _, _, rfl, Ex.mut (e3.trans x7) hl0, ?_, hp7, ?_, ?_, ?_⟩
        · rw [upd_same, List.map_append (l₁ := rs ++ [a])]; rfl
        · exact (hin.mono fun b xs hb => hne b xs (x7 _ _ hb)).add hp7
        · refine hpre.add ⟨?_, hle, hpo.1, hpo.2⟩ ?_
          · show 0 ≤ x.1 + stepOf (mixed c (42 + (i : Int)))
            have := hx0.1; omega
          · show x.1 < x.1 + stepOf (mixed c (42 + (i : Int)))
            omega
        · rw [List.length_append, List.length_singleton]; omega
      · have x6 := x5.trans e6
        exact ⟨rs, rows, a, x, _, _, _, rfl, e3.trans x6, x6 _ _ hl3, x6 _ _ ha, hin.mono fun b xs hb => x6 _ _ hb, hpre, by omega⟩
    · rintro σ' H' ⟨rs, rows, a, x, v3, v4, v5, rfl, e3, hl3, ha, hin, hpre, hlen⟩
      refine s_retU (eu_tupOf (ev_var rfl) (sq_of hl3)) fun p H4 hp e4 h4 => q p (rows ++ [x]) H4 (e3.trans e4) ⟨rs ++ [a], h4, hin.len, (hin.mono fun b xs hb => e4 _ _ hb).at_⟩ ⟨?_, ?_, hpre.ok, hpre.first, hpre.rise⟩
      · rw [List.length_append, List.length_singleton]; omega
      · rw [List.length_append, List.length_singleton]
        have := (many_ok m1).2
        have := (many_ok m1).1
        omega
abbrev s_l_plain : Stmt := top 53
theorem sc_l_plain : FnScope ["_law_cell", "_law_name", "_law_kind"] ["_law_cell", "_law_name", "_law_kind"] (defScope s_l_plain) := ⟨rfl, rfl, rfl, by decide +kernel, rfl, by decide +kernel, by decide +kernel⟩
def sp_l_plain : Sp := fun vs H Q _ => ∃ (c k : Int) (n : Str), vs = [.int c, .str n, .int k] ∧ ∀ p r H2, Ex H H2 → TupAt H2 n r p → r.Ok → r.deep = 0 → Q (.ref p) H2
theorem cal_l_plain (D : Def K mg "_law_plain" s_l_plain ["_law_cell", "_law_name", "_law_kind"]) (c_l_amount : Cal P w K mg base 2 "_law_amount" sp_l_amount) (c_l_parts : Cal P w K mg base 2 "_law_parts" sp_l_parts) (c_l_way : Cal P w K mg base 2 "_law_way" sp_l_way) (c_l_pairs : Cal P w K mg base 3 "_law_pairs" sp_l_pairs) : Cal P w K mg base 4 "_law_plain" sp_l_plain := by
  refine cal_of D sc_l_plain (fun vs H Q E h => ?_) (fun f cdv A outer s H vs Q E hr h => ?_)
  · obtain ⟨c, k, n, rfl, _⟩ := h; rfl
  · obtain ⟨c, k, n, rfl, q⟩ := h
    refine ⟨_, (pss_cons (ps_if (pt_cmpR op_eq (pv 2) pe_int (nomark _))
 (pss_one (ps_ret (pe_tup (pa_cons pe_str (pa_cons (pv 1) (pa_cons (pe_c c_l_amount hr (by omega) rfl (pa_cons (pv 0) (pa_cons pe_int pa_nil))) pa_nil)))))) pss_nil)
 (pss_cons (ps_if (pt_cmpR op_eq (pv 2) pe_int (nomark _))
 (pss_one (ps_ret (pe_tup (pa_cons pe_str (pa_cons (pv 1) (pa_cons (pe_c c_l_parts hr (by omega) rfl (pa_cons (pv 0) (pa_cons pe_int pa_nil))) (pa_cons (pe_c c_l_way hr (by omega) rfl (pa_cons (pv 0) (pa_cons pe_int pa_nil))) pa_nil))))))) pss_nil)
 (pss_cons (ps_if (pt_cmpR op_eq (pv 2) pe_int (nomark _))
 (pss_one (ps_ret (pe_tup (pa_cons pe_str (pa_cons (pv 1) (pa_cons (pe_c c_l_parts hr (by omega) rfl (pa_cons (pv 0) (pa_cons pe_int pa_nil))) (pa_cons (pe_c c_l_amount hr (by omega) rfl (pa_cons (pv 0) (pa_cons pe_int pa_nil))) (pa_cons (pe_c c_l_way hr (by omega) rfl (pa_cons (pv 0) (pa_cons pe_int pa_nil))) pa_nil)))))))) pss_nil)
 (pss_cons (ps_if (pt_cmpR op_eq (pv 2) pe_int (nomark _))
 (pss_one (ps_ret (pe_tup (pa_cons pe_str (pa_cons (pv 1) (pa_cons (pe_c c_l_parts hr (by omega) rfl (pa_cons (pv 0) (pa_cons pe_int pa_nil))) (pa_cons (pe_c c_l_amount hr (by omega) rfl (pa_cons (pv 0) (pa_cons pe_int pa_nil))) (pa_cons (pe_c c_l_way hr (by omega) rfl (pa_cons (pv 0) (pa_cons pe_int pa_nil))) pa_nil)))))))) pss_nil)
 (pss_one (ps_ret (pe_tup (pa_cons pe_str (pa_cons (pv 1) (pa_cons (pe_c c_l_pairs hr (by omega) rfl (pa_cons (pv 0) pa_nil)) (pa_cons (pe_c c_l_way hr (by omega) rfl (pa_cons (pv 0) (pa_cons pe_int pa_nil))) pa_nil))))))))))), ?_⟩
    refine q_when (et_test (ev_op (ev_var rfl) ev_c (rv_eq rfl))) (fun hb H1 e1 => ?_) (fun hb H1 e1 => ?_)
    · exact s_retU (eu_tup (ea_cons ev_c (ea_cons (ev_var rfl) (ea_cons (ev_callx (ea_cons (ev_var rfl) (ea_cons ev_c ea_nil)) spv_l_amount) ea_nil))) (by show 3 ≤ 100000; decide)) fun p H2 hp e2 h2 => q p (.flat _) H2 (e1.trans e2) h2 (amount_ok _ _) rfl
    refine q_when (et_test (ev_op (ev_var rfl) ev_c (rv_eq rfl))) (fun hb H2 e2 => ?_) (fun hb H2 e2 => ?_)
    · exact s_retU (eu_tup (ea_cons ev_c (ea_cons (ev_var rfl) (ea_cons (ev_callx (ea_cons (ev_var rfl) (ea_cons ev_c ea_nil)) spv_l_parts) (ea_cons (ev_callx (ea_cons (ev_var rfl) (ea_cons ev_c ea_nil)) spv_l_way) ea_nil)))) (by show 4 ≤ 100000; decide)) fun p H3 hp e3 h3 => q p (.share _ _) H3 ((e1.trans e2).trans e3) h3 (parts_ok _ _) rfl
    refine q_when (et_test (ev_op (ev_var rfl) ev_c (rv_eq rfl))) (fun hb H3 e3 => ?_) (fun hb H3 e3 => ?_)
    · exact s_retU (eu_tup (ea_cons ev_c (ea_cons (ev_var rfl) (ea_cons (ev_callx (ea_cons (ev_var rfl) (ea_cons ev_c ea_nil)) spv_l_parts) (ea_cons (ev_callx (ea_cons (ev_var rfl) (ea_cons ev_c ea_nil)) spv_l_amount) (ea_cons (ev_callx (ea_cons (ev_var rfl) (ea_cons ev_c ea_nil)) spv_l_way) ea_nil))))) (by show 5 ≤ 100000; decide)) fun p H4 hp e4 h4 => q p (.capped _ _ _) H4 (((e1.trans e2).trans e3).trans e4) h4 ⟨parts_ok _ _, amount_ok _ _⟩ rfl
    refine q_when (et_test (ev_op (ev_var rfl) ev_c (rv_eq rfl))) (fun hb H4 e4 => ?_) (fun hb H4 e4 => ?_)
    · exact s_retU (eu_tup (ea_cons ev_c (ea_cons (ev_var rfl) (ea_cons (ev_callx (ea_cons (ev_var rfl) (ea_cons ev_c ea_nil)) spv_l_parts) (ea_cons (ev_callx (ea_cons (ev_var rfl) (ea_cons ev_c ea_nil)) spv_l_amount) (ea_cons (ev_callx (ea_cons (ev_var rfl) (ea_cons ev_c ea_nil)) spv_l_way) ea_nil))))) (by show 5 ≤ 100000; decide)) fun p H5 hp e5 h5 => q p (.least _ _ _) H5 ((((e1.trans e2).trans e3).trans e4).trans e5) h5 ⟨parts_ok _ _, amount_ok _ _⟩ rfl
    have x4 := ((e1.trans e2).trans e3).trans e4
    refine ⟨_, rfl, _, rfl, c, rfl, fun t rows H5 e5 ht ho => ?_⟩
    refine ⟨_, rfl, c, 32, rfl, fun H6 e6 => ⟨(by show 4 ≤ sizeLine; decide), fun p hp => ?_⟩⟩
    have x6 : Ex H (L2.upd H6 p (.tup [.str "bands", .str n, .ref t, .str (wtxt (wayAt (mixed c 32 / 5 % 4)))])) := (((x4.trans e5).trans e6).trans (Ex.new hp))
    exact q p (.bands rows (wayAt (mixed c 32 / 5 % 4))) _ x6 ⟨t, upd_same, ht.mono (e6.trans (Ex.new hp))⟩ ho rfl
abbrev s_l_rule : Stmt := top 54
theorem sc_l_rule : FnScope ["_law_cell", "_law_name", "_law_number", "_law_found", "_law_k"] ["_law_cell", "_law_name"] (defScope s_l_rule) := ⟨rfl, rfl, rfl, by decide +kernel, rfl, by decide +kernel, by decide +kernel⟩
def toppedL : List Int := [0, 0, 0, 1, 2, 3]
def topped (m : Int) : Int := toppedL.getD (m / 5 % 6).toNat 0
theorem topped_ok {m : Int} (h : 0 ≤ m) : 0 ≤ topped m ∧ topped m ≤ 3 := by
  refine getD_all (P := fun x => 0 ≤ x ∧ x ≤ 3) (fun x hx => ?_) (by show (m / 5 % 6).toNat < 6; omega)
  unfold toppedL at hx
  simp only [List.mem_cons, List.mem_nil_iff, or_false] at hx
  rcases hx with rfl | rfl | rfl | rfl | rfl | rfl <;> omega
def sp_l_rule : Sp := fun vs H Q _ => ∃ (c : Int) (n : Str), vs = [.int c, .str n] ∧ ∀ p r H2, Ex H H2 → TupAt H2 n r p → r.Ok → r.deep ≤ 3 → Q (.ref p) H2
theorem cal_l_rule (D : Def K mg "_law_rule" s_l_rule ["_law_cell", "_law_name"]) (B : Blt mg) (c_l_mixed : Cal P w K mg base 1 "_law_mixed" sp_l_mixed) (c_l_parts : Cal P w K mg base 2 "_law_parts" sp_l_parts) (c_l_way : Cal P w K mg base 2 "_law_way" sp_l_way) (c_l_plain : Cal P w K mg base 4 "_law_plain" sp_l_plain) : Cal P w K mg base 5 "_law_rule" sp_l_rule := by
  refine cal_of D sc_l_rule (fun vs H Q E h => ?_) (fun f cdv A outer s H vs Q E hr h => ?_)
  · obtain ⟨c, n, rfl, _⟩ := h; rfl
  · obtain ⟨c, n, rfl, q⟩ := h
    refine ⟨_, (pss_cons (ps_set (i := 2) sc_l_rule.nd rfl (Or.inl rfl) (pe_c c_l_mixed hr (by omega) rfl (pa_cons (pv 0) (pa_cons pe_int pa_nil))))
 (pss_cons (ps_set (i := 3) sc_l_rule.nd rfl (Or.inl rfl) (pe_c c_l_plain hr (by omega) rfl (pa_cons (pv 0) (pa_cons (pv 1) (pa_cons (pe_op op_mod (pv 2) pe_int) pa_nil)))))
 (pss_cons (ps_for PassesOwn.never rfl (pi_range1 rfl B.range_ (pa_cons (pe_ix ix_list (pe_lst (pa_cons pe_int (pa_cons pe_int (pa_cons pe_int (pa_cons pe_int (pa_cons pe_int (pa_cons pe_int pa_nil))))))) (pe_op op_mod (pe_op op_fdiv (pv 2) pe_int) pe_int) (fun _ _ => rfl)) pa_nil)) (pg_name (i := 4) sc_l_rule.nd rfl (Or.inl rfl))
 (pss_one (ps_set (i := 3) sc_l_rule.nd rfl (Or.inl rfl) (pe_tup (pa_cons pe_str (pa_cons (pv 1) (pa_cons (pe_c c_l_parts hr (by omega) rfl (pa_cons (pv 0) (pa_cons (pe_op op_add pe_int (pv 4)) pa_nil))) (pa_cons (pe_c c_l_way hr (by omega) rfl (pa_cons (pv 0) (pa_cons (pe_op op_add pe_int (pv 4)) pa_nil))) (pa_cons (pv 3) pa_nil)))))))))
 (pss_one (ps_ret (pv 3)))))), ?_⟩
    have m1 := mixed_lo c 70
    refine q_asg (v := .int (mixed c 70)) (by walk_at "ev") fun H1 e1 => ?_
    refine ⟨_, rfl, _, rfl, _, rfl, _, _, rfl, rfl, (show (0 : Int) < 5 by decide), c, mixed c 70 % 5, n, rfl, fun t0 r0 H2 e2 ht0 ho0 hd0 => ?_⟩
    dsimp only
    refine q_forR1 (n := topped (mixed c 70)) (ea_cons (ev_ixNew (xs := toppedL.map V.int) (el_lst ?_ (by show 6 ≤ 100000; decide)) (ev_op (ev_op (ev_var rfl) ev_c (rv_I ⟨by decide, by decide⟩)) ev_c (rv_I (show (0 : Int) < 6 by decide))) (at_menu (by omega) (by show mixed c 70 / 5 % 6 < 6; omega))) ea_nil) ⟨(topped_ok m1).1, by have := (topped_ok m1).2; omega⟩
      (fun i σ' H' => ∃ (t : Addr) (r : Rl) (v4 : Option V), σ' = [some (.int c), some (.str n), some (.int (mixed c 70)), some (.ref t), v4] ∧ Ex H H' ∧ TupAt H' n r t ∧ r.Ok ∧ r.deep = i) (fun H3 e3 => ⟨t0, r0, none, rfl, (e1.trans e2).trans e3, ht0.mono e3, ho0, hd0⟩) ?_ ?_
    · unfold toppedL
      rw [List.map_cons, List.map_cons, List.map_cons, List.map_cons, List.map_cons, List.map_cons, List.map_nil]
      walk_at "ev"
    · rintro i σ' H' hi ⟨t, r, v4, rfl, e3, ht, ho, hd⟩
      refine s_asgU (xs := [.str "ontop", .str n, .int (parts c (71 + (i : Int))), .str (wtxt (wayAt (mixed c (75 + (i : Int)) / 5 % 4))), .ref t]) (eu_tup ?_ (by show 5 ≤ 100000; decide)) fun p H4 hp e4 h4 => ?_
      · walk_at "ev"
      · exact ⟨p, .ontop (parts c (71 + (i : Int))) (wayAt (mixed c (75 + (i : Int)) / 5 % 4)) r, _, rfl, e3.trans e4, ⟨t, h4, ht.mono e4⟩, ⟨parts_ok _ _, ho⟩, by show r.deep + 1 = i + 1; omega⟩
    · rintro σ' H' ⟨t, r, v4, rfl, e3, ht, ho, hd⟩
      refine s_ret (ev_var rfl) fun H4 e4 => q t r H4 (e3.trans e4) (ht.mono e4) ho ?_
      have := (topped_ok m1).2
      have := (topped_ok m1).1
      omega
end
end Co

/-! the law's helpers: rounding, making, turning, rules on top -/
namespace Co
open PySem PySem.Spec PyProof.Rows L2 Evl Km
local macro_rules | `(tactic| walk_at "ev") => `(tactic| (repeat' (first
  | ((with_reducible apply ev_var); rfl) | ((with_reducible apply rv_eq); rfl) | ((with_reducible apply rv_ne); rfl)
  | with_reducible exact ev_c | with_reducible exact rv_I0 | with_reducible exact ea_nil | with_reducible exact et_yes | with_reducible exact eo_none | with_reducible exact rc_intB | with_reducible exact rc_min | with_reducible exact rc_max | with_reducible exact rv_inS
  | walk_at "sp"
  | with_reducible apply rv_I | with_reducible apply ev_op | with_reducible apply ev_un | with_reducible apply ev_callx | with_reducible apply ea_cons | with_reducible apply et_test | with_reducible apply et_B | with_reducible apply et_not | with_reducible apply ev_notV | with_reducible apply ev_cb | with_reducible apply eo_some | with_reducible apply ev_chain | with_reducible apply ev_andV | with_reducible apply ev_orV | with_reducible apply et_and | with_reducible apply et_or
  | with_reducible intro _)))
section
variable {P : Program} {w : World} {K : PySem.W.Frag} {mg : Str → Option Value} {base : Heap} {aW aN : Addr} {σ : L2.St} {H : Hp} {cA : Kd → Addr} {cR cS fRi fSi : Addr}
abbrev s_l_rounded : Stmt := top 55
theorem sc_l_rounded : FnScope ["_law_number", "_law_way_here", "_law_whole_here", "_law_rest"] ["_law_number", "_law_way_here"] (defScope s_l_rounded) := ⟨rfl, rfl, rfl, by decide +kernel, rfl, by decide +kernel, by decide +kernel⟩
def sp_l_rounded : Sp := fun vs H Q _ => ∃ (n : Int) (y : Way), vs = [.int n, .str (wtxt y)] ∧ RetV (.int (rnd n y)) H Q
theorem spv_l_rounded {n : Int} {y : Way} : SpV sp_l_rounded [.int n, .str (wtxt y)] H (.int (rnd n y)) := fun H1 e Q q E => ⟨n, y, rfl, q⟩
theorem cal_l_rounded (D : Def K mg "_law_rounded" s_l_rounded ["_law_number", "_law_way_here"]) (B : Blt mg) : Cal P w K mg base 1 "_law_rounded" sp_l_rounded := by
  refine cal_of D sc_l_rounded (fun vs H Q E h => ?_) (fun f cdv A outer s H vs Q E hr h => ?_)
  · obtain ⟨n, y, rfl, _⟩ := h; rfl
  · obtain ⟨n, y, rfl, q⟩ := h
    refine ⟨_, (pss_cons (ps_set (i := 2) sc_l_rounded.nd rfl (Or.inl rfl) (pe_op op_fdiv (pv 0) pe_int))
 (pss_cons (ps_set (i := 3) sc_l_rounded.nd rfl (Or.inl rfl) (pe_op op_sub (pv 0) (pe_op op_mul (pv 2) pe_int)))
 (pss_cons (ps_if (pt_cmpR op_eq (pv 1) pe_str (nomark _))
 (pss_one (ps_ret (pv 2))) pss_nil)
 (pss_cons (ps_if (pt_cmpR op_eq (pv 1) pe_str (nomark _))
 (pss_one (ps_ret (pe_op op_add (pv 2) (pe_callTy call_int1 (by rfl) B.int_ (by decide +kernel) (pa_cons (pe_cmpR op_gt (pv 3) pe_int (nomark _)) pa_nil))))) pss_nil)
 (pss_cons (ps_if (pt_cmpR op_eq (pv 1) pe_str (nomark _))
 (pss_one (ps_ret (pe_op op_add (pv 2) (pe_callTy call_int1 (by rfl) B.int_ (by decide +kernel) (pa_cons (pe_cmpR op_ge (pv 3) pe_int (nomark _)) pa_nil))))) pss_nil)
 (pss_one (ps_ret (pe_op op_add (pv 2) (pe_callTy call_int1 (by rfl) B.int_ (by decide +kernel) (pa_cons (pe_or (pe_cmpR op_gt (pv 3) pe_int (nomark _)) (pe_one (pe_and (pe_cmpR op_eq (pv 3) pe_int (nomark _)) (pe_one (pe_cmpR op_eq (pe_op op_mod (pv 2) pe_int) pe_int (nomark _)))))) pa_nil)))))))))), ?_⟩
    rw [← rndL_eq] at q
    refine q_asg (v := .int (n / 10000)) (ev_op (ev_var rfl) ev_c (rv_I ⟨by decide, by decide⟩)) fun H1 e1 => ?_
    refine q_asg (v := .int (n - n / 10000 * 10000)) (ev_op (ev_var rfl) (ev_op (ev_var rfl) ev_c (rv_I (.inr ⟨by decide, by decide⟩))) rv_I0) fun H2 e2 => ?_
    have x2 := e1.trans e2
    refine q_when (b := decide (y = .down)) (by rw [← dv_down]; exact et_test (ev_op (ev_var rfl) ev_c (rv_eq rfl))) (fun hb H3 e3 => ?_) (fun hb H3 e3 => ?_)
    · obtain rfl := of_decide_eq_true hb
      exact s_ret (ev_var rfl) fun H4 e4 => q _ ((x2.trans e3).trans e4)
    have n1 := of_decide_eq_false hb
    refine q_when (b := decide (y = .up)) (by rw [← dv_up]; exact et_test (ev_op (ev_var rfl) ev_c (rv_eq rfl))) (fun hb H4 e4 => ?_) (fun hb H4 e4 => ?_)
    · obtain rfl := of_decide_eq_true hb
      exact s_ret (ev_op (ev_var rfl) (ev_cb (ea_cons (ev_op (ev_var rfl) ev_c rv_I0) ea_nil) rc_intB) rv_I0) fun H5 e5 => q _ (((x2.trans e3).trans e4).trans e5)
    have n2 := of_decide_eq_false hb
    refine q_when (b := decide (y = .near)) (by rw [← dv_near]; exact et_test (ev_op (ev_var rfl) ev_c (rv_eq rfl))) (fun hb H5 e5 => ?_) (fun hb H5 e5 => ?_)
    · obtain rfl := of_decide_eq_true hb
      exact s_ret (ev_op (ev_var rfl) (ev_cb (ea_cons (ev_op (ev_var rfl) ev_c rv_I0) ea_nil) rc_intB) rv_I0) fun H6 e6 => q _ ((((x2.trans e3).trans e4).trans e5).trans e6)
    have n3 := of_decide_eq_false hb
    have hy : y = .even := by
      cases y with
      | down => exact absurd rfl n1
      | up => exact absurd rfl n2
      | near => exact absurd rfl n3
      | even => rfl
    subst hy
    refine s_ret (v := .int (rndL n .even)) ?_ fun H6 e6 => q _ ((((x2.trans e3).trans e4).trans e5).trans e6)
    unfold rndL
    refine ev_op (ev_var rfl) (ev_cb (ea_cons (ev_orV (ev_op (ev_var rfl) ev_c rv_I0) fun _ => ev_andV (ev_is (ev_op (ev_var rfl) ev_c (rv_eq rfl)) (by rw [dv_int])) fun _ => ev_is (ev_op (ev_op (ev_var rfl) ev_c (rv_I (show (0 : Int) < 2 by decide))) ev_c (rv_eq rfl)) (by rw [dv_int])) ea_nil) rc_intB) rv_I0
/-- a class of the program, made by its name -/
def Mkd (K : PySem.W.Frag) (mg : Str → Option Value) (x : Str) (C f : Addr) : Prop := PySem.W.makesIn K C = true ∧ PySem.W.findIn K (.ref C) "__init__" = some (some (.ref f)) ∧ PySem.W.isFn K (.ref f) = true ∧ PySem.W.keepIn K (.ref C) = true ∧ mg x = some (.ref C)
structure Mks (P : Program) (w : World) (K : PySem.W.Frag) (mg : Str → Option Value) (base : Heap) (cA : Kd → Addr) (fF fS fC fL fB fO : Addr) : Prop where
  mF : Mkd K mg "Flat" (cA .flat) fF
  mS : Mkd K mg "Share" (cA .share) fS
  mC : Mkd K mg "Capped" (cA .capped) fC
  mL : Mkd K mg "Least" (cA .least) fL
  mB : Mkd K mg "Bands" (cA .bands) fB
  mO : Mkd K mg "OnTop" (cA .ontop) fO
  iF : Fat P w K mg base 4 fF (sp_Flat_init cA)
  iS : Fat P w K mg base 4 fS (sp_Share_init cA)
  iC : Fat P w K mg base 5 fC (sp_Capped_init cA)
  iL : Fat P w K mg base 5 fL (sp_Least_init cA)
  iB : Fat P w K mg base 5 fB (sp_Bands_init cA)
  iO : Fat P w K mg base 4 fO (sp_OnTop_init cA)
theorem new_ins {H1 : Hp} {x dx : Addr} {C : Addr} (hx : H1 x = none) (hd : H1 dx = none) (hn : dx ≠ x) : Ex H1 (L2.upd (L2.upd H1 dx (.own x)) x (.ins C dx [])) :=
  (Ex.new hd).trans (Ex.new (by rw [upd_ne (Ne.symm hn)]; exact hx))
theorem s_retMake {C : Addr} {sp : Sp} {E : XK} {tg : TA} {vs : List V} {D : Ends} (h : EvA tg σ H vs)
    (k : ∀ H1 x dx, Ex H H1 → H x = none → H1 x = none → Ex H1 (L2.upd (L2.upd H1 dx (.own x)) x (.ins C dx [])) → sp (.ref x :: vs) (L2.upd (L2.upd H1 dx (.own x)) x (.ins C dx [])) (fun v H2 => v = .non ∧ D.rt (.ref x) H2) E) : tRet (tMake C sp [] E tg) D σ H :=
  h H (Ex.refl H) _ fun H1 e x dx hx hd hn => by
    rw [List.append_nil]
    exact k H1 x dx e (fresh_back e hx) hx (new_ins hx hd hn)
abbrev s_l_made : Stmt := top 59
theorem sc_l_made : FnScope ["_law_rule_here"] ["_law_rule_here"] (defScope s_l_made) := ⟨rfl, rfl, rfl, by decide +kernel, rfl, by decide +kernel, by decide +kernel⟩
def sp_l_made (cA : Kd → Addr) (d : Nat) : Sp := fun vs H Q _ => ∃ (t : Addr) (n : Str) (r : Rl), vs = [.ref t] ∧ NameOk n ∧ TupAt H n r t ∧ r.Ok ∧ r.deep < d ∧ d ≤ 4 ∧ ∀ p H2, Ex H H2 → RuleAt cA H2 n r p → Q (.ref p) H2
theorem cal_none {x : Str} {st : Stmt} {ps : List Str} {sp : Sp} (D : Def K mg x st ps) (h : ∀ vs H Q E, ¬ sp vs H Q E) {k : Nat} : Cal P w K mg base k x sp := by
  obtain ⟨f, fd, F, hm, hb⟩ := D.ex
  exact ⟨f, fd, ps, ⟨fun vs H Q E z => absurd z (h vs H Q E), fun A outer s H args us vs Q E _ _ _ _ z => absurd z (h vs H Q E)⟩, hm, F.kp, hb⟩
theorem cal_l_made_step {fF fC fL fB fO : Addr} {d : Nat} (D : Def K mg "_law_made" s_l_made ["_law_rule_here"]) (M : Mks P w K mg base cA fF fSi fC fL fB fO) (c_l_made : Cal P w K mg base (6 + d) "_law_made" (sp_l_made cA d)) : Cal P w K mg base (6 + d + 1) "_law_made" (sp_l_made cA (d + 1)) := by
  refine cal_of D sc_l_made (fun vs H Q E h => ?_) (fun f cdv A outer s H vs Q E hr h => ?_)
  · obtain ⟨t, n, r, rfl, _⟩ := h; rfl
  · obtain ⟨t, n, r, rfl, hn, ht, ho, hd, hd4, q⟩ := h
    obtain ⟨m_Flat, m_Share, m_Capped, m_Least, m_Bands, m_OnTop, iF, iS, iC, iL, iB, iO⟩ := M
    refine ⟨_, (pss_cons (ps_if (pt_cmpR op_eq (pe_ix ix_tup (pv 0) pe_int (fun _ _ => rfl)) pe_str (nomark _))
 (pss_one (ps_ret (pe_mk m_Flat iF hr (by omega) rfl (pa_cons (pe_ix ix_tup (pv 0) pe_int (fun _ _ => rfl)) (pa_cons (pe_ix ix_tup (pv 0) pe_int (fun _ _ => rfl)) pa_nil))))) pss_nil)
 (pss_cons (ps_if (pt_cmpR op_eq (pe_ix ix_tup (pv 0) pe_int (fun _ _ => rfl)) pe_str (nomark _))
 (pss_one (ps_ret (pe_mk m_Share iS hr (by omega) rfl (pa_cons (pe_ix ix_tup (pv 0) pe_int (fun _ _ => rfl)) (pa_cons (pe_ix ix_tup (pv 0) pe_int (fun _ _ => rfl)) (pa_cons (pe_ix ix_tup (pv 0) pe_int (fun _ _ => rfl)) pa_nil)))))) pss_nil)
 (pss_cons (ps_if (pt_cmpR op_eq (pe_ix ix_tup (pv 0) pe_int (fun _ _ => rfl)) pe_str (nomark _))
 (pss_one (ps_ret (pe_mk m_Capped iC hr (by omega) rfl (pa_cons (pe_ix ix_tup (pv 0) pe_int (fun _ _ => rfl)) (pa_cons (pe_ix ix_tup (pv 0) pe_int (fun _ _ => rfl)) (pa_cons (pe_ix ix_tup (pv 0) pe_int (fun _ _ => rfl)) (pa_cons (pe_ix ix_tup (pv 0) pe_int (fun _ _ => rfl)) pa_nil))))))) pss_nil)
 (pss_cons (ps_if (pt_cmpR op_eq (pe_ix ix_tup (pv 0) pe_int (fun _ _ => rfl)) pe_str (nomark _))
 (pss_one (ps_ret (pe_mk m_Least iL hr (by omega) rfl (pa_cons (pe_ix ix_tup (pv 0) pe_int (fun _ _ => rfl)) (pa_cons (pe_ix ix_tup (pv 0) pe_int (fun _ _ => rfl)) (pa_cons (pe_ix ix_tup (pv 0) pe_int (fun _ _ => rfl)) (pa_cons (pe_ix ix_tup (pv 0) pe_int (fun _ _ => rfl)) pa_nil))))))) pss_nil)
 (pss_cons (ps_if (pt_cmpR op_eq (pe_ix ix_tup (pv 0) pe_int (fun _ _ => rfl)) pe_str (nomark _))
 (pss_one (ps_ret (pe_mk m_Bands iB hr (by omega) rfl (pa_cons (pe_ix ix_tup (pv 0) pe_int (fun _ _ => rfl)) (pa_cons (pe_ix ix_tup (pv 0) pe_int (fun _ _ => rfl)) (pa_cons (pe_ix ix_tup (pv 0) pe_int (fun _ _ => rfl)) pa_nil)))))) pss_nil)
 (pss_one (ps_ret (pe_mk m_OnTop iO hr (by omega) rfl (pa_cons (pe_ix ix_tup (pv 0) pe_int (fun _ _ => rfl)) (pa_cons (pe_ix ix_tup (pv 0) pe_int (fun _ _ => rfl)) (pa_cons (pe_ix ix_tup (pv 0) pe_int (fun _ _ => rfl)) (pa_cons (pe_c c_l_made hr (by omega) rfl (pa_cons (pe_ix ix_tup (pv 0) pe_int (fun _ _ => rfl)) pa_nil)) pa_nil)))))))))))), ?_⟩
    have ix : ∀ {H1 : Hp} {xs : List V} {v : V} (j : Nat), H1 t = some (.tup xs) → xs[j]? = some v → Ev (tOp (rIxT K) (tVar 0) (tC (.int (j : Int)))) (L2.start ["_law_rule_here"] [.ref t]) H1 v := fun j h1 h2 => ev_op (ev_var rfl) ev_c (rv_ixT (st_of h1) (atI_nat h2))
    have tst : ∀ {H1 : Hp} {z s : Str} {xs : List V} {b : Bool}, H1 t = some (.tup (.str z :: xs)) → decide (V.str z = V.str s) = b → EvT (tTest (tOp rEq (tOp (rIxT K) (tVar 0) (tC (.int 0))) (tC (.str s)))) (L2.start ["_law_rule_here"] [.ref t]) H1 b := fun h1 h2 => et_is (et_test (ev_op (ix 0 h1 rfl) ev_c (rv_eq rfl))) h2
    cases r with
    | flat a =>
      have h0 : H t = some (.tup [.str "flat", .str n, .int a]) := ht
      refine q_when (tst (b := true) h0 (by decide +kernel)) (fun _ H1 e1 => ?_) (fun z => nomatch z)
      have h1 := e1 _ _ h0
      refine s_retMake (ea_cons (ix 1 h1 rfl) (ea_cons (ix 2 h1 rfl) ea_nil)) fun H2 x dx e2 hx hx2 e3 => ⟨x, dx, n, a, rfl, upd_same, hn, ho, fun H4 b4 h4 => ⟨rfl, q x H4 ?_ ⟨dx, 0, h4⟩⟩⟩
      exact ex_of_b (e1.trans (e2.trans e3)) (fresh_back e1 hx) b4
    | share a y =>
      have h0 : H t = some (.tup [.str "share", .str n, .int a, .str (wtxt y)]) := ht
      refine q_no (tst h0 (by decide +kernel)) fun H1 e1 => ?_
      have h1 := e1 _ _ h0
      refine q_when (tst (b := true) h1 (by decide +kernel)) (fun _ H1 f1 => ?_) (fun z => nomatch z)
      have h1 := f1 _ _ h1
      refine s_retMake (ea_cons (ix 1 h1 rfl) (ea_cons (ix 2 h1 rfl) (ea_cons (ix 3 h1 rfl) ea_nil))) fun H2 x dx e2 hx hx2 e3 => ⟨x, dx, .share, n, a, y, rfl, upd_same, hn, ho, fun H4 b4 h4 => ⟨rfl, q x H4 ?_ ⟨dx, 0, h4⟩⟩⟩
      exact ex_of_b ((e1.trans f1).trans (e2.trans e3)) (fresh_back (e1.trans f1) hx) b4
    | capped a m y =>
      have h0 : H t = some (.tup [.str "capped", .str n, .int a, .int m, .str (wtxt y)]) := ht
      refine q_no (tst h0 (by decide +kernel)) fun H1 e1 => ?_
      have h1 := e1 _ _ h0
      refine q_no (tst h1 (by decide +kernel)) fun H2 e2 => ?_
      have h2 := e2 _ _ h1
      refine q_when (tst (b := true) h2 (by decide +kernel)) (fun _ H1 f1 => ?_) (fun z => nomatch z)
      have h1 := f1 _ _ h2
      have x1 := (e1.trans e2).trans f1
      refine s_retMake (ea_cons (ix 1 h1 rfl) (ea_cons (ix 2 h1 rfl) (ea_cons (ix 3 h1 rfl) (ea_cons (ix 4 h1 rfl) ea_nil)))) fun H2 x dx e2 hx hx2 e3 => ⟨x, dx, n, a, m, y, rfl, upd_same, hn, ho.1, ho.2, fun H4 b4 h4 => ⟨rfl, q x H4 ?_ ⟨dx, 0, h4⟩⟩⟩
      exact ex_of_b (x1.trans (e2.trans e3)) (fresh_back x1 hx) b4
    | least a m y =>
      have h0 : H t = some (.tup [.str "least", .str n, .int a, .int m, .str (wtxt y)]) := ht
      refine q_no (tst h0 (by decide +kernel)) fun H1 e1 => ?_
      have h1 := e1 _ _ h0
      refine q_no (tst h1 (by decide +kernel)) fun H2 e2 => ?_
      have h2 := e2 _ _ h1
      refine q_no (tst h2 (by decide +kernel)) fun H3 e3 => ?_
      have h3 := e3 _ _ h2
      refine q_when (tst (b := true) h3 (by decide +kernel)) (fun _ H1 f1 => ?_) (fun z => nomatch z)
      have h1 := f1 _ _ h3
      have x1 := ((e1.trans e2).trans e3).trans f1
      refine s_retMake (ea_cons (ix 1 h1 rfl) (ea_cons (ix 2 h1 rfl) (ea_cons (ix 3 h1 rfl) (ea_cons (ix 4 h1 rfl) ea_nil)))) fun H2 x dx e2 hx hx2 e3 => ⟨x, dx, n, a, m, y, rfl, upd_same, hn, ho.1, ho.2, fun H4 b4 h4 => ⟨rfl, q x H4 ?_ ⟨dx, 0, h4⟩⟩⟩
      exact ex_of_b (x1.trans (e2.trans e3)) (fresh_back x1 hx) b4
    | bands rows y =>
      obtain ⟨tr, h0, hrows⟩ : ∃ q, H t = some (.tup [.str "bands", .str n, .ref q, .str (wtxt y)]) ∧ RowsAt H q rows := ht
      refine q_no (tst h0 (by decide +kernel)) fun H1 e1 => ?_
      have h1 := e1 _ _ h0
      refine q_no (tst h1 (by decide +kernel)) fun H2 e2 => ?_
      have h2 := e2 _ _ h1
      refine q_no (tst h2 (by decide +kernel)) fun H3 e3 => ?_
      have h3 := e3 _ _ h2
      refine q_no (tst h3 (by decide +kernel)) fun H4 e4 => ?_
      have h4 := e4 _ _ h3
      refine q_when (tst (b := true) h4 (by decide +kernel)) (fun _ H1 f1 => ?_) (fun z => nomatch z)
      have h1 := f1 _ _ h4
      have x1 := (((e1.trans e2).trans e3).trans e4).trans f1
      refine s_retMake (ea_cons (ix 1 h1 rfl) (ea_cons (ix 2 h1 rfl) (ea_cons (ix 3 h1 rfl) ea_nil))) fun H2 x dx e2 hx hx2 e3 => ⟨x, dx, tr, n, rows, y, H1, rfl, upd_same, hn, e2.trans e3, hx, hrows.mono x1, ho, fun H4 b4 h4 => ⟨rfl, q x H4 ?_ ?_⟩⟩
      · exact ex_of_b (x1.trans (e2.trans e3)) (fresh_back x1 hx) b4
      · exact ⟨dx, tr, h4, hrows.mono (ex_of_b (x1.trans (e2.trans e3)) (fresh_back x1 hx) b4)⟩
    | ontop a y r2 =>
      obtain ⟨t2, h0, ht2⟩ : ∃ q, H t = some (.tup [.str "ontop", .str n, .int a, .str (wtxt y), .ref q]) ∧ TupAt H n r2 q := ht
      refine q_no (tst h0 (by decide +kernel)) fun H1 e1 => ?_
      have h1 := e1 _ _ h0
      refine q_no (tst h1 (by decide +kernel)) fun H2 e2 => ?_
      have h2 := e2 _ _ h1
      refine q_no (tst h2 (by decide +kernel)) fun H3 e3 => ?_
      have h3 := e3 _ _ h2
      refine q_no (tst h3 (by decide +kernel)) fun H4 e4 => ?_
      have h4 := e4 _ _ h3
      refine q_no (tst h4 (by decide +kernel)) fun H5 e5 => ?_
      have h5 := e5 _ _ h4
      have x5 := (((e1.trans e2).trans e3).trans e4).trans e5
      have hd2 : r2.deep < d := Nat.lt_of_succ_lt_succ hd
      have hd3 : r2.deep ≤ 2 := by omega
      show tMake _ _ _ _ _ _ _ _
      refine ix 1 h5 rfl H5 (Ex.refl H5) _ fun H6 e6 => ?_
      refine ix 2 (e6 _ _ h5) rfl H6 (Ex.refl H6) _ fun H7 e7 => ?_
      refine ix 3 ((e6.trans e7) _ _ h5) rfl H7 (Ex.refl H7) _ fun H8 e8 => ?_
      have x8 := (e6.trans e7).trans e8
      refine ix 4 (x8 _ _ h5) rfl H8 (Ex.refl H8) _ fun H9 e9 => ?_
      have x9 := (x5.trans x8).trans e9
      refine ⟨t2, n, r2, rfl, hn, ht2.mono x9, ho.2, hd2, by omega, fun p H10 e10 hp => ?_⟩
      intro x dx hx hdx hne
      have x10 := x9.trans e10
      have e11 := new_ins (C := cA .ontop) hx hdx hne
      refine ⟨x, dx, p, n, a, y, r2, H10, rfl, upd_same, hn, ho.1, e11, hx, hp, hd3, fun H12 b12 h12 => ⟨rfl, q x H12 ?_ ?_⟩⟩
      · exact ex_of_b (x10.trans e11) (fresh_back x10 hx) b12
      · exact ⟨dx, p, h12, hp.mono (ex_of_b e11 hx b12)⟩
theorem cal_l_made {fF fC fL fB fO : Addr} (D : Def K mg "_law_made" s_l_made ["_law_rule_here"]) (M : Mks P w K mg base cA fF fSi fC fL fB fO) : ∀ d, Cal P w K mg base (6 + d) "_law_made" (sp_l_made cA d)
  | 0 => cal_none D fun vs H Q E ⟨t, n, r, _, _, _, _, h, _⟩ => absurd h (Nat.not_lt_zero _)
  | d + 1 => cal_l_made_step D M (cal_l_made D M d)
end
end Co

/-! the law's helpers: turning, rules on top -/
namespace Co
open PySem PySem.Spec PyProof.Rows L2 Evl Km
local macro_rules | `(tactic| walk_at "ev") => `(tactic| (repeat' (first
  | ((with_reducible apply ev_var); rfl) | ((with_reducible apply rv_eq); rfl) | ((with_reducible apply rv_ne); rfl)
  | with_reducible exact ev_c | with_reducible exact rv_I0 | with_reducible exact ea_nil | with_reducible exact et_yes | with_reducible exact eo_none | with_reducible exact rc_intB | with_reducible exact rc_min | with_reducible exact rc_max | with_reducible exact rv_inS
  | walk_at "sp"
  | with_reducible apply rv_I | with_reducible apply ev_op | with_reducible apply ev_un | with_reducible apply ev_callx | with_reducible apply ea_cons | with_reducible apply et_test | with_reducible apply et_B | with_reducible apply et_not | with_reducible apply ev_notV | with_reducible apply ev_cb | with_reducible apply eo_some | with_reducible apply ev_chain | with_reducible apply ev_andV | with_reducible apply ev_orV | with_reducible apply et_and | with_reducible apply et_or
  | with_reducible intro _)))
local macro_rules | `(tactic| walk_at "sp") => `(tactic| with_reducible exact spv_l_mixed)
section
variable {P : Program} {w : World} {K : PySem.W.Frag} {mg : Str → Option Value} {base : Heap} {aW aN : Addr} {σ : L2.St} {H : Hp} {cA : Kd → Addr} {cR cS fRi fSi : Addr}
theorem map_erase (f : Int → V) : ∀ (l : List Int) (k : Nat), (l.map f).eraseIdx k = (l.eraseIdx k).map f
  | [], _ => rfl
  | a :: r, 0 => rfl
  | a :: r, k + 1 => by
    show f a :: (r.map f).eraseIdx k = f a :: (r.eraseIdx k).map f
    rw [map_erase f r k]
theorem erase_perm : ∀ (l : List Int) (k : Nat) (x : Int), l[k]? = some x → (x :: l.eraseIdx k).Perm l
  | [], _, _, h => by simp at h
  | a :: r, 0, x, h => by
    have e : a = x := Option.some.inj h
    subst e
    exact List.Perm.refl _
  | a :: r, k + 1, x, h => by
    have ih := erase_perm r k x h
    exact (List.Perm.swap a x (r.eraseIdx k)).trans (ih.cons a)
abbrev s_l_turned : Stmt := top 60
theorem sc_l_turned : FnScope ["_law_bases_here", "_law_cell", "_law_left", "_law_found", "_law_k"] ["_law_bases_here", "_law_cell"] (defScope s_l_turned) := ⟨rfl, rfl, rfl, by decide +kernel, rfl, by decide +kernel, by decide +kernel⟩
def sp_l_turned : Sp := fun vs H Q _ => ∃ (a : Addr) (bs : List Int) (c : Int), vs = [.ref a, .int c] ∧ BasesAt H a bs ∧ ∀ p bs' H2, Ex H H2 → BasesAt H2 p bs' → bs'.Perm bs → Q (.ref p) H2
theorem cal_l_turned (D : Def K mg "_law_turned" s_l_turned ["_law_bases_here", "_law_cell"]) (B : Blt mg) (c_l_mixed : Cal P w K mg base 1 "_law_mixed" sp_l_mixed) : Cal P w K mg base 2 "_law_turned" sp_l_turned := by
  refine cal_of D sc_l_turned (fun vs H Q E h => ?_) (fun f cdv A outer s H vs Q E hr h => ?_)
  · obtain ⟨a, bs, c, rfl, _⟩ := h; rfl
  · obtain ⟨a, bs, c, rfl, hb, q⟩ := h
    refine ⟨_, (pss_cons (ps_set (i := 2) sc_l_turned.nd rfl (Or.inl rfl) (pe_callTy call_list_of (by rfl) B.list_ (by decide +kernel) (pa_cons (pv 0) pa_nil)))
 (pss_cons (ps_set (i := 3) sc_l_turned.nd rfl (Or.inl rfl) (pe_lst pa_nil))
 (pss_cons (ps_for PassesOwn.never rfl (pi_range1 rfl B.range_ (pa_cons (pe_callB call_len_seq (by rfl) B.len_ (by decide +kernel) (pa_cons (pv 0) pa_nil)) pa_nil)) (pg_name (i := 4) sc_l_turned.nd rfl (Or.inl rfl))
 (pss_one (ps_expr (pe_bm PySem.F.plainAttrs_list PySem.F.slot_list_append PySem.F.type_list_append mt_append (pv 3) (pa_cons (pe_bm PySem.F.plainAttrs_list PySem.F.slot_list_pop PySem.F.type_list_pop mt_popAt (pv 2) (pa_cons (pe_op op_mod (pe_c c_l_mixed hr (by omega) rfl (pa_cons (pv 1) (pa_cons (pv 4) pa_nil))) (pe_callB call_len_seq (by rfl) B.len_ (by decide +kernel) (pa_cons (pv 2) pa_nil))) pa_nil)) pa_nil)))))
 (pss_one (ps_ret (pv 3)))))), ?_⟩
    have hz := hb.len
    -- the copy
    refine ⟨_, rfl, a, bs.map V.int, rfl, .inl (sq_of hb.at_), fun l hl => ?_⟩
    dsimp only
    have e1 : Ex H (L2.upd H l (.lst (bs.map V.int))) := Ex.new hl
    refine q_asgL (el_lst ea_nil (by show 0 ≤ 100000; decide)) fun g H2 hg e2 h2 => ?_
    have hg0 : H g = none := fresh_back e1 hg
    have hlg : l ≠ g := fun z => by
      rw [← z, upd_same] at hg; cases hg
    have hl2 := e2 _ _ (show (L2.upd H l (.lst (bs.map V.int))) l = some (.lst (bs.map V.int)) from upd_same)
    refine q_forR1 (n := ((bs.map V.int).length : Int)) (ea_cons (ev_cb (ea_cons (ev_var rfl) ea_nil) (rc_lenL (sq_of ((e1.trans e2) _ _ hb.at_)))) ea_nil) (by rw [List.length_map]; omega)
      (fun i σ' H' => ∃ (lf fd : List Int) (v4 : Option V), σ' = [some (.ref a), some (.int c), some (.ref l), some (.ref g), v4] ∧ Ex H H' ∧ H' l = some (.lst (lf.map V.int)) ∧ H' g = some (.lst (fd.map V.int)) ∧ (fd ++ lf).Perm bs ∧ fd.length = i)
      (fun H3 e3 => ⟨bs, [], none, rfl, (e1.trans e2).trans e3, e3 _ _ hl2, e3 _ _ h2, List.Perm.refl _, rfl⟩) ?_ ?_
    · rintro i σ' H' hi ⟨lf, fd, v4, rfl, e3, hl3, hg3, hp, hfl⟩
      have hlen := hp.length_eq
      rw [List.length_append] at hlen
      rw [List.length_map] at hi
      have hpos : 0 < lf.length := by omega
      have m0 := mixed_lo c (i : Int)
      have r0 : 0 ≤ mixed c (i : Int) % (lf.length : Int) := Int.emod_nonneg _ (by omega)
      have r1 : mixed c (i : Int) % (lf.length : Int) < (lf.length : Int) := Int.emod_lt_of_pos _ (by omega)
      obtain ⟨k, hk⟩ : ∃ k : Nat, mixed c (i : Int) % (lf.length : Int) = (k : Int) := ⟨_, (Int.toNat_of_nonneg r0).symm⟩
      rw [hk] at r1
      have hkl : k < lf.length := by omega
      -- a turn takes one over
      refine ⟨_, rfl, .inl ⟨rfl, _, sq_of hg3⟩, _, rfl, .inl ⟨rfl, _, sq_of hl3⟩, ?_⟩
      have ev : Ev (tOp (rI (fun _ j => 0 < j) fun i j => .int (i % j)) (tCall sp_l_mixed [] E0 (tCons (tVar 1) (tCons (tVar 4) tNil))) (tCB (fun zs H Q => ∃ p ys, zs = [V.ref p] ∧ (SqL K H p ys ∨ SqT K H p ys) ∧ Q (.int ys.length) H) (tCons (tVar 2) tNil))) [some (.ref a), some (.int c), some (.ref l), some (.ref g), some (.int (i : Int))] H' (.int (k : Int)) := by
        refine ev_is (ev_op (ev_callx (ea_cons (ev_var rfl) (ea_cons (ev_var rfl) ea_nil)) spv_l_mixed) (ev_cb (ea_cons (ev_var rfl) ea_nil) (rc_lenL (sq_of hl3))) (rv_I ?_)) ?_
        · show (0 : Int) < ((lf.map V.int).length : Int)
          rw [List.length_map]; omega
        · rw [List.length_map, hk]
      refine ev H' (Ex.refl H') _ fun H4 e4 => ?_
      have hl4 := e4 _ _ hl3
      have hg4 := e4 _ _ hg3
      refine ⟨l, lf.map V.int, (k : Int), k, .int lf[k], rfl, rfl, hl4, by omega, by omega, ?_, ?_, ?_⟩
      · rw [List.length_map]
        exact (ixN_seq (ixN_nat hkl)).1
      · rw [List.getElem?_map, List.getElem?_eq_getElem hkl]; rfl
      refine ⟨g, fd.map V.int, .int lf[k], rfl, rfl, by rw [upd_ne (Ne.symm hlg)]; exact hg4, ?_, ?_⟩
      · rw [List.length_map]
        exact sz_lt (by omega)
      have x4 : Ex H (L2.upd (L2.upd H4 l (.lst ((lf.map V.int).eraseIdx k))) g (.lst (fd.map V.int ++ [.int lf[k]]))) := Ex.mut (Ex.mut (e3.trans e4) hl) hg0
      refine ⟨lf.eraseIdx k, fd ++ [lf[k]], _, rfl, x4, ?_, ?_, ?_, ?_⟩
      · rw [upd_ne hlg, upd_same, map_erase]
      · rw [upd_same, List.map_append]; rfl
      · rw [List.append_assoc]
        exact ((erase_perm lf k _ (List.getElem?_eq_getElem hkl)).append_left fd).trans hp
      · rw [List.length_append, List.length_singleton, hfl]
    · rintro σ' H' ⟨lf, fd, v4, rfl, e3, hl3, hg3, hp, hfl⟩
      rw [List.length_map, Int.toNat_natCast] at hfl
      have hlen := hp.length_eq
      rw [List.length_append] at hlen
      have h0 : lf = [] := List.eq_nil_of_length_eq_zero (by omega)
      subst h0
      rw [List.append_nil] at hp
      exact s_ret (ev_var rfl) fun H4 e4 => q g fd H4 (e3.trans e4) ⟨e4 _ _ hg3, fun b hb' => hb.nn b (hp.mem_iff.mp hb'), by rw [hfl]; exact hz⟩ hp
abbrev s_l_on_top : Stmt := top 61
theorem sc_l_on_top : FnScope ["_law_made_here", "_law_rule_here", "_law_bases_here", "_law_within", "_law_due"] ["_law_made_here", "_law_rule_here", "_law_bases_here"] (defScope s_l_on_top) := ⟨rfl, rfl, rfl, by decide +kernel, rfl, by decide +kernel, by decide +kernel⟩
def sp_l_on_top (cA : Kd → Addr) : Sp := fun vs H Q _ => ∃ (p t a : Addr) (n : Str) (pp : Int) (y : Way) (r2 : Rl) (bs : List Int), vs = [.ref p, .ref t, .ref a] ∧ NameOk n ∧ RuleAt cA H n (.ontop pp y r2) p ∧ TupAt H n (.ontop pp y r2) t ∧ (Rl.ontop pp y r2).Ok ∧ (Rl.ontop pp y r2).deep ≤ 3 ∧ BasesAt H a bs ∧ RetV (.bl true) H Q
theorem cal_l_on_top {kU : Nat} (hkU : 10 ≤ kU) (D : Def K mg "_law_on_top" s_l_on_top ["_law_made_here", "_law_rule_here", "_law_bases_here"]) (T : Ct K mg cA cR cS fRi fSi) (m_until : Um P w K mg base cA kU "until" (sp_until cA 3)) (c_l_made : Cal P w K mg base 10 "_law_made" (sp_l_made cA 4)) (c_l_rounded : Cal P w K mg base 1 "_law_rounded" sp_l_rounded) : Cal P w K mg base (kU + 1) "_law_on_top" (sp_l_on_top cA) := by
  refine cal_of D sc_l_on_top (fun vs H Q E h => ?_) (fun f cdv A outer s H vs Q E hr h => ?_)
  · obtain ⟨p, t, a, n, pp, y, r2, bs, rfl, _⟩ := h; rfl
  · obtain ⟨p, t, a, n, pp, y, r2, bs, rfl, hn, hp, ht, ho, hd, hb, q⟩ := h
    refine ⟨_, (pss_cons (ps_set (i := 3) sc_l_on_top.nd rfl (Or.inl rfl) (pe_ex fun kd => pe_um T m_until hr (by omega) kd (pe_c c_l_made hr (by omega) rfl (pa_cons (pe_ix ix_tup (pv 1) pe_int (fun _ _ => rfl)) pa_nil)) (pa_cons (pv 2) pa_nil)))
 (pss_cons (ps_set (i := 4) sc_l_on_top.nd rfl (Or.inl rfl) (pe_c c_l_rounded hr (by omega) rfl (pa_cons (pe_op op_mul (pv 3) (pe_ix ix_tup (pv 1) pe_int (fun _ _ => rfl))) (pa_cons (pe_ix ix_tup (pv 1) pe_int (fun _ _ => rfl)) pa_nil))))
 (pss_one (ps_ret (pe_cmpR op_eq (pe_ex fun kd => pe_um T m_until hr (by omega) kd (pv 0) (pa_cons (pv 2) pa_nil)) (pv 4) (nomark _)))))), ?_⟩
    obtain ⟨t2, h0, ht2⟩ : ∃ q, H t = some (.tup [.str "ontop", .str n, .int pp, .str (wtxt y), .ref q]) ∧ TupAt H n r2 q := id ht
    have ix : ∀ {σ2 : L2.St} {H1 : Hp} {xs : List V} {v : V} (j : Nat), σ2[1]? = some (some (.ref t)) → H1 t = some (.tup xs) → xs[j]? = some v → Ev (tOp (rIxT K) (tVar 1) (tC (.int (j : Int)))) σ2 H1 v := fun j h1 h2 h3 => ev_op (ev_var h1) ev_c (rv_ixT (st_of h2) (atI_nat h3))
    have hd2 : r2.deep ≤ 2 := Nat.le_of_succ_le_succ hd
    -- what the inner rule tells
    refine ⟨r2.kd, ?_⟩
    refine ix 4 rfl h0 rfl H (Ex.refl H) _ fun H1 e1 => ⟨t2, n, r2, rfl, hn, ht2.mono e1, ho.2, by omega, Nat.le_refl 4, fun p2 H2 e2 hp2 => ?_⟩
    obtain ⟨dx2, q2, hi2⟩ := hp2.ins
    have x2 := e1.trans e2
    refine ⟨p2, dx2, _, rfl, hi2, fl_until r2, _, rfl, ?_⟩
    refine ⟨p2, a, n, r2, bs, rfl, rfl, by omega, hp2, ho.2, hb.mono x2, fun H3 e3 => ?_⟩
    have x3 := x2.trans e3
    dsimp only
    refine q_asg (v := .int (rnd (r2.of bs * pp) y)) (ev_callx (ea_cons (ev_op (ev_var rfl) (ix 2 rfl (x3 _ _ h0) rfl) (rv_I (.inr ⟨by have := ho.1.1; omega, by have := ho.1.2; omega⟩))) (ea_cons (ix 3 rfl (x3 _ _ h0) rfl) ea_nil)) spv_l_rounded) fun H4 e4 => ?_
    have x4 := x3.trans e4
    obtain ⟨dx, q0, hi⟩ := hp.ins
    refine s_ret (ev_is (ev_op (ev_ex Kd.ontop (ev_mth (ev_var rfl) (x4 _ _ hi) (fl_until _) (ea_cons (ev_var rfl) ea_nil) (spv_until (r := .ontop pp y r2) hd (hp.mono x4) ho (hb.mono x4)))) (ev_var rfl) (rv_eq rfl)) ?_) fun H5 e5 => q _ (x4.trans e5)
    exact congrArg V.bl (decide_eq_true (show V.int ((Rl.ontop pp y r2).of bs) = V.int (rnd (r2.of bs * pp) y) from rfl))
end
end Co

/-! the law -/
namespace Co
open PySem PySem.Spec PyProof.Rows L2 Evl Km
local macro_rules | `(tactic| walk_at "ev") => `(tactic| (repeat' (first
  | ((with_reducible apply ev_var); rfl) | ((with_reducible apply rv_eq); rfl) | ((with_reducible apply rv_ne); rfl)
  | with_reducible exact ev_c | with_reducible exact rv_I0 | with_reducible exact ea_nil | with_reducible exact et_yes | with_reducible exact eo_none | with_reducible exact rc_intB | with_reducible exact rc_min | with_reducible exact rc_max | with_reducible exact rv_inS
  | walk_at "sp"
  | with_reducible apply rv_I | with_reducible apply ev_op | with_reducible apply ev_un | with_reducible apply ev_callx | with_reducible apply ea_cons | with_reducible apply et_test | with_reducible apply et_B | with_reducible apply et_not | with_reducible apply ev_notV | with_reducible apply ev_cb | with_reducible apply eo_some | with_reducible apply ev_chain | with_reducible apply ev_andV | with_reducible apply ev_orV | with_reducible apply et_and | with_reducible apply et_or
  | with_reducible intro _)))
theorem cut_takeV (bs : List Int) (k : Nat) : cutV (bs.map V.int) none (some (k : Int)) = (bs.take k).map V.int := by
  unfold cutV
  rw [HT.sIx_none, HT.sIx_nat, List.drop_zero, Nat.sub_zero, List.map_take]
  exact List.take_eq_take_min.symm
theorem BasesAt.take {H H' : Hp} {a c : Addr} {bs : List Int} (h : BasesAt H a bs) (k : Nat) (hc : H' c = some (.lst ((bs.take k).map V.int))) : BasesAt H' c (bs.take k) :=
  ⟨hc, fun b hb => h.nn b (List.mem_of_mem_take hb), by rw [List.length_take]; have := h.len; omega⟩
def kname : Rl → Str
  | .flat _ => "flat"
  | .share _ _ => "share"
  | .capped _ _ _ => "capped"
  | .least _ _ _ => "least"
  | .bands _ _ => "bands"
  | .ontop _ _ _ => "ontop"
theorem TupAt.head {H : Hp} {n : Str} : ∀ {r : Rl} {t : Addr}, TupAt H n r t → ∃ xs, H t = some (.tup (.str (kname r) :: xs))
  | .flat _, _, h => ⟨_, h⟩
  | .share _ _, _, h => ⟨_, h⟩
  | .capped _ _ _, _, h => ⟨_, h⟩
  | .least _ _ _, _, h => ⟨_, h⟩
  | .bands _ _, _, ⟨_, h, _⟩ => ⟨_, h⟩
  | .ontop _ _ _, _, ⟨_, h, _⟩ => ⟨_, h⟩
theorem take_last (bs : List Int) (i : Nat) (h : i < bs.length) : (bs.take (i + 1)).dropLast = bs.take i := by
  rw [List.dropLast_eq_take, List.length_take, Nat.min_eq_left (by omega), List.take_take, Nat.add_sub_cancel, Nat.min_eq_left (by omega)]
section
variable {P : Program} {w : World} {K : PySem.W.Frag} {mg : Str → Option Value} {base : Heap} {aW aN : Addr} {σ : L2.St} {H : Hp} {cA : Kd → Addr} {cR cS fRi fSi : Addr}
theorem q_asgCall {sp : Sp} {vs : List V} {E : XK} {tg : TA} {D : Ends} {tz : TS} {i : Nat} (h : EvA tg σ H vs) (k : ∀ H1, Ex H H1 → sp vs H1 (fun v H2 => tz D (σ.set i (some v)) H2) E) : tSeq (tAsg (tCall sp [] E tg) (gName i)) tz D σ H :=
  h H (Ex.refl H) _ fun H1 e => by
    rw [List.append_nil]
    exact k H1 e
/-- o.m(bases[:k]) -/
theorem ev_mthSl {sp : Kd → Sp} {m : Str} {j k : Nat} {p dx l : Addr} {kd : Kd} {fs : List (Str × V)} {th : TO} {bs : List Int} {v : V} (hj : σ[j]? = some (some (.ref p))) (hi : H p = some (.ins (cA kd) dx fs)) (hl : fs.lookup m = none) (h6 : σ[6]? = some (some (.ref l))) (hb : BasesAt H l bs) (hk : EvO th σ H (some (k : Int)))
    (hs : ∀ c H1, Ex H H1 → BasesAt H1 c (bs.take k) → SpV (sp kd) [.ref p, .ref c] H1 v) : Ev (fun σ H Q => ∃ kd, tMeth (cA kd) m (sp kd) [] E0 (tVar j) (tCons (tSl (rSlL K) (tVar 6) tNoPart th) tNil) σ H Q) σ H v := fun H1 e Q q =>
  ⟨kd, .ref p, hj, p, dx, fs, rfl, e _ _ hi, hl, el_sl (ev_var h6) eo_none hk (sq_of hb.at_) H1 e _ fun c H2 hc e2 h2 => by
    rw [cut_takeV] at h2
    exact hs c H2 (e.trans e2) (hb.take k h2) H2 (Ex.refl H2) Q (fun H3 e3 => q H3 (e2.trans e3)) E0⟩
/-- o.m(bases) -/
theorem ev_mthV {sp : Kd → Sp} {m : Str} {j i : Nat} {p dx l : Addr} {kd : Kd} {fs : List (Str × V)} {v : V} (hj : σ[j]? = some (some (.ref p))) (hi : H p = some (.ins (cA kd) dx fs)) (hl : fs.lookup m = none) (h6 : σ[i]? = some (some (.ref l)))
    (hs : SpV (sp kd) [.ref p, .ref l] H v) : Ev (fun σ H Q => ∃ kd, tMeth (cA kd) m (sp kd) [] E0 (tVar j) (tCons (tVar i) tNil) σ H Q) σ H v :=
  ev_ex kd (ev_mth (ev_var hj) hi hl (ea_cons (ev_var h6) ea_nil) hs)
/-- o.m([]) -/
theorem ev_mthNil {sp : Kd → Sp} {m : Str} {j : Nat} {p dx : Addr} {kd : Kd} {fs : List (Str × V)} {v : V} (hj : σ[j]? = some (some (.ref p))) (hi : H p = some (.ins (cA kd) dx fs)) (hl : fs.lookup m = none)
    (hs : ∀ c H1, Ex H H1 → BasesAt H1 c [] → SpV (sp kd) [.ref p, .ref c] H1 v) : Ev (fun σ H Q => ∃ kd, tMeth (cA kd) m (sp kd) [] E0 (tVar j) (tCons (tLst tNil) tNil) σ H Q) σ H v := fun H1 e Q q =>
  ⟨kd, .ref p, hj, p, dx, fs, rfl, e _ _ hi, hl, el_lst ea_nil (by show 0 ≤ 100000; decide) H1 e _ fun c H2 hc e2 h2 =>
    hs c H2 (e.trans e2) ⟨h2, fun b hb => (by cases hb), Nat.zero_le _⟩ H2 (Ex.refl H2) Q (fun H3 e3 => q H3 (e2.trans e3)) E0⟩
abbrev s_law : Stmt := top 62
theorem sc_law : FnScope ["_law_script", "_law_names_here", "_law_rule_here", "_law_made_here", "_law_cell", "_law_other", "_law_bases_here", "_law_due", "_law_k", "_law_found", "_law_until_here", "_law_others"] ["_law_script"] (defScope s_law) := ⟨rfl, rfl, rfl, by decide +kernel, rfl, by decide +kernel, by decide +kernel⟩
def spLaw (K : PySem.W.Frag) : Sp := fun vs H Q _ => ∃ (a : Addr) (ns : List Int), vs = [.ref a] ∧ SqL K H a (ns.map V.int) ∧ ns.length ≤ 63 ∧ ∀ H', Q (.bl true) H'
theorem fn_law {f : Addr} {fd : FuncData} (F : Fun K "law" "law" s_law f fd) (B : Blt mg) (T : Ct K mg cA cR cS fRi fSi) (m_until : Um P w K mg base cA 10 "until" (sp_until cA 3)) (m_of_month : Um P w K mg base cA 11 "of_month" (sp_of_month cA 3))
    (c_l_cell_at : Cal P w K mg base 1 "_law_cell_at" (sp_l_cell_at K)) (c_l_names : Cal P w K mg base 2 "_law_names" sp_l_names) (c_l_rule : Cal P w K mg base 5 "_law_rule" sp_l_rule) (c_l_made : Cal P w K mg base 10 "_law_made" (sp_l_made cA 4))
    (c_l_plain : Cal P w K mg base 4 "_law_plain" sp_l_plain) (c_l_bases : Cal P w K mg base 3 "_law_bases" sp_l_bases) (c_l_mixed : Cal P w K mg base 1 "_law_mixed" sp_l_mixed) (c_l_whole : Cal P w K mg base 1 "_law_whole" sp_l_whole)
    (c_l_on_top : Cal P w K mg base 11 "_law_on_top" (sp_l_on_top cA)) (c_l_turned : Cal P w K mg base 2 "_law_turned" sp_l_turned) : FnOk P w K mg base CX0 12 f fd ["_law_script"] (spLaw K) := by
  refine F.ok sc_law (fun vs H Q E h => ?_) (fun cdv A outer s H vs Q E hr h => ?_)
  · obtain ⟨a, ns, rfl, _⟩ := h; rfl
  · obtain ⟨a, ns, rfl, hS, hlen, q⟩ := h
    refine ⟨_, (pss_cons (ps_set (i := 1) sc_law.nd rfl (Or.inl rfl) (pe_c c_l_names hr (by omega) rfl (pa_cons (pe_c c_l_cell_at hr (by omega) rfl (pa_cons (pv 0) (pa_cons pe_int pa_nil))) (pa_cons pe_int pa_nil))))
 (pss_cons (ps_set (i := 2) sc_law.nd rfl (Or.inl rfl) (pe_c c_l_rule hr (by omega) rfl (pa_cons (pe_c c_l_cell_at hr (by omega) rfl (pa_cons (pv 0) (pa_cons pe_int pa_nil))) (pa_cons (pe_ix ix_list (pv 1) pe_int (fun _ _ => rfl)) pa_nil))))
 (pss_cons (ps_set (i := 3) sc_law.nd rfl (Or.inl rfl) (pe_c c_l_made hr (by omega) rfl (pa_cons (pv 2) pa_nil)))
 (pss_cons (ps_set (i := 4) sc_law.nd rfl (Or.inl rfl) (pe_c c_l_cell_at hr (by omega) rfl (pa_cons (pv 0) (pa_cons pe_int pa_nil))))
 (pss_cons (ps_set (i := 5) sc_law.nd rfl (Or.inl rfl) (pe_c c_l_made hr (by omega) rfl (pa_cons (pe_c c_l_plain hr (by omega) rfl (pa_cons (pv 4) (pa_cons (pe_ix ix_list (pv 1) pe_int (fun _ _ => rfl)) (pa_cons (pe_op op_mod (pv 4) pe_int) pa_nil)))) pa_nil)))
 (pss_cons (ps_set (i := 6) sc_law.nd rfl (Or.inl rfl) (pe_c c_l_bases hr (by omega) rfl (pa_cons (pe_c c_l_cell_at hr (by omega) rfl (pa_cons (pv 0) (pa_cons pe_int pa_nil))) (pa_cons pe_int pa_nil))))
 (pss_cons (ps_set (i := 7) sc_law.nd rfl (Or.inl rfl) pe_int)
 (pss_cons (ps_for PassesOwn.never rfl (pi_range1 rfl B.range_ (pa_cons pe_int pa_nil)) (pg_name (i := 8) sc_law.nd rfl (Or.inl rfl))
 (pss_cons (ps_set (i := 9) sc_law.nd rfl (Or.inl rfl) (pe_ex fun kd => pe_um T m_of_month hr (by omega) kd (pv 3) (pa_cons (pe_slice sl_list (pv 6) po_none (po_some (pe_op op_add (pv 8) pe_int))) pa_nil)))
 (pss_cons (ps_expr (pe_ex fun kd => pe_um T m_until hr (by omega) kd (pv 5) (pa_cons (pe_slice sl_list (pv 6) po_none (po_some (pe_op op_mod (pe_c c_l_mixed hr (by omega) rfl (pa_cons (pe_c c_l_cell_at hr (by omega) rfl (pa_cons (pv 0) (pa_cons pe_int pa_nil))) (pa_cons (pv 8) pa_nil))) pe_int))) pa_nil)))
 (pss_cons (ps_if (PW.pt (pw_or (pt_not (pt_val (pe_c c_l_whole hr (by omega) rfl (pa_cons (pv 9) pa_nil)))) (pw_or1 (pt_cmpR op_lt (pv 9) pe_int (nomark _)))))
 (pss_one (ps_ret pe_bl)) pss_nil)
 (pss_cons (ps_set (i := 7) sc_law.nd rfl (Or.inl rfl) (pe_op op_add (pv 7) (pv 9)))
 (pss_cons (ps_set (i := 10) sc_law.nd rfl (Or.inl rfl) (pe_ex fun kd => pe_um T m_until hr (by omega) kd (pv 3) (pa_cons (pe_slice sl_list (pv 6) po_none (po_some (pe_op op_add (pv 8) pe_int))) pa_nil)))
 (pss_cons (ps_if (PW.pt (pw_or (pt_not (pt_val (pe_c c_l_whole hr (by omega) rfl (pa_cons (pv 10) pa_nil)))) (pw_or1 (pt_cmpR op_ne (pv 10) (pv 7) (nomark _)))))
 (pss_one (ps_ret pe_bl)) pss_nil)
 (pss_one (ps_if (PW.pt (pw_and (pt_cmpR op_eq (pe_ix ix_tup (pv 2) pe_int (fun _ _ => rfl)) pe_str (nomark _)) (pw_and1 (pt_not (pt_val (pe_c c_l_on_top hr (by omega) rfl (pa_cons (pv 3) (pa_cons (pv 2) (pa_cons (pe_slice sl_list (pv 6) po_none (po_some (pe_op op_add (pv 8) pe_int))) pa_nil)))))))))
 (pss_one (ps_ret pe_bl)) pss_nil)))))))))
 (pss_cons (ps_set (i := 11) sc_law.nd rfl (Or.inl rfl) (pe_c c_l_turned hr (by omega) rfl (pa_cons (pv 6) (pa_cons (pe_c c_l_cell_at hr (by omega) rfl (pa_cons (pv 0) (pa_cons pe_int pa_nil))) pa_nil))))
 (pss_cons (ps_if (PW.pt (pw_or (pt_cmpR op_ne (pe_ex fun kd => pe_um T m_until hr (by omega) kd (pv 3) (pa_cons (pv 11) pa_nil)) (pv 7) (nomark _)) (pw_or1 (pt_cmpR op_ne (pe_ex fun kd => pe_um T m_until hr (by omega) kd (pv 3) (pa_cons (pv 6) pa_nil)) (pv 7) (nomark _)))))
 (pss_one (ps_ret pe_bl)) pss_nil)
 (pss_one (ps_ret (pe_cmpR op_eq (pe_ex fun kd => pe_um T m_until hr (by omega) kd (pv 3) (pa_cons (pe_lst pa_nil) pa_nil)) pe_int (nomark _)))))))))))))), ?_⟩
    -- names, rule, made
    refine q_asgCall (vs := [.int (ns.getD 0 0), .int 2]) (ea_cons (ev_callx (ea_cons (ev_var rfl) (ea_cons ev_c ea_nil)) (spv_l_cell_at (k := 0) hS)) (ea_cons ev_c ea_nil)) fun H1 e1 => ⟨_, rfl, fun pn n0 n1 H2 e2 hpn ok0 ok1 => ?_⟩
    have x2 := e1.trans e2
    refine q_asgCall (vs := [.int (ns.getD 1 0), .str n0]) (ea_cons (ev_callx (ea_cons (ev_var rfl) (ea_cons ev_c ea_nil)) (spv_l_cell_at (k := 1) (ex_l x2 hS))) (ea_cons (ev_op (ev_var rfl) ev_c (rv_ixL (sq_of hpn) (atI_nat (j := 0) rfl))) ea_nil)) fun H3 e3 => ⟨_, n0, rfl, fun t r H4 e4 ht ho hd => ?_⟩
    have x4 := (x2.trans e3).trans e4
    refine q_asgCall (vs := [.ref t]) (ea_cons (ev_var rfl) ea_nil) fun H5 e5 => ⟨t, n0, r, rfl, ok0, ht.mono e5, ho, by omega, Nat.le_refl 4, fun p H6 e6 hp => ?_⟩
    have x6 := (x4.trans e5).trans e6
    refine q_asg (v := .int (ns.getD 2 0)) (ev_callx (ea_cons (ev_var rfl) (ea_cons ev_c ea_nil)) (spv_l_cell_at (k := 2) (ex_l x6 hS))) fun H7 e7 => ?_
    -- other
    have y7 := (e3.trans e4).trans ((e5.trans e6).trans e7)
    refine ⟨_, rfl, _, rfl, pn, _, 1, .str n1, rfl, rfl, sq_of (y7 _ _ hpn), atI_nat (j := 1) rfl, _, rfl, _, _, rfl, rfl, (show (0 : Int) < 5 by decide), _, _, n1, rfl, fun t2 r2 H8 e8 ht2 ho2 hd2 => ?_⟩
    refine ⟨t2, n1, r2, rfl, ok1, ht2, ho2, by omega, Nat.le_refl 4, fun po H9 e9 hpo => ?_⟩
    dsimp only
    have x9 := ((x6.trans e7).trans e8).trans e9
    -- bases
    refine q_asgCall (vs := [.int (ns.getD 3 0), .int ((12 : Nat) : Int)]) (ea_cons (ev_callx (ea_cons (ev_var rfl) (ea_cons ev_c ea_nil)) (spv_l_cell_at (k := 3) (ex_l x9 hS))) (ea_cons ev_c ea_nil)) fun H10 e10 => ⟨_, 12, rfl, by decide, fun l bs HB e11 hb hbl => ?_⟩
    have xB := (x9.trans e10).trans e11
    have hSB : SqL K HB a (ns.map V.int) := ex_l xB hS
    have hpB : RuleAt cA HB n0 r p := hp.mono ((((e7.trans e8).trans e9).trans e10).trans e11)
    have hpoB : RuleAt cA HB n1 r2 po := hpo.mono (e10.trans e11)
    have htB : TupAt HB n0 r t := ht.mono ((((((e5.trans e6).trans e7).trans e8).trans e9).trans e10).trans e11)
    obtain ⟨dx, q0, hi⟩ := hpB.ins
    obtain ⟨dxo, qo, hio⟩ := hpoB.ins
    have hd2' : r2.deep ≤ 3 := by omega
    -- the year
    refine q_asg (v := .int 0) ev_c fun H11 e12 => ?_
    refine q_forR1 (n := 12) (ea_cons ev_c ea_nil) ⟨by decide, by decide⟩ (fun i σ' H' => ∃ (v8 v9 v10 : Option V), σ' = [some (.ref a), some (.ref pn), some (.ref t), some (.ref p), some (.int (ns.getD 2 0)), some (.ref po), some (.ref l), some (.int (r.of (bs.take i))), v8, v9, v10, none] ∧ Ex HB H')
      (fun H12 e13 => ⟨none, none, none, by rw [List.take_zero, of_nil r ho]; rfl, e12.trans e13⟩) ?_ ?_
    · rintro i σ' H' hi12 ⟨v8, v9, v10, rfl, e0⟩
      have hil : i < bs.length := by omega
      have hmono := of_take r ho hb.nn i
      have hk : ∀ {σ2 : L2.St} {H2 : Hp}, σ2[8]? = some (some (.int (i : Int))) → EvO (tPart (tOp (rI0 fun i j => .int (i + j)) (tVar 8) (tC (.int 1)))) σ2 H2 (some ((i + 1 : Nat) : Int)) := fun h => eo_some (ev_is (ev_op (ev_var h) ev_c rv_I0) (by rw [Int.natCast_add]; rfl))
      refine q_asg (v := .int (r.of (bs.take (i + 1)) - r.of (bs.take i))) (ev_mthSl (k := i + 1) rfl (e0 _ _ hi) (fl_of_month r) rfl (hb.mono e0) (hk rfl) fun c H1 e1 hc => ?_) fun H1 e1 => ?_
      · have z := spv_of_month (d := 3) (r := r) hd (hpB.mono (e0.trans e1)) ho (fun z => by
          have := congrArg List.length z
          rw [List.length_take, Nat.min_eq_left (by omega)] at this
          cases this) hc
        rw [take_last bs i hil] at z
        exact z
      have z1 := e0.trans e1
      have m0 := mixed_lo (ns.getD 4 0) (i : Int)
      obtain ⟨k4, hk4⟩ : ∃ k : Nat, mixed (ns.getD 4 0) (i : Int) % 13 = (k : Int) := ⟨_, (Int.toNat_of_nonneg (by omega)).symm⟩
      refine q_drop (v := .int (r2.of (bs.take k4))) (ev_mthSl (k := k4) rfl (z1 _ _ hio) (fl_until r2) rfl (hb.mono z1) (eo_some (ev_is (ev_op (ev_callx (ea_cons (ev_callx (ea_cons (ev_var rfl) (ea_cons ev_c ea_nil)) (spv_l_cell_at (k := 4) (ex_l z1 hSB))) (ea_cons (ev_var rfl) ea_nil)) spv_l_mixed) ev_c (rv_I (show (0 : Int) < 13 by decide))) (by rw [hk4]))) fun c H3 e3 hc => spv_until (d := 3) hd2' (hpoB.mono (z1.trans e3)) ho2 hc) fun H2 e2 => ?_
      have z2 := z1.trans e2
      refine q_no (et_is (et_or (a := false) (et_not (a := true) (et_B (ev_callx (ea_cons (ev_var rfl) ea_nil) spv_l_whole))) fun _ => et_test (ev_op (ev_var rfl) ev_c rv_I0)) ?_) fun H3 e3 => ?_
      · rw [decide_eq_false (by omega)]; rfl
      refine q_asg (v := .int (r.of (bs.take (i + 1)))) (ev_is (ev_op (ev_var rfl) (ev_var rfl) rv_I0) (congrArg V.int (by omega))) fun H4 e4 => ?_
      have z4 := (z2.trans e3).trans e4
      refine q_asg (v := .int (r.of (bs.take (i + 1)))) (ev_mthSl (k := i + 1) rfl (z4 _ _ hi) (fl_until r) rfl (hb.mono z4) (hk rfl) fun c H5 e5 hc => spv_until (d := 3) hd (hpB.mono (z4.trans e5)) ho hc) fun H5 e5 => ?_
      have z5 := z4.trans e5
      refine q_no (et_is (et_or (a := false) (et_not (a := true) (et_B (ev_callx (ea_cons (ev_var rfl) ea_nil) spv_l_whole))) fun _ => et_test (ev_op (ev_var rfl) (ev_var rfl) (rv_ne rfl))) ?_) fun H6 e6 => ?_
      · rw [decide_eq_true rfl]; rfl
      have z6 := z5.trans e6
      obtain ⟨xs, hth⟩ := (htB.mono z6).head
      refine s_no ?_ fun H7 e7 => ⟨_, _, _, rfl, z6.trans e7⟩
      have t0 : Ev (tOp rEq (tOp (rIxT K) (tVar 2) (tC (.int 0))) (tC (.str "ontop"))) [some (.ref a), some (.ref pn), some (.ref t), some (.ref p), some (.int (ns.getD 2 0)), some (.ref po), some (.ref l), some (.int (r.of (bs.take (i + 1)))), some (.int (i : Int)), some (.int (r.of (bs.take (i + 1)) - r.of (bs.take i))), some (.int (r.of (bs.take (i + 1)))), none] H6 (.bl (decide (V.str (kname r) = V.str "ontop"))) :=
        ev_op (ev_op (ev_var rfl) ev_c (rv_ixT (st_of hth) (atI_nat (j := 0) rfl))) ev_c (rv_eq rfl)
      cases r with
      | ontop pp y r3 =>
        refine et_is (et_and (a := true) (et_test (ev_is t0 (by show V.bl (decide (V.str "ontop" = V.str "ontop")) = V.bl true; decide +kernel))) fun _ => et_not (a := true) (et_B ?_)) (by rfl)
        intro H7 e7 Q7 q7
        have z7 := z6.trans e7
        refine ⟨_, rfl, _, rfl, ?_⟩
        refine el_sl (ev_var rfl) eo_none (hk rfl) (sq_of (z7 _ _ hb.at_)) H7 (Ex.refl H7) _ fun c H8 hc e8 h8 => ?_
        rw [cut_takeV] at h8
        have z8 := z7.trans e8
        exact ⟨p, t, c, n0, pp, y, r3, bs.take (i + 1), rfl, ok0, hpB.mono z8, htB.mono z8, ho, hd, hb.take (i + 1) h8, fun H9 e9 => q7 H9 (e8.trans e9)⟩
      | flat _ => exact et_is (et_and (a := false) (et_test (ev_is t0 (by show V.bl (decide (V.str "flat" = V.str "ontop")) = V.bl false; decide +kernel))) fun z => nomatch z) (b := false && false) (by rfl)
      | share _ _ => exact et_is (et_and (a := false) (et_test (ev_is t0 (by show V.bl (decide (V.str "share" = V.str "ontop")) = V.bl false; decide +kernel))) fun z => nomatch z) (b := false && false) (by rfl)
      | capped _ _ _ => exact et_is (et_and (a := false) (et_test (ev_is t0 (by show V.bl (decide (V.str "capped" = V.str "ontop")) = V.bl false; decide +kernel))) fun z => nomatch z) (b := false && false) (by rfl)
      | least _ _ _ => exact et_is (et_and (a := false) (et_test (ev_is t0 (by show V.bl (decide (V.str "least" = V.str "ontop")) = V.bl false; decide +kernel))) fun z => nomatch z) (b := false && false) (by rfl)
      | bands _ _ => exact et_is (et_and (a := false) (et_test (ev_is t0 (by show V.bl (decide (V.str "bands" = V.str "ontop")) = V.bl false; decide +kernel))) fun z => nomatch z) (b := false && false) (by rfl)
    · rintro σ' H' ⟨v8, v9, v10, rfl, e0⟩
      have ht12 : bs.take (12 : Int).toNat = bs := List.take_of_length_le (by rw [hbl]; decide)
      rw [ht12]
      refine q_asgCall (vs := [.ref l, .int (ns.getD 5 0)]) (ea_cons (ev_var rfl) (ea_cons (ev_callx (ea_cons (ev_var rfl) (ea_cons ev_c ea_nil)) (spv_l_cell_at (k := 5) (ex_l e0 hSB))) ea_nil)) fun H1 e1 => ⟨l, bs, _, rfl, hb.mono (e0.trans e1), fun lo bs' H2 e2 hbo hperm => ?_⟩
      have z2 := (e0.trans e1).trans e2
      refine q_no (et_is (et_or (a := false) (et_is (et_test (ev_op (ev_mthV rfl (z2 _ _ hi) (fl_until r) rfl (spv_until (d := 3) hd (hpB.mono z2) ho hbo)) (ev_var rfl) (rv_ne rfl))) ?_) fun _ => et_test (ev_op (ev_mthV rfl (z2 _ _ hi) (fl_until r) rfl (spv_until (d := 3) hd (hpB.mono z2) ho (hb.mono z2))) (ev_var rfl) (rv_ne rfl))) ?_) fun H3 e3 => ?_
      · rw [decide_eq_true (congrArg V.int (of_perm r hperm))]; rfl
      · rw [decide_eq_true rfl]; rfl
      have z3 := z2.trans e3
      refine s_ret (ev_is (ev_op (ev_mthNil rfl (z3 _ _ hi) (fl_until r) fun c H4 e4 hc => spv_until (d := 3) hd (hpB.mono (z3.trans e4)) ho hc) ev_c (rv_eq rfl)) ?_) fun H4 e4 => q H4
      rw [of_nil r ho, decide_eq_true rfl]
end
end Co

/-! what the top leaves, gathered; the law's promise from it -/
namespace Co
open PySem PySem.Spec PyProof.Rows L2 Evl Km
/-- the classes' addresses by kind -/
def cAof (aF aS aC aL aB aO : Addr) : Kd → Addr
  | .flat => aF
  | .share => aS
  | .capped => aC
  | .least => aL
  | .bands => aB
  | .ontop => aO
structure Tops (K : PySem.W.Frag) (mg : Str → Option Value) (cA : Kd → Addr) (cR fRi fOm fFi fFu fSi fSc fSu fCi fCc fLi fLu fOi fOu fBi fBu : Addr) : Prop where
  T : Ct K mg cA cR (cA .share) fRi fSi
  mF : Mkd K mg "Flat" (cA .flat) fFi
  mS : Mkd K mg "Share" (cA .share) fSi
  mC : Mkd K mg "Capped" (cA .capped) fCi
  mL : Mkd K mg "Least" (cA .least) fLi
  mB : Mkd K mg "Bands" (cA .bands) fBi
  mO : Mkd K mg "OnTop" (cA .ontop) fOi
  uF : Meth K (cA .flat) "until" fFu
  uS : Meth K (cA .share) "until" fSu
  uC : Meth K (cA .capped) "until" fSu
  uL : Meth K (cA .least) "until" fLu
  uB : Meth K (cA .bands) "until" fBu
  uO : Meth K (cA .ontop) "until" fOu
  om : ∀ k, Meth K (cA k) "of_month" fOm
  cS : Meth K (cA .share) "counted" fSc
  cC : Meth K (cA .capped) "counted" fCc
  cL : Meth K (cA .least) "counted" fSc
  d_Rule_init : Dat K "__init__" "Rule.__init__" s_Rule_init fRi ["self", "name"]
  d_Rule_of_month : Dat K "of_month" "Rule.of_month" s_Rule_of_month fOm ["self", "bases"]
  d_Flat_init : Dat K "__init__" "Flat.__init__" s_Flat_init fFi ["self", "name", "amount"]
  d_Flat_until : Dat K "until" "Flat.until" s_Flat_until fFu ["self", "bases"]
  d_Share_init : Dat K "__init__" "Share.__init__" s_Share_init fSi ["self", "name", "parts", "way"]
  d_Share_counted : Dat K "counted" "Share.counted" s_Share_counted fSc ["self", "total"]
  d_Share_until : Dat K "until" "Share.until" s_Share_until fSu ["self", "bases"]
  d_Capped_init : Dat K "__init__" "Capped.__init__" s_Capped_init fCi ["self", "name", "parts", "most", "way"]
  d_Capped_counted : Dat K "counted" "Capped.counted" s_Capped_counted fCc ["self", "total"]
  d_Least_init : Dat K "__init__" "Least.__init__" s_Least_init fLi ["self", "name", "parts", "least", "way"]
  d_Least_until : Dat K "until" "Least.until" s_Least_until fLu ["self", "bases"]
  d_OnTop_init : Dat K "__init__" "OnTop.__init__" s_OnTop_init fOi ["self", "name", "parts", "way", "rule"]
  d_OnTop_until : Dat K "until" "OnTop.until" s_OnTop_until fOu ["self", "bases"]
  d_Bands_init : Dat K "__init__" "Bands.__init__" s_Bands_init fBi ["self", "name", "rows", "way"]
  d_Bands_until : Dat K "until" "Bands.until" s_Bands_until fBu ["self", "bases"]
structure Defs (K : PySem.W.Frag) (mg : Str → Option Value) : Prop where
  is_whole : Def K mg "is_whole" s_is_whole ["thing"]
  is_among : Def K mg "is_among" s_is_among ["thing", "least", "most"]
  is_of : Def K mg "is_of" s_is_of ["thing", "signs"]
  is_name : Def K mg "is_name" s_is_name ["thing"]
  is_way : Def K mg "is_way" s_is_way ["thing"]
  need_amount : Def K mg "need_amount" s_need_amount ["thing"]
  rounded : Def K mg "rounded" s_rounded ["number", "way"]
  share_of : Def K mg "share_of" s_share_of ["amount", "parts", "way"]
  need_parts : Def K mg "need_parts" s_need_parts ["thing"]
  need_way : Def K mg "need_way" s_need_way ["thing"]
  need_rule_amount : Def K mg "need_rule_amount" s_need_rule_amount ["thing"]
  months_with : Def K mg "months_with" s_months_with ["bases"]
  deep_of : Def K mg "deep_of" s_deep_of ["rule"]
  is_band : Def K mg "is_band" s_is_band ["thing"]
  need_bands : Def K mg "need_bands" s_need_bands ["thing"]
  l_cell_at : Def K mg "_law_cell_at" s_l_cell_at ["_law_script", "_law_k"]
  l_mixed : Def K mg "_law_mixed" s_l_mixed ["_law_cell", "_law_k"]
  l_whole : Def K mg "_law_whole" s_l_whole ["_law_found"]
  l_amount : Def K mg "_law_amount" s_l_amount ["_law_cell", "_law_k"]
  l_bases : Def K mg "_law_bases" s_l_bases ["_law_cell", "_law_many"]
  l_names : Def K mg "_law_names" s_l_names ["_law_cell", "_law_many"]
  l_parts : Def K mg "_law_parts" s_l_parts ["_law_cell", "_law_k"]
  l_way : Def K mg "_law_way" s_l_way ["_law_cell", "_law_k"]
  l_pairs : Def K mg "_law_pairs" s_l_pairs ["_law_cell"]
  l_plain : Def K mg "_law_plain" s_l_plain ["_law_cell", "_law_name", "_law_kind"]
  l_rule : Def K mg "_law_rule" s_l_rule ["_law_cell", "_law_name"]
  l_rounded : Def K mg "_law_rounded" s_l_rounded ["_law_number", "_law_way_here"]
  l_made : Def K mg "_law_made" s_l_made ["_law_rule_here"]
  l_turned : Def K mg "_law_turned" s_l_turned ["_law_bases_here", "_law_cell"]
  l_on_top : Def K mg "_law_on_top" s_l_on_top ["_law_made_here", "_law_rule_here", "_law_bases_here"]
section
variable {P : Program} {w : World} {K : PySem.W.Frag} {mg : Str → Option Value} {base : Heap} {aW aN : Addr} {cA : Kd → Addr} {cR fRi fOm fFi fFu fSi fSc fSu fCi fCc fLi fLu fOi fOu fBi fBu : Addr}
theorem fat_none {x qual : Str} {st : Stmt} {f : Addr} {ps : List Str} {sp : Sp} (D : Dat K x qual st f ps) (h : ∀ vs H Q E, ¬ sp vs H Q E) {k : Nat} : Fat P w K mg base k f sp := by
  obtain ⟨fd, F, hb⟩ := D.ex
  exact ⟨fd, ps, ⟨fun vs H Q E z => absurd z (h vs H Q E), fun A outer s H args us vs Q E _ _ _ _ z => absurd z (h vs H Q E)⟩, F.kp, hb⟩
/-- a plain kind's rule is of no depth -/
theorem until_any {k : Nat} {f : Addr} {kd : Kd} (hk : kd ≠ .ontop) (F : Fat P w K mg base k f (sp_until cA 0 kd)) (d : Nat) : Fat P w K mg base k f (sp_until cA d kd) :=
  F.imp fun vs H Q E ⟨p, a, n, r, bs, h1, h2, h3, h⟩ => ⟨p, a, n, r, bs, h1, h2, by rw [deep_of_kd h2 hk]; exact Nat.le_refl 0, h⟩
theorem plain_until (Tp : Tops K mg cA cR fRi fOm fFi fFu fSi fSc fSu fCi fCc fLi fLu fOi fOu fBi fBu) (B : Blt mg) (c_share_of : Cal P w K mg base 4 "share_of" sp_share_of) (c_rounded : Cal P w K mg base 3 "rounded" sp_rounded) (c_months_with : Cal P w K mg base 1 "months_with" sp_months_with) (kd : Kd) (hk : kd ≠ .ontop) :
    ∃ f, Meth K (cA kd) "until" f ∧ Fat P w K mg base 5 f (sp_until cA 0 kd) := by
  have fS : ∀ k, k ≠ .capped → Fat P w K mg base 1 fSc (sp_counted cA k) := fun k h => fat_Share_counted Tp.d_Share_counted h
  have fC : Fat P w K mg base 1 fCc (sp_counted cA .capped) := fat_Capped_counted Tp.d_Capped_counted B Tp.T
  cases kd with
  | flat => exact ⟨_, Tp.uF, (fat_Flat_until Tp.d_Flat_until Tp.T c_months_with).mono (show 2 ≤ 5 by omega)⟩
  | share => exact ⟨_, Tp.uS, fat_Share_until (.inl rfl) Tp.d_Share_until B Tp.T Tp.cS (fS .share (fun z => Kd.noConfusion z)) c_share_of⟩
  | capped => exact ⟨_, Tp.uC, fat_Share_until (.inr rfl) Tp.d_Share_until B Tp.T Tp.cC fC c_share_of⟩
  | least => exact ⟨_, Tp.uL, fat_Least_until Tp.d_Least_until B Tp.T Tp.cL (fS .least (fun z => Kd.noConfusion z)) c_share_of c_months_with⟩
  | bands => exact ⟨_, Tp.uB, (fat_Bands_until Tp.d_Bands_until B Tp.T c_rounded).mono (show 4 ≤ 5 by omega)⟩
  | ontop => exact absurd rfl hk
theorem um_until (Tp : Tops K mg cA cR fRi fOm fFi fFu fSi fSc fSu fCi fCc fLi fLu fOi fOu fBi fBu) (B : Blt mg) (c_share_of : Cal P w K mg base 4 "share_of" sp_share_of) (c_rounded : Cal P w K mg base 3 "rounded" sp_rounded) (c_months_with : Cal P w K mg base 1 "months_with" sp_months_with) : ∀ d : Nat, Um P w K mg base cA (5 + d) "until" (sp_until cA d)
  | 0 => ⟨fun kd => by
    by_cases h : kd = .ontop
    · subst h
      refine ⟨_, Tp.uO, fat_none Tp.d_OnTop_until fun vs H Q E ⟨p, a, n, r, bs, _, h2, h3, _⟩ => ?_⟩
      cases r with
      | ontop _ _ _ => exact Nat.not_succ_le_zero _ h3
      | _ => cases h2
    · exact plain_until Tp B c_share_of c_rounded c_months_with kd h⟩
  | d + 1 => ⟨fun kd => by
    by_cases h : kd = .ontop
    · subst h
      exact ⟨_, Tp.uO, fat_OnTop_until (d := d) (k := 5 + d) (by omega) Tp.d_OnTop_until Tp.T (um_until Tp B c_share_of c_rounded c_months_with d) c_share_of⟩
    · obtain ⟨f, M, F⟩ := plain_until Tp B c_share_of c_rounded c_months_with kd h
      exact ⟨f, M, (until_any h F _).mono (by omega)⟩⟩
theorem Um.mono {j k : Nat} {m : Str} {sp : Kd → Sp} (u : Um P w K mg base cA j m sp) (h : j ≤ k) : Um P w K mg base cA k m sp := ⟨fun kd => let ⟨f, M, F⟩ := u.ex kd; ⟨f, M, F.mono h⟩⟩
/-- THE LAW's promise, from what the top leaves -/
theorem law_all {f : Addr} {fd : FuncData} (F : Fun K "law" "law" s_law f fd) (Tp : Tops K mg cA cR fRi fOm fFi fFu fSi fSc fSu fCi fCc fLi fLu fOi fOu fBi fBu) (D : Defs K mg) (B : Blt mg) (G : Gv K mg aW aN) : FnOk P w K mg base CX0 12 f fd ["_law_script"] (spLaw K) := by
  have c_is_whole := cal_is_whole (P := P) (w := w) (base := base) D.is_whole B
  have c_is_among := cal_is_among D.is_among c_is_whole
  have c_is_way := cal_is_way (P := P) (w := w) (base := base) D.is_way B G
  have c_need_amount := cal_need_amount D.need_amount c_is_whole
  have c_rounded := cal_rounded D.rounded B G c_is_way c_need_amount
  have c_share_of := cal_share_of D.share_of G c_need_amount c_is_among c_rounded
  have c_need_parts := cal_need_parts D.need_parts G c_is_among
  have c_need_rule_amount := cal_need_rule_amount D.need_rule_amount G c_is_among
  have c_need_way := cal_need_way D.need_way c_is_way
  have c_is_of := cal_is_of (P := P) (w := w) (base := base) D.is_of B G
  have c_is_name := cal_is_name D.is_name G c_is_of
  have c_months_with := cal_months_with (P := P) (w := w) (base := base) D.months_with B
  have c_deep_of := cal_deep_of (P := P) (w := w) (base := base) D.deep_of B Tp.T
  have c_is_band := cal_is_band D.is_band B G c_is_among
  have c_need_bands := cal_need_bands D.need_bands B G c_is_band
  have iR := fat_Rule_init Tp.d_Rule_init G Tp.T c_is_name
  have iS := fat_Share_init Tp.d_Share_init Tp.T iR c_need_parts c_need_way
  have M : Mks P w K mg base cA fFi fSi fCi fLi fBi fOi := ⟨Tp.mF, Tp.mS, Tp.mC, Tp.mL, Tp.mB, Tp.mO, fat_Flat_init Tp.d_Flat_init Tp.T iR c_need_rule_amount,
    iS.imp fun vs H Q E ⟨x, dx, k, n, a, y, h1, h2, h3, h4, h5⟩ => ⟨x, dx, k, n, a, y, h1, h2, h3, h4, h5⟩,
    fat_Capped_init Tp.d_Capped_init Tp.T iS c_need_rule_amount, fat_Least_init Tp.d_Least_init Tp.T iS c_need_rule_amount, fat_Bands_init Tp.d_Bands_init Tp.T iR c_need_bands c_need_way,
    fat_OnTop_init Tp.d_OnTop_init B G Tp.T iR c_need_parts c_need_way c_deep_of⟩
  have U := (um_until Tp B c_share_of c_rounded c_months_with 3).mono (show 5 + 3 ≤ 10 by omega)
  have UM : Um P w K mg base cA 11 "of_month" (sp_of_month cA 3) := ⟨fun kd => ⟨fOm, Tp.om kd, fat_Rule_of_month Tp.d_Rule_of_month Tp.T U kd⟩⟩
  have c_mixed := cal_l_mixed (P := P) (w := w) (base := base) D.l_mixed
  have c_amount := cal_l_amount D.l_amount c_mixed
  have c_parts := cal_l_parts D.l_parts c_mixed
  have c_way := cal_l_way D.l_way c_mixed
  have c_pairs := cal_l_pairs D.l_pairs B c_mixed c_parts
  have c_plain := cal_l_plain D.l_plain c_amount c_parts c_way c_pairs
  have c_made := cal_l_made D.l_made M 4
  have c_rnd := cal_l_rounded (P := P) (w := w) (base := base) D.l_rounded B
  exact fn_law F B Tp.T U UM (cal_l_cell_at D.l_cell_at B) (cal_l_names D.l_names B c_mixed) (cal_l_rule D.l_rule B c_mixed c_parts c_way c_plain) c_made c_plain (cal_l_bases D.l_bases B c_amount) c_mixed (cal_l_whole D.l_whole B)
    (cal_l_on_top (by omega) D.l_on_top Tp.T U c_made c_rnd) (cal_l_turned D.l_turned B c_mixed)
end

/-! ### single facts -/
section
variable {K : PySem.W.Frag} {h : Heap} {mg : Str → Option Value}
theorem held_int {x : Str} {i : Int} {t : Tok} (X : K.In h) (G : h.Ns mainGlobals mg) (a : PySem.W.nsIn K mainGlobals x = some (some (.int i t))) : Held mg x (.int i) := ⟨_, PySem.W.mg_of X G a, t, rfl⟩
theorem held_str {x z : Str} {t : Tok} (X : K.In h) (G : h.Ns mainGlobals mg) (a : PySem.W.nsIn K mainGlobals x = some (some (.str z t))) : Held mg x (.str z) := ⟨_, PySem.W.mg_of X G a, t, rfl⟩
theorem held_ref {x : Str} {p : Addr} (X : K.In h) (G : h.Ns mainGlobals mg) (a : PySem.W.nsIn K mainGlobals x = some (some (.ref p))) : Held mg x (.ref p) := ⟨_, PySem.W.mg_of X G a, rfl⟩
theorem sqt_four {p : Addr} {s1 s2 s3 s4 : Str} {t1 t2 t3 t4 : Tok} {dd : Option Addr} {n : Nat} {sl : Array (Option Value)} (l : K.lookup p = some ⟨.type "tuple", dd, .seq #[.str s1 t1, .str s2 t2, .str s3 t3, .str s4 t4] n, sl⟩) (H : Hp) : SqT K H p [.str s1, .str s2, .str s3, .str s4] :=
  .inr ⟨_, _, n, l, rfl, rfl, (by show 4 ≤ sizeLine; decide), .cons ⟨_, rfl⟩ (.cons ⟨_, rfl⟩ (.cons ⟨_, rfl⟩ (.cons ⟨_, rfl⟩ .nil)))⟩
theorem def_mk {x : Str} {st : Stmt} {ps : List Str} {f : Addr} {oc : Value} {od an : Option Addr} {osl : Array (Option Value)} {kV doc pm cdv ct : Value} (X : K.In h) (G : h.Ns mainGlobals mg) (a : PySem.W.nsIn K mainGlobals x = some (some (.ref f)))
    (l : K.lookup f = some ⟨oc, od, .func (PySem.W.fnOf x x (defArgs st) (defBody st) (defScope st) .none kV doc pm an cdv ct), osl⟩) (c : PySem.W.codeIn K cdv x = true) (k : PySem.W.keepIn K (.ref f) = true)
    (hb : ∀ (kV doc pm : Value) (an : Option Addr) (cdv ct : Value) (us : List Value), us.length = ps.length → bindArgs (PySem.W.fnOf x x (defArgs st) (defBody st) (defScope st) .none kV doc pm an cdv ct) ⟨us, []⟩ = pure (ps.zip us)) : Def K mg x st ps :=
  ⟨f, _, fun_mk l c k, PySem.W.mg_of X G a, (fun_mk l c k).binds hb⟩
theorem dat_mk {x qual : Str} {st : Stmt} {ps : List Str} {f : Addr} {oc : Value} {od an : Option Addr} {osl : Array (Option Value)} {kV doc pm cdv ct : Value}
    (l : K.lookup f = some ⟨oc, od, .func (PySem.W.fnOf x qual (defArgs st) (defBody st) (defScope st) .none kV doc pm an cdv ct), osl⟩) (c : PySem.W.codeIn K cdv qual = true) (k : PySem.W.keepIn K (.ref f) = true)
    (hb : ∀ (kV doc pm : Value) (an : Option Addr) (cdv ct : Value) (us : List Value), us.length = ps.length → bindArgs (PySem.W.fnOf x qual (defArgs st) (defBody st) (defScope st) .none kV doc pm an cdv ct) ⟨us, []⟩ = pure (ps.zip us)) : Dat K x qual st f ps :=
  ⟨_, fun_mk l c k, (fun_mk l c k).binds hb⟩
theorem kit_sub {t : Value} {C : Addr} {b : Bool} (h1 : PySem.W.isClsIn K C = true) (h2 : PySem.W.typeIn K (.ref C) = some (.type "type")) (h3 : PySem.W.subIn K t (.ref C) = some b) (he : b = false → (t == .ref C) = false) : PySem.W.kitOne K t (.ref C) = some b := by
  unfold PySem.W.kitOne
  cases e : (t == Value.ref C) with
  | true =>
    rw [if_pos rfl]
    cases b with
    | true => rfl
    | false => rw [he rfl] at e; cases e
  | false =>
    rw [if_neg Bool.false_ne_true]
    unfold PySem.W.kitCls
    have h1' : (PySem.W.clsIn K C).isSome = true := h1
    simp only [h1', h2, beq_self_eq_true, Bool.and_self, if_true]
    exact h3
/-- what is asked of one kind's class -/
structure One (K : PySem.W.Frag) (C cR cO : Addr) (b : Bool) : Prop where
  cl : Cls K C
  n_name : NoAttr K C "name"
  n_amount : NoAttr K C "amount"
  n_parts : NoAttr K C "parts"
  n_way : NoAttr K C "way"
  n_most : NoAttr K C "most"
  n_least : NoAttr K C "least"
  n_bands : NoAttr K C "bands"
  n_under : NoAttr K C "under"
  (ha : PySem.W.findIn K (.ref C) "__class__" = some (some (.builtin "object.__class__"))) (hm : PySem.W.mroIn K C (.type "object") = some true)
  isR : PySem.W.kitOne K (.ref C) (.ref cR) = some true
  isO : PySem.W.kitOne K (.ref C) (.ref cO) = some b
theorem one_mk {C cR cO : Addr} {b : Bool} (pg : PySem.W.plainGet K C Str.empty = true) (hd : PySem.W.hasDictIn K C = true) (po : PySem.W.plainOver K C = true) (sa : PySem.W.findIn K (.ref C) "__setattr__" = some (some (.builtin "object.__setattr__")))
    (n1 : PySem.W.findIn K (.ref C) "name" = some none) (n2 : PySem.W.findIn K (.ref C) "amount" = some none) (n3 : PySem.W.findIn K (.ref C) "parts" = some none) (n4 : PySem.W.findIn K (.ref C) "way" = some none) (n5 : PySem.W.findIn K (.ref C) "most" = some none) (n6 : PySem.W.findIn K (.ref C) "least" = some none) (n7 : PySem.W.findIn K (.ref C) "bands" = some none) (n8 : PySem.W.findIn K (.ref C) "under" = some none)
    (ha : PySem.W.findIn K (.ref C) "__class__" = some (some (.builtin "object.__class__"))) (hm : PySem.W.mroIn K C (.type "object") = some true)
    (r1 : PySem.W.isClsIn K cR = true) (r2 : PySem.W.typeIn K (.ref cR) = some (.type "type")) (r3 : PySem.W.subIn K (.ref C) (.ref cR) = some true) (o1 : PySem.W.isClsIn K cO = true) (o2 : PySem.W.typeIn K (.ref cO) = some (.type "type")) (o3 : PySem.W.subIn K (.ref C) (.ref cO) = some b) (ne : b = false → (Value.ref C == Value.ref cO) = false) : One K C cR cO b :=
  ⟨⟨pg, hd, po, sa⟩, n1, n2, n3, n4, n5, n6, n7, n8, ha, hm, kit_sub r1 r2 r3 (fun z => nomatch z), kit_sub o1 o2 o3 ne⟩
theorem cf_mk {x : Str} {C f : Addr} (X : K.In h) (G : h.Ns mainGlobals mg) (a : PySem.W.nsIn K mainGlobals x = some (some (.ref C))) (r : PySem.W.readsIn K C (.type "type") = true) (g : PySem.W.specialIn K (.ref C) "__getattribute__" = some (some (.builtin "type.__getattribute__"))) (v : PySem.W.findCls K (.ref C) (.type "type") "__init__" = some (.val (.ref f))) : CFn K mg x C "__init__" f :=
  ⟨PySem.W.mg_of X G a, _, ⟨r, g⟩, ⟨v, rfl⟩⟩
theorem ct_mk {aF aS aC aL aB aO cR fRi fSi : Addr} (hF : One K aF cR aO false) (hS : One K aS cR aO false) (hC : One K aC cR aO false) (hL : One K aL cR aO false) (hB : One K aB cR aO false) (hO : One K aO cR aO true)
    (hn : PySem.W.specialIn K (.builtin "object.__class__") "__get__" = some (some (.builtin "getset_descriptor.__get__"))) (htk : PySem.W.takesIn K (.builtin "object.__class__") = some true) (mR : mg "Rule" = some (.ref cR)) (mS : mg "Share" = some (.ref aS)) (mO : mg "OnTop" = some (.ref aO)) (cr : CFn K mg "Rule" cR "__init__" fRi) (cs : CFn K mg "Share" aS "__init__" fSi) : Ct K mg (cAof aF aS aC aL aB aO) cR (cAof aF aS aC aL aB aO .share) fRi fSi where
  cl := fun k => match k with | .flat => hF.cl | .share => hS.cl | .capped => hC.cl | .least => hL.cl | .bands => hB.cl | .ontop => hO.cl
  n_name := fun k => match k with | .flat => hF.n_name | .share => hS.n_name | .capped => hC.n_name | .least => hL.n_name | .bands => hB.n_name | .ontop => hO.n_name
  n_amount := fun k => match k with | .flat => hF.n_amount | .share => hS.n_amount | .capped => hC.n_amount | .least => hL.n_amount | .bands => hB.n_amount | .ontop => hO.n_amount
  n_parts := fun k => match k with | .flat => hF.n_parts | .share => hS.n_parts | .capped => hC.n_parts | .least => hL.n_parts | .bands => hB.n_parts | .ontop => hO.n_parts
  n_way := fun k => match k with | .flat => hF.n_way | .share => hS.n_way | .capped => hC.n_way | .least => hL.n_way | .bands => hB.n_way | .ontop => hO.n_way
  n_most := fun k => match k with | .flat => hF.n_most | .share => hS.n_most | .capped => hC.n_most | .least => hL.n_most | .bands => hB.n_most | .ontop => hO.n_most
  n_least := fun k => match k with | .flat => hF.n_least | .share => hS.n_least | .capped => hC.n_least | .least => hL.n_least | .bands => hB.n_least | .ontop => hO.n_least
  n_bands := fun k => match k with | .flat => hF.n_bands | .share => hS.n_bands | .capped => hC.n_bands | .least => hL.n_bands | .bands => hB.n_bands | .ontop => hO.n_bands
  n_under := fun k => match k with | .flat => hF.n_under | .share => hS.n_under | .capped => hC.n_under | .least => hL.n_under | .bands => hB.n_under | .ontop => hO.n_under
  ha := fun k => match k with | .flat => hF.ha | .share => hS.ha | .capped => hC.ha | .least => hL.ha | .bands => hB.ha | .ontop => hO.ha
  hn := hn
  htk := htk
  hm := fun k => match k with | .flat => hF.hm | .share => hS.hm | .capped => hC.hm | .least => hL.hm | .bands => hB.hm | .ontop => hO.hm
  isR := fun k => match k with | .flat => hF.isR | .share => hS.isR | .capped => hC.isR | .least => hL.isR | .bands => hB.isR | .ontop => hO.isR
  isO := fun k => match k with | .flat => hF.isO | .share => hS.isO | .capped => hC.isO | .least => hL.isO | .bands => hB.isO | .ontop => hO.isO
  mg_Rule := mR
  mg_Share := mS
  mg_OnTop := mO
  ci_Rule := cr
  ci_Share := cs
end
end Co

/-! the end's gathering theorems -/
namespace Co
open PySem PySem.Spec PyProof.Rows L2 Evl Km
section
variable {K : PySem.W.Frag} {h : Heap} {mg : Str → Option Value}
theorem gv_mk {aW aN : Addr} {t_letters t_signs t_whole t_mpc t_mpr t_mamt t_mdeep t_mbands : Tok} {s1 s2 s3 s4 u1 u2 u3 u4 : Tok} {dW dN : Option Addr} {nW nN : Nat} {slW slN : Array (Option Value)} (X : K.In h) (G : h.Ns mainGlobals mg)
    (g_letters : PySem.W.nsIn K mainGlobals "LETTERS" = some (some (.str LET t_letters)))
    (g_signs : PySem.W.nsIn K mainGlobals "MOST_SIGNS" = some (some (.int 8 t_signs)))
    (g_whole : PySem.W.nsIn K mainGlobals "WHOLE" = some (some (.int 10000 t_whole)))
    (g_mpc : PySem.W.nsIn K mainGlobals "MOST_PARTS_coins" = some (some (.int 20000 t_mpc)))
    (g_mpr : PySem.W.nsIn K mainGlobals "MOST_PARTS_rules" = some (some (.int 20000 t_mpr)))
    (g_mamt : PySem.W.nsIn K mainGlobals "MOST_AMOUNT" = some (some (.int 1000000000000 t_mamt)))
    (g_mdeep : PySem.W.nsIn K mainGlobals "MOST_DEEP" = some (some (.int 3 t_mdeep)))
    (g_mbands : PySem.W.nsIn K mainGlobals "MOST_BANDS" = some (some (.int 12 t_mbands)))
    (gW : PySem.W.nsIn K mainGlobals "WAYS" = some (some (.ref aW))) (gN : PySem.W.nsIn K mainGlobals "NO_NAMES" = some (some (.ref aN)))
    (lW : K.lookup aW = some ⟨.type "tuple", dW, .seq #[.str "down" s1, .str "up" s2, .str "near" s3, .str "even" s4] nW, slW⟩)
    (lN : K.lookup aN = some ⟨.type "tuple", dN, .seq #[.str "base" u1, .str "net" u2, .str "month" u3, .str "sums" u4] nN, slN⟩) : ∃ aW aN, Gv K mg aW aN :=
  ⟨aW, aN, ⟨held_str X G g_letters, held_int X G g_signs, held_int X G g_whole, held_int X G g_mpc, held_int X G g_mpr, held_int X G g_mamt, held_int X G g_mdeep, held_int X G g_mbands, held_ref X G gW, held_ref X G gN, sqt_four lW, sqt_four lN⟩⟩
theorem tops_mk {aF aS aC aL aB aO cR fRi fOm fFi fFu fSi fSc fSu fCi fCc fLi fLu fOi fOu fBi fBu : Addr} (X : K.In h) (G : h.Ns mainGlobals mg)
    (gR : PySem.W.nsIn K mainGlobals "Rule" = some (some (.ref cR)))
    (gF : PySem.W.nsIn K mainGlobals "Flat" = some (some (.ref aF)))
    (gS : PySem.W.nsIn K mainGlobals "Share" = some (some (.ref aS)))
    (gC : PySem.W.nsIn K mainGlobals "Capped" = some (some (.ref aC)))
    (gL : PySem.W.nsIn K mainGlobals "Least" = some (some (.ref aL)))
    (gB : PySem.W.nsIn K mainGlobals "Bands" = some (some (.ref aB)))
    (gO : PySem.W.nsIn K mainGlobals "OnTop" = some (some (.ref aO)))
    (in_F : PySem.W.findIn K (.ref aF) "__init__" = some (some (.ref fFi)))
    (ut_F : PySem.W.findIn K (.ref aF) "until" = some (some (.ref fFu)))
    (om_F : PySem.W.findIn K (.ref aF) "of_month" = some (some (.ref fOm)))
    (mk_F : PySem.W.makesIn K aF = true)
    (kp_F : PySem.W.keepIn K (.ref aF) = true)
    (in_S : PySem.W.findIn K (.ref aS) "__init__" = some (some (.ref fSi)))
    (ut_S : PySem.W.findIn K (.ref aS) "until" = some (some (.ref fSu)))
    (om_S : PySem.W.findIn K (.ref aS) "of_month" = some (some (.ref fOm)))
    (mk_S : PySem.W.makesIn K aS = true)
    (kp_S : PySem.W.keepIn K (.ref aS) = true)
    (in_C : PySem.W.findIn K (.ref aC) "__init__" = some (some (.ref fCi)))
    (ut_C : PySem.W.findIn K (.ref aC) "until" = some (some (.ref fSu)))
    (om_C : PySem.W.findIn K (.ref aC) "of_month" = some (some (.ref fOm)))
    (mk_C : PySem.W.makesIn K aC = true)
    (kp_C : PySem.W.keepIn K (.ref aC) = true)
    (in_L : PySem.W.findIn K (.ref aL) "__init__" = some (some (.ref fLi)))
    (ut_L : PySem.W.findIn K (.ref aL) "until" = some (some (.ref fLu)))
    (om_L : PySem.W.findIn K (.ref aL) "of_month" = some (some (.ref fOm)))
    (mk_L : PySem.W.makesIn K aL = true)
    (kp_L : PySem.W.keepIn K (.ref aL) = true)
    (in_B : PySem.W.findIn K (.ref aB) "__init__" = some (some (.ref fBi)))
    (ut_B : PySem.W.findIn K (.ref aB) "until" = some (some (.ref fBu)))
    (om_B : PySem.W.findIn K (.ref aB) "of_month" = some (some (.ref fOm)))
    (mk_B : PySem.W.makesIn K aB = true)
    (kp_B : PySem.W.keepIn K (.ref aB) = true)
    (in_O : PySem.W.findIn K (.ref aO) "__init__" = some (some (.ref fOi)))
    (ut_O : PySem.W.findIn K (.ref aO) "until" = some (some (.ref fOu)))
    (om_O : PySem.W.findIn K (.ref aO) "of_month" = some (some (.ref fOm)))
    (mk_O : PySem.W.makesIn K aO = true)
    (kp_O : PySem.W.keepIn K (.ref aO) = true)
    (co_S : PySem.W.findIn K (.ref aS) "counted" = some (some (.ref fSc)))
    (co_C : PySem.W.findIn K (.ref aC) "counted" = some (some (.ref fCc)))
    (co_L : PySem.W.findIn K (.ref aL) "counted" = some (some (.ref fSc)))
    (cr : CFn K mg "Rule" cR "__init__" fRi)
    (cs : CFn K mg "Share" aS "__init__" fSi)
    (fn_fRi : PySem.W.isFn K (.ref fRi) = true)
    (ke_fRi : PySem.W.keepIn K (.ref fRi) = true)
    (fn_fOm : PySem.W.isFn K (.ref fOm) = true)
    (ke_fOm : PySem.W.keepIn K (.ref fOm) = true)
    (fn_fFi : PySem.W.isFn K (.ref fFi) = true)
    (ke_fFi : PySem.W.keepIn K (.ref fFi) = true)
    (fn_fFu : PySem.W.isFn K (.ref fFu) = true)
    (ke_fFu : PySem.W.keepIn K (.ref fFu) = true)
    (fn_fSi : PySem.W.isFn K (.ref fSi) = true)
    (ke_fSi : PySem.W.keepIn K (.ref fSi) = true)
    (fn_fSc : PySem.W.isFn K (.ref fSc) = true)
    (ke_fSc : PySem.W.keepIn K (.ref fSc) = true)
    (fn_fSu : PySem.W.isFn K (.ref fSu) = true)
    (ke_fSu : PySem.W.keepIn K (.ref fSu) = true)
    (fn_fCi : PySem.W.isFn K (.ref fCi) = true)
    (ke_fCi : PySem.W.keepIn K (.ref fCi) = true)
    (fn_fCc : PySem.W.isFn K (.ref fCc) = true)
    (ke_fCc : PySem.W.keepIn K (.ref fCc) = true)
    (fn_fLi : PySem.W.isFn K (.ref fLi) = true)
    (ke_fLi : PySem.W.keepIn K (.ref fLi) = true)
    (fn_fLu : PySem.W.isFn K (.ref fLu) = true)
    (ke_fLu : PySem.W.keepIn K (.ref fLu) = true)
    (fn_fOi : PySem.W.isFn K (.ref fOi) = true)
    (ke_fOi : PySem.W.keepIn K (.ref fOi) = true)
    (fn_fOu : PySem.W.isFn K (.ref fOu) = true)
    (ke_fOu : PySem.W.keepIn K (.ref fOu) = true)
    (fn_fBi : PySem.W.isFn K (.ref fBi) = true)
    (ke_fBi : PySem.W.keepIn K (.ref fBi) = true)
    (fn_fBu : PySem.W.isFn K (.ref fBu) = true)
    (ke_fBu : PySem.W.keepIn K (.ref fBu) = true)
    (d_Rule_init : Dat K "__init__" "Rule.__init__" s_Rule_init fRi ["self", "name"])
    (d_Rule_of_month : Dat K "of_month" "Rule.of_month" s_Rule_of_month fOm ["self", "bases"])
    (d_Flat_init : Dat K "__init__" "Flat.__init__" s_Flat_init fFi ["self", "name", "amount"])
    (d_Flat_until : Dat K "until" "Flat.until" s_Flat_until fFu ["self", "bases"])
    (d_Share_init : Dat K "__init__" "Share.__init__" s_Share_init fSi ["self", "name", "parts", "way"])
    (d_Share_counted : Dat K "counted" "Share.counted" s_Share_counted fSc ["self", "total"])
    (d_Share_until : Dat K "until" "Share.until" s_Share_until fSu ["self", "bases"])
    (d_Capped_init : Dat K "__init__" "Capped.__init__" s_Capped_init fCi ["self", "name", "parts", "most", "way"])
    (d_Capped_counted : Dat K "counted" "Capped.counted" s_Capped_counted fCc ["self", "total"])
    (d_Least_init : Dat K "__init__" "Least.__init__" s_Least_init fLi ["self", "name", "parts", "least", "way"])
    (d_Least_until : Dat K "until" "Least.until" s_Least_until fLu ["self", "bases"])
    (d_OnTop_init : Dat K "__init__" "OnTop.__init__" s_OnTop_init fOi ["self", "name", "parts", "way", "rule"])
    (d_OnTop_until : Dat K "until" "OnTop.until" s_OnTop_until fOu ["self", "bases"])
    (d_Bands_init : Dat K "__init__" "Bands.__init__" s_Bands_init fBi ["self", "name", "rows", "way"])
    (d_Bands_until : Dat K "until" "Bands.until" s_Bands_until fBu ["self", "bases"])
    (oF : One K aF cR aO false)
    (oS : One K aS cR aO false)
    (oC : One K aC cR aO false)
    (oL : One K aL cR aO false)
    (oB : One K aB cR aO false)
    (oO : One K aO cR aO true)
    (hn : PySem.W.specialIn K (.builtin "object.__class__") "__get__" = some (some (.builtin "getset_descriptor.__get__")))
    (htk : PySem.W.takesIn K (.builtin "object.__class__") = some true)
    : ∃ (cA : Kd → Addr) (cR fRi fOm fFi fFu fSi fSc fSu fCi fCc fLi fLu fOi fOu fBi fBu : Addr), Tops K mg cA cR fRi fOm fFi fFu fSi fSc fSu fCi fCc fLi fLu fOi fOu fBi fBu :=
  ⟨cAof aF aS aC aL aB aO, cR, fRi, fOm, fFi, fFu, fSi, fSc, fSu, fCi, fCc, fLi, fLu, fOi, fOu, fBi, fBu, {
    T := ct_mk oF oS oC oL oB oO hn htk (PySem.W.mg_of X G gR) (PySem.W.mg_of X G gS) (PySem.W.mg_of X G gO) cr cs
    mF := ⟨mk_F, in_F, fn_fFi, kp_F, PySem.W.mg_of X G gF⟩
    mS := ⟨mk_S, in_S, fn_fSi, kp_S, PySem.W.mg_of X G gS⟩
    mC := ⟨mk_C, in_C, fn_fCi, kp_C, PySem.W.mg_of X G gC⟩
    mL := ⟨mk_L, in_L, fn_fLi, kp_L, PySem.W.mg_of X G gL⟩
    mB := ⟨mk_B, in_B, fn_fBi, kp_B, PySem.W.mg_of X G gB⟩
    mO := ⟨mk_O, in_O, fn_fOi, kp_O, PySem.W.mg_of X G gO⟩
    uF := ⟨ut_F, fn_fFu, ke_fFu⟩
    uS := ⟨ut_S, fn_fSu, ke_fSu⟩
    uC := ⟨ut_C, fn_fSu, ke_fSu⟩
    uL := ⟨ut_L, fn_fLu, ke_fLu⟩
    uB := ⟨ut_B, fn_fBu, ke_fBu⟩
    uO := ⟨ut_O, fn_fOu, ke_fOu⟩
    om := fun k => match k with | .flat => ⟨om_F, fn_fOm, ke_fOm⟩ | .share => ⟨om_S, fn_fOm, ke_fOm⟩ | .capped => ⟨om_C, fn_fOm, ke_fOm⟩ | .least => ⟨om_L, fn_fOm, ke_fOm⟩ | .bands => ⟨om_B, fn_fOm, ke_fOm⟩ | .ontop => ⟨om_O, fn_fOm, ke_fOm⟩
    cS := ⟨co_S, fn_fSc, ke_fSc⟩
    cC := ⟨co_C, fn_fCc, ke_fCc⟩
    cL := ⟨co_L, fn_fSc, ke_fSc⟩
    d_Rule_init := d_Rule_init
    d_Rule_of_month := d_Rule_of_month
    d_Flat_init := d_Flat_init
    d_Flat_until := d_Flat_until
    d_Share_init := d_Share_init
    d_Share_counted := d_Share_counted
    d_Share_until := d_Share_until
    d_Capped_init := d_Capped_init
    d_Capped_counted := d_Capped_counted
    d_Least_init := d_Least_init
    d_Least_until := d_Least_until
    d_OnTop_init := d_OnTop_init
    d_OnTop_until := d_OnTop_until
    d_Bands_init := d_Bands_init
    d_Bands_until := d_Bands_until
  }⟩
theorem law_end {l : PySem.W.OpenLaw} {w : World} {fa f : Addr} {oc : Value} {od an : Option Addr} {osl : Array (Option Value)} {kV doc pm cdv ct : Value} (X : K.In h) (G : h.Ns mainGlobals mg) (hfa : mg "law" = some (.ref fa)) (Tp : ∃ (cA : Kd → Addr) (cR fRi fOm fFi fFu fSi fSc fSu fCi fCc fLi fLu fOi fOu fBi fBu : Addr), Tops K mg cA cR fRi fOm fFi fFu fSi fSc fSu fCi fCc fLi fLu fOi fOu fBi fBu) (D : Defs K mg) (B : Blt mg) (V : ∃ aW aN, Gv K mg aW aN)
    (a : PySem.W.nsIn K mainGlobals "law" = some (some (.ref f))) (lk : K.lookup f = some ⟨oc, od, .func (PySem.W.fnOf "law" "law" (defArgs s_law) (defBody s_law) (defScope s_law) .none kV doc pm an cdv ct), osl⟩) (c : PySem.W.codeIn K cdv "law" = true) (k : PySem.W.keepIn K (.ref f) = true) :
    ∃ fd : FuncData, (∀ (s : Shared) (v : Value), BindsTo s fd ⟨[v], []⟩ [("_law_script", v)]) ∧ ∀ base : Heap, K.In base → base.Ns mainGlobals mg → FnOk l.prog w K mg base CX0 12 fa fd ["_law_script"] (spLaw K) := by
  have e := hfa.symm.trans (PySem.W.mg_of X G a)
  cases e
  obtain ⟨cA, cR, fRi, fOm, fFi, fFu, fSi, fSc, fSu, fCi, fCc, fLi, fLu, fOi, fOu, fBi, fBu, Tp⟩ := Tp
  obtain ⟨aW, aN, V⟩ := V
  exact ⟨_, fun s v => .of_eq rfl, fun base _ _ => law_all (fun_mk (st := s_law) lk c k) Tp D B V⟩
end
end Co

open PySem PySem.W PyProof.Rows
set_option maxRecDepth 100000 in
set_option maxHeartbeats 0 in
theorem PySem.Challenge.cw_coinroll_k08_whole_months_sum_holds : PySem.Challenge.rw_coinroll_k08_whole_months_sum.Holds := by
  w_on; o_law; k_head; (case hw => w_witness2)
  k_fill
  refine L2.walk_of (l := PySem.Challenge.rw_coinroll_k08_whole_months_sum) (n := 63) (k := 12) (x := "_law_script") (CX := fun _ => L2.CX0) (sp := fun w => Co.spLaw _) rfl (by decide) rfl ⟨rfl, by decide, by decide⟩ (fun w h Y => PySem.W.kIn_of Y) ?F (fun _ _ a ns hl _ hS => ⟨a, ns, rfl, hS, hl, fun _ => rfl⟩) (fun _ _ _ _ _ h => h)
  case F =>
    intro w mg fa h KX G hmg
    have B : Co.Blt mg := ⟨PySem.W.mg_none_of KX G (by k_is), PySem.W.mg_none_of KX G (by k_is), PySem.W.mg_none_of KX G (by k_is), PySem.W.mg_none_of KX G (by k_is), PySem.W.mg_none_of KX G (by k_is), PySem.W.mg_none_of KX G (by k_is), PySem.W.mg_none_of KX G (by k_is), PySem.W.mg_none_of KX G (by k_is), PySem.W.mg_none_of KX G (by k_is), PySem.W.mg_none_of KX G (by k_is), PySem.W.mg_none_of KX G (by k_is), PySem.W.mg_none_of KX G (by k_is), PySem.W.mg_none_of KX G (by k_is), PySem.W.mg_none_of KX G (by k_is), PySem.W.mg_none_of KX G (by k_is)⟩
    have V := Co.gv_mk KX G (by k_is) (by k_is) (by k_is) (by k_is) (by k_is) (by k_is) (by k_is) (by k_is) (by k_is) (by k_is) (by k_is) (by k_is)
    have D : Co.Defs _ mg := ⟨
      Co.def_mk (st := Co.s_is_whole) KX G (by k_is) (by k_is) (by k_is) (by k_is) (fun _ _ _ _ _ _ us hl => match us, hl with | [_], _ => rfl),
      Co.def_mk (st := Co.s_is_among) KX G (by k_is) (by k_is) (by k_is) (by k_is) (fun _ _ _ _ _ _ us hl => match us, hl with | [_, _, _], _ => rfl),
      Co.def_mk (st := Co.s_is_of) KX G (by k_is) (by k_is) (by k_is) (by k_is) (fun _ _ _ _ _ _ us hl => match us, hl with | [_, _], _ => rfl),
      Co.def_mk (st := Co.s_is_name) KX G (by k_is) (by k_is) (by k_is) (by k_is) (fun _ _ _ _ _ _ us hl => match us, hl with | [_], _ => rfl),
      Co.def_mk (st := Co.s_is_way) KX G (by k_is) (by k_is) (by k_is) (by k_is) (fun _ _ _ _ _ _ us hl => match us, hl with | [_], _ => rfl),
      Co.def_mk (st := Co.s_need_amount) KX G (by k_is) (by k_is) (by k_is) (by k_is) (fun _ _ _ _ _ _ us hl => match us, hl with | [_], _ => rfl),
      Co.def_mk (st := Co.s_rounded) KX G (by k_is) (by k_is) (by k_is) (by k_is) (fun _ _ _ _ _ _ us hl => match us, hl with | [_, _], _ => rfl),
      Co.def_mk (st := Co.s_share_of) KX G (by k_is) (by k_is) (by k_is) (by k_is) (fun _ _ _ _ _ _ us hl => match us, hl with | [_, _, _], _ => rfl),
      Co.def_mk (st := Co.s_need_parts) KX G (by k_is) (by k_is) (by k_is) (by k_is) (fun _ _ _ _ _ _ us hl => match us, hl with | [_], _ => rfl),
      Co.def_mk (st := Co.s_need_way) KX G (by k_is) (by k_is) (by k_is) (by k_is) (fun _ _ _ _ _ _ us hl => match us, hl with | [_], _ => rfl),
      Co.def_mk (st := Co.s_need_rule_amount) KX G (by k_is) (by k_is) (by k_is) (by k_is) (fun _ _ _ _ _ _ us hl => match us, hl with | [_], _ => rfl),
      Co.def_mk (st := Co.s_months_with) KX G (by k_is) (by k_is) (by k_is) (by k_is) (fun _ _ _ _ _ _ us hl => match us, hl with | [_], _ => rfl),
      Co.def_mk (st := Co.s_deep_of) KX G (by k_is) (by k_is) (by k_is) (by k_is) (fun _ _ _ _ _ _ us hl => match us, hl with | [_], _ => rfl),
      Co.def_mk (st := Co.s_is_band) KX G (by k_is) (by k_is) (by k_is) (by k_is) (fun _ _ _ _ _ _ us hl => match us, hl with | [_], _ => rfl),
      Co.def_mk (st := Co.s_need_bands) KX G (by k_is) (by k_is) (by k_is) (by k_is) (fun _ _ _ _ _ _ us hl => match us, hl with | [_], _ => rfl),
      Co.def_mk (st := Co.s_l_cell_at) KX G (by k_is) (by k_is) (by k_is) (by k_is) (fun _ _ _ _ _ _ us hl => match us, hl with | [_, _], _ => rfl),
      Co.def_mk (st := Co.s_l_mixed) KX G (by k_is) (by k_is) (by k_is) (by k_is) (fun _ _ _ _ _ _ us hl => match us, hl with | [_, _], _ => rfl),
      Co.def_mk (st := Co.s_l_whole) KX G (by k_is) (by k_is) (by k_is) (by k_is) (fun _ _ _ _ _ _ us hl => match us, hl with | [_], _ => rfl),
      Co.def_mk (st := Co.s_l_amount) KX G (by k_is) (by k_is) (by k_is) (by k_is) (fun _ _ _ _ _ _ us hl => match us, hl with | [_, _], _ => rfl),
      Co.def_mk (st := Co.s_l_bases) KX G (by k_is) (by k_is) (by k_is) (by k_is) (fun _ _ _ _ _ _ us hl => match us, hl with | [_, _], _ => rfl),
      Co.def_mk (st := Co.s_l_names) KX G (by k_is) (by k_is) (by k_is) (by k_is) (fun _ _ _ _ _ _ us hl => match us, hl with | [_, _], _ => rfl),
      Co.def_mk (st := Co.s_l_parts) KX G (by k_is) (by k_is) (by k_is) (by k_is) (fun _ _ _ _ _ _ us hl => match us, hl with | [_, _], _ => rfl),
      Co.def_mk (st := Co.s_l_way) KX G (by k_is) (by k_is) (by k_is) (by k_is) (fun _ _ _ _ _ _ us hl => match us, hl with | [_, _], _ => rfl),
      Co.def_mk (st := Co.s_l_pairs) KX G (by k_is) (by k_is) (by k_is) (by k_is) (fun _ _ _ _ _ _ us hl => match us, hl with | [_], _ => rfl),
      Co.def_mk (st := Co.s_l_plain) KX G (by k_is) (by k_is) (by k_is) (by k_is) (fun _ _ _ _ _ _ us hl => match us, hl with | [_, _, _], _ => rfl),
      Co.def_mk (st := Co.s_l_rule) KX G (by k_is) (by k_is) (by k_is) (by k_is) (fun _ _ _ _ _ _ us hl => match us, hl with | [_, _], _ => rfl),
      Co.def_mk (st := Co.s_l_rounded) KX G (by k_is) (by k_is) (by k_is) (by k_is) (fun _ _ _ _ _ _ us hl => match us, hl with | [_, _], _ => rfl),
      Co.def_mk (st := Co.s_l_made) KX G (by k_is) (by k_is) (by k_is) (by k_is) (fun _ _ _ _ _ _ us hl => match us, hl with | [_], _ => rfl),
      Co.def_mk (st := Co.s_l_turned) KX G (by k_is) (by k_is) (by k_is) (by k_is) (fun _ _ _ _ _ _ us hl => match us, hl with | [_, _], _ => rfl),
      Co.def_mk (st := Co.s_l_on_top) KX G (by k_is) (by k_is) (by k_is) (by k_is) (fun _ _ _ _ _ _ us hl => match us, hl with | [_, _, _], _ => rfl)⟩
    have Tp := by
      refine' Co.tops_mk KX G ?gR ?gF ?gS ?gC ?gL ?gB ?gO ?in_F ?ut_F ?om_F ?mk_F ?kp_F ?in_S ?ut_S ?om_S ?mk_S ?kp_S ?in_C ?ut_C ?om_C ?mk_C ?kp_C ?in_L ?ut_L ?om_L ?mk_L ?kp_L ?in_B ?ut_B ?om_B ?mk_B ?kp_B ?in_O ?ut_O ?om_O ?mk_O ?kp_O ?co_S ?co_C ?co_L ?cr ?cs ?fn_fRi ?ke_fRi ?fn_fOm ?ke_fOm ?fn_fFi ?ke_fFi ?fn_fFu ?ke_fFu ?fn_fSi ?ke_fSi ?fn_fSc ?ke_fSc ?fn_fSu ?ke_fSu ?fn_fCi ?ke_fCi ?fn_fCc ?ke_fCc ?fn_fLi ?ke_fLi ?fn_fLu ?ke_fLu ?fn_fOi ?ke_fOi ?fn_fOu ?ke_fOu ?fn_fBi ?ke_fBi ?fn_fBu ?ke_fBu ?d_Rule_init ?d_Rule_of_month ?d_Flat_init ?d_Flat_until ?d_Share_init ?d_Share_counted ?d_Share_until ?d_Capped_init ?d_Capped_counted ?d_Least_init ?d_Least_until ?d_OnTop_init ?d_OnTop_until ?d_Bands_init ?d_Bands_until ?oF ?oS ?oC ?oL ?oB ?oO ?hn ?htk
      (case gR => k_is)
      (case gF => k_is)
      (case gS => k_is)
      (case gC => k_is)
      (case gL => k_is)
      (case gB => k_is)
      (case gO => k_is)
      (case in_F => k_is)
      (case ut_F => k_is)
      (case om_F => k_is)
      (case mk_F => k_is)
      (case kp_F => k_is)
      (case in_S => k_is)
      (case ut_S => k_is)
      (case om_S => k_is)
      (case mk_S => k_is)
      (case kp_S => k_is)
      (case in_C => k_is)
      (case ut_C => k_is)
      (case om_C => k_is)
      (case mk_C => k_is)
      (case kp_C => k_is)
      (case in_L => k_is)
      (case ut_L => k_is)
      (case om_L => k_is)
      (case mk_L => k_is)
      (case kp_L => k_is)
      (case in_B => k_is)
      (case ut_B => k_is)
      (case om_B => k_is)
      (case mk_B => k_is)
      (case kp_B => k_is)
      (case in_O => k_is)
      (case ut_O => k_is)
      (case om_O => k_is)
      (case mk_O => k_is)
      (case kp_O => k_is)
      (case co_S => k_is)
      (case co_C => k_is)
      (case co_L => k_is)
      (case cr => exact Co.cf_mk KX G (by k_is) (by k_is) (by k_is) (by k_is))
      (case cs => exact Co.cf_mk KX G (by k_is) (by k_is) (by k_is) (by k_is))
      (case fn_fRi => k_is)
      (case ke_fRi => k_is)
      (case fn_fOm => k_is)
      (case ke_fOm => k_is)
      (case fn_fFi => k_is)
      (case ke_fFi => k_is)
      (case fn_fFu => k_is)
      (case ke_fFu => k_is)
      (case fn_fSi => k_is)
      (case ke_fSi => k_is)
      (case fn_fSc => k_is)
      (case ke_fSc => k_is)
      (case fn_fSu => k_is)
      (case ke_fSu => k_is)
      (case fn_fCi => k_is)
      (case ke_fCi => k_is)
      (case fn_fCc => k_is)
      (case ke_fCc => k_is)
      (case fn_fLi => k_is)
      (case ke_fLi => k_is)
      (case fn_fLu => k_is)
      (case ke_fLu => k_is)
      (case fn_fOi => k_is)
      (case ke_fOi => k_is)
      (case fn_fOu => k_is)
      (case ke_fOu => k_is)
      (case fn_fBi => k_is)
      (case ke_fBi => k_is)
      (case fn_fBu => k_is)
      (case ke_fBu => k_is)
      (case d_Rule_init => exact Co.dat_mk (by k_is) (by k_is) (by k_is) (fun _ _ _ _ _ _ us hl => match us, hl with | [_, _], _ => rfl))
      (case d_Rule_of_month => exact Co.dat_mk (by k_is) (by k_is) (by k_is) (fun _ _ _ _ _ _ us hl => match us, hl with | [_, _], _ => rfl))
      (case d_Flat_init => exact Co.dat_mk (by k_is) (by k_is) (by k_is) (fun _ _ _ _ _ _ us hl => match us, hl with | [_, _, _], _ => rfl))
      (case d_Flat_until => exact Co.dat_mk (by k_is) (by k_is) (by k_is) (fun _ _ _ _ _ _ us hl => match us, hl with | [_, _], _ => rfl))
      (case d_Share_init => exact Co.dat_mk (by k_is) (by k_is) (by k_is) (fun _ _ _ _ _ _ us hl => match us, hl with | [_, _, _, _], _ => rfl))
      (case d_Share_counted => exact Co.dat_mk (by k_is) (by k_is) (by k_is) (fun _ _ _ _ _ _ us hl => match us, hl with | [_, _], _ => rfl))
      (case d_Share_until => exact Co.dat_mk (by k_is) (by k_is) (by k_is) (fun _ _ _ _ _ _ us hl => match us, hl with | [_, _], _ => rfl))
      (case d_Capped_init => exact Co.dat_mk (by k_is) (by k_is) (by k_is) (fun _ _ _ _ _ _ us hl => match us, hl with | [_, _, _, _, _], _ => rfl))
      (case d_Capped_counted => exact Co.dat_mk (by k_is) (by k_is) (by k_is) (fun _ _ _ _ _ _ us hl => match us, hl with | [_, _], _ => rfl))
      (case d_Least_init => exact Co.dat_mk (by k_is) (by k_is) (by k_is) (fun _ _ _ _ _ _ us hl => match us, hl with | [_, _, _, _, _], _ => rfl))
      (case d_Least_until => exact Co.dat_mk (by k_is) (by k_is) (by k_is) (fun _ _ _ _ _ _ us hl => match us, hl with | [_, _], _ => rfl))
      (case d_OnTop_init => exact Co.dat_mk (by k_is) (by k_is) (by k_is) (fun _ _ _ _ _ _ us hl => match us, hl with | [_, _, _, _, _], _ => rfl))
      (case d_OnTop_until => exact Co.dat_mk (by k_is) (by k_is) (by k_is) (fun _ _ _ _ _ _ us hl => match us, hl with | [_, _], _ => rfl))
      (case d_Bands_init => exact Co.dat_mk (by k_is) (by k_is) (by k_is) (fun _ _ _ _ _ _ us hl => match us, hl with | [_, _, _, _], _ => rfl))
      (case d_Bands_until => exact Co.dat_mk (by k_is) (by k_is) (by k_is) (fun _ _ _ _ _ _ us hl => match us, hl with | [_, _], _ => rfl))
      (case oF => exact Co.one_mk (by k_is) (by k_is) (by k_is) (by k_is) (by k_is) (by k_is) (by k_is) (by k_is) (by k_is) (by k_is) (by k_is) (by k_is) (by k_is) (by k_is) (by k_is) (by k_is) (by k_is) (by k_is) (by k_is) (by k_is) (fun _ => rfl))
      (case oS => exact Co.one_mk (by k_is) (by k_is) (by k_is) (by k_is) (by k_is) (by k_is) (by k_is) (by k_is) (by k_is) (by k_is) (by k_is) (by k_is) (by k_is) (by k_is) (by k_is) (by k_is) (by k_is) (by k_is) (by k_is) (by k_is) (fun _ => rfl))
      (case oC => exact Co.one_mk (by k_is) (by k_is) (by k_is) (by k_is) (by k_is) (by k_is) (by k_is) (by k_is) (by k_is) (by k_is) (by k_is) (by k_is) (by k_is) (by k_is) (by k_is) (by k_is) (by k_is) (by k_is) (by k_is) (by k_is) (fun _ => rfl))
      (case oL => exact Co.one_mk (by k_is) (by k_is) (by k_is) (by k_is) (by k_is) (by k_is) (by k_is) (by k_is) (by k_is) (by k_is) (by k_is) (by k_is) (by k_is) (by k_is) (by k_is) (by k_is) (by k_is) (by k_is) (by k_is) (by k_is) (fun _ => rfl))
      (case oB => exact Co.one_mk (by k_is) (by k_is) (by k_is) (by k_is) (by k_is) (by k_is) (by k_is) (by k_is) (by k_is) (by k_is) (by k_is) (by k_is) (by k_is) (by k_is) (by k_is) (by k_is) (by k_is) (by k_is) (by k_is) (by k_is) (fun _ => rfl))
      (case oO => exact Co.one_mk (by k_is) (by k_is) (by k_is) (by k_is) (by k_is) (by k_is) (by k_is) (by k_is) (by k_is) (by k_is) (by k_is) (by k_is) (by k_is) (by k_is) (by k_is) (by k_is) (by k_is) (by k_is) (by k_is) (by k_is) (fun z => nomatch z))
      (case hn => k_is)
      (case htk => k_is)
    exact Co.law_end KX G hmg Tp D B V (by k_is) (by k_is) (by k_is) (by k_is)
