import PyProof.Rows.All
import Wide.All
import OpenK.AllK
import Wide.FinOn
import HandS.ForMost
import HandS.Rev
import PyProof.EqAt
import PyProof.EqKinds
import PyProof.TupleCall
import HandS.ForExc
import HandS.Walk
import HandS.ExcInit
import HandS.FStr
import HandS.IsInst
import HandS.Wide
import HandS.Flow
import HandS.Codes
import PySem.Challenge.RW_samphire_k05_whole_any_text_is_refused_o
set_option Elab.async false
/-! The plain law: texts as lists of code points; tokens, conditions, their written form, the parser as a function; items. No program in sight. -/
namespace K05
abbrev Tx := List Nat
def wAll : Tx := [97,108,108]
def wWeight : Tx := [119,101,105,103,104,116]
def wAmount : Tx := [97,109,111,117,110,116]
def wGroup : Tx := [103,114,111,117,112]
def wKey : Tx := [107,101,121]
def wNot : Tx := [110,111,116]
def wAnd : Tx := [97,110,100]
def wOr : Tx := [111,114]
def ops : List Tx := [[60], [60,61], [61], [62,61], [62]]
def isSign (c : Nat) : Bool := (decide (97 ≤ c) && decide (c ≤ 122)) || (decide (48 ≤ c) && decide (c ≤ 57))
def isDig (c : Nat) : Bool := decide (48 ≤ c) && decide (c ≤ 57)
def isName (w : Tx) : Bool := (decide (1 ≤ w.length) && decide (w.length ≤ 12)) && w.all isSign
def isWritten (w : Tx) : Bool := (!decide (w = []) && w.all isDig) && (decide (w = [48]) || !decide (w.head? = some 48))
theorem sign_of_dig {c : Nat} (h : isDig c = true) : isSign c = true := by
  unfold isDig at h; unfold isSign; rw [h]; simp
/-! ### numbers -/
def val (w : Tx) : Nat := w.foldl (fun a c => a * 10 + (c - 48)) 0
def dig (n : Nat) : Tx := if n < 10 then [48 + n] else dig (n / 10) ++ [48 + n % 10]
termination_by n
decreasing_by omega
theorem dig_lt {n : Nat} (h : n < 10) : dig n = [48 + n] := by rw [dig]; simp [h]
theorem dig_ge {n : Nat} (h : 10 ≤ n) : dig n = dig (n / 10) ++ [48 + n % 10] := by
  rw [dig, if_neg (by omega)]
theorem val_snoc (u : Tx) (c : Nat) : val (u ++ [c]) = val u * 10 + (c - 48) := by unfold val; rw [List.foldl_append]; rfl
theorem val_dig (n : Nat) : val (dig n) = n := by
  induction n using Nat.strongRecOn with
  | _ n ih =>
    by_cases h : n < 10
    · rw [dig_lt h]; show 0 * 10 + (48 + n - 48) = n; omega
    · rw [dig_ge (by omega), val_snoc, ih (n / 10) (by omega)]; omega
theorem dig_all (n : Nat) : (dig n).all isDig = true := by
  induction n using Nat.strongRecOn with
  | _ n ih =>
    by_cases h : n < 10
    · rw [dig_lt h]; simp [isDig]; omega
    · rw [dig_ge (by omega), List.all_append, ih (n / 10) (by omega)]; simp [isDig]; omega
theorem dig_ne (n : Nat) : dig n ≠ [] := by
  by_cases h : n < 10
  · rw [dig_lt h]; simp
  · rw [dig_ge (by omega)]; simp
theorem dig_head (n : Nat) (h : n ≠ 0) : (dig n).head? ≠ some 48 := by
  induction n using Nat.strongRecOn with
  | _ n ih =>
    by_cases hl : n < 10
    · rw [dig_lt hl]; simp; omega
    · rw [dig_ge (by omega)]
      have q := ih (n / 10) (by omega) (by omega)
      have ne := dig_ne (n / 10)
      cases e : dig (n / 10) with
      | nil => exact absurd e ne
      | cons a l => rw [e] at q; simpa using q
theorem dig_written (n : Nat) : isWritten (dig n) = true := by
  unfold isWritten
  rw [dig_all, decide_eq_false (dig_ne n)]
  by_cases h : n = 0
  · subst h; rw [dig_lt (by omega)]; rfl
  · rw [decide_eq_false (dig_head n h)]; simp
theorem written_iff {w : Tx} : isWritten w = true ↔ w ≠ [] ∧ w.all isDig = true ∧ (w = [48] ∨ w.head? ≠ some 48) := by
  unfold isWritten
  simp [and_assoc]
theorem snoc_cases {α : Type} : ∀ l : List α, l = [] ∨ ∃ u c, l = u ++ [c]
  | [] => .inl rfl
  | a :: l => .inr <| by
    rcases snoc_cases l with rfl | ⟨u, c, rfl⟩
    · exact ⟨[], a, rfl⟩
    · exact ⟨a :: u, c, rfl⟩
theorem dig_val_aux : ∀ (k : Nat) (w : Tx), w.length = k → isWritten w = true → dig (val w) = w := by
  intro k
  induction k with
  | zero =>
    intro w hl h
    exact absurd (List.eq_nil_of_length_eq_zero hl) (written_iff.mp h).1
  | succ k ih =>
    intro w hl h
    obtain ⟨ne, hd, hh⟩ := written_iff.mp h
    rcases snoc_cases w with rfl | ⟨u, c, rfl⟩
    · exact absurd rfl ne
    · rw [List.all_append, Bool.and_eq_true] at hd
      have hc : isDig c = true := by simpa using hd.2
      have hc' : 48 ≤ c ∧ c ≤ 57 := by simpa [isDig] using hc
      rw [val_snoc]
      by_cases hu : u = []
      · subst hu
        show dig (0 * 10 + (c - 48)) = [c]
        rw [dig_lt (by omega)]
        congr 1; omega
      · have hu2 : u.head? ≠ some 48 := by
          rcases hh with hh | hh
          · cases u with
            | nil => exact absurd rfl hu
            | cons a l =>
              have e := congrArg List.length hh
              simp at e
          · cases u with
            | nil => exact absurd rfl hu
            | cons a l => simpa using hh
        have wu : isWritten u = true := written_iff.mpr ⟨hu, hd.1, .inr hu2⟩
        have q := ih u (by simp at hl; omega) wu
        have pos : val u ≠ 0 := fun z => by
          rw [z, dig_lt (by omega)] at q
          rw [← q] at hu2
          exact hu2 rfl
        have e1 : (val u * 10 + (c - 48)) / 10 = val u := by omega
        have e2 : 48 + (val u * 10 + (c - 48)) % 10 = c := by omega
        rw [dig_ge (by omega), e1, e2, q]
theorem dig_val {w : Tx} (h : isWritten w = true) : dig (val w) = w := dig_val_aux _ w rfl h
theorem dig_len (k : Nat) : ∀ n, n < 10 ^ (k + 1) → (dig n).length ≤ k + 1 := by
  induction k with
  | zero => intro n h; rw [dig_lt (by simpa using h)]; simp
  | succ k ih =>
    intro n h
    by_cases hl : n < 10
    · rw [dig_lt hl]; simp
    · rw [dig_ge (by omega), List.length_append]
      have : n / 10 < 10 ^ (k + 1) := by rw [Nat.pow_succ] at h; omega
      have := ih (n / 10) this
      simp; omega
/-- the signs of a whole number -/
def numT (n : Int) : Tx := if n < 0 then 45 :: dig n.natAbs else dig n.natAbs
/-! ### tokens -/
theorem dropWhile_le (p : Nat → Bool) : ∀ l : Tx, (l.dropWhile p).length ≤ l.length
  | [] => Nat.le_refl _
  | a :: l => by
    rw [List.dropWhile_cons]
    split
    · exact Nat.le_succ_of_le (dropWhile_le p l)
    · exact Nat.le_refl _
def toks : Tx → Option (List Tx)
  | [] => some []
  | c :: r =>
    if c = 32 then toks r
    else if isSign c = true then (toks (r.dropWhile isSign)).map ((c :: r.takeWhile isSign) :: ·)
    else if (c = 60 ∨ c = 62) ∧ r.head? = some 61 then (toks r.tail).map ([c, 61] :: ·)
    else if c = 60 ∨ c = 61 ∨ c = 62 ∨ c = 45 ∨ c = 40 ∨ c = 41 then (toks r).map ([c] :: ·)
    else none
termination_by t => t.length
decreasing_by
  · simp
  · have := dropWhile_le isSign r; simp; omega
  · simp; omega
  · simp
theorem toks_nil : toks [] = some [] := by rw [toks]
theorem toks_space (r : Tx) : toks (32 :: r) = toks r := by rw [toks, if_pos rfl]
theorem toks_w1 {c : Nat} {r : Tx} (h : isSign c = true) : toks (c :: r) = (toks (r.dropWhile isSign)).map ((c :: r.takeWhile isSign) :: ·) := by
  rw [toks, if_neg (fun e => by subst e; cases h), if_pos h]
theorem toks_two {c : Nat} {r : Tx} (h : c = 60 ∨ c = 62) : toks (c :: 61 :: r) = (toks r).map ([c, 61] :: ·) := by
  rw [toks, if_neg (by omega), if_neg (by rcases h with rfl | rfl <;> decide), if_pos ⟨h, rfl⟩]
  rfl
theorem toks_one {c : Nat} {r : Tx} (h : c = 60 ∨ c = 61 ∨ c = 62 ∨ c = 45 ∨ c = 40 ∨ c = 41) (h2 : ¬ ((c = 60 ∨ c = 62) ∧ r.head? = some 61)) : toks (c :: r) = (toks r).map ([c] :: ·) := by
  rw [toks, if_neg (by omega), if_neg (by rcases h with rfl | rfl | rfl | rfl | rfl | rfl <;> decide), if_neg h2, if_pos h]
theorem toks_bad {c : Nat} {r : Tx} (h0 : c ≠ 32) (h1 : isSign c = false) (h : ¬ (c = 60 ∨ c = 61 ∨ c = 62 ∨ c = 45 ∨ c = 40 ∨ c = 41)) : toks (c :: r) = none := by
  rw [toks, if_neg h0, if_neg (by rw [h1]; exact Bool.false_ne_true), if_neg (by omega), if_neg h]
/-- t does not go on a word -/
def Stop (t : Tx) : Prop := ∀ c, t.head? = some c → isSign c = false
theorem stop_nil : Stop [] := fun _ h => by cases h
theorem stop_cons {c : Nat} {t : Tx} (h : isSign c = false) : Stop (c :: t) := fun d e => by
  have : c = d := by simpa using e
  rw [← this]; exact h
theorem takeWhile_stop {p : Nat → Bool} : ∀ {w t : Tx}, w.all p = true → (∀ c, t.head? = some c → p c = false) → (w ++ t).takeWhile p = w ∧ (w ++ t).dropWhile p = t
  | [], t, _, h => by
    cases t with
    | nil => exact ⟨rfl, rfl⟩
    | cons c t =>
      have := h c rfl
      simp [this]
  | a :: w, t, ha, h => by
    rw [List.all_cons, Bool.and_eq_true] at ha
    have q := takeWhile_stop (w := w) (t := t) ha.2 h
    simp [ha.1, q.1, q.2]
theorem toks_word {w t : Tx} (hw : w ≠ []) (ha : w.all isSign = true) (h : Stop t) : toks (w ++ t) = (toks t).map (w :: ·) := by
  cases w with
  | nil => exact absurd rfl hw
  | cons c w =>
    rw [List.all_cons, Bool.and_eq_true] at ha
    have q := takeWhile_stop (p := isSign) (w := w) (t := t) ha.2 h
    rw [List.cons_append, toks_w1 ha.1, q.1, q.2]
theorem toks_op {o : Tx} (ho : o ∈ ops) (t : Tx) : toks (o ++ 32 :: t) = (toks t).map (o :: ·) := by
  simp only [ops, List.mem_cons, List.not_mem_nil, or_false] at ho
  rcases ho with rfl | rfl | rfl | rfl | rfl
  · show toks (60 :: 32 :: t) = _
    rw [toks_one (by simp) (by simp), toks_space]
  · show toks (60 :: 61 :: 32 :: t) = _
    rw [toks_two (by simp), toks_space]
  · show toks (61 :: 32 :: t) = _
    rw [toks_one (by simp) (by simp), toks_space]
  · show toks (62 :: 61 :: 32 :: t) = _
    rw [toks_two (by simp), toks_space]
  · show toks (62 :: 32 :: t) = _
    rw [toks_one (by simp) (by simp), toks_space]
/-- induction along the tokens -/
theorem toks_ind {P : Tx → Prop} (h0 : P []) (hs : ∀ r, P r → P (32 :: r)) (hw : ∀ c r, isSign c = true → P (r.dropWhile isSign) → P (c :: r)) (h2 : ∀ c r, (c = 60 ∨ c = 62) → P r → P (c :: 61 :: r))
    (h1 : ∀ c r, (c = 60 ∨ c = 61 ∨ c = 62 ∨ c = 45 ∨ c = 40 ∨ c = 41) → ¬ ((c = 60 ∨ c = 62) ∧ r.head? = some 61) → P r → P (c :: r))
    (hb : ∀ c r, c ≠ 32 → isSign c = false → ¬ (c = 60 ∨ c = 61 ∨ c = 62 ∨ c = 45 ∨ c = 40 ∨ c = 41) → P (c :: r)) : ∀ t, P t := by
  intro t
  generalize hn : t.length = n
  induction n using Nat.strongRecOn generalizing t with
  | _ n ih =>
    cases t with
    | nil => exact h0
    | cons c r =>
      have lt : r.length < n := by rw [← hn]; simp
      by_cases e : c = 32
      · subst e; exact hs r (ih _ lt r rfl)
      · by_cases s : isSign c = true
        · exact hw c r s (ih _ (Nat.lt_of_le_of_lt (dropWhile_le isSign r) lt) _ rfl)
        · have s' : isSign c = false := by simpa using s
          by_cases o : c = 60 ∨ c = 61 ∨ c = 62 ∨ c = 45 ∨ c = 40 ∨ c = 41
          · by_cases t2 : (c = 60 ∨ c = 62) ∧ r.head? = some 61
            · cases r with
              | nil => exact absurd t2.2 (by simp)
              | cons d r =>
                have : d = 61 := by simpa using t2.2
                subst this
                refine h2 c r t2.1 (ih _ ?_ r rfl)
                simp at lt; omega
            · exact h1 c r o t2 (ih _ lt r rfl)
          · exact hb c r e s' o
def noSp (c : Nat) : Bool := !decide (c = 32)
theorem toks_flat : ∀ (t : Tx) (ts : List Tx), toks t = some ts → ts.flatten = t.filter noSp := by
  intro t
  refine toks_ind (P := fun t => ∀ ts : List Tx, toks t = some ts → ts.flatten = t.filter noSp) ?_ ?_ ?_ ?_ ?_ ?_ t
  · intro ts h; rw [toks_nil] at h; cases h; rfl
  · intro r ih ts h
    rw [toks_space] at h
    rw [ih ts h]; rfl
  · intro c r hc ih ts h
    rw [toks_w1 hc] at h
    obtain ⟨us, hu, rfl⟩ := Option.map_eq_some_iff.mp h
    have q := ih us hu
    have hne : ∀ x, isSign x = true → noSp x = true := fun x hx => by
      unfold noSp
      rw [decide_eq_false (fun e => by subst e; cases hx)]; rfl
    have e1 : (r.takeWhile isSign).filter noSp = r.takeWhile isSign := by
      apply List.filter_eq_self.mpr
      intro a ha
      have : ∀ l : Tx, ∀ a ∈ l.takeWhile isSign, isSign a = true := by
        intro l
        induction l with
        | nil => intro a ha; cases ha
        | cons b l ihl =>
          intro a ha
          rw [List.takeWhile_cons] at ha
          split at ha
          · rename_i hb
            rcases List.mem_cons.mp ha with rfl | ha
            · exact hb
            · exact ihl a ha
          · cases ha
      exact hne a (this r a ha)
    have e2 : r = r.takeWhile isSign ++ r.dropWhile isSign := (List.takeWhile_append_dropWhile).symm
    rw [List.flatten_cons, q, List.filter_cons, if_pos (hne c hc)]
    conv => rhs; rw [e2, List.filter_append, e1]
    rfl
  · intro c r hc ih ts h
    rw [toks_two hc] at h
    obtain ⟨us, hu, rfl⟩ := Option.map_eq_some_iff.mp h
    rw [List.flatten_cons, ih us hu]
    rcases hc with rfl | rfl <;> rfl
  · intro c r hc hn ih ts h
    rw [toks_one hc hn] at h
    obtain ⟨us, hu, rfl⟩ := Option.map_eq_some_iff.mp h
    rw [List.flatten_cons, ih us hu]
    rcases hc with rfl | rfl | rfl | rfl | rfl | rfl <;> rfl
  · intro c r h0 h1 h2 ts h
    rw [toks_bad h0 h1 h2] at h; cases h
theorem toks_nonempty : ∀ (t : Tx) (ts : List Tx), toks t = some ts → ∀ w ∈ ts, w ≠ [] := by
  intro t
  refine toks_ind (P := fun t => ∀ ts : List Tx, toks t = some ts → ∀ w ∈ ts, w ≠ []) ?_ ?_ ?_ ?_ ?_ ?_ t
  · intro ts h; rw [toks_nil] at h; cases h; intro w hw; cases hw
  · intro r ih ts h; rw [toks_space] at h; exact ih ts h
  · intro c r hc ih ts h
    rw [toks_w1 hc] at h
    obtain ⟨us, hu, rfl⟩ := Option.map_eq_some_iff.mp h
    intro w hw
    rcases List.mem_cons.mp hw with rfl | hw
    · simp
    · exact ih us hu w hw
  · intro c r hc ih ts h
    rw [toks_two hc] at h
    obtain ⟨us, hu, rfl⟩ := Option.map_eq_some_iff.mp h
    intro w hw
    rcases List.mem_cons.mp hw with rfl | hw
    · simp
    · exact ih us hu w hw
  · intro c r hc hn ih ts h
    rw [toks_one hc hn] at h
    obtain ⟨us, hu, rfl⟩ := Option.map_eq_some_iff.mp h
    intro w hw
    rcases List.mem_cons.mp hw with rfl | hw
    · simp
    · exact ih us hu w hw
  · intro c r h0 h1 h2 ts h
    rw [toks_bad h0 h1 h2] at h; cases h
/-! ### conditions -/
inductive Cnd where
  | all
  | cmp (am : Bool) (o : Tx) (n : Int)
  | nam (k : Bool) (x : Tx)
  | not (c : Cnd)
  | and (c d : Cnd)
  | or (c d : Cnd)
  deriving DecidableEq
namespace Cnd
def isOr : Cnd → Bool
  | .or _ _ => true
  | _ => false
def isAnd : Cnd → Bool
  | .and _ _ => true
  | _ => false
def isBin (c : Cnd) : Bool := c.isAnd || c.isOr
def ok : Cnd → Prop
  | .all => True
  | .cmp _ o n => o ∈ ops ∧ n.natAbs ≤ 1000000
  | .nam _ x => isName x = true
  | .not c => c.ok
  | .and c d => c.ok ∧ d.ok
  | .or c d => c.ok ∧ d.ok
def depth : Cnd → Nat
  | .not c => c.depth + 1
  | .and c d => max c.depth d.depth + 1
  | .or c d => max c.depth d.depth + 1
  | _ => 1
def mk (b : Bool) (n : Nat) : Nat := if b then n + 1 else n
def marks : Cnd → Nat
  | .not c => mk c.isBin c.marks + 1
  | .and c d => max (mk c.isOr c.marks) (mk d.isBin d.marks)
  | .or c d => max c.marks (mk d.isOr d.marks)
  | _ => 0
def br (b : Bool) (l : List Tx) : List Tx := if b then [40] :: (l ++ [[41]]) else l
def numToks (n : Int) : List Tx := if n < 0 then [[45], dig n.natAbs] else [dig n.natAbs]
def wtoks : Cnd → List Tx
  | .all => [wAll]
  | .cmp am o n => (if am then wAmount else wWeight) :: o :: numToks n
  | .nam k x => [if k then wKey else wGroup, x]
  | .not c => wNot :: br c.isBin c.wtoks
  | .and c d => br c.isOr c.wtoks ++ wAnd :: br d.isBin d.wtoks
  | .or c d => c.wtoks ++ wOr :: br d.isOr d.wtoks
def brT (b : Bool) (l : Tx) : Tx := if b then 40 :: (l ++ [41]) else l
/-- the written form -/
def write : Cnd → Tx
  | .all => wAll
  | .cmp am o n => (if am then wAmount else wWeight) ++ 32 :: (o ++ 32 :: numT n)
  | .nam k x => (if k then wKey else wGroup) ++ 32 :: x
  | .not c => wNot ++ 32 :: brT c.isBin c.write
  | .and c d => brT c.isOr c.write ++ 32 :: (wAnd ++ 32 :: brT d.isBin d.write)
  | .or c d => c.write ++ 32 :: (wOr ++ 32 :: brT d.isOr d.write)
end Cnd
open Cnd
/-! ### the parser -/
abbrev Res := Option (Cnd × List Tx)
def hd (r : List Tx) : Tx := r.headD []
def loopF (word : Tx) (f : Cnd → Cnd → Cnd) (sub : List Tx → Res) : Nat → Cnd → List Tx → Res
  | 0, c, r => if hd r = word then none else some (c, r)
  | n + 1, c, r => if hd r = word then (match sub r.tail with | some (d, r') => loopF word f sub n (f c d) r' | none => none) else some (c, r)
def bothOf (sub : List Tx → Res) (r : List Tx) : Res := match sub r with
  | some (c, r') => loopF wAnd .and sub r'.length c r'
  | none => none
def eithOf (sub : List Tx → Res) (r : List Tx) : Res := match bothOf sub r with
  | some (c, r') => loopF wOr .or (bothOf sub) r'.length c r'
  | none => none
def intF (r : List Tx) : Option (Int × List Tx) :=
  if hd r = [45] then (if isWritten (hd r.tail) = true ∧ hd r.tail ≠ [48] ∧ (hd r.tail).length ≤ 9 ∧ val (hd r.tail) ≤ 1000000 then some (-(val (hd r.tail) : Int), r.tail.tail) else none)
  else if isWritten (hd r) = true ∧ (hd r).length ≤ 9 ∧ val (hd r) ≤ 1000000 then some ((val (hd r) : Int), r.tail) else none
def atomF (r : List Tx) : Res :=
  if hd r = wAll then some (.all, r.tail)
  else if hd r = wWeight ∨ hd r = wAmount then (if hd r.tail ∈ ops then (match intF r.tail.tail with | some (n, r') => some (.cmp (decide (hd r = wAmount)) (hd r.tail) n, r') | none => none) else none)
  else if hd r = wGroup ∨ hd r = wKey then (if isName (hd r.tail) = true then some (.nam (decide (hd r = wKey)) (hd r.tail), r.tail.tail) else none)
  else none
def negF : Nat → List Tx → Res
  | 0, r => if hd r = wNot then none else if hd r = [40] then none else atomF r
  | m + 1, r => if hd r = wNot then (match negF m r.tail with | some (c, r') => some (.not c, r') | none => none)
    else if hd r = [40] then (match eithOf (negF m) r.tail with | some (c, r') => if hd r' = [41] then some (c, r'.tail) else none | none => none)
    else atomF r
def parseT (ts : List Tx) : Option Cnd := match eithOf (negF 20) ts with
  | some (c, r) => if r = [] then some c else none
  | none => none
def parseF (t : Tx) : Option Cnd := match toks t with
  | some ts => parseT ts
  | none => none
end K05
/-! The plain law of conditions: what is parsed is read back from its written form. -/
namespace K05
open Cnd
/-! ### Lemma A: the tokens of the written form -/
theorem name_iff {w : Tx} : isName w = true ↔ 1 ≤ w.length ∧ w.length ≤ 12 ∧ w.all isSign = true := by
  unfold isName; simp [and_assoc]
theorem dig_signs (n : Nat) : (dig n).all isSign = true := by
  have h := dig_all n
  rw [List.all_eq_true] at h ⊢
  exact fun x hx => sign_of_dig (h x hx)
/-- behind a written form stands nothing, a space or a bracket -/
def Cut (t : Tx) : Prop := t = [] ∨ (∃ r, t = 32 :: r) ∨ ∃ r, t = 41 :: r
theorem Cut.stop {t : Tx} (h : Cut t) : Stop t := by
  rcases h with rfl | ⟨r, rfl⟩ | ⟨r, rfl⟩
  · exact stop_nil
  · exact stop_cons (by decide)
  · exact stop_cons (by decide)
theorem Cut.sp (r : Tx) : Cut (32 :: r) := .inr (.inl ⟨r, rfl⟩)
theorem Cut.par (r : Tx) : Cut (41 :: r) := .inr (.inr ⟨r, rfl⟩)
def pfx (l : List Tx) (o : Option (List Tx)) : Option (List Tx) := o.map (l ++ ·)
theorem pfx_pfx (l m : List Tx) (o : Option (List Tx)) : pfx l (pfx m o) = pfx (l ++ m) o := by
  cases o <;> simp [pfx]
theorem pfx_one (w : Tx) (o : Option (List Tx)) : o.map (w :: ·) = pfx [w] o := by
  cases o <;> rfl
theorem toks_par {t : Tx} (c : Nat) (h : c = 40 ∨ c = 41) : toks (c :: t) = pfx [[c]] (toks t) := by
  rw [toks_one (by omega) (by omega), pfx_one]
theorem toks_numT (n : Int) {t : Tx} (h : Cut t) : toks (numT n ++ t) = pfx (numToks n) (toks t) := by
  unfold numT numToks
  by_cases c : n < 0
  · rw [if_pos c, if_pos c, List.cons_append]
    rw [toks_one (c := 45) (by simp) (by simp), toks_word (dig_ne _) (dig_signs _) h.stop, pfx_one, pfx_one, pfx_pfx]
    rfl
  · rw [if_neg c, if_neg c, toks_word (dig_ne _) (dig_signs _) h.stop, pfx_one]
theorem toks_kw {w : Tx} (hw : w ≠ []) (ha : w.all isSign = true) (t : Tx) : toks (w ++ 32 :: t) = pfx [w] (toks t) := by
  rw [toks_word hw ha (stop_cons (by decide)), toks_space, pfx_one]
theorem toks_br {b : Bool} {l : Tx} {m : List Tx} (ih : ∀ t, Cut t → toks (l ++ t) = pfx m (toks t)) {t : Tx} (h : Cut t) : toks (brT b l ++ t) = pfx (br b m) (toks t) := by
  cases b with
  | false => exact ih t h
  | true =>
    show toks (40 :: (l ++ [41]) ++ t) = pfx ([40] :: (m ++ [[41]])) (toks t)
    rw [List.cons_append, List.append_assoc, toks_par 40 (.inl rfl), List.singleton_append, ih _ (Cut.par t), toks_par 41 (.inr rfl), pfx_pfx, pfx_pfx]
    rfl
theorem toks_write : ∀ (c : Cnd), c.ok → ∀ t, Cut t → toks (c.write ++ t) = pfx c.wtoks (toks t)
  | .all, _, t, h => by
    show toks (wAll ++ t) = _
    rw [toks_word (by decide) (by decide) h.stop, pfx_one]; rfl
  | .cmp am o n, hk, t, h => by
    show toks (((if am then wAmount else wWeight) ++ 32 :: (o ++ 32 :: numT n)) ++ t) = pfx ((if am then wAmount else wWeight) :: o :: numToks n) (toks t)
    rw [List.append_assoc, List.cons_append, toks_kw (by cases am <;> decide) (by cases am <;> decide), List.append_assoc, List.cons_append, toks_op hk.1, pfx_one, toks_numT n h, pfx_pfx, pfx_pfx]
    rfl
  | .nam k x, hk, t, h => by
    have q := name_iff.mp (show isName x = true from hk)
    show toks (((if k then wKey else wGroup) ++ 32 :: x) ++ t) = pfx [if k then wKey else wGroup, x] (toks t)
    rw [List.append_assoc, List.cons_append, toks_kw (by cases k <;> decide) (by cases k <;> decide), toks_word (by intro e; rw [e] at q; simp at q) q.2.2 h.stop, pfx_one, pfx_pfx]
    rfl
  | .not c, hk, t, h => by
    show toks ((wNot ++ 32 :: brT c.isBin c.write) ++ t) = pfx (wNot :: br c.isBin c.wtoks) (toks t)
    rw [List.append_assoc, List.cons_append, toks_kw (by decide) (by decide), toks_br (toks_write c hk) h, pfx_pfx]
    rfl
  | .and c d, hk, t, h => by
    show toks ((brT c.isOr c.write ++ 32 :: (wAnd ++ 32 :: brT d.isBin d.write)) ++ t) = pfx (br c.isOr c.wtoks ++ wAnd :: br d.isBin d.wtoks) (toks t)
    rw [List.append_assoc, List.cons_append, toks_br (toks_write c hk.1) (Cut.sp _), toks_space, List.append_assoc, List.cons_append, toks_kw (by decide) (by decide), toks_br (toks_write d hk.2) h, pfx_pfx, pfx_pfx, List.append_assoc]
    rfl
  | .or c d, hk, t, h => by
    show toks ((c.write ++ 32 :: (wOr ++ 32 :: brT d.isOr d.write)) ++ t) = pfx (c.wtoks ++ wOr :: br d.isOr d.wtoks) (toks t)
    rw [List.append_assoc, List.cons_append, toks_write c hk.1 _ (Cut.sp _), toks_space, List.append_assoc, List.cons_append, toks_kw (by decide) (by decide), toks_br (toks_write d hk.2) h, pfx_pfx, pfx_pfx, List.append_assoc]
    rfl
theorem toks_write0 (c : Cnd) (h : c.ok) : toks c.write = some c.wtoks := by
  have q := toks_write c h [] (.inl rfl)
  rw [List.append_nil, toks_nil] at q
  simpa [pfx] using q
/-! ### sizes -/
/-- signs other than spaces and brackets; opening brackets -/
def othS (c : Nat) : Bool := !(decide (c = 32) || decide (c = 40) || decide (c = 41))
def szT (t : Tx) : Nat := (t.filter othS).length
def parT (t : Tx) : Nat := (t.filter (fun c => decide (c = 40))).length
def szW (ts : List Tx) : Nat := szT ts.flatten
def parW (ts : List Tx) : Nat := parT ts.flatten
theorem szT_app (a b : Tx) : szT (a ++ b) = szT a + szT b := by unfold szT; rw [List.filter_append, List.length_append]
theorem parT_app (a b : Tx) : parT (a ++ b) = parT a + parT b := by unfold parT; rw [List.filter_append, List.length_append]
theorem szW_app (a b : List Tx) : szW (a ++ b) = szW a + szW b := by unfold szW; rw [List.flatten_append, szT_app]
theorem parW_app (a b : List Tx) : parW (a ++ b) = parW a + parW b := by unfold parW; rw [List.flatten_append, parT_app]
theorem szW_cons (w : Tx) (b : List Tx) : szW (w :: b) = szT w + szW b := by unfold szW; rw [List.flatten_cons, szT_app]
theorem parW_cons (w : Tx) (b : List Tx) : parW (w :: b) = parT w + parW b := by unfold parW; rw [List.flatten_cons, parT_app]
theorem szW_nil : szW [] = 0 := rfl
theorem parW_nil : parW [] = 0 := rfl
theorem szT_toks {t : Tx} {ts : List Tx} (h : toks t = some ts) : szT t = szW ts := by
  unfold szW
  rw [toks_flat t ts h]
  unfold szT
  rw [List.filter_filter]
  congr 2
  funext c
  unfold othS noSp
  by_cases e : c = 32 <;> simp [e]
theorem parT_toks {t : Tx} {ts : List Tx} (h : toks t = some ts) : parT t = parW ts := by
  unfold parW
  rw [toks_flat t ts h]
  unfold parT
  rw [List.filter_filter]
  congr 2
  funext c
  unfold noSp
  by_cases e : c = 40 <;> simp [e]
theorem szW_br (b : Bool) (l : List Tx) : szW (br b l) = szW l := by
  cases b with
  | false => rfl
  | true =>
    show szW ([40] :: (l ++ [[41]])) = _
    rw [szW_cons, szW_app]
    have e1 : szT [40] = 0 := by decide
    have e2 : szW [[41]] = 0 := by decide
    omega
theorem parW_br (b : Bool) (l : List Tx) : parW (br b l) = mk b (parW l) := by
  cases b with
  | false => rfl
  | true =>
    show parW ([40] :: (l ++ [[41]])) = parW l + 1
    rw [parW_cons, parW_app]
    have e1 : parT [40] = 1 := by decide
    have e2 : parW [[41]] = 0 := by decide
    omega
/-! ### Lemma C: what is parsed -/
theorem hd_cons {r : List Tx} {w : Tx} (h : hd r = w) (ne : w ≠ []) : r = w :: r.tail := by
  cases r with
  | nil => exact absurd h.symm ne
  | cons a r => rw [show a = w from h]; rfl
theorem isBin_of {c : Cnd} (h : c.isBin = false) : c.isOr = false ∧ c.isAnd = false := by
  unfold isBin at h
  rw [Bool.or_eq_false_iff] at h
  exact ⟨h.2, h.1⟩
/-- the part u of the tokens was read as c, which may stand where b tells of its brackets -/
structure Got (b : Cnd → Bool) (m : Nat) (u : List Tx) (c : Cnd) : Prop where
  ok : c.ok
  mks : mk (b c) c.marks ≤ m
  sz : szW u = szW c.wtoks
  par : Cnd.mk (b c) (parW c.wtoks) ≤ parW u
def Sound (b : Cnd → Bool) (m : Nat) (sub : List Tx → Res) : Prop := ∀ r c r', sub r = some (c, r') → ∃ u, u ≠ [] ∧ r = u ++ r' ∧ Got b m u c
theorem mk_mono {b b' : Bool} {n : Nat} (h : b = true → b' = true) : mk b n ≤ mk b' n := by
  cases b <;> cases b' <;> simp [Cnd.mk] at *
theorem Got.weak {b b' : Cnd → Bool} {m : Nat} {u : List Tx} {c : Cnd} (g : Got b m u c) (h : b' c = true → b c = true) : Got b' m u c :=
  ⟨g.ok, Nat.le_trans (mk_mono h) g.mks, g.sz, Nat.le_trans (mk_mono h) g.par⟩
theorem intF_sound {r r' : List Tx} {n : Int} (h : intF r = some (n, r')) : n.natAbs ≤ 1000000 ∧ r = numToks n ++ r' := by
  unfold intF at h
  split at h
  · rename_i h1
    split at h
    · rename_i h2
      have e := Option.some.inj h
      injection e with e1 e2
      subst e1 e2
      have a1 := hd_cons h1 (by simp)
      have a2 := hd_cons (r := r.tail) rfl (written_iff.mp h2.1).1
      have pos : val (hd r.tail) ≠ 0 := fun z => by
        have q := dig_val h2.1
        rw [z, dig_lt (by omega)] at q
        exact h2.2.1 q.symm
      refine ⟨by omega, ?_⟩
      unfold numToks
      rw [if_pos (by omega), show (-(val (hd r.tail) : Int)).natAbs = val (hd r.tail) by omega, dig_val h2.1]
      conv => lhs; rw [a1, a2]
      rfl
    · cases h
  · split at h
    · rename_i h2
      have e := Option.some.inj h
      injection e with e1 e2
      subst e1 e2
      have a1 := hd_cons (r := r) rfl (written_iff.mp h2.1).1
      refine ⟨by omega, ?_⟩
      unfold numToks
      rw [if_neg (by omega), show ((val (hd r) : Int)).natAbs = val (hd r) by omega, dig_val h2.1]
      exact a1
    · cases h
theorem ops_ne {o : Tx} (h : o ∈ ops) : o ≠ [] := by
  intro e; subst e; exact absurd h (by decide)
theorem atomF_sound (m : Nat) : Sound isBin m atomF := by
  intro r c r' h
  unfold atomF at h
  split at h
  · rename_i h1
    have e := Option.some.inj h
    injection e with e1 e2
    subst e1 e2
    exact ⟨[wAll], by simp, hd_cons h1 (by decide), trivial, Nat.zero_le _, rfl, Nat.zero_le _⟩
  · split at h
    · rename_i h1
      split at h
      · rename_i h2
        cases hi : intF r.tail.tail with
        | none => rw [hi] at h; cases h
        | some p =>
          obtain ⟨n, r2⟩ := p
          rw [hi] at h
          have e := Option.some.inj h
          injection e with e1 e2
          subst e1 e2
          obtain ⟨hn, er⟩ := intF_sound hi
          have a2 := hd_cons (r := r.tail) rfl (ops_ne h2)
          have a1 : r = (if decide (hd r = wAmount) then wAmount else wWeight) :: r.tail := by
            by_cases q : hd r = wAmount
            · rw [decide_eq_true q]; exact hd_cons q (by decide)
            · rw [decide_eq_false q]; exact hd_cons (h1.resolve_right q) (by decide)
          refine ⟨(Cnd.cmp (decide (hd r = wAmount)) (hd r.tail) n).wtoks, by simp [Cnd.wtoks], ?_, ⟨h2, hn⟩, Nat.zero_le _, rfl, Nat.le_refl _⟩
          conv => lhs; rw [a1, a2, er]
          rfl
      · cases h
    · split at h
      · rename_i h1
        split at h
        · rename_i h2
          have e := Option.some.inj h
          injection e with e1 e2
          subst e1 e2
          have a2 := hd_cons (r := r.tail) rfl (by intro z; rw [z] at h2; exact absurd h2 (by decide))
          have a1 : r = (if decide (hd r = wKey) then wKey else wGroup) :: r.tail := by
            by_cases q : hd r = wKey
            · rw [decide_eq_true q]; exact hd_cons q (by decide)
            · rw [decide_eq_false q]; exact hd_cons (h1.resolve_right q) (by decide)
          refine ⟨(Cnd.nam (decide (hd r = wKey)) (hd r.tail)).wtoks, by simp [Cnd.wtoks], ?_, h2, Nat.zero_le _, rfl, Nat.le_refl _⟩
          conv => lhs; rw [a1, a2]
          rfl
        · cases h
      · cases h
/-- the loop: f puts d behind c -/
theorem loopF_sound {word : Tx} {f : Cnd → Cnd → Cnd} {sub : List Tx → Res} {m : Nat} {b bs : Cnd → Bool} (hw : word ≠ []) (hs : Sound bs m sub)
    (step : ∀ u v c d, Got b m u c → Got bs m v d → Got b m (u ++ word :: v) (f c d)) : ∀ (n : Nat) (c : Cnd) (r : List Tx) (c' : Cnd) (r' : List Tx) (u0 : List Tx), Got b m u0 c → loopF word f sub n c r = some (c', r') →
      ∃ u, r = u ++ r' ∧ Got b m (u0 ++ u) c'
  | 0, c, r, c', r', u0, g, h => by
    unfold loopF at h
    split at h
    · cases h
    · have e := Option.some.inj h
      injection e with e1 e2
      subst e1 e2
      exact ⟨[], rfl, by rw [List.append_nil]; exact g⟩
  | n + 1, c, r, c', r', u0, g, h => by
    unfold loopF at h
    split at h
    · rename_i h1
      cases hq : sub r.tail with
      | none => rw [hq] at h; cases h
      | some p =>
        obtain ⟨d, r2⟩ := p
        rw [hq] at h
        obtain ⟨v, _, ev, gv⟩ := hs _ _ _ hq
        obtain ⟨u, eu, gu⟩ := loopF_sound hw hs step n (f c d) r2 c' r' (u0 ++ word :: v) (step u0 v c d g gv) h
        refine ⟨word :: v ++ u, ?_, ?_⟩
        · rw [hd_cons h1 hw, ev, eu, List.cons_append, List.cons_append, List.append_assoc]
        · rw [← List.append_assoc]; exact gu
    · have e := Option.some.inj h
      injection e with e1 e2
      subst e1 e2
      exact ⟨[], rfl, by rw [List.append_nil]; exact g⟩
theorem got_and {m : Nat} (u v : List Tx) (c d : Cnd) (g : Got isOr m u c) (g' : Got isBin m v d) : Got isOr m (u ++ wAnd :: v) (.and c d) := by
  refine ⟨⟨g.ok, g'.ok⟩, ?_, ?_, ?_⟩
  · exact Nat.max_le.mpr ⟨g.mks, g'.mks⟩
  · show _ = szW (br c.isOr c.wtoks ++ wAnd :: br d.isBin d.wtoks)
    rw [szW_app, szW_app, szW_cons, szW_cons, szW_br, szW_br, g.sz, g'.sz]
  · show parW (br c.isOr c.wtoks ++ wAnd :: br d.isBin d.wtoks) ≤ _
    rw [parW_app, parW_app, parW_cons, parW_cons, parW_br, parW_br]
    have := g.par; have := g'.par; omega
theorem got_or {m : Nat} (u v : List Tx) (c d : Cnd) (g : Got (fun _ => false) m u c) (g' : Got isOr m v d) : Got (fun _ => false) m (u ++ wOr :: v) (.or c d) := by
  refine ⟨⟨g.ok, g'.ok⟩, ?_, ?_, ?_⟩
  · exact Nat.max_le.mpr ⟨g.mks, g'.mks⟩
  · show _ = szW (c.wtoks ++ wOr :: br d.isOr d.wtoks)
    rw [szW_app, szW_app, szW_cons, szW_cons, szW_br, g.sz, g'.sz]
  · show parW (c.wtoks ++ wOr :: br d.isOr d.wtoks) ≤ _
    rw [parW_app, parW_app, parW_cons, parW_cons, parW_br]
    have := g.par; have := g'.par
    simp only [Cnd.mk] at *
    simp at *
    omega
theorem bothOf_sound {m : Nat} {sub : List Tx → Res} (hs : Sound isBin m sub) : Sound isOr m (bothOf sub) := by
  intro r c r' h
  unfold bothOf at h
  cases hq : sub r with
  | none => rw [hq] at h; cases h
  | some p =>
    obtain ⟨d, r2⟩ := p
    rw [hq] at h
    obtain ⟨v, nv, ev, gv⟩ := hs _ _ _ hq
    obtain ⟨u, eu, gu⟩ := loopF_sound (b := isOr) (by decide) hs (fun u v c d => got_and u v c d) _ _ _ _ _ v (gv.weak fun z => by unfold isBin; rw [z, Bool.or_true]) h
    exact ⟨v ++ u, by simp [nv], by rw [ev, eu, List.append_assoc], gu⟩
theorem eithOf_sound {m : Nat} {sub : List Tx → Res} (hs : Sound isBin m sub) : Sound (fun _ => false) m (eithOf sub) := by
  intro r c r' h
  unfold eithOf at h
  cases hq : bothOf sub r with
  | none => rw [hq] at h; cases h
  | some p =>
    obtain ⟨d, r2⟩ := p
    rw [hq] at h
    obtain ⟨v, nv, ev, gv⟩ := bothOf_sound hs _ _ _ hq
    obtain ⟨u, eu, gu⟩ := loopF_sound (b := fun _ => false) (by decide) (bothOf_sound hs) (fun u v c d => got_or u v c d) _ _ _ _ _ v (gv.weak fun z => by cases z) h
    exact ⟨v ++ u, by simp [nv], by rw [ev, eu, List.append_assoc], gu⟩
theorem negF_sound : ∀ m, Sound isBin m (negF m)
  | 0 => by
    intro r c r' h
    unfold negF at h
    split at h
    · cases h
    · split at h
      · cases h
      · exact atomF_sound 0 r c r' h
  | m + 1 => by
    intro r c r' h
    unfold negF at h
    split at h
    · rename_i h1
      cases hq : negF m r.tail with
      | none => rw [hq] at h; cases h
      | some p =>
        obtain ⟨d, r2⟩ := p
        rw [hq] at h
        have e := Option.some.inj h
        injection e with e1 e2
        subst e1 e2
        obtain ⟨v, nv, ev, gv⟩ := negF_sound m _ _ _ hq
        refine ⟨wNot :: v, by simp, ?_, gv.ok, ?_, ?_, ?_⟩
        · rw [hd_cons h1 (by decide), ev]; rfl
        · exact Nat.succ_le_succ gv.mks
        · show _ = szW (wNot :: br d.isBin d.wtoks)
          rw [szW_cons, szW_cons, szW_br, gv.sz]
        · show parW (wNot :: br d.isBin d.wtoks) ≤ _
          rw [parW_cons, parW_cons, parW_br]
          have := gv.par; omega
    · split at h
      · rename_i h0 h1
        cases hq : eithOf (negF m) r.tail with
        | none => rw [hq] at h; cases h
        | some p =>
          obtain ⟨d, r2⟩ := p
          rw [hq] at h
          dsimp only at h
          split at h
          · rename_i h2
            have e := Option.some.inj h
            injection e with e1 e2
            subst e1 e2
            obtain ⟨v, nv, ev, gv⟩ := eithOf_sound (negF_sound m) _ _ _ hq
            refine ⟨[40] :: (v ++ [[41]]), by simp, ?_, gv.ok, ?_, ?_, ?_⟩
            · rw [hd_cons h1 (by simp), ev, hd_cons h2 (by simp)]; simp
            · have z := gv.mks
              have y : mk d.isBin d.marks ≤ d.marks + 1 := by unfold Cnd.mk; split <;> omega
              have z' : d.marks ≤ m := z
              omega
            · show szW (br true v) = _
              rw [szW_br, gv.sz]
            · show _ ≤ parW (br true v)
              rw [parW_br]
              have z : parW d.wtoks ≤ parW v := gv.par
              have y : mk d.isBin (parW d.wtoks) ≤ parW d.wtoks + 1 := by unfold Cnd.mk; split <;> omega
              show _ ≤ parW v + 1
              omega
          · cases h
      · exact atomF_sound (m + 1) r c r' h
/-! ### Lemma B: the written form is read -/
def Shrinks (sub : List Tx → Res) : Prop := ∀ r c r', sub r = some (c, r') → r'.length ≤ r.length
theorem Sound.shrinks {b : Cnd → Bool} {m : Nat} {sub : List Tx → Res} (h : Sound b m sub) : Shrinks sub := fun r c r' e => by
  obtain ⟨u, _, e, _⟩ := h r c r' e
  rw [e, List.length_append]; omega
theorem loopF_stop {word : Tx} {f : Cnd → Cnd → Cnd} {sub : List Tx → Res} {c : Cnd} {r : List Tx} (h : hd r ≠ word) (n : Nat) : loopF word f sub n c r = some (c, r) := by
  cases n <;> simp [loopF, h]
theorem loopF_go {word : Tx} {f : Cnd → Cnd → Cnd} {sub : List Tx → Res} {c d : Cnd} {r r' : List Tx} (n : Nat) (h : sub r = some (d, r')) : loopF word f sub (n + 1) c (word :: r) = loopF word f sub n (f c d) r' := by
  rw [loopF, if_pos (show hd (word :: r) = word from rfl)]
  show (match sub r with | some (d, r') => loopF word f sub n (f c d) r' | none => none) = _
  rw [h]
theorem loopF_fuel {word : Tx} {f : Cnd → Cnd → Cnd} {sub : List Tx → Res} (hw : word ≠ []) (hs : Shrinks sub) : ∀ (n k : Nat) (c : Cnd) (r : List Tx), r.length ≤ n → r.length ≤ k → loopF word f sub n c r = loopF word f sub k c r
  | 0, k, c, r, h1, h2 => by
    have : r = [] := List.eq_nil_of_length_eq_zero (by omega)
    subst this
    rw [loopF_stop (fun e => hw e.symm), loopF_stop (fun e => hw e.symm)]
  | n + 1, k, c, r, h1, h2 => by
    by_cases e : hd r = word
    · have er := hd_cons e hw
      have hl : r.length = r.tail.length + 1 := by rw [er]; rfl
      cases k with
      | zero => omega
      | succ k =>
        unfold loopF
        rw [if_pos e, if_pos e]
        cases hq : sub r.tail with
        | none => rfl
        | some p =>
          obtain ⟨d, r2⟩ := p
          have := hs _ _ _ hq
          exact loopF_fuel hw hs n k _ _ (by omega) (by omega)
    · rw [loopF_stop e, loopF_stop e]
theorem ops_neg {o : Tx} (h : o ∈ ops) : o ≠ wNot ∧ o ≠ [40] := by
  constructor <;> (intro e; subst e; exact absurd h (by decide))
theorem intF_read {n : Int} (h : n.natAbs ≤ 1000000) (r : List Tx) : intF (numToks n ++ r) = some (n, r) := by
  have hl : (dig n.natAbs).length ≤ 9 := by
    have := dig_len 8 n.natAbs (by omega)
    omega
  unfold numToks
  by_cases c : n < 0
  · rw [if_pos c]
    show intF ([45] :: dig n.natAbs :: r) = _
    unfold intF
    rw [if_pos (show hd ([45] :: dig n.natAbs :: r) = [45] from rfl)]
    show (if isWritten (dig n.natAbs) = true ∧ dig n.natAbs ≠ [48] ∧ (dig n.natAbs).length ≤ 9 ∧ val (dig n.natAbs) ≤ 1000000 then some (-(val (dig n.natAbs) : Int), r) else none) = _
    have ne : dig n.natAbs ≠ [48] := fun e => by
      have q := congrArg val e
      rw [val_dig] at q
      have : val [48] = 0 := rfl
      omega
    rw [if_pos ⟨dig_written _, ne, hl, by rw [val_dig]; exact h⟩, val_dig]
    have e : -((n.natAbs : Nat) : Int) = n := by omega
    rw [e]
  · rw [if_neg c]
    show intF (dig n.natAbs :: r) = _
    unfold intF
    rw [if_neg (show ¬ hd (dig n.natAbs :: r) = [45] from fun e => ?_)]
    · show (if isWritten (dig n.natAbs) = true ∧ (dig n.natAbs).length ≤ 9 ∧ val (dig n.natAbs) ≤ 1000000 then some ((val (dig n.natAbs) : Int), r) else none) = _
      rw [if_pos ⟨dig_written _, hl, by rw [val_dig]; exact h⟩, val_dig]
      congr 2; omega
    · have e' : dig n.natAbs = [45] := e
      have q := dig_all n.natAbs
      rw [e'] at q
      exact absurd q (by decide)
theorem atomF_all (r : List Tx) : atomF (wAll :: r) = some (.all, r) := by
  unfold atomF; rw [if_pos (show hd (wAll :: r) = wAll from rfl)]; rfl
theorem atomF_cmp {o : Tx} {n : Int} (am : Bool) (ho : o ∈ ops) (hn : n.natAbs ≤ 1000000) (r : List Tx) : atomF ((if am then wAmount else wWeight) :: o :: numToks n ++ r) = some (.cmp am o n, r) := by
  have key : ∀ w : Tx, w ≠ wAll → (w = wWeight ∨ w = wAmount) → atomF (w :: o :: (numToks n ++ r)) = some (.cmp (decide (w = wAmount)) o n, r) := fun w h0 h1 => by
    unfold atomF
    rw [if_neg (show ¬ hd (w :: o :: (numToks n ++ r)) = wAll from h0), if_pos (show hd (w :: o :: (numToks n ++ r)) = wWeight ∨ hd (w :: o :: (numToks n ++ r)) = wAmount from h1), if_pos (show hd (w :: o :: (numToks n ++ r)).tail ∈ ops from ho)]
    show (match intF (numToks n ++ r) with | some (n, r') => some (Cnd.cmp (decide (w = wAmount)) o n, r') | none => none) = _
    rw [intF_read hn]
  cases am with
  | true => exact key wAmount (by decide) (.inr rfl)
  | false => exact key wWeight (by decide) (.inl rfl)
theorem atomF_nam {x : Tx} (k : Bool) (hx : isName x = true) (r : List Tx) : atomF ((if k then wKey else wGroup) :: x :: r) = some (.nam k x, r) := by
  have key : ∀ w : Tx, w ≠ wAll → ¬ (w = wWeight ∨ w = wAmount) → (w = wGroup ∨ w = wKey) → atomF (w :: x :: r) = some (.nam (decide (w = wKey)) x, r) := fun w h0 h1 h2 => by
    unfold atomF
    rw [if_neg (show ¬ hd (w :: x :: r) = wAll from h0), if_neg (show ¬ (hd (w :: x :: r) = wWeight ∨ hd (w :: x :: r) = wAmount) from h1), if_pos (show hd (w :: x :: r) = wGroup ∨ hd (w :: x :: r) = wKey from h2), if_pos (show isName (hd (w :: x :: r).tail) = true from hx)]
    rfl
  cases k with
  | true => exact key wKey (by decide) (by decide) (.inr rfl)
  | false => exact key wGroup (by decide) (by decide) (.inl rfl)
theorem negF_atom {w : Tx} {r : List Tx} (h1 : w ≠ wNot) (h2 : w ≠ [40]) (m : Nat) : negF m (w :: r) = atomF (w :: r) := by
  cases m <;> (unfold negF; rw [if_neg (show ¬ hd (w :: r) = wNot from h1), if_neg (show ¬ hd (w :: r) = [40] from h2)])
/-- what is read in brackets -/
theorem negF_par {m : Nat} {l r : List Tx} {c : Cnd} (h : eithOf (negF m) (l ++ [41] :: r) = some (c, [41] :: r)) : negF (m + 1) (br true l ++ r) = some (c, r) := by
  have e : br true l ++ r = [40] :: (l ++ [41] :: r) := by
    show [40] :: (l ++ [[41]]) ++ r = _
    simp
  rw [e]
  unfold negF
  rw [if_neg (show ¬ hd ([40] :: (l ++ [41] :: r)) = wNot from by show ¬ [40] = wNot; decide), if_pos (show hd ([40] :: (l ++ [41] :: r)) = [40] from rfl)]
  show (match eithOf (negF m) (l ++ [41] :: r) with | some (c, r') => if hd r' = [41] then some (c, r'.tail) else none | none => none) = _
  rw [h]
  rfl
structure Reads (c : Cnd) : Prop where
  neg : ∀ m, c.isBin = false → c.marks ≤ m → ∀ R, negF m (c.wtoks ++ R) = some (c, R)
  both : ∀ m, c.isOr = false → c.marks ≤ m → ∀ R n, R.length ≤ n → bothOf (negF m) (c.wtoks ++ R) = loopF wAnd .and (negF m) n c R
  eith : ∀ m, c.marks ≤ m → ∀ R n, hd R ≠ wAnd → R.length ≤ n → eithOf (negF m) (c.wtoks ++ R) = loopF wOr .or (bothOf (negF m)) n c R
theorem both_of_neg {sub : List Tx → Res} (hs : Shrinks sub) {l R : List Tx} {c : Cnd} (h : sub (l ++ R) = some (c, R)) (n : Nat) (hn : R.length ≤ n) : bothOf sub (l ++ R) = loopF wAnd .and sub n c R := by
  unfold bothOf
  rw [h]
  exact loopF_fuel (by decide) hs _ _ _ _ (Nat.le_refl _) hn
theorem eith_of_both {sub : List Tx → Res} (hs : Shrinks (bothOf sub)) {l R : List Tx} {c : Cnd} (h : bothOf sub (l ++ R) = some (c, R)) (n : Nat) (hn : R.length ≤ n) : eithOf sub (l ++ R) = loopF wOr .or (bothOf sub) n c R := by
  unfold eithOf
  rw [h]
  exact loopF_fuel (by decide) hs _ _ _ _ (Nat.le_refl _) hn
theorem negS (m : Nat) : Shrinks (negF m) := (negF_sound m).shrinks
theorem bothS (m : Nat) : Shrinks (bothOf (negF m)) := (bothOf_sound (negF_sound m)).shrinks
theorem neg_br {c : Cnd} (q : Reads c) {m : Nat} {b : Bool} (hb : b = false → c.isBin = false) (hm : mk b c.marks ≤ m) (R : List Tx) : negF m (br b c.wtoks ++ R) = some (c, R) := by
  cases b with
  | false => exact q.neg m (hb rfl) hm R
  | true =>
    have hm' : c.marks + 1 ≤ m := hm
    obtain ⟨k, rfl⟩ : ∃ k, m = k + 1 := ⟨m - 1, by omega⟩
    refine negF_par ?_
    rw [q.eith k (by omega) _ _ (by show [41] ≠ wAnd; decide) (Nat.le_refl _)]
    exact loopF_stop (by show [41] ≠ wOr; decide) _
theorem Reads.simple {c : Cnd} (hb : c.isBin = false) (h : ∀ m, c.marks ≤ m → ∀ R, negF m (c.wtoks ++ R) = some (c, R)) : Reads c where
  neg := fun m _ hm R => h m hm R
  both := fun m _ hm R n hn => both_of_neg (negS m) (h m hm R) n hn
  eith := fun m hm R n hR hn => eith_of_both (bothS m) (by rw [both_of_neg (negS m) (h m hm R) R.length (Nat.le_refl _)]; exact loopF_stop hR _) n hn
theorem both_br {c : Cnd} (q : Reads c) {m : Nat} (hm : mk c.isOr c.marks ≤ m) (R : List Tx) (n : Nat) (hn : R.length ≤ n) : bothOf (negF m) (br c.isOr c.wtoks ++ R) = loopF wAnd .and (negF m) n c R := by
  cases hb : c.isOr with
  | false =>
    rw [hb] at hm
    exact q.both m hb hm R n hn
  | true =>
    rw [hb] at hm
    exact both_of_neg (negS m) (neg_br q (b := true) (fun z => by cases z) hm R) n hn
theorem reads : ∀ c : Cnd, c.ok → Reads c
  | .all, _ => Reads.simple rfl fun m _ R => by
    show negF m (wAll :: R) = _
    rw [negF_atom (by decide) (by decide), atomF_all]
  | .cmp am o n, h => Reads.simple rfl fun m _ R => by
    show negF m ((if am then wAmount else wWeight) :: (o :: numToks n ++ R)) = _
    rw [negF_atom (by cases am <;> decide) (by cases am <;> decide)]
    exact atomF_cmp am h.1 h.2 R
  | .nam k x, h => Reads.simple rfl fun m _ R => by
    show negF m ((if k then wKey else wGroup) :: (x :: R)) = _
    rw [negF_atom (by cases k <;> decide) (by cases k <;> decide)]
    exact atomF_nam k h R
  | .not c, h => Reads.simple rfl fun m hm R => by
    have q := reads c h
    have hm' : mk c.isBin c.marks + 1 ≤ m := hm
    obtain ⟨k, rfl⟩ : ∃ k, m = k + 1 := ⟨m - 1, by omega⟩
    show negF (k + 1) (wNot :: (br c.isBin c.wtoks ++ R)) = _
    unfold negF
    rw [if_pos (show hd (wNot :: (br c.isBin c.wtoks ++ R)) = wNot from rfl)]
    show (match negF k (br c.isBin c.wtoks ++ R) with | some (c, r') => some (Cnd.not c, r') | none => none) = _
    rw [neg_br q (fun z => z) (by omega)]
  | .and c d, h => by
    have qc := reads c h.1
    have qd := reads d h.2
    have B : ∀ m, (Cnd.and c d).marks ≤ m → ∀ R n, R.length ≤ n → bothOf (negF m) ((Cnd.and c d).wtoks ++ R) = loopF wAnd .and (negF m) n (.and c d) R := fun m hm R n hn => by
      have hm' : max (mk c.isOr c.marks) (mk d.isBin d.marks) ≤ m := hm
      have e : (Cnd.and c d).wtoks ++ R = br c.isOr c.wtoks ++ (wAnd :: (br d.isBin d.wtoks ++ R)) := by
        show (br c.isOr c.wtoks ++ wAnd :: br d.isBin d.wtoks) ++ R = _
        rw [List.append_assoc]; rfl
      rw [e, both_br qc (by omega) _ ((wAnd :: (br d.isBin d.wtoks ++ R)).length + n) (by omega)]
      rw [show (wAnd :: (br d.isBin d.wtoks ++ R)).length + n = ((br d.isBin d.wtoks ++ R).length + n) + 1 by simp; omega]
      rw [loopF_go _ (neg_br qd (b := d.isBin) (fun z => z) (by omega) R)]
      exact loopF_fuel (by decide) (negS m) _ _ _ _ (by simp; omega) hn
    refine ⟨fun m hb => (by cases hb), fun m _ => B m, fun m hm R n hR hn => ?_⟩
    exact eith_of_both (bothS m) (by rw [B m hm R R.length (Nat.le_refl _)]; exact loopF_stop hR _) n hn
  | .or c d, h => by
    have qc := reads c h.1
    have qd := reads d h.2
    refine ⟨fun m hb => (by cases hb), fun m hb => (by cases hb), fun m hm R n hR hn => ?_⟩
    have hm' : max c.marks (mk d.isOr d.marks) ≤ m := hm
    have e : (Cnd.or c d).wtoks ++ R = c.wtoks ++ (wOr :: (br d.isOr d.wtoks ++ R)) := by
      show (c.wtoks ++ wOr :: br d.isOr d.wtoks) ++ R = _
      rw [List.append_assoc]; rfl
    rw [e, qc.eith m (by omega) _ ((wOr :: (br d.isOr d.wtoks ++ R)).length + n) (by show wOr ≠ wAnd; decide) (by omega)]
    rw [show (wOr :: (br d.isOr d.wtoks ++ R)).length + n = ((br d.isOr d.wtoks ++ R).length + n) + 1 by simp; omega]
    rw [loopF_go (sub := bothOf (negF m)) (d := d) (r' := R) _ (by rw [both_br qd (by omega) R R.length (Nat.le_refl _)]; exact loopF_stop hR _)]
    exact loopF_fuel (by decide) (bothS m) _ _ _ _ (by simp; omega) hn
/-! ### the law of conditions -/
theorem parseT_some {ts : List Tx} {c : Cnd} (h : parseT ts = some c) : eithOf (negF 20) ts = some (c, []) := by
  unfold parseT at h
  cases hq : eithOf (negF 20) ts with
  | none => rw [hq] at h; cases h
  | some p =>
    obtain ⟨d, r⟩ := p
    rw [hq] at h
    dsimp only at h
    split at h
    · rename_i e
      subst e
      rw [Option.some.inj h]
    · cases h
theorem parse_got {t : Tx} {c : Cnd} (h : parseF t = some c) : c.ok ∧ c.marks ≤ 20 ∧ szT c.write = szT t ∧ parT c.write ≤ parT t := by
  unfold parseF at h
  cases hq : toks t with
  | none => rw [hq] at h; cases h
  | some ts =>
    rw [hq] at h
    obtain ⟨u, _, e, g⟩ := eithOf_sound (negF_sound 20) _ _ _ (parseT_some h)
    rw [List.append_nil] at e
    subst e
    have w := toks_write0 c g.ok
    exact ⟨g.ok, g.mks, by rw [szT_toks w, szT_toks hq]; exact g.sz.symm, by rw [parT_toks w, parT_toks hq]; exact g.par⟩
theorem parse_write {c : Cnd} (h : c.ok) (hm : c.marks ≤ 20) : parseF c.write = some c := by
  unfold parseF
  rw [toks_write0 c h]
  show parseT c.wtoks = some c
  unfold parseT
  have q := (reads c h).eith 20 hm [] 0 (by decide) (Nat.le_refl _)
  rw [List.append_nil] at q
  rw [q]
  rfl
/-! ### bounds -/
theorem szT_signs : ∀ {w : Tx}, w.all isSign = true → szT w = w.length
  | [], _ => rfl
  | a :: w, h => by
    rw [List.all_cons, Bool.and_eq_true] at h
    have q := szT_signs h.2
    have e : othS a = true := by
      have := h.1
      unfold othS
      rw [decide_eq_false (fun e => by subst e; cases this), decide_eq_false (fun e => by subst e; cases this), decide_eq_false (fun e => by subst e; cases this)]
      rfl
    unfold szT at *
    rw [List.filter_cons, if_pos e, List.length_cons, q, List.length_cons]
theorem szT_ops {o : Tx} (h : o ∈ ops) : szT o = o.length ∧ 1 ≤ o.length ∧ o.length ≤ 2 := by
  simp only [ops, List.mem_cons, List.not_mem_nil, or_false] at h
  rcases h with rfl | rfl | rfl | rfl | rfl <;> decide
theorem numT_len {n : Int} (h : n.natAbs ≤ 1000000) : 1 ≤ (numT n).length ∧ (numT n).length ≤ 8 := by
  have q := dig_len 6 n.natAbs (by omega)
  have ne : 1 ≤ (dig n.natAbs).length := by
    have := dig_ne n.natAbs
    cases e : dig n.natAbs with
    | nil => exact absurd e this
    | cons a l => simp
  unfold numT
  split
  · rw [List.length_cons]; omega
  · omega
theorem szT_numT (n : Int) : szT (numT n) = (numT n).length := by
  unfold numT
  split
  · have := szT_signs (dig_signs n.natAbs)
    show szT ([45] ++ dig n.natAbs) = _
    rw [szT_app, this]
    have : szT [45] = 1 := by decide
    simp; omega
  · exact szT_signs (dig_signs n.natAbs)
theorem szT_sp (t : Tx) : szT (32 :: t) = szT t := rfl
theorem szT_brT (b : Bool) (t : Tx) : szT (brT b t) = szT t := by
  cases b with
  | false => rfl
  | true =>
    show szT (40 :: (t ++ [41])) = _
    have : szT (40 :: (t ++ [41])) = szT (t ++ [41]) := rfl
    rw [this, szT_app]
    have : szT [41] = 0 := by decide
    omega
theorem len_brT (b : Bool) (t : Tx) : (brT b t).length ≤ t.length + 2 := by
  cases b with
  | false => exact Nat.le_add_right _ _
  | true =>
    show (40 :: (t ++ [41])).length ≤ _
    simp
/-- the written form's length, the condition's depth, by the signs -/
theorem write_bounds : ∀ c : Cnd, c.ok → c.write.length ≤ 3 * szT c.write ∧ 3 * c.depth ≤ szT c.write
  | .all, _ => ⟨by decide, by decide⟩
  | .cmp am o n, h => by
    have ho := szT_ops h.1
    have hn := numT_len h.2
    have e1 : szT (if am then wAmount else wWeight) = 6 := by cases am <;> decide
    have e2 : (if am then wAmount else wWeight).length = 6 := by cases am <;> decide
    show ((if am then wAmount else wWeight) ++ 32 :: (o ++ 32 :: numT n)).length ≤ 3 * szT ((if am then wAmount else wWeight) ++ 32 :: (o ++ 32 :: numT n)) ∧ 3 * 1 ≤ szT ((if am then wAmount else wWeight) ++ 32 :: (o ++ 32 :: numT n))
    rw [szT_app, szT_sp, szT_app, szT_sp, szT_numT, e1, ho.1, List.length_append, e2, List.length_cons, List.length_append, List.length_cons]
    omega
  | .nam k x, h => by
    have q := name_iff.mp (show isName x = true from h)
    have e1 : szT (if k then wKey else wGroup) = if k then 3 else 5 := by cases k <;> decide
    have e2 : (if k then wKey else wGroup).length = if k then 3 else 5 := by cases k <;> decide
    show ((if k then wKey else wGroup) ++ 32 :: x).length ≤ 3 * szT ((if k then wKey else wGroup) ++ 32 :: x) ∧ 3 * 1 ≤ szT ((if k then wKey else wGroup) ++ 32 :: x)
    rw [szT_app, szT_sp, szT_signs q.2.2, e1, List.length_append, e2, List.length_cons]
    cases k <;> simp <;> omega
  | .not c, h => by
    have q := write_bounds c h
    show (wNot ++ 32 :: brT c.isBin c.write).length ≤ 3 * szT (wNot ++ 32 :: brT c.isBin c.write) ∧ 3 * (c.depth + 1) ≤ szT (wNot ++ 32 :: brT c.isBin c.write)
    have l := len_brT c.isBin c.write
    have e1 : szT wNot = 3 := by decide
    have e2 : wNot.length = 3 := by decide
    rw [szT_app, szT_sp, szT_brT, List.length_append, List.length_cons, e1, e2]
    omega
  | .and c d, h => by
    have q := write_bounds c h.1
    have q' := write_bounds d h.2
    show (brT c.isOr c.write ++ 32 :: (wAnd ++ 32 :: brT d.isBin d.write)).length ≤ 3 * szT (brT c.isOr c.write ++ 32 :: (wAnd ++ 32 :: brT d.isBin d.write)) ∧ 3 * (max c.depth d.depth + 1) ≤ szT (brT c.isOr c.write ++ 32 :: (wAnd ++ 32 :: brT d.isBin d.write))
    have l := len_brT c.isOr c.write
    have l' := len_brT d.isBin d.write
    have e1 : szT wAnd = 3 := by decide
    have e2 : wAnd.length = 3 := by decide
    rw [szT_app, szT_sp, szT_app, szT_sp, szT_brT, szT_brT, List.length_append, List.length_cons, List.length_append, List.length_cons, e1, e2]
    omega
  | .or c d, h => by
    have q := write_bounds c h.1
    have q' := write_bounds d h.2
    show (c.write ++ 32 :: (wOr ++ 32 :: brT d.isOr d.write)).length ≤ 3 * szT (c.write ++ 32 :: (wOr ++ 32 :: brT d.isOr d.write)) ∧ 3 * (max c.depth d.depth + 1) ≤ szT (c.write ++ 32 :: (wOr ++ 32 :: brT d.isOr d.write))
    have l' := len_brT d.isOr d.write
    have e1 : szT wOr = 2 := by decide
    have e2 : wOr.length = 2 := by decide
    have d1 : 1 ≤ c.depth := by cases c <;> simp [Cnd.depth]
    have d2 : 1 ≤ d.depth := by cases d <;> simp [Cnd.depth]
    rw [szT_app, szT_sp, szT_app, szT_sp, szT_brT, List.length_append, List.length_cons, List.length_append, List.length_cons, e1, e2]
    omega
theorem szT_le (t : Tx) : szT t ≤ t.length := List.length_filter_le _ _
end K05
/-! The plain law of items: what is read is read again from what is written. -/
namespace K05
/-! ### cutting at a sign -/
def splitC (s : Nat) : Tx → List Tx
  | [] => [[]]
  | c :: r => if c = s then [] :: splitC s r else (match splitC s r with | [] => [[c]] | w :: ws => (c :: w) :: ws)
theorem splitC_cons (s : Nat) : ∀ l : Tx, ∃ w ws, splitC s l = w :: ws
  | [] => ⟨[], [], rfl⟩
  | c :: r => by
    unfold splitC
    split
    · exact ⟨_, _, rfl⟩
    · obtain ⟨w, ws, e⟩ := splitC_cons s r
      rw [e]; exact ⟨_, _, rfl⟩
theorem splitC_len (s : Nat) : ∀ l : Tx, (splitC s l).length ≤ l.length + 1
  | [] => Nat.le_refl _
  | c :: r => by
    have ih := splitC_len s r
    unfold splitC
    split
    · simp; exact ih
    · obtain ⟨w, ws, e⟩ := splitC_cons s r
      rw [e] at ih ⊢
      simp at ih ⊢; omega
theorem splitC_free {s : Nat} : ∀ {w : Tx}, s ∉ w → splitC s w = [w]
  | [], _ => rfl
  | c :: r, h => by
    rw [List.mem_cons, not_or] at h
    unfold splitC
    rw [if_neg (fun e => h.1 e.symm), splitC_free h.2]
theorem splitC_app {s : Nat} : ∀ {w t : Tx}, s ∉ w → splitC s (w ++ s :: t) = w :: splitC s t
  | [], t, _ => by
    show splitC s (s :: t) = _
    rw [splitC, if_pos rfl]
  | c :: r, t, h => by
    rw [List.mem_cons, not_or] at h
    show splitC s (c :: (r ++ s :: t)) = _
    rw [splitC, if_neg (fun e => h.1 e.symm), splitC_app h.2]
/-! ### rows -/
structure Row where
  key : Tx
  grp : Tx
  wt : Int
  am : Int
  deriving DecidableEq
structure Row.Ok (r : Row) : Prop where
  key : isName r.key = true
  grp : isName r.grp = true
  w1 : 1 ≤ r.wt
  w2 : r.wt ≤ 1000
  a1 : -1000 ≤ r.am
  a2 : r.am ≤ 1000
def line (r : Row) : Tx := r.key ++ 32 :: (r.grp ++ 32 :: (numT r.wt ++ 32 :: numT r.am))
def writeI (rows : List Row) : Tx := (rows.map fun r => line r ++ [10]).flatten
def linesF (t : Tx) : List Tx := if (splitC 10 t).getLast? = some [] then (splitC 10 t).dropLast else splitC 10 t
def digs (w : Tx) : Tx := if w.take 1 = [45] then w.drop 1 else w
def intOf (w : Tx) : Option Int :=
  if ¬ isWritten (digs w) = true ∨ w = [45, 48] ∨ 9 < (digs w).length then none
  else some (if w.take 1 = [45] then -(val (digs w) : Int) else (val (digs w) : Int))
def readLine (known : List Tx) (l : Tx) : Option Row :=
  match splitC 32 l with
  | [k, g, w, a] =>
    if isName k = true then
      if isName g = true then
        match intOf w with
        | none => none
        | some wv =>
          if 1 ≤ wv ∧ wv ≤ 1000 then
            match intOf a with
            | none => none
            | some av =>
              if -1000 ≤ av ∧ av ≤ 1000 then
                if k ∈ known then none else some ⟨k, g, wv, av⟩
              else none
          else none
      else none
    else none
  | _ => none
def readGo (known : List Tx) : List Tx → Option (List Row)
  | [] => some []
  | l :: ls => match readLine known l with
    | none => none
    | some r => (readGo (known ++ [r.key]) ls).map (r :: ·)
def readI (t : Tx) : Option (List Row) := readGo [] (linesF t)
theorem readLine_ok {known : List Tx} {l : Tx} {r : Row} (h : readLine known l = some r) : r.Ok ∧ r.key ∉ known := by
  unfold readLine at h
  split at h
  · rename_i k g w a _
    split at h
    · rename_i h1
      split at h
      · rename_i h2
        split at h
        · cases h
        · rename_i wv _
          split at h
          · rename_i h3
            split at h
            · cases h
            · rename_i av _
              split at h
              · rename_i h4
                split at h
                · cases h
                · rename_i h5
                  have e := Option.some.inj h
                  subst e
                  exact ⟨⟨h1, h2, h3.1, h3.2, h4.1, h4.2⟩, h5⟩
              · cases h
          · cases h
      · cases h
    · cases h
  · cases h
theorem readGo_ok : ∀ {ls known rows}, readGo known ls = some rows → (∀ r ∈ rows, r.Ok) ∧ (rows.map Row.key).Nodup ∧ (∀ r ∈ rows, r.key ∉ known) ∧ rows.length = ls.length
  | [], known, rows, h => by
    cases h
    exact ⟨(fun r h => nomatch h), List.nodup_nil, (fun r h => nomatch h), rfl⟩
  | l :: ls, known, rows, h => by
    unfold readGo at h
    cases hq : readLine known l with
    | none => rw [hq] at h; cases h
    | some r =>
      rw [hq] at h
      obtain ⟨us, hu, rfl⟩ := Option.map_eq_some_iff.mp h
      obtain ⟨a, b, c, d⟩ := readGo_ok hu
      obtain ⟨o, nk⟩ := readLine_ok hq
      refine ⟨fun x hx => ?_, ?_, fun x hx => ?_, by rw [List.length_cons, List.length_cons, d]⟩
      · rcases List.mem_cons.mp hx with rfl | hx
        · exact o
        · exact a x hx
      · rw [List.map_cons, List.nodup_cons]
        refine ⟨fun hm => ?_, b⟩
        obtain ⟨x, hx, ex⟩ := List.mem_map.mp hm
        exact c x hx (by rw [ex]; exact List.mem_append_right _ (List.mem_singleton.mpr rfl))
      · rcases List.mem_cons.mp hx with rfl | hx
        · exact nk
        · exact fun hm => c x hx (List.mem_append_left _ hm)
theorem all_not_mem {s : Nat} {p : Nat → Bool} {w : Tx} (h : w.all p = true) (hs : p s = false) : s ∉ w := fun hm => by
  have := List.all_eq_true.mp h s hm
  rw [hs] at this; cases this
theorem numT_free {s : Nat} (n : Int) (h : isSign s = false) (h2 : s ≠ 45) : s ∉ numT n := by
  have q := all_not_mem (dig_signs n.natAbs) h
  unfold numT
  split
  · exact fun hm => (List.mem_cons.mp hm).elim h2 q
  · exact q
theorem Row.Ok.kf {r : Row} (h : r.Ok) {s : Nat} (hs : isSign s = false) : s ∉ r.key ∧ s ∉ r.grp :=
  ⟨all_not_mem (name_iff.mp h.key).2.2 hs, all_not_mem (name_iff.mp h.grp).2.2 hs⟩
theorem line_words {r : Row} (h : r.Ok) : splitC 32 (line r) = [r.key, r.grp, numT r.wt, numT r.am] := by
  have q := h.kf (s := 32) (by decide)
  unfold line
  rw [splitC_app q.1, splitC_app q.2, splitC_app (numT_free _ (by decide) (by decide)), splitC_free (numT_free _ (by decide) (by decide))]
theorem line_free {r : Row} (h : r.Ok) : 10 ∉ line r := by
  have q := h.kf (s := 10) (by decide)
  unfold line
  intro hm
  rcases List.mem_append.mp hm with hm | hm
  · exact q.1 hm
  rcases List.mem_cons.mp hm with hm | hm
  · cases hm
  rcases List.mem_append.mp hm with hm | hm
  · exact q.2 hm
  rcases List.mem_cons.mp hm with hm | hm
  · cases hm
  rcases List.mem_append.mp hm with hm | hm
  · exact numT_free r.wt (by decide) (by decide) hm
  rcases List.mem_cons.mp hm with hm | hm
  · cases hm
  · exact numT_free r.am (by decide) (by decide) hm
theorem split_write : ∀ {rows : List Row}, (∀ r ∈ rows, r.Ok) → splitC 10 (writeI rows) = rows.map line ++ [[]]
  | [], _ => rfl
  | r :: rs, h => by
    have e : writeI (r :: rs) = line r ++ 10 :: writeI rs := by
      unfold writeI
      rw [List.map_cons, List.flatten_cons, List.append_assoc]; rfl
    rw [e, splitC_app (line_free (h r (List.mem_cons_self ..))), split_write fun x hx => h x (List.mem_cons_of_mem _ hx)]
    rfl
theorem lines_write {rows : List Row} (h : ∀ r ∈ rows, r.Ok) : linesF (writeI rows) = rows.map line := by
  unfold linesF
  rw [split_write h, if_pos (by simp)]
  simp
theorem numT_head (n : Int) : (numT n).take 1 = [45] ↔ n < 0 := by
  unfold numT
  split
  · rename_i h
    exact ⟨fun _ => h, fun _ => rfl⟩
  · rename_i h
    refine ⟨fun e => ?_, fun z => absurd z h⟩
    have q := dig_all n.natAbs
    cases e2 : dig n.natAbs with
    | nil => exact absurd e2 (dig_ne _)
    | cons a l =>
      rw [e2] at q e
      have : a = 45 := by simpa using e
      subst this
      exact absurd q (by simp [isDig])
theorem intOf_numT {n : Int} (h : n.natAbs ≤ 1000000) : intOf (numT n) = some n := by
  have hl : (dig n.natAbs).length ≤ 9 := by
    have := dig_len 8 n.natAbs (by omega)
    omega
  have hd : digs (numT n) = dig n.natAbs := by
    unfold digs
    by_cases c : n < 0
    · rw [if_pos ((numT_head n).mpr c)]
      unfold numT
      rw [if_pos c]; rfl
    · rw [if_neg (fun z => c ((numT_head n).mp z))]
      unfold numT
      rw [if_neg c]
  have nz : numT n ≠ [45, 48] := fun e => by
    unfold numT at e
    split at e
    · rename_i c
      have e' : dig n.natAbs = [48] := by injection e
      have q := congrArg val e'
      rw [val_dig] at q
      have : val [48] = 0 := rfl
      omega
    · have q := dig_all n.natAbs
      rw [e] at q
      exact absurd q (by decide)
  unfold intOf
  rw [hd, if_neg (by
    rintro (z | z | z)
    · exact z (dig_written _)
    · exact nz z
    · omega), val_dig]
  by_cases c : n < 0
  · rw [if_pos ((numT_head n).mpr c)]
    have e : -((n.natAbs : Nat) : Int) = n := by omega
    rw [e]
  · rw [if_neg (fun z => c ((numT_head n).mp z))]
    have e : ((n.natAbs : Nat) : Int) = n := by omega
    rw [e]
theorem readLine_line {r : Row} (h : r.Ok) {known : List Tx} (hk : r.key ∉ known) : readLine known (line r) = some r := by
  have := h.w1; have := h.w2; have := h.a1; have := h.a2
  unfold readLine
  rw [line_words h]
  dsimp only
  rw [if_pos h.key, if_pos h.grp, intOf_numT (by omega)]
  dsimp only
  rw [if_pos ⟨h.w1, h.w2⟩, intOf_numT (by omega)]
  dsimp only
  rw [if_pos ⟨h.a1, h.a2⟩, if_neg hk]
theorem readGo_lines : ∀ {rows : List Row} {known : List Tx}, (∀ r ∈ rows, r.Ok) → (rows.map Row.key).Nodup → (∀ r ∈ rows, r.key ∉ known) → readGo known (rows.map line) = some rows
  | [], _, _, _, _ => rfl
  | r :: rs, known, h, nd, hk => by
    rw [List.map_cons, List.nodup_cons] at nd
    show (match readLine known (line r) with | none => none | some r => (readGo (known ++ [r.key]) (rs.map line)).map (r :: ·)) = _
    rw [readLine_line (h r (List.mem_cons_self ..)) (hk r (List.mem_cons_self ..))]
    dsimp only
    rw [readGo_lines (fun x hx => h x (List.mem_cons_of_mem _ hx)) nd.2 fun x hx hm => ?_]
    · rfl
    · rcases List.mem_append.mp hm with hm | hm
      · exact hk x (List.mem_cons_of_mem _ hx) hm
      · exact nd.1 (List.mem_map.mpr ⟨x, hx, List.mem_singleton.mp hm⟩)
theorem read_write {rows : List Row} (h : ∀ r ∈ rows, r.Ok) (nd : (rows.map Row.key).Nodup) : readI (writeI rows) = some rows := by
  unfold readI
  rw [lines_write h]
  exact readGo_lines h nd fun _ _ hm => by cases hm
/-! ### bounds -/
theorem linesF_len (t : Tx) : (linesF t).length ≤ t.length + 1 := by
  have q := splitC_len 10 t
  unfold linesF
  split
  · rw [List.length_dropLast]; omega
  · exact q
theorem readI_ok {t : Tx} {rows : List Row} (h : readI t = some rows) : (∀ r ∈ rows, r.Ok) ∧ (rows.map Row.key).Nodup ∧ rows.length ≤ t.length + 1 := by
  obtain ⟨a, b, _, d⟩ := readGo_ok h
  exact ⟨a, b, by rw [d]; exact linesF_len t⟩
theorem line_len {r : Row} (h : r.Ok) : (line r).length ≤ 43 := by
  have k := name_iff.mp h.key
  have g := name_iff.mp h.grp
  have := h.w1; have := h.w2; have := h.a1; have := h.a2
  have w := numT_len (n := r.wt) (by omega)
  have a := numT_len (n := r.am) (by omega)
  unfold line
  simp only [List.length_append, List.length_cons]
  omega
theorem writeI_len : ∀ {rows : List Row}, (∀ r ∈ rows, r.Ok) → (writeI rows).length ≤ 44 * rows.length
  | [], _ => Nat.le_refl _
  | r :: rs, h => by
    have ih := writeI_len (rows := rs) fun x hx => h x (List.mem_cons_of_mem _ hx)
    have l := line_len (h r (List.mem_cons_self ..))
    have e : writeI (r :: rs) = line r ++ 10 :: writeI rs := by
      unfold writeI
      rw [List.map_cons, List.flatten_cons, List.append_assoc]; rfl
    rw [e, List.length_append, List.length_cons, List.length_cons]
    omega
end K05
set_option Elab.async false
set_option linter.all false
set_option maxRecDepth 100000
set_option maxHeartbeats 1000000
/-! list(reversed(xs)): a rule of the hand layer's kind, over the library's walk of reversed(list). -/
namespace K05R
open PySem PySem.Spec PyProof.Rows RT
section
variable {prog : Program} {w : World} {A : Around} {E : Value → Shared → Prop} {s : Shared}
theorem extend_rev {R : Result → Shared → Prop} {it l S : Addr} {items : Array Value} {c₀ : Nat} {res : Value} (hh : A.handled = none) (hit : s.heap.IsRevIter it l ((items.size : Int) - 1)) (hl : s.heap.IsList l items) (hne : l ≠ it) (hSi : S ≠ it) (hSl : S ≠ l) (hn : items.size ≤ sizeLine)
    (hS : s.heap.get? S = some { cls := .type "list", data := .seq #[] c₀ })
    (hR : ∀ (h' : Heap) (tk : Nat) (acc' : Array Value) (c' : Nat), (∀ b o, b ≠ S → b ≠ it → s.heap.get? b = some o → h'.get? b = some o) → h'.get? S = some { cls := .type "list", dict := none, data := .seq acc' c', slots := #[] } →
      ItemsOf (fun i v => items[items.size - 1 - i]? = some v) acc' items.size → R (.ok (.ret res)) { s with heap := h', toks := tk }) :
    wpAny (model prog w) A.in1 (Builtin.List.listExtendWith (.ref S) (.ref it) res)
      (fun fin s' => match fin with | .done f => R (.ok f) s' | .again c' => c'.quiet = true ∧ codeAny (model prog w) A c' R s') (fun e s' => R (.error e) s') s := by
  have W := (Walks.listRev (prog := prog) (w := w) (A := A.in1) hh it l hne items).toS
  have hSf : S ∉ [it, l] := by simp only [List.mem_cons, List.not_mem_nil, or_false, not_or]; exact ⟨hSi, hSl⟩
  have hT : s.TypeIs (.ref it) "list_reverseiterator" := Heap.IsRevIter.typeIs hit
  have h1 : Builtin.List.listSameRef (.ref S) (.ref it) = false := by simp [Builtin.List.listSameRef, hSi]
  unfold Builtin.List.listExtendWith
  refine wpAny_bind (wpAny_typeOf hT ?_)
  rw [if_neg (by rw [h1]; decide)]
  refine wpAny_bind (wpAny_pyIter_revIter hit ?_)
  refine wpAny_bind (wpAny_holding ?_)
  unfold Builtin.List.listLengthHint
  refine wpAny_bind (wpAny_specialOf hT nolen_lri ?_)
  show wpAny _ A.in1 (specialOf (Value.ref it) (Str.ofString "__length_hint__") >>= _) _ _ _
  refine wpAny_bind (wpAny_specialOf hT hint_lri ?_)
  generalize hid : ("list_reverseiterator.__length_hint__" : String) = id0
  wp_delta
  rw [show splitId id0 = some ("list_reverseiterator", "__length_hint__") from by subst hid; decide +kernel]
  subst hid
  refine wpAny_bind (wpAny_isInstance (b := true) hT (by rw [isSubtype_type]; kernel_rfl) ?_)
  refine wpAny_pure ?_
  rw [if_neg (by decide)]
  have e0 : ((items.size : Nat) : Int) - 1 - ((0 : Nat) : Int) = (items.size : Int) - 1 := by omega
  refine wpAny_pure ⟨plainId_quiet F.plain_extend_loop _, codeAny_extend_loopS W hn _ hSf _ items.size 0 _ _ _ rfl (Nat.zero_le _) ⟨Nat.zero_le _, by rw [e0]; exact hit, hl⟩ hS (ItemsOf.nil _) fun s' acc' c' hm hS' hacc => ?_⟩
  rw [Moved.eq_with hm]
  refine hR s'.heap s'.toks acc' c' (fun b o hb hb2 e => hm.heap b o (fun hmem => ?_) e) hS' hacc
  rcases List.mem_cons.mp hmem with e' | hmem
  · exact hb e'
  · exact hb2 (List.mem_singleton.mp hmem)
theorem list_init_rev {R : Result → Shared → Prop} {it l S : Addr} {items : Array Value} (hh : A.handled = none) (hit : s.heap.IsRevIter it l ((items.size : Int) - 1)) (hl : s.heap.IsList l items) (hne : l ≠ it) (hSi : S ≠ it) (hSl : S ≠ l) (hn : items.size ≤ sizeLine)
    (hS : s.heap.get? S = some { cls := .type "list", data := .seq #[] })
    (hR : ∀ (h' : Heap) (tk : Nat) (acc' : Array Value) (c' : Nat), (∀ b o, b ≠ S → b ≠ it → s.heap.get? b = some o → h'.get? b = some o) → h'.get? S = some { cls := .type "list", dict := none, data := .seq acc' c', slots := #[] } →
      ItemsOf (fun i v => items[items.size - 1 - i]? = some v) acc' items.size → R (.ok (.ret .none)) { s with heap := h', toks := tk }) :
    wpAny (model prog w) A.in1 (Builtin.«list.__init__» ⟨[.ref S, .ref it], []⟩)
      (fun fin s' => match fin with | .done f => R (.ok f) s' | .again c' => c'.quiet = true ∧ codeAny (model prog w) A c' R s') (fun e s' => R (.error e) s') s := by
  show wpAny _ A.in1 (do let old ← Builtin.List.listItems (.ref S); Builtin.List.listUpdate (.ref S) (fun _ => #[]); letGo old.toList.reverse; Builtin.List.listExtendWith (.ref S) (.ref it) .none) _ _ s
  refine wpAny_bind ?_
  unfold Builtin.List.listItems
  refine wpAny_bind (wpAny_seqItems hS rfl (wpAny_pure ?_))
  show wpAny _ A.in1 (updateSeq S (fun _ => #[]) >>= fun _ => letGo (#[] : Array Value).toList.reverse >>= fun _ => Builtin.List.listExtendWith (.ref S) (.ref it) .none) _ _ s
  refine wpAny_bind (wpAny_updateSeq hS rfl ?_)
  have hS₂ := Heap.get?_update_self (Obj.mapSeq (fun _ => (#[] : Array Value))) hS rfl
  have oth : ∀ b o, b ≠ S → s.heap.get? b = some o → (s.heap.update S (Obj.mapSeq (fun _ => (#[] : Array Value)))).get? b = some o :=
    fun b o hb e => (Heap.get?_update_other _ _ (Ne.symm hb)).trans e
  refine wpAny_bind (wpAny_letGo ?_)
  obtain ⟨oi, hoi, ri⟩ := id hit
  obtain ⟨ol, hol, rl⟩ := id hl
  exact extend_rev (s := { s with heap := s.heap.update S (Obj.mapSeq (fun _ => (#[] : Array Value))) }) hh ⟨oi, oth _ _ hSi.symm hoi, ri⟩ ⟨ol, oth _ _ hSl.symm hol, rl⟩ hne hSi hSl hn hS₂ fun h' tk acc' c' hk hS' hacc =>
    hR h' tk acc' c' (fun b o hb hb2 e => hk b o hb hb2 (oth b o hb e)) hS' hacc
theorem call_list_rev {it l : Addr} {items : Array Value} {Q : Value → Shared → Prop} (hh : A.handled = none) (hit : s.heap.IsRevIter it l ((items.size : Int) - 1)) (hl : s.heap.IsList l items) (hne : l ≠ it) (hn : items.size ≤ sizeLine)
    (hQ : ∀ (h' : Heap) (tk : Nat) (acc' : Array Value) (c' : Nat), (∀ b o, b ≠ it → s.heap.get? b = some o → h'.get? b = some o) → h'.get? s.heap.objs.size = some { cls := .type "list", dict := none, data := .seq acc' c', slots := #[] } →
      ItemsOf (fun i v => items[items.size - 1 - i]? = some v) acc' items.size → Q (.ref s.heap.objs.size) { s with heap := h', toks := tk }) :
    wpAny (model prog w) A (call (.type "list") [.ref it]) Q E s := by
  obtain ⟨oi, hoi, ri⟩ := id hit
  obtain ⟨ol, hol, rl⟩ := id hl
  have hSi : s.heap.objs.size ≠ it := Nat.ne_of_gt (Heap.lt_size hoi)
  have hSl : s.heap.objs.size ≠ l := Nat.ne_of_gt (Heap.lt_size hol)
  refine callType_codes (Q₁ := fun obj s₁ => obj = .ref s.heap.objs.size ∧ s₁ = { s with heap := s.heap.push { cls := .type "list", data := .seq #[] } }) F.called_list (F.typeCall_list_1 _) F.entry_list_init
    (code_list_new _ ⟨rfl, rfl⟩) fun obj s₁ h₁ => ?_
  obtain ⟨rfl, rfl⟩ := h₁
  have hS : (s.heap.push { cls := .type "list", data := .seq #[] }).get? s.heap.objs.size = some { cls := .type "list", data := .seq #[] } := Heap.get?_push_size _ rfl
  refine ⟨⟨_, hS, rfl⟩, F.args_list_init_2 _ _, list_init_rev (A := A.in1) (s := { s with heap := s.heap.push { cls := .type "list", data := .seq #[] } }) hh (hit.at fun o e => Heap.get?_push_of_some _ e) (hl.push _) hne hSi hSl hn hS fun h' tk acc' c' hk hS' hacc => ?_⟩
  exact ⟨rfl, hQ h' tk acc' c' (fun b o hb e => hk b o (fun z => absurd (Heap.lt_size e) (by rw [z]; exact Nat.lt_irrefl _)) hb (Heap.get?_push_of_some _ e)) hS' hacc⟩
end
open L2
section
variable {X : Cx}
/-- list(reversed(e)) -/
def tLstRev (K : PySem.W.Frag) (te : TE) : TE := fun σ H Q => te σ H fun v H1 => ∃ (a : Addr) (xs : List V), v = .ref a ∧ SqL K H1 a xs ∧ ∀ q, H1 q = none → Q (.ref q) (upd H1 q (.lst xs.reverse))
theorem pe_lstRev {e : Expr} {te : TE} {p p2 pos pos2 : Pos} (hc : X.calm = true) (hg : Gl X "list") (hm : X.mg "list" = none) (hg2 : Gl X "reversed") (hm2 : X.mg "reversed" = none) (he : PE X e te)
    (hs : starEach [e] X.env = (false, eval e X.env) :: starEach [] X.env := by rfl)
    (hs2 : starEach [.Call (.Name "reversed" p2) [e] [] pos2] X.env = (false, eval (.Call (.Name "reversed" p2) [e] [] pos2) X.env) :: starEach [] X.env := by rfl) :
    PE X (.Call (.Name "list" p) [.Call (.Name "reversed" p2) [e] [] pos2] [] pos) (tLstRev X.K te) := by
  refine ⟨fun pins s σ H Q I h => ?_⟩
  refine Call_ (ld_blt I hg hm boot_list (PyProof.Rows.callWith_type1 (args_cons (Call_ (ld_blt I hg2 hm2 PyProof.Rows.boot_reversed (PyProof.Rows.callWith_type1 (args_cons (thn (he.run pins s σ H _ I h) fun u s1 ⟨v, H1, I1, r1, q1⟩ => args_nil ?_) hs) hs rfl))) hs2) hs2 rfl))
  obtain ⟨a, xs, ev, hq, q⟩ := q1
  subst ev
  obtain rfl : u = Value.ref a := r1
  obtain ⟨its, rv, p', hz⟩ := I1.list hq
  refine call_reversed_list p'.isList (args_nil ?_)
  have k0 : ∀ b o, s1.heap.get? b = some o → (s1.heap.push (revObj a ((its.toArray.size : Int) - 1))).get? b = some o := fun b o e => Heap.get?_push_of_some _ e
  have I2 : Inv X pins σ H1 { s1 with heap := s1.heap.push (revObj a ((its.toArray.size : Int) - 1)) } := I1.kept (t' := s1.toks) k0
  obtain ⟨f0, f1, f2, f3, f4, f5⟩ := I1.fpOk (H' := H1) (b := s1.heap.objs.size) (Nat.le_refl _) (I1.hok.fresh (Nat.le_refl _))
  have hl := p'.isList
  obtain ⟨ol, hol, _⟩ := id hl
  have hne : a ≠ s1.heap.objs.size := Nat.ne_of_lt (Heap.lt_size hol)
  have hn : its.toArray.size ≤ sizeLine := by rw [List.size_toArray, ← rv.length]; exact hz
  refine call_list_rev (s := { s1 with heap := s1.heap.push (revObj a ((its.toArray.size : Int) - 1)) }) (I1.ok.hd hc) ⟨_, Heap.get?_push_size _ rfl, rfl, rfl⟩ (hl.push _) hne hn fun h' tk acc c' hk hS hi => ?_
  have hp : s1.heap.objs.size ≤ (s1.heap.push (revObj a ((its.toArray.size : Int) - 1))).objs.size := by rw [Heap.size_push]; exact Nat.le_succ _
  refine ⟨.ref (s1.heap.push (revObj a ((its.toArray.size : Int) - 1))).objs.size, upd H1 _ (.lst xs.reverse), I1.laid (t' := tk) (fun b o e => hk b o (Nat.ne_of_lt (Heap.lt_size e)) (k0 b o e)) hp ?_, rfl, q _ (I1.hok.fresh hp)⟩
  refine (show ObjOk X.prog X.w _ _ _ (.lst xs.reverse) from ⟨by rw [List.length_reverse]; exact hz, acc.toList, c', vals_rev rv hi, ?_⟩)
  rw [Array.toArray_toList]
  exact hS
end
end K05R
set_option Elab.async false
set_option linter.all false
set_option maxRecDepth 100000
set_option maxHeartbeats 1000000
/-! The base of the walk: texts as lists of signs, what stands at an address, defs by name. -/
namespace K05
open PySem PySem.Spec PyProof.Rows L2
/-! ### texts -/
def S (l : Tx) : Str := ⟨l.toArray⟩
theorem S_len (l : Tx) : (S l).length = l.length := by simp [S, Str.length]
theorem S_inj {a b : Tx} (h : S a = S b) : a = b := by
  have e := congrArg (fun z : Str => z.cps.toList) h
  simpa [S] using e
theorem S_list (l : Tx) : (S l).cps.toList = l := by simp [S]
theorem S_of (z : Str) : ∃ l, z = S l := ⟨z.cps.toList, by simp [S]⟩
theorem S_tl (l : Tx) : TL.tl (S l) = l := S_list l
theorem S_app (a b : Tx) : S a ++ S b = S (a ++ b) := TL.ext_tl (by rw [TL.tl_append]; simp [S])
theorem eqS {l w : Tx} {x : Str} (e : x = S w) : decide (V.str (S l) = V.str x) = decide (l = w) := by
  subst e
  by_cases h : l = w
  · rw [h]; simp
  · rw [decide_eq_false h, decide_eq_false (fun z => h (S_inj (V.str.inj z)))]
theorem clip_some (n i : Nat) (d : Nat) : HT.sIx n d (some (i : Int)) = min i n := by
  unfold HT.sIx
  simp only [if_neg (show ¬ (i : Int) < 0 by omega)]
  omega
theorem cut_take (l : Tx) (k : Nat) : cutS (S l) none (some (k : Int)) = S (l.take k) := by
  unfold cutS
  rw [clip_some, S_list, S_len]
  show S _ = S _
  congr 1
  show ((l.drop 0).take (min k l.length - 0)) = l.take k
  rw [List.drop_zero, Nat.sub_zero]
  rw [List.take_eq_take_iff]; omega
theorem cut_drop (l : Tx) (k : Nat) : cutS (S l) (some (k : Int)) none = S (l.drop k) := by
  unfold cutS
  rw [clip_some, S_list, S_len]
  show S _ = S _
  congr 1
  show ((l.drop (min k l.length)).take (l.length - min k l.length)) = l.drop k
  by_cases h : k ≤ l.length
  · rw [Nat.min_eq_left h, List.take_of_length_le (by rw [List.length_drop]; omega)]
  · rw [Nat.min_eq_right (by omega), List.drop_eq_nil_of_le (show l.length ≤ k by omega), List.drop_eq_nil_of_le (Nat.le_refl _)]; simp
theorem cut_mid (l : Tx) (i j : Nat) : cutS (S l) (some (i : Int)) (some (j : Int)) = S ((l.drop i).take (j - i)) := by
  unfold cutS
  rw [clip_some, clip_some, S_list, S_len]
  show S _ = S _
  congr 1
  by_cases h : i ≤ l.length
  · rw [Nat.min_eq_left h, List.take_eq_take_iff, List.length_drop]; omega
  · rw [Nat.min_eq_right (show l.length ≤ i by omega), List.drop_eq_nil_of_le (show l.length ≤ i by omega), List.drop_eq_nil_of_le (Nat.le_refl _)]; simp
theorem dig_num (n : Nat) : dig n = TL.numL n := by
  induction n using Nat.strongRecOn with
  | _ n ih =>
    by_cases h : n < 10
    · rw [dig_lt h, TL.numL_lt h]
    · rw [dig_ge (by omega), TL.numL_step (by omega), ih (n / 10) (by omega)]
theorem val_num : ∀ w : Tx, val w = NumText.digitsVal w := fun w => rfl
theorem num_S (n : Int) : Str.ofString (toString n) = S (numT n) := by
  refine TL.ext_tl ?_
  rw [S_tl]
  unfold numT
  by_cases c : n < 0
  · rw [if_pos c]
    obtain ⟨k, rfl⟩ : ∃ k : Nat, n = Int.negSucc k := ⟨n.natAbs - 1, by omega⟩
    have e : toString (Int.negSucc k) = "-" ++ toString (k + 1) := rfl
    rw [e, TL.tl_ofString, String.toList_append, List.map_append]
    have e2 := TL.tl_num (k + 1)
    rw [TL.tl_ofString] at e2
    have e3 : toString (((k + 1 : Nat) : Int)) = toString (k + 1) := rfl
    rw [e3] at e2
    rw [e2, dig_num]
    rfl
  · rw [if_neg c]
    obtain ⟨k, rfl⟩ : ∃ k : Nat, n = (k : Int) := ⟨n.natAbs, by omega⟩
    rw [TL.tl_num, dig_num]
    rfl
/-! ### heaps -/
theorem same_new {H : Hp} {p : Addr} (h : H p = none) (o : HO) : Same H (upd H p o) := fun b u q => by rw [upd_ne (ne_of_none q h)]; exact q
/-- all but what stands at p stays -/
def But (p : Addr) (H H' : Hp) : Prop := ∀ b o, b ≠ p → H b = some o → H' b = some o
theorem But.of {p : Addr} {H H' : Hp} (h : Same H H') : But p H H' := fun b o _ e => h b o e
theorem But.trans {p : Addr} {H H1 H2 : Hp} (a : But p H H1) (b : But p H1 H2) : But p H H2 := fun c o n e => b c o n (a c o n e)
theorem But.upd {p : Addr} {H : Hp} {o : HO} : But p H (upd H p o) := fun b u n e => by rw [upd_ne n]; exact e
theorem But.same {p : Addr} {H0 H H' : Hp} (hp : H0 p = none) (s : Same H0 H) (b : But p H H') : Same H0 H' := fun c o e => b c o (ne_of_none e hp) (s c o e)
theorem Same.tup {K : PySem.W.Frag} {H H' : Hp} {a : Addr} {xs : List V} (e : Same H H') (h : SqT K H a xs) : SqT K H' a xs := by
  rcases h with (h | ⟨o, h⟩) | h
  · exact .inl (.inl (e _ _ h))
  · exact .inl (.inr ⟨o, e _ _ h⟩)
  · exact .inr h
theorem lookS {n : Nat} (h : n ≤ 1000000) : n ≤ sizeLine := by rw [sizeLine_eq]; omega
/-! ### the text by places -/
def top (i : Nat) : Stmt := PySem.Challenge.pw_samphire_k05_whole_any_text_is_refused_o.main.body.getD i (.Pass ⟨0, 0, 0, 0⟩)
/-! ### defs by their names -/
section
variable (P : Program) (w : World) (K : PySem.W.Frag) (mg : Str → Option Value) (base : Heap)
/-- a def of the text stands under its name -/
structure Sd (x qual : Str) (st : Stmt) (ps : List Str) : Prop where
  ex : ∃ (f : Addr) (fd : FuncData), Fun K x qual st f fd ∧ mg x = some (.ref f) ∧ Binds K fd ps []
/-- a def keeps its promise -/
structure Df (CX : CXT) (k : Nat) (x : Str) (ps : List Str) (sp : Sp) : Prop where
  ex : ∃ (f : Addr) (fd : FuncData), mg x = some (.ref f) ∧ PySem.W.keepIn K (.ref f) = true ∧ Binds K fd ps [] ∧ FnOk P w K mg base CX k f fd ps sp
/-- a method stands in the class at C -/
structure Sm (C : Addr) (m qual : Str) (st : Stmt) (ps : List Str) : Prop where
  ex : ∃ (f : Addr) (fd : FuncData), Fun K m qual st f fd ∧ Meth K C m f ∧ Binds K fd ps []
structure Dm (CX : CXT) (C : Addr) (k : Nat) (m : Str) (ps : List Str) (sp : Sp) : Prop where
  ex : ∃ (f : Addr) (fd : FuncData), Meth K C m f ∧ Binds K fd ps [] ∧ FnOk P w K mg base CX k f fd ps sp
end
section
variable {P : Program} {w : World} {K : PySem.W.Frag} {mg : Str → Option Value} {base : Heap}
theorem Df.mono {CX : CXT} {j k : Nat} {x : Str} {ps : List Str} {sp : Sp} (D : Df P w K mg base CX j x ps sp) (h : j ≤ k) : Df P w K mg base CX k x ps sp := by
  obtain ⟨f, fd, a, b, c, F⟩ := D.ex
  exact ⟨f, fd, a, b, c, F.mono h⟩
theorem Dm.mono {CX : CXT} {C : Addr} {j k : Nat} {x : Str} {ps : List Str} {sp : Sp} (D : Dm P w K mg base CX C j x ps sp) (h : j ≤ k) : Dm P w K mg base CX C k x ps sp := by
  obtain ⟨f, fd, a, c, F⟩ := D.ex
  exact ⟨f, fd, a, c, F.mono h⟩
theorem Sd.df {x qual : Str} {st : Stmt} {ps : List Str} {CX : CXT} {k : Nat} {sp : Sp} (s : Sd K mg x qual st ps) (h : ∀ f fd, Fun K x qual st f fd → FnOk P w K mg base CX k f fd ps sp) : Df P w K mg base CX k x ps sp := by
  obtain ⟨f, fd, F, m, b⟩ := s.ex
  exact ⟨f, fd, m, F.kp, b, h f fd F⟩
theorem Sm.dm {C : Addr} {x qual : Str} {st : Stmt} {ps : List Str} {CX : CXT} {k : Nat} {sp : Sp} (s : Sm K C x qual st ps) (h : ∀ f fd, Fun K x qual st f fd → FnOk P w K mg base CX k f fd ps sp) : Dm P w K mg base CX C k x ps sp := by
  obtain ⟨f, fd, F, m, b⟩ := s.ex
  exact ⟨f, fd, m, b, h f fd F⟩
end
section
variable {X : Cx} {CX : CXT} {k : Nat} {ps : List Str} {sp : Sp} {E : XK} {x m : Str} {p pos apos : Pos} {e o : Expr} {es : List Expr} {ta : TE} {t : TA} {C : Addr}
/-- a call of a def that lets nothing out -/
theorem pe_df (D : Df X.prog X.w X.K X.mg X.base CX0 k x ps sp) (hr : Room k X.A) (ha : PA X (e :: es) t) (hg : Gl X x := by rfl) (hdb : (x == ("__debug__" : Str)) = false := by decide)
    (he : starEach (e :: es) X.env = (false, eval e X.env) :: starEach es X.env := by rfl) (hpl : (backTo pos (starEach es X.env)).any (·.1) = false := by rfl) :
    PE X (.Call (.Name x p) (e :: es) [] pos) (tCall sp [] E0 t) := by
  obtain ⟨f, fd, a, b, c, F⟩ := D.ex
  exact pe_call F hr hg a b c .nil pass0 ha hdb he hpl
/-- a call of a def that may raise, where what leaves it leaves this def: W says what is wanted -/
theorem pe_dfX (D : Df X.prog X.w X.K X.mg X.base CX k x ps sp) (hr : Room k X.A) (hx : Passes CX X E) (ha : PA X (e :: es) t) (hg : Gl X x := by rfl) (hdb : (x == ("__debug__" : Str)) = false := by decide)
    (he : starEach (e :: es) X.env = (false, eval e X.env) :: starEach es X.env := by rfl) (hpl : (backTo pos (starEach es X.env)).any (·.1) = false := by rfl) :
    PE X (.Call (.Name x p) (e :: es) [] pos) (tCall sp [] E t) := by
  obtain ⟨f, fd, a, b, c, F⟩ := D.ex
  exact pe_call F hr hg a b c .nil hx ha hdb he hpl
theorem pe_dm0 {pl : Sem Bool} (he : PE X o ta) (c : Cls X.K C) (D : Dm X.prog X.w X.K X.mg X.base CX C k m ps sp) (hr : Room k X.A) (hx : Passes CX X E)
    (ht : eval (.Call (.Attribute o m apos) [] [] pos) X.env = (do
      let ov ← eval o X.env
      standAt apos.atName
      let (f, first) ← holding [ov] (getMethod ov m pl)
      callWith pos f first (backTo pos (starEach [] X.env)) (backToKw pos (keywordEach [] X.env))) := by rfl) :
    PE X (.Call (.Attribute o m apos) [] [] pos) (tMeth C m sp [] E ta tNil) := by
  obtain ⟨f, fd, a, b, F⟩ := D.ex
  exact pe_meth0 he c a F hr b .nil hx ht
theorem pe_dm {pl : Sem Bool} (he : PE X o ta) (c : Cls X.K C) (D : Dm X.prog X.w X.K X.mg X.base CX C k m ps sp) (hr : Room k X.A) (hx : Passes CX X E) (ha : PA X (e :: es) t)
    (hst : starEach (e :: es) X.env = (false, eval e X.env) :: starEach es X.env := by rfl) (hpl : (backTo pos (starEach es X.env)).any (·.1) = false := by rfl)
    (ht : eval (.Call (.Attribute o m apos) (e :: es) [] pos) X.env = (do
      let ov ← eval o X.env
      standAt apos.atName
      let (f, first) ← holding [ov] (getMethod ov m pl)
      callWith pos f first (backTo pos (starEach (e :: es) X.env)) (backToKw pos (keywordEach [] X.env))) := by rfl) :
    PE X (.Call (.Attribute o m apos) (e :: es) [] pos) (tMeth C m sp [] E ta t) := by
  obtain ⟨f, fd, a, b, F⟩ := D.ex
  exact pe_meth he c a F hr b .nil hx ha hst hpl ht
end
/-! ### the signs -/
def signsL : Tx := [97,98,99,100,101,102,103,104,105,106,107,108,109,110,111,112,113,114,115,116,117,118,119,120,121,122,48,49,50,51,52,53,54,55,56,57]
def digitsL : Tx := [48,49,50,51,52,53,54,55,56,57]
theorem mem_signs (c : Nat) : decide (c ∈ signsL) = isSign c := by
  by_cases h : c < 128
  · have : ∀ c : Nat, c < 128 → decide (c ∈ signsL) = isSign c := by decide +kernel
    exact this c h
  · rw [decide_eq_false]
    · unfold isSign; simp; omega
    · intro hm
      have : ∀ x ∈ signsL, x < 128 := by decide
      exact h (this c hm)
theorem mem_digits (c : Nat) : decide (c ∈ digitsL) = isDig c := by
  by_cases h : c < 128
  · have : ∀ c : Nat, c < 128 → decide (c ∈ digitsL) = isDig c := by decide +kernel
    exact this c h
  · rw [decide_eq_false]
    · unfold isDig; simp; omega
    · intro hm
      have : ∀ x ∈ digitsL, x < 128 := by decide
      exact h (this c hm)
/-- what the top has written: constants, and that the built-in names are the built-in ones -/
structure Tx0 (K : PySem.W.Frag) (mg : Str → Option Value) : Prop where
  len : mg "len" = none
  all : mg "all" = none
  int : mg "int" = none
  abs : mg "abs" = none
  str : mg "str" = none
  bool : mg "bool" = none
  list : mg "list" = none
  rev : mg "reversed" = none
  range : mg "range" = none
  enum : mg "enumerate" = none
  isi : mg "isinstance" = none
  signs : ∃ t, mg "NAME_SIGNS" = some (.str (S signsL) t)
  digits : ∃ t, mg "DIGITS" = some (.str "0123456789" t)
  mostW : ∃ t, mg "MOST_WEIGHT" = some (.int 1000 t)
  mostA : ∃ t, mg "MOST_AMOUNT" = some (.int 1000 t)
  mostD : ∃ t, mg "MOST_DIGITS" = some (.int 9 t)
  mostC : ∃ t, mg "MOST_SIGNS_conditions" = some (.int 2000 t)
  mostO : ∃ t, mg "MOST_OPEN" = some (.int 20 t)
  mostN : ∃ t, mg "MOST_NUMBER" = some (.int 1000000 t)
  mostR : ∃ t, mg "MOST_SIGNS_reader" = some (.int 100000 t)
  mostI : ∃ t, mg "MOST_ITEMS" = some (.int 1000 t)
  sgn : ∃ a, mg "SIGNS" = some (.ref a) ∧ ∀ H, SqT K H a [.str "<=", .str ">=", .str "<", .str "=", .str ">", .str "-", .str "(", .str ")"]
  ords : ∃ a, mg "ORDERS" = some (.ref a) ∧ ∀ H, SqT K H a [.str "<", .str "<=", .str "=", .str ">=", .str ">"]
theorem digits_S : ("0123456789" : Str) = S digitsL := by decide +kernel
end K05
set_option Elab.async false
set_option linter.all false
set_option maxRecDepth 100000
set_option maxHeartbeats 4000000
namespace K05
open PySem PySem.Spec PyProof.Rows L2
/-! ### comprehensions over a text's signs -/
theorem take_one {α : Type} {l : List α} {i : Nat} {x : α} (h : l[i]? = some x) : l.take (i + 1) = l.take i ++ [x] := by
  rw [List.take_add_one, h]; rfl
theorem lc_chars {l : Tx} {g : TG} {tt : TT} {te : TE} {vs : List Nat} {σ : L2.St} {H1 : Hp} {D : Addr} {Qd : Hp → Prop} (p : Nat → Bool) (f : Nat → V) (hl : l.length ≤ 1000000)
    (hs : ∀ c ∈ l, ∀ (H' : Hp) (K1 : V → Hp → Prop) (K2 : Hp → Prop), (if p c = true then K1 (f c) H' else K2 H') →
      g (.str ⟨#[c]⟩) (wipe σ vs) H' fun σ2 H2 => wipe σ2 vs = wipe σ vs ∧ tt σ2 H2 fun b H3 => if b = true then te σ2 H3 K1 else K2 H3)
    (hd : Qd (upd H1 D (.lst ((l.filter p).map f)))) :
    ∃ W : Nat → Nat → Hp → Prop, (∃ m, W 0 m (upd H1 D (.lst []))) ∧ ∀ i m H, W i m H →
      ((Its (S l)).stop i H ∧ Qd H) ∨ ((Its (S l)).go i H ∧ ∃ Nx : Hp → Prop, (∀ H', Nx H' → ∃ m', m' < m ∧ W (i + 1) m' H') ∧ ∀ x H', (Its (S l)).yld i H x H' → g x (wipe σ vs) H' fun σ2 H2 => wipe σ2 vs = wipe σ vs ∧ tt σ2 H2 fun b H3 =>
        if b = true then te σ2 H3 fun y H4 => ∃ acc, H4 D = some (.lst acc) ∧ acc.length < sizeLine ∧ Nx (upd H4 D (.lst (acc ++ [y]))) else Nx H3) := by
  have hsz : (S l).cps.size = l.length := by simp [S]
  refine lc_it (walk_str (z := S l)) (fun i H => H = upd H1 D (.lst (((l.take i).filter p).map f))) rfl (fun _ _ _ _ => trivial) ?_ ?_
  · rintro i x H H' hi rfl ⟨rfl, c, hc, rfl⟩
    have hc' : l[i]? = some c := by simpa [S] using hc
    have hm := List.mem_of_getElem? hc'
    refine hs c hm _ _ _ ?_
    rw [take_one hc', List.filter_append, List.map_append]
    by_cases e : p c = true
    · rw [if_pos e]
      refine ⟨_, upd_same, ?_, ?_⟩
      · rw [List.length_map]
        have q1 := List.length_filter_le p (l.take i)
        have q2 : (l.take i).length ≤ l.length := List.length_take_le' i l
        rw [sizeLine_eq]; omega
      · show upd _ _ _ = _
        rw [upd_upd]
        simp [e]
    · rw [if_neg e]
      show _ = _
      simp [e]
  · rintro H rfl
    rw [hsz, List.take_length]
    exact hd
section
variable {P : Program} {w : World} {K : PySem.W.Frag} {mg : Str → Option Value} {base : Heap}
/-! ### is_name -/
abbrev sIsName : Stmt := top 9
theorem scIsName : FnScope ["text", "sign"] ["text"] (defScope sIsName) := ⟨rfl, rfl, rfl, by decide +kernel, rfl, by decide +kernel, by decide +kernel⟩
/-- is_name(text) -/
def spIsName : Sp := fun vs H Q _ => ∃ l : Tx, vs = [.str (S l)] ∧ l.length ≤ 1000000 ∧ ∀ H', Same H H' → Q (.bl (isName l)) H'
theorem ok_is_name {f : Addr} {fd : FuncData} (T : Tx0 K mg) (F : Fun K "is_name" "is_name" sIsName f fd) : FnOk P w K mg base CX0 1 f fd ["text"] spIsName := by
  refine F.ok scIsName (fun vs H Q E h => ?_) (fun cdv A outer s H vs Q E hr h => ?_)
  · obtain ⟨l, rfl, _⟩ := h
    rfl
  obtain ⟨l, rfl, hl, q⟩ := h
  obtain ⟨t, hsg⟩ := T.signs
  refine ⟨_, pss_one (ps_ret (pe_and (pe_chain op_le op_le pe_int (pe_callB call_len_str (by rfl) T.len PySem.boot_len (pa_cons (pv 0) pa_nil)) pe_int)
    (pe_one (pe_callB (cr_all rfl) (by rfl) T.all (by decide +kernel) (pa_cons (pe_lc (own := [("sign", 1)]) (g := gName 1) (tt := tYes) rfl scIsName.nd (pi_str (pv 0))
      (blkOk_by (N := ["text", "sign"]) (sc := defScope sIsName) (by decide +kernel)) (fun _ _ _ _ _ => pg_name (i := 1) scIsName.nd rfl (Or.inl rfl)) (fun _ _ _ _ _ => pts_nil)
      (fun _ _ _ _ _ => pe_cmpR op_in_sign (pv 1) (pe_glob (v := .str (S signsL)) rfl hsg ⟨_, rfl⟩) (by rfl))) pa_nil))))), ?_⟩
  have e1 : (1 : Int) ≤ (((S l).length : Nat) : Int) ↔ 1 ≤ l.length := by rw [S_len]; omega
  have e2 : (((S l).length : Nat) : Int) ≤ (12 : Int) ↔ l.length ≤ 12 := by rw [S_len]; omega
  refine ⟨_, rfl, _, rfl, lookS (by rw [S_len]; exact hl), _, _, rfl, rfl, _, rfl, ?_⟩
  refine ite2 (fun c => ?_) (fun c => ?_)
  · have c1 := e1.mp (of_decide_eq_true c)
    refine ⟨_, _, rfl, rfl, _, rfl, ?_⟩
    refine ite2 (fun c => ?_) (fun c => ?_)
    · have c2 := e2.mp (of_decide_eq_true c)
      refine ⟨_, rfl, _, rfl, fun D hD => lc_chars (fun _ => true) (fun c => .bl (isSign c)) hl (fun c hc H' K1 K2 hk => ?_) ?_⟩
      · refine ⟨rfl, _, rfl, c, _, rfl, rfl, ?_⟩
        rw [S_list, mem_signs]
        exact hk
      · refine ⟨D, _, rfl, SqL.of (xs := (l.map isSign).map V.bl) ?_, ?_⟩
        · rw [upd_same, List.map_map, List.filter_eq_self.mpr (fun _ _ => rfl)]; rfl
        · have e : isName l = (l.map isSign).all id := by
            unfold isName
            rw [decide_eq_true c1, decide_eq_true c2]
            simp [List.all_map]
          rw [← e]
          exact q _ (same_new hD _)
    · have c2 := fun z => (of_decide_eq_false (Bool.eq_false_iff.mpr c)) (e2.mpr z)
      have e : isName l = false := by
        unfold isName
        rw [decide_eq_false c2]; simp
      rw [← e]
      exact q _ (Same.refl _)
  · have c1 := fun z => (of_decide_eq_false (Bool.eq_false_iff.mpr c)) (e1.mpr z)
    have e : isName l = false := by
      unfold isName
      rw [decide_eq_false c1]; simp
    refine ⟨_, rfl, ?_⟩
    refine iteF ?_
    rw [← e]
    exact q _ (Same.refl _)
end
end K05
set_option Elab.async false
set_option linter.all false
set_option maxRecDepth 100000
set_option maxHeartbeats 4000000
namespace K05
open PySem PySem.Spec PyProof.Rows L2
theorem iteB {b : Bool} {A B : Prop} (ht : b = true → A) (hf : b = false → B) : if b = true then A else B := by
  cases b with
  | true => exact iteT (ht rfl)
  | false => exact iteF (hf rfl)
theorem s_empty : ("" : Str) = S [] := by decide +kernel
theorem s_zero : ("0" : Str) = S [48] := by decide +kernel
theorem s_minus : ("-" : Str) = S [45] := by decide +kernel
theorem s_mzero : ("-0" : Str) = S [45, 48] := by decide +kernel
section
variable {P : Program} {w : World} {K : PySem.W.Frag} {mg : Str → Option Value} {base : Heap}
/-! ### is_written -/
abbrev sIsWritten : Stmt := top 16
theorem scIsWritten : FnScope ["word", "digit"] ["word"] (defScope sIsWritten) := ⟨rfl, rfl, rfl, by decide +kernel, rfl, by decide +kernel, by decide +kernel⟩
def spIsWritten : Sp := fun vs H Q _ => ∃ l : Tx, vs = [.str (S l)] ∧ l.length ≤ 1000000 ∧ ∀ H', Same H H' → Q (.bl (isWritten l)) H'
theorem ok_is_written {f : Addr} {fd : FuncData} (T : Tx0 K mg) (F : Fun K "is_written" "is_written" sIsWritten f fd) : FnOk P w K mg base CX0 1 f fd ["word"] spIsWritten := by
  refine F.ok scIsWritten (fun vs H Q E h => ?_) (fun cdv A outer s H vs Q E hr h => ?_)
  · obtain ⟨l, rfl, _⟩ := h
    rfl
  obtain ⟨l, rfl, hl, q⟩ := h
  obtain ⟨t, hsg⟩ := T.digits
  refine ⟨_, pss_cons (ps_if (PW.pt (pw_or (pt_cmpR op_eq (pv 0) pe_str (nomark _)) (pw_or1 (pt_not (pt_val
    (pe_callB (cr_all rfl) (by rfl) T.all (by decide +kernel) (pa_cons (pe_lc (own := [("digit", 1)]) (g := gName 1) (tt := tYes) rfl scIsWritten.nd (pi_str (pv 0))
      (blkOk_by (N := ["word", "digit"]) (sc := defScope sIsWritten) (by decide +kernel)) (fun _ _ _ _ _ => pg_name (i := 1) scIsWritten.nd rfl (Or.inl rfl)) (fun _ _ _ _ _ => pts_nil)
      (fun _ _ _ _ _ => pe_cmpR op_in_sign (pv 1) (pe_glob (v := .str "0123456789") rfl hsg ⟨_, rfl⟩) (by rfl))) pa_nil)))))))
      (pss_one (ps_ret pe_bl)) pss_nil)
    (pss_one (ps_ret (pe_or (pe_cmpR op_eq (pv 0) pe_str (nomark _)) (pe_one (pe_cmpR op_ne (pe_item_str (pv 0) pe_int (fun _ _ => rfl)) pe_str (nomark _)))))), ?_⟩
  have tail : ∀ H' : Hp, Same H H' → l ≠ [] → l.all isDig = true → ∃ v, (L2.start ["word", "digit"] [V.str (S l)])[0]? = some (some v) ∧ scal v (.str "0") = true ∧ ∃ c : Bool, V.bl (decide (v = .str "0")) = .bl c ∧
      if c = true then Q (.bl true) H' else ∃ v, (L2.start ["word", "digit"] [V.str (S l)])[0]? = some (some v) ∧ ∃ z i c, v = .str z ∧ (V.int 0) = .int i ∧ 0 ≤ i ∧ i < 2 ^ 63 ∧ i < z.length ∧ z.cps[i.toNat]? = some c ∧
        (scal (.str ⟨#[c]⟩) (.str "0") = true ∧ Q (.bl (!decide (V.str ⟨#[c]⟩ = .str "0"))) H') := by
    intro H' hs ne ha
    refine ⟨_, rfl, rfl, _, rfl, iteB (fun c => ?_) (fun c => ?_)⟩
    · rw [eqS s_zero] at c
      have e : isWritten l = true := written_iff.mpr ⟨ne, ha, .inl (of_decide_eq_true c)⟩
      rw [← e]; exact q _ hs
    · rw [eqS s_zero] at c
      cases l with
      | nil => exact absurd rfl ne
      | cons a r =>
        refine ⟨_, rfl, _, _, a, rfl, rfl, by decide, by decide, (by rw [S_len]; simp), by simp [S], rfl, ?_⟩
        have e : isWritten (a :: r) = !decide (V.str ⟨#[a]⟩ = .str "0") := by
          have e1 : decide (V.str ⟨#[a]⟩ = .str "0") = decide ([a] = [48]) := eqS (l := [a]) s_zero
          rw [e1]
          unfold isWritten
          rw [ha, decide_eq_false ne, c]
          simp
        rw [← e]; exact q _ hs
  refine ⟨_, rfl, rfl, _, rfl, iteB (fun c => ?_) (fun c => ?_)⟩
  · rw [eqS s_empty] at c
    have e : isWritten l = false := by
      rw [of_decide_eq_true c]; rfl
    refine iteT ?_
    show Q (.bl false) H
    rw [← e]; exact q _ (Same.refl _)
  · rw [eqS s_empty] at c
    refine ⟨_, rfl, _, rfl, fun D hD => lc_chars (fun _ => true) (fun c => .bl (isDig c)) hl (fun c hc H' K1 K2 hk => ?_) ?_⟩
    · refine ⟨rfl, _, rfl, c, _, rfl, rfl, ?_⟩
      rw [digits_S, S_list, mem_digits]
      exact hk
    · refine ⟨D, _, rfl, SqL.of (xs := (l.map isDig).map V.bl) ?_, ?_⟩
      · rw [upd_same, List.map_map, List.filter_eq_self.mpr (fun _ _ => rfl)]; rfl
      · have e : (l.map isDig).all id = l.all isDig := by simp [List.all_map]
        refine ⟨_, rfl, ?_⟩
        rw [e]
        refine iteB (fun z => ?_) (fun z => ?_)
        · have e : isWritten l = false := by
            unfold isWritten
            rw [show l.all isDig = false by simpa using z]; simp
          show Q (.bl false) _
          rw [← e]; exact q _ (same_new hD _)
        · exact tail _ (same_new hD _) (of_decide_eq_false c) (by simpa using z)
/-! ### integer_of -/
theorem all_dig {w : Tx} (h : w.all isDig = true) : NumText.AllDigits w := fun c hc => by
  have := List.all_eq_true.mp h c hc
  simpa [isDig] using this
theorem intOf_text {w : Tx} {n : Int} (h : intOf w = some n) : intText? (S w) = some n ∧ w.length ≤ 10 := by
  unfold intOf at h
  split at h
  · cases h
  · rename_i c
    rw [not_or, not_or, Classical.not_not] at c
    obtain ⟨c1, c2, c3⟩ := c
    have e := Option.some.inj h
    have q := written_iff.mp c1
    by_cases hm : w.take 1 = [45]
    · rw [if_pos hm] at e
      cases w with
      | nil => cases hm
      | cons a r =>
        have ha : a = 45 := by simpa using hm
        subst ha
        have hd : digs (45 :: r) = r := by unfold digs; rw [if_pos (by rfl)]; rfl
        rw [hd] at q c3 e
        refine ⟨?_, by simp; omega⟩
        rw [intText_neg (S_list _) (all_dig q.2.1) q.1 (by rw [S_len]; simp; omega), ← e]
        rfl
    · rw [if_neg hm] at e
      have hd : digs w = w := by unfold digs; rw [if_neg hm]
      rw [hd] at q c3 e
      refine ⟨?_, by omega⟩
      rw [intText_digits (by rw [S_list]; exact all_dig q.2.1) (by rw [S_list]; exact q.1) (by rw [S_len]; omega), S_list, ← e]
      rfl
abbrev sIntegerOf : Stmt := top 17
theorem scIntegerOf : FnScope ["word", "digits"] ["word"] (defScope sIntegerOf) := ⟨rfl, rfl, rfl, by decide +kernel, rfl, by decide +kernel, by decide +kernel⟩
def vInt : Option Int → V
  | some n => .int n
  | none => .non
def spIntegerOf : Sp := fun vs H Q _ => ∃ l : Tx, vs = [.str (S l)] ∧ l.length ≤ 1000000 ∧ ∀ H', Same H H' → Q (vInt (intOf l)) H'
theorem ok_integer_of {f : Addr} {fd : FuncData} (T : Tx0 K mg) (F : Fun K "integer_of" "integer_of" sIntegerOf f fd) (D : Df P w K mg base CX0 1 "is_written" ["word"] spIsWritten) : FnOk P w K mg base CX0 2 f fd ["word"] spIntegerOf := by
  refine F.ok scIntegerOf (fun vs H Q E h => ?_) (fun cdv A outer s H vs Q E hr h => ?_)
  · obtain ⟨l, rfl, _⟩ := h
    rfl
  obtain ⟨l, rfl, hl, q⟩ := h
  obtain ⟨t, hmd⟩ := T.mostD
  refine ⟨_, pss_cons (ps_set (i := 1) scIntegerOf.nd rfl (Or.inl rfl) (pe_ifExp (pt_cmpR op_eq (pe_slice sl_str (pv 0) po_none (po_some pe_int)) pe_str (nomark _)) (pe_slice sl_str (pv 0) (po_some pe_int) po_none) (pv 0)))
    (pss_cons (ps_if (PW.pt (pw_or (pt_not (pt_val (pe_df D hr (pa_cons (pv 1) pa_nil)))) (pw_or (pt_cmpR op_eq (pv 0) pe_str (nomark _))
      (pw_or1 (pt_cmpR op_gt (pe_callB call_len_str (by rfl) T.len PySem.boot_len (pa_cons (pv 1) pa_nil)) (pe_glob (v := .int 9) rfl hmd ⟨_, rfl⟩) (nomark _))))))
      (pss_one (ps_ret pe_non)) pss_nil)
    (pss_one (ps_ret (pe_callTy call_int_str (by rfl) T.int (by decide +kernel) (pa_cons (pv 0) pa_nil))))), ?_⟩
  have tail : ∀ (d : Tx), d = digs l → d.length ≤ 1000000 → tSeq (tIfS (tOr (tNot (tB (tCall spIsWritten [] E0 (tCons (tVar 1) tNil)))) (tOr (tTest (tOp rEq (tVar 0) (tC (.str "-0")))) (tTest (tOp (rI0 fun i j => .bl (decide (j < i))) (tCB (fun xs H Q => ∃ z : Str, xs = [.str z] ∧ z.length ≤ sizeLine ∧ Q (.int (z.length : Nat)) H) (tCons (tVar 1) tNil)) (tC (.int 9)))))) (tRet (tC .non)) tNext)
      (tRet (tCB (fun xs H Q => ∃ a n, xs = [.str a] ∧ PySem.intText? a = some n ∧ a.length ≤ 640 ∧ Q (.int n) H) (tCons (tVar 0) tNil))) { nx := fun _ H' => Q .non H', rt := Q } [some (.str (S l)), some (.str (S d))] H := by
    intro d hd hdl
    refine ⟨_, rfl, d, rfl, hdl, fun H1 s1 => ⟨_, rfl, ?_⟩⟩
    have none_of : (¬ isWritten d = true ∨ l = [45, 48] ∨ 9 < d.length) → Q .non H1 := fun z => by
      have e : intOf l = none := by unfold intOf; rw [← hd, if_pos z]
      have qq := q H1 s1
      rw [e] at qq
      exact qq
    refine iteB (fun c => ?_) (fun c => ?_)
    · exact iteT (none_of (.inl (by simpa using c)))
    · refine ⟨_, rfl, rfl, _, rfl, iteB (fun c2 => ?_) (fun c2 => ?_)⟩
      · rw [eqS s_mzero] at c2
        exact iteT (none_of (.inr (.inl (of_decide_eq_true c2))))
      · rw [eqS s_mzero] at c2
        refine ⟨_, rfl, _, rfl, lookS (by rw [S_len]; exact hdl), _, _, rfl, rfl, _, rfl, iteB (fun c3 => ?_) (fun c3 => ?_)⟩
        · have z := of_decide_eq_true c3
          rw [S_len] at z
          exact none_of (.inr (.inr (by omega)))
        · have z := of_decide_eq_false c3
          rw [S_len] at z
          have e : ∃ n, intOf l = some n := by
            unfold intOf
            rw [← hd, if_neg (by
              rintro (y | y | y)
              · exact y (by simpa using c)
              · exact (of_decide_eq_false c2) y
              · omega)]
            exact ⟨_, rfl⟩
          obtain ⟨n, e⟩ := e
          have tx := intOf_text e
          refine ⟨_, rfl, _, n, rfl, tx.1, by rw [S_len]; omega, ?_⟩
          have qq := q H1 s1
          rw [e] at qq
          exact qq
  refine ⟨_, rfl, 1, rfl, _, rfl, lookS (by rw [S_len]; exact hl), rfl, _, rfl, iteB (fun c => ?_) (fun c => ?_)⟩
  · rw [show cutS (S l) none (some 1) = S (l.take 1) from cut_take l 1, eqS s_minus] at c
    refine ⟨_, rfl, 1, rfl, _, rfl, lookS (by rw [S_len]; exact hl), ?_⟩
    rw [show cutS (S l) (some 1) none = S (l.drop 1) from cut_drop l 1]
    exact tail (l.drop 1) (by unfold digs; rw [if_pos (of_decide_eq_true c)]) (by rw [List.length_drop]; omega)
  · rw [show cutS (S l) none (some 1) = S (l.take 1) from cut_take l 1, eqS s_minus] at c
    exact ⟨_, rfl, tail l (by unfold digs; rw [if_neg (of_decide_eq_false c)]) hl⟩
end
end K05
set_option Elab.async false
set_option linter.all false
set_option maxRecDepth 100000
set_option maxHeartbeats 4000000
namespace K05
open PySem PySem.Spec PyProof.Rows L2
/-! ### the tokens' signs -/
def sgnL : List Tx := [[60,61], [62,61], [60], [61], [62], [45], [40], [41]]
theorem sgn_eq : ([.str "<=", .str ">=", .str "<", .str "=", .str ">", .str "-", .str "(", .str ")"] : List V) = sgnL.map fun s => V.str (S s) := by decide +kernel
def signAt (l : Tx) : Option Tx := sgnL.find? fun s => decide (l.take s.length = s)
theorem signAt_spec {c : Nat} {r : Tx} (h0 : c ≠ 32) (h1 : isSign c = false) : toks (c :: r) = (match signAt (c :: r) with | some s => (toks ((c :: r).drop s.length)).map (s :: ·) | none => none) := by
  have one : ∀ d : Nat, decide ((c :: r).take 1 = [d]) = decide (c = d) := fun d => by simp
  have two : ∀ d e : Nat, decide ((c :: r).take 2 = [d, e]) = decide (c = d ∧ r.head? = some e) := fun d e => by
    cases r with
    | nil => simp
    | cons a r => simp
  have e : signAt (c :: r) = if c = 60 ∧ r.head? = some 61 then some [60, 61] else if c = 62 ∧ r.head? = some 61 then some [62, 61] else if c = 60 then some [60] else if c = 61 then some [61] else if c = 62 then some [62] else if c = 45 then some [45] else if c = 40 then some [40] else if c = 41 then some [41] else none := by
    unfold signAt sgnL
    simp only [List.find?_cons, List.length_cons, List.length_nil, Nat.zero_add, Nat.reduceAdd, one, two, List.find?_nil]
    repeat (split <;> rename_i h <;> (first | (have h' := of_decide_eq_true h; simp [h']) | (have h' := of_decide_eq_false h; rw [if_neg h'])))
  rw [e]
  by_cases a1 : c = 60 ∧ r.head? = some 61
  · rw [if_pos a1]
    obtain ⟨rfl, a1⟩ := a1
    cases r with
    | nil => cases a1
    | cons d r =>
      have : d = 61 := by simpa using a1
      subst this
      exact toks_two (.inl rfl)
  rw [if_neg a1]
  by_cases a2 : c = 62 ∧ r.head? = some 61
  · rw [if_pos a2]
    obtain ⟨rfl, a2⟩ := a2
    cases r with
    | nil => cases a2
    | cons d r =>
      have : d = 61 := by simpa using a2
      subst this
      exact toks_two (.inr rfl)
  rw [if_neg a2]
  have n2 : ¬ ((c = 60 ∨ c = 62) ∧ r.head? = some 61) := by
    rintro ⟨rfl | rfl, z⟩
    · exact a1 ⟨rfl, z⟩
    · exact a2 ⟨rfl, z⟩
  by_cases b1 : c = 60
  · rw [if_pos b1]; subst b1; exact toks_one (by simp) n2
  rw [if_neg b1]
  by_cases b2 : c = 61
  · rw [if_pos b2]; subst b2; exact toks_one (by simp) n2
  rw [if_neg b2]
  by_cases b3 : c = 62
  · rw [if_pos b3]; subst b3; exact toks_one (by simp) n2
  rw [if_neg b3]
  by_cases b4 : c = 45
  · rw [if_pos b4]; subst b4; exact toks_one (by simp) n2
  rw [if_neg b4]
  by_cases b5 : c = 40
  · rw [if_pos b5]; subst b5; exact toks_one (by simp) n2
  rw [if_neg b5]
  by_cases b6 : c = 41
  · rw [if_pos b6]; subst b6; exact toks_one (by simp) n2
  rw [if_neg b6]
  exact toks_bad h0 h1 (by omega)
section
variable {P : Program} {w : World} {K : PySem.W.Frag} {mg : Str → Option Value} {base : Heap}
/-! ### word_end -/
abbrev sWordEnd : Stmt := top 18
theorem scWordEnd : FnScope ["text", "place", "end"] ["text", "place"] (defScope sWordEnd) := ⟨rfl, rfl, rfl, by decide +kernel, rfl, by decide +kernel, by decide +kernel⟩
def tw (l : Tx) : Nat := (l.takeWhile isSign).length
def spWordEnd : Sp := fun vs H Q _ => ∃ (l : Tx) (p : Nat), vs = [.str (S l), .int (p : Int)] ∧ l.length ≤ 1000000 ∧ p ≤ l.length ∧ Q (.int ((p + tw (l.drop p) : Nat) : Int)) H
theorem ok_word_end {f : Addr} {fd : FuncData} (T : Tx0 K mg) (F : Fun K "word_end" "word_end" sWordEnd f fd) : FnOk P w K mg base CX0 1 f fd ["text", "place"] spWordEnd := by
  refine F.ok scWordEnd (fun vs H Q E h => ?_) (fun cdv A outer s H vs Q E hr h => ?_)
  · obtain ⟨l, p, rfl, _⟩ := h
    rfl
  obtain ⟨l, p, rfl, hl, hp, q⟩ := h
  obtain ⟨t, hsg⟩ := T.signs
  refine ⟨_, pss_cons (ps_set (i := 2) scWordEnd.nd rfl (Or.inl rfl) (pv 1))
    (pss_cons (ps_while PassesOwn.never (PW.pt (pw_and (pt_cmpR op_lt (pv 2) (pe_callB call_len_str (by rfl) T.len PySem.boot_len (pa_cons (pv 0) pa_nil)) (nomark _))
      (pw_and1 (pt_cmpR op_in_sign (pe_item_str (pv 0) (pv 2) (fun _ _ => rfl)) (pe_glob (v := .str (S signsL)) rfl hsg ⟨_, rfl⟩) (by rfl)))))
      (pss_one (ps_aug (i := 2) scWordEnd.nd rfl (Or.inl rfl) pe_int ip_add)))
    (pss_one (ps_ret (pv 2)))), ?_⟩
  refine ⟨_, rfl, fun m σ H' => H' = H ∧ ∃ e : Nat, σ = [some (.str (S l)), some (.int (p : Int)), some (.int (e : Int))] ∧ e ≤ l.length ∧ m = l.length - e ∧ p + tw (l.drop p) = e + tw (l.drop e), ⟨_, rfl, p, rfl, hp, rfl, rfl⟩, ?_⟩
  rintro m σ H' ⟨rfl, e, rfl, he, rfl, hh⟩
  refine ⟨_, rfl, _, rfl, _, rfl, lookS (by rw [S_len]; exact hl), _, _, rfl, rfl, _, rfl, iteB (fun c => ?_) (fun c => ?_)⟩
  · have c1 : e < l.length := by
      have z := of_decide_eq_true c
      rw [S_len] at z; omega
    have hd : l.drop e = l[e] :: l.drop (e + 1) := List.drop_eq_getElem_cons c1
    refine ⟨_, rfl, _, rfl, _, _, l[e], rfl, rfl, by omega, by omega, by rw [S_len]; omega, ?_, _, _, rfl, rfl, _, rfl, iteB (fun c2 => ?_) (fun c2 => ?_)⟩
    · rw [Int.toNat_natCast]; simp [S]
    · rw [S_list, mem_signs] at c2
      refine ⟨fun σ' H'' => ∃ m', m' < l.length - e ∧ (H'' = H' ∧ ∃ e : Nat, σ' = [some (.str (S l)), some (.int (p : Int)), some (.int (e : Int))] ∧ e ≤ l.length ∧ m' = l.length - e ∧ p + tw (l.drop p) = e + tw (l.drop e)), fun _ _ z => z, ?_⟩
      refine ⟨_, rfl, _, _, rfl, rfl, _, ?_, rfl, e + 1, ?_, c1, rfl, ?_⟩
      · omega
      · rfl
      · rw [hh, hd]
        unfold tw
        rw [List.takeWhile_cons, if_pos c2, List.length_cons]; omega
    · rw [S_list, mem_signs] at c2
      refine ⟨_, rfl, ?_⟩
      have z : tw (l.drop e) = 0 := by
        unfold tw
        rw [hd, List.takeWhile_cons, if_neg (by rw [c2]; exact Bool.false_ne_true)]; rfl
      rw [hh, z] at q
      exact q
  · have c1 : ¬ e < l.length := by
      have z := of_decide_eq_false c
      rw [S_len] at z; omega
    refine iteF ⟨_, rfl, ?_⟩
    have z : tw (l.drop e) = 0 := by
      rw [List.drop_eq_nil_of_le (by omega)]; rfl
    rw [hh, z] at q
    exact q
/-! ### sign_at -/
abbrev sSignAt : Stmt := top 19
theorem scSignAt : FnScope ["text", "place", "sign"] ["text", "place"] (defScope sSignAt) := ⟨rfl, rfl, rfl, by decide +kernel, rfl, by decide +kernel, by decide +kernel⟩
def vTx : Option Tx → V
  | some x => .str (S x)
  | none => .non
def spSignAt : Sp := fun vs H Q _ => ∃ (l : Tx) (p : Nat), vs = [.str (S l), .int (p : Int)] ∧ l.length ≤ 1000000 ∧ p ≤ l.length ∧ Q (vTx (signAt (l.drop p))) H
theorem ok_sign_at {f : Addr} {fd : FuncData} (T : Tx0 K mg) (F : Fun K "sign_at" "sign_at" sSignAt f fd) : FnOk P w K mg base CX0 1 f fd ["text", "place"] spSignAt := by
  refine F.ok scSignAt (fun vs H Q E h => ?_) (fun cdv A outer s H vs Q E hr h => ?_)
  · obtain ⟨l, p, rfl, _⟩ := h
    rfl
  obtain ⟨l, p, rfl, hl, hp, q⟩ := h
  obtain ⟨a, hsg, hS⟩ := T.sgn
  rw [sgn_eq] at hS
  refine ⟨_, pss_cons (ps_for PassesOwn.never rfl (pi_tup (pe_glob (v := .ref a) rfl hsg rfl)) (pg_name (i := 2) scSignAt.nd rfl (Or.inl rfl))
      (pss_one (ps_if (pt_cmpR op_eq (pe_slice sl_str (pv 0) (po_some (pv 1)) (po_some (pe_op op_add (pv 1) (pe_callB call_len_str (by rfl) T.len PySem.boot_len (pa_cons (pv 2) pa_nil))))) (pv 2) (nomark _))
        (pss_one (ps_ret (pv 2))) pss_nil)))
    (pss_one (ps_ret pe_non)), ?_⟩
  refine ⟨a, rfl, ⟨_, hS H⟩, for_tup (K := K) (a := a) (xs := sgnL.map fun s => V.str (S s)) (fun i σ H' => H' = H ∧ (∃ v, σ = [some (.str (S l)), some (.int (p : Int)), v]) ∧ ∀ s ∈ sgnL.take i, (l.drop p).take s.length ≠ s) ⟨rfl, ⟨none, rfl⟩, fun s hs => by cases hs⟩ (fun i σ H' _ _ => hS H') ?_ ?_⟩
  · rintro i x σ H' hi ⟨rfl, ⟨v, rfl⟩, hn⟩
    obtain ⟨sg, hsg', rfl⟩ : ∃ sg, sgnL[i]? = some sg ∧ x = V.str (S sg) := by
      rw [List.getElem?_map] at hi
      cases e : sgnL[i]? with
      | none => rw [e] at hi; cases hi
      | some z => rw [e] at hi; exact ⟨z, rfl, (Option.some.inj hi).symm⟩
    have hle : sg.length ≤ 2 := by
      have : ∀ s ∈ sgnL, s.length ≤ 2 := by decide
      exact this sg (List.mem_of_getElem? hsg')
    have key : cutS (S l) (some (p : Int)) (some ((p : Int) + (((S sg).length : Nat) : Int))) = S ((l.drop p).take sg.length) := by
      have e : (p : Int) + (((S sg).length : Nat) : Int) = ((p + sg.length : Nat) : Int) := by rw [S_len]; omega
      rw [e, cut_mid]
      congr 2; omega
    refine ⟨_, rfl, _, rfl, _, rfl, _, rfl, _, rfl, _, rfl, lookS (by rw [S_len]; omega), _, _, rfl, rfl, _, rfl, _, rfl, lookS (by rw [S_len]; exact hl), _, rfl, rfl, _, rfl, iteB (fun c => ?_) (fun c => ?_)⟩
    · rw [key, eqS rfl] at c
      have c' := of_decide_eq_true c
      refine ⟨_, rfl, ?_⟩
      have e : signAt (l.drop p) = some sg := by
        unfold signAt
        rw [List.find?_eq_some_iff_getElem]
        obtain ⟨hlt, hget⟩ := List.getElem?_eq_some_iff.mp hsg'
        refine ⟨decide_eq_true c', i, hlt, hget, fun j hj => ?_⟩
        have hm : sgnL[j] ∈ sgnL.take i := List.mem_take_iff_getElem.mpr ⟨j, by omega, rfl⟩
        simpa using hn _ hm
      rw [e] at q
      exact q
    · rw [key, eqS rfl] at c
      have c' := of_decide_eq_false c
      refine ⟨rfl, ⟨_, rfl⟩, fun s hs => ?_⟩
      rw [take_one hsg'] at hs
      rcases List.mem_append.mp hs with hs | hs
      · exact hn s hs
      · rw [List.mem_singleton.mp hs]; exact c'
  · rintro σ H' ⟨rfl, ⟨v, rfl⟩, hn⟩
    have e : signAt (l.drop p) = none := by
      unfold signAt
      rw [List.find?_eq_none]
      intro s hs
      simpa using hn s hs
    rw [e] at q
    exact q
end
end K05
set_option Elab.async false
set_option linter.all false
set_option maxRecDepth 100000
set_option maxHeartbeats 4000000
namespace K05
open PySem PySem.Spec PyProof.Rows L2
/-! ### the error class -/
abbrev sTE : Stmt := inClass (top 2) 0
theorem scTE : FnScope ["self", "line", "column", "reason"] ["self", "line", "column", "reason"] (defScope sTE) := ⟨rfl, rfl, rfl, by decide +kernel, rfl, by decide +kernel, by decide +kernel⟩
/-- what the written part says of TextError, at C, and of its __init__ -/
structure TxE (K : PySem.W.Frag) (mg : Str → Option Value) (C : Addr) : Prop where
  oex : OexC K C
  g : mg "TextError" = some (.ref C)
  nl : PySem.W.findIn K (.ref C) "line" = some none
  nc : PySem.W.findIn K (.ref C) "column" = some none
  nr : PySem.W.findIn K (.ref C) "reason" = some none
  te : PySem.W.exmOne K (.ref C) (.ref C) = some true
  init : ∃ fI fd, PySem.W.findIn K (.ref C) "__init__" = some (some (.ref fI)) ∧ PySem.W.typeIn K (.ref fI) = some (.type "function") ∧ Fun K "__init__" "TextError.__init__" sTE fI fd ∧ Binds K fd ["self", "line", "column", "reason"] []
/-- TextError.__init__ -/
def spTE (C : Addr) : Sp := fun vs H Q _ => ∃ (a : Addr) (v1 v2 v3 : V), vs = [.ref a, v1, v2, v3] ∧ H a = some (exo a C none) ∧
  ∀ (H' : Hp) (d : Addr) (fs : List (Str × V)), H' a = some (exo a C (some d)) → H' d = some (exd d fs) → H d = none → (∀ b o, H b = some o → b ≠ a → H' b = some o) → Q .non H'
theorem exo_exd {a C d : Addr} {o : Option Addr} {fs : List (Str × V)} {H : Hp} (h1 : H a = some (exo a C o)) (n : H d = none) : d ≠ a := fun z => by rw [z, h1] at n; cases n
section
variable {P : Program} {w : World} {K : PySem.W.Frag} {mg : Str → Option Value} {base : Heap} {C : Addr}
theorem ok_TE {f : Addr} {fd : FuncData} (T : TxE K mg C) (F : Fun K "__init__" "TextError.__init__" sTE f fd) : FnOk P w K mg base CX0 1 f fd ["self", "line", "column", "reason"] (spTE C) := by
  refine F.ok scTE (fun vs H Q E h => ?_) (fun cdv A outer s H vs Q E hr h => ?_)
  · obtain ⟨a, v1, v2, v3, rfl, _⟩ := h
    rfl
  obtain ⟨a, v1, v2, v3, rfl, ha, q⟩ := h
  refine ⟨_, pss_cons (ps_ost (pv 0) (pv 1)) (pss_cons (ps_ost (pv 0) (pv 2)) (pss_one (ps_ost (pv 0) (pv 3)))), ?_⟩
  refine ⟨_, rfl, _, rfl, a, C, rfl, T.oex, T.nl, .inl ⟨ha, fun d hd hda => ?_⟩⟩
  have ad : a ≠ d := fun z => hda z.symm
  refine ⟨_, rfl, _, rfl, a, C, rfl, T.oex, T.nc, .inr ⟨d, _, upd_same, by rw [upd_ne hda, upd_same], by simp, ?_⟩⟩
  refine ⟨_, rfl, _, rfl, a, C, rfl, T.oex, T.nr, .inr ⟨d, _, by rw [upd_ne ad, upd_same], upd_same, by simp, ?_⟩⟩
  refine q _ d _ (by rw [upd_ne ad, upd_ne ad, upd_same]) upd_same hd fun b o hb hba => ?_
  have hbd : b ≠ d := ne_of_none hb hd
  rw [upd_ne hbd, upd_ne hbd, upd_ne hba, upd_ne hbd]
  exact hb
end
/-- behind the arguments of raise TextError(..) -/
theorem mkTE {C : Addr} {H1 : Hp} {v1 v2 v3 : V} {Q : XK} (h : ∀ d H', Same H1 H' → Q (.ref C) (some d) H') :
    [v1, v2, v3].length ≤ 1000 ∧ ∀ a, H1 a = none → spTE C (.ref a :: ([v1, v2, v3] ++ [])) (upd H1 a (exo a C none))
      (fun v H2 => v = .non ∧ ∃ (d : Addr) (fs : List (Str × V)), H2 a = some (exo a C (some d)) ∧ H2 d = some (exd d fs) ∧ H1 d = none ∧ Q (.ref C) (some d) (upd (del H2 a) d (.xd fs))) (fun _ _ _ => False) := by
  refine ⟨by simp, fun a ha => ⟨a, v1, v2, v3, rfl, upd_same, fun H' d fs e1 e2 e3 e4 => ?_⟩⟩
  have hda : d ≠ a := fun z => by rw [z, upd_same] at e3; cases e3
  rw [upd_ne hda] at e3
  refine ⟨rfl, d, fs, e1, e2, e3, h d _ fun b o hb => ?_⟩
  have n1 : b ≠ a := ne_of_none hb ha
  have n2 : b ≠ d := ne_of_none hb e3
  rw [upd_ne n2, del_ne n1]
  exact e4 b o (by rw [upd_ne n1]; exact hb) n1
section
variable {X : Cx} {C : Addr} {e : Expr} {es : List Expr} {ta : TA} {W : WX} {p pos pos2 : Pos} {k : Nat}
/-- raise TextError(..) -/
theorem ps_raiseTE (T : TxE X.K X.mg C) (hc : X.calm = true) (hr : Room 2 X.A) (tk : Takes X W) (ha : PA X (e :: es) ta) (hg : Gl X "TextError" := by rfl)
    (he : starEach (e :: es) X.env = (false, eval e X.env) :: starEach es X.env := by rfl) (hpl : (backTo pos (starEach es X.env)).any (·.1) = false := by rfl) :
    PS X (.Raise (some (.Call (.Name "TextError" p) (e :: es) [] pos)) none pos2) (fun _ σ H => tMkO C (spTE C) [] ta σ H fun cls d H' => W cls d σ H') := by
  obtain ⟨fI, fd, a, b, c, d⟩ := T.init
  exact ps_raise hc tk (pmk_oex T.oex a b (ok_TE (P := X.prog) (w := X.w) (base := X.base) T c) hr d .nil pass0 hg T.g ha (by decide) he hpl)
end
theorem take_tw (p : Nat → Bool) : ∀ l : Tx, l.take (l.takeWhile p).length = l.takeWhile p ∧ l.drop (l.takeWhile p).length = l.dropWhile p
  | [] => ⟨rfl, rfl⟩
  | a :: l => by
    have ih := take_tw p l
    rw [List.takeWhile_cons, List.dropWhile_cons]
    by_cases h : p a = true
    · rw [if_pos h, if_pos h, List.length_cons, List.take_succ_cons, List.drop_succ_cons, ih.1, ih.2]
      exact ⟨rfl, rfl⟩
    · rw [if_neg h, if_neg h]
      exact ⟨rfl, rfl⟩
/-! ### tokens_of -/
/-- a list of tokens -/
def TokAt (H : Hp) (a : Addr) (ts : List Tx) : Prop := ∃ rs : List Addr, H a = some (.lst (rs.map V.ref)) ∧ rs.length = ts.length ∧ ∀ (i : Nat) (r : Addr) (t : Tx), rs[i]? = some r → ts[i]? = some t → ∃ c : Int, H r = some (.tup [.str (S t), .int c])
theorem TokAt.but {p a : Addr} {H H' : Hp} {ts : List Tx} (h : TokAt H a ts) (b : But p H H') (hp : ∃ C dx fs, H p = some (.ins C dx fs)) : TokAt H' a ts := by
  obtain ⟨rs, h1, h2, h3⟩ := h
  obtain ⟨C, dx, fs, hp⟩ := hp
  refine ⟨rs, b a _ (ne_of h1 hp (by intro z; cases z)) h1, h2, fun i r t e1 e2 => ?_⟩
  obtain ⟨c, e⟩ := h3 i r t e1 e2
  exact ⟨c, b r _ (ne_of e hp (by intro z; cases z)) e⟩
theorem TokAt.same {a : Addr} {H H' : Hp} {ts : List Tx} (h : TokAt H a ts) (b : Same H H') : TokAt H' a ts := by
  obtain ⟨rs, h1, h2, h3⟩ := h
  refine ⟨rs, b a _ h1, h2, fun i r t e1 e2 => ?_⟩
  obtain ⟨c, e⟩ := h3 i r t e1 e2
  exact ⟨c, b r _ e⟩
theorem tok_snoc {H : Hp} {a t : Addr} {rs : List Addr} {ts : List Tx} {x : Tx} {c : Int} (h1 : H a = some (.lst (rs.map V.ref))) (h2 : rs.length = ts.length) (h3 : ∀ (i : Nat) (r : Addr) (t : Tx), rs[i]? = some r → ts[i]? = some t → ∃ c : Int, H r = some (.tup [.str (S t), .int c])) (ht : H t = none) :
    TokAt (upd (upd H t (.tup [.str (S x), .int c])) a (.lst (rs.map V.ref ++ [V.ref t]))) a (ts ++ [x]) := by
  have hta : t ≠ a := fun z => by rw [z, h1] at ht; cases ht
  refine ⟨rs ++ [t], by rw [upd_same, List.map_append]; rfl, by simp [h2], fun i r u e1 e2 => ?_⟩
  by_cases hi : i < rs.length
  · rw [List.getElem?_append_left hi] at e1
    rw [List.getElem?_append_left (by omega)] at e2
    obtain ⟨d, e⟩ := h3 i r u e1 e2
    have n1 : r ≠ t := ne_of_none e ht
    have n2 : r ≠ a := ne_of e h1 (by intro z; cases z)
    exact ⟨d, by rw [upd_ne n2, upd_ne n1]; exact e⟩
  · rw [List.getElem?_append_right (by omega)] at e1
    rw [List.getElem?_append_right (by omega)] at e2
    have z1 : i - rs.length = 0 := by
      have := (List.getElem?_eq_some_iff.mp e1).1
      simp at this; omega
    rw [z1] at e1
    rw [show i - ts.length = 0 by omega] at e2
    have : t = r := by simpa using e1
    subst this
    have : x = u := by simpa using e2
    subst this
    exact ⟨c, by rw [upd_ne hta, upd_same]⟩
abbrev sTokensOf : Stmt := top 20
abbrev nTokensOf : List Str := ["text", "found", "place", "end", "sign"]
theorem scTokensOf : FnScope nTokensOf ["text"] (defScope sTokensOf) := ⟨rfl, rfl, rfl, by decide +kernel, rfl, by decide +kernel, by decide +kernel⟩
def spTokensOf (C : Addr) : Sp := fun vs H Q E => ∃ l : Tx, vs = [.str (S l)] ∧ l.length ≤ 1000000 ∧ (∀ ts, toks l = some ts → ∀ a H', Same H H' → H a = none → TokAt H' a ts → Q (.ref a) H') ∧ (toks l = none → ∀ d H', Same H H' → E (.ref C) (some d) H')
theorem s_space : (" " : Str) = S [32] := by decide +kernel
theorem signAt_len {l s : Tx} (h : signAt l = some s) : 1 ≤ s.length ∧ s.length ≤ l.length := by
  unfold signAt at h
  have h1 := List.find?_some h
  have h2 := List.mem_of_find?_eq_some h
  have e : l.take s.length = s := of_decide_eq_true h1
  have z : ∀ s ∈ sgnL, 1 ≤ s.length := by decide
  refine ⟨z s h2, ?_⟩
  have := congrArg List.length e
  rw [List.length_take] at this; omega
section
variable {P : Program} {w : World} {K : PySem.W.Frag} {mg : Str → Option Value} {base : Heap} {C : Addr}
theorem ok_tokens_of {f : Addr} {fd : FuncData} (T : Tx0 K mg) (TE : TxE K mg C) (F : Fun K "tokens_of" "tokens_of" sTokensOf f fd) (DW : Df P w K mg base CX0 1 "word_end" ["text", "place"] spWordEnd) (DS : Df P w K mg base CX0 1 "sign_at" ["text", "place"] spSignAt) :
    FnOk P w K mg base (L2.CX P w) 3 f fd ["text"] (spTokensOf C) := by
  refine F.okX scTokensOf (fun vs H Q E h => ?_) (fun cdv A outer s H vs Q E hr h => ?_)
  · obtain ⟨l, rfl, _⟩ := h
    rfl
  obtain ⟨l, rfl, hl, q, qE⟩ := h
  have hr1 : Room 1 _ := hr.mono (by decide)
  refine ⟨_, pss_cons (ps_set (i := 1) scTokensOf.nd rfl (Or.inl rfl) (pe_lst pa_nil))
    (pss_cons (ps_set (i := 2) scTokensOf.nd rfl (Or.inl rfl) pe_int)
    (pss_cons (ps_while (passes_of rfl) (pt_cmpR op_lt (pv 2) (pe_callB call_len_str (by rfl) T.len PySem.boot_len (pa_cons (pv 0) pa_nil)) (nomark _))
      (pss_cons (ps_if (pt_cmpR op_eq (pe_item_str (pv 0) (pv 2) (fun _ _ => rfl)) pe_str (nomark _)) (pss_cons (ps_aug (i := 2) scTokensOf.nd rfl (Or.inl rfl) pe_int ip_add) (pss_one ps_continue)) pss_nil)
      (pss_cons (ps_set (i := 3) scTokensOf.nd rfl (Or.inl rfl) (pe_df DW hr1 (pa_cons (pv 0) (pa_cons (pv 2) pa_nil))))
      (pss_cons (ps_if (pt_cmpR op_eq (pv 3) (pv 2) (nomark _))
        (pss_cons (ps_set (i := 4) scTokensOf.nd rfl (Or.inl rfl) (pe_df DS hr1 (pa_cons (pv 0) (pa_cons (pv 2) pa_nil))))
        (pss_cons (ps_if (pt_cmp (pc_isN (pv 4))) (pss_one (ps_raiseTE TE rfl hr (takes_of rfl rfl rfl rfl) (by exact (pa_cons pe_int (pa_cons (pe_op op_add (pv 2) pe_int) (pa_cons pe_str pa_nil)))))) pss_nil)
        (pss_one (ps_set (i := 3) scTokensOf.nd rfl (Or.inl rfl) (pe_op op_add (pv 2) (pe_callB call_len_str (by rfl) T.len PySem.boot_len (pa_cons (pv 4) pa_nil)))))))
        pss_nil)
      (pss_cons (ps_expr (pe_bm PySem.F.plainAttrs_list PySem.F.slot_list_append PySem.F.type_list_append mt_append (pv 1)
        (pa_cons (pe_tup (pa_cons (pe_slice sl_str (pv 0) (po_some (pv 2)) (po_some (pv 3))) (pa_cons (pe_op op_add (pv 2) pe_int) pa_nil))) pa_nil)))
      (pss_one (ps_set (i := 2) scTokensOf.nd rfl (Or.inl rfl) (pv 3))))))))
    (pss_one (ps_ret (pv 1))))), ?_⟩
  refine ⟨by show 0 ≤ sizeLine; decide, fun fl hfl => ?_⟩
  -- the invariant
  let W : Nat → L2.St → Hp → Prop := fun m σ H' => ∃ (p : Nat) (e sg : Option V) (rs : List Addr) (dn : List Tx), σ = [some (.str (S l)), some (.ref fl), some (.int (p : Int)), e, sg] ∧ p ≤ l.length ∧ m = l.length - p ∧ Same H H' ∧
    H' fl = some (.lst (rs.map V.ref)) ∧ rs.length = dn.length ∧ (∀ (i : Nat) (r : Addr) (t : Tx), rs[i]? = some r → dn[i]? = some t → ∃ c : Int, H' r = some (.tup [.str (S t), .int c])) ∧ rs.length ≤ p ∧ toks l = pfx dn (toks (l.drop p))
  refine ⟨W, ⟨_, 0, none, none, [], [], rfl, Nat.zero_le _, rfl, same_new hfl _, upd_same, rfl, fun i r t e => by simp at e, Nat.zero_le _, ?_⟩, ?_⟩
  · rw [List.drop_zero]
    cases toks l <;> rfl
  rintro m σ H' ⟨p, e, sg, rs, dn, rfl, hp, rfl, hs, h1, h2, h3, h4, ht⟩
  refine ⟨_, rfl, _, rfl, _, rfl, lookS (by rw [S_len]; exact hl), _, _, rfl, rfl, _, rfl, iteB (fun c => ?_) (fun c => ?_)⟩
  · have hp1 : p < l.length := by
      have z := of_decide_eq_true c
      rw [S_len] at z; omega
    have hd : l.drop p = l[p] :: l.drop (p + 1) := List.drop_eq_getElem_cons hp1
    refine ⟨fun σ' H'' => ∃ m', m' < l.length - p ∧ W m' σ' H'', fun _ _ z => z, ?_⟩
    refine ⟨_, rfl, _, rfl, _, _, l[p], rfl, rfl, by omega, by omega, by rw [S_len]; omega, by rw [Int.toNat_natCast]; simp [S], rfl, _, rfl, iteB (fun c2 => ?_) (fun c2 => ?_)⟩
    · -- a space
      have e1 : decide (V.str ⟨#[l[p]]⟩ = .str " ") = decide ([l[p]] = [32]) := eqS (l := [l[p]]) s_space
      rw [e1] at c2
      have c3 : l[p] = 32 := by simpa using c2
      refine ⟨_, rfl, _, _, rfl, rfl, _, ?_, p + 1, e, sg, rs, dn, rfl, hp1, rfl, hs, h1, h2, h3, by omega, ?_⟩
      · omega
      · rw [ht, hd, c3, toks_space]
    · have e1 : decide (V.str ⟨#[l[p]]⟩ = .str " ") = decide ([l[p]] = [32]) := eqS (l := [l[p]]) s_space
      rw [e1] at c2
      have c3 : l[p] ≠ 32 := by simpa using c2
      -- from the end of the token on
      have tail : ∀ (D : Ends) (en : Nat) (sg' : Option V), (∀ σ' H'', (∃ m', m' < l.length - p ∧ W m' σ' H'') → D.nx σ' H'') → p < en → en ≤ l.length → toks (l.drop p) = (toks (l.drop en)).map ((l.drop p).take (en - p) :: ·) →
          tSeq (tDrop (tBM K "list" rAppend (tVar 1) (tCons (tTup (tCons (tSl rSlS (tVar 0) (tPart (tVar 2)) (tPart (tVar 3))) (tCons (tOp (rI0 fun i j => .int (i + j)) (tVar 2) (tC (.int 1))) tNil))) tNil)))
            (tAsg (tVar 3) (gName 2)) D [some (.str (S l)), some (.ref fl), some (.int (p : Int)), some (.int (en : Int)), sg'] H' := by
        intro D en sg' hD hlt hle hq
        refine ⟨_, rfl, .inl ⟨rfl, _, SqL.of h1⟩, _, rfl, _, rfl, _, rfl, _, rfl, _, rfl, _, rfl, lookS (by rw [S_len]; exact hl), _, rfl, _, _, rfl, rfl, (by show 2 ≤ sizeLine; decide), fun t hnt => ?_⟩
        have ntf : fl ≠ t := ne_of_none h1 hnt
        refine ⟨fl, _, _, rfl, rfl, by rw [upd_ne ntf]; exact h1, ?_, _, rfl, ?_⟩
        · rw [List.length_map]; rw [sizeLine_eq]; omega
        · rw [cut_mid]
          obtain ⟨rs', z1, z2, z3⟩ := tok_snoc (x := (l.drop p).take (en - p)) (c := (p : Int) + 1) h1 h2 h3 hnt
          have er : rs'.map V.ref = (rs ++ [t]).map V.ref := by
            rw [upd_same] at z1
            have := Option.some.inj z1
            injection this with this
            rw [← this, List.map_append]; rfl
          have el : rs'.length = rs.length + 1 := by
            have := congrArg List.length er
            simpa using this
          refine hD _ _ ⟨_, ?_, en, _, _, rs', dn ++ [(l.drop p).take (en - p)], rfl, hle, rfl, ?_, z1, z2, z3, by omega, ?_⟩
          · omega
          · intro b o hb
            have n1 : b ≠ fl := ne_of_none hb hfl
            have n2 := hs b o hb
            rw [upd_ne n1, upd_ne (ne_of_none n2 hnt)]
            exact n2
          · rw [ht, hq, pfx_one, pfx_pfx]
      refine ⟨_, rfl, _, rfl, l, p, rfl, hl, hp, ?_⟩
      refine ⟨_, rfl, _, rfl, rfl, _, rfl, iteB (fun c4 => ?_) (fun c4 => ?_)⟩
      · -- a sign
        have z0 : tw (l.drop p) = 0 := by
          have := V.int.inj (of_decide_eq_true c4)
          omega
        have c5 : isSign l[p] = false := by
          cases e5 : isSign l[p] with
          | false => rfl
          | true =>
            unfold tw at z0
            rw [hd, List.takeWhile_cons, if_pos e5] at z0
            cases z0
        have sp := signAt_spec (c := l[p]) (r := l.drop (p + 1)) c3 c5
        rw [← hd] at sp
        refine ⟨_, rfl, _, rfl, l, p, rfl, hl, hp, ?_⟩
        cases e6 : signAt (l.drop p) with
        | none =>
          rw [e6] at sp
          refine ⟨_, rfl, _, rfl, ?_⟩
          refine iteT ?_
          refine ⟨_, rfl, _, _, rfl, rfl, mkTE fun d H'' s2 => ?_⟩
          exact qE (by rw [ht, sp]; rfl) d H'' (Same.trans hs s2)
        | some sx =>
          rw [e6] at sp
          have sl := signAt_len e6
          refine ⟨_, rfl, _, rfl, ?_⟩
          refine iteF ?_
          refine ⟨_, rfl, _, rfl, _, rfl, lookS (by rw [S_len]; rw [List.length_drop] at sl; omega), _, _, rfl, rfl, ?_⟩
          have e7 : (p : Int) + (((S sx).length : Nat) : Int) = ((p + sx.length : Nat) : Int) := by rw [S_len]; omega
          rw [List.length_drop] at sl
          show tSeq _ _ _ [some (.str (S l)), some (.ref fl), some (.int (p : Int)), some (.int ((p : Int) + (((S sx).length : Nat) : Int))), some (.str (S sx))] H'
          rw [e7]
          refine tail _ (p + sx.length) _ (fun _ _ z => z) (by omega) (by omega) ?_
          have sp' : toks (l.drop p) = (toks ((l.drop p).drop sx.length)).map (sx :: ·) := sp
          rw [sp', List.drop_drop]
          have e8 : (l.drop p).take (p + sx.length - p) = sx := by
            unfold signAt at e6
            have h1 := List.find?_some e6
            rw [Nat.add_sub_cancel_left]
            exact of_decide_eq_true h1
          rw [e8]
      · -- a word
        have z0 : tw (l.drop p) ≠ 0 := fun z => by
          have := of_decide_eq_false c4
          rw [z] at this
          exact this rfl
        have c5 : isSign l[p] = true := by
          cases e5 : isSign l[p] with
          | true => rfl
          | false =>
            unfold tw at z0
            rw [hd, List.takeWhile_cons, if_neg (by rw [e5]; exact Bool.false_ne_true)] at z0
            exact absurd rfl z0
        have len : tw (l.drop p) ≤ (l.drop p).length := by
          unfold tw
          have := congrArg List.length (List.takeWhile_append_dropWhile (p := isSign) (l := l.drop p))
          rw [List.length_append] at this; omega
        rw [List.length_drop] at len
        refine tail _ (p + tw (l.drop p)) _ (fun _ _ z => z) (by omega) (by omega) ?_
        have e9 : (l.drop p).take (p + tw (l.drop p) - p) = (l.drop p).takeWhile isSign := by
          rw [Nat.add_sub_cancel_left]
          exact (take_tw isSign (l.drop p)).1
        have e10 : l.drop (p + tw (l.drop p)) = (l.drop p).dropWhile isSign := by
          rw [← List.drop_drop]
          exact (take_tw isSign (l.drop p)).2
        rw [e9, e10, hd, toks_w1 c5, List.takeWhile_cons, if_pos c5, List.dropWhile_cons, if_pos c5]
  · have hp1 : p = l.length := by
      have z := of_decide_eq_false c
      rw [S_len] at z; omega
    refine ⟨_, rfl, ?_⟩
    rw [hp1, List.drop_eq_nil_of_le (Nat.le_refl _), toks_nil] at ht
    refine q dn ?_ fl H' hs hfl ⟨rs, h1, h2, h3⟩
    rw [ht]; simp [pfx]
end
end K05
set_option Elab.async false
set_option linter.all false
set_option maxRecDepth 100000
set_option maxHeartbeats 4000000
namespace K05
open PySem PySem.Spec PyProof.Rows L2
/-! ### the parser's object -/
structure PF (fs : List (Str × V)) (l : Addr) (i e k : Int) : Prop where
  tok : fs.lookup ("tokens" : Str) = some (.ref l)
  at_ : fs.lookup ("at" : Str) = some (.int i)
  en : fs.lookup ("end" : Str) = some (.int e)
  om : fs.lookup ("open_marks" : Str) = some (.int k)
  no : ∀ m : Str, m ≠ "tokens" → m ≠ "at" → m ≠ "end" → m ≠ "open_marks" → fs.lookup m = none
  len : fs.length ≤ 4
theorem putF_len {f : Str} {v : V} : ∀ {fs : List (Str × V)} {x : V}, fs.lookup f = some x → (putF f v fs).length = fs.length
  | [], _, h => by cases h
  | (g, y) :: r, x, h => by
    rw [lookup_put] at h
    show (if g = f then (g, v) :: r else (g, y) :: putF f v r).length = _
    by_cases e : g = f
    · rw [if_pos e]; rfl
    · rw [if_neg (fun z => e z.symm)] at h
      rw [if_neg e, List.length_cons, putF_len h]; rfl
theorem nTA : ("tokens" : Str) ≠ "at" := by decide +kernel
theorem nTE : ("tokens" : Str) ≠ "end" := by decide +kernel
theorem nTO : ("tokens" : Str) ≠ "open_marks" := by decide +kernel
theorem nAE : ("at" : Str) ≠ "end" := by decide +kernel
theorem nAO : ("at" : Str) ≠ "open_marks" := by decide +kernel
theorem nEO : ("end" : Str) ≠ "open_marks" := by decide +kernel
theorem PF.putAt {fs : List (Str × V)} {l : Addr} {i e k : Int} (h : PF fs l i e k) (j : Int) : PF (putF "at" (.int j) fs) l j e k :=
  ⟨by rw [lookup_putF, if_neg nTA]; exact h.tok, by rw [lookup_putF, if_pos rfl], by rw [lookup_putF, if_neg nAE.symm]; exact h.en, by rw [lookup_putF, if_neg nAO.symm]; exact h.om,
   fun m a b c d => by rw [lookup_putF, if_neg b]; exact h.no m a b c d, by rw [putF_len h.at_]; exact h.len⟩
theorem PF.putOm {fs : List (Str × V)} {l : Addr} {i e k : Int} (h : PF fs l i e k) (j : Int) : PF (putF "open_marks" (.int j) fs) l i e j :=
  ⟨by rw [lookup_putF, if_neg nTO]; exact h.tok, by rw [lookup_putF, if_neg nAO]; exact h.at_, by rw [lookup_putF, if_neg nEO]; exact h.en, by rw [lookup_putF, if_pos rfl],
   fun m a b c d => by rw [lookup_putF, if_neg d]; exact h.no m a b c d, by rw [putF_len h.om]; exact h.len⟩
/-- a parser at p: its tokens, its place, its open marks -/
def PAt (CP : Addr) (H : Hp) (p : Addr) (ts : List Tx) (i k : Nat) : Prop := ∃ (dx l : Addr) (e : Int) (fs : List (Str × V)), H p = some (.ins CP dx fs) ∧ PF fs l (i : Int) e (k : Int) ∧ TokAt H l ts
/-- what the written part says of Parser -/
structure TxP (K : PySem.W.Frag) (mg : Str → Option Value) (CP : Addr) : Prop where
  cls : Cls K CP
  nT : NoAttr K CP "tokens"
  nA : NoAttr K CP "at"
  nE : NoAttr K CP "end"
  nO : NoAttr K CP "open_marks"
  g : mg "Parser" = some (.ref CP)
/-- a name that is none of the parser's own -/
structure NoF (m : Str) : Prop where
  t : m ≠ "tokens"
  a : m ≠ "at"
  e : m ≠ "end"
  o : m ≠ "open_marks"
section
variable {K : PySem.W.Frag} {mg : Str → Option Value} {CP p : Addr} {H : Hp} {ts : List Tx} {i k : Nat} {σ : L2.St} {Q : VK} {D : Ends}
theorem PAt.ins (h : PAt CP H p ts i k) : ∃ C dx fs, H p = some (.ins C dx fs) := by
  obtain ⟨dx, l, e, fs, hp, _⟩ := h
  exact ⟨_, _, _, hp⟩
theorem PAt.but {H' : Hp} (h : PAt CP H p ts i k) (s : Same H H') : PAt CP H' p ts i k := by
  obtain ⟨dx, l, e, fs, hp, pf, tk⟩ := h
  exact ⟨dx, l, e, fs, s _ _ hp, pf, tk.same s⟩
theorem PAt.call0 {m : Str} {sp : Sp} {E : XK} (h : PAt CP H p ts i k) (h0 : σ[0]? = some (some (.ref p))) (hm : NoF m) (r : sp [.ref p] H Q E) : tMeth CP m sp [] E (tVar 0) tNil σ H Q := by
  obtain ⟨dx, l, e, fs, hp, pf, tk⟩ := h
  exact ⟨_, h0, p, dx, fs, rfl, hp, pf.no m hm.t hm.a hm.e hm.o, r⟩
theorem PAt.call1 {m : Str} {sp : Sp} {E : XK} {v : V} (h : PAt CP H p ts i k) (h0 : σ[0]? = some (some (.ref p))) (hm : NoF m) (r : sp [.ref p, v] H Q E) : tMeth CP m sp [] E (tVar 0) (tCons (tC v) tNil) σ H Q := by
  obtain ⟨dx, l, e, fs, hp, pf, tk⟩ := h
  exact ⟨_, h0, p, dx, fs, rfl, hp, pf.no m hm.t hm.a hm.e hm.o, r⟩
theorem PAt.rdAt (h : PAt CP H p ts i k) (T : TxP K mg CP) (h0 : σ[0]? = some (some (.ref p))) (r : Q (.int (i : Int)) H) : tFld K (tVar 0) "at" σ H Q := by
  obtain ⟨dx, l, e, fs, hp, pf, tk⟩ := h
  exact ⟨_, h0, p, CP, dx, fs, _, rfl, hp, T.cls, T.nA, pf.at_, r⟩
theorem PAt.rdOm (h : PAt CP H p ts i k) (T : TxP K mg CP) (h0 : σ[0]? = some (some (.ref p))) (r : Q (.int (k : Int)) H) : tFld K (tVar 0) "open_marks" σ H Q := by
  obtain ⟨dx, l, e, fs, hp, pf, tk⟩ := h
  exact ⟨_, h0, p, CP, dx, fs, _, rfl, hp, T.cls, T.nO, pf.om, r⟩
theorem PAt.rdEn (h : PAt CP H p ts i k) (T : TxP K mg CP) (h0 : σ[0]? = some (some (.ref p))) (r : ∀ e : Int, Q (.int e) H) : tFld K (tVar 0) "end" σ H Q := by
  obtain ⟨dx, l, e, fs, hp, pf, tk⟩ := h
  exact ⟨_, h0, p, CP, dx, fs, _, rfl, hp, T.cls, T.nE, pf.en, r e⟩
theorem PAt.rdTk (h : PAt CP H p ts i k) (T : TxP K mg CP) (h0 : σ[0]? = some (some (.ref p))) (r : ∀ l, TokAt H l ts → Q (.ref l) H) : tFld K (tVar 0) "tokens" σ H Q := by
  obtain ⟨dx, l, e, fs, hp, pf, tk⟩ := h
  exact ⟨_, h0, p, CP, dx, fs, _, rfl, hp, T.cls, T.nT, pf.tok, r l tk⟩
theorem PAt.setAt {j : Nat} {dx : Addr} {fs : List (Str × V)} {e : Int} {l : Addr} (hp : H p = some (.ins CP dx fs)) (pf : PF fs l (i : Int) e (k : Int)) (tk : TokAt H l ts) : PAt CP (upd H p (.ins CP dx (putF "at" (.int (j : Int)) fs))) p ts j k :=
  ⟨dx, l, e, _, upd_same, pf.putAt _, tk.but But.upd ⟨_, _, _, hp⟩⟩
theorem PAt.setOm {j : Nat} {dx : Addr} {fs : List (Str × V)} {e : Int} {l : Addr} (hp : H p = some (.ins CP dx fs)) (pf : PF fs l (i : Int) e (k : Int)) (tk : TokAt H l ts) : PAt CP (upd H p (.ins CP dx (putF "open_marks" (.int (j : Int)) fs))) p ts i j :=
  ⟨dx, l, e, _, upd_same, pf.putOm _, tk.but But.upd ⟨_, _, _, hp⟩⟩
/-- self.at += 1 -/
theorem PAt.incAt (h : PAt CP H p ts i k) (T : TxP K mg CP) (h0 : σ[0]? = some (some (.ref p))) (r : ∀ H', But p H H' → PAt CP H' p ts (i + 1) k → D.nx σ H') : sFldAug K (tVar 0) (tC (.int 1)) L2.rAdd "at" D σ H := by
  obtain ⟨dx, l, e, fs, hp, pf, tk⟩ := h
  refine ⟨_, h0, p, CP, dx, fs, _, rfl, hp, T.cls, T.nA, pf.at_, _, _, rfl, rfl, dx, fs, hp, by have := pf.len; omega, ?_⟩
  have z := PAt.setAt (j := i + 1) hp pf tk
  rw [show (((i + 1 : Nat)) : Int) = (i : Int) + 1 by omega] at z
  exact r _ But.upd z
/-- self.open_marks += 1 -/
theorem PAt.incOm (h : PAt CP H p ts i k) (T : TxP K mg CP) (h0 : σ[0]? = some (some (.ref p))) (r : ∀ H', But p H H' → PAt CP H' p ts i (k + 1) → D.nx σ H') : sFldAug K (tVar 0) (tC (.int 1)) L2.rAdd "open_marks" D σ H := by
  obtain ⟨dx, l, e, fs, hp, pf, tk⟩ := h
  refine ⟨_, h0, p, CP, dx, fs, _, rfl, hp, T.cls, T.nO, pf.om, _, _, rfl, rfl, dx, fs, hp, by have := pf.len; omega, ?_⟩
  have z := PAt.setOm (j := k + 1) hp pf tk
  rw [show (((k + 1 : Nat)) : Int) = (k : Int) + 1 by omega] at z
  exact r _ But.upd z
/-- self.open_marks -= 1 -/
theorem PAt.decOm (h : PAt CP H p ts i (k + 1)) (T : TxP K mg CP) (h0 : σ[0]? = some (some (.ref p))) (r : ∀ H', But p H H' → PAt CP H' p ts i k → D.nx σ H') : sFldAug K (tVar 0) (tC (.int 1)) L2.rSub "open_marks" D σ H := by
  obtain ⟨dx, l, e, fs, hp, pf, tk⟩ := h
  refine ⟨_, h0, p, CP, dx, fs, _, rfl, hp, T.cls, T.nO, pf.om, _, _, rfl, rfl, dx, fs, hp, by have := pf.len; omega, ?_⟩
  have z := PAt.setOm (j := k) hp pf tk
  rw [show (((k : Nat)) : Int) = ((k + 1 : Nat) : Int) - 1 by omega] at z
  exact r _ But.upd z
end
/-- what leaves a callee leaves this def -/
theorem pxs {P : Program} {w : World} {K : PySem.W.Frag} {mg : Str → Option Value} {base : Heap} {N : List Str} {qual : Str} {scope : Scope} {f : Addr} {cd : Value} {A : Around} {outer : List Env} {s : Shared} {H : Hp} {E : XK} :
    Passes (L2.CX P w) (cxOf (L2.CX P w) P w K mg base N qual scope f cd A outer s H E) E := passes_call (takes_of rfl rfl rfl rfl) (fun _ _ _ _ z => z)
section
variable {P : Program} {w : World} {K : PySem.W.Frag} {mg : Str → Option Value} {base : Heap} {CP C : Addr}
/-! ### next_text, column -/
theorem hd_drop {ts : List Tx} {i : Nat} : hd (ts.drop i) = ts.getD i [] := by
  unfold hd
  by_cases h : i < ts.length
  · rw [List.drop_eq_getElem_cons h]; simp [List.getD, h]
  · rw [List.drop_eq_nil_of_le (by omega)]; simp [List.getD, h]
abbrev sNext : Stmt := inClass (top 26) 1
theorem scNext : FnScope ["self"] ["self"] (defScope sNext) := ⟨rfl, rfl, rfl, by decide +kernel, rfl, by decide +kernel, by decide +kernel⟩
def spNext (CP : Addr) : Sp := fun vs H Q _ => ∃ (p : Addr) (ts : List Tx) (i k : Nat), vs = [.ref p] ∧ PAt CP H p ts i k ∧ Q (.str (S (hd (ts.drop i)))) H
theorem ok_next {f : Addr} {fd : FuncData} (T : Tx0 K mg) (TP : TxP K mg CP) (F : Fun K "next_text" "Parser.next_text" sNext f fd) : FnOk P w K mg base CX0 1 f fd ["self"] (spNext CP) := by
  refine F.ok scNext (fun vs H Q E h => ?_) (fun cdv A outer s H vs Q E hr h => ?_)
  · obtain ⟨p, ts, i, k, rfl, _⟩ := h
    rfl
  obtain ⟨p, ts, i, k, rfl, hp, q⟩ := h
  refine ⟨_, pss_cons (ps_if (pt_cmpR op_lt (pe_fld (pv 0) rfl) (pe_callB call_len_seq (by rfl) T.len PySem.boot_len (pa_cons (pe_fld (pv 0) rfl) pa_nil)) (nomark _))
      (pss_one (ps_ret (pe_ix ix_tup (pe_ix ix_list (pe_fld (pv 0) rfl) (pe_fld (pv 0) rfl) (fun _ _ => rfl)) pe_int (fun _ _ => rfl)))) pss_nil)
    (pss_one (ps_ret pe_str)), ?_⟩
  show tFld _ _ _ _ _ _
  refine hp.rdAt TP (by rfl) ?_
  show tFld _ _ _ _ _ _
  refine hp.rdTk TP (by rfl) fun l tk => ?_
  obtain ⟨rs, h1, h2, h3⟩ := tk
  refine ⟨l, _, rfl, .inl (SqL.of h1), _, _, rfl, rfl, _, rfl, iteB (fun c => ?_) (fun c => ?_)⟩
  · have c1 : i < ts.length := by
      have z := of_decide_eq_true c
      rw [List.length_map, h2] at z; omega
    have e1 : ts[i]? = some ts[i] := List.getElem?_eq_getElem c1
    have e2 : rs[i]? = some (rs[i]'(by omega)) := List.getElem?_eq_getElem (by omega)
    obtain ⟨cl, h4⟩ := h3 i _ _ e2 e1
    show tFld _ _ _ _ _ _
    refine hp.rdTk TP (by rfl) fun l' tk' => ?_
    obtain ⟨rs', h1', h2', h3'⟩ := tk'
    show tFld _ _ _ _ _ _
    refine hp.rdAt TP (by rfl) ?_
    have e2' : rs'[i]? = some (rs'[i]'(by omega)) := List.getElem?_eq_getElem (by omega)
    obtain ⟨cl', h4'⟩ := h3' i _ _ e2' e1
    refine ⟨l', _, _, _, rfl, rfl, SqL.of h1', atI_nat (v := V.ref (rs'[i]'(by omega))) (by rw [List.getElem?_map, e2']; rfl), ?_⟩
    refine ⟨_, _, _, _, rfl, rfl, SqT.of h4', atI_nat (j := 0) rfl, ?_⟩
    rw [hd_drop, List.getD, e1] at q
    exact q
  · have c1 : ¬ i < ts.length := by
      have z := of_decide_eq_false c
      rw [List.length_map, h2] at z; omega
    rw [List.drop_eq_nil_of_le (by omega)] at q
    show Q (.str "") H
    rw [s_empty]
    exact q
abbrev sColumn : Stmt := inClass (top 26) 2
theorem scColumn : FnScope ["self"] ["self"] (defScope sColumn) := ⟨rfl, rfl, rfl, by decide +kernel, rfl, by decide +kernel, by decide +kernel⟩
def spColumn (CP : Addr) : Sp := fun vs H Q _ => ∃ (p : Addr) (ts : List Tx) (i k : Nat), vs = [.ref p] ∧ PAt CP H p ts i k ∧ ∀ c : Int, Q (.int c) H
theorem ok_column {f : Addr} {fd : FuncData} (T : Tx0 K mg) (TP : TxP K mg CP) (F : Fun K "column" "Parser.column" sColumn f fd) : FnOk P w K mg base CX0 1 f fd ["self"] (spColumn CP) := by
  refine F.ok scColumn (fun vs H Q E h => ?_) (fun cdv A outer s H vs Q E hr h => ?_)
  · obtain ⟨p, ts, i, k, rfl, _⟩ := h
    rfl
  obtain ⟨p, ts, i, k, rfl, hp, q⟩ := h
  refine ⟨_, pss_cons (ps_if (pt_cmpR op_lt (pe_fld (pv 0) rfl) (pe_callB call_len_seq (by rfl) T.len PySem.boot_len (pa_cons (pe_fld (pv 0) rfl) pa_nil)) (nomark _))
      (pss_one (ps_ret (pe_ix ix_tup (pe_ix ix_list (pe_fld (pv 0) rfl) (pe_fld (pv 0) rfl) (fun _ _ => rfl)) pe_int (fun _ _ => rfl)))) pss_nil)
    (pss_one (ps_ret (pe_fld (pv 0) rfl))), ?_⟩
  show tFld _ _ _ _ _ _
  refine hp.rdAt TP (by rfl) ?_
  show tFld _ _ _ _ _ _
  refine hp.rdTk TP (by rfl) fun l tk => ?_
  obtain ⟨rs, h1, h2, h3⟩ := tk
  refine ⟨l, _, rfl, .inl (SqL.of h1), _, _, rfl, rfl, _, rfl, iteB (fun c => ?_) (fun c => ?_)⟩
  · have c1 : i < ts.length := by
      have z := of_decide_eq_true c
      rw [List.length_map, h2] at z; omega
    have e1 : ts[i]? = some ts[i] := List.getElem?_eq_getElem c1
    show tFld _ _ _ _ _ _
    refine hp.rdTk TP (by rfl) fun l' tk' => ?_
    obtain ⟨rs', h1', h2', h3'⟩ := tk'
    show tFld _ _ _ _ _ _
    refine hp.rdAt TP (by rfl) ?_
    have e2' : rs'[i]? = some (rs'[i]'(by omega)) := List.getElem?_eq_getElem (by omega)
    obtain ⟨cl', h4'⟩ := h3' i _ _ e2' e1
    refine ⟨l', _, _, _, rfl, rfl, SqL.of h1', atI_nat (v := V.ref (rs'[i]'(by omega))) (by rw [List.getElem?_map, e2']; rfl), ?_⟩
    exact ⟨_, _, _, _, rfl, rfl, SqT.of h4', atI_nat (j := 1) rfl, q _⟩
  · exact (hp.rdEn TP (σ := L2.start ["self"] [V.ref p]) (Q := Q) rfl q)
/-! ### fail -/
abbrev sFail : Stmt := inClass (top 26) 3
theorem scFail : FnScope ["self", "reason"] ["self", "reason"] (defScope sFail) := ⟨rfl, rfl, rfl, by decide +kernel, rfl, by decide +kernel, by decide +kernel⟩
theorem noF_column : NoF "column" := ⟨by decide +kernel, by decide +kernel, by decide +kernel, by decide +kernel⟩
def spFail (CP C : Addr) : Sp := fun vs H _ E => ∃ (p : Addr) (ts : List Tx) (i k : Nat) (v : V), vs = [.ref p, v] ∧ PAt CP H p ts i k ∧ ∀ d H', Same H H' → E (.ref C) (some d) H'
theorem ok_fail {f : Addr} {fd : FuncData} (TP : TxP K mg CP) (TE : TxE K mg C) (F : Fun K "fail" "Parser.fail" sFail f fd) (DC : Dm P w K mg base CX0 CP 1 "column" ["self"] (spColumn CP)) : FnOk P w K mg base (L2.CX P w) 3 f fd ["self", "reason"] (spFail CP C) := by
  refine F.okX scFail (fun vs H Q E h => ?_) (fun cdv A outer s H vs Q E hr h => ?_)
  · obtain ⟨p, ts, i, k, v, rfl, _⟩ := h
    rfl
  obtain ⟨p, ts, i, k, v, rfl, hp, q⟩ := h
  have hr1 : Room 1 _ := hr.mono (by decide)
  refine ⟨_, pss_one (ps_raiseTE TE rfl hr (takes_of rfl rfl rfl rfl) (by exact (pa_cons pe_int (pa_cons (pe_dm0 (pv 0) TP.cls DC hr1 pass0) (pa_cons (pv 1) pa_nil))))), ?_⟩
  exact hp.call0 (by rfl) noF_column ⟨p, ts, i, k, rfl, hp, fun c => ⟨_, rfl, mkTE fun d H' s => q d H' s⟩⟩
/-! ### take, enter -/
theorem noF_next : NoF "next_text" := ⟨by decide +kernel, by decide +kernel, by decide +kernel, by decide +kernel⟩
theorem noF_fail : NoF "fail" := ⟨by decide +kernel, by decide +kernel, by decide +kernel, by decide +kernel⟩
theorem noF_take : NoF "take" := ⟨by decide +kernel, by decide +kernel, by decide +kernel, by decide +kernel⟩
abbrev sTake : Stmt := inClass (top 26) 4
theorem scTake : FnScope ["self", "text"] ["self"] (defScope sTake) := ⟨rfl, rfl, rfl, by decide +kernel, rfl, by decide +kernel, by decide +kernel⟩
def spTake (CP : Addr) : Sp := fun vs H Q _ => ∃ (p : Addr) (ts : List Tx) (i k : Nat), vs = [.ref p] ∧ PAt CP H p ts i k ∧ ∀ H', But p H H' → PAt CP H' p ts (i + 1) k → Q (.str (S (hd (ts.drop i)))) H'
theorem ok_take {f : Addr} {fd : FuncData} (TP : TxP K mg CP) (F : Fun K "take" "Parser.take" sTake f fd) (DN : Dm P w K mg base CX0 CP 1 "next_text" ["self"] (spNext CP)) : FnOk P w K mg base CX0 2 f fd ["self"] (spTake CP) := by
  refine F.ok scTake (fun vs H Q E h => ?_) (fun cdv A outer s H vs Q E hr h => ?_)
  · obtain ⟨p, ts, i, k, rfl, _⟩ := h
    rfl
  obtain ⟨p, ts, i, k, rfl, hp, q⟩ := h
  refine ⟨_, pss_cons (ps_set (i := 1) scTake.nd rfl (Or.inl rfl) (pe_dm0 (pv 0) TP.cls DN hr pass0)) (pss_cons (ps_fldaug (pv 0) pe_int in_add) (pss_one (ps_ret (pv 1)))), ?_⟩
  refine hp.call0 (by rfl) noF_next ⟨p, ts, i, k, rfl, hp, ?_⟩
  exact hp.incAt TP (by rfl) fun H' b h' => ⟨_, rfl, q H' b h'⟩
abbrev sEnter : Stmt := inClass (top 26) 5
theorem scEnter : FnScope ["self"] ["self"] (defScope sEnter) := ⟨rfl, rfl, rfl, by decide +kernel, rfl, by decide +kernel, by decide +kernel⟩
def spEnter (CP C : Addr) : Sp := fun vs H Q E => ∃ (p : Addr) (ts : List Tx) (i k : Nat), vs = [.ref p] ∧ PAt CP H p ts i k ∧ (k ≠ 20 → ∀ H', But p H H' → PAt CP H' p ts (i + 1) (k + 1) → Q .non H') ∧ (k = 20 → ∀ d H', Same H H' → E (.ref C) (some d) H')
theorem ok_enter {f : Addr} {fd : FuncData} (T : Tx0 K mg) (TP : TxP K mg CP) (F : Fun K "enter" "Parser.enter" sEnter f fd) (DF : Dm P w K mg base (L2.CX P w) CP 3 "fail" ["self", "reason"] (spFail CP C)) : FnOk P w K mg base (L2.CX P w) 4 f fd ["self"] (spEnter CP C) := by
  refine F.okX scEnter (fun vs H Q E h => ?_) (fun cdv A outer s H vs Q E hr h => ?_)
  · obtain ⟨p, ts, i, k, rfl, _⟩ := h
    rfl
  obtain ⟨p, ts, i, k, rfl, hp, q, qE⟩ := h
  obtain ⟨t, hmo⟩ := T.mostO
  refine ⟨_, pss_cons (ps_if (pt_cmpR op_eq (pe_fld (pv 0) rfl) (pe_glob (v := .int 20) rfl hmo ⟨_, rfl⟩) (nomark _)) (pss_one (ps_expr (pe_dm (pv 0) TP.cls DF hr pxs (pa_cons pe_str pa_nil)))) pss_nil)
    (pss_cons (ps_fldaug (pv 0) pe_int in_add) (pss_one (ps_fldaug (pv 0) pe_int in_add))), ?_⟩
  show tFld _ _ _ _ _ _
  refine hp.rdOm TP (by rfl) ⟨rfl, _, rfl, iteB (fun c => ?_) (fun c => ?_)⟩
  · have c1 : k = 20 := by
      have z := V.int.inj (of_decide_eq_true c)
      omega
    exact hp.call1 (by rfl) noF_fail ⟨p, ts, i, k, _, rfl, hp, qE c1⟩
  · have c1 : k ≠ 20 := fun z => by
      have y := of_decide_eq_false c
      rw [z] at y
      exact y rfl
    exact hp.incOm TP (by rfl) fun H1 b1 h1 => h1.incAt TP (by rfl) fun H2 b2 h2 => q c1 H2 (b1.trans b2) h2
end
end K05
set_option Elab.async false
set_option linter.all false
set_option maxRecDepth 100000
set_option maxHeartbeats 4000000
namespace K05
open PySem PySem.Spec PyProof.Rows L2
theorem inS (w : Tx) (ws : List Tx) : inV (.str (S w)) (ws.map fun s => V.str (S s)) = decide (w ∈ ws) := by
  unfold inV
  induction ws with
  | nil => rfl
  | cons a r ih =>
    rw [List.map_cons, List.any_cons, ih]
    have e : eqV (.str (S a)) (.str (S w)) = decide (w = a) := by
      show (S a == S w) = _
      by_cases h : w = a
      · subst h; simp
      · have : S a ≠ S w := fun z => h (S_inj z.symm)
        rw [decide_eq_false h]; simpa using this
    rw [e]
    by_cases h : w = a
    · subst h; simp
    · by_cases h2 : w ∈ r <;> simp [h, h2]
theorem flatS (ws : List Tx) : (ws.map fun s => V.str (S s)).all flatV = true := by
  induction ws with
  | nil => rfl
  | cons a r ih => rw [List.map_cons, List.all_cons, ih]; rfl
/-- the tokens' sizes -/
def Bd (ts : List Tx) : Prop := ∀ t ∈ ts, t.length ≤ 1000000
theorem Bd.hd {ts : List Tx} (h : Bd ts) (i : Nat) : (K05.hd (ts.drop i)).length ≤ 1000000 := by
  by_cases c : i < ts.length
  · rw [List.drop_eq_getElem_cons c]
    exact h _ (List.getElem_mem c)
  · rw [List.drop_eq_nil_of_le (by omega)]; exact Nat.zero_le _
theorem toks_bd {l : Tx} {ts : List Tx} (h : toks l = some ts) (hl : l.length ≤ 1000000) : Bd ts := fun t ht => by
  have e := toks_flat l ts h
  have h1 : t.length ≤ ts.flatten.length := by
    have : ∀ ts : List Tx, t ∈ ts → t.length ≤ ts.flatten.length := by
      intro ts
      induction ts with
      | nil => intro h; cases h
      | cons a r ih =>
        intro h
        rw [List.flatten_cons, List.length_append]
        rcases List.mem_cons.mp h with rfl | h
        · omega
        · have := ih h; omega
    exact this ts ht
  rw [e] at h1
  have := List.length_filter_le noSp l
  omega
theorem noF_order : NoF "order" := ⟨by decide +kernel, by decide +kernel, by decide +kernel, by decide +kernel⟩
theorem noF_integer : NoF "integer" := ⟨by decide +kernel, by decide +kernel, by decide +kernel, by decide +kernel⟩
theorem noF_name : NoF "name" := ⟨by decide +kernel, by decide +kernel, by decide +kernel, by decide +kernel⟩
theorem ord_eq : ([.str "<", .str "<=", .str "=", .str ">=", .str ">"] : List V) = ops.map fun s => V.str (S s) := by decide +kernel
theorem putF_le (f : Str) (v : V) : ∀ fs : List (Str × V), (putF f v fs).length ≤ fs.length + 1
  | [] => Nat.le_refl _
  | (g, y) :: r => by
    show (if g = f then (g, v) :: r else (g, y) :: putF f v r).length ≤ _
    split
    · simp
    · have := putF_le f v r
      simp; omega
theorem pl {f : Str} {v : V} {fs : List (Str × V)} {n : Nat} (h : fs.length ≤ n) : (putF f v fs).length ≤ n + 1 := Nat.le_trans (putF_le f v fs) (Nat.succ_le_succ h)
section
variable {P : Program} {w : World} {K : PySem.W.Frag} {mg : Str → Option Value} {base : Heap} {CP C : Addr}
/-! ### Parser.__init__ -/
abbrev sInit : Stmt := inClass (top 26) 0
theorem scInit : FnScope ["self", "text"] ["self", "text"] (defScope sInit) := ⟨rfl, rfl, rfl, by decide +kernel, rfl, by decide +kernel, by decide +kernel⟩
def spInit (CP C : Addr) : Sp := fun vs H Q E => ∃ (p dx : Addr) (l : Tx), vs = [.ref p, .str (S l)] ∧ l.length ≤ 1000000 ∧ H p = some (.ins CP dx []) ∧ (∀ ts, toks l = some ts → ∀ H', But p H H' → PAt CP H' p ts 0 0 → Q .non H') ∧ (toks l = none → ∀ d H', Same H H' → E (.ref C) (some d) H')
theorem ok_init {f : Addr} {fd : FuncData} (T : Tx0 K mg) (TP : TxP K mg CP) (F : Fun K "__init__" "Parser.__init__" sInit f fd) (DT : Df P w K mg base (L2.CX P w) 3 "tokens_of" ["text"] (spTokensOf C)) : FnOk P w K mg base (L2.CX P w) 4 f fd ["self", "text"] (spInit CP C) := by
  refine F.okX scInit (fun vs H Q E h => ?_) (fun cdv A outer s H vs Q E hr h => ?_)
  · obtain ⟨p, dx, l, rfl, _⟩ := h
    rfl
  obtain ⟨p, dx, l, rfl, hl, hp, q, qE⟩ := h
  refine ⟨_, pss_cons (ps_fld (pv 0) (pe_dfX DT hr pxs (pa_cons (pv 1) pa_nil)) rfl) (pss_cons (ps_fld (pv 0) pe_int rfl)
    (pss_cons (ps_fld (pv 0) (pe_op op_add (pe_callB call_len_str (by rfl) T.len PySem.boot_len (pa_cons (pv 1) pa_nil)) pe_int) rfl) (pss_one (ps_fld (pv 0) pe_int rfl)))), ?_⟩
  refine ⟨_, rfl, l, rfl, hl, fun ts ht a H1 s1 ha tk => ?_, qE⟩
  have hpa : p ≠ a := ne_of_none hp ha
  refine ⟨_, rfl, p, CP, dx, [], rfl, s1 _ _ hp, TP.cls, TP.nT, by simp, ?_⟩
  refine ⟨_, rfl, p, CP, dx, _, rfl, upd_same, TP.cls, TP.nA, Nat.lt_of_le_of_lt (pl (Nat.zero_le 0)) (by decide), ?_⟩
  refine ⟨_, rfl, _, rfl, lookS (by rw [S_len]; exact hl), _, _, rfl, rfl, _, rfl, p, CP, dx, _, rfl, upd_same, TP.cls, TP.nE, Nat.lt_of_le_of_lt (pl (pl (Nat.zero_le 0))) (by decide), ?_⟩
  refine ⟨_, rfl, p, CP, dx, _, rfl, upd_same, TP.cls, TP.nO, Nat.lt_of_le_of_lt (pl (pl (pl (Nat.zero_le 0)))) (by decide), ?_⟩
  refine q ts ht _ ?_ ⟨dx, a, (((S l).length : Nat) : Int) + 1, _, upd_same, ⟨?_, ?_, ?_, ?_, ?_, ?_⟩, ?_⟩
  · intro b o n e
    rw [upd_ne n, upd_ne n, upd_ne n, upd_ne n]
    exact s1 b o e
  · rw [lookup_putF, if_neg nTO, lookup_putF, if_neg nTE, lookup_putF, if_neg nTA, lookup_putF, if_pos rfl]
  · rw [lookup_putF, if_neg nAO, lookup_putF, if_neg nAE, lookup_putF, if_pos rfl]; rfl
  · rw [lookup_putF, if_neg nEO, lookup_putF, if_pos rfl]
  · rw [lookup_putF, if_pos rfl]; rfl
  · intro m a b c d
    rw [lookup_putF, if_neg d, lookup_putF, if_neg c, lookup_putF, if_neg b, lookup_putF, if_neg a]; rfl
  · exact pl (pl (pl (pl (Nat.zero_le 0))))
  · refine tk.but (p := p) ?_ ⟨CP, dx, [], s1 _ _ hp⟩
    intro b o n e
    rw [upd_ne n, upd_ne n, upd_ne n, upd_ne n]
    exact e
/-! ### order, name -/
abbrev sOrder : Stmt := inClass (top 26) 11
theorem scOrder : FnScope ["self"] ["self"] (defScope sOrder) := ⟨rfl, rfl, rfl, by decide +kernel, rfl, by decide +kernel, by decide +kernel⟩
def spOrder (CP C : Addr) : Sp := fun vs H Q E => ∃ (p : Addr) (ts : List Tx) (i k : Nat), vs = [.ref p] ∧ PAt CP H p ts i k ∧ (hd (ts.drop i) ∈ ops → ∀ H', But p H H' → PAt CP H' p ts (i + 1) k → Q (.str (S (hd (ts.drop i)))) H') ∧ (hd (ts.drop i) ∉ ops → ∀ d H', Same H H' → E (.ref C) (some d) H')
theorem ok_order {f : Addr} {fd : FuncData} (T : Tx0 K mg) (TP : TxP K mg CP) (F : Fun K "order" "Parser.order" sOrder f fd) (DN : Dm P w K mg base CX0 CP 1 "next_text" ["self"] (spNext CP)) (DF : Dm P w K mg base (L2.CX P w) CP 3 "fail" ["self", "reason"] (spFail CP C))
    (DT : Dm P w K mg base CX0 CP 2 "take" ["self"] (spTake CP)) : FnOk P w K mg base (L2.CX P w) 4 f fd ["self"] (spOrder CP C) := by
  refine F.okX scOrder (fun vs H Q E h => ?_) (fun cdv A outer s H vs Q E hr h => ?_)
  · obtain ⟨p, ts, i, k, rfl, _⟩ := h
    rfl
  obtain ⟨p, ts, i, k, rfl, hp, q, qE⟩ := h
  have hr1 : Room 1 _ := hr.mono (by decide)
  have hr2 : Room 2 _ := hr.mono (by decide)
  obtain ⟨a, hor, hS⟩ := T.ords
  rw [ord_eq] at hS
  refine ⟨_, pss_cons (ps_if (pt_cmpR op_notIn_seq (pe_dm0 (pv 0) TP.cls DN hr1 pass0) (pe_glob (v := .ref a) rfl hor rfl) (by rfl)) (pss_one (ps_expr (pe_dm (pv 0) TP.cls DF hr pxs (pa_cons pe_str pa_nil)))) pss_nil)
    (pss_one (ps_ret (pe_dm0 (pv 0) TP.cls DT hr2 pass0))), ?_⟩
  show tMeth _ _ _ _ _ _ _ _ _ _
  refine hp.call0 (by rfl) noF_next ⟨p, ts, i, k, rfl, hp, ?_⟩
  refine ⟨a, _, rfl, .inr (hS H), rfl, flatS _, _, rfl, ?_⟩
  rw [if_pos rfl, inS]
  refine iteB (fun c => ?_) (fun c => ?_)
  · exact hp.call1 (by rfl) noF_fail ⟨p, ts, i, k, _, rfl, hp, qE (by simpa using c)⟩
  · exact hp.call0 (by rfl) noF_take ⟨p, ts, i, k, rfl, hp, q (by simpa using c)⟩
abbrev sName : Stmt := inClass (top 26) 13
theorem scName : FnScope ["self"] ["self"] (defScope sName) := ⟨rfl, rfl, rfl, by decide +kernel, rfl, by decide +kernel, by decide +kernel⟩
def spName (CP C : Addr) : Sp := fun vs H Q E => ∃ (p : Addr) (ts : List Tx) (i k : Nat), vs = [.ref p] ∧ PAt CP H p ts i k ∧ Bd ts ∧ (isName (hd (ts.drop i)) = true → ∀ H', But p H H' → PAt CP H' p ts (i + 1) k → Q (.str (S (hd (ts.drop i)))) H') ∧ (isName (hd (ts.drop i)) = false → ∀ d H', Same H H' → E (.ref C) (some d) H')
theorem ok_name {f : Addr} {fd : FuncData} (TP : TxP K mg CP) (F : Fun K "name" "Parser.name" sName f fd) (DN : Dm P w K mg base CX0 CP 1 "next_text" ["self"] (spNext CP)) (DF : Dm P w K mg base (L2.CX P w) CP 3 "fail" ["self", "reason"] (spFail CP C))
    (DT : Dm P w K mg base CX0 CP 2 "take" ["self"] (spTake CP)) (DI : Df P w K mg base CX0 1 "is_name" ["text"] spIsName) : FnOk P w K mg base (L2.CX P w) 4 f fd ["self"] (spName CP C) := by
  refine F.okX scName (fun vs H Q E h => ?_) (fun cdv A outer s H vs Q E hr h => ?_)
  · obtain ⟨p, ts, i, k, rfl, _⟩ := h
    rfl
  obtain ⟨p, ts, i, k, rfl, hp, hb, q, qE⟩ := h
  have hr1 : Room 1 _ := hr.mono (by decide)
  have hr2 : Room 2 _ := hr.mono (by decide)
  refine ⟨_, pss_cons (ps_if (pt_not (pt_val (pe_df DI hr1 (pa_cons (pe_dm0 (pv 0) TP.cls DN hr1 pass0) pa_nil)))) (pss_one (ps_expr (pe_dm (pv 0) TP.cls DF hr pxs (pa_cons pe_str pa_nil)))) pss_nil)
    (pss_one (ps_ret (pe_dm0 (pv 0) TP.cls DT hr2 pass0))), ?_⟩
  show tMeth _ _ _ _ _ _ _ _ _ _
  refine hp.call0 (by rfl) noF_next ⟨p, ts, i, k, rfl, hp, ?_⟩
  refine ⟨_, rfl, hb.hd i, fun H1 s1 => ⟨_, rfl, ?_⟩⟩
  have hp1 := hp.but s1
  refine iteB (fun c => ?_) (fun c => ?_)
  · exact hp1.call1 (by rfl) noF_fail ⟨p, ts, i, k, _, rfl, hp1, fun d H' s2 => qE (by simpa using c) d H' (Same.trans s1 s2)⟩
  · exact hp1.call0 (by rfl) noF_take ⟨p, ts, i, k, rfl, hp1, fun H' b h' => q (by simpa using c) H' ((But.of s1).trans b) h'⟩
/-! ### integer -/
theorem intOf_written {W : Tx} (h : isWritten W = true) : intOf W = if W.length ≤ 9 then some (val W : Int) else none := by
  have q := written_iff.mp h
  have hm : W.take 1 ≠ [45] := by
    intro e
    cases W with
    | nil => cases e
    | cons a r =>
      have ha : a = 45 := by simpa using e
      subst ha
      exact absurd q.2.1 (by simp [isDig])
  have hd : digs W = W := by unfold digs; rw [if_neg hm]
  unfold intOf
  rw [hd]
  by_cases c : W.length ≤ 9
  · rw [if_pos c, if_neg, if_neg hm]
    rintro (z | z | z)
    · exact z h
    · exact hm (by rw [z]; rfl)
    · omega
  · rw [if_neg c, if_pos (.inr (.inr (by omega)))]
abbrev sInteger : Stmt := inClass (top 26) 12
abbrev nInteger : List Str := ["self", "is_below", "word", "number"]
theorem scInteger : FnScope nInteger ["self"] (defScope sInteger) := ⟨rfl, rfl, rfl, by decide +kernel, rfl, by decide +kernel, by decide +kernel⟩
def spInteger (CP C : Addr) : Sp := fun vs H Q E => ∃ (p : Addr) (ts : List Tx) (i k : Nat), vs = [.ref p] ∧ PAt CP H p ts i k ∧ Bd ts ∧ (∀ n r, intF (ts.drop i) = some (n, r) → ∀ j H', But p H H' → PAt CP H' p ts j k → ts.drop j = r → Q (.int n) H') ∧ (intF (ts.drop i) = none → ∀ d H', But p H H' → E (.ref C) (some d) H')
theorem tail_drop {ts : List Tx} {i : Nat} : (ts.drop i).tail = ts.drop (i + 1) := by simp
theorem ok_integer {f : Addr} {fd : FuncData} (T : Tx0 K mg) (TP : TxP K mg CP) (F : Fun K "integer" "Parser.integer" sInteger f fd) (DN : Dm P w K mg base CX0 CP 1 "next_text" ["self"] (spNext CP)) (DF : Dm P w K mg base (L2.CX P w) CP 3 "fail" ["self", "reason"] (spFail CP C))
    (DW : Df P w K mg base CX0 1 "is_written" ["word"] spIsWritten) (DI : Df P w K mg base CX0 2 "integer_of" ["word"] spIntegerOf) : FnOk P w K mg base (L2.CX P w) 4 f fd ["self"] (spInteger CP C) := by
  refine F.okX scInteger (fun vs H Q E h => ?_) (fun cdv A outer s H vs Q E hr h => ?_)
  · obtain ⟨p, ts, i, k, rfl, _⟩ := h
    rfl
  obtain ⟨p, ts, i, k, rfl, hp, hb, q, qE⟩ := h
  have hr1 : Room 1 _ := hr.mono (by decide)
  have hr2 : Room 2 _ := hr.mono (by decide)
  obtain ⟨t, hmn⟩ := T.mostN
  refine ⟨_, pss_cons (ps_set (i := 1) scInteger.nd rfl (Or.inl rfl) (pe_cmpR op_eq (pe_dm0 (pv 0) TP.cls DN hr1 pass0) pe_str (nomark _)))
    (C8.pss_cut (ps_if (pt_val (pv 1)) (pss_one (ps_fldaug (pv 0) pe_int in_add)) pss_nil)
    (pss_cons (ps_set (i := 2) scInteger.nd rfl (Or.inl rfl) (pe_dm0 (pv 0) TP.cls DN hr1 pass0))
    (pss_cons (ps_if (PW.pt (pw_or (pt_not (pt_val (pe_df DW hr1 (pa_cons (pv 2) pa_nil)))) (pw_or1 (PW.pt (pw_and (pt_val (pv 1)) (pw_and1 (pt_cmpR op_eq (pv 2) pe_str (nomark _)))))))) (pss_one (ps_expr (pe_dm (pv 0) TP.cls DF hr pxs (pa_cons pe_str pa_nil)))) pss_nil)
    (pss_cons (ps_set (i := 3) scInteger.nd rfl (Or.inl rfl) (pe_df DI hr2 (pa_cons (pv 2) pa_nil)))
    (pss_cons (ps_if (PW.pt (pw_or (pt_cmp (pc_isN (pv 3))) (pw_or1 (pt_cmpR op_gt (pv 3) (pe_glob (v := .int 1000000) rfl hmn ⟨_, rfl⟩) (nomark _))))) (pss_one (ps_expr (pe_dm (pv 0) TP.cls DF hr pxs (pa_cons pe_str pa_nil)))) pss_nil)
    (pss_cons (ps_fldaug (pv 0) pe_int in_add)
    (pss_one (ps_ret (pe_ifExp (pt_val (pv 1)) (pe_un un_neg (pv 3)) (pv 3)))))))))), ?_⟩
  show tMeth _ _ _ _ _ _ _ _ _ _
  refine hp.call0 (by rfl) noF_next ⟨p, ts, i, k, rfl, hp, rfl, ?_⟩
  let b : Bool := decide (hd (ts.drop i) = [45])
  let j : Nat := if b then i + 1 else i
  refine ⟨fun σ H1 => σ = [some (.ref p), some (.bl b), none, none] ∧ But p H H1 ∧ PAt CP H1 p ts j k, ?_, ?_⟩
  · rw [eqS s_minus]
    refine ⟨_, rfl, b, rfl, iteB (fun c => ?_) (fun c => ?_)⟩
    · exact hp.incAt TP (by rfl) fun H1 b1 h1 => ⟨rfl, b1, by show PAt CP H1 p ts (if b then i + 1 else i) k; rw [if_pos c]; exact h1⟩
    · exact ⟨rfl, But.of (Same.refl _), by show PAt CP H p ts (if b then i + 1 else i) k; rw [if_neg (by rw [c]; exact Bool.false_ne_true)]; exact hp⟩
  · rintro σ' H1 ⟨rfl, b1, h1⟩
    refine h1.call0 (by rfl) noF_next ⟨p, ts, j, k, rfl, h1, ?_⟩
    -- what is read
    have eF : intF (ts.drop i) = if isWritten (hd (ts.drop j)) = true ∧ ¬ (b = true ∧ hd (ts.drop j) = [48]) ∧ (hd (ts.drop j)).length ≤ 9 ∧ val (hd (ts.drop j)) ≤ 1000000 then some ((if b then -(val (hd (ts.drop j)) : Int) else (val (hd (ts.drop j)) : Int)), ts.drop (j + 1)) else none := by
      unfold intF
      by_cases c : hd (ts.drop i) = [45]
      · have hbt : b = true := decide_eq_true c
        have ej : j = i + 1 := by show (if b then i + 1 else i) = _; rw [if_pos hbt]
        rw [if_pos c, ej, hbt, tail_drop, tail_drop]
        simp
      · have hbt : b = false := decide_eq_false c
        have ej : j = i := by show (if b then i + 1 else i) = _; rw [if_neg (by rw [hbt]; exact Bool.false_ne_true)]
        rw [if_neg c, ej, hbt, tail_drop]
        simp
    have fail : ∀ (H2 : Hp), But p H H2 → PAt CP H2 p ts j k → intF (ts.drop i) = none → ∀ (v : V), spFail CP C [.ref p, v] H2 (fun _ _ => False) E := fun H2 b2 h2 e v =>
      ⟨p, ts, j, k, v, rfl, h2, fun d H' s => qE e d H' (b2.trans (But.of s))⟩
    refine ⟨_, rfl, _, rfl, hb.hd j, fun H2 s2 => ⟨_, rfl, ?_⟩⟩
    have h2 := h1.but s2
    have b2 := b1.trans (But.of s2)
    refine iteB (fun c => ?_) (fun c => ?_)
    · refine iteT ?_
      exact h2.call1 (by rfl) noF_fail ⟨p, ts, j, k, _, rfl, h2, fun d H' s => qE (by rw [eF, if_neg (by intro z; simp [z.1] at c)]) d H' (b2.trans (But.of s))⟩
    · have c1 : isWritten (hd (ts.drop j)) = true := by simpa using c
      -- is_below and word == "0"
      have next : ¬ (b = true ∧ hd (ts.drop j) = [48]) → tSeq (tAsg (tCall spIntegerOf [] E0 (tCons (tVar 2) tNil)) (gName 3))
          (tSeq (tIfS (tOr (tB (tIsN (tVar 3))) (tTest (tOp (rI0 fun i j => .bl (decide (j < i))) (tVar 3) (tC (.int 1000000))))) (tDrop (tMeth CP "fail" (spFail CP C) [] E (tVar 0) (tCons (tC (.str "range")) tNil))) tNext)
            (tSeq (sFldAug K (tVar 0) (tC (.int 1)) L2.rAdd "at") (tRet (tIf (tB (tVar 1)) (tUn (rU fun i => .int (-i)) (tVar 3)) (tVar 3))))) { nx := fun _ H' => Q .non H', rt := Q } [some (.ref p), some (.bl b), some (.str (S (hd (ts.drop j)))), none] H2 := by
        intro c2
        refine ⟨_, rfl, _, rfl, hb.hd j, fun H3 s3 => ?_⟩
        have h3 := h2.but s3
        have b3 := b2.trans (But.of s3)
        rw [intOf_written c1]
        by_cases c3 : (hd (ts.drop j)).length ≤ 9
        · rw [if_pos c3]
          refine ⟨_, rfl, _, rfl, ?_⟩
          refine iteF ?_
          refine ⟨_, rfl, _, _, rfl, rfl, _, rfl, iteB (fun c4 => ?_) (fun c4 => ?_)⟩
          · exact h3.call1 (by rfl) noF_fail ⟨p, ts, j, k, _, rfl, h3, fun d H' s => qE (by rw [eF, if_neg (by intro z; have := of_decide_eq_true c4; have := z.2.2.2; omega)]) d H' (b3.trans (But.of s))⟩
          · have c5 : val (hd (ts.drop j)) ≤ 1000000 := by have := of_decide_eq_false c4; omega
            refine h3.incAt TP (by rfl) fun H4 b4 h4 => ?_
            have e := eF
            rw [if_pos ⟨c1, c2, c3, c5⟩] at e
            have qq := q _ _ e (j + 1) H4 (b3.trans b4) h4 rfl
            refine ⟨_, rfl, b, rfl, iteB (fun cb => ?_) (fun cb => ?_)⟩
            · refine ⟨_, rfl, _, rfl, ?_⟩
              rw [if_pos cb] at qq
              exact qq
            · refine ⟨_, rfl, ?_⟩
              rw [if_neg (by rw [cb]; exact Bool.false_ne_true)] at qq
              exact qq
        · rw [if_neg c3]
          refine ⟨_, rfl, _, rfl, ?_⟩
          refine iteT ?_
          refine iteT ?_
          exact h3.call1 (by rfl) noF_fail ⟨p, ts, j, k, _, rfl, h3, fun d H' s => qE (by rw [eF, if_neg (fun z => c3 z.2.2.1)]) d H' (b3.trans (But.of s))⟩
      refine ⟨_, rfl, b, rfl, iteB (fun cb => ?_) (fun cb => ?_)⟩
      · refine ⟨_, rfl, rfl, _, rfl, iteB (fun c2 => ?_) (fun c2 => ?_)⟩
        · rw [eqS s_zero] at c2
          exact h2.call1 (by rfl) noF_fail ⟨p, ts, j, k, _, rfl, h2, fun d H' s => qE (by rw [eF, if_neg (fun z => z.2.1 ⟨cb, of_decide_eq_true c2⟩)]) d H' (b2.trans (But.of s))⟩
        · rw [eqS s_zero] at c2
          exact next (fun z => (of_decide_eq_false c2) z.2)
      · refine iteF ?_
        exact next (fun z => by rw [cb] at z; cases z.1)
end
end K05
set_option Elab.async false
set_option linter.all false
set_option maxRecDepth 100000
set_option maxHeartbeats 4000000
namespace K05
open PySem PySem.Spec PyProof.Rows L2
/-! ### conditions as data -/
def kwC (am : Bool) : Tx := if am then wAmount else wWeight
def kwN (k : Bool) : Tx := if k then wKey else wGroup
def cd : Cnd → PyData
  | .all => .tuple [.str (S wAll)]
  | .cmp am o n => .tuple [.str (S (kwC am)), .str (S o), .int n]
  | .nam k x => .tuple [.str (S (kwN k)), .str (S x)]
  | .not c => .tuple [.str (S wNot), cd c]
  | .and c d => .tuple [.str (S wAnd), cd c, cd d]
  | .or c d => .tuple [.str (S wOr), cd c, cd d]
def Keeps (H H' : Hp) : Prop := ∀ b o, (∀ C dx fs, o ≠ HO.ins C dx fs) → H b = some o → H' b = some o
theorem Same.keeps {H H' : Hp} (s : Same H H') : Keeps H H' := fun b o _ h => s b o h
theorem But.keeps {p : Addr} {H H' : Hp} (b : But p H H') (h : ∃ C dx fs, H p = some (.ins C dx fs)) : Keeps H H' := fun c o no e => b c o (fun z => by
  obtain ⟨C, dx, fs, h⟩ := h
  rw [z, h] at e
  exact no _ _ _ (Option.some.inj e).symm) e
theorem Rd.keep {H H' : Hp} (k : Keeps H H') {a : Addr} {u : HO} (nu : ∀ C dx fs, u ≠ HO.ins C dx fs) (h : Rd H a u) : Rd H' a u := by
  rcases h with h | ⟨o, h⟩
  · exact .inl (k a _ nu h)
  · exact .inr ⟨o, k a _ (fun _ _ _ z => by cases z) h⟩
section
variable {K : PySem.W.Frag} {H H' : Hp}
theorem SqL.keep (k : Keeps H H') {a : Addr} {xs : List V} (h : SqL K H a xs) : SqL K H' a xs := by
  rcases h with h | h
  · exact .inl (Rd.keep k (fun _ _ _ z => by cases z) h)
  · exact .inr h
theorem SqT.keep (k : Keeps H H') {a : Addr} {xs : List V} (h : SqT K H a xs) : SqT K H' a xs := by
  rcases h with h | h
  · exact .inl (Rd.keep k (fun _ _ _ z => by cases z) h)
  · exact .inr h
mutual
theorem Dp.keep (k : Keeps H H') : ∀ (d : PyData) (v : V), Dp K H v d → Dp K H' v d
  | .none, _, h => by cases h; exact .non
  | .bool b, _, h => by cases h; exact .bl b
  | .int i, _, h => by cases h; exact .int i
  | .str x, _, h => by cases h; exact .str x
  | .list ds, _, h => by
    cases h with
    | lst h1 h2 => exact .lst (SqL.keep k h1) (DpAll.keep k ds _ h2)
  | .tuple ds, _, h => by
    cases h with
    | tup h1 h2 => exact .tup (SqT.keep k h1) (DpAll.keep k ds _ h2)
  | .dict _, _, h => nomatch h
theorem DpAll.keep (k : Keeps H H') : ∀ (ds : List PyData) (vs : List V), DpAll K H vs ds → DpAll K H' vs ds
  | [], _, h => by cases h; exact .nil
  | d :: ds, _, h => by
    cases h with
    | cons h1 h2 => exact .cons (Dp.keep k d _ h1) (DpAll.keep k ds _ h2)
end
theorem Dp.same {d : PyData} {v : V} (h : Dp K H v d) (s : Same H H') : Dp K H' v d := Dp.keep (Same.keeps s) d v h
end
/-! ### the parser's recursion -/
def brG : Nat → List Tx → Res
  | 0, _ => none
  | m + 1, r => match eithOf (negF m) r.tail with | some (c, r') => (if hd r' = [41] then some (c, r'.tail) else none) | none => none
def atomG (m : Nat) (r : List Tx) : Res := if hd r = [40] then brG m r else atomF r
def notG : Nat → List Tx → Res
  | 0, _ => none
  | m + 1, r => match negF m r.tail with | some (c, r') => some (.not c, r') | none => none
theorem negF_eq : ∀ (m : Nat) (r : List Tx), negF m r = if hd r = wNot then notG m r else atomG m r
  | 0, r => by unfold negF; rfl
  | m + 1, r => by unfold negF; rfl
/-- a method that reads a condition -/
def spP (CP C : Addr) (K : PySem.W.Frag) (F : List Tx → Res) (m : Nat) : Sp := fun vs H Q E => ∃ (p : Addr) (ts : List Tx) (i k : Nat), vs = [.ref p] ∧ PAt CP H p ts i k ∧ Bd ts ∧ k + m = 20 ∧
  (∀ c r, F (ts.drop i) = some (c, r) → ∀ a j H', But p H H' → PAt CP H' p ts j k → ts.drop j = r → Dp K H' (.ref a) (cd c) → Q (.ref a) H') ∧
  (F (ts.drop i) = none → ∀ d H', But p H H' → E (.ref C) (some d) H')
def spPrev (CP C : Addr) (K : PySem.W.Frag) (F : Nat → List Tx → Res) : Nat → Sp
  | 0 => fun _ _ _ _ => False
  | m + 1 => spP CP C K (F m) m
theorem noF_atom : NoF "atom" := ⟨by decide +kernel, by decide +kernel, by decide +kernel, by decide +kernel⟩
theorem noF_enter : NoF "enter" := ⟨by decide +kernel, by decide +kernel, by decide +kernel, by decide +kernel⟩
theorem noF_either : NoF "either" := ⟨by decide +kernel, by decide +kernel, by decide +kernel, by decide +kernel⟩
theorem noF_both : NoF "both" := ⟨by decide +kernel, by decide +kernel, by decide +kernel, by decide +kernel⟩
theorem noF_negated : NoF "negated" := ⟨by decide +kernel, by decide +kernel, by decide +kernel, by decide +kernel⟩
theorem noF_bracket : NoF "bracket" := ⟨by decide +kernel, by decide +kernel, by decide +kernel, by decide +kernel⟩
theorem s_all : ("all" : Str) = S wAll := by decide +kernel
theorem s_not : ("not" : Str) = S wNot := by decide +kernel
theorem s_and : ("and" : Str) = S wAnd := by decide +kernel
theorem s_or : ("or" : Str) = S wOr := by decide +kernel
theorem s_lp : ("(" : Str) = S [40] := by decide +kernel
theorem s_rp : (")" : Str) = S [41] := by decide +kernel
theorem kwC_eq : ([.str "weight", .str "amount"] : List V) = [wWeight, wAmount].map fun s => V.str (S s) := by decide +kernel
theorem kwN_eq : ([.str "group", .str "key"] : List V) = [wGroup, wKey].map fun s => V.str (S s) := by decide +kernel
theorem len2 : 2 ≤ sizeLine := lookS (by decide)
theorem len3 : 3 ≤ sizeLine := lookS (by decide)
theorem len1 : 1 ≤ sizeLine := lookS (by decide)
section
variable {P : Program} {w : World} {K : PySem.W.Frag} {mg : Str → Option Value} {base : Heap} {CP C : Addr}
theorem Sm.never {CX : CXT} {m qual : Str} {st : Stmt} {ps : List Str} (s : Sm K C m qual st ps) (k : Nat) : Dm P w K mg base CX C k m ps (fun _ _ _ _ => False) := s.dm fun _ _ _ => ⟨fun _ _ _ _ h => h.elim, fun _ _ _ _ _ _ _ _ _ _ _ _ _ h => h.elim⟩
/-! ### bracket -/
abbrev sBracket : Stmt := inClass (top 26) 10
theorem scBracket : FnScope ["self", "found"] ["self"] (defScope sBracket) := ⟨rfl, rfl, rfl, by decide +kernel, rfl, by decide +kernel, by decide +kernel⟩
theorem ok_bracket {f : Addr} {fd : FuncData} (m : Nat) (TP : TxP K mg CP) (F : Fun K "bracket" "Parser.bracket" sBracket f fd) (DN : Dm P w K mg base CX0 CP 1 "next_text" ["self"] (spNext CP)) (DF : Dm P w K mg base (L2.CX P w) CP 3 "fail" ["self", "reason"] (spFail CP C))
    (DE : Dm P w K mg base (L2.CX P w) CP 4 "enter" ["self"] (spEnter CP C)) (DI : Dm P w K mg base (L2.CX P w) CP (4 + 5 * m) "either" ["self"] (spPrev CP C K (fun m => eithOf (negF m)) m)) : FnOk P w K mg base (L2.CX P w) (5 + 5 * m) f fd ["self"] (spP CP C K (brG m) m) := by
  rw [show 5 + 5 * m = (4 + 5 * m) + 1 by omega]
  refine F.okX scBracket (fun vs H Q E h => ?_) (fun cdv A outer s H vs Q E hr h => ?_)
  · obtain ⟨p, ts, i, k, rfl, _⟩ := h
    rfl
  obtain ⟨p, ts, i, k, rfl, hp, hb, hk, q, qE⟩ := h
  have hr1 : Room 1 _ := hr.mono (by omega)
  have hr3 : Room 3 _ := hr.mono (by omega)
  have hr4 : Room 4 _ := hr.mono (by omega)
  refine ⟨_, pss_cons (ps_expr (pe_dm0 (pv 0) TP.cls DE hr4 pxs)) (pss_cons (ps_set (i := 1) scBracket.nd rfl (Or.inl rfl) (pe_dm0 (pv 0) TP.cls DI hr pxs))
    (pss_cons (ps_if (pt_cmpR op_ne (pe_dm0 (pv 0) TP.cls DN hr1 pass0) pe_str (nomark _)) (pss_one (ps_expr (pe_dm (pv 0) TP.cls DF hr3 pxs (pa_cons pe_str pa_nil)))) pss_nil)
    (pss_cons (ps_fldaug (pv 0) pe_int in_add) (pss_cons (ps_fldaug (pv 0) pe_int in_sub) (pss_one (ps_ret (pv 1))))))), ?_⟩
  refine hp.call0 (by rfl) noF_enter ⟨p, ts, i, k, rfl, hp, fun hk1 H1 b1 h1 => ?_, fun hk1 d H' s1 => ?_⟩
  · cases m with
    | zero => omega
    | succ m =>
      refine h1.call0 (by rfl) noF_either ⟨p, ts, i + 1, k + 1, rfl, h1, hb, by omega, fun c r e a j H2 b2 h2 ej hc => ?_, fun e d H2 b2 => ?_⟩
      · refine h2.call0 (σ := [some (.ref p), some (.ref a)]) rfl noF_next ⟨p, ts, j, k + 1, rfl, h2, rfl, _, rfl, ?_⟩
        have eB : brG (m + 1) (ts.drop i) = if hd (ts.drop j) = [41] then some (c, ts.drop (j + 1)) else none := by
          have e' : eithOf (negF m) (ts.drop i).tail = some (c, r) := by rw [tail_drop]; exact e
          show (match eithOf (negF m) (ts.drop i).tail with | some (c, r') => (if hd r' = [41] then some (c, r'.tail) else none) | none => none) = _
          rw [e']
          show (if hd r = [41] then some (c, r.tail) else none) = _
          rw [← ej, tail_drop]
        rw [eqS s_rp]
        refine iteB (fun c1 => ?_) (fun c1 => ?_)
        · have c2 : hd (ts.drop j) ≠ [41] := by simpa using c1
          exact h2.call1 (by rfl) noF_fail ⟨p, ts, j, k + 1, _, rfl, h2, fun d H' s => qE (by rw [eB, if_neg c2]) d H' ((b1.trans b2).trans (But.of s))⟩
        · have c2 : hd (ts.drop j) = [41] := by simpa using c1
          refine h2.incAt TP (by rfl) fun H3 b3 h3 => ?_
          refine h3.decOm TP (by rfl) fun H4 b4 h4 => ⟨_, rfl, ?_⟩
          refine q c _ (by rw [eB, if_pos c2]) a (j + 1) H4 (((b1.trans b2).trans b3).trans b4) h4 rfl ?_
          exact Dp.keep (But.keeps (b3.trans b4) h2.ins) _ _ hc
      · refine qE ?_ d H2 (b1.trans b2)
        have e' : eithOf (negF m) (ts.drop i).tail = none := by rw [tail_drop]; exact e
        show (match eithOf (negF m) (ts.drop i).tail with | some (c, r') => (if hd r' = [41] then some (c, r'.tail) else none) | none => none) = _
        rw [e']
  · refine qE ?_ d H' (But.of s1)
    have : m = 0 := by omega
    subst this
    rfl
/-! ### atom -/
abbrev sAtom : Stmt := inClass (top 26) 9
theorem scAtom : FnScope ["self", "text", "order"] ["self"] (defScope sAtom) := ⟨rfl, rfl, rfl, by decide +kernel, rfl, by decide +kernel, by decide +kernel⟩
theorem hd_ne {ts : List Tx} {i : Nat} {a b : Tx} (h : hd (ts.drop i) = a) (n : a ≠ b) : ¬ hd (ts.drop i) = b := fun z => n (h.symm.trans z)
theorem ok_atom {f : Addr} {fd : FuncData} (m : Nat) (TP : TxP K mg CP) (F : Fun K "atom" "Parser.atom" sAtom f fd) (DN : Dm P w K mg base CX0 CP 1 "next_text" ["self"] (spNext CP)) (DF : Dm P w K mg base (L2.CX P w) CP 3 "fail" ["self", "reason"] (spFail CP C))
    (DO : Dm P w K mg base (L2.CX P w) CP 4 "order" ["self"] (spOrder CP C)) (DI : Dm P w K mg base (L2.CX P w) CP 4 "integer" ["self"] (spInteger CP C)) (DM : Dm P w K mg base (L2.CX P w) CP 4 "name" ["self"] (spName CP C))
    (DB : Dm P w K mg base (L2.CX P w) CP (5 + 5 * m) "bracket" ["self"] (spP CP C K (brG m) m)) : FnOk P w K mg base (L2.CX P w) (6 + 5 * m) f fd ["self"] (spP CP C K (atomG m) m) := by
  rw [show 6 + 5 * m = (5 + 5 * m) + 1 by omega]
  refine F.okX scAtom (fun vs H Q E h => ?_) (fun cdv A outer s H vs Q E hr h => ?_)
  · obtain ⟨p, ts, i, k, rfl, _⟩ := h
    rfl
  obtain ⟨p, ts, i, k, rfl, hp, hb, hk, q, qE⟩ := h
  have hr1 : Room 1 _ := hr.mono (by omega)
  have hr3 : Room 3 _ := hr.mono (by omega)
  have hr4 : Room 4 _ := hr.mono (by omega)
  refine ⟨_, pss_cons (ps_set (i := 1) scAtom.nd rfl (Or.inl rfl) (pe_dm0 (pv 0) TP.cls DN hr1 pass0))
    (pss_cons (ps_if (pt_cmpR op_eq (pv 1) pe_str (nomark _)) (pss_cons (ps_fldaug (pv 0) pe_int in_add) (pss_one (ps_ret (pe_tup (pa_cons pe_str pa_nil))))) pss_nil)
    (pss_cons (ps_if (pt_cmpR op_in_seq (pv 1) (pe_tup (pa_cons pe_str (pa_cons pe_str pa_nil))) (by rfl))
      (pss_cons (ps_fldaug (pv 0) pe_int in_add) (pss_cons (ps_set (i := 2) scAtom.nd rfl (Or.inl rfl) (pe_dm0 (pv 0) TP.cls DO hr4 pxs)) (pss_one (ps_ret (pe_tup (pa_cons (pv 1) (pa_cons (pv 2) (pa_cons (pe_dm0 (pv 0) TP.cls DI hr4 pxs) pa_nil)))))))) pss_nil)
    (pss_cons (ps_if (pt_cmpR op_in_seq (pv 1) (pe_tup (pa_cons pe_str (pa_cons pe_str pa_nil))) (by rfl))
      (pss_cons (ps_fldaug (pv 0) pe_int in_add) (pss_one (ps_ret (pe_tup (pa_cons (pv 1) (pa_cons (pe_dm0 (pv 0) TP.cls DM hr4 pxs) pa_nil)))))) pss_nil)
    (pss_cons (ps_if (pt_cmpR op_ne (pv 1) pe_str (nomark _)) (pss_one (ps_expr (pe_dm (pv 0) TP.cls DF hr3 pxs (pa_cons pe_str pa_nil)))) pss_nil)
    (pss_one (ps_ret (pe_dm0 (pv 0) TP.cls DB hr pxs))))))), ?_⟩
  refine hp.call0 (by rfl) noF_next ⟨p, ts, i, k, rfl, hp, ?_⟩
  refine ⟨_, rfl, rfl, _, rfl, ?_⟩
  rw [eqS s_all]
  refine iteB (fun c => ?_) (fun c => ?_)
  · -- all
    have c1 := of_decide_eq_true c
    refine hp.incAt TP (by rfl) fun H1 b1 h1 => ⟨len1, fun a ha => ?_⟩
    refine q .all (ts.drop (i + 1)) ?_ a (i + 1) _ (b1.trans (But.of (same_new ha _))) (h1.but (same_new ha _)) rfl ?_
    · unfold atomG atomF
      rw [if_neg (hd_ne c1 (by decide)), if_pos c1, tail_drop]
    · rw [s_all]
      exact .tup (SqT.of upd_same) (.cons (.str _) .nil)
  have nAll := of_decide_eq_false c
  refine ⟨_, rfl, len2, fun t ht => ?_⟩
  have st := same_new ht (HO.tup [.str "weight", .str "amount"])
  have hp1 := hp.but st
  refine ⟨t, _, rfl, .inr (SqT.of upd_same), rfl, by rw [kwC_eq]; exact flatS _, _, rfl, ?_⟩
  rw [if_neg Bool.false_ne_true, kwC_eq, inS, ← kwC_eq]
  refine iteB (fun c => ?_) (fun c => ?_)
  · -- weight, amount
    have c1 : hd (ts.drop i) = wWeight ∨ hd (ts.drop i) = wAmount := by simpa using c
    have n40 : hd (ts.drop i) ≠ [40] := by rcases c1 with c1 | c1 <;> (rw [c1]; decide)
    have eA : atomG m (ts.drop i) = if hd (ts.drop (i + 1)) ∈ ops then (match intF (ts.drop (i + 1 + 1)) with | some (n, r') => some (.cmp (decide (hd (ts.drop i) = wAmount)) (hd (ts.drop (i + 1))) n, r') | none => none) else none := by
      unfold atomG atomF
      rw [if_neg n40, if_neg nAll, if_pos c1, tail_drop, tail_drop]
      all_goals rfl
    refine hp1.incAt TP (by rfl) fun H1 b1 h1 => ?_
    have B1 := (But.of (p := p) st).trans b1
    refine h1.call0 (by rfl) noF_order ⟨p, ts, i + 1, k, rfl, h1, fun ho H2 b2 h2 => ?_, fun ho d H' s => ?_⟩
    · refine ⟨_, rfl, _, rfl, h2.call0 (by rfl) noF_integer ⟨p, ts, i + 1 + 1, k, rfl, h2, hb, fun n r e j H3 b3 h3 ej => ?_, fun e d H3 b3 => ?_⟩⟩
      · refine ⟨len3, fun a ha => ?_⟩
        refine q _ r (by rw [eA, if_pos ho, e]) a j _ (((B1.trans b2).trans b3).trans (But.of (same_new ha _))) (h3.but (same_new ha _)) ej ?_
        have ek : kwC (decide (hd (ts.drop i) = wAmount)) = hd (ts.drop i) := by
          unfold kwC
          rcases c1 with c1 | c1
          · rw [c1]; rfl
          · rw [c1]; rfl
        show Dp K _ _ (.tuple [.str (S (kwC (decide (hd (ts.drop i) = wAmount)))), .str (S (hd (ts.drop (i + 1)))), .int n])
        rw [ek]
        exact .tup (SqT.of upd_same) (.cons (.str _) (.cons (.str _) (.cons (.int _) .nil)))
      · exact qE (by rw [eA, if_pos ho, e]) d H3 ((B1.trans b2).trans b3)
    · exact qE (by rw [eA, if_neg ho]) d H' (B1.trans (But.of s))
  have nC : ¬ (hd (ts.drop i) = wWeight ∨ hd (ts.drop i) = wAmount) := by simpa using c
  refine ⟨_, rfl, len2, fun t2 ht2 => ?_⟩
  have st2 := Same.trans st (same_new ht2 (HO.tup [.str "group", .str "key"]))
  have hp2 := hp.but st2
  refine ⟨t2, _, rfl, .inr (SqT.of upd_same), rfl, by rw [kwN_eq]; exact flatS _, _, rfl, ?_⟩
  rw [if_neg Bool.false_ne_true, kwN_eq, inS, ← kwN_eq]
  refine iteB (fun c => ?_) (fun c => ?_)
  · -- group, key
    have c1 : hd (ts.drop i) = wGroup ∨ hd (ts.drop i) = wKey := by simpa using c
    have n40 : hd (ts.drop i) ≠ [40] := by rcases c1 with c1 | c1 <;> (rw [c1]; decide)
    have eA : atomG m (ts.drop i) = if isName (hd (ts.drop (i + 1))) = true then some (.nam (decide (hd (ts.drop i) = wKey)) (hd (ts.drop (i + 1))), ts.drop (i + 1 + 1)) else none := by
      unfold atomG atomF
      rw [if_neg n40, if_neg nAll, if_neg nC, if_pos c1, tail_drop, tail_drop]
    refine hp2.incAt TP (by rfl) fun H1 b1 h1 => ?_
    have B1 := (But.of (p := p) st2).trans b1
    refine ⟨_, rfl, h1.call0 (by rfl) noF_name ⟨p, ts, i + 1, k, rfl, h1, hb, fun hn H2 b2 h2 => ⟨len2, fun a ha => ?_⟩, fun hn d H' s => ?_⟩⟩
    · refine q _ _ (by rw [eA, if_pos hn]) a (i + 1 + 1) _ ((B1.trans b2).trans (But.of (same_new ha _))) (h2.but (same_new ha _)) rfl ?_
      have ek : kwN (decide (hd (ts.drop i) = wKey)) = hd (ts.drop i) := by
        unfold kwN
        rcases c1 with c1 | c1
        · rw [c1]; rfl
        · rw [c1]; rfl
      show Dp K _ _ (.tuple [.str (S (kwN (decide (hd (ts.drop i) = wKey)))), .str (S (hd (ts.drop (i + 1))))])
      rw [ek]
      exact .tup (SqT.of upd_same) (.cons (.str _) (.cons (.str _) .nil))
    · exact qE (by rw [eA, if_neg (by rw [hn]; exact Bool.false_ne_true)]) d H' (B1.trans (But.of s))
  have nN : ¬ (hd (ts.drop i) = wGroup ∨ hd (ts.drop i) = wKey) := by simpa using c
  refine ⟨_, rfl, rfl, _, rfl, ?_⟩
  rw [eqS s_lp]
  refine iteB (fun c => ?_) (fun c => ?_)
  · have c1 : hd (ts.drop i) ≠ [40] := by simpa using c
    refine hp2.call1 (by rfl) noF_fail ⟨p, ts, i, k, _, rfl, hp2, fun d H' s => qE ?_ d H' ((But.of st2).trans (But.of s))⟩
    unfold atomG atomF
    rw [if_neg c1, if_neg nAll, if_neg nC, if_neg nN]
  · have c1 : hd (ts.drop i) = [40] := by simpa using c
    have eA : atomG m (ts.drop i) = brG m (ts.drop i) := by unfold atomG; rw [if_pos c1]
    refine hp2.call0 (by rfl) noF_bracket ⟨p, ts, i, k, rfl, hp2, hb, hk, fun c r e a j H' b h' ej hc => ?_, fun e d H' b => ?_⟩
    · exact q c r (by rw [eA]; exact e) a j H' ((But.of st2).trans b) h' ej hc
    · exact qE (by rw [eA]; exact e) d H' ((But.of st2).trans b)
end
end K05
set_option Elab.async false
set_option linter.all false
set_option maxRecDepth 100000
set_option maxHeartbeats 4000000
namespace K05
open PySem PySem.Spec PyProof.Rows L2
section
variable {P : Program} {w : World} {K : PySem.W.Frag} {mg : Str → Option Value} {base : Heap} {CP C : Addr}
/-! ### negated -/
abbrev sNegated : Stmt := inClass (top 26) 8
theorem scNegated : FnScope ["self", "found"] ["self"] (defScope sNegated) := ⟨rfl, rfl, rfl, by decide +kernel, rfl, by decide +kernel, by decide +kernel⟩
theorem ok_negated {f : Addr} {fd : FuncData} (m : Nat) (TP : TxP K mg CP) (F : Fun K "negated" "Parser.negated" sNegated f fd) (DN : Dm P w K mg base CX0 CP 1 "next_text" ["self"] (spNext CP))
    (DE : Dm P w K mg base (L2.CX P w) CP 4 "enter" ["self"] (spEnter CP C)) (DA : Dm P w K mg base (L2.CX P w) CP (6 + 5 * m) "atom" ["self"] (spP CP C K (atomG m) m))
    (DG : Dm P w K mg base (L2.CX P w) CP (6 + 5 * m) "negated" ["self"] (spPrev CP C K negF m)) : FnOk P w K mg base (L2.CX P w) (7 + 5 * m) f fd ["self"] (spP CP C K (negF m) m) := by
  rw [show 7 + 5 * m = (6 + 5 * m) + 1 by omega]
  refine F.okX scNegated (fun vs H Q E h => ?_) (fun cdv A outer s H vs Q E hr h => ?_)
  · obtain ⟨p, ts, i, k, rfl, _⟩ := h
    rfl
  obtain ⟨p, ts, i, k, rfl, hp, hb, hk, q, qE⟩ := h
  have hr1 : Room 1 _ := hr.mono (by omega)
  have hr4 : Room 4 _ := hr.mono (by omega)
  refine ⟨_, pss_cons (ps_if (pt_cmpR op_ne (pe_dm0 (pv 0) TP.cls DN hr1 pass0) pe_str (nomark _)) (pss_one (ps_ret (pe_dm0 (pv 0) TP.cls DA hr pxs))) pss_nil)
    (pss_cons (ps_expr (pe_dm0 (pv 0) TP.cls DE hr4 pxs))
    (pss_cons (ps_set (i := 1) scNegated.nd rfl (Or.inl rfl) (pe_tup (pa_cons pe_str (pa_cons (pe_dm0 (pv 0) TP.cls DG hr pxs) pa_nil))))
    (pss_cons (ps_fldaug (pv 0) pe_int in_sub) (pss_one (ps_ret (pv 1)))))), ?_⟩
  refine hp.call0 (σ := [some (.ref p), none]) rfl noF_next ⟨p, ts, i, k, rfl, hp, rfl, _, rfl, ?_⟩
  rw [eqS s_not]
  refine iteB (fun c => ?_) (fun c => ?_)
  · have c1 : hd (ts.drop i) ≠ wNot := by simpa using c
    have eN : negF m (ts.drop i) = atomG m (ts.drop i) := by rw [negF_eq, if_neg c1]
    refine hp.call0 (by rfl) noF_atom ⟨p, ts, i, k, rfl, hp, hb, hk, fun c r e a j H' b h' ej hc => ?_, fun e d H' b => ?_⟩
    · exact q c r (by rw [eN]; exact e) a j H' b h' ej hc
    · exact qE (by rw [eN]; exact e) d H' b
  · have c1 : hd (ts.drop i) = wNot := by simpa using c
    have eN : negF m (ts.drop i) = notG m (ts.drop i) := by rw [negF_eq, if_pos c1]
    refine hp.call0 (by rfl) noF_enter ⟨p, ts, i, k, rfl, hp, fun hk1 H1 b1 h1 => ?_, fun hk1 d H' s1 => ?_⟩
    · cases m with
      | zero => omega
      | succ m =>
        refine h1.call0 (by rfl) noF_negated ⟨p, ts, i + 1, k + 1, rfl, h1, hb, by omega, fun c r e a j H2 b2 h2 ej hc => ?_, fun e d H2 b2 => ?_⟩
        · refine ⟨len2, fun t ht => ?_⟩
          have st := same_new ht (HO.tup [.str "not", .ref a])
          have h2' := h2.but st
          refine h2'.decOm TP (by rfl) fun H3 b3 h3 => ⟨_, rfl, ?_⟩
          have e' : negF m (ts.drop i).tail = some (c, r) := by rw [tail_drop]; exact e
          refine q (.not c) r ?_ t j H3 (((b1.trans b2).trans (But.of st)).trans b3) h3 ej ?_
          · rw [eN]
            show (match negF m (ts.drop i).tail with | some (c, r') => some (Cnd.not c, r') | none => none) = _
            rw [e']
          · have k3 := But.keeps b3 h2'.ins
            show Dp K H3 (.ref t) (.tuple [.str (S wNot), cd c])
            rw [← s_not]
            exact Dp.keep k3 _ _ (.tup (SqT.of upd_same) (.cons (.str _) (.cons (Dp.same hc st) .nil)))
        · refine qE ?_ d H2 (b1.trans b2)
          have e' : negF m (ts.drop i).tail = none := by rw [tail_drop]; exact e
          rw [eN]
          show (match negF m (ts.drop i).tail with | some (c, r') => some (Cnd.not c, r') | none => none) = _
          rw [e']
    · refine qE ?_ d H' (But.of s1)
      have : m = 0 := by omega
      subst this
      rw [eN]; rfl
/-! ### the two loops -/
theorem loop_read {p : Addr} {ts : List Tx} {i k m : Nat} {H : Hp} {Q : VK} {E : XK} {G sub : List Tx → Res} {word : Tx} {wd name : Str} {fc : Cnd → Cnd → Cnd} {D : Ends} (TP : TxP K mg CP) (nf : NoF name) (ew : wd = S word) (wne : word ≠ []) (hcd : ∀ c d, cd (fc c d) = .tuple [.str (S word), cd c, cd d]) (shr : Shrinks sub)
    (eG : ∀ r, G r = match sub r with | some (c, r') => loopF word fc sub r'.length c r' | none => none) (hD : D.rt = Q)
    (hp : PAt CP H p ts i k) (hb : Bd ts) (hk : k + m = 20)
    (q : ∀ c r, G (ts.drop i) = some (c, r) → ∀ a j H', But p H H' → PAt CP H' p ts j k → ts.drop j = r → Dp K H' (.ref a) (cd c) → Q (.ref a) H') (qE : G (ts.drop i) = none → ∀ d H', But p H H' → E (.ref C) (some d) H') :
    tSeq (tAsg (tMeth CP name (spP CP C K sub m) [] E (tVar 0) tNil) (gName 1))
      (tSeq (tWhile (tTest (tOp rEq (tMeth CP "next_text" (spNext CP) [] E0 (tVar 0) tNil) (tC (.str wd))))
          (tSeq (sFldAug K (tVar 0) (tC (.int 1)) L2.rAdd "at") (tAsg (tTup (tCons (tC (.str wd)) (tCons (tVar 1) (tCons (tMeth CP name (spP CP C K sub m) [] E (tVar 0) tNil) tNil)))) (gName 1))))
        (tRet (tVar 1))) D [some (.ref p), none] H := by
  refine hp.call0 (σ := [some (.ref p), none]) rfl nf ⟨p, ts, i, k, rfl, hp, hb, hk, fun c0 r0 e0 a0 j0 H1 b1 h1 ej0 hc0 => ?_, fun e0 d H1 b1 => ?_⟩
  · have eG0 : G (ts.drop i) = loopF word fc sub r0.length c0 r0 := by rw [eG, e0]
    rw [eG0] at q qE
    let W : Nat → L2.St → Hp → Prop := fun n σ H' => ∃ (j : Nat) (c : Cnd) (a : Addr), σ = [some (.ref p), some (.ref a)] ∧ But p H H' ∧ PAt CP H' p ts j k ∧ Dp K H' (.ref a) (cd c) ∧ (ts.drop j).length ≤ n ∧ loopF word fc sub r0.length c0 r0 = loopF word fc sub n c (ts.drop j)
    refine ⟨W, ⟨r0.length, j0, c0, a0, rfl, b1, h1, hc0, by rw [ej0]; exact Nat.le_refl _, by rw [ej0]⟩, ?_⟩
    rintro n σ H2 ⟨j, c, a, rfl, b2, h2, hc, hl, eL⟩
    refine h2.call0 (σ := [some (.ref p), some (.ref a)]) rfl noF_next ⟨p, ts, j, k, rfl, h2, rfl, _, rfl, ?_⟩
    rw [eqS ew]
    refine iteB (fun c1 => ?_) (fun c1 => ?_)
    · have c2 : hd (ts.drop j) = word := of_decide_eq_true c1
      have er := hd_cons c2 wne
      have hl2 : (ts.drop j).length = (ts.drop (j + 1)).length + 1 := by
        rw [er, List.length_cons, ← tail_drop]
      cases n with
      | zero => omega
      | succ n =>
        refine ⟨fun σ' H' => ∃ m', m' < n + 1 ∧ W m' σ' H', fun _ _ z => z, ?_⟩
        refine h2.incAt TP (by rfl) fun H3 b3 h3 => ?_
        have eL2 : loopF word fc sub (n + 1) c (ts.drop j) = match sub (ts.drop (j + 1)) with | some (d, r') => loopF word fc sub n (fc c d) r' | none => none := by
          rw [loopF, if_pos c2, tail_drop]
          all_goals rfl
        refine ⟨_, rfl, h3.call0 (σ := [some (.ref p), some (.ref a)]) rfl nf ⟨p, ts, j + 1, k, rfl, h3, hb, hk, fun d r e a2 j2 H4 b4 h4 ej2 hd2 => ?_, fun e d H4 b4 => ?_⟩⟩
        · refine ⟨len3, fun t ht => ?_⟩
          have st := same_new ht (HO.tup [.str wd, .ref a, .ref a2])
          have kp := Dp.keep (But.keeps (b3.trans b4) h2.ins) _ _ hc
          have sh := shr _ _ _ e
          refine ⟨n, by omega, j2, fc c d, t, rfl, ((b2.trans b3).trans b4).trans (But.of st), h4.but st, ?_, ?_, ?_⟩
          · rw [hcd, ← ew]
            exact .tup (SqT.of upd_same) (.cons (.str _) (.cons (Dp.same kp st) (.cons (Dp.same hd2 st) .nil)))
          · rw [ej2]; omega
          · rw [eL, eL2, e, ej2]
        · exact qE (by rw [eL, eL2, e]) d H4 ((b2.trans b3).trans b4)
    · have c2 : hd (ts.drop j) ≠ word := of_decide_eq_false c1
      refine ⟨_, rfl, ?_⟩
      rw [hD]
      exact q c _ (by rw [eL, loopF_stop c2]) a j H2 b2 h2 rfl hc
  · exact qE (by rw [eG, e0]) d H1 b1
abbrev sBoth : Stmt := inClass (top 26) 7
theorem scBoth : FnScope ["self", "found"] ["self"] (defScope sBoth) := ⟨rfl, rfl, rfl, by decide +kernel, rfl, by decide +kernel, by decide +kernel⟩
theorem ok_both {f : Addr} {fd : FuncData} (m : Nat) (TP : TxP K mg CP) (F : Fun K "both" "Parser.both" sBoth f fd) (DN : Dm P w K mg base CX0 CP 1 "next_text" ["self"] (spNext CP))
    (DG : Dm P w K mg base (L2.CX P w) CP (7 + 5 * m) "negated" ["self"] (spP CP C K (negF m) m)) : FnOk P w K mg base (L2.CX P w) (8 + 5 * m) f fd ["self"] (spP CP C K (bothOf (negF m)) m) := by
  rw [show 8 + 5 * m = (7 + 5 * m) + 1 by omega]
  refine F.okX scBoth (fun vs H Q E h => ?_) (fun cdv A outer s H vs Q E hr h => ?_)
  · obtain ⟨p, ts, i, k, rfl, _⟩ := h
    rfl
  obtain ⟨p, ts, i, k, rfl, hp, hb, hk, q, qE⟩ := h
  have hr1 : Room 1 _ := hr.mono (by omega)
  exact ⟨_, pss_cons (ps_set (i := 1) scBoth.nd rfl (Or.inl rfl) (pe_dm0 (pv 0) TP.cls DG hr pxs))
    (pss_cons (ps_while (passes_of rfl) (pt_cmpR op_eq (pe_dm0 (pv 0) TP.cls DN hr1 pass0) pe_str (nomark _))
      (pss_cons (ps_fldaug (pv 0) pe_int in_add) (pss_one (ps_set (i := 1) scBoth.nd rfl (Or.inl rfl) (pe_tup (pa_cons pe_str (pa_cons (pv 1) (pa_cons (pe_dm0 (pv 0) TP.cls DG hr pxs) pa_nil))))))))
    (pss_one (ps_ret (pv 1)))),
    loop_read (fc := .and) TP noF_negated s_and (by decide) (fun _ _ => rfl) (negS m) (fun r => by unfold bothOf; rfl) rfl hp hb hk q qE⟩
abbrev sEither : Stmt := inClass (top 26) 6
theorem scEither : FnScope ["self", "found"] ["self"] (defScope sEither) := ⟨rfl, rfl, rfl, by decide +kernel, rfl, by decide +kernel, by decide +kernel⟩
theorem ok_either {f : Addr} {fd : FuncData} (m : Nat) (TP : TxP K mg CP) (F : Fun K "either" "Parser.either" sEither f fd) (DN : Dm P w K mg base CX0 CP 1 "next_text" ["self"] (spNext CP))
    (DG : Dm P w K mg base (L2.CX P w) CP (8 + 5 * m) "both" ["self"] (spP CP C K (bothOf (negF m)) m)) : FnOk P w K mg base (L2.CX P w) (9 + 5 * m) f fd ["self"] (spP CP C K (eithOf (negF m)) m) := by
  rw [show 9 + 5 * m = (8 + 5 * m) + 1 by omega]
  refine F.okX scEither (fun vs H Q E h => ?_) (fun cdv A outer s H vs Q E hr h => ?_)
  · obtain ⟨p, ts, i, k, rfl, _⟩ := h
    rfl
  obtain ⟨p, ts, i, k, rfl, hp, hb, hk, q, qE⟩ := h
  have hr1 : Room 1 _ := hr.mono (by omega)
  exact ⟨_, pss_cons (ps_set (i := 1) scEither.nd rfl (Or.inl rfl) (pe_dm0 (pv 0) TP.cls DG hr pxs))
    (pss_cons (ps_while (passes_of rfl) (pt_cmpR op_eq (pe_dm0 (pv 0) TP.cls DN hr1 pass0) pe_str (nomark _))
      (pss_cons (ps_fldaug (pv 0) pe_int in_add) (pss_one (ps_set (i := 1) scEither.nd rfl (Or.inl rfl) (pe_tup (pa_cons pe_str (pa_cons (pv 1) (pa_cons (pe_dm0 (pv 0) TP.cls DG hr pxs) pa_nil))))))))
    (pss_one (ps_ret (pv 1)))),
    loop_read (fc := .or) TP noF_both s_or (by decide) (fun _ _ => rfl) (bothS m) (fun r => by unfold eithOf; rfl) rfl hp hb hk q qE⟩
/-! ### the parser's methods all together -/
structure TxM (K : PySem.W.Frag) (CP : Addr) : Prop where
  next : Sm K CP "next_text" "Parser.next_text" sNext ["self"]
  column : Sm K CP "column" "Parser.column" sColumn ["self"]
  fail : Sm K CP "fail" "Parser.fail" sFail ["self", "reason"]
  take : Sm K CP "take" "Parser.take" sTake ["self"]
  enter : Sm K CP "enter" "Parser.enter" sEnter ["self"]
  either : Sm K CP "either" "Parser.either" sEither ["self"]
  both : Sm K CP "both" "Parser.both" sBoth ["self"]
  negated : Sm K CP "negated" "Parser.negated" sNegated ["self"]
  atom : Sm K CP "atom" "Parser.atom" sAtom ["self"]
  bracket : Sm K CP "bracket" "Parser.bracket" sBracket ["self"]
  order : Sm K CP "order" "Parser.order" sOrder ["self"]
  integer : Sm K CP "integer" "Parser.integer" sInteger ["self"]
  name : Sm K CP "name" "Parser.name" sName ["self"]
  init : ∃ (f : Addr) (fd : FuncData), Mk K CP f ∧ Fun K "__init__" "Parser.__init__" sInit f fd ∧ Binds K fd ["self", "text"] []
theorem all_methods (T : Tx0 K mg) (TP : TxP K mg CP) (TE : TxE K mg C) (M : TxM K CP) (DW : Df P w K mg base CX0 1 "is_written" ["word"] spIsWritten) (DI : Df P w K mg base CX0 2 "integer_of" ["word"] spIntegerOf) (DA : Df P w K mg base CX0 1 "is_name" ["text"] spIsName) :
    ∀ m : Nat, Dm P w K mg base (L2.CX P w) CP (7 + 5 * m) "negated" ["self"] (spP CP C K (negF m) m) ∧ Dm P w K mg base (L2.CX P w) CP (9 + 5 * m) "either" ["self"] (spP CP C K (eithOf (negF m)) m) := by
  have DN : Dm P w K mg base CX0 CP 1 "next_text" ["self"] (spNext CP) := M.next.dm fun _ _ F => ok_next T TP F
  have DC : Dm P w K mg base CX0 CP 1 "column" ["self"] (spColumn CP) := M.column.dm fun _ _ F => ok_column T TP F
  have DF : Dm P w K mg base (L2.CX P w) CP 3 "fail" ["self", "reason"] (spFail CP C) := M.fail.dm fun _ _ F => ok_fail TP TE F DC
  have DT : Dm P w K mg base CX0 CP 2 "take" ["self"] (spTake CP) := M.take.dm fun _ _ F => ok_take TP F DN
  have DE : Dm P w K mg base (L2.CX P w) CP 4 "enter" ["self"] (spEnter CP C) := M.enter.dm fun _ _ F => ok_enter T TP F DF
  have DO : Dm P w K mg base (L2.CX P w) CP 4 "order" ["self"] (spOrder CP C) := M.order.dm fun _ _ F => ok_order T TP F DN DF DT
  have DG : Dm P w K mg base (L2.CX P w) CP 4 "integer" ["self"] (spInteger CP C) := M.integer.dm fun _ _ F => ok_integer T TP F DN DF DW DI
  have DM : Dm P w K mg base (L2.CX P w) CP 4 "name" ["self"] (spName CP C) := M.name.dm fun _ _ F => ok_name TP F DN DF DT DA
  have step : ∀ m : Nat, Dm P w K mg base (L2.CX P w) CP (4 + 5 * m) "either" ["self"] (spPrev CP C K (fun m => eithOf (negF m)) m) → Dm P w K mg base (L2.CX P w) CP (6 + 5 * m) "negated" ["self"] (spPrev CP C K negF m) →
      Dm P w K mg base (L2.CX P w) CP (7 + 5 * m) "negated" ["self"] (spP CP C K (negF m) m) ∧ Dm P w K mg base (L2.CX P w) CP (9 + 5 * m) "either" ["self"] (spP CP C K (eithOf (negF m)) m) := fun m he hn => by
    have D1 : Dm P w K mg base (L2.CX P w) CP (5 + 5 * m) "bracket" ["self"] (spP CP C K (brG m) m) := M.bracket.dm fun _ _ F => ok_bracket m TP F DN DF DE he
    have D2 : Dm P w K mg base (L2.CX P w) CP (6 + 5 * m) "atom" ["self"] (spP CP C K (atomG m) m) := M.atom.dm fun _ _ F => ok_atom m TP F DN DF DO DG DM D1
    have D3 : Dm P w K mg base (L2.CX P w) CP (7 + 5 * m) "negated" ["self"] (spP CP C K (negF m) m) := M.negated.dm fun _ _ F => ok_negated m TP F DN DE D2 hn
    have D4 : Dm P w K mg base (L2.CX P w) CP (8 + 5 * m) "both" ["self"] (spP CP C K (bothOf (negF m)) m) := M.both.dm fun _ _ F => ok_both m TP F DN D3
    exact ⟨D3, M.either.dm fun _ _ F => ok_either m TP F DN D4⟩
  intro m
  induction m with
  | zero => exact step 0 (M.either.never _) (M.negated.never _)
  | succ m ih => exact step (m + 1) (ih.2.mono (by omega)) (ih.1.mono (by omega))
/-! ### parse_condition -/
abbrev sParse : Stmt := top 27
theorem scParse : FnScope ["text", "parser", "found"] ["text"] (defScope sParse) := ⟨rfl, rfl, rfl, by decide +kernel, rfl, by decide +kernel, by decide +kernel⟩
def spParseC (C : Addr) (K : PySem.W.Frag) : Sp := fun vs H Q E => ∃ l : Tx, vs = [.str (S l)] ∧ l.length ≤ 2000 ∧ (∀ c, parseF l = some c → ∀ a H', Same H H' → Dp K H' (.ref a) (cd c) → Q (.ref a) H') ∧ (parseF l = none → ∀ d H', Same H H' → E (.ref C) (some d) H')
theorem parseF_eq {l : Tx} {ts : List Tx} (h : toks l = some ts) : parseF l = match eithOf (negF 20) ts with | some (c, r) => (if r = [] then some c else none) | none => none := by
  unfold parseF
  rw [h]
  show parseT ts = _
  unfold parseT
  rfl
theorem ok_parse {f : Addr} {fd : FuncData} (T : Tx0 K mg) (TP : TxP K mg CP) (TE : TxE K mg C) (M : TxM K CP) (F : Fun K "parse_condition" "parse_condition" sParse f fd) (DW : Df P w K mg base CX0 1 "is_written" ["word"] spIsWritten) (DI : Df P w K mg base CX0 2 "integer_of" ["word"] spIntegerOf) (DA : Df P w K mg base CX0 1 "is_name" ["text"] spIsName)
    (DT : Df P w K mg base (L2.CX P w) 3 "tokens_of" ["text"] (spTokensOf C)) : FnOk P w K mg base (L2.CX P w) 110 f fd ["text"] (spParseC C K) := by
  have DE := (all_methods (P := P) (w := w) (base := base) T TP TE M DW DI DA 20).2
  have DC : Dm P w K mg base CX0 CP 1 "column" ["self"] (spColumn CP) := M.column.dm fun _ _ F => ok_column T TP F
  have DF : Dm P w K mg base (L2.CX P w) CP 3 "fail" ["self", "reason"] (spFail CP C) := M.fail.dm fun _ _ F => ok_fail TP TE F DC
  obtain ⟨fi, fdi, mk, Fi, bi⟩ := M.init
  have FI := ok_init (P := P) (w := w) (base := base) (C := C) T TP Fi DT
  obtain ⟨t, hmc⟩ := T.mostC
  refine F.okX scParse (fun vs H Q E h => ?_) (fun cdv A outer s H vs Q E hr h => ?_)
  · obtain ⟨l, rfl, _⟩ := h
    rfl
  obtain ⟨l, rfl, hl, q, qE⟩ := h
  have hr3 : Room 3 _ := hr.mono (by decide)
  have hr5 : Room 5 _ := hr.mono (by decide)
  refine ⟨_, pss_cons (ps_if (pt_cmpR op_gt (pe_callB call_len_str (by rfl) T.len PySem.boot_len (pa_cons (pv 0) pa_nil)) (pe_glob (v := .int 2000) rfl hmc ⟨_, rfl⟩) (nomark _)) pss_never pss_nil)
    (pss_cons (ps_set (i := 1) scParse.nd rfl (Or.inl rfl) (pe_make mk FI hr5 (by rfl) TP.g bi .nil pxs (pa_cons (pv 0) pa_nil)))
    (pss_cons (ps_set (i := 2) scParse.nd rfl (Or.inl rfl) (pe_dm0 (pv 1) TP.cls DE hr pxs))
    (pss_cons (ps_if (pt_cmpR op_lt (pe_fld (pv 1) rfl) (pe_callB call_len_seq (by rfl) T.len PySem.boot_len (pa_cons (pe_fld (pv 1) rfl) pa_nil)) (nomark _)) (pss_one (ps_expr (pe_dm (pv 1) TP.cls DF hr3 pxs (pa_cons pe_str pa_nil)))) pss_nil)
    (pss_one (ps_ret (pv 2)))))), ?_⟩
  refine ⟨_, rfl, _, rfl, lookS (by rw [S_len]; omega), _, _, rfl, rfl, _, rfl, iteB (fun c => ?_) (fun c => ?_)⟩
  · have z := of_decide_eq_true c
    rw [S_len] at z
    omega
  refine ⟨_, rfl, fun p dx np ndx nex => ?_⟩
  have s0 : Same H (upd (upd H dx (.own p)) p (.ins CP dx [])) := fun b o e => by
    rw [upd_ne (ne_of_none e np), upd_ne (ne_of_none e ndx)]
    exact e
  refine ⟨p, dx, l, rfl, by omega, upd_same, fun ts ht H1 b1 h1 => ⟨rfl, ?_⟩, fun ht d H' s1 => ?_⟩
  · have eP := parseF_eq ht
    have hb := toks_bd ht (by omega)
    obtain ⟨dx1, l1, e1, fs1, hp1, pf1, tk1⟩ := id h1
    refine ⟨_, rfl, p, dx1, fs1, rfl, hp1, pf1.no _ noF_either.t noF_either.a noF_either.e noF_either.o, p, ts, 0, 0, rfl, h1, hb, rfl, fun c r e a j H2 b2 h2 ej hc => ?_, fun e d H2 b2 => ?_⟩
    · rw [List.drop_zero] at e
      rw [e] at eP
      have s2 : Same H H2 := But.same np (fun b o z => b1 b o (ne_of_none z np) (s0 b o z)) b2
      obtain ⟨dx2, l2, e2, fs2, hp2, pf2, tk2⟩ := id h2
      obtain ⟨rs, t1, t2, t3⟩ := tk2
      refine ⟨_, rfl, p, CP, dx2, fs2, _, rfl, hp2, TP.cls, TP.nA, pf2.at_, _, rfl, p, CP, dx2, fs2, _, rfl, hp2, TP.cls, TP.nT, pf2.tok, l2, _, rfl, .inl (SqL.of t1), _, _, rfl, rfl, _, rfl, iteB (fun c1 => ?_) (fun c1 => ?_)⟩
      · have z := of_decide_eq_true c1
        rw [List.length_map, t2] at z
        have rne : r ≠ [] := by
          rw [← ej]
          intro y
          have := List.drop_eq_nil_iff.mp y
          omega
        refine ⟨_, rfl, p, dx2, fs2, rfl, hp2, pf2.no _ noF_fail.t noF_fail.a noF_fail.e noF_fail.o, p, ts, j, 0, _, rfl, h2, fun d H' s => qE ?_ d H' (Same.trans s2 s)⟩
        rw [eP]
        exact if_neg rne
      · have z := of_decide_eq_false c1
        rw [List.length_map, t2] at z
        have rne : r = [] := by
          rw [← ej]
          exact List.drop_eq_nil_of_le (by omega)
        refine ⟨_, rfl, q c ?_ a H2 s2 hc⟩
        rw [eP]
        exact if_pos rne
    · rw [List.drop_zero] at e
      rw [e] at eP
      exact qE eP d H2 (But.same np (fun b o z => b1 b o (ne_of_none z np) (s0 b o z)) b2)
  · refine qE ?_ d H' (Same.trans s0 s1)
    unfold parseF
    rw [ht]
end
end K05
set_option Elab.async false
set_option linter.all false
set_option maxRecDepth 100000
set_option maxHeartbeats 4000000
namespace K05
open PySem PySem.Spec PyProof.Rows L2
/-! ### a condition's parts -/
def headW : Cnd → Tx
  | .all => wAll
  | .cmp am _ _ => kwC am
  | .nam k _ => kwN k
  | .not _ => wNot
  | .and _ _ => wAnd
  | .or _ _ => wOr
section
variable {K : PySem.W.Frag} {H : Hp}
theorem _root_.L2.Dp.sm {d : PyData} {v : V} {H' : Hp} (h : Dp K H v d) (s : Same H H') : Dp K H' v d := K05.Dp.same h s
theorem _root_.L2.Dp.tup_inv {v : V} {ds : List PyData} (h : Dp K H v (.tuple ds)) : ∃ a xs, v = .ref a ∧ SqT K H a xs ∧ DpAll K H xs ds := by
  cases h with
  | tup h1 h2 => exact ⟨_, _, rfl, h1, h2⟩
theorem _root_.L2.Dp.ref_inv {a : Addr} {ds : List PyData} (h : Dp K H (.ref a) (.tuple ds)) : ∃ xs, SqT K H a xs ∧ DpAll K H xs ds := by
  cases h with
  | tup h1 h2 => exact ⟨_, h1, h2⟩
theorem _root_.L2.DpAll.one {xs : List V} {d : PyData} (h : DpAll K H xs [d]) : ∃ v, xs = [v] ∧ Dp K H v d := by
  cases h with
  | cons h1 h2 => cases h2; exact ⟨_, rfl, h1⟩
theorem _root_.L2.DpAll.two {xs : List V} {d e : PyData} (h : DpAll K H xs [d, e]) : ∃ v u, xs = [v, u] ∧ Dp K H v d ∧ Dp K H u e := by
  cases h with
  | cons h1 h2 =>
    obtain ⟨u, rfl, hu⟩ := h2.one
    exact ⟨_, _, rfl, h1, hu⟩
theorem _root_.L2.DpAll.three {xs : List V} {d e f : PyData} (h : DpAll K H xs [d, e, f]) : ∃ v u w, xs = [v, u, w] ∧ Dp K H v d ∧ Dp K H u e ∧ Dp K H w f := by
  cases h with
  | cons h1 h2 =>
    obtain ⟨u, w, rfl, hu⟩ := h2.two
    exact ⟨_, _, _, rfl, h1, hu⟩
theorem _root_.L2.Dp.str_inv {v : V} {x : Str} (h : Dp K H v (.str x)) : v = .str x := by cases h; rfl
theorem _root_.L2.Dp.int_inv {v : V} {n : Int} (h : Dp K H v (.int n)) : v = .int n := by cases h; rfl
theorem cd_tup (c : Cnd) : ∃ ds, cd c = .tuple ds := by cases c <;> exact ⟨_, rfl⟩
theorem cd_ref {v : V} {c : Cnd} (h : Dp K H v (cd c)) : ∃ a, v = .ref a := by
  obtain ⟨ds, e⟩ := cd_tup c
  rw [e] at h
  obtain ⟨a, _, rfl, _⟩ := h.tup_inv
  exact ⟨a, rfl⟩
theorem cd_head {a : Addr} {c : Cnd} (h : Dp K H (.ref a) (cd c)) : ∃ xs, SqT K H a xs ∧ xs[0]? = some (.str (S (headW c))) := by
  cases c with
  | all =>
    obtain ⟨xs, h1, h2⟩ := Dp.ref_inv (show Dp K H (.ref a) (.tuple [.str (S wAll)]) from h)
    obtain ⟨v, rfl, e⟩ := h2.one
    exact ⟨_, h1, by rw [e.str_inv]; rfl⟩
  | cmp am o n =>
    obtain ⟨xs, h1, h2⟩ := Dp.ref_inv (show Dp K H (.ref a) (.tuple [.str (S (kwC am)), .str (S o), .int n]) from h)
    obtain ⟨v, u, w, rfl, e, _⟩ := h2.three
    exact ⟨_, h1, by rw [e.str_inv]; rfl⟩
  | nam k x =>
    obtain ⟨xs, h1, h2⟩ := Dp.ref_inv (show Dp K H (.ref a) (.tuple [.str (S (kwN k)), .str (S x)]) from h)
    obtain ⟨v, u, rfl, e, _⟩ := h2.two
    exact ⟨_, h1, by rw [e.str_inv]; rfl⟩
  | not c =>
    obtain ⟨xs, h1, h2⟩ := Dp.ref_inv (show Dp K H (.ref a) (.tuple [.str (S wNot), cd c]) from h)
    obtain ⟨v, u, rfl, e, _⟩ := h2.two
    exact ⟨_, h1, by rw [e.str_inv]; rfl⟩
  | and c d =>
    obtain ⟨xs, h1, h2⟩ := Dp.ref_inv (show Dp K H (.ref a) (.tuple [.str (S wAnd), cd c, cd d]) from h)
    obtain ⟨v, u, w, rfl, e, _⟩ := h2.three
    exact ⟨_, h1, by rw [e.str_inv]; rfl⟩
  | or c d =>
    obtain ⟨xs, h1, h2⟩ := Dp.ref_inv (show Dp K H (.ref a) (.tuple [.str (S wOr), cd c, cd d]) from h)
    obtain ⟨v, u, w, rfl, e, _⟩ := h2.three
    exact ⟨_, h1, by rw [e.str_inv]; rfl⟩
/-- the tuple of a comparison, a name, a not, a pair -/
theorem cd_cmp {a : Addr} {am : Bool} {o : Tx} {n : Int} (h : Dp K H (.ref a) (cd (.cmp am o n))) : SqT K H a [.str (S (kwC am)), .str (S o), .int n] := by
  obtain ⟨xs, h1, h2⟩ := Dp.ref_inv (show Dp K H (.ref a) (.tuple [.str (S (kwC am)), .str (S o), .int n]) from h)
  obtain ⟨v, u, w, rfl, e1, e2, e3⟩ := h2.three
  rw [e1.str_inv, e2.str_inv, e3.int_inv] at h1
  exact h1
theorem cd_nam {a : Addr} {k : Bool} {x : Tx} (h : Dp K H (.ref a) (cd (.nam k x))) : SqT K H a [.str (S (kwN k)), .str (S x)] := by
  obtain ⟨xs, h1, h2⟩ := Dp.ref_inv (show Dp K H (.ref a) (.tuple [.str (S (kwN k)), .str (S x)]) from h)
  obtain ⟨v, u, rfl, e1, e2⟩ := h2.two
  rw [e1.str_inv, e2.str_inv] at h1
  exact h1
theorem cd_not {a : Addr} {c : Cnd} (h : Dp K H (.ref a) (cd (.not c))) : ∃ b, SqT K H a [.str (S wNot), .ref b] ∧ Dp K H (.ref b) (cd c) := by
  obtain ⟨xs, h1, h2⟩ := Dp.ref_inv (show Dp K H (.ref a) (.tuple [.str (S wNot), cd c]) from h)
  obtain ⟨v, u, rfl, e1, e2⟩ := h2.two
  obtain ⟨b, rfl⟩ := cd_ref e2
  rw [e1.str_inv] at h1
  exact ⟨b, h1, e2⟩
theorem cd_and {a : Addr} {c d : Cnd} (h : Dp K H (.ref a) (cd (.and c d))) : ∃ b b', SqT K H a [.str (S wAnd), .ref b, .ref b'] ∧ Dp K H (.ref b) (cd c) ∧ Dp K H (.ref b') (cd d) := by
  obtain ⟨xs, h1, h2⟩ := Dp.ref_inv (show Dp K H (.ref a) (.tuple [.str (S wAnd), cd c, cd d]) from h)
  obtain ⟨v, u, w, rfl, e1, e2, e3⟩ := h2.three
  obtain ⟨b, rfl⟩ := cd_ref e2
  obtain ⟨b', rfl⟩ := cd_ref e3
  rw [e1.str_inv] at h1
  exact ⟨b, b', h1, e2, e3⟩
theorem cd_or {a : Addr} {c d : Cnd} (h : Dp K H (.ref a) (cd (.or c d))) : ∃ b b', SqT K H a [.str (S wOr), .ref b, .ref b'] ∧ Dp K H (.ref b) (cd c) ∧ Dp K H (.ref b') (cd d) := by
  obtain ⟨xs, h1, h2⟩ := Dp.ref_inv (show Dp K H (.ref a) (.tuple [.str (S wOr), cd c, cd d]) from h)
  obtain ⟨v, u, w, rfl, e1, e2, e3⟩ := h2.three
  obtain ⟨b, rfl⟩ := cd_ref e2
  obtain ⟨b', rfl⟩ := cd_ref e3
  rw [e1.str_inv] at h1
  exact ⟨b, b', h1, e2, e3⟩
end
theorem head_all {c : Cnd} (h : headW c = wAll) : c = .all := by
  cases c with
  | all => rfl
  | cmp am o n => cases am <;> simp [headW, kwC, kwN, wAll, wWeight, wAmount, wGroup, wKey, wNot, wAnd, wOr] at h
  | nam k x => cases k <;> simp [headW, kwC, kwN, wAll, wWeight, wAmount, wGroup, wKey, wNot, wAnd, wOr] at h
  | _ => simp [headW, kwC, kwN, wAll, wWeight, wAmount, wGroup, wKey, wNot, wAnd, wOr] at h
theorem head_cmp {c : Cnd} (h : headW c = wWeight ∨ headW c = wAmount) : ∃ am o n, c = .cmp am o n := by
  cases c with
  | cmp am o n => exact ⟨am, o, n, rfl⟩
  | nam k x => cases k <;> simp [headW, kwC, kwN, wAll, wWeight, wAmount, wGroup, wKey, wNot, wAnd, wOr] at h
  | _ => simp [headW, kwC, kwN, wAll, wWeight, wAmount, wGroup, wKey, wNot, wAnd, wOr] at h
theorem head_nam {c : Cnd} (h : headW c = wGroup ∨ headW c = wKey) : ∃ k x, c = .nam k x := by
  cases c with
  | nam k x => exact ⟨k, x, rfl⟩
  | cmp am o n => cases am <;> simp [headW, kwC, kwN, wAll, wWeight, wAmount, wGroup, wKey, wNot, wAnd, wOr] at h
  | _ => simp [headW, kwC, kwN, wAll, wWeight, wAmount, wGroup, wKey, wNot, wAnd, wOr] at h
theorem head_not {c : Cnd} (h : headW c = wNot) : ∃ d, c = .not d := by
  cases c with
  | not d => exact ⟨d, rfl⟩
  | cmp am o n => cases am <;> simp [headW, kwC, kwN, wAll, wWeight, wAmount, wGroup, wKey, wNot, wAnd, wOr] at h
  | nam k x => cases k <;> simp [headW, kwC, kwN, wAll, wWeight, wAmount, wGroup, wKey, wNot, wAnd, wOr] at h
  | _ => simp [headW, kwC, kwN, wAll, wWeight, wAmount, wGroup, wKey, wNot, wAnd, wOr] at h
theorem head_and {c : Cnd} (h : headW c = wAnd) : ∃ d e, c = .and d e := by
  cases c with
  | and d e => exact ⟨d, e, rfl⟩
  | cmp am o n => cases am <;> simp [headW, kwC, kwN, wAll, wWeight, wAmount, wGroup, wKey, wNot, wAnd, wOr] at h
  | nam k x => cases k <;> simp [headW, kwC, kwN, wAll, wWeight, wAmount, wGroup, wKey, wNot, wAnd, wOr] at h
  | _ => simp [headW, kwC, kwN, wAll, wWeight, wAmount, wGroup, wKey, wNot, wAnd, wOr] at h
theorem head_or {c : Cnd} (h1 : headW c ≠ wAll) (h2 : ¬ (headW c = wWeight ∨ headW c = wAmount)) (h3 : ¬ (headW c = wGroup ∨ headW c = wKey)) (h4 : headW c ≠ wNot) (h5 : headW c ≠ wAnd) : ∃ d e, c = .or d e := by
  cases c with
  | or d e => exact ⟨d, e, rfl⟩
  | all => exact absurd rfl h1
  | cmp am o n => exact absurd (by cases am; exact .inl rfl; exact .inr rfl) h2
  | nam k x => exact absurd (by cases k; exact .inl rfl; exact .inr rfl) h3
  | not d => exact absurd rfl h4
  | and d e => exact absurd rfl h5
theorem head_bin (c : Cnd) : decide (headW c ∈ [wAnd, wOr]) = c.isBin := by
  cases c with
  | cmp am o n => cases am <;> rfl
  | nam k x => cases k <;> rfl
  | _ => rfl
theorem head_isOr (c : Cnd) : decide (headW c ∈ [wOr]) = c.isOr := by
  cases c with
  | cmp am o n => cases am <;> rfl
  | nam k x => cases k <;> rfl
  | _ => rfl
theorem ao_eq : ([.str "and", .str "or"] : List V) = [wAnd, wOr].map fun s => V.str (S s) := by decide +kernel
theorem o_eq : ([.str "or"] : List V) = [wOr].map fun s => V.str (S s) := by decide +kernel
theorem s_not_ : ("not " : Str) = S (wNot ++ [32]) := by decide +kernel
theorem s__and_ : (" and " : Str) = S (32 :: (wAnd ++ [32])) := by decide +kernel
theorem s__or_ : (" or " : Str) = S (32 :: (wOr ++ [32])) := by decide +kernel
theorem e_empty : Str.empty = S [] := by decide +kernel
theorem log2_lt {n : Nat} (h : n ≤ 1000000) : n.log2 < 1920 := by
  by_cases z : n = 0
  · subst z; decide
  · rw [Nat.log2_lt z]
    exact Nat.lt_of_le_of_lt h (by decide)
theorem brT_len (b : Bool) (t : Tx) : (Cnd.brT b t).length ≤ t.length + 2 := len_brT b t
/-- the written form's size, of its parts -/
theorem write_not_len (c : Cnd) : (Cnd.not c).write.length = 4 + (Cnd.brT c.isBin c.write).length := by
  show (wNot ++ 32 :: Cnd.brT c.isBin c.write).length = _
  rw [List.length_append, List.length_cons]
  have : wNot.length = 3 := by decide
  omega
theorem brT_ge (b : Bool) (t : Tx) : t.length ≤ (Cnd.brT b t).length := by
  cases b with
  | false => exact Nat.le_refl _
  | true =>
    show _ ≤ (40 :: (t ++ [41])).length
    simp; omega
section
variable {P : Program} {w : World} {K : PySem.W.Frag} {mg : Str → Option Value} {base : Heap}
/-! ### bracketed, write_condition -/
def spWrite (K : PySem.W.Frag) (d : Nat) : Sp := fun vs H Q _ => ∃ (a : Addr) (c : Cnd), vs = [.ref a] ∧ Dp K H (.ref a) (cd c) ∧ c.ok ∧ c.depth ≤ d ∧ c.write.length ≤ 100000 ∧ ∀ H', Same H H' → Q (.str (S c.write)) H'
def spBr (K : PySem.W.Frag) (d : Nat) : Sp := fun vs H Q _ => ∃ (a b : Addr) (c : Cnd) (ws : List Tx), vs = [.ref a, .ref b] ∧ Dp K H (.ref a) (cd c) ∧ c.ok ∧ c.depth ≤ d ∧ c.write.length ≤ 100000 ∧ SqT K H b (ws.map fun s => V.str (S s)) ∧
  ∀ H', Same H H' → Q (.str (S (Cnd.brT (decide (headW c ∈ ws)) c.write))) H'
abbrev sBr : Stmt := top 28
theorem scBr : FnScope ["condition", "words", "text"] ["condition", "words"] (defScope sBr) := ⟨rfl, rfl, rfl, by decide +kernel, rfl, by decide +kernel, by decide +kernel⟩
theorem ok_br {f : Addr} {fd : FuncData} (d k : Nat) (F : Fun K "bracketed" "bracketed" sBr f fd) (DW : Df P w K mg base CX0 k "write_condition" ["condition"] (spWrite K d)) : FnOk P w K mg base CX0 (k + 1) f fd ["condition", "words"] (spBr K d) := by
  refine F.ok scBr (fun vs H Q E h => ?_) (fun cdv A outer s H vs Q E hr h => ?_)
  · obtain ⟨a, b, c, ws, rfl, _⟩ := h
    rfl
  obtain ⟨a, b, c, ws, rfl, hc, hok, hd, hl, hS, q⟩ := h
  refine ⟨_, pss_cons (ps_set (i := 2) scBr.nd rfl (Or.inl rfl) (pe_df DW hr (pa_cons (pv 0) pa_nil)))
    (pss_one (ps_ret (pe_ifExp (pt_cmpR op_in_seq (pe_ix ix_tup (pv 0) pe_int (fun _ _ => rfl)) (pv 1) (by rfl)) (pe_op op_add_str (pe_op op_add_str pe_str (pv 2)) pe_str) (pv 2)))), ?_⟩
  refine ⟨_, rfl, a, c, rfl, hc, hok, hd, hl, fun H1 s1 => ?_⟩
  obtain ⟨xs, hx, h0⟩ := cd_head (hc.sm s1)
  refine ⟨_, rfl, a, xs, 0, _, rfl, rfl, hx, atI_nat (j := 0) h0, _, rfl, b, _, rfl, .inr (Same.tup s1 hS), rfl, flatS _, _, rfl, ?_⟩
  rw [if_neg Bool.false_ne_true, inS]
  have qq := q H1 s1
  refine iteB (fun c1 => ?_) (fun c1 => ?_)
  · rw [c1] at qq
    refine ⟨_, rfl, _, _, rfl, rfl, ?_, _, _, rfl, rfl, ?_, ?_⟩
    · rw [s_lp, S_len, S_len]; exact lookS (by simp; omega)
    · rw [s_lp, s_rp, S_app, S_len, S_len]; exact lookS (by simp; omega)
    · rw [s_lp, s_rp, S_app, S_app]
      exact qq
  · rw [c1] at qq
    exact ⟨_, rfl, qq⟩
abbrev sWrite : Stmt := top 29
theorem scWrite : FnScope ["condition", "word"] ["condition"] (defScope sWrite) := ⟨rfl, rfl, rfl, by decide +kernel, rfl, by decide +kernel, by decide +kernel⟩
theorem ok_write {f : Addr} {fd : FuncData} (d k : Nat) (F : Fun K "write_condition" "write_condition" sWrite f fd) (DW : Df P w K mg base CX0 k "write_condition" ["condition"] (spWrite K d)) (DB : Df P w K mg base CX0 (k + 1) "bracketed" ["condition", "words"] (spBr K d)) : FnOk P w K mg base CX0 (k + 2) f fd ["condition"] (spWrite K (d + 1)) := by
  refine F.ok scWrite (fun vs H Q E h => ?_) (fun cdv A outer s H vs Q E hr h => ?_)
  · obtain ⟨a, c, rfl, _⟩ := h
    rfl
  obtain ⟨a, c, rfl, hc, hok, hd, hl, q⟩ := h
  have hr1 : Room k _ := hr.mono (by omega)
  obtain ⟨xs, hx, h0⟩ := cd_head hc
  refine ⟨_, pss_cons (ps_set (i := 1) scWrite.nd rfl (Or.inl rfl) (pe_ix ix_tup (pv 0) pe_int (fun _ _ => rfl)))
    (pss_cons (ps_if (pt_cmpR op_eq (pv 1) pe_str (nomark _)) (pss_one (ps_ret pe_str)) pss_nil)
    (pss_cons (ps_if (pt_cmpR op_in_seq (pv 1) (pe_tup (pa_cons pe_str (pa_cons pe_str pa_nil))) (by rfl))
      (pss_one (ps_ret (pe_joined (PJ.cons (pe_fmt (pv 1)) (PJ.cons pe_str (PJ.cons (pe_fmt (pe_ix ix_tup (pv 0) pe_int (fun _ _ => rfl))) (PJ.cons pe_str (PJ.cons (pe_fmt (pe_ix ix_tup (pv 0) pe_int (fun _ _ => rfl))) PJ.nil)))))))) pss_nil)
    (pss_cons (ps_if (pt_cmpR op_in_seq (pv 1) (pe_tup (pa_cons pe_str (pa_cons pe_str pa_nil))) (by rfl))
      (pss_one (ps_ret (pe_op op_add_str (pe_op op_add_str (pv 1) pe_str) (pe_ix ix_tup (pv 0) pe_int (fun _ _ => rfl))))) pss_nil)
    (pss_cons (ps_if (pt_cmpR op_eq (pv 1) pe_str (nomark _))
      (pss_one (ps_ret (pe_op op_add_str pe_str (pe_df DB hr (pa_cons (pe_ix ix_tup (pv 0) pe_int (fun _ _ => rfl)) (pa_cons (pe_tup (pa_cons pe_str (pa_cons pe_str pa_nil))) pa_nil)))))) pss_nil)
    (pss_cons (ps_if (pt_cmpR op_eq (pv 1) pe_str (nomark _))
      (pss_one (ps_ret (pe_op op_add_str (pe_op op_add_str (pe_df DB hr (pa_cons (pe_ix ix_tup (pv 0) pe_int (fun _ _ => rfl)) (pa_cons (pe_tup (pa_cons pe_str pa_nil)) pa_nil))) pe_str)
        (pe_df DB hr (pa_cons (pe_ix ix_tup (pv 0) pe_int (fun _ _ => rfl)) (pa_cons (pe_tup (pa_cons pe_str (pa_cons pe_str pa_nil))) pa_nil)))))) pss_nil)
    (pss_one (ps_ret (pe_op op_add_str (pe_op op_add_str (pe_df DW hr1 (pa_cons (pe_ix ix_tup (pv 0) pe_int (fun _ _ => rfl)) pa_nil)) pe_str)
        (pe_df DB hr (pa_cons (pe_ix ix_tup (pv 0) pe_int (fun _ _ => rfl)) (pa_cons (pe_tup (pa_cons pe_str pa_nil)) pa_nil))))))))))), ?_⟩
  refine ⟨_, rfl, a, xs, 0, _, rfl, rfl, hx, atI_nat (j := 0) h0, ?_⟩
  refine ⟨_, rfl, rfl, _, rfl, ?_⟩
  rw [eqS s_all]
  refine iteB (fun c1 => ?_) (fun c1 => ?_)
  · have e := head_all (of_decide_eq_true c1)
    subst e
    show Q (.str "all") H
    rw [s_all]
    exact q H (Same.refl _)
  have n1 := of_decide_eq_false c1
  refine ⟨_, rfl, len2, fun t ht => ?_⟩
  have st := same_new ht (HO.tup [.str "weight", .str "amount"])
  refine ⟨t, _, rfl, .inr (SqT.of upd_same), rfl, by rw [kwC_eq]; exact flatS _, _, rfl, ?_⟩
  rw [if_neg Bool.false_ne_true, kwC_eq, inS, ← kwC_eq]
  refine iteB (fun c1 => ?_) (fun c1 => ?_)
  · obtain ⟨am, o, n, rfl⟩ := head_cmp (by simpa using c1)
    have hx' := cd_cmp (hc.sm st)
    have lk : (kwC am).length = 6 := by cases am <;> decide
    have lo := (szT_ops hok.1).2.2
    have ln := (numT_len hok.2).2
    have lsp : ([32] : Tx).length = 1 := rfl
    refine ⟨_, rfl, .inl ⟨_, rfl, lookS (by rw [S_len]; show (kwC am).length ≤ _; omega), _, rfl, ?_, ?_⟩⟩
    · rw [e_empty, S_app, S_len]; exact lookS (by show (kwC am).length ≤ _; omega)
    refine ⟨_, rfl, ?_, ?_⟩
    · rw [e_empty, S_app, s_space, S_app, S_len]; exact lookS (by show (kwC am ++ [32]).length ≤ _; rw [List.length_append]; omega)
    refine ⟨_, rfl, a, _, 1, _, rfl, rfl, hx', atI_nat (j := 1) rfl, .inl ⟨_, rfl, lookS (by rw [S_len]; omega), _, rfl, ?_, ?_⟩⟩
    · rw [e_empty, S_app, s_space, S_app, S_app, S_len]; exact lookS (by show (kwC am ++ [32] ++ o).length ≤ _; rw [List.length_append, List.length_append]; omega)
    refine ⟨_, rfl, ?_, ?_⟩
    · rw [e_empty, S_app, s_space, S_app, S_app, S_app, S_len]; exact lookS (by show (kwC am ++ [32] ++ o ++ [32]).length ≤ _; rw [List.length_append, List.length_append, List.length_append]; omega)
    refine ⟨_, rfl, a, _, 2, _, rfl, rfl, hx', atI_nat (j := 2) rfl, .inr ⟨n, rfl, log2_lt hok.2, _, rfl, ?_, ?_⟩⟩
    · rw [e_empty, S_app, s_space, S_app, S_app, S_app, num_S, S_app, S_len]; exact lookS (by show (kwC am ++ [32] ++ o ++ [32] ++ numT n).length ≤ _; rw [List.length_append, List.length_append, List.length_append, List.length_append]; omega)
    show Q (.str _) _
    rw [e_empty, S_app, s_space, S_app, S_app, S_app, num_S, S_app]
    have e : (Cnd.cmp am o n).write = [] ++ kwC am ++ [32] ++ o ++ [32] ++ numT n := by
      show kwC am ++ 32 :: (o ++ 32 :: numT n) = _
      simp
    have qq := q _ st
    rw [e] at qq
    exact qq
  have n2 : ¬ (headW c = wWeight ∨ headW c = wAmount) := by simpa using c1
  refine ⟨_, rfl, len2, fun t2 ht2 => ?_⟩
  have st2 := Same.trans st (same_new ht2 (HO.tup [.str "group", .str "key"]))
  refine ⟨t2, _, rfl, .inr (SqT.of upd_same), rfl, by rw [kwN_eq]; exact flatS _, _, rfl, ?_⟩
  rw [if_neg Bool.false_ne_true, kwN_eq, inS, ← kwN_eq]
  refine iteB (fun c1 => ?_) (fun c1 => ?_)
  · obtain ⟨k, x, rfl⟩ := head_nam (by simpa using c1)
    have hx' := cd_nam (hc.sm st2)
    have lk : (kwN k).length ≤ 5 := by cases k <;> decide
    have lx := (name_iff.mp (show isName x = true from hok)).2.1
    refine ⟨_, rfl, _, _, rfl, rfl, ?_, _, rfl, a, _, 1, _, rfl, rfl, hx', atI_nat (j := 1) rfl, _, _, rfl, rfl, ?_, ?_⟩
    · rw [s_space, S_len, S_len]; exact lookS (by show (kwN k).length + _ ≤ _; simp; omega)
    · rw [s_space, S_app, S_len, S_len]; exact lookS (by show (kwN k ++ [32]).length + _ ≤ _; simp; omega)
    · rw [s_space, S_app, S_app]
      have e : (Cnd.nam k x).write = kwN k ++ [32] ++ x := by
        show kwN k ++ 32 :: x = _
        simp
      have qq := q _ st2
      rw [e] at qq
      exact qq
  have n3 : ¬ (headW c = wGroup ∨ headW c = wKey) := by simpa using c1
  refine ⟨_, rfl, rfl, _, rfl, ?_⟩
  rw [eqS s_not]
  refine iteB (fun c1 => ?_) (fun c1 => ?_)
  · obtain ⟨d', rfl⟩ := head_not (of_decide_eq_true c1)
    obtain ⟨b, hx', hb⟩ := cd_not (hc.sm st2)
    have ll := write_not_len d'
    have lg := brT_ge d'.isBin d'.write
    have hd' : d'.depth + 1 ≤ d + 1 := hd
    refine ⟨_, rfl, a, _, 1, _, rfl, rfl, hx', atI_nat (j := 1) rfl, len2, fun t3 ht3 => ?_⟩
    have st3 := same_new ht3 (HO.tup [.str "and", .str "or"])
    refine ⟨b, t3, d', [wAnd, wOr], rfl, hb.sm st3, hok, by omega, by omega, by rw [← ao_eq]; exact SqT.of upd_same, fun H' s' => ?_⟩
    refine ⟨_, _, rfl, rfl, ?_, ?_⟩
    · rw [head_bin, s_not_, S_len, S_len]
      have : (wNot ++ [32]).length = 4 := by decide
      exact lookS (by omega)
    · rw [head_bin, s_not_, S_app]
      have e : (Cnd.not d').write = wNot ++ [32] ++ Cnd.brT d'.isBin d'.write := by
        show wNot ++ 32 :: Cnd.brT d'.isBin d'.write = _
        simp
      have qq := q _ (Same.trans (Same.trans st2 st3) s')
      rw [e] at qq
      exact qq
  have n4 := of_decide_eq_false c1
  refine ⟨_, rfl, rfl, _, rfl, ?_⟩
  rw [eqS s_and]
  refine iteB (fun c1 => ?_) (fun c1 => ?_)
  · obtain ⟨x, y, rfl⟩ := head_and (of_decide_eq_true c1)
    obtain ⟨b, b', hx', hb, hb'⟩ := cd_and (hc.sm st2)
    have e : (Cnd.and x y).write = Cnd.brT x.isOr x.write ++ (32 :: (wAnd ++ [32])) ++ Cnd.brT y.isBin y.write := by
      show Cnd.brT x.isOr x.write ++ 32 :: (wAnd ++ 32 :: Cnd.brT y.isBin y.write) = _
      simp
    have ll : (Cnd.and x y).write.length = (Cnd.brT x.isOr x.write).length + 5 + (Cnd.brT y.isBin y.write).length := by
      rw [e, List.length_append, List.length_append]
      have : (32 :: (wAnd ++ [32])).length = 5 := by decide
      omega
    have lg := brT_ge x.isOr x.write
    have lg' := brT_ge y.isBin y.write
    have hd' : max x.depth y.depth + 1 ≤ d + 1 := hd
    have l5 : (32 :: (wAnd ++ [32])).length = 5 := by decide
    refine ⟨_, rfl, a, _, 1, _, rfl, rfl, hx', atI_nat (j := 1) rfl, len1, fun t3 ht3 => ?_⟩
    have st3 := same_new ht3 (HO.tup [.str "or"])
    refine ⟨b, t3, x, [wOr], rfl, hb.sm st3, hok.1, by omega, by omega, by rw [← o_eq]; exact SqT.of upd_same, fun H4 s4 => ?_⟩
    refine ⟨_, _, rfl, rfl, ?_, ?_⟩
    · rw [head_isOr, s__and_, S_len, S_len]
      exact lookS (by omega)
    refine ⟨_, rfl, a, _, 2, _, rfl, rfl, Same.tup s4 (Same.tup st3 hx'), atI_nat (j := 2) rfl, len2, fun t5 ht5 => ?_⟩
    have st5 := same_new ht5 (HO.tup [.str "and", .str "or"])
    refine ⟨b', t5, y, [wAnd, wOr], rfl, ((hb'.sm st3).sm s4).sm st5, hok.2, by omega, by omega, by rw [← ao_eq]; exact SqT.of upd_same, fun H6 s6 => ?_⟩
    refine ⟨_, _, rfl, rfl, ?_, ?_⟩
    · rw [head_isOr, head_bin, s__and_, S_app, S_len, S_len, List.length_append]
      exact lookS (by omega)
    · rw [head_isOr, head_bin, s__and_, S_app, S_app]
      have qq := q _ (Same.trans (Same.trans (Same.trans (Same.trans st2 st3) s4) st5) s6)
      rw [e] at qq
      exact qq
  have n5 := of_decide_eq_false c1
  obtain ⟨x, y, rfl⟩ := head_or n1 n2 n3 n4 n5
  obtain ⟨b, b', hx', hb, hb'⟩ := cd_or (hc.sm st2)
  have e : (Cnd.or x y).write = x.write ++ (32 :: (wOr ++ [32])) ++ Cnd.brT y.isOr y.write := by
    show x.write ++ 32 :: (wOr ++ 32 :: Cnd.brT y.isOr y.write) = _
    simp
  have l5 : (32 :: (wOr ++ [32])).length = 4 := by decide
  have ll : (Cnd.or x y).write.length = x.write.length + 4 + (Cnd.brT y.isOr y.write).length := by
    rw [e, List.length_append, List.length_append]
    omega
  have lg' := brT_ge y.isOr y.write
  have hd' : max x.depth y.depth + 1 ≤ d + 1 := hd
  refine ⟨_, rfl, a, _, 1, _, rfl, rfl, hx', atI_nat (j := 1) rfl, b, x, rfl, hb, hok.1, by omega, by omega, fun H4 s4 => ?_⟩
  refine ⟨_, _, rfl, rfl, ?_, ?_⟩
  · rw [s__or_, S_len, S_len]
    exact lookS (by omega)
  refine ⟨_, rfl, a, _, 2, _, rfl, rfl, Same.tup s4 hx', atI_nat (j := 2) rfl, len1, fun t5 ht5 => ?_⟩
  have st5 := same_new ht5 (HO.tup [.str "or"])
  refine ⟨b', t5, y, [wOr], rfl, (hb'.sm s4).sm st5, hok.2, by omega, by omega, by rw [← o_eq]; exact SqT.of upd_same, fun H6 s6 => ?_⟩
  refine ⟨_, _, rfl, rfl, ?_, ?_⟩
  · rw [head_isOr, s__or_, S_app, S_len, S_len, List.length_append]
    exact lookS (by omega)
  · rw [head_isOr, s__or_, S_app, S_app]
    have qq := q _ (Same.trans (Same.trans (Same.trans st2 s4) st5) s6)
    rw [e] at qq
    exact qq
theorem depth_pos (c : Cnd) : 1 ≤ c.depth := by cases c <;> simp [Cnd.depth]
theorem all_write (SW : Sd K mg "write_condition" "write_condition" sWrite ["condition"]) (SB : Sd K mg "bracketed" "bracketed" sBr ["condition", "words"]) : ∀ d : Nat, Df P w K mg base CX0 (2 * d) "write_condition" ["condition"] (spWrite K d)
  | 0 => SW.df fun _ _ _ => by
    have no : ∀ vs H Q E, ¬ spWrite K 0 vs H Q E := fun vs H Q E h => by
      obtain ⟨a, c, _, _, _, hd, _⟩ := h
      have := depth_pos c
      omega
    exact ⟨fun vs H Q E h => absurd h (no vs H Q E), fun A outer s H args us vs Q E _ _ _ _ h => absurd h (no vs H Q E)⟩
  | d + 1 => by
    have ih := all_write SW SB d
    have hb : Df P w K mg base CX0 (2 * d + 1) "bracketed" ["condition", "words"] (spBr K d) := SB.df fun _ _ F => ok_br d (2 * d) F ih
    exact SW.df fun _ _ F => ok_write d (2 * d) F ih hb
end
end K05
set_option Elab.async false
set_option linter.all false
set_option maxRecDepth 100000
set_option maxHeartbeats 4000000
namespace K05
open PySem PySem.Spec PyProof.Rows L2
section
variable {P : Program} {w : World} {K : PySem.W.Frag} {mg : Str → Option Value} {base : Heap}
/-! ### compares -/
abbrev sCompares : Stmt := top 30
theorem scCompares : FnScope ["number", "order", "other"] ["number", "order", "other"] (defScope sCompares) := ⟨rfl, rfl, rfl, by decide +kernel, rfl, by decide +kernel, by decide +kernel⟩
def spCompares : Sp := fun vs H Q _ => ∃ (x y : Int) (o : Str), vs = [.int x, .str o, .int y] ∧ ∀ b, Q (.bl b) H
theorem ok_compares {f : Addr} {fd : FuncData} (F : Fun K "compares" "compares" sCompares f fd) : FnOk P w K mg base CX0 1 f fd ["number", "order", "other"] spCompares := by
  refine F.ok scCompares (fun vs H Q E h => ?_) (fun cdv A outer s H vs Q E hr h => ?_)
  · obtain ⟨x, y, o, rfl, _⟩ := h
    rfl
  obtain ⟨x, y, o, rfl, q⟩ := h
  refine ⟨_, pss_cons (ps_if (pt_cmpR op_eq (pv 1) pe_str (nomark _)) (pss_one (ps_ret (pe_cmpR op_lt (pv 0) (pv 2) (nomark _)))) pss_nil)
    (pss_cons (ps_if (pt_cmpR op_eq (pv 1) pe_str (nomark _)) (pss_one (ps_ret (pe_cmpR op_le (pv 0) (pv 2) (nomark _)))) pss_nil)
    (pss_cons (ps_if (pt_cmpR op_eq (pv 1) pe_str (nomark _)) (pss_one (ps_ret (pe_cmpR op_eq (pv 0) (pv 2) (nomark _)))) pss_nil)
    (pss_cons (ps_if (pt_cmpR op_eq (pv 1) pe_str (nomark _)) (pss_one (ps_ret (pe_cmpR op_ge (pv 0) (pv 2) (nomark _)))) pss_nil)
    (pss_one (ps_ret (pe_cmpR op_gt (pv 0) (pv 2) (nomark _))))))), ?_⟩
  refine ⟨_, rfl, rfl, _, rfl, iteB (fun _ => ?_) (fun _ => ?_)⟩
  · exact ⟨_, rfl, _, rfl, _, _, rfl, rfl, q _⟩
  refine ⟨_, rfl, rfl, _, rfl, iteB (fun _ => ?_) (fun _ => ?_)⟩
  · exact ⟨_, rfl, _, rfl, _, _, rfl, rfl, q _⟩
  refine ⟨_, rfl, rfl, _, rfl, iteB (fun _ => ?_) (fun _ => ?_)⟩
  · exact ⟨_, rfl, _, rfl, rfl, q _⟩
  refine ⟨_, rfl, rfl, _, rfl, iteB (fun _ => ?_) (fun _ => ?_)⟩
  · exact ⟨_, rfl, _, rfl, _, _, rfl, rfl, q _⟩
  · exact ⟨_, rfl, _, rfl, _, _, rfl, rfl, q _⟩
/-! ### held -/
abbrev sHeld : Stmt := top 31
theorem scHeld : FnScope ["condition", "item", "word"] ["condition", "item"] (defScope sHeld) := ⟨rfl, rfl, rfl, by decide +kernel, rfl, by decide +kernel, by decide +kernel⟩
def spHeld (K : PySem.W.Frag) (d : Nat) : Sp := fun vs H Q _ => ∃ (a it : Addr) (c : Cnd) (k g : Str) (x y : Int), vs = [.ref a, .ref it] ∧ Dp K H (.ref a) (cd c) ∧ c.depth ≤ d ∧ SqT K H it [.str k, .str g, .int x, .int y] ∧ ∀ b, Q (.bl b) H
theorem s_key : ("key" : Str) = S wKey := by decide +kernel
theorem s_group : ("group" : Str) = S wGroup := by decide +kernel
theorem s_weight : ("weight" : Str) = S wWeight := by decide +kernel
theorem s_amount : ("amount" : Str) = S wAmount := by decide +kernel
theorem ok_held {f : Addr} {fd : FuncData} (d : Nat) (F : Fun K "held" "held" sHeld f fd) (DH : Df P w K mg base CX0 (d + 1) "held" ["condition", "item"] (spHeld K d)) (DC : Df P w K mg base CX0 1 "compares" ["number", "order", "other"] spCompares) : FnOk P w K mg base CX0 (d + 2) f fd ["condition", "item"] (spHeld K (d + 1)) := by
  refine F.ok scHeld (fun vs H Q E h => ?_) (fun cdv A outer s H vs Q E hr h => ?_)
  · obtain ⟨a, it, c, k, g, x, y, rfl, _⟩ := h
    rfl
  obtain ⟨a, it, c, k, g, x, y, rfl, hc, hd, hi, q⟩ := h
  have hr1 : Room 1 _ := hr.mono (by omega)
  obtain ⟨xs, hx, h0⟩ := cd_head hc
  refine ⟨_, pss_cons (ps_set (i := 2) scHeld.nd rfl (Or.inl rfl) (pe_ix ix_tup (pv 0) pe_int (fun _ _ => rfl)))
    (pss_cons (ps_if (pt_cmpR op_eq (pv 2) pe_str (nomark _)) (pss_one (ps_ret pe_bl)) pss_nil)
    (pss_cons (ps_if (pt_cmpR op_eq (pv 2) pe_str (nomark _)) (pss_one (ps_ret (pe_cmpR op_eq (pe_ix ix_tup (pv 1) pe_int (fun _ _ => rfl)) (pe_ix ix_tup (pv 0) pe_int (fun _ _ => rfl)) (nomark _)))) pss_nil)
    (pss_cons (ps_if (pt_cmpR op_eq (pv 2) pe_str (nomark _)) (pss_one (ps_ret (pe_cmpR op_eq (pe_ix ix_tup (pv 1) pe_int (fun _ _ => rfl)) (pe_ix ix_tup (pv 0) pe_int (fun _ _ => rfl)) (nomark _)))) pss_nil)
    (pss_cons (ps_if (pt_cmpR op_eq (pv 2) pe_str (nomark _)) (pss_one (ps_ret (pe_df DC hr1 (pa_cons (pe_ix ix_tup (pv 1) pe_int (fun _ _ => rfl)) (pa_cons (pe_ix ix_tup (pv 0) pe_int (fun _ _ => rfl)) (pa_cons (pe_ix ix_tup (pv 0) pe_int (fun _ _ => rfl)) pa_nil)))))) pss_nil)
    (pss_cons (ps_if (pt_cmpR op_eq (pv 2) pe_str (nomark _)) (pss_one (ps_ret (pe_df DC hr1 (pa_cons (pe_ix ix_tup (pv 1) pe_int (fun _ _ => rfl)) (pa_cons (pe_ix ix_tup (pv 0) pe_int (fun _ _ => rfl)) (pa_cons (pe_ix ix_tup (pv 0) pe_int (fun _ _ => rfl)) pa_nil)))))) pss_nil)
    (pss_cons (ps_if (pt_cmpR op_eq (pv 2) pe_str (nomark _)) (pss_one (ps_ret (pe_not (pe_df DH hr (pa_cons (pe_ix ix_tup (pv 0) pe_int (fun _ _ => rfl)) (pa_cons (pv 1) pa_nil)))))) pss_nil)
    (pss_cons (ps_if (pt_cmpR op_eq (pv 2) pe_str (nomark _)) (pss_one (ps_ret (pe_and (pe_df DH hr (pa_cons (pe_ix ix_tup (pv 0) pe_int (fun _ _ => rfl)) (pa_cons (pv 1) pa_nil))) (pe_one (pe_df DH hr (pa_cons (pe_ix ix_tup (pv 0) pe_int (fun _ _ => rfl)) (pa_cons (pv 1) pa_nil))))))) pss_nil)
    (pss_one (ps_ret (pe_or (pe_df DH hr (pa_cons (pe_ix ix_tup (pv 0) pe_int (fun _ _ => rfl)) (pa_cons (pv 1) pa_nil))) (pe_one (pe_df DH hr (pa_cons (pe_ix ix_tup (pv 0) pe_int (fun _ _ => rfl)) (pa_cons (pv 1) pa_nil)))))))))))))), ?_⟩
  refine ⟨_, rfl, a, xs, 0, _, rfl, rfl, hx, atI_nat (j := 0) h0, ?_⟩
  refine ⟨_, rfl, rfl, _, rfl, iteB (fun c1 => ?_) (fun c1 => ?_)⟩
  · exact q true
  rw [eqS s_all] at c1
  have n1 := of_decide_eq_false c1
  refine ⟨_, rfl, rfl, _, rfl, iteB (fun c1 => ?_) (fun c1 => ?_)⟩
  · rw [eqS s_key] at c1
    obtain ⟨k', x', rfl⟩ := head_nam (.inr (of_decide_eq_true c1))
    have hx' := cd_nam hc
    exact ⟨_, rfl, it, _, 0, _, rfl, rfl, hi, atI_nat (j := 0) rfl, _, rfl, a, _, 1, _, rfl, rfl, hx', atI_nat (j := 1) rfl, rfl, q _⟩
  rw [eqS s_key] at c1
  have n2 := of_decide_eq_false c1
  refine ⟨_, rfl, rfl, _, rfl, iteB (fun c1 => ?_) (fun c1 => ?_)⟩
  · rw [eqS s_group] at c1
    obtain ⟨k', x', rfl⟩ := head_nam (.inl (of_decide_eq_true c1))
    have hx' := cd_nam hc
    exact ⟨_, rfl, it, _, 1, _, rfl, rfl, hi, atI_nat (j := 1) rfl, _, rfl, a, _, 1, _, rfl, rfl, hx', atI_nat (j := 1) rfl, rfl, q _⟩
  rw [eqS s_group] at c1
  have n3 := of_decide_eq_false c1
  refine ⟨_, rfl, rfl, _, rfl, iteB (fun c1 => ?_) (fun c1 => ?_)⟩
  · rw [eqS s_weight] at c1
    obtain ⟨am, o, n, rfl⟩ := head_cmp (.inl (of_decide_eq_true c1))
    have hx' := cd_cmp hc
    exact ⟨_, rfl, it, _, 2, _, rfl, rfl, hi, atI_nat (j := 2) rfl, _, rfl, a, _, 1, _, rfl, rfl, hx', atI_nat (j := 1) rfl, _, rfl, a, _, 2, _, rfl, rfl, hx', atI_nat (j := 2) rfl, _, _, _, rfl, q⟩
  rw [eqS s_weight] at c1
  have n4 := of_decide_eq_false c1
  refine ⟨_, rfl, rfl, _, rfl, iteB (fun c1 => ?_) (fun c1 => ?_)⟩
  · rw [eqS s_amount] at c1
    obtain ⟨am, o, n, rfl⟩ := head_cmp (.inr (of_decide_eq_true c1))
    have hx' := cd_cmp hc
    exact ⟨_, rfl, it, _, 3, _, rfl, rfl, hi, atI_nat (j := 3) rfl, _, rfl, a, _, 1, _, rfl, rfl, hx', atI_nat (j := 1) rfl, _, rfl, a, _, 2, _, rfl, rfl, hx', atI_nat (j := 2) rfl, _, _, _, rfl, q⟩
  rw [eqS s_amount] at c1
  have n5 := of_decide_eq_false c1
  refine ⟨_, rfl, rfl, _, rfl, iteB (fun c1 => ?_) (fun c1 => ?_)⟩
  · rw [eqS s_not] at c1
    obtain ⟨c', rfl⟩ := head_not (of_decide_eq_true c1)
    obtain ⟨b, hx', hb⟩ := cd_not hc
    have hd' : c'.depth + 1 ≤ d + 1 := hd
    exact ⟨_, rfl, a, _, 1, _, rfl, rfl, hx', atI_nat (j := 1) rfl, _, rfl, b, it, c', k, g, x, y, rfl, hb, by omega, hi, fun bb => ⟨bb, rfl, q _⟩⟩
  rw [eqS s_not] at c1
  have n6 := of_decide_eq_false c1
  refine ⟨_, rfl, rfl, _, rfl, iteB (fun c1 => ?_) (fun c1 => ?_)⟩
  · rw [eqS s_and] at c1
    obtain ⟨c', e', rfl⟩ := head_and (of_decide_eq_true c1)
    obtain ⟨b, b', hx', hb, hb'⟩ := cd_and hc
    have hd' : max c'.depth e'.depth + 1 ≤ d + 1 := hd
    refine ⟨_, rfl, a, _, 1, _, rfl, rfl, hx', atI_nat (j := 1) rfl, _, rfl, b, it, c', k, g, x, y, rfl, hb, by omega, hi, fun bb => ⟨bb, rfl, iteB (fun _ => ?_) (fun _ => q _)⟩⟩
    exact ⟨_, rfl, a, _, 2, _, rfl, rfl, hx', atI_nat (j := 2) rfl, _, rfl, b', it, e', k, g, x, y, rfl, hb', by omega, hi, q⟩
  rw [eqS s_and] at c1
  have n7 := of_decide_eq_false c1
  obtain ⟨c', e', rfl⟩ := head_or n1 (fun z => z.elim n4 n5) (fun z => z.elim n3 n2) n6 n7
  obtain ⟨b, b', hx', hb, hb'⟩ := cd_or hc
  have hd' : max c'.depth e'.depth + 1 ≤ d + 1 := hd
  refine ⟨_, rfl, a, _, 1, _, rfl, rfl, hx', atI_nat (j := 1) rfl, _, rfl, b, it, c', k, g, x, y, rfl, hb, by omega, hi, fun bb => ⟨bb, rfl, iteB (fun _ => q _) (fun _ => ?_)⟩⟩
  exact ⟨_, rfl, a, _, 2, _, rfl, rfl, hx', atI_nat (j := 2) rfl, _, rfl, b', it, e', k, g, x, y, rfl, hb', by omega, hi, q⟩
theorem all_held (SH : Sd K mg "held" "held" sHeld ["condition", "item"]) (DC : Df P w K mg base CX0 1 "compares" ["number", "order", "other"] spCompares) : ∀ d : Nat, Df P w K mg base CX0 (d + 1) "held" ["condition", "item"] (spHeld K d)
  | 0 => SH.df fun _ _ _ => by
    have no : ∀ vs H Q E, ¬ spHeld K 0 vs H Q E := fun vs H Q E h => by
      obtain ⟨a, it, c, _, _, _, _, _, _, hd, _⟩ := h
      have := depth_pos c
      omega
    exact ⟨fun vs H Q E h => absurd h (no vs H Q E), fun A outer s H args us vs Q E _ _ _ _ h => absurd h (no vs H Q E)⟩
  | d + 1 => SH.df fun _ _ F => ok_held d F (all_held SH DC d) DC
/-! ### fault_of, check_items -/
/-- an item as data -/
def rd (r : Row) : PyData := .tuple [.str (S r.key), .str (S r.grp), .int r.wt, .int r.am]
theorem rd_at {H : Hp} {a : Addr} {r : Row} (h : Dp K H (.ref a) (rd r)) : SqT K H a [.str (S r.key), .str (S r.grp), .int r.wt, .int r.am] := by
  obtain ⟨xs, h1, h2⟩ := Dp.ref_inv (show Dp K H (.ref a) (.tuple [.str (S r.key), .str (S r.grp), .int r.wt, .int r.am]) from h)
  cases h2 with
  | cons e1 h2 =>
    obtain ⟨v, u, w, rfl, e2, e3, e4⟩ := h2.three
    rw [e1.str_inv, e2.str_inv, e3.int_inv, e4.int_inv] at h1
    exact h1
theorem rd_ref {H : Hp} {v : V} {r : Row} (h : Dp K H v (rd r)) : ∃ a, v = .ref a := by
  obtain ⟨a, _, rfl, _⟩ := Dp.tup_inv (ds := [.str (S r.key), .str (S r.grp), .int r.wt, .int r.am]) h
  exact ⟨a, rfl⟩
abbrev sFault : Stmt := top 10
abbrev nFault : List Str := ["row", "key", "group", "weight", "amount"]
theorem scFault : FnScope nFault ["row"] (defScope sFault) := ⟨rfl, rfl, rfl, by decide +kernel, rfl, by decide +kernel, by decide +kernel⟩
def spFault (K : PySem.W.Frag) : Sp := fun vs H Q _ => ∃ (a : Addr) (r : Row), vs = [.ref a] ∧ Dp K H (.ref a) (rd r) ∧ r.Ok ∧ ∀ H', Same H H' → Q .non H'
theorem Row.Ok.kl {r : Row} (h : r.Ok) : r.key.length ≤ 1000000 ∧ r.grp.length ≤ 1000000 := by
  have a := (name_iff.mp h.key).2.1
  have b := (name_iff.mp h.grp).2.1
  omega
theorem ok_fault {f : Addr} {fd : FuncData} (T : Tx0 K mg) (F : Fun K "fault_of" "fault_of" sFault f fd) (DN : Df P w K mg base CX0 1 "is_name" ["text"] spIsName) : FnOk P w K mg base CX0 2 f fd ["row"] (spFault K) := by
  refine F.ok scFault (fun vs H Q E h => ?_) (fun cdv A outer s H vs Q E hr h => ?_)
  · obtain ⟨a, r, rfl, _⟩ := h
    rfl
  obtain ⟨a, r, rfl, hd, ok, q⟩ := h
  obtain ⟨t1, hw⟩ := T.mostW
  obtain ⟨t2, ha⟩ := T.mostA
  have hx := rd_at hd
  have kl := ok.kl
  refine ⟨_, pss_cons (ps_asg (pv 0) (pg_tup rfl (pgs_cons (pg_name (i := 1) scFault.nd rfl (Or.inl rfl)) (pgs_cons (pg_name (i := 2) scFault.nd rfl (Or.inl rfl)) (pgs_cons (pg_name (i := 3) scFault.nd rfl (Or.inl rfl)) (pgs_cons (pg_name (i := 4) scFault.nd rfl (Or.inl rfl)) pgs_nil))))))
    (pss_cons (ps_if (pt_not (pt_val (pe_df DN hr (pa_cons (pv 1) pa_nil)))) pss_never pss_nil)
    (pss_cons (ps_if (pt_not (pt_val (pe_df DN hr (pa_cons (pv 2) pa_nil)))) pss_never pss_nil)
    (pss_cons (ps_if (pt_not (pt_chain op_le op_le pe_int (pv 3) (pe_glob (v := .int 1000) rfl hw ⟨_, rfl⟩))) pss_never pss_nil)
    (pss_cons (ps_if (pt_not (pt_chain op_le op_le (pe_un un_neg (pe_glob (v := .int 1000) rfl ha ⟨_, rfl⟩)) (pv 4) (pe_glob (v := .int 1000) rfl ha ⟨_, rfl⟩))) pss_never pss_nil)
    (pss_one (ps_ret pe_non)))))), ?_⟩
  refine ⟨_, rfl, a, _, rfl, hx, rfl, _, _, rfl, _, _, rfl, _, _, rfl, _, _, rfl, rfl, ?_⟩
  refine ⟨_, rfl, _, rfl, kl.1, fun H1 s1 => ⟨_, rfl, ?_⟩⟩
  rw [ok.key]
  refine iteF ?_
  refine ⟨_, rfl, _, rfl, kl.2, fun H2 s2 => ⟨_, rfl, ?_⟩⟩
  rw [ok.grp]
  refine iteF ?_
  refine ⟨_, rfl, _, _, rfl, rfl, _, rfl, ?_⟩
  rw [decide_eq_true ok.w1]
  refine iteT ⟨_, _, rfl, rfl, _, rfl, ?_⟩
  rw [decide_eq_true ok.w2]
  refine iteF ?_
  refine ⟨_, rfl, _, rfl, _, _, rfl, rfl, _, rfl, ?_⟩
  rw [decide_eq_true ok.a1]
  refine iteT ⟨_, _, rfl, rfl, _, rfl, ?_⟩
  rw [decide_eq_true ok.a2]
  refine iteF ?_
  exact q H2 (Same.trans s1 s2)
/-- a list of items stands at a -/
def RowsAt (K : PySem.W.Frag) (H : Hp) (a : Addr) (rows : List Row) : Prop := ∃ rs : List Addr, SqL K H a (rs.map V.ref) ∧ rs.length = rows.length ∧ ∀ (i : Nat) (b : Addr) (r : Row), rs[i]? = some b → rows[i]? = some r → Dp K H (.ref b) (rd r)
theorem RowsAt.same {H H' : Hp} {a : Addr} {rows : List Row} (h : RowsAt K H a rows) (s : Same H H') : RowsAt K H' a rows := by
  obtain ⟨rs, h1, h2, h3⟩ := h
  exact ⟨rs, s.seq h1, h2, fun i b r e1 e2 => (h3 i b r e1 e2).sm s⟩
theorem RowsAt.dp {H : Hp} {a : Addr} {rows : List Row} (h : RowsAt K H a rows) : Dp K H (.ref a) (.list (rows.map rd)) := by
  obtain ⟨rs, h1, h2, h3⟩ := h
  refine .lst h1 ?_
  clear h1
  induction rs generalizing rows with
  | nil =>
    have : rows = [] := List.eq_nil_of_length_eq_zero (by rw [← h2]; rfl)
    subst this
    exact .nil
  | cons b rs ih =>
    cases rows with
    | nil => cases h2
    | cons r rows =>
      refine .cons (h3 0 b r rfl rfl) (ih (by simpa using h2) fun i b' r' e1 e2 => h3 (i + 1) b' r' (by simpa using e1) (by simpa using e2))
abbrev sCheck : Stmt := top 11
abbrev nCheck : List Str := ["rows", "known", "place", "row", "reason"]
theorem scCheck : FnScope nCheck ["rows"] (defScope sCheck) := ⟨rfl, rfl, rfl, by decide +kernel, rfl, by decide +kernel, by decide +kernel⟩
def spCheck (K : PySem.W.Frag) : Sp := fun vs H Q _ => ∃ (a : Addr) (rows : List Row), vs = [.ref a] ∧ RowsAt K H a rows ∧ (∀ r ∈ rows, r.Ok) ∧ (rows.map Row.key).Nodup ∧ rows.length ≤ 1000000 ∧ ∀ H', Same H H' → Q .non H'
/-- the dict of the keys that were seen -/
def kd (ks : List Tx) : List (Key × V) := ks.map fun k => (Sum.inr (S k), V.bl true)
theorem kd_val (ks : List Tx) (k : Tx) : (valV (kd ks) (Sum.inr (S k))).isSome = decide (k ∈ ks) := by
  rw [← valV_any]
  unfold kd
  rw [List.any_map]
  induction ks with
  | nil => rfl
  | cons a r ih =>
    rw [List.any_cons, ih]
    by_cases h : k = a
    · subst h; simp
    · have : ¬ (Sum.inr (S a) : Key) = Sum.inr (S k) := fun z => h (S_inj (Sum.inr.inj z)).symm
      by_cases h2 : k ∈ r <;> simp [h, h2, this]
theorem kd_put {ks : List Tx} {k : Tx} (h : k ∉ ks) : putK (kd ks) (Sum.inr (S k)) (V.bl true) = kd (ks ++ [k]) := by
  have e : valV (kd ks) (Sum.inr (S k)) = none := by
    have := kd_val ks k
    rw [decide_eq_false h] at this
    cases z : valV (kd ks) (Sum.inr (S k)) with
    | none => rfl
    | some x => rw [z] at this; cases this
  rw [putK_new _ e]
  unfold kd
  rw [List.map_append]; rfl
theorem kd_len (ks : List Tx) : (kd ks).length = ks.length := by unfold kd; rw [List.length_map]
theorem ok_check {f : Addr} {fd : FuncData} (T : Tx0 K mg) (F : Fun K "check_items" "check_items" sCheck f fd) (DF : Df P w K mg base CX0 2 "fault_of" ["row"] (spFault K)) : FnOk P w K mg base CX0 3 f fd ["rows"] (spCheck K) := by
  refine F.ok scCheck (fun vs H Q E h => ?_) (fun cdv A outer s H vs Q E hr h => ?_)
  · obtain ⟨a, rows, rfl, _⟩ := h
    rfl
  obtain ⟨a, rows, rfl, hR, ok, nd, hl, q⟩ := h
  have hu := hu_of hr
  refine ⟨_, pss_cons (ps_set (i := 1) scCheck.nd rfl (Or.inl rfl) pe_dnewK)
    (pss_cons (ps_for PassesOwn.never rfl (pi_enum (by rfl) T.enum (pa_cons (pv 0) pa_nil)) (pg_tup rfl (pgs_cons (pg_name (i := 2) scCheck.nd rfl (Or.inl rfl)) (pgs_cons (pg_name (i := 3) scCheck.nd rfl (Or.inl rfl)) pgs_nil)))
      (pss_cons (ps_set (i := 4) scCheck.nd rfl (Or.inl rfl) (pe_df DF hr (pa_cons (pv 3) pa_nil)))
      (pss_cons (ps_if (PW.pt (pw_and (pt_cmp (pc_isN (pv 4))) (pw_and1 (pt_cmp (pc_din hu (pe_ix ix_tup (pv 3) pe_int (fun _ _ => rfl)) (pv 1)))))) pss_never pss_nil)
      (pss_cons (ps_if (pt_cmp (pc_notN (pv 4))) pss_never pss_nil)
      (pss_one (ps_dput hu (pv 1) (pe_ix ix_tup (pv 3) pe_int (fun _ _ => rfl)) pe_bl rfl))))))
    (pss_one (ps_ret pe_non))), ?_⟩
  intro kn hkn
  have s0 := same_new hkn (HO.dK [])
  obtain ⟨rs, h1, h2, h3⟩ := hR
  refine ⟨_, rfl, a, _, rfl, s0.seq h1, for_it (walk_enum (xs := rs.map V.ref)) (fun i σ H' => ∃ x y z : Option V, σ = [some (.ref a), some (.ref kn), x, y, z] ∧ (∀ b o, b ≠ kn → H b = some o → H' b = some o) ∧ H' kn = some (.dK (kd ((rows.take i).map Row.key))))
    ⟨none, none, none, rfl, fun b o _ e => s0 b o e, upd_same⟩ ?_ ?_ ?_⟩
  · rintro i σ H' _ ⟨_, _, _, _, hb, _⟩
    exact (show Same H H' from fun b o e => hb b o (ne_of_none e hkn) e).seq h1
  · rintro i v σ H1 H2 hi ⟨x, y, z, rfl, hb, hk⟩ ⟨T1, x1, y1, rfl, hT, rfl, ex, ey⟩
    have hi' : i < rows.length := by rw [List.length_map, h2] at hi; exact hi
    obtain ⟨b, hb1, rfl⟩ : ∃ b, rs[i]? = some b ∧ y1 = V.ref b := by
      have ey : (rs.map V.ref)[i]? = some y1 := ey
      rw [List.getElem?_map] at ey
      cases e : rs[i]? with
      | none => rw [e] at ey; cases ey
      | some z => rw [e] at ey; exact ⟨z, rfl, (Option.some.inj ey).symm⟩
    have er : rows[i]? = some rows[i] := List.getElem?_eq_getElem hi'
    have S1 : Same H H1 := fun b o e => hb b o (ne_of_none e hkn) e
    have sT := same_new hT (HO.tup [x1, .ref b])
    have S2 := Same.trans S1 sT
    have hd := (h3 i b _ hb1 er).sm S2
    have okr := ok _ (List.getElem_mem hi')
    have nk : rows[i].key ∉ (rows.take i).map Row.key := by
      intro hm
      obtain ⟨r', hr', ee⟩ := List.mem_map.mp hm
      have e1 : rows = rows.take i ++ rows[i] :: rows.drop (i + 1) := by
        rw [← List.drop_eq_getElem_cons hi', List.take_append_drop]
      rw [e1, List.map_append, List.map_cons] at nd
      have := (List.nodup_append.mp nd).2.2 _ (List.mem_map.mpr ⟨r', hr', rfl⟩) _ (List.mem_cons_self ..)
      exact this ee
    refine ⟨T1, _, rfl, SqT.of upd_same, rfl, _, _, rfl, _, _, rfl, rfl, ?_⟩
    refine ⟨_, rfl, b, rows[i], rfl, hd, okr, fun H3 s3 => ?_⟩
    have hk3 : H3 kn = some (.dK (kd ((rows.take i).map Row.key))) := s3 _ _ (sT _ _ hk)
    have hx3 := rd_at (hd.sm s3)
    have key : ∀ (y : Option V), valV (kd ((rows.take i).map Row.key)) (Sum.inr (S rows[i].key)) = y → y.isSome = false := fun y e => by
      rw [← e, kd_val, decide_eq_false nk]
    refine ⟨_, rfl, _, rfl, iteT ⟨_, rfl, b, _, 0, _, rfl, rfl, hx3, atI_nat (j := 0) rfl, _, rfl, kn, _, rfl, DGet.k (k := Sum.inr (S rows[i].key)) hk3, _, rfl, ?_⟩⟩
    rw [kd_val, decide_eq_false nk]
    refine iteF ?_
    refine ⟨_, rfl, _, rfl, iteF ?_⟩
    refine ⟨_, rfl, _, rfl, b, _, 0, _, rfl, rfl, hx3, atI_nat (j := 0) rfl, kn, _, rfl, DPut.k (k := Sum.inr (S rows[i].key)) hk3 (by rw [kd_len, List.length_map, List.length_take, sizeLine_eq]; omega), ?_⟩
    refine ⟨_, _, _, rfl, fun c o n e => by rw [upd_ne n]; exact s3 c o (S2 c o e), ?_⟩
    rw [upd_same, kd_put nk, take_one er, List.map_append]; rfl
  · rintro σ H' ⟨x, y, z, rfl, hb, _⟩
    exact q H' (fun b o e => hb b o (ne_of_none e hkn) e)
end
end K05
set_option Elab.async false
set_option linter.all false
set_option maxRecDepth 100000
set_option maxHeartbeats 4000000
namespace K05
open PySem PySem.Spec PyProof.Rows L2
/-! ### a text cut at a sign -/
theorem spl_split (s : Nat) : ∀ (l acc : Tx), TL.spl [s] 0 acc l = (match splitC s l with | w :: ws => (acc ++ w) :: ws | [] => [])
  | [], acc => by
    rw [TL.spl_nil]
    show _ = [acc ++ []]
    rw [List.append_nil]
  | c :: r, acc => by
    by_cases h : c = s
    · subst h
      rw [TL.spl_hit (by unfold TL.pre; simp)]
      show acc :: TL.spl [c] 0 [] r = _
      rw [spl_split c r []]
      obtain ⟨w, ws, e⟩ := splitC_cons c r
      rw [splitC, if_pos rfl, e]
      simp
    · rw [TL.spl_miss (by unfold TL.pre; simp [h]), spl_split s r (acc ++ [c])]
      obtain ⟨w, ws, e⟩ := splitC_cons s r
      rw [splitC, if_neg h, e]
      simp
theorem split_S {s : Nat} (hs : s < 256) (l : Tx) : Txt.split (S l) (S [s]) = (splitC s l).map S := by
  refine TL.map_tl_inj ?_
  rw [TL.split_spl (S l) (S [s]) (by rw [S_tl]; simp) (TL.kind_ok (by simp [S, hs])), S_tl, S_tl, spl_split, List.map_map]
  obtain ⟨w, ws, e⟩ := splitC_cons s l
  rw [e]
  have : (TL.tl ∘ S) = id := by funext x; exact S_tl x
  rw [this]; simp
theorem splitC_le (s : Nat) : ∀ (l : Tx), ∀ w ∈ splitC s l, w.length ≤ l.length
  | [], w, h => by
    have : w = [] := by simpa [splitC] using h
    subst this; exact Nat.le_refl _
  | c :: r, w, h => by
    have ih := splitC_le s r
    unfold splitC at h
    split at h
    · rcases List.mem_cons.mp h with rfl | h
      · exact Nat.zero_le _
      · exact Nat.le_succ_of_le (ih w h)
    · obtain ⟨v, vs, e⟩ := splitC_cons s r
      rw [e] at h ih
      rcases List.mem_cons.mp h with rfl | h
      · simp; exact ih v (List.mem_cons_self ..)
      · exact Nat.le_succ_of_le (ih w (List.mem_cons_of_mem _ h))
theorem linesF_le (t : Tx) : ∀ w ∈ linesF t, w.length ≤ t.length := fun w h => by
  unfold linesF at h
  split at h
  · exact splitC_le 10 t w (List.dropLast_subset _ h)
  · exact splitC_le 10 t w h
theorem s_nl : ("\n" : Str) = S [10] := by decide +kernel
section
variable {P : Program} {w : World} {K : PySem.W.Frag} {mg : Str → Option Value} {base : Heap} {C : Addr}
/-! ### lines_of -/
abbrev sLines : Stmt := top 35
theorem scLines : FnScope ["text", "lines"] ["text"] (defScope sLines) := ⟨rfl, rfl, rfl, by decide +kernel, rfl, by decide +kernel, by decide +kernel⟩
def spLines : Sp := fun vs H Q _ => ∃ l : Tx, vs = [.str (S l)] ∧ l.length ≤ 100000 ∧ ∀ a H', Same H H' → H a = none → H' a = some (.lst ((linesF l).map fun x => V.str (S x))) → Q (.ref a) H'
theorem ok_lines {f : Addr} {fd : FuncData} (T : Tx0 K mg) (F : Fun K "lines_of" "lines_of" sLines f fd) : FnOk P w K mg base CX0 1 f fd ["text"] spLines := by
  refine F.ok scLines (fun vs H Q E h => ?_) (fun cdv A outer s H vs Q E hr h => ?_)
  · obtain ⟨l, rfl, _⟩ := h
    rfl
  obtain ⟨l, rfl, hl, q⟩ := h
  obtain ⟨t, hm⟩ := T.mostR
  refine ⟨_, pss_cons (ps_if (pt_cmpR op_gt (pe_callB call_len_str (by rfl) T.len PySem.boot_len (pa_cons (pv 0) pa_nil)) (pe_glob (v := .int 100000) rfl hm ⟨_, rfl⟩) (nomark _)) pss_never pss_nil)
    (pss_cons (ps_set (i := 1) scLines.nd rfl (Or.inl rfl) (pe_split (pv 0) pe_str))
    (pss_cons (ps_if (pt_cmpR op_eq (pe_ix ix_list (pv 1) (pe_un un_neg pe_int) (fun _ _ => rfl)) pe_str (nomark _))
      (pss_one (ps_expr (pe_bm0 PySem.F.plainAttrs_list PySem.F.slot_list_pop PySem.F.type_list_pop mt_pop (pv 1)))) pss_nil)
    (pss_one (ps_ret (pv 1))))), ?_⟩
  refine ⟨_, rfl, _, rfl, lookS (by rw [S_len]; omega), _, _, rfl, rfl, _, rfl, iteB (fun c => ?_) (fun c => ?_)⟩
  · have z := of_decide_eq_true c
    rw [S_len] at z
    omega
  refine ⟨_, rfl, ⟨_, rfl⟩, _, _, rfl, rfl, by rw [s_nl, S_len]; rfl, by rw [S_len, sizeLine_eq]; omega, fun a ha => ?_⟩
  rw [s_nl, split_S (by decide)]
  have hne : splitC 10 l ≠ [] := by
    obtain ⟨w, ws, e⟩ := splitC_cons 10 l
    rw [e]; simp
  rcases snoc_cases (splitC 10 l) with e | ⟨u, x, e⟩
  · exact absurd e hne
  have eL : ((splitC 10 l).map S).map V.str = (u.map fun x => V.str (S x)) ++ [V.str (S x)] := by
    rw [e, List.map_map, List.map_append]; rfl
  refine ⟨_, rfl, 1, rfl, a, _, _, _, rfl, rfl, SqL.of upd_same, by rw [eL]; exact atI_last _ _, rfl, _, rfl, ?_⟩
  rw [eqS s_empty, eL]
  have sa := same_new (p := a) ha
  refine iteB (fun c => ?_) (fun c => ?_)
  · have c1 := of_decide_eq_true c
    refine ⟨_, rfl, .inl ⟨rfl, _, SqL.of upd_same⟩, a, _, V.str (S x), rfl, rfl, upd_same, ?_, ?_⟩
    · rw [List.length_append, List.length_singleton, Nat.add_sub_cancel, List.getElem?_append_right (Nat.le_refl _), Nat.sub_self]; rfl
    · refine ⟨_, rfl, ?_⟩
      rw [upd_upd]
      refine q a _ (sa _) ha ?_
      have eF : linesF l = u := by
        unfold linesF
        rw [e, c1, if_pos (by simp)]; simp
      rw [upd_same, List.dropLast_concat, eF]
  · have c1 := of_decide_eq_false c
    refine ⟨_, rfl, q a _ (sa _) ha ?_⟩
    have eF : linesF l = u ++ [x] := by
      unfold linesF
      rw [e, if_neg (by simp [c1])]
    rw [upd_same, eF, List.map_append]; rfl
/-! ### columns_of -/
abbrev sCols : Stmt := top 36
abbrev nCols : List Str := ["words", "columns", "column", "word"]
theorem scCols : FnScope nCols ["words"] (defScope sCols) := ⟨rfl, rfl, rfl, by decide +kernel, rfl, by decide +kernel, by decide +kernel⟩
def spCols (K : PySem.W.Frag) : Sp := fun vs H Q _ => ∃ (a : Addr) (ws : List Tx), vs = [.ref a] ∧ SqL K H a (ws.map fun x => V.str (S x)) ∧ (∀ x ∈ ws, x.length ≤ 1000000) ∧ ws.length ≤ 1000 ∧ ∀ (b : Addr) (cs : List Int) H', Same H H' → H' b = some (.lst (cs.map V.int)) → cs.length = ws.length → Q (.ref b) H'
theorem ok_cols {f : Addr} {fd : FuncData} (T : Tx0 K mg) (F : Fun K "columns_of" "columns_of" sCols f fd) : FnOk P w K mg base CX0 1 f fd ["words"] (spCols K) := by
  refine F.ok scCols (fun vs H Q E h => ?_) (fun cdv A outer s H vs Q E hr h => ?_)
  · obtain ⟨a, ws, rfl, _⟩ := h
    rfl
  obtain ⟨a, ws, rfl, hS, hb, hl, q⟩ := h
  refine ⟨_, pss_cons (ps_set (i := 1) scCols.nd rfl (Or.inl rfl) (pe_lst pa_nil))
    (pss_cons (ps_set (i := 2) scCols.nd rfl (Or.inl rfl) pe_int)
    (pss_cons (ps_for PassesOwn.never rfl (pi_list (pv 0)) (pg_name (i := 3) scCols.nd rfl (Or.inl rfl))
      (pss_cons (ps_expr (pe_bm PySem.F.plainAttrs_list PySem.F.slot_list_append PySem.F.type_list_append mt_append (pv 1) (pa_cons (pv 2) pa_nil)))
      (pss_one (ps_aug (i := 2) scCols.nd rfl (Or.inl rfl) (pe_op op_add (pe_callB call_len_str (by rfl) T.len PySem.boot_len (pa_cons (pv 3) pa_nil)) pe_int) ip_add))))
    (pss_one (ps_ret (pv 1))))), ?_⟩
  refine ⟨Nat.zero_le _, fun c hc => ?_⟩
  have sc := same_new hc (HO.lst [])
  refine ⟨_, rfl, a, rfl, ⟨_, sc.seq hS⟩, for_list (K := K) (a := a) (xs := ws.map fun x => V.str (S x)) (fun i σ H' => ∃ (cs : List Int) (n : Int) (v : Option V), σ = [some (.ref a), some (.ref c), some (.int n), v] ∧ Same H H' ∧ H' c = some (.lst (cs.map V.int)) ∧ cs.length = i)
    ⟨[], 1, none, rfl, sc, upd_same, rfl⟩ (fun i σ H' _ ⟨_, _, _, _, s, _⟩ => s.seq hS) ?_ ?_⟩
  · rintro i x σ H' hi ⟨cs, n, v, rfl, s1, h1, h2⟩
    obtain ⟨wd, hw, rfl⟩ : ∃ wd, ws[i]? = some wd ∧ x = V.str (S wd) := by
      rw [List.getElem?_map] at hi
      cases e : ws[i]? with
      | none => rw [e] at hi; cases hi
      | some z => rw [e] at hi; exact ⟨z, rfl, (Option.some.inj hi).symm⟩
    have hlt := (List.getElem?_eq_some_iff.mp hw).1
    have hm := hb _ (List.mem_of_getElem? hw)
    refine ⟨_, rfl, .inl ⟨rfl, _, SqL.of h1⟩, _, rfl, c, _, _, rfl, rfl, h1, by rw [List.length_map, sizeLine_eq]; omega, ?_⟩
    refine ⟨_, rfl, _, rfl, _, rfl, lookS (by rw [S_len]; exact hm), _, _, rfl, rfl, _, _, rfl, rfl, ?_⟩
    refine ⟨cs ++ [n], _, _, rfl, fun b o e => ?_, by rw [upd_same, List.map_append]; rfl, by rw [List.length_append, h2]; rfl⟩
    rw [upd_ne (ne_of_none e hc)]
    exact s1 b o e
  · rintro σ H' ⟨cs, n, v, rfl, s1, h1, h2⟩
    exact ⟨_, rfl, q c cs H' s1 h1 (by rw [h2, List.length_map])⟩
/-! ### read_line -/
abbrev sReadLine : Stmt := top 37
abbrev nReadLine : List Str := ["line", "number", "known", "words", "columns", "weight", "amount"]
theorem scReadLine : FnScope nReadLine ["line", "number", "known"] (defScope sReadLine) := ⟨rfl, rfl, rfl, by decide +kernel, rfl, by decide +kernel, by decide +kernel⟩
def spReadLine (K : PySem.W.Frag) (C : Addr) : Sp := fun vs H Q E => ∃ (l : Tx) (n : Int) (kn : Addr) (ks : List Tx), vs = [.str (S l), .int n, .ref kn] ∧ l.length ≤ 100000 ∧ H kn = some (.dK (kd ks)) ∧ ks.length < 1000 ∧
  (∀ r, readLine ks l = some r → ∀ a H', Same H H' → H' a = some (.tup [.str (S r.key), .str (S r.grp), .int r.wt, .int r.am]) → H a = none → Q (.ref a) H') ∧ (readLine ks l = none → ∀ d H', Same H H' → E (.ref C) (some d) H')
theorem vInt_non {o : Option Int} : decide (vInt o = .non) = o.isNone := by
  cases o with
  | none => rfl
  | some n => exact decide_eq_false (fun z => by cases z)
theorem ok_read_line {f : Addr} {fd : FuncData} (T : Tx0 K mg) (TE : TxE K mg C) (F : Fun K "read_line" "read_line" sReadLine f fd) (DC : Df P w K mg base CX0 1 "columns_of" ["words"] (spCols K)) (DN : Df P w K mg base CX0 1 "is_name" ["text"] spIsName) (DI : Df P w K mg base CX0 2 "integer_of" ["word"] spIntegerOf) :
    FnOk P w K mg base (L2.CX P w) 3 f fd ["line", "number", "known"] (spReadLine K C) := by
  refine F.okX scReadLine (fun vs H Q E h => ?_) (fun cdv A outer s H vs Q E hr h => ?_)
  · obtain ⟨l, n, kn, ks, rfl, _⟩ := h
    rfl
  obtain ⟨l, n, kn, ks, rfl, hl, hk, hkl, q, qE⟩ := h
  have hr1 : Room 1 _ := hr.mono (by decide)
  have hu := hu_of hr
  obtain ⟨t1, hmw⟩ := T.mostW
  obtain ⟨t2, hma⟩ := T.mostA
  obtain ⟨t3, hmi⟩ := T.mostI
  refine ⟨_, pss_cons (ps_set (i := 3) scReadLine.nd rfl (Or.inl rfl) (pe_split (pv 0) pe_str))
    (pss_cons (ps_if (pt_cmpR op_ne (pe_callB call_len_seq (by rfl) T.len PySem.boot_len (pa_cons (pv 3) pa_nil)) pe_int (nomark _)) (pss_one (ps_raiseTE TE rfl hr (takes_of rfl rfl rfl rfl) (by exact (pa_cons (pv 1) (pa_cons pe_int (pa_cons pe_str pa_nil)))))) pss_nil)
    (pss_cons (ps_set (i := 4) scReadLine.nd rfl (Or.inl rfl) (pe_df DC hr1 (pa_cons (pv 3) pa_nil)))
    (pss_cons (ps_if (pt_not (pt_val (pe_df DN hr1 (pa_cons (pe_ix ix_list (pv 3) pe_int (fun _ _ => rfl)) pa_nil)))) (pss_one (ps_raiseTE TE rfl hr (takes_of rfl rfl rfl rfl) (by exact (pa_cons (pv 1) (pa_cons (pe_ix ix_list (pv 4) pe_int (fun _ _ => rfl)) (pa_cons pe_str pa_nil)))))) pss_nil)
    (pss_cons (ps_if (pt_not (pt_val (pe_df DN hr1 (pa_cons (pe_ix ix_list (pv 3) pe_int (fun _ _ => rfl)) pa_nil)))) (pss_one (ps_raiseTE TE rfl hr (takes_of rfl rfl rfl rfl) (by exact (pa_cons (pv 1) (pa_cons (pe_ix ix_list (pv 4) pe_int (fun _ _ => rfl)) (pa_cons pe_str pa_nil)))))) pss_nil)
    (pss_cons (ps_set (i := 5) scReadLine.nd rfl (Or.inl rfl) (pe_df DI hr (pa_cons (pe_ix ix_list (pv 3) pe_int (fun _ _ => rfl)) pa_nil)))
    (pss_cons (ps_if (PW.pt (pw_or (pt_cmp (pc_isN (pv 5))) (pw_or1 (pt_not (pt_chain op_le op_le pe_int (pv 5) (pe_glob (v := .int 1000) rfl hmw ⟨_, rfl⟩)))))) (pss_one (ps_raiseTE TE rfl hr (takes_of rfl rfl rfl rfl) (by exact (pa_cons (pv 1) (pa_cons (pe_ix ix_list (pv 4) pe_int (fun _ _ => rfl)) (pa_cons pe_str pa_nil)))))) pss_nil)
    (pss_cons (ps_set (i := 6) scReadLine.nd rfl (Or.inl rfl) (pe_df DI hr (pa_cons (pe_ix ix_list (pv 3) pe_int (fun _ _ => rfl)) pa_nil)))
    (pss_cons (ps_if (PW.pt (pw_or (pt_cmp (pc_isN (pv 6))) (pw_or1 (pt_not (pt_chain op_le op_le (pe_un un_neg (pe_glob (v := .int 1000) rfl hma ⟨_, rfl⟩)) (pv 6) (pe_glob (v := .int 1000) rfl hma ⟨_, rfl⟩)))))) (pss_one (ps_raiseTE TE rfl hr (takes_of rfl rfl rfl rfl) (by exact (pa_cons (pv 1) (pa_cons (pe_ix ix_list (pv 4) pe_int (fun _ _ => rfl)) (pa_cons pe_str pa_nil)))))) pss_nil)
    (pss_cons (ps_if (pt_cmp (pc_din hu (pe_ix ix_list (pv 3) pe_int (fun _ _ => rfl)) (pv 2))) (pss_one (ps_raiseTE TE rfl hr (takes_of rfl rfl rfl rfl) (by exact (pa_cons (pv 1) (pa_cons pe_int (pa_cons pe_str pa_nil)))))) pss_nil)
    (pss_cons (ps_if (pt_cmpR op_eq (pe_callB call_lenD (by rfl) T.len PySem.boot_len (pa_cons (pv 2) pa_nil)) (pe_glob (v := .int 1000) rfl hmi ⟨_, rfl⟩) (nomark _)) pss_never pss_nil)
    (pss_one (ps_ret (pe_tup (pa_cons (pe_ix ix_list (pv 3) pe_int (fun _ _ => rfl)) (pa_cons (pe_ix ix_list (pv 3) pe_int (fun _ _ => rfl)) (pa_cons (pv 5) (pa_cons (pv 6) pa_nil))))))))))))))))), ?_⟩
  refine ⟨_, rfl, ⟨_, rfl⟩, _, _, rfl, rfl, by rw [s_space, S_len]; rfl, by rw [S_len, sizeLine_eq]; omega, fun wa hwa => ?_⟩
  rw [s_space, split_S (by decide), List.map_map]
  have s1 := same_new hwa (HO.lst ((splitC 32 l).map (V.str ∘ S)))
  refine ⟨_, rfl, wa, _, rfl, .inl (SqL.of upd_same), rfl, _, rfl, ?_⟩
  refine iteB (fun c => ?_) (fun c => ?_)
  · -- not four words
    have c1 : (splitC 32 l).length ≠ 4 := by
      intro z
      rw [List.length_map, z] at c
      exact absurd c (by decide)
    refine ⟨_, rfl, mkTE fun d H' s2 => qE ?_ d H' (Same.trans s1 s2)⟩
    unfold readLine
    split
    · rename_i e
      rw [e] at c1
      exact absurd rfl c1
    · rfl
  have c1 : (splitC 32 l).length = 4 := by
    rw [List.length_map] at c
    have : V.int ((splitC 32 l).length : Nat) = V.int 4 := by simpa using c
    have := V.int.inj this
    omega
  obtain ⟨wk, wg, ww, wm, ew⟩ : ∃ a b c d, splitC 32 l = [a, b, c, d] := by
    match h : splitC 32 l, c1 with
    | [a, b, c, d], _ => exact ⟨a, b, c, d, rfl⟩
  have bd : ∀ x ∈ [wk, wg, ww, wm], x.length ≤ 1000000 := fun x hx => by
    have := splitC_le 32 l x (by rw [ew]; exact hx)
    omega
  have eR : readLine ks l = if isName wk = true then (if isName wg = true then (match intOf ww with | none => none | some wv => (if 1 ≤ wv ∧ wv ≤ 1000 then (match intOf wm with | none => none | some av => (if -1000 ≤ av ∧ av ≤ 1000 then (if wk ∈ ks then none else some ⟨wk, wg, wv, av⟩) else none)) else none)) else none) else none := by
    unfold readLine
    rw [ew]
    all_goals rfl
  rw [ew] at s1 ⊢
  refine ⟨_, rfl, wa, [wk, wg, ww, wm], rfl, SqL.of upd_same, bd, (by show 4 ≤ 1000; decide), fun ca cs H2 s2 hcs hcl => ?_⟩
  have S2 := Same.trans s1 s2
  have hw2 : H2 wa = some (.lst [.str (S wk), .str (S wg), .str (S ww), .str (S wm)]) := s2 _ _ upd_same
  obtain ⟨i0, i1, i2, i3, ec⟩ : ∃ a b c d, cs = [a, b, c, d] := by
    match cs, hcl with
    | [a, b, c, d], _ => exact ⟨a, b, c, d, rfl⟩
  subst ec
  have hc2 : H2 ca = some (.lst [.int i0, .int i1, .int i2, .int i3]) := hcs
  refine ⟨_, rfl, wa, _, 0, _, rfl, rfl, SqL.of hw2, atI_nat (j := 0) rfl, wk, rfl, bd _ (by simp), fun H3 s3 => ⟨_, rfl, ?_⟩⟩
  have S3 := Same.trans S2 s3
  have hw3 := s3 _ _ hw2
  have hc3 := s3 _ _ hc2
  refine iteB (fun c => ?_) (fun c => ?_)
  · refine ⟨_, rfl, _, rfl, ca, _, 0, _, rfl, rfl, SqL.of hc3, atI_nat (j := 0) rfl, mkTE fun d H' s4 => qE ?_ d H' (Same.trans S3 s4)⟩
    rw [eR, if_neg (by intro z; rw [z] at c; cases c)]
  have c2 : isName wk = true := by simpa using c
  refine ⟨_, rfl, wa, _, 1, _, rfl, rfl, SqL.of hw3, atI_nat (j := 1) rfl, wg, rfl, bd _ (by simp), fun H4 s4 => ⟨_, rfl, ?_⟩⟩
  have S4 := Same.trans S3 s4
  have hw4 := s4 _ _ hw3
  have hc4 := s4 _ _ hc3
  refine iteB (fun c => ?_) (fun c => ?_)
  · refine ⟨_, rfl, _, rfl, ca, _, 1, _, rfl, rfl, SqL.of hc4, atI_nat (j := 1) rfl, mkTE fun d H' s5 => qE ?_ d H' (Same.trans S4 s5)⟩
    rw [eR, if_pos c2, if_neg (by intro z; rw [z] at c; cases c)]
  have c3 : isName wg = true := by simpa using c
  refine ⟨_, rfl, wa, _, 2, _, rfl, rfl, SqL.of hw4, atI_nat (j := 2) rfl, ww, rfl, bd _ (by simp), fun H5 s5 => ?_⟩
  have S5 := Same.trans S4 s5
  have hw5 := s5 _ _ hw4
  have hc5 := s5 _ _ hc4
  rw [if_pos c2, if_pos c3] at eR
  -- the weight
  have failW : readLine ks l = none → ∃ v, (some (some (V.int n)) : Option (Option V)) = some (some v) ∧ ∃ v2, (some (some (V.ref ca)) : Option (Option V)) = some (some v2) ∧ ∃ p xs i v3, v2 = .ref p ∧ (V.int 2) = .int i ∧ SqL K H5 p xs ∧ atI xs i = some v3 ∧
      ([v, v3, .str "weight"].length ≤ 1000 ∧ ∀ a, H5 a = none → spTE C (.ref a :: ([v, v3, .str "weight"] ++ [])) (upd H5 a (exo a C none))
      (fun v H2 => v = .non ∧ ∃ (d : Addr) (fs : List (Str × V)), H2 a = some (exo a C (some d)) ∧ H2 d = some (exd d fs) ∧ H5 d = none ∧ E (.ref C) (some d) (upd (del H2 a) d (.xd fs))) (fun _ _ _ => False)) := fun e =>
    ⟨_, rfl, _, rfl, ca, _, 2, _, rfl, rfl, SqL.of hc5, atI_nat (j := 2) rfl, mkTE fun d H' s6 => qE e d H' (Same.trans S5 s6)⟩
  refine ⟨_, rfl, _, rfl, ?_⟩
  rw [vInt_non]
  cases e2 : intOf ww with
  | none =>
    rw [e2] at eR
    exact iteT (iteT (failW eR))
  | some wv =>
    rw [e2] at eR
    refine iteF ⟨_, rfl, _, _, rfl, rfl, _, rfl, iteB (fun c => ?_) (fun c => ?_)⟩
    case refine_2 =>
      refine ⟨_, rfl, iteT (failW ?_)⟩
      rw [eR]
      exact if_neg (fun z => (of_decide_eq_false c) z.1)
    refine ⟨_, _, rfl, rfl, _, rfl, iteB (fun c' => ?_) (fun c' => ?_)⟩
    · refine failW ?_
      rw [eR]
      exact if_neg (fun z => by rw [decide_eq_true z.2] at c'; cases c')
    have w1 : 1 ≤ wv := of_decide_eq_true c
    have w2 : wv ≤ 1000 := by
      have : decide (wv ≤ 1000) = true := by simpa using c'
      exact of_decide_eq_true this
    have eR2 : readLine ks l = (match intOf wm with | none => none | some av => (if -1000 ≤ av ∧ av ≤ 1000 then (if wk ∈ ks then none else some ⟨wk, wg, wv, av⟩) else none)) := by
      rw [eR]
      exact if_pos ⟨w1, w2⟩
    refine ⟨_, rfl, wa, _, 3, _, rfl, rfl, SqL.of hw5, atI_nat (j := 3) rfl, wm, rfl, bd _ (by simp), fun H6 s6 => ?_⟩
    have S6 := Same.trans S5 s6
    have hw6 := s6 _ _ hw5
    have hc6 := s6 _ _ hc5
    have failA : readLine ks l = none → ∃ v, (some (some (V.int n)) : Option (Option V)) = some (some v) ∧ ∃ v2, (some (some (V.ref ca)) : Option (Option V)) = some (some v2) ∧ ∃ p xs i v3, v2 = .ref p ∧ (V.int 3) = .int i ∧ SqL K H6 p xs ∧ atI xs i = some v3 ∧
        ([v, v3, .str "amount"].length ≤ 1000 ∧ ∀ a, H6 a = none → spTE C (.ref a :: ([v, v3, .str "amount"] ++ [])) (upd H6 a (exo a C none))
        (fun v H2 => v = .non ∧ ∃ (d : Addr) (fs : List (Str × V)), H2 a = some (exo a C (some d)) ∧ H2 d = some (exd d fs) ∧ H6 d = none ∧ E (.ref C) (some d) (upd (del H2 a) d (.xd fs))) (fun _ _ _ => False)) := fun e =>
      ⟨_, rfl, _, rfl, ca, _, 3, _, rfl, rfl, SqL.of hc6, atI_nat (j := 3) rfl, mkTE fun d H' s7 => qE e d H' (Same.trans S6 s7)⟩
    refine ⟨_, rfl, _, rfl, ?_⟩
    rw [vInt_non]
    cases e3 : intOf wm with
    | none =>
      rw [e3] at eR2
      exact iteT (iteT (failA eR2))
    | some av =>
      rw [e3] at eR2
      refine iteF ⟨_, rfl, _, rfl, _, _, rfl, rfl, _, rfl, iteB (fun c => ?_) (fun c => ?_)⟩
      case refine_2 =>
        refine ⟨_, rfl, iteT (failA ?_)⟩
        rw [eR2]
        exact if_neg (fun z => (of_decide_eq_false c) z.1)
      refine ⟨_, _, rfl, rfl, _, rfl, iteB (fun c' => ?_) (fun c' => ?_)⟩
      · refine failA ?_
        rw [eR2]
        exact if_neg (fun z => by rw [decide_eq_true z.2] at c'; cases c')
      have a1 : -1000 ≤ av := of_decide_eq_true c
      have a2 : av ≤ 1000 := by
        have : decide (av ≤ 1000) = true := by simpa using c'
        exact of_decide_eq_true this
      have eR3 : readLine ks l = if wk ∈ ks then none else some ⟨wk, wg, wv, av⟩ := by
        rw [eR2]
        exact if_pos ⟨a1, a2⟩
      have hk6 := S6 _ _ hk
      refine ⟨_, rfl, wa, _, 0, _, rfl, rfl, SqL.of hw6, atI_nat (j := 0) rfl, _, rfl, kn, _, rfl, DGet.k (k := Sum.inr (S wk)) hk6, _, rfl, ?_⟩
      rw [kd_val]
      refine iteB (fun c => ?_) (fun c => ?_)
      · refine ⟨_, rfl, mkTE fun d H' s7 => qE ?_ d H' (Same.trans S6 s7)⟩
        rw [eR3, if_pos (of_decide_eq_true c)]
      have nk := of_decide_eq_false c
      refine ⟨_, rfl, kn, _, rfl, hk6, rfl, _, rfl, iteB (fun c => ?_) (fun c => ?_)⟩
      · have z := V.int.inj (of_decide_eq_true c)
        rw [kd_len] at z
        omega
      refine ⟨_, rfl, wa, _, 0, _, rfl, rfl, SqL.of hw6, atI_nat (j := 0) rfl, _, rfl, wa, _, 1, _, rfl, rfl, SqL.of hw6, atI_nat (j := 1) rfl, _, rfl, _, rfl, lookS (by show 4 ≤ 1000000; decide), fun a ha => ?_⟩
      refine q ⟨wk, wg, wv, av⟩ (by rw [eR3, if_neg nk]) a _ (Same.trans S6 (same_new ha _)) upd_same (S6.free ha)
end
end K05
set_option Elab.async false
set_option linter.all false
set_option maxRecDepth 100000
set_option maxHeartbeats 4000000
namespace K05
open PySem PySem.Spec PyProof.Rows L2
section
variable {P : Program} {w : World} {K : PySem.W.Frag} {mg : Str → Option Value} {base : Heap} {C : Addr}
/-! ### read_items -/
/-- a row's tuple -/
abbrev rowV (r : Row) : List V := [.str (S r.key), .str (S r.grp), .int r.wt, .int r.am]
theorem rd_mk {H : Hp} {b : Addr} {r : Row} (h : SqT K H b (rowV r)) : Dp K H (.ref b) (rd r) := .tup h (.cons (.str _) (.cons (.str _) (.cons (.int _) (.cons (.int _) .nil))))
theorem tup_ne {H : Hp} {a p : Addr} {xs : List V} {o : HO} (h : H a = some (.tup xs)) (hp : H p = some o) (n : ∀ ys, o ≠ .tup ys) : a ≠ p := fun z => by rw [z, hp] at h; exact n xs (Option.some.inj h)
abbrev sReadItems : Stmt := top 38
abbrev nReadItems : List Str := ["text", "known", "rows", "place", "line", "row"]
theorem scReadItems : FnScope nReadItems ["text"] (defScope sReadItems) := ⟨rfl, rfl, rfl, by decide +kernel, rfl, by decide +kernel, by decide +kernel⟩
def spReadItems (K : PySem.W.Frag) (C : Addr) : Sp := fun vs H Q E => ∃ l : Tx, vs = [.str (S l)] ∧ l.length ≤ 100000 ∧ (linesF l).length ≤ 900 ∧ (∀ rows, readI l = some rows → ∀ a H', Same H H' → RowsAt K H' a rows → Q (.ref a) H') ∧ (readI l = none → ∀ d H', Same H H' → E (.ref C) (some d) H')
theorem ok_read_items {f : Addr} {fd : FuncData} (T : Tx0 K mg) (F : Fun K "read_items" "read_items" sReadItems f fd) (DL : Df P w K mg base CX0 1 "lines_of" ["text"] spLines) (DR : Df P w K mg base (L2.CX P w) 3 "read_line" ["line", "number", "known"] (spReadLine K C)) :
    FnOk P w K mg base (L2.CX P w) 4 f fd ["text"] (spReadItems K C) := by
  refine F.okX scReadItems (fun vs H Q E h => ?_) (fun cdv A outer s H vs Q E hr h => ?_)
  · obtain ⟨l, rfl, _⟩ := h
    rfl
  obtain ⟨l, rfl, hl, hn, q, qE⟩ := h
  have hr1 : Room 1 _ := hr.mono (by decide)
  have hu := hu_of hr
  refine ⟨_, pss_cons (ps_set (i := 1) scReadItems.nd rfl (Or.inl rfl) pe_dnewK)
    (pss_cons (ps_set (i := 2) scReadItems.nd rfl (Or.inl rfl) (pe_lst pa_nil))
    (pss_cons (ps_for (passes_of rfl) rfl (pi_enum (by rfl) T.enum (pa_cons (pe_df DL hr1 (pa_cons (pv 0) pa_nil)) pa_nil)) (pg_tup rfl (pgs_cons (pg_name (i := 3) scReadItems.nd rfl (Or.inl rfl)) (pgs_cons (pg_name (i := 4) scReadItems.nd rfl (Or.inl rfl)) pgs_nil)))
      (pss_cons (ps_set (i := 5) scReadItems.nd rfl (Or.inl rfl) (pe_dfX DR hr pxs (pa_cons (pv 4) (pa_cons (pe_op op_add (pv 3) pe_int) (pa_cons (pv 1) pa_nil)))))
      (pss_cons (ps_dput hu (pv 1) (pe_ix ix_tup (pv 5) pe_int (fun _ _ => rfl)) pe_bl rfl)
      (pss_one (ps_expr (pe_bm PySem.F.plainAttrs_list PySem.F.slot_list_append PySem.F.type_list_append mt_append (pv 2) (pa_cons (pv 5) pa_nil)))))))
    (pss_one (ps_ret (pv 2))))), ?_⟩
  intro kn hkn
  have s0 := same_new hkn (HO.dK [])
  refine ⟨Nat.zero_le _, fun rw hrw => ?_⟩
  have s1 := Same.trans s0 (same_new hrw (HO.lst []))
  have nkr : kn ≠ rw := fun z => by
    have := hrw
    rw [← z, upd_same] at this; cases this
  refine ⟨_, rfl, l, rfl, hl, fun la H1 s2 hla hL => ?_⟩
  have S2 := Same.trans s1 s2
  have hk1 : H1 kn = some (.dK []) := s2 _ _ (by rw [upd_ne nkr, upd_same])
  have hr1' : H1 rw = some (.lst []) := s2 _ _ upd_same
  have nlk : la ≠ kn := fun z => by
    rw [z, upd_ne nkr, upd_same] at hla; cases hla
  have nlr : la ≠ rw := fun z => by
    rw [z, upd_same] at hla; cases hla
  have hkH : H kn = none := hkn
  have hrH : H rw = none := s0.free hrw
  have hlH : H la = none := s1.free hla
  let LS := linesF l
  refine ⟨la, _, rfl, SqL.of hL, for_it (walk_enum (xs := LS.map fun x => V.str (S x))) (fun i σ H' => ∃ (x y z : Option V) (rs : List Addr) (dn : List Row), σ = [some (.str (S l)), some (.ref kn), some (.ref rw), x, y, z] ∧ Same H H' ∧ H' la = some (.lst (LS.map fun x => V.str (S x))) ∧
      H' kn = some (.dK (kd (dn.map Row.key))) ∧ H' rw = some (.lst (rs.map V.ref)) ∧ rs.length = dn.length ∧ rs.length = i ∧ (∀ (j : Nat) (b : Addr) (r : Row), rs[j]? = some b → dn[j]? = some r → H' b = some (.tup (rowV r))) ∧ readI l = (readGo (dn.map Row.key) (LS.drop i)).map (dn ++ ·))
    ⟨none, none, none, [], [], rfl, S2, hL, hk1, hr1', rfl, rfl, fun j b r e => by simp at e, ?_⟩ ?_ ?_ ?_⟩
  · show readI l = (readGo [] LS).map ([] ++ ·)
    unfold readI
    cases readGo [] (linesF l) <;> rfl
  · rintro i σ H' _ ⟨_, _, _, _, _, _, _, h, _⟩
    exact SqL.of h
  · rintro i v σ H3 H4 hi ⟨x, y, z, rs, dn, rfl, S3, hl3, hk3, hr3, e1, e2, e3, eR⟩ ⟨T1, x1, y1, rfl, hT, rfl, ex, ey⟩
    rw [List.length_map] at hi
    have ey : (LS.map fun x => V.str (S x))[i]? = some y1 := ey
    have ex : some (V.int (i : Nat)) = some x1 := ex
    obtain rfl := (Option.some.inj ex).symm
    have ln : LS[i]? = some LS[i] := List.getElem?_eq_getElem hi
    rw [List.getElem?_map, ln] at ey
    obtain rfl := (Option.some.inj ey).symm
    have sT := same_new hT (HO.tup [.int (i : Nat), .str (S LS[i])])
    have ldrop : LS.drop i = LS[i] :: LS.drop (i + 1) := List.drop_eq_getElem_cons hi
    have hm := linesF_le l LS[i] (List.getElem_mem hi)
    have hLn : LS.length ≤ 900 := hn
    refine ⟨T1, _, rfl, SqT.of upd_same, rfl, _, _, rfl, _, _, rfl, rfl, ?_⟩
    refine ⟨_, rfl, _, rfl, _, _, rfl, rfl, _, rfl, LS[i], _, kn, dn.map Row.key, rfl, by omega, sT _ _ hk3, by rw [List.length_map]; omega, fun r er a H5 s5 ha hna => ?_, fun er d H5 s5 => ?_⟩
    · have h5k := s5 _ _ (sT _ _ hk3)
      have h5r := s5 _ _ (sT _ _ hr3)
      have h5l := s5 _ _ (sT _ _ hl3)
      have nak : a ≠ kn := fun z => by rw [z, h5k] at ha; cases ha
      have nar : a ≠ rw := fun z => by rw [z, h5r] at ha; cases ha
      have nk : r.key ∉ dn.map Row.key := (readLine_ok er).2
      refine ⟨_, rfl, _, rfl, a, _, 0, _, rfl, rfl, SqT.of ha, atI_nat (j := 0) rfl, kn, _, rfl, DPut.k (k := Sum.inr (S r.key)) h5k (by rw [kd_len, List.length_map, sizeLine_eq]; omega), ?_⟩
      rw [kd_put nk]
      have h6r : (upd H5 kn (.dK (kd (dn.map Row.key ++ [r.key])))) rw = some (.lst (rs.map V.ref)) := by rw [upd_ne nkr.symm]; exact h5r
      refine ⟨_, rfl, .inl ⟨rfl, _, SqL.of h6r⟩, _, rfl, rw, _, _, rfl, rfl, h6r, by rw [List.length_map, sizeLine_eq]; omega, ?_⟩
      refine ⟨_, _, _, rs ++ [a], dn ++ [r], rfl, fun b o e => ?_, ?_, ?_, ?_, by rw [List.length_append, List.length_append, e1]; rfl, by rw [List.length_append, e2]; rfl, fun j b r' g1 g2 => ?_, ?_⟩
      · rw [upd_ne (ne_of_none e hrH), upd_ne (ne_of_none e hkH)]
        exact s5 _ _ (sT _ _ (S3 _ _ e))
      · rw [upd_ne nlr, upd_ne nlk]; exact h5l
      · rw [upd_ne nkr, upd_same, List.map_append]; rfl
      · rw [upd_same, List.map_append]; rfl
      · by_cases hj : j < rs.length
        · rw [List.getElem?_append_left hj] at g1
          rw [List.getElem?_append_left (by omega)] at g2
          have g3 := e3 j b r' g1 g2
          have n1 : b ≠ kn := tup_ne g3 hk3 (fun _ z => by cases z)
          have n2 : b ≠ rw := tup_ne g3 hr3 (fun _ z => by cases z)
          rw [upd_ne n2, upd_ne n1]
          exact s5 _ _ (sT _ _ g3)
        · rw [List.getElem?_append_right (by omega)] at g1
          rw [List.getElem?_append_right (by omega)] at g2
          have z1 : j - rs.length = 0 := by
            have := (List.getElem?_eq_some_iff.mp g1).1
            simp at this; omega
          rw [z1] at g1
          rw [show j - dn.length = 0 by omega] at g2
          have : a = b := by simpa using g1
          subst this
          have : r = r' := by simpa using g2
          subst this
          rw [upd_ne nar, upd_ne nak]
          exact ha
      · rw [eR, ldrop]
        show (match readLine (dn.map Row.key) LS[i] with | none => none | some r => (readGo (dn.map Row.key ++ [r.key]) (LS.drop (i + 1))).map (r :: ·)).map (dn ++ ·) = _
        rw [er, List.map_append]
        show ((readGo (dn.map Row.key ++ [r.key]) (LS.drop (i + 1))).map (r :: ·)).map (dn ++ ·) = (readGo (dn.map Row.key ++ [r.key]) (LS.drop (i + 1))).map (dn ++ [r] ++ ·)
        rw [Option.map_map]
        congr 1
        funext t
        simp
    · refine qE ?_ d H5 (Same.trans (Same.trans S3 sT) s5)
      rw [eR, ldrop]
      show (match readLine (dn.map Row.key) LS[i] with | none => none | some r => (readGo (dn.map Row.key ++ [r.key]) (LS.drop (i + 1))).map (r :: ·)).map (dn ++ ·) = _
      rw [er]; rfl
  · rintro σ H3 ⟨x, y, z, rs, dn, rfl, S3, hl3, hk3, hr3, e1, e2, e3, eR⟩
    rw [List.length_map, List.drop_length] at eR
    refine ⟨_, rfl, q dn (by rw [eR]; show some (dn ++ []) = _; rw [List.append_nil]) rw H3 S3 ⟨rs, SqL.of hr3, e1, fun j b r g1 g2 => rd_mk (SqT.of (e3 j b r g1 g2))⟩⟩
/-! ### write_items -/
abbrev sWriteItems : Stmt := top 40
abbrev nWriteItems : List Str := ["rows", "key", "group", "weight", "amount"]
theorem scWriteItems : FnScope nWriteItems ["rows"] (defScope sWriteItems) := ⟨rfl, rfl, rfl, by decide +kernel, rfl, by decide +kernel, by decide +kernel⟩
def spWriteItems (K : PySem.W.Frag) : Sp := fun vs H Q _ => ∃ (a : Addr) (rows : List Row), vs = [.ref a] ∧ RowsAt K H a rows ∧ (∀ r ∈ rows, r.Ok) ∧ rows.length ≤ 2000 ∧ ∀ H', Same H H' → Q (.str (S (writeI rows))) H'
theorem join_S (ls : List Tx) : Txt.join (S []) (ls.map S) = S ls.flatten := by
  rw [TL.join_eq]
  refine TL.ext_tl ?_
  rw [TL.tl_join, S_tl, S_tl]
  induction ls with
  | nil => rfl
  | cons a r ih =>
    cases r with
    | nil => show TL.tl (S a) = _; rw [S_tl]; simp
    | cons b r =>
      show TL.tl (S a) ++ ([] ++ TL.joinL [] (((b :: r).map S).map TL.tl)) = _
      rw [List.nil_append, ih, S_tl]; rfl
theorem ok_write_items {f : Addr} {fd : FuncData} (F : Fun K "write_items" "write_items" sWriteItems f fd) : FnOk P w K mg base CX0 1 f fd ["rows"] (spWriteItems K) := by
  refine F.ok scWriteItems (fun vs H Q E h => ?_) (fun cdv A outer s H vs Q E hr h => ?_)
  · obtain ⟨a, rows, rfl, _⟩ := h
    rfl
  obtain ⟨a, rows, rfl, hR, ok, hl, q⟩ := h
  obtain ⟨rs, h1, h2, h3⟩ := hR
  refine ⟨_, pss_one (ps_ret (pe_join pe_str (pe_lc (own := [("key", 1), ("group", 2), ("weight", 3), ("amount", 4)]) (g := gTup K 4 (gCons (gName 1) (gCons (gName 2) (gCons (gName 3) (gCons (gName 4) gNil))))) (tt := tYes) rfl scWriteItems.nd (pi_list (pv 0))
    (blkOk_by (N := nWriteItems) (sc := defScope sWriteItems) (by decide +kernel))
    (fun _ _ _ _ _ => pg_tup rfl (pgs_cons (pg_name (i := 1) scWriteItems.nd rfl (Or.inl rfl)) (pgs_cons (pg_name (i := 2) scWriteItems.nd rfl (Or.inl rfl)) (pgs_cons (pg_name (i := 3) scWriteItems.nd rfl (Or.inl rfl)) (pgs_cons (pg_name (i := 4) scWriteItems.nd rfl (Or.inl rfl)) pgs_nil)))))
    (fun _ _ _ _ _ => pts_nil)
    (fun _ _ _ _ _ => pe_joined (PJ.cons (pe_fmt (pv 1)) (PJ.cons pe_str (PJ.cons (pe_fmt (pv 2)) (PJ.cons pe_str (PJ.cons (pe_fmt (pv 3)) (PJ.cons pe_str (PJ.cons (pe_fmt (pv 4)) (PJ.cons pe_str PJ.nil)))))))))))), ?_⟩
  refine ⟨⟨_, rfl⟩, _, rfl, a, rfl, ⟨_, h1⟩, fun D hD => lc_list (K := K) (a := a) (xs := rs.map V.ref) (te := fun σ H Q => tJs [tFmt (tVar 1), tC (.str " "), tFmt (tVar 2), tC (.str " "), tFmt (tVar 3), tC (.str " "), tFmt (tVar 4), tC (.str "\n")] Str.empty σ H fun out H1 => Q (.str out) H1) (fun i H' => H' = upd H D (.lst ((rows.take i).map fun r => V.str (S (line r ++ [10]))))) rfl ?_ ?_ ?_⟩
  · rintro i H' _ rfl
    exact (same_new hD _).seq h1
  · rintro i x H' hi rfl
    obtain ⟨b, hb, rfl⟩ : ∃ b, rs[i]? = some b ∧ x = V.ref b := by
      rw [List.getElem?_map] at hi
      cases e : rs[i]? with
      | none => rw [e] at hi; cases hi
      | some z => rw [e] at hi; exact ⟨z, rfl, (Option.some.inj hi).symm⟩
    have hi' : i < rows.length := by
      have := (List.getElem?_eq_some_iff.mp hb).1
      omega
    have er : rows[i]? = some rows[i] := List.getElem?_eq_getElem hi'
    have okr := ok _ (List.getElem_mem hi')
    have hx := rd_at ((h3 i b _ hb er).sm (same_new hD (.lst ((rows.take i).map fun r => V.str (S (line r ++ [10]))))))
    have lk := (name_iff.mp okr.key).2.1
    have lg := (name_iff.mp okr.grp).2.1
    have := okr.w1; have := okr.w2; have := okr.a1; have := okr.a2
    have lw := (numT_len (n := rows[i].wt) (by omega)).2
    have la := (numT_len (n := rows[i].am) (by omega)).2
    generalize hrow : rows[i] = r at *
    have L : ∀ (l : Tx), l.length ≤ 1000 → (S l).length ≤ sizeLine := fun l h => by rw [S_len]; exact lookS (by omega)
    refine ⟨b, _, rfl, hx, rfl, _, _, rfl, _, _, rfl, _, _, rfl, _, _, rfl, rfl, rfl, ?_⟩
    refine ⟨_, rfl, .inl ⟨_, rfl, L _ (by omega), _, rfl, ?_, ?_⟩⟩
    · rw [e_empty, S_app]; exact L _ (by simp; omega)
    refine ⟨_, rfl, ?_, ?_⟩
    · rw [e_empty, s_space, S_app, S_app]; exact L _ (by simp; omega)
    refine ⟨_, rfl, .inl ⟨_, rfl, L _ (by omega), _, rfl, ?_, ?_⟩⟩
    · rw [e_empty, s_space, S_app, S_app, S_app]; exact L _ (by simp; omega)
    refine ⟨_, rfl, ?_, ?_⟩
    · rw [e_empty, s_space, S_app, S_app, S_app, S_app]; exact L _ (by simp; omega)
    refine ⟨_, rfl, .inr ⟨_, rfl, log2_lt (by omega), _, rfl, ?_, ?_⟩⟩
    · rw [e_empty, s_space, S_app, S_app, S_app, S_app, num_S, S_app]; exact L _ (by simp; omega)
    refine ⟨_, rfl, ?_, ?_⟩
    · rw [e_empty, s_space, S_app, S_app, S_app, S_app, num_S, S_app, S_app]; exact L _ (by simp; omega)
    refine ⟨_, rfl, .inr ⟨_, rfl, log2_lt (by omega), _, rfl, ?_, ?_⟩⟩
    · rw [e_empty, s_space, S_app, S_app, S_app, S_app, num_S, S_app, S_app, num_S, S_app]; exact L _ (by simp; omega)
    refine ⟨_, rfl, ?_, ?_⟩
    · rw [e_empty, s_space, S_app, S_app, S_app, S_app, num_S, S_app, S_app, num_S, S_app, s_nl, S_app]; exact L _ (by simp; omega)
    refine ⟨_, upd_same, ?_, ?_⟩
    · rw [List.length_map, List.length_take, sizeLine_eq]; omega
    · show upd _ _ _ = _
      rw [upd_upd, e_empty, s_space, S_app, S_app, S_app, S_app, num_S, S_app, S_app, num_S, S_app, s_nl, S_app, take_one er, List.map_append]
      congr 3
      show [V.str (S _)] = [V.str (S (line r ++ [10]))]
      congr 3
      unfold line
      simp
  · rintro H' rfl
    rw [List.length_map, h2, List.take_length]
    refine ⟨_, _, (rows.map fun r => line r ++ [10]).map S, rfl, rfl, .inl (SqL.of ?_), ?_, ?_⟩
    · rw [upd_same, List.map_map, List.map_map]; rfl
    · rw [s_empty, S_len, List.map_map, List.map_map]
      have key : ∀ rows : List Row, (∀ r ∈ rows, r.Ok) → (rows.map (((fun x : Str => x.length) ∘ S) ∘ fun r => line r ++ [10])).sum ≤ 44 * rows.length := by
        intro rows
        induction rows with
        | nil => intro _; exact Nat.le_refl _
        | cons r rs ih =>
          intro ok
          rw [List.map_cons, List.sum_cons, List.length_cons]
          have i1 := ih fun x hx => ok x (List.mem_cons_of_mem _ hx)
          have i2 := line_len (ok r (List.mem_cons_self ..))
          have i3 : (((fun x : Str => x.length) ∘ S) ∘ fun r => line r ++ [10]) r = (line r).length + 1 := by
            show (S (line r ++ [10])).length = _
            rw [S_len, List.length_append]; rfl
          omega
      have kk := key rows ok
      have e0 : ([] : Tx).length = 0 := rfl
      rw [e0, Nat.mul_zero]
      omega
    · rw [s_empty, join_S]
      exact q _ (same_new hD _)
end
end K05
set_option Elab.async false
set_option linter.all false
set_option maxRecDepth 100000
set_option maxHeartbeats 4000000
namespace K05
open PySem PySem.Spec PyProof.Rows L2
/-- a list of whole numbers stands at D -/
def IntL (H : Hp) (D : Addr) : Prop := ∃ ms : List Int, H D = some (.lst (ms.map V.int))
theorem IntL.same {H H' : Hp} {D : Addr} (h : IntL H D) (s : Same H H') : IntL H' D := by
  obtain ⟨ms, e⟩ := h
  exact ⟨ms, s _ _ e⟩
section
variable {P : Program} {w : World} {K : PySem.W.Frag} {mg : Str → Option Value} {base : Heap}
/-! ### _law_draws -/
abbrev sDraws : Stmt := top 42
abbrev nDraws : List Str := ["_law_script", "_law_draws_here", "_law_cell", "_law_number_here", "_law_first", "_law_k", "_law_seed"]
theorem scDraws : FnScope nDraws ["_law_script"] (defScope sDraws) := ⟨rfl, rfl, rfl, by decide +kernel, rfl, by decide +kernel, by decide +kernel⟩
def spDraws (K : PySem.W.Frag) : Sp := fun vs H Q _ => ∃ (a : Addr) (ns : List Int), vs = [.ref a] ∧ SqL K H a (ns.map V.int) ∧ ns.length ≤ 63 ∧ ∀ D H', Same H H' → H D = none → IntL H' D → Q (.ref D) H'
theorem app_int {H : Hp} {D : Addr} {ms : List Int} {i : Int} : (upd H D (.lst (ms.map V.int ++ [V.int i]))) D = some (.lst ((ms ++ [i]).map V.int)) := by
  rw [upd_same, List.map_append]; rfl
theorem pos_c {n : Int} (h : (0 : Int) < n) : (0 : Int) < n := h
theorem ok_draws {f : Addr} {fd : FuncData} (T : Tx0 K mg) (F : Fun K "_law_draws" "_law_draws" sDraws f fd) : FnOk P w K mg base CX0 1 f fd ["_law_script"] (spDraws K) := by
  refine F.ok scDraws (fun vs H Q E h => ?_) (fun cdv A outer s H vs Q E hr h => ?_)
  · obtain ⟨a, ns, rfl, _⟩ := h
    rfl
  obtain ⟨a, ns, rfl, hS, hl, q⟩ := h
  refine ⟨_, pss_cons (ps_set (i := 1) scDraws.nd rfl (Or.inl rfl) (pe_lst pa_nil))
    (pss_cons (ps_for PassesOwn.never rfl (pi_list (pv 0)) (pg_name (i := 2) scDraws.nd rfl (Or.inl rfl))
      (pss_cons (ps_set (i := 3) scDraws.nd rfl (Or.inl rfl) (pe_callB call_abs (by rfl) T.abs (by decide +kernel) (pa_cons (pv 2) pa_nil)))
      (C8.pss_cut (ps_if (pt_cmpR op_lt (pv 3) (pe_op op_pow pe_int pe_int) (nomark _))
        (pss_cons (ps_set (i := 4) scDraws.nd rfl (Or.inl rfl) (pe_op op_mod (pe_callTy call_int1 (by rfl) T.int (by decide +kernel) (pa_cons (pe_op op_add (pe_op op_mul (pv 3) pe_int) pe_int) pa_nil)) pe_int))
        (pss_cons (ps_expr (pe_bm PySem.F.plainAttrs_list PySem.F.slot_list_append PySem.F.type_list_append mt_append (pv 1) (pa_cons (pe_op op_mod (pe_callTy call_int1 (by rfl) T.int (by decide +kernel) (pa_cons (pe_op op_add (pe_op op_mul (pv 4) pe_int) (pv 3)) pa_nil)) pe_int) pa_nil)))
        (pss_cons (ps_expr (pe_bm PySem.F.plainAttrs_list PySem.F.slot_list_append PySem.F.type_list_append mt_append (pv 1) (pa_cons (pe_op op_mod (pe_callTy call_int1 (by rfl) T.int (by decide +kernel) (pa_cons (pe_op op_add (pv 4) (pe_op op_fdiv (pv 3) pe_int)) pa_nil)) pe_int) pa_nil)))
        (pss_one (ps_set (i := 3) scDraws.nd rfl (Or.inl rfl) pe_int))))) pss_nil)
      (pss_one (ps_for PassesOwn.never rfl (pi_range1 rfl T.range (pa_cons pe_int pa_nil)) (pg_name (i := 5) scDraws.nd rfl (Or.inl rfl))
        (pss_one (ps_if (pt_cmpR op_gt (pv 3) pe_int (nomark _))
          (pss_cons (ps_expr (pe_bm PySem.F.plainAttrs_list PySem.F.slot_list_append PySem.F.type_list_append mt_append (pv 1) (pa_cons (pe_op op_mod (pe_callTy call_int1 (by rfl) T.int (by decide +kernel) (pa_cons (pv 3) pa_nil)) pe_int) pa_nil)))
          (pss_one (ps_set (i := 3) scDraws.nd rfl (Or.inl rfl) (pe_op op_fdiv (pv 3) pe_int)))) pss_nil))))))
    )
    (pss_cons (ps_set (i := 6) scDraws.nd rfl (Or.inl rfl) pe_int)
    (C8.pss_cut (ps_if (pt_cmpR op_gt (pe_callB call_len_seq (by rfl) T.len PySem.boot_len (pa_cons (pv 0) pa_nil)) pe_int (nomark _))
      (pss_one (ps_set (i := 6) scDraws.nd rfl (Or.inl rfl) (pe_op op_add pe_int (pe_callB call_abs (by rfl) T.abs (by decide +kernel) (pa_cons (pe_ix ix_list (pv 0) pe_int (fun _ _ => rfl)) pa_nil))))) pss_nil)
    (pss_cons (ps_for PassesOwn.never rfl (pi_range1 rfl T.range (pa_cons pe_int pa_nil)) (pg_name (i := 5) scDraws.nd rfl (Or.inl rfl))
      (pss_cons (ps_set (i := 6) scDraws.nd rfl (Or.inl rfl) (pe_op op_mod (pe_callTy call_int1 (by rfl) T.int (by decide +kernel) (pa_cons (pe_op op_add (pe_op op_mul (pv 6) pe_int) pe_int) pa_nil)) pe_int))
      (pss_one (ps_expr (pe_bm PySem.F.plainAttrs_list PySem.F.slot_list_append PySem.F.type_list_append mt_append (pv 1) (pa_cons (pe_op op_fdiv (pv 6) pe_int) pa_nil))))))
    (pss_one (ps_ret (K05R.pe_lstRev rfl (by rfl) T.list (by rfl) T.rev (pv 1)))))))), ?_⟩
  refine ⟨Nat.zero_le _, fun D hD => ?_⟩
  have sD := same_new hD (HO.lst [])
  -- the state: the list at D, its length at most n
  let St0 : Nat → Hp → Prop := fun n H' => Same H H' ∧ ∃ ms : List Int, H' D = some (.lst (ms.map V.int)) ∧ ms.length ≤ n
  have grow : ∀ n H' (ms : List Int) (i : Int), Same H H' → H' D = some (.lst (ms.map V.int)) → ms.length ≤ n → St0 (n + 1) (upd H' D (.lst (ms.map V.int ++ [V.int i]))) := fun n H' ms i s e h =>
    ⟨fun b o z => by rw [upd_ne (ne_of_none z hD)]; exact s b o z, ms ++ [i], app_int, by simp; omega⟩
  have big : ∀ n, n ≤ 10000 → n < sizeLine := fun n h => by rw [sizeLine_eq]; omega
  refine ⟨_, rfl, a, rfl, ⟨_, sD.seq hS⟩, for_list (K := K) (a := a) (xs := ns.map V.int) (fun i σ H' => ∃ x y z u : Option V, σ = [some (.ref a), some (.ref D), x, y, z, u, none] ∧ St0 (62 * i) H')
    ⟨none, none, none, none, rfl, sD, [], upd_same, Nat.zero_le _⟩ (fun i σ H' _ ⟨_, _, _, _, _, s, _⟩ => s.seq hS) ?_ ?_⟩
  · rintro i v σ H1 hi ⟨x, y, z, u, rfl, s1, ms, e1, l1⟩
    obtain ⟨n, hn, rfl⟩ : ∃ n, ns[i]? = some n ∧ v = V.int n := by
      rw [List.getElem?_map] at hi
      cases e : ns[i]? with
      | none => rw [e] at hi; cases hi
      | some z => rw [e] at hi; exact ⟨z, rfl, (Option.some.inj hi).symm⟩
    have hi63 : i < 63 := by
      have := (List.getElem?_eq_some_iff.mp hn).1
      omega
    refine ⟨_, rfl, _, rfl, ?_⟩
    refine ⟨fun σ H2 => ∃ (m : Int) (z : Option V), σ = [some (.ref a), some (.ref D), some (.int n), some (.int m), z, u, none] ∧ St0 (62 * i + 2) H2, ?_, ?_⟩
    · refine ⟨_, rfl, _, _, rfl, rfl, ⟨by decide, by decide, by decide⟩, _, _, rfl, rfl, _, rfl, iteB (fun c => ?_) (fun c => ?_)⟩
      · refine ⟨_, rfl, _, _, rfl, rfl, .inr ⟨by decide, by decide⟩, _, _, rfl, rfl, .inl ⟨_, rfl, _, _, rfl, rfl, (by show (0 : Int) < 2147483647; decide), ?_⟩⟩
        refine ⟨_, rfl, .inl ⟨rfl, _, SqL.of e1⟩, _, rfl, _, _, rfl, rfl, .inr ⟨by decide, by decide⟩, _, rfl, _, _, rfl, rfl, .inl ⟨_, rfl, _, _, rfl, rfl, (by show (0 : Int) < 2147483629; decide), D, _, _, rfl, rfl, e1, big _ (by rw [List.length_map]; omega), ?_⟩⟩
        obtain ⟨s2, ms2, e2, l2⟩ := grow _ _ ms _ s1 e1 l1
        refine ⟨_, rfl, .inl ⟨rfl, _, SqL.of e2⟩, _, rfl, _, rfl, _, _, rfl, rfl, ⟨by decide, by decide⟩, _, _, rfl, rfl, .inl ⟨_, rfl, _, _, rfl, rfl, (by show (0 : Int) < 1000003; decide), D, _, _, rfl, rfl, e2, big _ (by rw [List.length_map]; omega), ?_⟩⟩
        exact ⟨0, _, rfl, grow _ _ ms2 _ s2 e2 l2⟩
      · exact ⟨_, z, rfl, s1, ms, e1, by omega⟩
    · rintro σ2 H2 ⟨m, z, rfl, s2, ms2, e2, l2⟩
      refine ⟨60, rfl, by decide, by decide, for_range (lo := 0) (n := 60) (fun k σ H' => ∃ (m : Int) (u : Option V), σ = [some (.ref a), some (.ref D), some (.int n), some (.int m), z, u, none] ∧ St0 (62 * i + 2 + k) H') ⟨m, u, rfl, s2, ms2, e2, l2⟩ ?_ ?_⟩
      · rintro k σ H3 hk ⟨m, u, rfl, s3, ms3, e3, l3⟩
        refine ⟨_, rfl, _, _, rfl, rfl, _, rfl, iteB (fun c => ?_) (fun c => ?_)⟩
        · refine ⟨_, rfl, .inl ⟨rfl, _, SqL.of e3⟩, _, rfl, .inl ⟨_, rfl, _, _, rfl, rfl, (by show (0 : Int) < 997; decide), D, _, _, rfl, rfl, e3, big _ (by rw [List.length_map]; omega), ?_⟩⟩
          refine ⟨_, rfl, _, _, rfl, rfl, ⟨by decide, by decide⟩, ?_⟩
          exact ⟨_, _, rfl, grow _ _ ms3 _ s3 e3 l3⟩
        · exact ⟨m, _, rfl, s3, ms3, e3, by omega⟩
      · rintro σ H3 ⟨m, u, rfl, s3, ms3, e3, l3⟩
        exact ⟨_, _, _, _, rfl, s3, ms3, e3, by omega⟩
  · rintro σ H1 ⟨x, y, z, u, rfl, s1, ms, e1, l1⟩
    rw [List.length_map] at l1
    refine ⟨fun σ H2 => ∃ m : Int, σ = [some (.ref a), some (.ref D), x, y, z, u, some (.int m)] ∧ St0 4000 H2, ?_, ?_⟩
    · refine ⟨_, rfl, a, _, rfl, .inl (s1.seq hS), _, _, rfl, rfl, _, rfl, iteB (fun c => ?_) (fun c => ?_)⟩
      · have z0 := of_decide_eq_true c
        rw [List.length_map] at z0
        have h0 : ns[0]? = some (ns[0]'(by omega)) := List.getElem?_eq_getElem (by omega)
        refine ⟨_, rfl, a, _, 0, _, rfl, rfl, s1.seq hS, atI_nat (j := 0) (v := V.int (ns[0]'(by omega))) (by rw [List.getElem?_map, h0]; rfl), _, rfl, _, _, rfl, rfl, ?_⟩
        exact ⟨_, rfl, s1, ms, e1, by omega⟩
      · exact ⟨1, rfl, s1, ms, e1, by omega⟩
    · rintro σ2 H2 ⟨m, rfl, s2, ms2, e2, l2⟩
      refine ⟨240, rfl, by decide, by decide, for_range (lo := 0) (n := 240) (fun k σ H' => ∃ (m : Int) (u : Option V), σ = [some (.ref a), some (.ref D), x, y, z, u, some (.int m)] ∧ St0 (4000 + k) H') ⟨m, u, rfl, s2, ms2, e2, l2⟩ ?_ ?_⟩
      · rintro k σ H3 hk ⟨m, u, rfl, s3, ms3, e3, l3⟩
        refine ⟨_, rfl, _, _, rfl, rfl, .inr ⟨by decide, by decide⟩, _, _, rfl, rfl, .inl ⟨_, rfl, _, _, rfl, rfl, (by show (0 : Int) < 2147483647; decide), ?_⟩⟩
        refine ⟨_, rfl, .inl ⟨rfl, _, SqL.of e3⟩, _, rfl, _, _, rfl, rfl, ⟨by decide, by decide⟩, D, _, _, rfl, rfl, e3, big _ (by rw [List.length_map]; omega), ?_⟩
        exact ⟨_, _, rfl, grow _ _ ms3 _ s3 e3 l3⟩
      · rintro σ H3 ⟨m, u, rfl, s3, ms3, e3, l3⟩
        refine ⟨_, rfl, D, _, rfl, SqL.of e3, fun p hp => ?_⟩
        refine q p _ (Same.trans s3 (same_new hp _)) (s3.free hp) ⟨ms3.reverse, ?_⟩
        rw [upd_same, List.map_reverse]
/-! ### _law_take -/
abbrev sTk : Stmt := top 43
abbrev nTk : List Str := ["_law_draws_here", "_law_bound"]
theorem scTk : FnScope nTk ["_law_draws_here", "_law_bound"] (defScope sTk) := ⟨rfl, rfl, rfl, by decide +kernel, rfl, by decide +kernel, by decide +kernel⟩
def spTk : Sp := fun vs H Q _ => ∃ (D : Addr) (b : Int), vs = [.ref D, .int b] ∧ 0 < b ∧ IntL H D ∧ ∀ (k : Int) H', 0 ≤ k → k < b → But D H H' → IntL H' D → Q (.int k) H'
theorem ok_tk {f : Addr} {fd : FuncData} (T : Tx0 K mg) (F : Fun K "_law_take" "_law_take" sTk f fd) : FnOk P w K mg base CX0 1 f fd ["_law_draws_here", "_law_bound"] spTk := by
  refine F.ok scTk (fun vs H Q E h => ?_) (fun cdv A outer s H vs Q E hr h => ?_)
  · obtain ⟨D, b, rfl, _⟩ := h
    rfl
  obtain ⟨D, b, rfl, hb, hI, q⟩ := h
  obtain ⟨ms, e⟩ := id hI
  refine ⟨_, pss_cons (ps_if (pt_cmpR op_eq (pe_callB call_len_seq (by rfl) T.len PySem.boot_len (pa_cons (pv 0) pa_nil)) pe_int (nomark _)) (pss_one (ps_ret pe_int)) pss_nil)
    (pss_one (ps_ret (pe_op op_modN (pe_callTy call_int1 (by rfl) T.int (by decide +kernel) (pa_cons (pe_bm0 PySem.F.plainAttrs_list PySem.F.slot_list_pop PySem.F.type_list_pop mt_pop (pv 0)) pa_nil)) (pv 1)))), ?_⟩
  refine ⟨_, rfl, D, _, rfl, .inl (SqL.of e), rfl, _, rfl, iteB (fun c => ?_) (fun c => ?_)⟩
  · exact q 0 H (Int.le_refl 0) hb (But.of (Same.refl H)) hI
  · have hne : ms ≠ [] := fun z => by
      subst z
      exact (of_decide_eq_false c) rfl
    rcases snoc_cases ms with z | ⟨us, x, rfl⟩
    · exact absurd z hne
    refine ⟨_, rfl, .inl ⟨rfl, _, SqL.of e⟩, D, _, V.int x, rfl, rfl, e, ?_, .inl ⟨x, rfl, _, rfl, _, _, rfl, rfl, by omega, ?_⟩⟩
    · rw [List.map_append, List.length_append]
      show (us.map V.int ++ [V.int x])[(us.map V.int).length + 1 - 1]? = _
      rw [Nat.add_sub_cancel, List.getElem?_append_right (Nat.le_refl _), Nat.sub_self]; rfl
    · refine q _ _ (Int.fmod_nonneg_of_pos x hb) (Int.fmod_lt_of_pos x hb) But.upd ⟨us, ?_⟩
      rw [upd_same, List.map_append]
      show some (HO.lst ((us.map V.int ++ [V.int x]).dropLast)) = _
      rw [List.dropLast_concat]
/-! ### an item of a written list at a drawn place -/
theorem pick {xs : List V} {k : Int} (h0 : 0 ≤ k) (h1 : k < (xs.length : Nat)) : ∃ v ∈ xs, atI xs k = some v := by
  have hk : k.toNat < xs.length := by omega
  refine ⟨xs[k.toNat], List.getElem_mem hk, ?_⟩
  have e : k = ((k.toNat : Nat) : Int) := by omega
  have q := atI_nat (xs := xs) (j := k.toNat) (List.getElem?_eq_getElem hk)
  rw [← e] at q
  exact q
/-! ### _law_name -/
abbrev sNm : Stmt := top 44
theorem scNm : FnScope ["_law_draws_here"] ["_law_draws_here"] (defScope sNm) := ⟨rfl, rfl, rfl, by decide +kernel, rfl, by decide +kernel, by decide +kernel⟩
def spNm : Sp := fun vs H Q _ => ∃ (D : Addr), vs = [.ref D] ∧ IntL H D ∧ ∀ (x : Tx) H', isName x = true → But D H H' → IntL H' D → Q (.str (S x)) H'
def nmL : List Tx := [[97], [98,55], [107], [113], [122,122], [57], [97,98,99,100,101,102,103,104,105,106,107,108], wOr, [109,50], wWeight]
theorem nm_eq : ([.str "a", .str "b7", .str "k", .str "q", .str "zz", .str "9", .str "abcdefghijkl", .str "or", .str "m2", .str "weight"] : List V) = nmL.map fun s => V.str (S s) := by decide +kernel
theorem IntL.ne {H : Hp} {D p : Addr} (h : IntL H D) (hp : H p = none) : D ≠ p := by
  obtain ⟨ms, e⟩ := h
  exact ne_of_none e hp
theorem ok_nm {f : Addr} {fd : FuncData} (F : Fun K "_law_name" "_law_name" sNm f fd) (DT : Df P w K mg base CX0 1 "_law_take" ["_law_draws_here", "_law_bound"] spTk) : FnOk P w K mg base CX0 2 f fd ["_law_draws_here"] spNm := by
  refine F.ok scNm (fun vs H Q E h => ?_) (fun cdv A outer s H vs Q E hr h => ?_)
  · obtain ⟨D, rfl, _⟩ := h
    rfl
  obtain ⟨D, rfl, hI, q⟩ := h
  refine ⟨_, pss_one (ps_ret (pe_ix ix_list (pe_lst (pa_cons pe_str (pa_cons pe_str (pa_cons pe_str (pa_cons pe_str (pa_cons pe_str (pa_cons pe_str (pa_cons pe_str (pa_cons pe_str (pa_cons pe_str (pa_cons pe_str pa_nil))))))))))) (pe_df DT hr (pa_cons (pv 0) (pa_cons pe_int pa_nil))) (fun _ _ => rfl))), ?_⟩
  refine ⟨lookS (by decide), fun p hp => ?_⟩
  have sp := same_new hp (HO.lst [.str "a", .str "b7", .str "k", .str "q", .str "zz", .str "9", .str "abcdefghijkl", .str "or", .str "m2", .str "weight"])
  refine ⟨_, rfl, D, 10, rfl, by decide, hI.same sp, fun k H' h0 h1 b hI' => ?_⟩
  obtain ⟨v, hv, ev⟩ := pick (xs := nmL.map fun s => V.str (S s)) h0 (by simpa [nmL] using h1)
  obtain ⟨x, hx, rfl⟩ := List.mem_map.mp hv
  have hL : H' p = some (.lst (nmL.map fun s => V.str (S s))) := by
    rw [b p _ (hI.ne hp).symm upd_same, nm_eq]
  refine ⟨p, _, _, _, rfl, rfl, SqL.of hL, ev, q x H' ?_ ((But.of sp).trans b) hI'⟩
  have : ∀ x ∈ nmL, isName x = true := by decide
  exact this x hx
/-! ### _law_number -/
abbrev sNum : Stmt := top 46
theorem scNum : FnScope ["_law_draws_here"] ["_law_draws_here"] (defScope sNum) := ⟨rfl, rfl, rfl, by decide +kernel, rfl, by decide +kernel, by decide +kernel⟩
def spNum : Sp := fun vs H Q _ => ∃ (D : Addr), vs = [.ref D] ∧ IntL H D ∧ ∀ (n : Int) H', n.natAbs ≤ 1000000 → But D H H' → IntL H' D → Q (.int n) H'
theorem But.at {D p : Addr} {H H' : Hp} {o : HO} (b : But D H H') (n : p ≠ D) (h : H p = some o) : H' p = some o := b p o n h
theorem ok_num {f : Addr} {fd : FuncData} (F : Fun K "_law_number" "_law_number" sNum f fd) (DT : Df P w K mg base CX0 1 "_law_take" ["_law_draws_here", "_law_bound"] spTk) : FnOk P w K mg base CX0 2 f fd ["_law_draws_here"] spNum := by
  refine F.ok scNum (fun vs H Q E h => ?_) (fun cdv A outer s H vs Q E hr h => ?_)
  · obtain ⟨D, rfl, _⟩ := h
    rfl
  obtain ⟨D, rfl, hI, q⟩ := h
  refine ⟨_, pss_one (ps_ret (pe_ix ix_list (pe_lst (pa_cons (pe_op op_sub (pe_df DT hr (pa_cons (pv 0) (pa_cons pe_int pa_nil))) pe_int) (pa_cons pe_int (pa_cons (pe_un un_neg pe_int) (pa_cons pe_int pa_nil)))))
    (pe_ix ix_list (pe_lst (pa_cons pe_int (pa_cons pe_int (pa_cons pe_int (pa_cons pe_int (pa_cons pe_int (pa_cons pe_int pa_nil))))))) (pe_df DT hr (pa_cons (pv 0) (pa_cons pe_int pa_nil))) (fun _ _ => rfl)) (fun _ _ => rfl))), ?_⟩
  refine ⟨_, rfl, D, 41, rfl, by decide, hI, fun k H1 h0 h1 b1 hI1 => ?_⟩
  refine ⟨_, _, rfl, rfl, _, rfl, lookS (by show 4 ≤ 1000000; decide), fun p hp => ?_⟩
  have sp := same_new hp (HO.lst [.int (k - 20), .int 1000000, .int (-1000000), .int 0])
  refine ⟨lookS (by decide), fun p2 hp2 => ?_⟩
  have sp2 := same_new hp2 (HO.lst [.int 0, .int 0, .int 0, .int 1, .int 2, .int 3])
  have hI2 := (hI1.same sp).same sp2
  refine ⟨_, rfl, D, 6, rfl, by decide, hI2, fun k2 H2 h2 h3 b2 hI3 => ?_⟩
  have nD2 : p2 ≠ D := ((hI1.same sp).ne hp2).symm
  have nD1 : p ≠ D := (hI1.ne hp).symm
  have e2 : H2 p2 = some (.lst [.int 0, .int 0, .int 0, .int 1, .int 2, .int 3]) := b2.at nD2 upd_same
  have e1 : H2 p = some (.lst [.int (k - 20), .int 1000000, .int (-1000000), .int 0]) := b2.at nD1 (sp2 _ _ upd_same)
  obtain ⟨v, hv, ev⟩ := pick (xs := [V.int 0, V.int 0, V.int 0, V.int 1, V.int 2, V.int 3]) h2 (by simpa using h3)
  obtain ⟨j, rfl, j0, j1⟩ : ∃ j : Int, v = V.int j ∧ 0 ≤ j ∧ j < 4 := by
    simp at hv
    rcases hv with rfl | rfl | rfl | rfl
    · exact ⟨0, rfl, by decide, by decide⟩
    · exact ⟨1, rfl, by decide, by decide⟩
    · exact ⟨2, rfl, by decide, by decide⟩
    · exact ⟨3, rfl, by decide, by decide⟩
  obtain ⟨v, hv, ev2⟩ := pick (xs := [V.int (k - 20), V.int 1000000, V.int (-1000000), V.int 0]) j0 (by simpa using j1)
  refine ⟨p2, _, _, _, rfl, rfl, SqL.of e2, ev, p, _, _, _, rfl, rfl, SqL.of e1, ev2, ?_⟩
  obtain ⟨n, rfl, hn⟩ : ∃ n : Int, v = V.int n ∧ n.natAbs ≤ 1000000 := by
    simp at hv
    rcases hv with rfl | rfl | rfl | rfl
    · exact ⟨_, rfl, by omega⟩
    · exact ⟨_, rfl, by decide⟩
    · exact ⟨_, rfl, by decide⟩
    · exact ⟨_, rfl, by decide⟩
  exact q n H2 hn (((b1.trans (But.of sp)).trans (But.of sp2)).trans b2) hI3
end
end K05
set_option Elab.async false
set_option linter.all false
set_option maxRecDepth 100000
set_option maxHeartbeats 4000000
namespace K05
open PySem PySem.Spec PyProof.Rows L2
/-- a list of items, tracked -/
def RowsT (H : Hp) (a : Addr) (rows : List Row) : Prop := ∃ rs : List Addr, H a = some (.lst (rs.map V.ref)) ∧ rs.length = rows.length ∧ ∀ (j : Nat) (b : Addr) (r : Row), rs[j]? = some b → rows[j]? = some r → H b = some (.tup (rowV r))
theorem RowsT.rowsAt {K : PySem.W.Frag} {H : Hp} {a : Addr} {rows : List Row} (h : RowsT H a rows) : RowsAt K H a rows := by
  obtain ⟨rs, h1, h2, h3⟩ := h
  exact ⟨rs, SqL.of h1, h2, fun i b r e1 e2 => rd_mk (SqT.of (h3 i b r e1 e2))⟩
theorem IntL.nt {H : Hp} {D b : Addr} {xs : List V} (h : IntL H D) (hb : H b = some (.tup xs)) : b ≠ D := by
  obtain ⟨ms, e⟩ := h
  exact tup_ne hb e (fun _ z => by cases z)
theorem RowsT.but {H H' : Hp} {a D : Addr} {rows : List Row} (h : RowsT H a rows) (hI : IntL H D) (n : a ≠ D) (b : But D H H') : RowsT H' a rows := by
  obtain ⟨rs, h1, h2, h3⟩ := h
  exact ⟨rs, b a _ n h1, h2, fun i c r e1 e2 => b c _ (hI.nt (h3 i c r e1 e2)) (h3 i c r e1 e2)⟩
theorem RowsT.same {H H' : Hp} {a : Addr} {rows : List Row} (h : RowsT H a rows) (s : Same H H') : RowsT H' a rows := by
  obtain ⟨rs, h1, h2, h3⟩ := h
  exact ⟨rs, s a _ h1, h2, fun i c r e1 e2 => s c _ (h3 i c r e1 e2)⟩
def grL : List Tx := [[114,101,100], [98,108,117,101], [107]]
theorem gr_eq : ([.str "red", .str "blue", .str "k"] : List V) = grL.map fun s => V.str (S s) := by decide +kernel
section
variable {P : Program} {w : World} {K : PySem.W.Frag} {mg : Str → Option Value} {base : Heap}
/-! ### _law_items -/
abbrev sIt : Stmt := top 45
abbrev nIt : List Str := ["_law_draws_here", "_law_most", "_law_found", "_law_keys", "_law_k", "_law_key", "_law_weight", "_law_amount"]
theorem scIt : FnScope nIt ["_law_draws_here", "_law_most"] (defScope sIt) := ⟨rfl, rfl, rfl, by decide +kernel, rfl, by decide +kernel, by decide +kernel⟩
def spIt : Sp := fun vs H Q _ => ∃ (D : Addr), vs = [.ref D, .int 6] ∧ IntL H D ∧ ∀ (a : Addr) (rows : List Row) H', But D H H' → IntL H' D → RowsT H' a rows → a ≠ D → (∀ r ∈ rows, r.Ok) → (rows.map Row.key).Nodup → rows.length ≤ 6 → Q (.ref a) H'
theorem ok_it {f : Addr} {fd : FuncData} (T : Tx0 K mg) (F : Fun K "_law_items" "_law_items" sIt f fd) (DT : Df P w K mg base CX0 1 "_law_take" ["_law_draws_here", "_law_bound"] spTk) (DN : Df P w K mg base CX0 2 "_law_name" ["_law_draws_here"] spNm) : FnOk P w K mg base CX0 3 f fd ["_law_draws_here", "_law_most"] spIt := by
  refine F.ok scIt (fun vs H Q E h => ?_) (fun cdv A outer s H vs Q E hr h => ?_)
  · obtain ⟨D, rfl, _⟩ := h
    rfl
  obtain ⟨D, rfl, hI, q⟩ := h
  have hr1 : Room 1 _ := hr.mono (by decide)
  refine ⟨_, pss_cons (ps_set (i := 2) scIt.nd rfl (Or.inl rfl) (pe_lst pa_nil))
    (pss_cons (ps_set (i := 3) scIt.nd rfl (Or.inl rfl) (pe_lst pa_nil))
    (pss_cons (ps_for PassesOwn.never rfl (pi_range1 rfl T.range (pa_cons (pe_df DT hr1 (pa_cons (pv 0) (pa_cons (pe_op op_add (pv 1) pe_int) pa_nil))) pa_nil)) (pg_name (i := 4) scIt.nd rfl (Or.inl rfl))
      (pss_cons (ps_set (i := 5) scIt.nd rfl (Or.inl rfl) (pe_df DN hr (pa_cons (pv 0) pa_nil)))
      (pss_cons (ps_set (i := 6) scIt.nd rfl (Or.inl rfl) (pe_ix ix_list (pe_lst (pa_cons (pe_op op_add pe_int (pe_df DT hr1 (pa_cons (pv 0) (pa_cons pe_int pa_nil)))) (pa_cons pe_int (pa_cons (pe_op op_add pe_int (pe_df DT hr1 (pa_cons (pv 0) (pa_cons pe_int pa_nil)))) pa_nil))))
        (pe_ix ix_list (pe_lst (pa_cons pe_int (pa_cons pe_int (pa_cons pe_int (pa_cons pe_int pa_nil))))) (pe_df DT hr1 (pa_cons (pv 0) (pa_cons pe_int pa_nil))) (fun _ _ => rfl)) (fun _ _ => rfl)))
      (pss_cons (ps_set (i := 7) scIt.nd rfl (Or.inl rfl) (pe_ix ix_list (pe_lst (pa_cons (pe_op op_sub (pe_df DT hr1 (pa_cons (pv 0) (pa_cons pe_int pa_nil))) pe_int) (pa_cons (pe_un un_neg pe_int) (pa_cons pe_int (pa_cons pe_int pa_nil)))))
        (pe_ix ix_list (pe_lst (pa_cons pe_int (pa_cons pe_int (pa_cons pe_int (pa_cons pe_int (pa_cons pe_int pa_nil)))))) (pe_df DT hr1 (pa_cons (pv 0) (pa_cons pe_int pa_nil))) (fun _ _ => rfl)) (fun _ _ => rfl)))
      (pss_one (ps_if (pt_cmpR op_notIn_seq (pv 5) (pv 3) (by rfl))
        (pss_cons (ps_expr (pe_bm PySem.F.plainAttrs_list PySem.F.slot_list_append PySem.F.type_list_append mt_append (pv 3) (pa_cons (pv 5) pa_nil)))
        (pss_one (ps_expr (pe_bm PySem.F.plainAttrs_list PySem.F.slot_list_append PySem.F.type_list_append mt_append (pv 2) (pa_cons (pe_tup (pa_cons (pv 5) (pa_cons (pe_ix ix_list (pe_lst (pa_cons pe_str (pa_cons pe_str (pa_cons pe_str pa_nil)))) (pe_df DT hr1 (pa_cons (pv 0) (pa_cons pe_int pa_nil))) (fun _ _ => rfl)) (pa_cons (pv 6) (pa_cons (pv 7) pa_nil))))) pa_nil)))))
        pss_nil))))))
    (pss_one (ps_ret (pv 2))))), ?_⟩
  refine ⟨Nat.zero_le _, fun fa hfa => ?_⟩
  have s1 := same_new hfa (HO.lst [])
  refine ⟨Nat.zero_le _, fun ka hka => ?_⟩
  have s2 := Same.trans s1 (same_new hka (HO.lst []))
  have nfk : fa ≠ ka := fun z => by rw [← z, upd_same] at hka; cases hka
  have nDf : fa ≠ D := (hI.ne hfa).symm
  have nDk : ka ≠ D := ((hI.same s1).ne hka).symm
  have hfH : H fa = none := hfa
  have hkH : H ka = none := s1.free hka
  refine ⟨_, rfl, _, rfl, _, _, rfl, rfl, D, 7, rfl, by decide, hI.same s2, fun n H1 n0 n1 b1 hI1 => ⟨n, rfl, by omega, by omega, ?_⟩⟩
  have hf1 : H1 fa = some (.lst []) := b1.at nDf (by rw [upd_ne nfk, upd_same])
  have hk1 : H1 ka = some (.lst []) := b1.at nDk upd_same
  refine for_range (lo := 0) (n := n.toNat) (fun i σ H' => ∃ (x y z u : Option V) (rs : List Addr) (rows : List Row), σ = [some (.ref D), some (.int 6), some (.ref fa), some (.ref ka), x, y, z, u] ∧ But D H H' ∧ IntL H' D ∧ H' fa = some (.lst (rs.map V.ref)) ∧ H' ka = some (.lst ((rows.map Row.key).map fun s => V.str (S s))) ∧
      rs.length = rows.length ∧ (∀ (j : Nat) (b : Addr) (r : Row), rs[j]? = some b → rows[j]? = some r → H' b = some (.tup (rowV r))) ∧ (∀ r ∈ rows, r.Ok) ∧ (rows.map Row.key).Nodup ∧ rows.length ≤ i)
    ⟨none, none, none, none, [], [], rfl, (But.of s2).trans b1, hI1, hf1, hk1, rfl, (fun j b r e => by simp at e), (fun r h => nomatch h), List.nodup_nil, Nat.zero_le _⟩ ?_ ?_
  · rintro i σ H2 hi ⟨x, y, z, u, rs, rows, rfl, b2, hI2, hf2, hk2, e1, e2, ok, nd, hl⟩
    have hi6 : i < 6 + 1 := by omega
    -- the state that is carried
    let St0 : Hp → Prop := fun H' => But D H H' ∧ IntL H' D ∧ H' fa = some (.lst (rs.map V.ref)) ∧ H' ka = some (.lst ((rows.map Row.key).map fun s => V.str (S s))) ∧ (∀ (j : Nat) (b : Addr) (r : Row), rs[j]? = some b → rows[j]? = some r → H' b = some (.tup (rowV r)))
    have adv : ∀ Ha Hb, St0 Ha → But D Ha Hb → IntL Hb D → St0 Hb := fun Ha Hb ⟨p1, p2, p3, p4, p5⟩ b hb => ⟨p1.trans b, hb, b.at nDf p3, b.at nDk p4, fun j c r g1 g2 => b c _ (p2.nt (p5 j c r g1 g2)) (p5 j c r g1 g2)⟩
    have adn : ∀ Ha Hb, St0 Ha → Same Ha Hb → St0 Hb := fun Ha Hb st s => adv Ha Hb st (But.of s) (st.2.1.same s)
    have st2 : St0 H2 := ⟨b2, hI2, hf2, hk2, e2⟩
    -- the key
    refine ⟨_, rfl, D, rfl, hI2, fun key H3 hkey b3 hI3 => ?_⟩
    have st3 := adv _ _ st2 b3 hI3
    -- the weight
    refine ⟨_, rfl, D, 20, rfl, by decide, hI3, fun k1 H4 k10 k11 b4 hI4 => ⟨_, _, rfl, rfl, ?_⟩⟩
    have st4 := adv _ _ st3 b4 hI4
    refine ⟨_, rfl, D, 1000, rfl, by decide, hI4, fun k2 H5 k20 k21 b5 hI5 => ⟨_, _, rfl, rfl, lookS (by show 3 ≤ 1000000; decide), fun p1 hp1 => ?_⟩⟩
    have st5 := adv _ _ st4 b5 hI5
    have n1 := same_new hp1 (HO.lst [.int (1 + k1), .int 1000, .int (1 + k2)])
    have st6 := adn _ _ st5 n1
    refine ⟨lookS (by decide), fun p2 hp2 => ?_⟩
    have n2 := same_new hp2 (HO.lst [.int 0, .int 0, .int 1, .int 2])
    have st7 := adn _ _ st6 n2
    refine ⟨_, rfl, D, 4, rfl, by decide, st7.2.1, fun k3 H8 k30 k31 b8 hI8 => ?_⟩
    have st8 := adv _ _ st7 b8 hI8
    have f2 : H8 p2 = some (.lst [.int 0, .int 0, .int 1, .int 2]) := b8.at (st6.2.1.ne hp2).symm upd_same
    have f1 : H8 p1 = some (.lst [.int (1 + k1), .int 1000, .int (1 + k2)]) := b8.at (hI5.ne hp1).symm (n2 _ _ upd_same)
    obtain ⟨v, hv, ev⟩ := pick (xs := [V.int 0, V.int 0, V.int 1, V.int 2]) k30 (by simpa using k31)
    obtain ⟨j, rfl, j0, j1⟩ : ∃ j : Int, v = V.int j ∧ 0 ≤ j ∧ j < 3 := by
      simp at hv
      rcases hv with rfl | rfl | rfl
      · exact ⟨0, rfl, by decide, by decide⟩
      · exact ⟨1, rfl, by decide, by decide⟩
      · exact ⟨2, rfl, by decide, by decide⟩
    obtain ⟨v, hv, ev2⟩ := pick (xs := [V.int (1 + k1), V.int 1000, V.int (1 + k2)]) j0 (by simpa using j1)
    obtain ⟨wt, rfl, wt1, wt2⟩ : ∃ n : Int, v = V.int n ∧ 1 ≤ n ∧ n ≤ 1000 := by
      simp at hv
      rcases hv with rfl | rfl | rfl
      · exact ⟨_, rfl, by omega, by omega⟩
      · exact ⟨_, rfl, by decide, by decide⟩
      · exact ⟨_, rfl, by omega, by omega⟩
    refine ⟨p2, _, _, _, rfl, rfl, SqL.of f2, ev, p1, _, _, _, rfl, rfl, SqL.of f1, ev2, ?_⟩
    -- the amount
    refine ⟨_, rfl, D, 41, rfl, by decide, hI8, fun m1 H9 m10 m11 b9 hI9 => ⟨_, _, rfl, rfl, _, rfl, lookS (by show 4 ≤ 1000000; decide), fun p3 hp3 => ?_⟩⟩
    have st9 := adv _ _ st8 b9 hI9
    have n3 := same_new hp3 (HO.lst [.int (m1 - 20), .int (-1000), .int 1000, .int 0])
    have st10 := adn _ _ st9 n3
    refine ⟨lookS (by decide), fun p4 hp4 => ?_⟩
    have n4 := same_new hp4 (HO.lst [.int 0, .int 0, .int 1, .int 2, .int 3])
    have st11 := adn _ _ st10 n4
    refine ⟨_, rfl, D, 5, rfl, by decide, st11.2.1, fun m2 H12 m20 m21 b12 hI12 => ?_⟩
    have st12 := adv _ _ st11 b12 hI12
    have f4 : H12 p4 = some (.lst [.int 0, .int 0, .int 1, .int 2, .int 3]) := b12.at (st10.2.1.ne hp4).symm upd_same
    have f3 : H12 p3 = some (.lst [.int (m1 - 20), .int (-1000), .int 1000, .int 0]) := b12.at (hI9.ne hp3).symm (n4 _ _ upd_same)
    obtain ⟨v, hv, ev3⟩ := pick (xs := [V.int 0, V.int 0, V.int 1, V.int 2, V.int 3]) m20 (by simpa using m21)
    obtain ⟨j, rfl, j0, j1⟩ : ∃ j : Int, v = V.int j ∧ 0 ≤ j ∧ j < 4 := by
      simp at hv
      rcases hv with rfl | rfl | rfl | rfl
      · exact ⟨0, rfl, by decide, by decide⟩
      · exact ⟨1, rfl, by decide, by decide⟩
      · exact ⟨2, rfl, by decide, by decide⟩
      · exact ⟨3, rfl, by decide, by decide⟩
    obtain ⟨v, hv, ev4⟩ := pick (xs := [V.int (m1 - 20), V.int (-1000), V.int 1000, V.int 0]) j0 (by simpa using j1)
    obtain ⟨am, rfl, am1, am2⟩ : ∃ n : Int, v = V.int n ∧ -1000 ≤ n ∧ n ≤ 1000 := by
      simp at hv
      rcases hv with rfl | rfl | rfl | rfl
      · exact ⟨_, rfl, by omega, by omega⟩
      · exact ⟨_, rfl, by decide, by decide⟩
      · exact ⟨_, rfl, by decide, by decide⟩
      · exact ⟨_, rfl, by decide, by decide⟩
    refine ⟨p4, _, _, _, rfl, rfl, SqL.of f4, ev3, p3, _, _, _, rfl, rfl, SqL.of f3, ev4, ?_⟩
    -- is the key there?
    refine ⟨_, rfl, _, rfl, ka, _, rfl, .inl (SqL.of st12.2.2.2.1), rfl, flatS _, _, rfl, ?_⟩
    rw [if_pos rfl, inS]
    refine iteB (fun c => ?_) (fun c => ?_)
    · have nk : key ∉ rows.map Row.key := by simpa using c
      obtain ⟨q1, q2, q3, q4, q5⟩ := st12
      have lk : ((rows.map Row.key).map fun s => V.str (S s)).length < sizeLine := by rw [List.length_map, List.length_map, sizeLine_eq]; omega
      refine ⟨_, rfl, .inl ⟨rfl, _, SqL.of q4⟩, _, rfl, ka, _, _, rfl, rfl, q4, lk, ?_⟩
      -- behind keys.append
      let H13 : Hp := upd H12 ka (.lst (((rows.map Row.key).map fun s => V.str (S s)) ++ [V.str (S key)]))
      have k13 : H13 ka = some (.lst ((((rows.map Row.key) ++ [key])).map fun s => V.str (S s))) := by
        show upd _ _ _ _ = _
        rw [upd_same]; simp
      have f13 : H13 fa = some (.lst (rs.map V.ref)) := by show upd _ _ _ _ = _; rw [upd_ne nfk]; exact q3
      have i13 : IntL H13 D := by
        obtain ⟨ms, e⟩ := q2
        exact ⟨ms, by show upd _ _ _ _ = _; rw [upd_ne nDk.symm]; exact e⟩
      have b13 : But D H H13 := fun b o n e => by
        show upd _ _ _ _ = _
        rw [upd_ne (ne_of_none e hkH)]; exact q1 b o n e
      have t13 : ∀ (j : Nat) (b : Addr) (r : Row), rs[j]? = some b → rows[j]? = some r → H13 b = some (.tup (rowV r)) := fun j b r g1 g2 => by
        have g := q5 j b r g1 g2
        show upd _ _ _ _ = _
        rw [upd_ne (tup_ne g q4 (fun _ z => by cases z))]; exact g
      refine ⟨_, rfl, .inl ⟨rfl, _, SqL.of f13⟩, _, rfl, lookS (by decide), fun p5 hp5 => ?_⟩
      have hp5 : H13 p5 = none := hp5
      have n5 := same_new hp5 (HO.lst [.str "red", .str "blue", .str "k"])
      refine ⟨_, rfl, D, 3, rfl, by decide, i13.same n5, fun g1 H14 g10 g11 b14 hI14 => ?_⟩
      have f5 : H14 p5 = some (.lst (grL.map fun s => V.str (S s))) := by rw [b14.at (i13.ne hp5).symm upd_same, gr_eq]
      obtain ⟨v, hv, ev5⟩ := pick (xs := grL.map fun s => V.str (S s)) g10 (by simpa [grL] using g11)
      obtain ⟨gr, hg, rfl⟩ := List.mem_map.mp hv
      have gok : isName gr = true := by
        have : ∀ x ∈ grL, isName x = true := by decide
        exact this gr hg
      refine ⟨p5, _, _, _, rfl, rfl, SqL.of f5, ev5, _, rfl, _, rfl, lookS (by show 4 ≤ 1000000; decide), fun t ht => ?_⟩
      have nt := same_new ht (HO.tup [.str (S key), .str (S gr), .int wt, .int am])
      have B := (But.of (p := D) n5).trans b14
      have f15 : (upd H14 t (.tup [.str (S key), .str (S gr), .int wt, .int am])) fa = some (.lst (rs.map V.ref)) := nt _ _ (B.at nDf f13)
      have k15 := nt _ _ (B.at nDk k13)
      have t15 : ∀ (j : Nat) (b : Addr) (r : Row), rs[j]? = some b → rows[j]? = some r → (upd H14 t (.tup [.str (S key), .str (S gr), .int wt, .int am])) b = some (.tup (rowV r)) := fun j b r g1 g2 => nt _ _ (B b _ (i13.nt (t13 j b r g1 g2)) (t13 j b r g1 g2))
      have i15 := hI14.same nt
      have b15 : But D H (upd H14 t (.tup [.str (S key), .str (S gr), .int wt, .int am])) := (b13.trans B).trans (But.of nt)
      refine ⟨fa, _, _, rfl, rfl, f15, by rw [List.length_map, sizeLine_eq]; omega, ?_⟩
      have hd : ∀ j b, rs[j]? = some b → b ≠ fa := fun j b e => by
        have : j < rows.length := by
          have := (List.getElem?_eq_some_iff.mp e).1
          omega
        exact tup_ne (t15 j b _ e (List.getElem?_eq_getElem this)) f15 (fun _ z => by cases z)
      have ntf : t ≠ fa := tup_ne (xs := [.str (S key), .str (S gr), .int wt, .int am]) upd_same f15 (fun _ z => by cases z)
      refine ⟨_, _, _, _, rs ++ [t], rows ++ [⟨key, gr, wt, am⟩], rfl, fun b o n e => ?_, ?_, ?_, ?_, by simp [e1], fun j b r g1 g2 => ?_, fun r hr' => ?_, ?_, by simp; omega⟩
      · rw [upd_ne (ne_of_none e hfH)]; exact b15 b o n e
      · obtain ⟨ms, e⟩ := i15
        exact ⟨ms, by rw [upd_ne nDf.symm]; exact e⟩
      · rw [upd_same, List.map_append]; rfl
      · rw [upd_ne nfk.symm, List.map_append]; exact k15
      · by_cases hj : j < rs.length
        · rw [List.getElem?_append_left hj] at g1
          rw [List.getElem?_append_left (by omega)] at g2
          rw [upd_ne (hd j b g1)]
          exact t15 j b r g1 g2
        · rw [List.getElem?_append_right (by omega)] at g1
          rw [List.getElem?_append_right (by omega)] at g2
          have z1 : j - rs.length = 0 := by
            have := (List.getElem?_eq_some_iff.mp g1).1
            simp at this; omega
          rw [z1] at g1
          rw [show j - rows.length = 0 by omega] at g2
          have : t = b := by simpa using g1
          subst this
          have : (⟨key, gr, wt, am⟩ : Row) = r := by simpa using g2
          subst this
          rw [upd_ne ntf, upd_same]
      · rcases List.mem_append.mp hr' with hr' | hr'
        · exact ok r hr'
        · rw [List.mem_singleton.mp hr']
          exact ⟨hkey, gok, wt1, wt2, am1, am2⟩
      · rw [List.map_append]
        refine List.nodup_append.mpr ⟨nd, by simp, fun a ha b hb => ?_⟩
        have : b = key := by simpa using hb
        subst this
        exact fun z => nk (by rw [← z]; exact ha)
    · obtain ⟨q1, q2, q3, q4, q5⟩ := st12
      exact ⟨_, _, _, _, rs, rows, rfl, q1, q2, q3, q4, e1, q5, ok, nd, by omega⟩
  · rintro σ H2 ⟨x, y, z, u, rs, rows, rfl, b2, hI2, hf2, hk2, e1, e2, ok, nd, hl⟩
    exact ⟨_, rfl, q fa rows H2 b2 hI2 ⟨rs, hf2, e1, e2⟩ nDf ok nd (by omega)⟩
/-! ### _law_condition -/
abbrev sCd : Stmt := top 47
abbrev nCd : List Str := ["_law_draws_here", "_law_depth", "_law_kind", "_law_first"]
theorem scCd : FnScope nCd ["_law_draws_here", "_law_depth"] (defScope sCd) := ⟨rfl, rfl, rfl, by decide +kernel, rfl, by decide +kernel, by decide +kernel⟩
def spCd (K : PySem.W.Frag) (d : Nat) : Sp := fun vs H Q _ => ∃ (D : Addr), vs = [.ref D, .int (d : Int)] ∧ IntL H D ∧ ∀ (a : Addr) (c : Cnd) H', But D H H' → IntL H' D → Dp K H' (.ref a) (cd c) → c.ok → c.depth ≤ d + 1 → Q (.ref a) H'
/-- tuples stay -/
def KeepT (H H' : Hp) : Prop := (∀ b xs, H b = some (.tup xs) → H' b = some (.tup xs)) ∧ ∀ b o u, H b = some (.frz o u) → H' b = some (.frz o u)
theorem But.keepT {H H' : Hp} {D : Addr} (b : But D H H') (hI : IntL H D) : KeepT H H' := by
  obtain ⟨ms, e⟩ := hI
  exact ⟨fun c xs h => b c _ (ne_of h e (by intro z; cases z)) h, fun c o u h => b c _ (ne_of h e (by intro z; cases z)) h⟩
theorem SqT.keepT {H H' : Hp} (k : KeepT H H') {a : Addr} {xs : List V} (h : SqT K H a xs) : SqT K H' a xs := by
  rcases h with (h | ⟨o, h⟩) | h
  · exact .inl (.inl (k.1 a xs h))
  · exact .inl (.inr ⟨o, k.2 a o _ h⟩)
  · exact .inr h
theorem cd_keep {H H' : Hp} (k : KeepT H H') : ∀ (c : Cnd) (a : Addr), Dp K H (.ref a) (cd c) → Dp K H' (.ref a) (cd c)
  | .all, a, h => by
    obtain ⟨xs, h1, h2⟩ := Dp.ref_inv (show Dp K H (.ref a) (.tuple [.str (S wAll)]) from h)
    obtain ⟨v, rfl, e⟩ := h2.one
    rw [e.str_inv] at h1
    exact .tup (SqT.keepT k h1) (.cons (.str _) .nil)
  | .cmp am o n, a, h => .tup (SqT.keepT k (cd_cmp h)) (.cons (.str _) (.cons (.str _) (.cons (.int _) .nil)))
  | .nam b x, a, h => .tup (SqT.keepT k (cd_nam h)) (.cons (.str _) (.cons (.str _) .nil))
  | .not c, a, h => by
    obtain ⟨b, h1, h2⟩ := cd_not h
    exact .tup (SqT.keepT k h1) (.cons (.str _) (.cons (cd_keep k c b h2) .nil))
  | .and c d, a, h => by
    obtain ⟨b, b', h1, h2, h3⟩ := cd_and h
    exact .tup (SqT.keepT k h1) (.cons (.str _) (.cons (cd_keep k c b h2) (.cons (cd_keep k d b' h3) .nil)))
  | .or c d, a, h => by
    obtain ⟨b, b', h1, h2, h3⟩ := cd_or h
    exact .tup (SqT.keepT k h1) (.cons (.str _) (.cons (cd_keep k c b h2) (.cons (cd_keep k d b' h3) .nil)))
def g4L : List Tx := [[114,101,100], [98,108,117,101], [107], wAnd]
theorem g4_eq : ([.str "red", .str "blue", .str "k", .str "and"] : List V) = g4L.map fun s => V.str (S s) := by decide +kernel
theorem at_two {x y : V} {k : Int} (h0 : 0 ≤ k) (h1 : k < 2) : atI [x, y] k = some (if k = 0 then x else y) := by
  have : k = 0 ∨ k = 1 := by omega
  rcases this with rfl | rfl
  · exact atI_nat (j := 0) rfl
  · exact atI_nat (j := 1) rfl
theorem ok_cd {f : Addr} {fd : FuncData} (T : Tx0 K mg) (d k : Nat) (F : Fun K "_law_condition" "_law_condition" sCd f fd) (DT : Df P w K mg base CX0 1 "_law_take" ["_law_draws_here", "_law_bound"] spTk) (DN : Df P w K mg base CX0 2 "_law_name" ["_law_draws_here"] spNm) (DU : Df P w K mg base CX0 2 "_law_number" ["_law_draws_here"] spNum)
    (DC : Df P w K mg base CX0 (k + 2) "_law_condition" ["_law_draws_here", "_law_depth"] (match d with | 0 => fun _ _ _ _ => False | d + 1 => spCd K d)) : FnOk P w K mg base CX0 (k + 3) f fd ["_law_draws_here", "_law_depth"] (spCd K d) := by
  refine F.ok scCd (fun vs H Q E h => ?_) (fun cdv A outer s H vs Q E hr h => ?_)
  · obtain ⟨D, rfl, _⟩ := h
    rfl
  obtain ⟨D, rfl, hI, q⟩ := h
  have hr1 : Room 1 _ := hr.mono (by omega)
  have hr2 : Room 2 _ := hr.mono (by omega)
  refine ⟨_, pss_cons (ps_set (i := 2) scCd.nd rfl (Or.inl rfl) (pe_df DT hr1 (pa_cons (pv 0) (pa_cons pe_int pa_nil))))
    (pss_cons (ps_if (PW.pt (pw_or (pt_cmpR op_eq (pv 1) pe_int (nomark _)) (pw_or1 (pt_cmpR op_lt (pv 2) pe_int (nomark _)))))
      (pss_cons (ps_set (i := 2) scCd.nd rfl (Or.inl rfl) (pe_df DT hr1 (pa_cons (pv 0) (pa_cons pe_int pa_nil))))
      (pss_cons (ps_if (pt_cmpR op_lt (pv 2) pe_int (nomark _)) (pss_one (ps_ret (pe_tup (pa_cons (pe_ix ix_list (pe_lst (pa_cons pe_str (pa_cons pe_str pa_nil))) (pv 2) (fun _ _ => rfl))
        (pa_cons (pe_ix ix_list (pe_lst (pa_cons pe_str (pa_cons pe_str (pa_cons pe_str (pa_cons pe_str (pa_cons pe_str pa_nil)))))) (pe_df DT hr1 (pa_cons (pv 0) (pa_cons pe_int pa_nil))) (fun _ _ => rfl)) (pa_cons (pe_df DU hr2 (pa_cons (pv 0) pa_nil)) pa_nil)))))) pss_nil)
      (pss_cons (ps_if (pt_cmpR op_eq (pv 2) pe_int (nomark _)) (pss_one (ps_ret (pe_tup (pa_cons pe_str (pa_cons (pe_ix ix_list (pe_lst (pa_cons pe_str (pa_cons pe_str (pa_cons pe_str (pa_cons pe_str pa_nil))))) (pe_df DT hr1 (pa_cons (pv 0) (pa_cons pe_int pa_nil))) (fun _ _ => rfl)) pa_nil))))) pss_nil)
      (pss_cons (ps_if (pt_cmpR op_eq (pv 2) pe_int (nomark _)) (pss_one (ps_ret (pe_tup (pa_cons pe_str (pa_cons (pe_df DN hr2 (pa_cons (pv 0) pa_nil)) pa_nil))))) pss_nil)
      (pss_one (ps_ret (pe_tup (pa_cons pe_str pa_nil)))))))) pss_nil)
    (pss_cons (ps_if (pt_cmpR op_eq (pv 2) pe_int (nomark _)) (pss_one (ps_ret (pe_tup (pa_cons pe_str (pa_cons (pe_df DC hr (pa_cons (pv 0) (pa_cons (pe_op op_sub (pv 1) pe_int) pa_nil))) pa_nil))))) pss_nil)
    (pss_cons (ps_set (i := 3) scCd.nd rfl (Or.inl rfl) (pe_df DC hr (pa_cons (pv 0) (pa_cons (pe_op op_sub (pv 1) pe_int) pa_nil))))
    (pss_one (ps_ret (pe_tup (pa_cons (pe_ix ix_list (pe_lst (pa_cons pe_str (pa_cons pe_str pa_nil))) (pe_op op_mod (pe_callTy call_int1 (by rfl) T.int (by decide +kernel) (pa_cons (pv 2) pa_nil)) pe_int) (fun _ _ => rfl)) (pa_cons (pv 3) (pa_cons (pe_df DC hr (pa_cons (pv 0) (pa_cons (pe_op op_sub (pv 1) pe_int) pa_nil))) pa_nil))))))))), ?_⟩
  refine ⟨_, rfl, D, 9, rfl, by decide, hI, fun kd H1 kd0 kd1 b1 hI1 => ?_⟩
  -- a leaf
  have leaf : ∀ (D' : Ends), D'.rt = Q → tSeq (tAsg (tCall spTk [] E0 (tCons (tVar 0) (tCons (tC (.int 5)) tNil))) (gName 2))
      (tSeq (tIfS (tTest (tOp (rI0 fun i j => .bl (decide (i < j))) (tVar 2) (tC (.int 2)))) (tRet (tTup (tCons (tOp (rIxL K) (tLst (tCons (tC (.str "weight")) (tCons (tC (.str "amount")) tNil))) (tVar 2))
          (tCons (tOp (rIxL K) (tLst (tCons (tC (.str "<")) (tCons (tC (.str "<=")) (tCons (tC (.str "=")) (tCons (tC (.str ">=")) (tCons (tC (.str ">")) tNil)))))) (tCall spTk [] E0 (tCons (tVar 0) (tCons (tC (.int 5)) tNil)))) (tCons (tCall spNum [] E0 (tCons (tVar 0) tNil)) tNil))))) tNext)
        (tSeq (tIfS (tTest (tOp rEq (tVar 2) (tC (.int 2)))) (tRet (tTup (tCons (tC (.str "group")) (tCons (tOp (rIxL K) (tLst (tCons (tC (.str "red")) (tCons (tC (.str "blue")) (tCons (tC (.str "k")) (tCons (tC (.str "and")) tNil))))) (tCall spTk [] E0 (tCons (tVar 0) (tCons (tC (.int 4)) tNil)))) tNil)))) tNext)
          (tSeq (tIfS (tTest (tOp rEq (tVar 2) (tC (.int 3)))) (tRet (tTup (tCons (tC (.str "key")) (tCons (tCall spNm [] E0 (tCons (tVar 0) tNil)) tNil)))) tNext) (tRet (tTup (tCons (tC (.str "all")) tNil)))))) D' [some (.ref D), some (.int (d : Int)), some (.int kd), none] H1 := by
    intro D' hD'
    refine ⟨_, rfl, D, 5, rfl, by decide, hI1, fun k2 H2 k20 k21 b2 hI2 => ?_⟩
    have B2 := b1.trans b2
    refine ⟨_, rfl, _, _, rfl, rfl, _, rfl, iteB (fun c => ?_) (fun c => ?_)⟩
    · have c1 := of_decide_eq_true c
      refine ⟨len2, fun p1 hp1 => ?_⟩
      have n1 := same_new hp1 (HO.lst [.str "weight", .str "amount"])
      refine ⟨_, rfl, p1, _, _, _, rfl, rfl, SqL.of upd_same, at_two k20 c1, lookS (by decide), fun p2 hp2 => ?_⟩
      have n2 := same_new hp2 (HO.lst [.str "<", .str "<=", .str "=", .str ">=", .str ">"])
      have I3 := (hI2.same n1).same n2
      refine ⟨_, rfl, D, 5, rfl, by decide, I3, fun k3 H3 k30 k31 b3 hI3 => ?_⟩
      have f2 : H3 p2 = some (.lst (ops.map fun s => V.str (S s))) := by rw [b3.at ((hI2.same n1).ne hp2).symm upd_same, ord_eq]
      obtain ⟨v, hv, ev⟩ := pick (xs := ops.map fun s => V.str (S s)) k30 (by simpa [ops] using k31)
      obtain ⟨o, ho, rfl⟩ := List.mem_map.mp hv
      refine ⟨p2, _, _, _, rfl, rfl, SqL.of f2, ev, _, rfl, D, rfl, hI3, fun n H4 hn b4 hI4 => ⟨len3, fun t ht => ?_⟩⟩
      have nt := same_new ht (HO.tup [if k2 = 0 then .str "weight" else .str "amount", .str (S o), .int n])
      rw [hD']
      refine q t (.cmp (decide (k2 ≠ 0)) o n) _ (((((B2.trans (But.of n1)).trans (But.of n2)).trans b3).trans b4).trans (But.of nt)) (hI4.same nt) ?_ ⟨ho, hn⟩ (by show 1 ≤ d + 1; omega)
      have ek : (if k2 = 0 then V.str "weight" else V.str "amount") = V.str (S (kwC (decide (k2 ≠ 0)))) := by
        by_cases z : k2 = 0
        · rw [if_pos z, z, s_weight]; rfl
        · rw [if_neg z, decide_eq_true z, s_amount]; rfl
      rw [ek]
      exact .tup (SqT.of upd_same) (.cons (.str _) (.cons (.str _) (.cons (.int _) .nil)))
    refine ⟨_, rfl, rfl, _, rfl, iteB (fun c => ?_) (fun c => ?_)⟩
    · refine ⟨lookS (by decide), fun p1 hp1 => ?_⟩
      have n1 := same_new hp1 (HO.lst [.str "red", .str "blue", .str "k", .str "and"])
      refine ⟨_, rfl, D, 4, rfl, by decide, hI2.same n1, fun k3 H3 k30 k31 b3 hI3 => ?_⟩
      have f2 : H3 p1 = some (.lst (g4L.map fun s => V.str (S s))) := by rw [b3.at (hI2.ne hp1).symm upd_same, g4_eq]
      obtain ⟨v, hv, ev⟩ := pick (xs := g4L.map fun s => V.str (S s)) k30 (by simpa [g4L] using k31)
      obtain ⟨x, hx, rfl⟩ := List.mem_map.mp hv
      have xok : isName x = true := by
        have : ∀ x ∈ g4L, isName x = true := by decide
        exact this x hx
      refine ⟨p1, _, _, _, rfl, rfl, SqL.of f2, ev, len2, fun t ht => ?_⟩
      have nt := same_new ht (HO.tup [.str "group", .str (S x)])
      rw [hD']
      refine q t (.nam false x) _ (((B2.trans (But.of n1)).trans b3).trans (But.of nt)) (hI3.same nt) ?_ xok (by show 1 ≤ d + 1; omega)
      rw [s_group]
      exact .tup (SqT.of upd_same) (.cons (.str _) (.cons (.str _) .nil))
    refine ⟨_, rfl, rfl, _, rfl, iteB (fun c => ?_) (fun c => ?_)⟩
    · refine ⟨_, rfl, D, rfl, hI2, fun x H3 xok b3 hI3 => ⟨len2, fun t ht => ?_⟩⟩
      have nt := same_new ht (HO.tup [.str "key", .str (S x)])
      rw [hD']
      refine q t (.nam true x) _ ((B2.trans b3).trans (But.of nt)) (hI3.same nt) ?_ xok (by show 1 ≤ d + 1; omega)
      rw [s_key]
      exact .tup (SqT.of upd_same) (.cons (.str _) (.cons (.str _) .nil))
    · refine ⟨len1, fun t ht => ?_⟩
      have nt := same_new ht (HO.tup [.str "all"])
      rw [hD']
      refine q t .all _ (B2.trans (But.of nt)) (hI2.same nt) ?_ trivial (by show 1 ≤ d + 1; omega)
      rw [s_all]
      exact .tup (SqT.of upd_same) (.cons (.str _) .nil)
  refine ⟨_, rfl, rfl, _, rfl, iteB (fun c => ?_) (fun c => ?_)⟩
  · exact leaf _ rfl
  have dpos : d ≠ 0 := fun z => (of_decide_eq_false c) (by rw [z]; rfl)
  obtain ⟨d', rfl⟩ : ∃ d', d = d' + 1 := ⟨d - 1, by omega⟩
  refine ⟨_, rfl, _, _, rfl, rfl, _, rfl, iteB (fun c2 => ?_) (fun c2 => ?_)⟩
  · exact leaf _ rfl
  have ed : ((d' + 1 : Nat) : Int) - 1 = (d' : Int) := by omega
  have ev : [V.ref D, V.int (((d' + 1 : Nat) : Int) - 1)] = [V.ref D, V.int (d' : Int)] := by rw [ed]
  refine ⟨_, rfl, rfl, _, rfl, iteB (fun c3 => ?_) (fun c3 => ?_)⟩
  · refine ⟨_, rfl, _, rfl, _, _, rfl, rfl, D, ev, hI1, fun a c H2 b2 hI2 hc hok hdp => ⟨len2, fun t ht => ?_⟩⟩
    have nt := same_new ht (HO.tup [.str "not", .ref a])
    refine q t (.not c) _ ((b1.trans b2).trans (But.of nt)) (hI2.same nt) ?_ hok (by show c.depth + 1 ≤ d' + 1 + 1; omega)
    rw [s_not]
    exact .tup (SqT.of upd_same) (.cons (.str _) (.cons (hc.sm (by rw [← s_not]; exact nt)) .nil))
  refine ⟨_, rfl, _, rfl, _, _, rfl, rfl, D, ev, hI1, fun a c H2 b2 hI2 hc hok hdp => ?_⟩
  refine ⟨len2, fun p1 hp1 => ?_⟩
  have n1 := same_new hp1 (HO.lst [.str "and", .str "or"])
  refine ⟨_, rfl, .inl ⟨_, rfl, _, _, rfl, rfl, (by show (0 : Int) < 2; decide), ?_⟩⟩
  refine ⟨p1, _, _, _, rfl, rfl, SqL.of upd_same, at_two (Int.emod_nonneg _ (by decide)) (Int.emod_lt_of_pos _ (by decide)), ?_⟩
  refine ⟨_, rfl, _, rfl, _, rfl, _, _, rfl, rfl, D, ev, hI2.same n1, fun a2 c' H3 b3 hI3 hc' hok' hdp' => ⟨len3, fun t ht => ?_⟩⟩
  have nt := same_new ht (HO.tup [if kd % 2 = 0 then .str "and" else .str "or", .ref a, .ref a2])
  have hc3 : Dp K H3 (.ref a) (cd c) := cd_keep (b3.keepT (hI2.same n1)) c a (hc.sm n1)
  have B := ((((b1.trans b2).trans (But.of n1)).trans b3).trans (But.of nt))
  by_cases z : kd % 2 = 0
  · refine q t (.and c c') _ B (hI3.same nt) ?_ ⟨hok, hok'⟩ (by show max c.depth c'.depth + 1 ≤ d' + 1 + 1; omega)
    refine .tup (xs := [.str (S wAnd), .ref a, .ref a2]) (SqT.of ?_) (.cons (.str _) (.cons (hc3.sm nt) (.cons (hc'.sm nt) .nil)))
    rw [upd_same, if_pos z, s_and]
  · refine q t (.or c c') _ B (hI3.same nt) ?_ ⟨hok, hok'⟩ (by show max c.depth c'.depth + 1 ≤ d' + 1 + 1; omega)
    refine .tup (xs := [.str (S wOr), .ref a, .ref a2]) (SqT.of ?_) (.cons (.str _) (.cons (hc3.sm nt) (.cons (hc'.sm nt) .nil)))
    rw [upd_same, if_neg z, s_or]
theorem Sd.never {CX : CXT} {x qual : Str} {st : Stmt} {ps : List Str} (s : Sd K mg x qual st ps) (k : Nat) : Df P w K mg base CX k x ps (fun _ _ _ _ => False) := s.df fun _ _ _ => ⟨fun _ _ _ _ h => h.elim, fun _ _ _ _ _ _ _ _ _ _ _ _ _ h => h.elim⟩
theorem all_cd (T : Tx0 K mg) (SC : Sd K mg "_law_condition" "_law_condition" sCd ["_law_draws_here", "_law_depth"]) (DT : Df P w K mg base CX0 1 "_law_take" ["_law_draws_here", "_law_bound"] spTk) (DN : Df P w K mg base CX0 2 "_law_name" ["_law_draws_here"] spNm) (DU : Df P w K mg base CX0 2 "_law_number" ["_law_draws_here"] spNum) :
    ∀ d : Nat, Df P w K mg base CX0 (d + 3) "_law_condition" ["_law_draws_here", "_law_depth"] (spCd K d)
  | 0 => SC.df fun _ _ F => ok_cd T 0 0 F DT DN DU (SC.never _)
  | d + 1 => SC.df fun _ _ F => ok_cd T (d + 1) (d + 1) F DT DN DU (all_cd T SC DT DN DU d)
end
end K05
set_option Elab.async false
set_option linter.all false
set_option maxRecDepth 100000
set_option maxHeartbeats 4000000
namespace K05
open PySem PySem.Spec PyProof.Rows L2
section
variable {P : Program} {w : World} {K : PySem.W.Frag} {mg : Str → Option Value} {base : Heap}
/-! ### _law_part, _law_written -/
def spWr (K : PySem.W.Frag) (d : Nat) : Sp := fun vs H Q _ => ∃ (a : Addr) (c : Cnd), vs = [.ref a] ∧ Dp K H (.ref a) (cd c) ∧ c.ok ∧ c.depth ≤ d ∧ c.write.length ≤ 100000 ∧ ∀ H', Same H H' → Q (.str (S c.write)) H'
def spPt (K : PySem.W.Frag) (d : Nat) : Sp := fun vs H Q _ => ∃ (a b : Addr) (c : Cnd) (ws : List Tx), vs = [.ref a, .ref b] ∧ Dp K H (.ref a) (cd c) ∧ c.ok ∧ c.depth ≤ d ∧ c.write.length ≤ 100000 ∧ SqL K H b (ws.map fun s => V.str (S s)) ∧
  ∀ H', Same H H' → Q (.str (S (Cnd.brT (decide (headW c ∈ ws)) c.write))) H'
abbrev sPt : Stmt := top 48
theorem scPt : FnScope ["_law_condition_here", "_law_words", "_law_text"] ["_law_condition_here", "_law_words"] (defScope sPt) := ⟨rfl, rfl, rfl, by decide +kernel, rfl, by decide +kernel, by decide +kernel⟩
theorem ok_pt {f : Addr} {fd : FuncData} (d k : Nat) (F : Fun K "_law_part" "_law_part" sPt f fd) (DW : Df P w K mg base CX0 k "_law_written" ["_law_condition_here"] (spWr K d)) : FnOk P w K mg base CX0 (k + 1) f fd ["_law_condition_here", "_law_words"] (spPt K d) := by
  refine F.ok scPt (fun vs H Q E h => ?_) (fun cdv A outer s H vs Q E hr h => ?_)
  · obtain ⟨a, b, c, ws, rfl, _⟩ := h
    rfl
  obtain ⟨a, b, c, ws, rfl, hc, hok, hd, hl, hS, q⟩ := h
  refine ⟨_, pss_cons (ps_set (i := 2) scPt.nd rfl (Or.inl rfl) (pe_df DW hr (pa_cons (pv 0) pa_nil)))
    (pss_cons (ps_if (pt_cmpR op_in_seq (pe_ix ix_tup (pv 0) pe_int (fun _ _ => rfl)) (pv 1) (by rfl)) (pss_one (ps_ret (pe_op op_add_str (pe_op op_add_str pe_str (pv 2)) pe_str))) pss_nil)
    (pss_one (ps_ret (pv 2)))), ?_⟩
  refine ⟨_, rfl, a, c, rfl, hc, hok, hd, hl, fun H1 s1 => ?_⟩
  obtain ⟨xs, hx, h0⟩ := cd_head (hc.sm s1)
  refine ⟨_, rfl, a, xs, 0, _, rfl, rfl, hx, atI_nat (j := 0) h0, _, rfl, b, _, rfl, .inl (s1.seq hS), rfl, flatS _, _, rfl, ?_⟩
  rw [if_neg Bool.false_ne_true, inS]
  have qq := q H1 s1
  refine iteB (fun c1 => ?_) (fun c1 => ?_)
  · rw [c1] at qq
    refine ⟨_, rfl, _, _, rfl, rfl, ?_, _, _, rfl, rfl, ?_, ?_⟩
    · rw [s_lp, S_len, S_len]; exact lookS (by simp; omega)
    · rw [s_lp, s_rp, S_app, S_len, S_len]; exact lookS (by simp; omega)
    · rw [s_lp, s_rp, S_app, S_app]
      exact qq
  · rw [c1] at qq
    exact ⟨_, rfl, qq⟩
abbrev sWr : Stmt := top 49
theorem scWr : FnScope ["_law_condition_here", "_law_word"] ["_law_condition_here"] (defScope sWr) := ⟨rfl, rfl, rfl, by decide +kernel, rfl, by decide +kernel, by decide +kernel⟩
theorem ok_wr {f : Addr} {fd : FuncData} (T : Tx0 K mg) (d k : Nat) (F : Fun K "_law_written" "_law_written" sWr f fd) (DW : Df P w K mg base CX0 k "_law_written" ["_law_condition_here"] (spWr K d)) (DB : Df P w K mg base CX0 (k + 1) "_law_part" ["_law_condition_here", "_law_words"] (spPt K d)) : FnOk P w K mg base CX0 (k + 2) f fd ["_law_condition_here"] (spWr K (d + 1)) := by
  refine F.ok scWr (fun vs H Q E h => ?_) (fun cdv A outer s H vs Q E hr h => ?_)
  · obtain ⟨a, c, rfl, _⟩ := h
    rfl
  obtain ⟨a, c, rfl, hc, hok, hd, hl, q⟩ := h
  have hr1 : Room k _ := hr.mono (by omega)
  obtain ⟨xs, hx, h0⟩ := cd_head hc
  refine ⟨_, pss_cons (ps_set (i := 1) scWr.nd rfl (Or.inl rfl) (pe_ix ix_tup (pv 0) pe_int (fun _ _ => rfl)))
    (pss_cons (ps_if (pt_cmpR op_eq (pv 1) pe_str (nomark _)) (pss_one (ps_ret pe_str)) pss_nil)
    (pss_cons (ps_if (pt_cmpR op_in_seq (pv 1) (pe_lst (pa_cons pe_str (pa_cons pe_str pa_nil))) (by rfl))
      (pss_one (ps_ret (pe_op op_add_str (pe_op op_add_str (pe_op op_add_str (pe_op op_add_str (pv 1) pe_str) (pe_ix ix_tup (pv 0) pe_int (fun _ _ => rfl))) pe_str) (pe_callTy call_str_int (by rfl) T.str (by decide +kernel) (pa_cons (pe_ix ix_tup (pv 0) pe_int (fun _ _ => rfl)) pa_nil))))) pss_nil)
    (pss_cons (ps_if (pt_cmpR op_in_seq (pv 1) (pe_lst (pa_cons pe_str (pa_cons pe_str pa_nil))) (by rfl))
      (pss_one (ps_ret (pe_op op_add_str (pe_op op_add_str (pv 1) pe_str) (pe_ix ix_tup (pv 0) pe_int (fun _ _ => rfl))))) pss_nil)
    (pss_cons (ps_if (pt_cmpR op_eq (pv 1) pe_str (nomark _))
      (pss_one (ps_ret (pe_op op_add_str pe_str (pe_df DB hr (pa_cons (pe_ix ix_tup (pv 0) pe_int (fun _ _ => rfl)) (pa_cons (pe_lst (pa_cons pe_str (pa_cons pe_str pa_nil))) pa_nil)))))) pss_nil)
    (pss_cons (ps_if (pt_cmpR op_eq (pv 1) pe_str (nomark _))
      (pss_one (ps_ret (pe_op op_add_str (pe_op op_add_str (pe_df DB hr (pa_cons (pe_ix ix_tup (pv 0) pe_int (fun _ _ => rfl)) (pa_cons (pe_lst (pa_cons pe_str pa_nil)) pa_nil))) pe_str)
        (pe_df DB hr (pa_cons (pe_ix ix_tup (pv 0) pe_int (fun _ _ => rfl)) (pa_cons (pe_lst (pa_cons pe_str (pa_cons pe_str pa_nil))) pa_nil)))))) pss_nil)
    (pss_one (ps_ret (pe_op op_add_str (pe_op op_add_str (pe_df DW hr1 (pa_cons (pe_ix ix_tup (pv 0) pe_int (fun _ _ => rfl)) pa_nil)) pe_str)
        (pe_df DB hr (pa_cons (pe_ix ix_tup (pv 0) pe_int (fun _ _ => rfl)) (pa_cons (pe_lst (pa_cons pe_str pa_nil)) pa_nil))))))))))), ?_⟩
  refine ⟨_, rfl, a, xs, 0, _, rfl, rfl, hx, atI_nat (j := 0) h0, ?_⟩
  refine ⟨_, rfl, rfl, _, rfl, ?_⟩
  rw [eqS s_all]
  refine iteB (fun c1 => ?_) (fun c1 => ?_)
  · have e := head_all (of_decide_eq_true c1)
    subst e
    show Q (.str "all") H
    rw [s_all]
    exact q H (Same.refl _)
  have n1 := of_decide_eq_false c1
  refine ⟨_, rfl, len2, fun t ht => ?_⟩
  have st := same_new ht (HO.lst [.str "weight", .str "amount"])
  refine ⟨t, _, rfl, .inl (SqL.of upd_same), rfl, by rw [kwC_eq]; exact flatS _, _, rfl, ?_⟩
  rw [if_neg Bool.false_ne_true, kwC_eq, inS, ← kwC_eq]
  refine iteB (fun c1 => ?_) (fun c1 => ?_)
  · obtain ⟨am, o, n, rfl⟩ := head_cmp (by simpa using c1)
    have hx' := cd_cmp (hc.sm st)
    have lk : (kwC am).length = 6 := by cases am <;> decide
    have lo := (szT_ops hok.1).2.2
    have ln := (numT_len hok.2).2
    refine ⟨_, rfl, _, _, rfl, rfl, ?_, _, rfl, a, _, 1, _, rfl, rfl, hx', atI_nat (j := 1) rfl, _, _, rfl, rfl, ?_, _, _, rfl, rfl, ?_, _, rfl, a, _, 2, _, rfl, rfl, hx', atI_nat (j := 2) rfl, n, rfl, log2_lt hok.2, _, _, rfl, rfl, ?_, ?_⟩
    · rw [s_space, S_len, S_len]; exact lookS (by show (kwC am).length + _ ≤ _; simp; omega)
    · rw [s_space, S_app, S_len, S_len]; exact lookS (by show (kwC am ++ [32]).length + _ ≤ _; simp; omega)
    · rw [s_space, S_app, S_app, S_len, S_len]; exact lookS (by show (kwC am ++ [32] ++ o).length + _ ≤ _; simp; omega)
    · rw [s_space, S_app, S_app, S_app, num_S, S_len, S_len]; exact lookS (by show (kwC am ++ [32] ++ o ++ [32]).length + _ ≤ _; simp; omega)
    rw [s_space, S_app, S_app, S_app, num_S, S_app]
    have e : (Cnd.cmp am o n).write = kwC am ++ [32] ++ o ++ [32] ++ numT n := by
      show kwC am ++ 32 :: (o ++ 32 :: numT n) = _
      simp
    have qq := q _ st
    rw [e] at qq
    exact qq
  have n2 : ¬ (headW c = wWeight ∨ headW c = wAmount) := by simpa using c1
  refine ⟨_, rfl, len2, fun t2 ht2 => ?_⟩
  have st2 := Same.trans st (same_new ht2 (HO.lst [.str "group", .str "key"]))
  refine ⟨t2, _, rfl, .inl (SqL.of upd_same), rfl, by rw [kwN_eq]; exact flatS _, _, rfl, ?_⟩
  rw [if_neg Bool.false_ne_true, kwN_eq, inS, ← kwN_eq]
  refine iteB (fun c1 => ?_) (fun c1 => ?_)
  · obtain ⟨k, x, rfl⟩ := head_nam (by simpa using c1)
    have hx' := cd_nam (hc.sm st2)
    have lk : (kwN k).length ≤ 5 := by cases k <;> decide
    have lx := (name_iff.mp (show isName x = true from hok)).2.1
    refine ⟨_, rfl, _, _, rfl, rfl, ?_, _, rfl, a, _, 1, _, rfl, rfl, hx', atI_nat (j := 1) rfl, _, _, rfl, rfl, ?_, ?_⟩
    · rw [s_space, S_len, S_len]; exact lookS (by show (kwN k).length + _ ≤ _; simp; omega)
    · rw [s_space, S_app, S_len, S_len]; exact lookS (by show (kwN k ++ [32]).length + _ ≤ _; simp; omega)
    · rw [s_space, S_app, S_app]
      have e : (Cnd.nam k x).write = kwN k ++ [32] ++ x := by
        show kwN k ++ 32 :: x = _
        simp
      have qq := q _ st2
      rw [e] at qq
      exact qq
  have n3 : ¬ (headW c = wGroup ∨ headW c = wKey) := by simpa using c1
  refine ⟨_, rfl, rfl, _, rfl, ?_⟩
  rw [eqS s_not]
  refine iteB (fun c1 => ?_) (fun c1 => ?_)
  · obtain ⟨d', rfl⟩ := head_not (of_decide_eq_true c1)
    obtain ⟨b, hx', hb⟩ := cd_not (hc.sm st2)
    have ll := write_not_len d'
    have lg := brT_ge d'.isBin d'.write
    have hd' : d'.depth + 1 ≤ d + 1 := hd
    refine ⟨_, rfl, a, _, 1, _, rfl, rfl, hx', atI_nat (j := 1) rfl, len2, fun t3 ht3 => ?_⟩
    have st3 := same_new ht3 (HO.lst [.str "and", .str "or"])
    refine ⟨b, t3, d', [wAnd, wOr], rfl, hb.sm st3, hok, by omega, by omega, by rw [← ao_eq]; exact SqL.of upd_same, fun H' s' => ?_⟩
    refine ⟨_, _, rfl, rfl, ?_, ?_⟩
    · rw [head_bin, s_not_, S_len, S_len]
      have : (wNot ++ [32]).length = 4 := by decide
      exact lookS (by omega)
    · rw [head_bin, s_not_, S_app]
      have e : (Cnd.not d').write = wNot ++ [32] ++ Cnd.brT d'.isBin d'.write := by
        show wNot ++ 32 :: Cnd.brT d'.isBin d'.write = _
        simp
      have qq := q _ (Same.trans (Same.trans st2 st3) s')
      rw [e] at qq
      exact qq
  have n4 := of_decide_eq_false c1
  refine ⟨_, rfl, rfl, _, rfl, ?_⟩
  rw [eqS s_and]
  refine iteB (fun c1 => ?_) (fun c1 => ?_)
  · obtain ⟨x, y, rfl⟩ := head_and (of_decide_eq_true c1)
    obtain ⟨b, b', hx', hb, hb'⟩ := cd_and (hc.sm st2)
    have e : (Cnd.and x y).write = Cnd.brT x.isOr x.write ++ (32 :: (wAnd ++ [32])) ++ Cnd.brT y.isBin y.write := by
      show Cnd.brT x.isOr x.write ++ 32 :: (wAnd ++ 32 :: Cnd.brT y.isBin y.write) = _
      simp
    have ll : (Cnd.and x y).write.length = (Cnd.brT x.isOr x.write).length + 5 + (Cnd.brT y.isBin y.write).length := by
      rw [e, List.length_append, List.length_append]
      have : (32 :: (wAnd ++ [32])).length = 5 := by decide
      omega
    have lg := brT_ge x.isOr x.write
    have lg' := brT_ge y.isBin y.write
    have hd' : max x.depth y.depth + 1 ≤ d + 1 := hd
    have l5 : (32 :: (wAnd ++ [32])).length = 5 := by decide
    refine ⟨_, rfl, a, _, 1, _, rfl, rfl, hx', atI_nat (j := 1) rfl, len1, fun t3 ht3 => ?_⟩
    have st3 := same_new ht3 (HO.lst [.str "or"])
    refine ⟨b, t3, x, [wOr], rfl, hb.sm st3, hok.1, by omega, by omega, by rw [← o_eq]; exact SqL.of upd_same, fun H4 s4 => ?_⟩
    refine ⟨_, _, rfl, rfl, ?_, ?_⟩
    · rw [head_isOr, s__and_, S_len, S_len]
      exact lookS (by omega)
    refine ⟨_, rfl, a, _, 2, _, rfl, rfl, Same.tup s4 (Same.tup st3 hx'), atI_nat (j := 2) rfl, len2, fun t5 ht5 => ?_⟩
    have st5 := same_new ht5 (HO.lst [.str "and", .str "or"])
    refine ⟨b', t5, y, [wAnd, wOr], rfl, ((hb'.sm st3).sm s4).sm st5, hok.2, by omega, by omega, by rw [← ao_eq]; exact SqL.of upd_same, fun H6 s6 => ?_⟩
    refine ⟨_, _, rfl, rfl, ?_, ?_⟩
    · rw [head_isOr, head_bin, s__and_, S_app, S_len, S_len, List.length_append]
      exact lookS (by omega)
    · rw [head_isOr, head_bin, s__and_, S_app, S_app]
      have qq := q _ (Same.trans (Same.trans (Same.trans (Same.trans st2 st3) s4) st5) s6)
      rw [e] at qq
      exact qq
  have n5 := of_decide_eq_false c1
  obtain ⟨x, y, rfl⟩ := head_or n1 n2 n3 n4 n5
  obtain ⟨b, b', hx', hb, hb'⟩ := cd_or (hc.sm st2)
  have e : (Cnd.or x y).write = x.write ++ (32 :: (wOr ++ [32])) ++ Cnd.brT y.isOr y.write := by
    show x.write ++ 32 :: (wOr ++ 32 :: Cnd.brT y.isOr y.write) = _
    simp
  have l5 : (32 :: (wOr ++ [32])).length = 4 := by decide
  have ll : (Cnd.or x y).write.length = x.write.length + 4 + (Cnd.brT y.isOr y.write).length := by
    rw [e, List.length_append, List.length_append]
    omega
  have lg' := brT_ge y.isOr y.write
  have hd' : max x.depth y.depth + 1 ≤ d + 1 := hd
  refine ⟨_, rfl, a, _, 1, _, rfl, rfl, hx', atI_nat (j := 1) rfl, b, x, rfl, hb, hok.1, by omega, by omega, fun H4 s4 => ?_⟩
  refine ⟨_, _, rfl, rfl, ?_, ?_⟩
  · rw [s__or_, S_len, S_len]
    exact lookS (by omega)
  refine ⟨_, rfl, a, _, 2, _, rfl, rfl, Same.tup s4 hx', atI_nat (j := 2) rfl, len1, fun t5 ht5 => ?_⟩
  have st5 := same_new ht5 (HO.lst [.str "or"])
  refine ⟨b', t5, y, [wOr], rfl, (hb'.sm s4).sm st5, hok.2, by omega, by omega, by rw [← o_eq]; exact SqL.of upd_same, fun H6 s6 => ?_⟩
  refine ⟨_, _, rfl, rfl, ?_, ?_⟩
  · rw [head_isOr, s__or_, S_app, S_len, S_len, List.length_append]
    exact lookS (by omega)
  · rw [head_isOr, s__or_, S_app, S_app]
    have qq := q _ (Same.trans (Same.trans (Same.trans st2 s4) st5) s6)
    rw [e] at qq
    exact qq
theorem all_wr (T : Tx0 K mg) (SW : Sd K mg "_law_written" "_law_written" sWr ["_law_condition_here"]) (SB : Sd K mg "_law_part" "_law_part" sPt ["_law_condition_here", "_law_words"]) : ∀ d : Nat, Df P w K mg base CX0 (2 * d) "_law_written" ["_law_condition_here"] (spWr K d)
  | 0 => SW.df fun _ _ _ => by
    have no : ∀ vs H Q E, ¬ spWr K 0 vs H Q E := fun vs H Q E h => by
      obtain ⟨a, c, _, _, _, hd, _⟩ := h
      have := depth_pos c
      omega
    exact ⟨fun vs H Q E h => absurd h (no vs H Q E), fun A outer s H args us vs Q E _ _ _ _ h => absurd h (no vs H Q E)⟩
  | d + 1 => by
    have ih := all_wr T SW SB d
    have hb : Df P w K mg base CX0 (2 * d + 1) "_law_part" ["_law_condition_here", "_law_words"] (spPt K d) := SB.df fun _ _ F => ok_pt d (2 * d) F ih
    exact SW.df fun _ _ F => ok_wr T d (2 * d) F ih hb
/-! ### _law_changed -/
abbrev sCh : Stmt := top 50
abbrev nCh : List Str := ["_law_draws_here", "_law_text", "_law_at", "_law_pieces", "_law_piece", "_law_kind"]
theorem scCh : FnScope nCh ["_law_draws_here", "_law_text"] (defScope sCh) := ⟨rfl, rfl, rfl, by decide +kernel, rfl, by decide +kernel, by decide +kernel⟩
def spCh : Sp := fun vs H Q _ => ∃ (D : Addr) (l : Tx), vs = [.ref D, .str (S l)] ∧ l.length ≤ 1000 ∧ IntL H D ∧ ∀ (l' : Tx) H', l'.length ≤ l.length + 8 → But D H H' → IntL H' D → Q (.str (S l')) H'
def pcL : List Tx := [[97], [40], [41], [32,97,110,100,32], [32,111,114,32], [110,111,116,32], [60], [61], [45], [48], [55], [32], wAll, wWeight, [32,107,101,121,32], [103,114,111,117,112,32,120], [10], [65]]
abbrev pcV : List V := [.str "a", .str "(", .str ")", .str " and ", .str " or ", .str "not ", .str "<", .str "=", .str "-", .str "0", .str "7", .str " ", .str "all", .str "weight", .str " key ", .str "group x", .str "\n", .str "A"]
theorem pc_eq : pcV = pcL.map fun s => V.str (S s) := by decide +kernel
theorem ok_ch {f : Addr} {fd : FuncData} (T : Tx0 K mg) (F : Fun K "_law_changed" "_law_changed" sCh f fd) (DT : Df P w K mg base CX0 1 "_law_take" ["_law_draws_here", "_law_bound"] spTk) : FnOk P w K mg base CX0 2 f fd ["_law_draws_here", "_law_text"] spCh := by
  refine F.ok scCh (fun vs H Q E h => ?_) (fun cdv A outer s H vs Q E hr h => ?_)
  · obtain ⟨D, l, rfl, _⟩ := h
    rfl
  obtain ⟨D, l, rfl, hl, hI, q⟩ := h
  refine ⟨_, pss_cons (ps_set (i := 2) scCh.nd rfl (Or.inl rfl) (pe_df DT hr (pa_cons (pv 0) (pa_cons (pe_op op_add (pe_callB call_len_str (by rfl) T.len PySem.boot_len (pa_cons (pv 1) pa_nil)) pe_int) pa_nil))))
    (pss_cons (ps_set (i := 3) scCh.nd rfl (Or.inl rfl) (pe_lst (pa_cons pe_str (pa_cons pe_str (pa_cons pe_str (pa_cons pe_str (pa_cons pe_str (pa_cons pe_str (pa_cons pe_str (pa_cons pe_str (pa_cons pe_str (pa_cons pe_str (pa_cons pe_str (pa_cons pe_str (pa_cons pe_str (pa_cons pe_str (pa_cons pe_str (pa_cons pe_str (pa_cons pe_str (pa_cons pe_str pa_nil))))))))))))))))))))
    (pss_cons (ps_set (i := 4) scCh.nd rfl (Or.inl rfl) (pe_ix ix_list (pv 3) (pe_df DT hr (pa_cons (pv 0) (pa_cons (pe_callB call_len_seq (by rfl) T.len PySem.boot_len (pa_cons (pv 3) pa_nil)) pa_nil))) (fun _ _ => rfl)))
    (pss_cons (ps_set (i := 5) scCh.nd rfl (Or.inl rfl) (pe_df DT hr (pa_cons (pv 0) (pa_cons pe_int pa_nil))))
    (pss_cons (ps_if (pt_cmpR op_eq (pv 5) pe_int (nomark _)) (pss_one (ps_ret (pe_op op_add_str (pe_op op_add_str (pe_slice sl_str (pv 1) po_none (po_some (pv 2))) (pv 4)) (pe_slice sl_str (pv 1) (po_some (pv 2)) po_none)))) pss_nil)
    (pss_cons (ps_if (pt_cmpR op_eq (pv 5) pe_int (nomark _)) (pss_one (ps_ret (pe_op op_add_str (pe_slice sl_str (pv 1) po_none (po_some (pv 2))) (pe_slice sl_str (pv 1) (po_some (pe_op op_add (pv 2) pe_int)) po_none)))) pss_nil)
    (pss_cons (ps_if (pt_cmpR op_eq (pv 5) pe_int (nomark _)) (pss_one (ps_ret (pe_op op_add_str (pe_op op_add_str (pe_slice sl_str (pv 1) po_none (po_some (pv 2))) (pv 4)) (pe_slice sl_str (pv 1) (po_some (pe_op op_add (pv 2) pe_int)) po_none)))) pss_nil)
    (pss_one (ps_ret (pe_op op_add_str (pe_slice sl_str (pv 1) po_none (po_some (pe_op op_add (pv 2) (pe_df DT hr (pa_cons (pv 0) (pa_cons pe_int pa_nil)))))) (pe_slice sl_str (pv 1) (po_some (pv 2)) po_none)))))))))), ?_⟩
  have LL : (S l).length ≤ sizeLine := by rw [S_len]; exact lookS (by omega)
  refine ⟨_, rfl, _, rfl, _, rfl, LL, _, _, rfl, rfl, D, _, rfl, by rw [S_len]; omega, hI, fun at_ H1 a0 a1 b1 hI1 => ?_⟩
  obtain ⟨at', rfl⟩ : ∃ n : Nat, at_ = (n : Int) := ⟨at_.toNat, by omega⟩
  have hat : at' ≤ l.length := by rw [S_len] at a1; omega
  refine ⟨lookS (by decide), fun p hp => ?_⟩
  have np := same_new hp (HO.lst pcV)
  refine ⟨_, rfl, _, rfl, _, rfl, p, _, rfl, .inl (SqL.of upd_same), D, 18, rfl, by decide, hI1.same np, fun k H2 k0 k1 b2 hI2 => ?_⟩
  have fp : H2 p = some (.lst (pcL.map fun s => V.str (S s))) := by rw [b2.at (hI1.ne hp).symm upd_same, ← pc_eq]
  obtain ⟨v, hv, ev⟩ := pick (xs := pcL.map fun s => V.str (S s)) k0 (by simpa [pcL] using k1)
  obtain ⟨x, hx, rfl⟩ := List.mem_map.mp hv
  have xl : x.length ≤ 7 := by
    have : ∀ x ∈ pcL, x.length ≤ 7 := by decide
    exact this x hx
  refine ⟨p, _, _, _, rfl, rfl, SqL.of fp, ev, ?_⟩
  refine ⟨_, rfl, D, 4, rfl, by decide, hI2, fun k2 H3 k20 k21 b3 hI3 => ?_⟩
  have B := ((b1.trans (But.of np)).trans b2).trans b3
  have e1 : cutS (S l) none (some (at' : Int)) = S (l.take at') := cut_take l at'
  have e2 : cutS (S l) (some (at' : Int)) none = S (l.drop at') := cut_drop l at'
  have e3 : cutS (S l) (some ((at' : Int) + 1)) none = S (l.drop (at' + 1)) := cut_drop l (at' + 1)
  have t1 : (l.take at').length ≤ l.length := List.length_take_le' _ _
  have t1' : (l.take at').length = min at' l.length := List.length_take
  have t2 : (l.drop at').length = l.length - at' := List.length_drop
  have t3 : (l.drop (at' + 1)).length = l.length - (at' + 1) := List.length_drop
  have L : ∀ n, n ≤ 100000 → n ≤ sizeLine := fun n h => lookS (by omega)
  refine ⟨_, rfl, rfl, _, rfl, iteB (fun c => ?_) (fun c => ?_)⟩
  · refine ⟨_, rfl, _, rfl, _, rfl, _, rfl, LL, _, rfl, _, _, rfl, rfl, by rw [e1, S_len, S_len]; exact L _ (by omega), _, rfl, _, rfl, _, rfl, _, rfl, LL, _, _, rfl, rfl, ?_, ?_⟩
    · rw [e1, e2, S_app, S_len, S_len, List.length_append]; exact L _ (by omega)
    · rw [e1, e2, S_app, S_app]
      exact q _ H3 (by rw [List.length_append, List.length_append]; omega) B hI3
  refine ⟨_, rfl, rfl, _, rfl, iteB (fun c => ?_) (fun c => ?_)⟩
  · refine ⟨_, rfl, _, rfl, _, rfl, _, rfl, LL, _, rfl, _, rfl, _, _, rfl, rfl, _, rfl, _, rfl, LL, _, _, rfl, rfl, ?_, ?_⟩
    · rw [e1, e3, S_len, S_len]; exact L _ (by omega)
    · rw [e1, e3, S_app]
      exact q _ H3 (by rw [List.length_append]; omega) B hI3
  refine ⟨_, rfl, rfl, _, rfl, iteB (fun c => ?_) (fun c => ?_)⟩
  · refine ⟨_, rfl, _, rfl, _, rfl, _, rfl, LL, _, rfl, _, _, rfl, rfl, by rw [e1, S_len, S_len]; exact L _ (by omega), _, rfl, _, rfl, _, _, rfl, rfl, _, rfl, _, rfl, LL, _, _, rfl, rfl, ?_, ?_⟩
    · rw [e1, e3, S_app, S_len, S_len, List.length_append]; exact L _ (by omega)
    · rw [e1, e3, S_app, S_app]
      exact q _ H3 (by rw [List.length_append, List.length_append]; omega) B hI3
  refine ⟨_, rfl, _, rfl, _, rfl, D, 9, rfl, by decide, hI3, fun k3 H4 k30 k31 b4 hI4 => ?_⟩
  obtain ⟨k3', rfl⟩ : ∃ n : Nat, k3 = (n : Int) := ⟨k3.toNat, by omega⟩
  have e4 : cutS (S l) none (some ((at' : Int) + (k3' : Int))) = S (l.take (at' + k3')) := cut_take l (at' + k3')
  have t4 : (l.take (at' + k3')).length ≤ at' + k3' := by rw [List.length_take]; omega
  refine ⟨_, _, rfl, rfl, _, rfl, _, rfl, LL, _, rfl, _, rfl, _, rfl, _, rfl, LL, _, _, rfl, rfl, ?_, ?_⟩
  · rw [e4, e2, S_len, S_len]; exact L _ (by omega)
  · rw [e4, e2, S_app]
    exact q _ H4 (by rw [List.length_append]; omega) (B.trans b4) hI4
/-! ### _law_parsed, _law_read -/
variable {C : Addr}
theorem namesTE {X : Cx} (g : X.mg "TextError" = some (.ref C)) (hg : Gl X "TextError") : Names X "TextError" (.ref C) := ⟨hg, by decide, .inl g⟩
abbrev sPd : Stmt := top 51
theorem scPd : FnScope ["_law_text", "e"] ["_law_text"] (defScope sPd) := ⟨rfl, rfl, rfl, by decide +kernel, rfl, by decide +kernel, by decide +kernel⟩
def vAddr : Option Addr → V
  | some a => .ref a
  | none => .non
def spPd (K : PySem.W.Frag) : Sp := fun vs H Q _ => ∃ l : Tx, vs = [.str (S l)] ∧ l.length ≤ 2000 ∧ (∀ c, parseF l = some c → ∀ a H', Same H H' → Dp K H' (.ref a) (cd c) → Q (.ref a) H') ∧ (parseF l = none → ∀ H', Same H H' → Q .non H')
theorem ok_pd {f : Addr} {fd : FuncData} (TE : TxE K mg C) (F : Fun K "_law_parsed" "_law_parsed" sPd f fd) (DP : Df P w K mg base (L2.CX P w) 110 "parse_condition" ["text"] (spParseC C K)) : FnOk P w K mg base CX0 111 f fd ["_law_text"] (spPd K) := by
  refine F.ok scPd (fun vs H Q E h => ?_) (fun cdv A outer s H vs Q E hr h => ?_)
  · obtain ⟨l, rfl, _⟩ := h
    rfl
  obtain ⟨l, rfl, hl, q, qN⟩ := h
  obtain ⟨f1, fd1, g1, k1, b1, F1⟩ := DP.ex
  refine ⟨_, pss_one (ps_try_as (i := 1) (tb := fun W => tRet (tCallS (spParseC C K) (WE W) (tCons (tVar 0) tNil))) (ts := fun _ _ _ => tRet (tC .non)) (Wout := fun _ _ _ _ => False) rfl rfl scPd.nd rfl rfl (namesTE TE.g rfl) takes0
    (fun W pn xe tk _ => pss_one (ps_ret (by exact (pe_callS F1 hr rfl g1 k1 b1 (fun σ => passAt tk σ) (by exact (pa_cons (pv 0) pa_nil))))))
    (fun a oe cls d pn hz hf => pss_one (ps_ret pe_non))), ?_⟩
  refine ⟨_, rfl, l, rfl, hl, q, fun e d H' s => ⟨true, TE.te, fun _ a _ => qN e H' s, fun z => Bool.noConfusion z⟩⟩
abbrev sRd : Stmt := top 52
theorem scRd : FnScope ["_law_text", "e"] ["_law_text"] (defScope sRd) := ⟨rfl, rfl, rfl, by decide +kernel, rfl, by decide +kernel, by decide +kernel⟩
def spRd (K : PySem.W.Frag) : Sp := fun vs H Q _ => ∃ l : Tx, vs = [.str (S l)] ∧ l.length ≤ 100000 ∧ (linesF l).length ≤ 900 ∧ (∀ rows, readI l = some rows → ∀ a H', Same H H' → RowsAt K H' a rows → Q (.ref a) H') ∧ (readI l = none → ∀ H', Same H H' → Q .non H')
theorem ok_rd {f : Addr} {fd : FuncData} (TE : TxE K mg C) (F : Fun K "_law_read" "_law_read" sRd f fd) (DP : Df P w K mg base (L2.CX P w) 4 "read_items" ["text"] (spReadItems K C)) : FnOk P w K mg base CX0 5 f fd ["_law_text"] (spRd K) := by
  refine F.ok scRd (fun vs H Q E h => ?_) (fun cdv A outer s H vs Q E hr h => ?_)
  · obtain ⟨l, rfl, _⟩ := h
    rfl
  obtain ⟨l, rfl, hl, hn, q, qN⟩ := h
  obtain ⟨f1, fd1, g1, k1, b1, F1⟩ := DP.ex
  refine ⟨_, pss_one (ps_try_as (i := 1) (tb := fun W => tRet (tCallS (spReadItems K C) (WE W) (tCons (tVar 0) tNil))) (ts := fun _ _ _ => tRet (tC .non)) (Wout := fun _ _ _ _ => False) rfl rfl scRd.nd rfl rfl (namesTE TE.g rfl) takes0
    (fun W pn xe tk _ => pss_one (ps_ret (by exact (pe_callS F1 hr rfl g1 k1 b1 (fun σ => passAt tk σ) (by exact (pa_cons (pv 0) pa_nil))))))
    (fun a oe cls d pn hz hf => pss_one (ps_ret pe_non))), ?_⟩
  refine ⟨_, rfl, l, rfl, hl, hn, q, fun e d H' s => ⟨true, TE.te, fun _ a _ => qN e H' s, fun z => Bool.noConfusion z⟩⟩
/-! ### _law_size -/
abbrev sSz : Stmt := top 53
theorem scSz : FnScope ["_law_text", "_law_sign"] ["_law_text"] (defScope sSz) := ⟨rfl, rfl, rfl, by decide +kernel, rfl, by decide +kernel, by decide +kernel⟩
def spSz : Sp := fun vs H Q _ => ∃ l : Tx, vs = [.str (S l)] ∧ l.length ≤ 1000000 ∧ ∀ H', Same H H' → Q (.int (szT l : Nat)) H'
theorem s_sz : (" ()" : Str) = S [32, 40, 41] := by decide +kernel
theorem ok_sz {f : Addr} {fd : FuncData} (T : Tx0 K mg) (F : Fun K "_law_size" "_law_size" sSz f fd) : FnOk P w K mg base CX0 1 f fd ["_law_text"] spSz := by
  refine F.ok scSz (fun vs H Q E h => ?_) (fun cdv A outer s H vs Q E hr h => ?_)
  · obtain ⟨l, rfl, _⟩ := h
    rfl
  obtain ⟨l, rfl, hl, q⟩ := h
  refine ⟨_, pss_one (ps_ret (pe_callB call_len_seq (by rfl) T.len PySem.boot_len (pa_cons (pe_lc (own := [("_law_sign", 1)]) (g := gName 1) rfl scSz.nd (pi_str (pv 0))
      (blkOk_by (N := ["_law_text", "_law_sign"]) (sc := defScope sSz) (by decide +kernel)) (fun _ _ _ _ _ => pg_name (i := 1) scSz.nd rfl (Or.inl rfl)) (fun _ _ _ _ _ => pts_one (pt_cmpR op_notIn_sign (pv 1) pe_str (by rfl)))
      (fun _ _ _ _ _ => pv 1)) pa_nil))), ?_⟩
  refine ⟨_, rfl, _, rfl, fun D hD => lc_chars othS (fun c => .str ⟨#[c]⟩) hl (fun c hc H' K1 K2 hk => ?_) ?_⟩
  · refine ⟨rfl, _, rfl, c, _, rfl, rfl, _, rfl, ?_⟩
    have e : (!decide (c ∈ (" ()" : Str).cps.toList)) = othS c := by
      rw [s_sz, S_list]
      unfold othS
      by_cases h1 : c = 32 <;> by_cases h2 : c = 40 <;> by_cases h3 : c = 41 <;> simp [h1, h2, h3]
    rw [e]
    by_cases h : othS c = true
    · rw [if_pos h] at hk
      refine (show if othS c = true then _ else _ from ?_)
      rw [if_pos h]
      exact ⟨_, rfl, hk⟩
    · rw [if_neg h] at hk
      refine (show if othS c = true then _ else _ from ?_)
      rw [if_neg h]
      exact hk
  · refine ⟨D, _, rfl, .inl (SqL.of upd_same), ?_⟩
    rw [List.length_map]
    exact q _ (same_new hD _)
end
end K05
set_option Elab.async false
set_option linter.all false
set_option maxRecDepth 100000
set_option maxHeartbeats 4000000
namespace K05
open PySem PySem.Spec PyProof.Rows L2
/-! ### != of data of any depth that has room -/
def rNeX (K : PySem.W.Frag) : R2 := fun x y H Q => ∃ d e, Dp K H x d ∧ Dp K H y e ∧ d.canLay0 = true ∧ e.canLay0 = true ∧ d.depth ≤ 200 ∧ Q (.bl (!PyData.eqv d e)) H
theorem op_neX {X : Cx} {k : Nat} (hr : Room k X.A) : OpR X (compareOp .NotEq) (rNeX X.K) := by
  intro pins s σ H x y v u Q I rx ry h
  obtain ⟨d, e, hd, he, sd, se, hz, q⟩ := h
  obtain ⟨as, r1⟩ := Dp.reads I d x v hd rx
  obtain ⟨bs, r2⟩ := Dp.reads I e y u he ry
  have hu : X.A.units + min d.depth e.depth < cLine := by
    have := hr.un
    have : min d.depth e.depth ≤ d.depth := Nat.min_le_left _ _
    omega
  exact SeqAt.compareNe_reads r1 r2 sd se hu ⟨.bl _, H, I, rfl, q⟩
theorem S_ok {l : Tx} (h : ∀ c ∈ l, c < 128) : PyData.strOk (S l) = true := by
  unfold PyData.strOk
  show (l.toArray.all fun c => decide (c < 0x110000)) = true
  rw [List.all_toArray, List.all_eq_true]
  exact fun c hc => decide_eq_true (by have := h c hc; omega)
theorem sign_lt {c : Nat} (h : isSign c = true) : c < 128 := by
  unfold isSign at h
  simp at h; omega
theorem name_lt {x : Tx} (h : isName x = true) : ∀ c ∈ x, c < 128 := fun c hc => sign_lt (List.all_eq_true.mp (name_iff.mp h).2.2 c hc)
theorem op_lt128 {o : Tx} (h : o ∈ ops) : ∀ c ∈ o, c < 128 := by
  have : ∀ o ∈ ops, ∀ c ∈ o, c < 128 := by decide
  exact this o h
theorem kwC_lt (am : Bool) : ∀ c ∈ kwC am, c < 128 := by cases am <;> decide
theorem kwN_lt (k : Bool) : ∀ c ∈ kwN k, c < 128 := by cases k <;> decide
theorem lay2 {a b : PyData} (h1 : a.canLay0 = true) (h2 : b.canLay0 = true) : (PyData.tuple [a, b]).canLay0 = true := by
  simp [PyData.canLay0, PyData.canLayAll0, h1, h2]
theorem lay3 {a b c : PyData} (h1 : a.canLay0 = true) (h2 : b.canLay0 = true) (h3 : c.canLay0 = true) : (PyData.tuple [a, b, c]).canLay0 = true := by
  simp [PyData.canLay0, PyData.canLayAll0, h1, h2, h3]
theorem layS {l : Tx} (h : ∀ c ∈ l, c < 128) : (PyData.str (S l)).canLay0 = true := by
  simp only [PyData.canLay0]; exact S_ok h
theorem cd_lay : ∀ c : Cnd, c.ok → (cd c).canLay0 = true ∧ (cd c).depth = c.depth
  | .all, _ => ⟨by simp only [cd, PyData.canLay0, PyData.canLayAll0, Bool.and_true]; exact S_ok (by decide), by simp [cd, PyData.depth, PyData.depthAll, Cnd.depth]⟩
  | .cmp am o n, h => ⟨lay3 (layS (kwC_lt am)) (layS (op_lt128 h.1)) (by simp [PyData.canLay0]), by simp [cd, PyData.depth, PyData.depthAll, Cnd.depth]⟩
  | .nam k x, h => ⟨lay2 (layS (kwN_lt k)) (layS (name_lt h)), by simp [cd, PyData.depth, PyData.depthAll, Cnd.depth]⟩
  | .not c, h => by
    have ih := cd_lay c h
    exact ⟨lay2 (layS (by decide)) ih.1, by simp [cd, PyData.depth, PyData.depthAll, Cnd.depth, ih.2]⟩
  | .and c d, h => by
    have ih := cd_lay c h.1
    have ih2 := cd_lay d h.2
    exact ⟨lay3 (layS (by decide)) ih.1 ih2.1, by simp [cd, PyData.depth, PyData.depthAll, Cnd.depth, ih.2, ih2.2]⟩
  | .or c d, h => by
    have ih := cd_lay c h.1
    have ih2 := cd_lay d h.2
    exact ⟨lay3 (layS (by decide)) ih.1 ih2.1, by simp [cd, PyData.depth, PyData.depthAll, Cnd.depth, ih.2, ih2.2]⟩
theorem rd_lay {r : Row} (h : r.Ok) : (rd r).canLay0 = true ∧ (rd r).depth = 1 := by
  have a : PyData.strOk (S r.key) = true := S_ok (name_lt h.key)
  have b : PyData.strOk (S r.grp) = true := S_ok (name_lt h.grp)
  exact ⟨by simp [rd, PyData.canLay0, PyData.canLayAll0, a, b], by simp [rd, PyData.depth, PyData.depthAll]⟩
theorem rds_lay : ∀ {rows : List Row}, (∀ r ∈ rows, r.Ok) → PyData.canLayAll0 (rows.map rd) = true ∧ PyData.depthAll (rows.map rd) ≤ 1
  | [], _ => ⟨rfl, Nat.zero_le _⟩
  | r :: rs, h => by
    have i1 := rd_lay (h r (List.mem_cons_self ..))
    have i2 := rds_lay fun x hx => h x (List.mem_cons_of_mem _ hx)
    refine ⟨?_, ?_⟩
    · rw [List.map_cons]; simp only [PyData.canLayAll0, i1.1, i2.1]; rfl
    · rw [List.map_cons]; simp only [PyData.depthAll, i1.2]; omega
/-! ### the law's condition is short -/
theorem len_depth : ∀ c : Cnd, c.ok → ∃ k, c.depth = k + 1 ∧ c.write.length + 9 ≤ 27 * 2 ^ k
  | .all, _ => ⟨0, rfl, by decide⟩
  | .cmp am o n, h => ⟨0, rfl, by
    have ho := (szT_ops h.1).2.2
    have hn := (numT_len h.2).2
    have e2 : (if am then wAmount else wWeight).length = 6 := by cases am <;> decide
    show ((if am then wAmount else wWeight) ++ 32 :: (o ++ 32 :: numT n)).length + 9 ≤ _
    rw [List.length_append, e2, List.length_cons, List.length_append, List.length_cons]
    omega⟩
  | .nam k x, h => ⟨0, rfl, by
    have q := (name_iff.mp (show isName x = true from h)).2.1
    have e2 : (if k then wKey else wGroup).length ≤ 5 := by cases k <;> decide
    show ((if k then wKey else wGroup) ++ 32 :: x).length + 9 ≤ _
    rw [List.length_append, List.length_cons]
    omega⟩
  | .not c, h => by
    obtain ⟨k, e, l⟩ := len_depth c h
    refine ⟨k + 1, by show c.depth + 1 = _; omega, ?_⟩
    have b := len_brT c.isBin c.write
    have z := write_not_len c
    have p : 1 ≤ 2 ^ k := Nat.one_le_two_pow
    rw [Nat.pow_succ]
    omega
  | .and c d, h => by
    obtain ⟨k, e, l⟩ := len_depth c h.1
    obtain ⟨k', e', l'⟩ := len_depth d h.2
    refine ⟨max k k' + 1, by show max c.depth d.depth + 1 = _; omega, ?_⟩
    have b := len_brT c.isOr c.write
    have b' := len_brT d.isBin d.write
    have e2 : wAnd.length = 3 := by decide
    show (Cnd.brT c.isOr c.write ++ 32 :: (wAnd ++ 32 :: Cnd.brT d.isBin d.write)).length + 9 ≤ _
    rw [List.length_append, List.length_cons, List.length_append, List.length_cons, e2, Nat.pow_succ]
    have m1 : 2 ^ k ≤ 2 ^ max k k' := Nat.pow_le_pow_right (by decide) (Nat.le_max_left _ _)
    have m2 : 2 ^ k' ≤ 2 ^ max k k' := Nat.pow_le_pow_right (by decide) (Nat.le_max_right _ _)
    omega
  | .or c d, h => by
    obtain ⟨k, e, l⟩ := len_depth c h.1
    obtain ⟨k', e', l'⟩ := len_depth d h.2
    refine ⟨max k k' + 1, by show max c.depth d.depth + 1 = _; omega, ?_⟩
    have b' := len_brT d.isOr d.write
    have e2 : wOr.length = 2 := by decide
    show (c.write ++ 32 :: (wOr ++ 32 :: Cnd.brT d.isOr d.write)).length + 9 ≤ _
    rw [List.length_append, List.length_cons, List.length_append, List.length_cons, e2, Nat.pow_succ]
    have m1 : 2 ^ k ≤ 2 ^ max k k' := Nat.pow_le_pow_right (by decide) (Nat.le_max_left _ _)
    have m2 : 2 ^ k' ≤ 2 ^ max k k' := Nat.pow_le_pow_right (by decide) (Nat.le_max_right _ _)
    omega
theorem len_four {c : Cnd} (h : c.ok) (hd : c.depth ≤ 4) : c.write.length ≤ 207 := by
  obtain ⟨k, e, l⟩ := len_depth c h
  have m : 2 ^ k ≤ 2 ^ 3 := Nat.pow_le_pow_right (by decide) (by omega)
  omega
/-! ### the law -/
section
variable {P : Program} {w : World} {K : PySem.W.Frag} {mg : Str → Option Value} {base : Heap}
abbrev sLaw : Stmt := top 54
abbrev nLaw : List Str := ["_law_script", "_law_draws_here", "_law_items_here", "_law_text", "_law_turn", "_law_condition_here", "_law_written_here", "_law_sign", "_law_item", "_law_rows"]
theorem scLaw : FnScope nLaw ["_law_script"] (defScope sLaw) := ⟨rfl, rfl, rfl, by decide +kernel, rfl, by decide +kernel, by decide +kernel⟩
def spLaw (K : PySem.W.Frag) : Sp := fun vs H Q _ => ∃ (a : Addr) (ns : List Int), vs = [.ref a] ∧ SqL K H a (ns.map V.int) ∧ ns.length ≤ 63 ∧ ∀ H', Q (.bl true) H'
def isLp (c : Nat) : Bool := decide (c = 40)
theorem parT_eq (l : Tx) : (l.filter isLp).length = parT l := rfl
theorem ok_law {f : Addr} {fd : FuncData} (T : Tx0 K mg) (F : Fun K "law" "law" sLaw f fd) (D1 : Df P w K mg base CX0 1 "_law_draws" ["_law_script"] (spDraws K)) (D2 : Df P w K mg base CX0 3 "_law_items" ["_law_draws_here", "_law_most"] spIt)
    (D3 : Df P w K mg base CX0 6 "_law_condition" ["_law_draws_here", "_law_depth"] (spCd K 3)) (D4 : Df P w K mg base CX0 8 "_law_written" ["_law_condition_here"] (spWr K 4)) (D5 : Df P w K mg base CX0 2 "_law_changed" ["_law_draws_here", "_law_text"] spCh)
    (D6 : Df P w K mg base CX0 111 "_law_parsed" ["_law_text"] (spPd K)) (D7 : Df P w K mg base CX0 180 "write_condition" ["condition"] (spWrite K 90)) (D8 : Df P w K mg base CX0 1 "_law_size" ["_law_text"] spSz) (D9 : Df P w K mg base CX0 91 "held" ["condition", "item"] (spHeld K 90))
    (D10 : Df P w K mg base CX0 1 "write_items" ["rows"] (spWriteItems K)) (D11 : Df P w K mg base CX0 5 "_law_read" ["_law_text"] (spRd K)) (D12 : Df P w K mg base CX0 3 "check_items" ["rows"] (spCheck K)) : FnOk P w K mg base CX0 181 f fd ["_law_script"] (spLaw K) := by
  refine F.ok scLaw (fun vs H Q E h => ?_) (fun cdv A outer s H vs Q E hr h => ?_)
  · obtain ⟨a, ns, rfl, _⟩ := h
    rfl
  obtain ⟨a, ns, rfl, hS, hn, q⟩ := h
  have R : ∀ k, k ≤ 180 → Room k _ := fun k h => hr.mono h
  refine ⟨_, pss_cons (ps_set (i := 1) scLaw.nd rfl (Or.inl rfl) (pe_df D1 (R 1 (by decide)) (pa_cons (pv 0) pa_nil)))
    (pss_cons (ps_set (i := 2) scLaw.nd rfl (Or.inl rfl) (pe_df D2 (R 3 (by decide)) (pa_cons (pv 1) (pa_cons pe_int pa_nil))))
    (pss_cons (ps_set (i := 3) scLaw.nd rfl (Or.inl rfl) (pe_df D4 (R 8 (by decide)) (pa_cons (pe_df D3 (R 6 (by decide)) (pa_cons (pv 1) (pa_cons pe_int pa_nil))) pa_nil)))
    (pss_cons (ps_for PassesOwn.never rfl (pi_range1 rfl T.range (pa_cons pe_int pa_nil)) (pg_name (i := 4) scLaw.nd rfl (Or.inl rfl))
      (pss_cons (ps_set (i := 3) scLaw.nd rfl (Or.inl rfl) (pe_df D5 (R 2 (by decide)) (pa_cons (pv 1) (pa_cons (pv 3) pa_nil))))
      (pss_cons (ps_set (i := 5) scLaw.nd rfl (Or.inl rfl) (pe_df D6 (R 111 (by decide)) (pa_cons (pv 3) pa_nil)))
      (pss_one (ps_if (pt_cmp (pc_notN (pv 5)))
        (pss_cons (ps_set (i := 6) scLaw.nd rfl (Or.inl rfl) (pe_df D7 (R 180 (by decide)) (pa_cons (pv 5) pa_nil)))
        (pss_cons (ps_if (PW.pt (pw_or (pt_cmpR (op_neX hr) (pe_df D6 (R 111 (by decide)) (pa_cons (pv 6) pa_nil)) (pv 5) (nomark _)) (pw_or1 (pt_cmpR op_ne (pe_df D8 (R 1 (by decide)) (pa_cons (pv 6) pa_nil)) (pe_df D8 (R 1 (by decide)) (pa_cons (pv 3) pa_nil)) (nomark _))))) pss_never pss_nil)
        (pss_cons (ps_if (pt_cmpR op_gt
            (pe_callB call_len_seq (by rfl) T.len PySem.boot_len (pa_cons (pe_lc (own := [("_law_sign", 7)]) (g := gName 7) rfl scLaw.nd (pi_str (pv 6)) (blkOk_by (N := nLaw) (sc := defScope sLaw) (by decide +kernel)) (fun _ _ _ _ _ => pg_name (i := 7) scLaw.nd rfl (Or.inl rfl)) (fun _ _ _ _ _ => pts_one (pt_cmpR op_eq (pv 7) pe_str (nomark _))) (fun _ _ _ _ _ => pv 7)) pa_nil))
            (pe_callB call_len_seq (by rfl) T.len PySem.boot_len (pa_cons (pe_lc (own := [("_law_sign", 7)]) (g := gName 7) rfl scLaw.nd (pi_str (pv 3)) (blkOk_by (N := nLaw) (sc := defScope sLaw) (by decide +kernel)) (fun _ _ _ _ _ => pg_name (i := 7) scLaw.nd rfl (Or.inl rfl)) (fun _ _ _ _ _ => pts_one (pt_cmpR op_eq (pv 7) pe_str (nomark _))) (fun _ _ _ _ _ => pv 7)) pa_nil)) (nomark _)) pss_never pss_nil)
        (pss_one (ps_for PassesOwn.never rfl (pi_list (pv 2)) (pg_name (i := 8) scLaw.nd rfl (Or.inl rfl))
          (pss_one (ps_if (pt_not (pt_val (pe_callB call_isi (by rfl) T.isi (by decide +kernel) (pa_cons (pe_df D9 (R 91 (by decide)) (pa_cons (pv 5) (pa_cons (pv 8) pa_nil))) (pa_cons (pe_bltn (v := .ty "bool") (by rfl) T.bool (by decide +kernel) rfl) pa_nil))))) pss_never pss_nil))))))) pss_nil)))))
    (pss_cons (ps_set (i := 3) scLaw.nd rfl (Or.inl rfl) (pe_df D10 (R 1 (by decide)) (pa_cons (pv 2) pa_nil)))
    (pss_cons (ps_for PassesOwn.never rfl (pi_range1 rfl T.range (pa_cons pe_int pa_nil)) (pg_name (i := 4) scLaw.nd rfl (Or.inl rfl))
      (pss_cons (ps_set (i := 3) scLaw.nd rfl (Or.inl rfl) (pe_df D5 (R 2 (by decide)) (pa_cons (pv 1) (pa_cons (pv 3) pa_nil))))
      (pss_cons (ps_set (i := 9) scLaw.nd rfl (Or.inl rfl) (pe_df D11 (R 5 (by decide)) (pa_cons (pv 3) pa_nil)))
      (pss_one (ps_if (PW.pt (pw_and (pt_cmp (pc_notN (pv 9))) (pw_and1 (PW.pt (pw_or (pt_cmp (pc_notN (pe_df D12 (R 3 (by decide)) (pa_cons (pv 9) pa_nil)))) (pw_or1 (pt_cmpR (op_neX hr) (pe_df D11 (R 5 (by decide)) (pa_cons (pe_df D10 (R 1 (by decide)) (pa_cons (pv 9) pa_nil)) pa_nil)) (pv 9) (nomark _))))))))
        pss_never pss_nil)))))
    (pss_one (ps_ret pe_bl))))))), ?_⟩
  refine ⟨_, rfl, a, ns, rfl, hS, hn, fun D H1 s1 hD hI1 => ?_⟩
  refine ⟨_, rfl, D, rfl, hI1, fun it rows H2 b2 hI2 hR2 nit okr ndr lr => ?_⟩
  refine ⟨_, rfl, D, rfl, hI2, fun c0 cn H3 b3 hI3 hc0 hok0 hd0 => ?_⟩
  have hR3 := hR2.but hI2 nit b3
  have l0 := len_four hok0 hd0
  refine ⟨c0, cn, rfl, hc0, hok0, hd0, by omega, fun H4 s4 => ?_⟩
  have hI4 := hI3.same s4
  have hR4 := hR3.same s4
  -- the first loop
  refine ⟨5, rfl, by decide, by decide, for_range (lo := 0) (n := 5) (fun i σ H' => ∃ (l : Tx) (x4 x5 x6 x8 : Option V), σ = [some (.ref a), some (.ref D), some (.ref it), some (.str (S l)), x4, x5, x6, none, x8, none] ∧ l.length ≤ 207 + 8 * i ∧ IntL H' D ∧ RowsT H' it rows)
    ⟨cn.write, none, none, none, none, rfl, by omega, hI4, hR4⟩ ?_ ?_⟩
  · rintro i σ H5 hi ⟨l, x4, x5, x6, x8, rfl, hl, hI5, hR5⟩
    refine ⟨_, rfl, _, rfl, D, l, rfl, by omega, hI5, fun l' H6 hl' b6 hI6 => ?_⟩
    have hR6 := hR5.but hI5 nit b6
    have hl2 : l'.length ≤ 247 := by omega
    refine ⟨_, rfl, l', rfl, by omega, fun c ec ca H7 s7 hc => ?_, fun ec H7 s7 => ?_⟩
    · obtain ⟨okc, mk, sz, par⟩ := parse_got ec
      have bnd := write_bounds c okc
      have szl := szT_le l'
      have dep : c.depth ≤ 90 := by omega
      have wl : c.write.length ≤ 1000 := by omega
      have rt := parse_write okc mk
      have ly := cd_lay c okc
      have hI7 := hI6.same s7
      have hR7 := hR6.same s7
      refine ⟨_, rfl, _, rfl, iteT ?_⟩
      refine ⟨_, rfl, ca, c, rfl, hc, okc, dep, by omega, fun H8 s8 => ?_⟩
      refine ⟨_, rfl, c.write, rfl, by omega, fun c' ec' ca' H9 s9 hc' => ?_, fun ec' => by rw [rt] at ec'; cases ec'⟩
      have ecc : c = c' := by rw [rt] at ec'; exact Option.some.inj ec'
      subst ecc
      have hc9 := (hc.sm s8).sm s9
      refine ⟨_, rfl, cd c, cd c, hc', hc9, ly.1, ly.1, by rw [ly.2]; omega, _, rfl, ?_⟩
      rw [SeqAt.eqv_refl _ ly.1]
      refine iteF ?_
      refine ⟨_, rfl, c.write, rfl, by omega, fun H10 s10 => ⟨_, rfl, l', rfl, by omega, fun H11 s11 => ⟨rfl, _, rfl, ?_⟩⟩⟩
      rw [sz]
      refine (show if (!decide (V.int ((szT l' : Nat) : Int) = V.int ((szT l' : Nat) : Int))) = true then _ else _ from ?_)
      rw [decide_eq_true rfl]
      refine iteF ?_
      have hp1 : ∀ (l : Tx) (c : Nat), c ∈ l → (scal (.str ⟨#[c]⟩) (.str "(") = true ∧ decide (V.str ⟨#[c]⟩ = .str "(") = isLp c) := fun l c _ => ⟨rfl, by
        have e : decide (V.str ⟨#[c]⟩ = .str "(") = decide ([c] = [40]) := eqS (l := [c]) s_lp
        rw [e]
        unfold isLp
        simp⟩
      refine ⟨_, rfl, _, rfl, fun E1 hE1 => lc_chars isLp (fun c => .str ⟨#[c]⟩) (by omega) (fun c hc H' K1 K2 hk => ?_) ?_⟩
      · refine ⟨rfl, _, rfl, rfl, _, rfl, ?_⟩
        rw [(hp1 [c] c (by simp)).2]
        by_cases h : isLp c = true
        · rw [if_pos h] at hk
          refine (show if isLp c = true then _ else _ from ?_)
          rw [if_pos h]
          exact ⟨_, rfl, hk⟩
        · rw [if_neg h] at hk
          refine (show if isLp c = true then _ else _ from ?_)
          rw [if_neg h]
          exact hk
      refine ⟨E1, _, rfl, .inl (SqL.of upd_same), ?_⟩
      refine ⟨_, rfl, _, rfl, fun E2 hE2 => lc_chars isLp (fun c => .str ⟨#[c]⟩) (by omega) (fun c hc H' K1 K2 hk => ?_) ?_⟩
      · refine ⟨rfl, _, rfl, rfl, _, rfl, ?_⟩
        rw [(hp1 [c] c (by simp)).2]
        by_cases h : isLp c = true
        · rw [if_pos h] at hk
          refine (show if isLp c = true then _ else _ from ?_)
          rw [if_pos h]
          exact ⟨_, rfl, hk⟩
        · rw [if_neg h] at hk
          refine (show if isLp c = true then _ else _ from ?_)
          rw [if_neg h]
          exact hk
      refine ⟨E2, _, rfl, .inl (SqL.of upd_same), _, _, rfl, rfl, _, rfl, ?_⟩
      rw [List.length_map, List.length_map, parT_eq, parT_eq]
      rw [decide_eq_false (show ¬ ((parT l' : Nat) : Int) < ((parT c.write : Nat) : Int) by omega)]
      refine iteF ?_
      have sE1 := same_new hE1 (HO.lst ((c.write.filter isLp).map fun c => V.str ⟨#[c]⟩))
      have sE2 := same_new hE2 (HO.lst ((l'.filter isLp).map fun c => V.str ⟨#[c]⟩))
      have SS := Same.trans (Same.trans (Same.trans (Same.trans (Same.trans s8 s9) s10) s11) sE1) sE2
      have hRz := hR7.same SS
      have hIz := hI7.same SS
      have hcz := hc.sm SS
      obtain ⟨rs, g1, g2, g3⟩ := id hRz
      refine ⟨_, rfl, it, rfl, ⟨_, SqL.of g1⟩, for_list (K := K) (a := it) (xs := rs.map V.ref) (fun j σ H' => ∃ x8 : Option V, σ = [some (.ref a), some (.ref D), some (.ref it), some (.str (S l')), some (.int (0 + i)), some (.ref ca), some (.str (S c.write)), none, x8, none] ∧ RowsT H' it rows ∧ IntL H' D ∧ Dp K H' (.ref ca) (cd c) ∧ H' it = some (.lst (rs.map V.ref)) ∧ (∀ (j : Nat) (b : Addr) (r : Row), rs[j]? = some b → rows[j]? = some r → H' b = some (.tup (rowV r))))
        ⟨_, rfl, hRz, hIz, hcz, g1, g3⟩ (fun j σ H' _ ⟨_, _, _, _, _, g, _⟩ => SqL.of g) ?_ ?_⟩
      · rintro j v σ H12 hj ⟨x8, rfl, r1, r2, r3, r4, r5⟩
        obtain ⟨b, hb, rfl⟩ : ∃ b, rs[j]? = some b ∧ v = V.ref b := by
          rw [List.getElem?_map] at hj
          cases e : rs[j]? with
          | none => rw [e] at hj; cases hj
          | some z => rw [e] at hj; exact ⟨z, rfl, (Option.some.inj hj).symm⟩
        have hjl : j < rows.length := by
          have := (List.getElem?_eq_some_iff.mp hb).1
          omega
        have ht := r5 j b _ hb (List.getElem?_eq_getElem hjl)
        refine ⟨_, rfl, _, rfl, ca, b, c, _, _, _, _, rfl, r3, dep, SqT.of ht, fun bb => ?_⟩
        refine ⟨_, _, _, _, true, rfl, .ty "bool", .base (.bl bb), kit_ty (by decide +kernel), _, rfl, ?_⟩
        exact iteF ⟨_, rfl, r1, r2, r3, r4, r5⟩
      · rintro σ H12 ⟨x8, rfl, r1, r2, _⟩
        exact ⟨l', _, _, _, _, rfl, by omega, r2, r1⟩
    · refine ⟨_, rfl, _, rfl, ?_⟩
      refine iteF ?_
      exact ⟨l', _, _, _, _, rfl, by omega, hI6.same s7, hR6.same s7⟩
  · rintro σ H5 ⟨l, x4, x5, x6, x8, rfl, hl, hI5, hR5⟩
    refine ⟨_, rfl, it, rows, rfl, hR5.rowsAt, okr, by omega, fun H6 s6 => ?_⟩
    have wl := writeI_len okr
    refine ⟨5, rfl, by decide, by decide, for_range (lo := 0) (n := 5) (fun i σ H' => ∃ (l : Tx) (x4 x9 : Option V), σ = [some (.ref a), some (.ref D), some (.ref it), some (.str (S l)), x4, x5, x6, none, x8, x9] ∧ l.length ≤ 264 + 8 * i ∧ IntL H' D)
      ⟨writeI rows, _, _, rfl, by omega, hI5.same s6⟩ ?_ ?_⟩
    · rintro i σ H7 hi ⟨l, x4, x9, rfl, hl, hI7⟩
      refine ⟨_, rfl, _, rfl, D, l, rfl, by omega, hI7, fun l' H8 hl' b8 hI8 => ?_⟩
      have hl2 : l'.length ≤ 304 := by omega
      have nl := linesF_len l'
      refine ⟨_, rfl, l', rfl, by omega, by omega, fun rw2 er ra H9 s9 hRa => ?_, fun er H9 s9 => ?_⟩
      · obtain ⟨ok2, nd2, len2'⟩ := readI_ok er
        have rt := read_write ok2 nd2
        have ly := rds_lay ok2
        have wl2 := writeI_len ok2
        refine ⟨_, rfl, _, rfl, iteT ?_⟩
        refine ⟨_, rfl, ra, rw2, rfl, hRa, ok2, nd2, by omega, fun H10 s10 => ⟨_, rfl, ?_⟩⟩
        refine iteF ?_
        have hRa2 := hRa.same s10
        refine ⟨_, rfl, ra, rw2, rfl, hRa2, ok2, by omega, fun H11 s11 => ?_⟩
        have hRa3 := hRa2.same s11
        refine ⟨writeI rw2, rfl, by omega, by rw [lines_write ok2, List.length_map]; omega, fun rw3 er3 rb H12 s12 hRb => ?_, fun er3 => by rw [rt] at er3; cases er3⟩
        have e3 : rw2 = rw3 := by rw [rt] at er3; exact Option.some.inj er3
        subst e3
        have hRa4 := hRa3.same s12
        have cl : (PyData.list (rw2.map rd)).canLay0 = true := by simp only [PyData.canLay0]; exact ly.1
        refine ⟨_, rfl, .list (rw2.map rd), .list (rw2.map rd), hRb.dp, hRa4.dp, cl, cl, ?_, _, rfl, ?_⟩
        · have : (PyData.list (rw2.map rd)).depth = PyData.depthAll (rw2.map rd) + 1 := by simp only [PyData.depth]
          rw [this]; omega
        rw [SeqAt.eqv_refl _ cl]
        refine iteF ?_
        exact ⟨l', _, _, rfl, by omega, (((hI8.same s9).same s10).same s11).same s12⟩
      · refine ⟨_, rfl, _, rfl, ?_⟩
        refine iteF ?_
        exact ⟨l', _, _, rfl, by omega, hI8.same s9⟩
    · rintro σ H7 ⟨l, x4, x9, rfl, hl, hI7⟩
      exact q H7
end
end K05
set_option Elab.async false
set_option linter.all false
set_option maxRecDepth 100000
set_option maxHeartbeats 4000000
namespace K05
open PySem PySem.Spec PyProof.Rows L2
/-! ### facts of the top, as the walk wants them -/
section
variable {K : PySem.W.Frag} {h : Heap} {mg : Str → Option Value}
theorem sd_mk {x qual : Str} {st : Stmt} {ps : List Str} {f : Addr} {oc kV dc pm cdv ct : Value} {od an : Option Addr} {sl : Array (Option Value)} (X : K.In h) (G : h.Ns mainGlobals mg)
    (hb : ∀ (kV doc pm : Value) (an : Option Addr) (cdv ct : Value) (us : List Value), us.length = ps.length → bindArgs (PySem.W.fnOf x qual (defArgs st) (defBody st) (defScope st) .none kV doc pm an cdv ct) ⟨us, []⟩ = pure (ps.zip us))
    (a : PySem.W.nsIn K mainGlobals x = some (some (.ref f))) (l : K.lookup f = some ⟨oc, od, .func (PySem.W.fnOf x qual (defArgs st) (defBody st) (defScope st) .none kV dc pm an cdv ct), sl⟩) (c : PySem.W.codeIn K cdv qual = true) (k : PySem.W.keepIn K (.ref f) = true) :
    Sd K mg x qual st ps := ⟨f, _, fun_mk l c k, PySem.W.mg_of X G a, (fun_mk l c k).binds hb⟩
theorem sm_mk {C : Addr} {x qual : Str} {st : Stmt} {ps : List Str} {f : Addr} {oc kV dc pm cdv ct : Value} {od an : Option Addr} {sl : Array (Option Value)}
    (hb : ∀ (kV doc pm : Value) (an : Option Addr) (cdv ct : Value) (us : List Value), us.length = ps.length → bindArgs (PySem.W.fnOf x qual (defArgs st) (defBody st) (defScope st) .none kV doc pm an cdv ct) ⟨us, []⟩ = pure (ps.zip us))
    (a : PySem.W.findIn K (.ref C) x = some (some (.ref f))) (i : PySem.W.isFn K (.ref f) = true) (l : K.lookup f = some ⟨oc, od, .func (PySem.W.fnOf x qual (defArgs st) (defBody st) (defScope st) .none kV dc pm an cdv ct), sl⟩) (c : PySem.W.codeIn K cdv qual = true) (k : PySem.W.keepIn K (.ref f) = true) :
    Sm K C x qual st ps := ⟨f, _, fun_mk l c k, ⟨a, i, k⟩, (fun_mk l c k).binds hb⟩
theorem in_mk {C : Addr} {f : Addr} {oc kV dc pm cdv ct : Value} {od an : Option Addr} {sl : Array (Option Value)}
    (mk : PySem.W.makesIn K C = true) (kc : PySem.W.keepIn K (.ref C) = true) (a : PySem.W.findIn K (.ref C) "__init__" = some (some (.ref f))) (i : PySem.W.isFn K (.ref f) = true)
    (l : K.lookup f = some ⟨oc, od, .func (PySem.W.fnOf "__init__" "Parser.__init__" (defArgs sInit) (defBody sInit) (defScope sInit) .none kV dc pm an cdv ct), sl⟩) (c : PySem.W.codeIn K cdv "Parser.__init__" = true) (k : PySem.W.keepIn K (.ref f) = true) :
    ∃ (f : Addr) (fd : FuncData), Mk K C f ∧ Fun K "__init__" "Parser.__init__" sInit f fd ∧ Binds K fd ["self", "text"] [] :=
  ⟨f, _, ⟨mk, a, i, kc⟩, fun_mk l c k, (fun_mk l c k).binds fun _ _ _ _ _ _ us hl => match us, hl with | [_, _], _ => rfl⟩
theorem exm_self {S : Addr} (h1 : PySem.W.subIn K (.ref S) (.type "BaseException") = some true) (h2 : PySem.W.isClsIn K S = true) (h3 : PySem.W.typeIn K (.ref S) = some (.type "type")) (h4 : PySem.W.subIn K (.ref S) (.ref S) = some true) : PySem.W.exmOne K (.ref S) (.ref S) = some true := by
  have e1 : (PySem.W.subIn K (.ref S) (.type "BaseException") == some true) = true := by rw [h1] <;> rfl
  have e2 : ((PySem.W.clsIn K S).isSome && PySem.W.typeIn K (.ref S) == some (.type "type")) = true := by
    have h2' : (PySem.W.clsIn K S).isSome = true := h2
    rw [h2', h3] <;> rfl
  show (if (PySem.W.subIn K (.ref S) (.type "BaseException") == some true) = true then (if ((PySem.W.clsIn K S).isSome && PySem.W.typeIn K (.ref S) == some (.type "type")) = true then PySem.W.subIn K (.ref S) (.ref S) else none) else none) = some true
  rw [if_pos e1, if_pos e2]
  exact h4
theorem te_mk {C C0 f : Addr} {nm q : Str} {N : Addr} {bs : List Value} {sn : List Str} {sub : List Value} {ab : Bool} {col : Option Bool} {dd : Option Addr} {m0 m1 m2 m3 m5 : Option Value} {oc kV dc pm cdv ct : Value} {od an : Option Addr} {sl : Array (Option Value)}
    (X : K.In h) (G : h.Ns mainGlobals mg) (aC : PySem.W.nsIn K mainGlobals "TextError" = some (some (.ref C)))
    (xL : K.lookup C = some (excClassObj nm q C N bs [.ref C0, .type "ValueError", .type "Exception", .type "BaseException", .type "object"] true sn sub ab col dd m0 m1 m2 m3 m5 "ValueError.__new__"))
    (sa : PySem.W.findIn K (.ref C) "__setattr__" = some (some (.builtin "object.__setattr__"))) (nl : PySem.W.findIn K (.ref C) "line" = some none) (nc : PySem.W.findIn K (.ref C) "column" = some none) (nr : PySem.W.findIn K (.ref C) "reason" = some none)
    (eC : PySem.W.subIn K (.ref C) (.type "BaseException") = some true) (tC : PySem.W.typeIn K (.ref C) = some (.type "type")) (kC : PySem.W.keepIn K (.ref C) = true) (iC : PySem.W.isClsIn K C = true) (sC : PySem.W.subIn K (.ref C) (.ref C) = some true)
    (a1 : PySem.W.findIn K (.ref C) "__init__" = some (some (.ref f))) (t1 : PySem.W.typeIn K (.ref f) = some (.type "function"))
    (l : K.lookup f = some ⟨oc, od, .func (PySem.W.fnOf "__init__" "TextError.__init__" (defArgs sTE) (defBody sTE) (defScope sTE) .none kV dc pm an cdv ct), sl⟩) (c : PySem.W.codeIn K cdv "TextError.__init__" = true) (k : PySem.W.keepIn K (.ref f) = true) :
    ∃ C, TxE K mg C := ⟨C, ⟨⟨nm, q, N, bs, _, sn, sub, ab, col, dd, m0, m1, m2, m3, m5, xL, (show PySem.HandSPX.refsVE [.type "ValueError", .type "Exception", .type "BaseException", .type "object"] = true by decide +kernel)⟩, sa, eC, tC, kC⟩, PySem.W.mg_of X G aC, nl, nc, nr, exm_self eC iC tC sC,
      f, _, a1, t1, fun_mk l c k, (fun_mk l c k).binds fun _ _ _ _ _ _ us hl => match us, hl with | [_, _, _, _], _ => rfl⟩
theorem cs_mk {x y : Str} {t : Tok} (X : K.In h) (G : h.Ns mainGlobals mg) (a : PySem.W.nsIn K mainGlobals x = some (some (.str y t))) : ∃ t, mg x = some (.str y t) := ⟨t, PySem.W.mg_of X G a⟩
theorem ci_mk {x : Str} {z : Int} {t : Tok} (X : K.In h) (G : h.Ns mainGlobals mg) (a : PySem.W.nsIn K mainGlobals x = some (some (.int z t))) : ∃ t, mg x = some (.int z t) := ⟨t, PySem.W.mg_of X G a⟩
theorem tp_mk {CP : Addr} (X : K.In h) (G : h.Ns mainGlobals mg) (g : PySem.W.nsIn K mainGlobals "Parser" = some (some (.ref CP))) (pg : PySem.W.plainGet K CP Str.empty = true) (hd : PySem.W.hasDictIn K CP = true) (po : PySem.W.plainOver K CP = true)
    (sa : PySem.W.findIn K (.ref CP) "__setattr__" = some (some (.builtin "object.__setattr__"))) (nT : PySem.W.findIn K (.ref CP) "tokens" = some none) (nA : PySem.W.findIn K (.ref CP) "at" = some none) (nE : PySem.W.findIn K (.ref CP) "end" = some none) (nO : PySem.W.findIn K (.ref CP) "open_marks" = some none) : TxP K mg CP :=
  ⟨⟨pg, hd, po, sa⟩, nT, nA, nE, nO, PySem.W.mg_of X G g⟩
theorem sgn_mk {a : Addr} {dd : Option Addr} {t1 t2 t3 t4 t5 t6 t7 t8 : Tok} {n : Nat} {sl : Array (Option Value)} (X : K.In h) (G : h.Ns mainGlobals mg) (e : PySem.W.nsIn K mainGlobals "SIGNS" = some (some (.ref a)))
    (l : K.lookup a = some ⟨.type "tuple", dd, .seq #[.str "<=" t1, .str ">=" t2, .str "<" t3, .str "=" t4, .str ">" t5, .str "-" t6, .str "(" t7, .str ")" t8] n, sl⟩) :
    ∃ a, mg "SIGNS" = some (.ref a) ∧ ∀ H, SqT K H a [.str "<=", .str ">=", .str "<", .str "=", .str ">", .str "-", .str "(", .str ")"] :=
  ⟨a, PySem.W.mg_of X G e, fun H => .inr ⟨_, _, n, l, rfl, rfl, lookS (by show 8 ≤ 1000000; decide), .cons ⟨_, rfl⟩ (.cons ⟨_, rfl⟩ (.cons ⟨_, rfl⟩ (.cons ⟨_, rfl⟩ (.cons ⟨_, rfl⟩ (.cons ⟨_, rfl⟩ (.cons ⟨_, rfl⟩ (.cons ⟨_, rfl⟩ .nil)))))))⟩⟩
theorem ord_mk {a : Addr} {dd : Option Addr} {t1 t2 t3 t4 t5 : Tok} {n : Nat} {sl : Array (Option Value)} (X : K.In h) (G : h.Ns mainGlobals mg) (e : PySem.W.nsIn K mainGlobals "ORDERS" = some (some (.ref a)))
    (l : K.lookup a = some ⟨.type "tuple", dd, .seq #[.str "<" t1, .str "<=" t2, .str "=" t3, .str ">=" t4, .str ">" t5] n, sl⟩) :
    ∃ a, mg "ORDERS" = some (.ref a) ∧ ∀ H, SqT K H a [.str "<", .str "<=", .str "=", .str ">=", .str ">"] :=
  ⟨a, PySem.W.mg_of X G e, fun H => .inr ⟨_, _, n, l, rfl, rfl, lookS (by show 5 ≤ 1000000; decide), .cons ⟨_, rfl⟩ (.cons ⟨_, rfl⟩ (.cons ⟨_, rfl⟩ (.cons ⟨_, rfl⟩ (.cons ⟨_, rfl⟩ .nil))))⟩⟩
/-- the computed constant -/
theorem signs_mk {p : Program} (x : PySem.W.XL p [(Str.ofString "NAME_SIGNS", PySem.W.WData.str { cps := #[97, 98, 99, 100, 101, 102, 103, 104, 105, 106, 107, 108, 109, 110, 111, 112, 113, 114, 115, 116, 117, 118, 119, 120, 121, 122, 48, 49, 50, 51, 52, 53, 54, 55, 56, 57] })] mg h) : ∃ t, mg "NAME_SIGNS" = some (.str (S signsL) t) := by
  obtain ⟨v, e, r⟩ := x.2.val _ (List.mem_singleton.mpr rfl)
  cases r with
  | str y t => exact ⟨t, e⟩
end
/-- all the defs of the text -/
structure TxS (K : PySem.W.Frag) (mg : Str → Option Value) : Prop where
  isName : Sd K mg "is_name" "is_name" sIsName ["text"]
  fault : Sd K mg "fault_of" "fault_of" sFault ["row"]
  check : Sd K mg "check_items" "check_items" sCheck ["rows"]
  isWritten : Sd K mg "is_written" "is_written" sIsWritten ["word"]
  integerOf : Sd K mg "integer_of" "integer_of" sIntegerOf ["word"]
  wordEnd : Sd K mg "word_end" "word_end" sWordEnd ["text", "place"]
  signAt : Sd K mg "sign_at" "sign_at" sSignAt ["text", "place"]
  tokensOf : Sd K mg "tokens_of" "tokens_of" sTokensOf ["text"]
  parse : Sd K mg "parse_condition" "parse_condition" sParse ["text"]
  br : Sd K mg "bracketed" "bracketed" sBr ["condition", "words"]
  write : Sd K mg "write_condition" "write_condition" sWrite ["condition"]
  compares : Sd K mg "compares" "compares" sCompares ["number", "order", "other"]
  held : Sd K mg "held" "held" sHeld ["condition", "item"]
  lines : Sd K mg "lines_of" "lines_of" sLines ["text"]
  cols : Sd K mg "columns_of" "columns_of" sCols ["words"]
  readLine : Sd K mg "read_line" "read_line" sReadLine ["line", "number", "known"]
  readItems : Sd K mg "read_items" "read_items" sReadItems ["text"]
  writeItems : Sd K mg "write_items" "write_items" sWriteItems ["rows"]
  draws : Sd K mg "_law_draws" "_law_draws" sDraws ["_law_script"]
  tk : Sd K mg "_law_take" "_law_take" sTk ["_law_draws_here", "_law_bound"]
  nm : Sd K mg "_law_name" "_law_name" sNm ["_law_draws_here"]
  it : Sd K mg "_law_items" "_law_items" sIt ["_law_draws_here", "_law_most"]
  num : Sd K mg "_law_number" "_law_number" sNum ["_law_draws_here"]
  cd : Sd K mg "_law_condition" "_law_condition" sCd ["_law_draws_here", "_law_depth"]
  pt : Sd K mg "_law_part" "_law_part" sPt ["_law_condition_here", "_law_words"]
  wr : Sd K mg "_law_written" "_law_written" sWr ["_law_condition_here"]
  ch : Sd K mg "_law_changed" "_law_changed" sCh ["_law_draws_here", "_law_text"]
  pd : Sd K mg "_law_parsed" "_law_parsed" sPd ["_law_text"]
  rd : Sd K mg "_law_read" "_law_read" sRd ["_law_text"]
  sz : Sd K mg "_law_size" "_law_size" sSz ["_law_text"]
  law : Sd K mg "law" "law" sLaw ["_law_script"]
/-- the law keeps its promise -/
theorem all_end {P : Program} {w : World} {K : PySem.W.Frag} {mg : Str → Option Value} {fa CP C : Addr} (T : Tx0 K mg) (TP : TxP K mg CP) (M : TxM K CP) (TE : TxE K mg C) (D : TxS K mg) (hfa : mg "law" = some (.ref fa)) :
    ∃ fd : FuncData, (∀ (s : Shared) (u : Value), BindsTo s fd ⟨[u], []⟩ [("_law_script", u)]) ∧ ∀ base : Heap, K.In base → base.Ns mainGlobals mg → FnOk P w K mg base CX0 181 fa fd ["_law_script"] (spLaw K) := by
  obtain ⟨f, fd, F, m, b⟩ := D.law.ex
  have e : fa = f := by
    have := hfa.symm.trans m
    injection this with this
    injection this
  subst e
  refine ⟨fd, ?_, fun base _ _ => ?_⟩
  · obtain ⟨oc, od, kV, doc, pm, an, cdv, ct, osl, rfl, _, _⟩ := F.ex
    exact fun s u => .of_eq rfl
  have d1 : Df P w K mg base CX0 1 "is_name" ["text"] spIsName := D.isName.df fun _ _ F => ok_is_name T F
  have d2 : Df P w K mg base CX0 1 "is_written" ["word"] spIsWritten := D.isWritten.df fun _ _ F => ok_is_written T F
  have d3 : Df P w K mg base CX0 2 "integer_of" ["word"] spIntegerOf := D.integerOf.df fun _ _ F => ok_integer_of T F d2
  have d4 : Df P w K mg base CX0 1 "word_end" ["text", "place"] spWordEnd := D.wordEnd.df fun _ _ F => ok_word_end T F
  have d5 : Df P w K mg base CX0 1 "sign_at" ["text", "place"] spSignAt := D.signAt.df fun _ _ F => ok_sign_at T F
  have d6 : Df P w K mg base (L2.CX P w) 3 "tokens_of" ["text"] (spTokensOf C) := D.tokensOf.df fun _ _ F => ok_tokens_of T TE F d4 d5
  have d7 : Df P w K mg base (L2.CX P w) 110 "parse_condition" ["text"] (spParseC C K) := D.parse.df fun _ _ F => ok_parse T TP TE M F d2 d3 d1 d6
  have d8 : Df P w K mg base CX0 180 "write_condition" ["condition"] (spWrite K 90) := all_write D.write D.br 90
  have d9 : Df P w K mg base CX0 1 "compares" ["number", "order", "other"] spCompares := D.compares.df fun _ _ F => ok_compares F
  have d10 : Df P w K mg base CX0 91 "held" ["condition", "item"] (spHeld K 90) := all_held D.held d9 90
  have d11 : Df P w K mg base CX0 2 "fault_of" ["row"] (spFault K) := D.fault.df fun _ _ F => ok_fault T F d1
  have d12 : Df P w K mg base CX0 3 "check_items" ["rows"] (spCheck K) := D.check.df fun _ _ F => ok_check T F d11
  have d13 : Df P w K mg base CX0 1 "lines_of" ["text"] spLines := D.lines.df fun _ _ F => ok_lines T F
  have d14 : Df P w K mg base CX0 1 "columns_of" ["words"] (spCols K) := D.cols.df fun _ _ F => ok_cols T F
  have d15 : Df P w K mg base (L2.CX P w) 3 "read_line" ["line", "number", "known"] (spReadLine K C) := D.readLine.df fun _ _ F => ok_read_line T TE F d14 d1 d3
  have d16 : Df P w K mg base (L2.CX P w) 4 "read_items" ["text"] (spReadItems K C) := D.readItems.df fun _ _ F => ok_read_items T F d13 d15
  have d17 : Df P w K mg base CX0 1 "write_items" ["rows"] (spWriteItems K) := D.writeItems.df fun _ _ F => ok_write_items F
  have e1 : Df P w K mg base CX0 1 "_law_draws" ["_law_script"] (spDraws K) := D.draws.df fun _ _ F => ok_draws T F
  have e2 : Df P w K mg base CX0 1 "_law_take" ["_law_draws_here", "_law_bound"] spTk := D.tk.df fun _ _ F => ok_tk T F
  have e3 : Df P w K mg base CX0 2 "_law_name" ["_law_draws_here"] spNm := D.nm.df fun _ _ F => ok_nm F e2
  have e4 : Df P w K mg base CX0 2 "_law_number" ["_law_draws_here"] spNum := D.num.df fun _ _ F => ok_num F e2
  have e5 : Df P w K mg base CX0 3 "_law_items" ["_law_draws_here", "_law_most"] spIt := D.it.df fun _ _ F => ok_it T F e2 e3
  have e6 : Df P w K mg base CX0 6 "_law_condition" ["_law_draws_here", "_law_depth"] (spCd K 3) := all_cd T D.cd e2 e3 e4 3
  have e7 : Df P w K mg base CX0 8 "_law_written" ["_law_condition_here"] (spWr K 4) := all_wr T D.wr D.pt 4
  have e8 : Df P w K mg base CX0 2 "_law_changed" ["_law_draws_here", "_law_text"] spCh := D.ch.df fun _ _ F => ok_ch T F e2
  have e9 : Df P w K mg base CX0 111 "_law_parsed" ["_law_text"] (spPd K) := D.pd.df fun _ _ F => ok_pd TE F d7
  have e10 : Df P w K mg base CX0 5 "_law_read" ["_law_text"] (spRd K) := D.rd.df fun _ _ F => ok_rd TE F d16
  have e11 : Df P w K mg base CX0 1 "_law_size" ["_law_text"] spSz := D.sz.df fun _ _ F => ok_sz T F
  exact ok_law T F e1 e5 e6 e7 e8 e9 d8 e11 d10 d17 e10 d12
theorem all_end2 {P : Program} {w : World} {K : PySem.W.Frag} {mg : Str → Option Value} {fa : Addr} (T : Tx0 K mg) (TP : ∃ CP, TxP K mg CP ∧ TxM K CP) (TE : ∃ C, TxE K mg C) (D : TxS K mg) (hfa : mg "law" = some (.ref fa)) :
    ∃ fd : FuncData, (∀ (s : Shared) (u : Value), BindsTo s fd ⟨[u], []⟩ [("_law_script", u)]) ∧ ∀ base : Heap, K.In base → base.Ns mainGlobals mg → FnOk P w K mg base CX0 181 fa fd ["_law_script"] (spLaw K) := by
  obtain ⟨CP, TP, M⟩ := TP
  obtain ⟨C, TE⟩ := TE
  exact all_end T TP M TE D hfa
/-- the law's end, with what the top says of the computed constants -/
theorem walk {l : PySem.W.OpenLaw} {q : Program} {loose : List Str} {XP : (Str → Option Value) → Heap → Prop} {YP : World → Heap → Prop} {d : DefRec} {K : Params → PySem.W.Frag} (hn : l.most = some 63) (hdf : d.params.defaults = [])
    (hY : ∀ (w : World) (h : Heap), YP w h → (K w.params).In h)
    (F : ∀ (w : World) (mg : Str → Option Value) (fa : Addr) (h : Heap), XP mg h → (K w.params).In h → h.Ns mainGlobals mg → mg d.name = some (.ref fa) →
      ∃ fd : FuncData, (∀ (s : Shared) (u : Value), BindsTo s fd ⟨[u], []⟩ [("_law_script", u)]) ∧ ∀ base : Heap, (K w.params).In base → base.Ns mainGlobals mg → FnOk l.prog w (K w.params) mg base CX0 181 fa fd ["_law_script"] (spLaw (K w.params))) :
    PySem.W.WalkO q loose XP YP l.row.toRowW d [] (fun f vs => PySem.call f vs) := by
  refine Att.attach_call hn hdf fun w s₀ s₁ mg mb fa o pm cd doc a vs ns G Y ho hd hcd hmg hobj hints hlen hg => ?_
  have KX := hY w _ Y
  obtain ⟨fd, hb, hF⟩ := F w mg fa _ G.X KX G.T.g hmg
  exact law_call (k := 181) (CX := CX0) (sp := spLaw (K w.params)) KX G.T.g G.T.b G.T.builtins G.T.nolimit hg hobj hints (Nat.le_trans hlen (by decide)) ⟨rfl, by decide, by decide⟩ hF hb (fun H hO hS => ⟨a, ns, rfl, hS, hlen, fun _ => rfl⟩) fun H e s' z => z
end K05
set_option Elab.async false
set_option linter.all false
set_option maxRecDepth 100000
open PySem PySem.W PyProof.Rows
set_option maxRecDepth 100000 in
set_option maxHeartbeats 0 in
set_option pp.maxSteps 200 in
theorem PySem.Challenge.cw_samphire_k05_whole_any_text_is_refused_o_holds : PySem.Challenge.rw_samphire_k05_whole_any_text_is_refused_o.Holds := by
  w_on; o_law; k_head; (case hw => w_witness2)
  k_fill
  refine K05.walk (l := PySem.Challenge.rw_samphire_k05_whole_any_text_is_refused_o) rfl rfl (fun w h Y => PySem.W.kIn_of Y) ?F
  case F =>
    intro w mg fa h XPh KX G hmg
    refine' K05.all_end2 ?T ?P ?E ?D hmg
    case T =>
      refine' ⟨PySem.W.mg_none_of KX G ?b0, PySem.W.mg_none_of KX G ?b1, PySem.W.mg_none_of KX G ?b2, PySem.W.mg_none_of KX G ?b3, PySem.W.mg_none_of KX G ?b4, PySem.W.mg_none_of KX G ?b5, PySem.W.mg_none_of KX G ?b6, PySem.W.mg_none_of KX G ?b7, PySem.W.mg_none_of KX G ?b8, PySem.W.mg_none_of KX G ?b9, PySem.W.mg_none_of KX G ?b10, K05.signs_mk XPh, K05.cs_mk KX G ?k0, K05.ci_mk KX G ?k1, K05.ci_mk KX G ?k2, K05.ci_mk KX G ?k3, K05.ci_mk KX G ?k4, K05.ci_mk KX G ?k5, K05.ci_mk KX G ?k6, K05.ci_mk KX G ?k7, K05.ci_mk KX G ?k8, K05.sgn_mk KX G ?s1 ?s2, K05.ord_mk KX G ?o1 ?o2⟩
      (case b0 => k_is)
      (case b1 => k_is)
      (case b2 => k_is)
      (case b3 => k_is)
      (case b4 => k_is)
      (case b5 => k_is)
      (case b6 => k_is)
      (case b7 => k_is)
      (case b8 => k_is)
      (case b9 => k_is)
      (case b10 => k_is)
      (case k0 => k_is)
      (case k1 => k_is)
      (case k2 => k_is)
      (case k3 => k_is)
      (case k4 => k_is)
      (case k5 => k_is)
      (case k6 => k_is)
      (case k7 => k_is)
      (case k8 => k_is)
      (case s1 => k_is)
      (case s2 => k_is)
      (case o1 => k_is)
      (case o2 => k_is)
    case P =>
      refine' ⟨_, K05.tp_mk KX G ?g ?pg ?hd ?po ?sa ?nT ?nA ?nE ?nO, ⟨K05.sm_mk (fun _ _ _ _ _ _ us hl => match us, hl with | [_], _ => rfl) ?a0 ?i0 ?l0 ?c0 ?k0, K05.sm_mk (fun _ _ _ _ _ _ us hl => match us, hl with | [_], _ => rfl) ?a1 ?i1 ?l1 ?c1 ?k1, K05.sm_mk (fun _ _ _ _ _ _ us hl => match us, hl with | [_, _], _ => rfl) ?a2 ?i2 ?l2 ?c2 ?k2, K05.sm_mk (fun _ _ _ _ _ _ us hl => match us, hl with | [_], _ => rfl) ?a3 ?i3 ?l3 ?c3 ?k3, K05.sm_mk (fun _ _ _ _ _ _ us hl => match us, hl with | [_], _ => rfl) ?a4 ?i4 ?l4 ?c4 ?k4, K05.sm_mk (fun _ _ _ _ _ _ us hl => match us, hl with | [_], _ => rfl) ?a5 ?i5 ?l5 ?c5 ?k5, K05.sm_mk (fun _ _ _ _ _ _ us hl => match us, hl with | [_], _ => rfl) ?a6 ?i6 ?l6 ?c6 ?k6, K05.sm_mk (fun _ _ _ _ _ _ us hl => match us, hl with | [_], _ => rfl) ?a7 ?i7 ?l7 ?c7 ?k7, K05.sm_mk (fun _ _ _ _ _ _ us hl => match us, hl with | [_], _ => rfl) ?a8 ?i8 ?l8 ?c8 ?k8, K05.sm_mk (fun _ _ _ _ _ _ us hl => match us, hl with | [_], _ => rfl) ?a9 ?i9 ?l9 ?c9 ?k9, K05.sm_mk (fun _ _ _ _ _ _ us hl => match us, hl with | [_], _ => rfl) ?a10 ?i10 ?l10 ?c10 ?k10, K05.sm_mk (fun _ _ _ _ _ _ us hl => match us, hl with | [_], _ => rfl) ?a11 ?i11 ?l11 ?c11 ?k11, K05.sm_mk (fun _ _ _ _ _ _ us hl => match us, hl with | [_], _ => rfl) ?a12 ?i12 ?l12 ?c12 ?k12, K05.in_mk ?mk ?kc ?ai ?ii ?li ?ci ?ki⟩⟩
      (case g => k_is)
      (case pg => k_is)
      (case hd => k_is)
      (case po => k_is)
      (case sa => k_is)
      (case nT => k_is)
      (case nA => k_is)
      (case nE => k_is)
      (case nO => k_is)
      (case a0 => k_is)
      (case i0 => k_is)
      (case l0 => k_is)
      (case c0 => k_is)
      (case k0 => k_is)
      (case a1 => k_is)
      (case i1 => k_is)
      (case l1 => k_is)
      (case c1 => k_is)
      (case k1 => k_is)
      (case a2 => k_is)
      (case i2 => k_is)
      (case l2 => k_is)
      (case c2 => k_is)
      (case k2 => k_is)
      (case a3 => k_is)
      (case i3 => k_is)
      (case l3 => k_is)
      (case c3 => k_is)
      (case k3 => k_is)
      (case a4 => k_is)
      (case i4 => k_is)
      (case l4 => k_is)
      (case c4 => k_is)
      (case k4 => k_is)
      (case a5 => k_is)
      (case i5 => k_is)
      (case l5 => k_is)
      (case c5 => k_is)
      (case k5 => k_is)
      (case a6 => k_is)
      (case i6 => k_is)
      (case l6 => k_is)
      (case c6 => k_is)
      (case k6 => k_is)
      (case a7 => k_is)
      (case i7 => k_is)
      (case l7 => k_is)
      (case c7 => k_is)
      (case k7 => k_is)
      (case a8 => k_is)
      (case i8 => k_is)
      (case l8 => k_is)
      (case c8 => k_is)
      (case k8 => k_is)
      (case a9 => k_is)
      (case i9 => k_is)
      (case l9 => k_is)
      (case c9 => k_is)
      (case k9 => k_is)
      (case a10 => k_is)
      (case i10 => k_is)
      (case l10 => k_is)
      (case c10 => k_is)
      (case k10 => k_is)
      (case a11 => k_is)
      (case i11 => k_is)
      (case l11 => k_is)
      (case c11 => k_is)
      (case k11 => k_is)
      (case a12 => k_is)
      (case i12 => k_is)
      (case l12 => k_is)
      (case c12 => k_is)
      (case k12 => k_is)
      (case mk => k_is)
      (case kc => k_is)
      (case ai => k_is)
      (case ii => k_is)
      (case li => k_is)
      (case ci => k_is)
      (case ki => k_is)
    case E =>
      refine' K05.te_mk KX G ?aC ?xL ?sa ?nl ?nc ?nr ?eC ?tC ?kC ?iC ?sC ?a1 ?t1 ?l ?c ?k
      (case aC => k_is)
      (case xL => k_is)
      (case sa => k_is)
      (case nl => k_is)
      (case nc => k_is)
      (case nr => k_is)
      (case eC => k_is)
      (case tC => k_is)
      (case kC => k_is)
      (case iC => k_is)
      (case sC => first | rfl | k_is)
      (case a1 => k_is)
      (case t1 => k_is)
      (case l => k_is)
      (case c => k_is)
      (case k => k_is)
    case D =>
      refine' ⟨K05.sd_mk KX G (fun _ _ _ _ _ _ us hl => match us, hl with | [_], _ => rfl) ?a0 ?l0 ?c0 ?k0, K05.sd_mk KX G (fun _ _ _ _ _ _ us hl => match us, hl with | [_], _ => rfl) ?a1 ?l1 ?c1 ?k1, K05.sd_mk KX G (fun _ _ _ _ _ _ us hl => match us, hl with | [_], _ => rfl) ?a2 ?l2 ?c2 ?k2, K05.sd_mk KX G (fun _ _ _ _ _ _ us hl => match us, hl with | [_], _ => rfl) ?a3 ?l3 ?c3 ?k3, K05.sd_mk KX G (fun _ _ _ _ _ _ us hl => match us, hl with | [_], _ => rfl) ?a4 ?l4 ?c4 ?k4, K05.sd_mk KX G (fun _ _ _ _ _ _ us hl => match us, hl with | [_, _], _ => rfl) ?a5 ?l5 ?c5 ?k5, K05.sd_mk KX G (fun _ _ _ _ _ _ us hl => match us, hl with | [_, _], _ => rfl) ?a6 ?l6 ?c6 ?k6, K05.sd_mk KX G (fun _ _ _ _ _ _ us hl => match us, hl with | [_], _ => rfl) ?a7 ?l7 ?c7 ?k7, K05.sd_mk KX G (fun _ _ _ _ _ _ us hl => match us, hl with | [_], _ => rfl) ?a8 ?l8 ?c8 ?k8, K05.sd_mk KX G (fun _ _ _ _ _ _ us hl => match us, hl with | [_, _], _ => rfl) ?a9 ?l9 ?c9 ?k9, K05.sd_mk KX G (fun _ _ _ _ _ _ us hl => match us, hl with | [_], _ => rfl) ?a10 ?l10 ?c10 ?k10, K05.sd_mk KX G (fun _ _ _ _ _ _ us hl => match us, hl with | [_, _, _], _ => rfl) ?a11 ?l11 ?c11 ?k11, K05.sd_mk KX G (fun _ _ _ _ _ _ us hl => match us, hl with | [_, _], _ => rfl) ?a12 ?l12 ?c12 ?k12, K05.sd_mk KX G (fun _ _ _ _ _ _ us hl => match us, hl with | [_], _ => rfl) ?a13 ?l13 ?c13 ?k13, K05.sd_mk KX G (fun _ _ _ _ _ _ us hl => match us, hl with | [_], _ => rfl) ?a14 ?l14 ?c14 ?k14, K05.sd_mk KX G (fun _ _ _ _ _ _ us hl => match us, hl with | [_, _, _], _ => rfl) ?a15 ?l15 ?c15 ?k15, K05.sd_mk KX G (fun _ _ _ _ _ _ us hl => match us, hl with | [_], _ => rfl) ?a16 ?l16 ?c16 ?k16, K05.sd_mk KX G (fun _ _ _ _ _ _ us hl => match us, hl with | [_], _ => rfl) ?a17 ?l17 ?c17 ?k17, K05.sd_mk KX G (fun _ _ _ _ _ _ us hl => match us, hl with | [_], _ => rfl) ?a18 ?l18 ?c18 ?k18, K05.sd_mk KX G (fun _ _ _ _ _ _ us hl => match us, hl with | [_, _], _ => rfl) ?a19 ?l19 ?c19 ?k19, K05.sd_mk KX G (fun _ _ _ _ _ _ us hl => match us, hl with | [_], _ => rfl) ?a20 ?l20 ?c20 ?k20, K05.sd_mk KX G (fun _ _ _ _ _ _ us hl => match us, hl with | [_, _], _ => rfl) ?a21 ?l21 ?c21 ?k21, K05.sd_mk KX G (fun _ _ _ _ _ _ us hl => match us, hl with | [_], _ => rfl) ?a22 ?l22 ?c22 ?k22, K05.sd_mk KX G (fun _ _ _ _ _ _ us hl => match us, hl with | [_, _], _ => rfl) ?a23 ?l23 ?c23 ?k23, K05.sd_mk KX G (fun _ _ _ _ _ _ us hl => match us, hl with | [_, _], _ => rfl) ?a24 ?l24 ?c24 ?k24, K05.sd_mk KX G (fun _ _ _ _ _ _ us hl => match us, hl with | [_], _ => rfl) ?a25 ?l25 ?c25 ?k25, K05.sd_mk KX G (fun _ _ _ _ _ _ us hl => match us, hl with | [_, _], _ => rfl) ?a26 ?l26 ?c26 ?k26, K05.sd_mk KX G (fun _ _ _ _ _ _ us hl => match us, hl with | [_], _ => rfl) ?a27 ?l27 ?c27 ?k27, K05.sd_mk KX G (fun _ _ _ _ _ _ us hl => match us, hl with | [_], _ => rfl) ?a28 ?l28 ?c28 ?k28, K05.sd_mk KX G (fun _ _ _ _ _ _ us hl => match us, hl with | [_], _ => rfl) ?a29 ?l29 ?c29 ?k29, K05.sd_mk KX G (fun _ _ _ _ _ _ us hl => match us, hl with | [_], _ => rfl) ?a30 ?l30 ?c30 ?k30⟩
      (case a0 => k_is)
      (case l0 => k_is)
      (case c0 => k_is)
      (case k0 => k_is)
      (case a1 => k_is)
      (case l1 => k_is)
      (case c1 => k_is)
      (case k1 => k_is)
      (case a2 => k_is)
      (case l2 => k_is)
      (case c2 => k_is)
      (case k2 => k_is)
      (case a3 => k_is)
      (case l3 => k_is)
      (case c3 => k_is)
      (case k3 => k_is)
      (case a4 => k_is)
      (case l4 => k_is)
      (case c4 => k_is)
      (case k4 => k_is)
      (case a5 => k_is)
      (case l5 => k_is)
      (case c5 => k_is)
      (case k5 => k_is)
      (case a6 => k_is)
      (case l6 => k_is)
      (case c6 => k_is)
      (case k6 => k_is)
      (case a7 => k_is)
      (case l7 => k_is)
      (case c7 => k_is)
      (case k7 => k_is)
      (case a8 => k_is)
      (case l8 => k_is)
      (case c8 => k_is)
      (case k8 => k_is)
      (case a9 => k_is)
      (case l9 => k_is)
      (case c9 => k_is)
      (case k9 => k_is)
      (case a10 => k_is)
      (case l10 => k_is)
      (case c10 => k_is)
      (case k10 => k_is)
      (case a11 => k_is)
      (case l11 => k_is)
      (case c11 => k_is)
      (case k11 => k_is)
      (case a12 => k_is)
      (case l12 => k_is)
      (case c12 => k_is)
      (case k12 => k_is)
      (case a13 => k_is)
      (case l13 => k_is)
      (case c13 => k_is)
      (case k13 => k_is)
      (case a14 => k_is)
      (case l14 => k_is)
      (case c14 => k_is)
      (case k14 => k_is)
      (case a15 => k_is)
      (case l15 => k_is)
      (case c15 => k_is)
      (case k15 => k_is)
      (case a16 => k_is)
      (case l16 => k_is)
      (case c16 => k_is)
      (case k16 => k_is)
      (case a17 => k_is)
      (case l17 => k_is)
      (case c17 => k_is)
      (case k17 => k_is)
      (case a18 => k_is)
      (case l18 => k_is)
      (case c18 => k_is)
      (case k18 => k_is)
      (case a19 => k_is)
      (case l19 => k_is)
      (case c19 => k_is)
      (case k19 => k_is)
      (case a20 => k_is)
      (case l20 => k_is)
      (case c20 => k_is)
      (case k20 => k_is)
      (case a21 => k_is)
      (case l21 => k_is)
      (case c21 => k_is)
      (case k21 => k_is)
      (case a22 => k_is)
      (case l22 => k_is)
      (case c22 => k_is)
      (case k22 => k_is)
      (case a23 => k_is)
      (case l23 => k_is)
      (case c23 => k_is)
      (case k23 => k_is)
      (case a24 => k_is)
      (case l24 => k_is)
      (case c24 => k_is)
      (case k24 => k_is)
      (case a25 => k_is)
      (case l25 => k_is)
      (case c25 => k_is)
      (case k25 => k_is)
      (case a26 => k_is)
      (case l26 => k_is)
      (case c26 => k_is)
      (case k26 => k_is)
      (case a27 => k_is)
      (case l27 => k_is)
      (case c27 => k_is)
      (case k27 => k_is)
      (case a28 => k_is)
      (case l28 => k_is)
      (case c28 => k_is)
      (case k28 => k_is)
      (case a29 => k_is)
      (case l29 => k_is)
      (case c29 => k_is)
      (case k29 => k_is)
      (case a30 => k_is)
      (case l30 => k_is)
      (case c30 => k_is)
      (case k30 => k_is)
