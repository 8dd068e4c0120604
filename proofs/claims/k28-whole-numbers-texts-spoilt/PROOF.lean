import PyProof.Rows.All
import HandS.Text
import Wide.All
import OpenK.AllK
import Wide.FinOn
import KE.KExcPX
import KE.KTryMore
import KE.KIsAll
import KE.KExcIs
import HandS.ForMost
import HandS.Exc
import HandS.ExcOwn
import HandS.WordsExc
import HandS.TryOnly
import HandS.ExcCtx
import HandS.Hot
import HandS.HotCalls
import HandS.SuiteRaise
import HandS.RaiseFrom
import HandS.ExcInit
import HandS.ExcInitHot
import HandS.ExcField
import HandS.ClsMeth
import HandS.IsInst
import HandS.Defaults
import HandS.Head0
import HandS.Head1
import HandS.Head2
import HandS.HeadEnd
import HandS.HeadHook1
import HandS.HeadHook2
import PySem.Challenge.RW_cellblocks_k28_whole_numbers_texts_spoil
import HandS.StrMore
import HandS.Wide
import KE.IntTextLaws
import HandS.CallLocal
import HandS.NoneIn
import HandS.Deep
import HandS.Flow
import HandS.Style
import HandS.MakeKw

set_option Elab.async false
set_option linter.all false
/-! The plain law: the two readings of a text as a name in numbers are one. Texts are lists of codes. -/
namespace K28
open PySem TL
abbrev L := List Nat
abbrev big : Int := 1000000000000

/-! ### digits -/
def isDig (c : Nat) : Bool := decide (48 ≤ c) && decide (c ≤ 57)
theorem isDig_iff {c : Nat} : isDig c = true ↔ 48 ≤ c ∧ c ≤ 57 := by
  unfold isDig
  rw [Bool.and_eq_true, decide_eq_true_eq, decide_eq_true_eq]
def allDig (w : L) : Bool := w.all isDig
theorem allDig_iff {w : L} : allDig w = true ↔ NumText.AllDigits w := by
  unfold allDig NumText.AllDigits
  rw [List.all_eq_true]
  exact ⟨fun h c hc => isDig_iff.mp (h c hc), fun h c hc => isDig_iff.mpr (h c hc)⟩
def val (w : L) : Int := (NumText.digitsVal w : Int)
theorem val_nonneg (w : L) : 0 ≤ val w := Int.natCast_nonneg _
theorem fold_lt : ∀ (w : L) (a : Nat), NumText.AllDigits w → w.foldl (fun acc c => acc * 10 + (c - 48)) a < (a + 1) * 10 ^ w.length
  | [], a, _ => by simp
  | c :: r, a, h => by
    have hc : 48 ≤ c ∧ c ≤ 57 := h c List.mem_cons_self
    have ih := fold_lt r (a * 10 + (c - 48)) fun x hx => h x (List.mem_cons_of_mem _ hx)
    rw [List.foldl_cons, List.length_cons, Nat.pow_succ]
    have e : (a * 10 + (c - 48) + 1) * 10 ^ r.length ≤ (a + 1) * (10 ^ r.length * 10) := by
      rw [show (a + 1) * (10 ^ r.length * 10) = (a + 1) * 10 * 10 ^ r.length by rw [Nat.mul_comm (10 ^ r.length) 10, ← Nat.mul_assoc]]
      exact Nat.mul_le_mul_right _ (by omega)
    exact Nat.lt_of_lt_of_le ih e
theorem val_lt {w : L} (h : allDig w = true) (hl : w.length ≤ 12) : val w < big := by
  have e := fold_lt w 0 (allDig_iff.mp h)
  have e2 : (0 + 1) * 10 ^ w.length ≤ 10 ^ 12 := by
    rw [Nat.zero_add, Nat.one_mul]
    exact Nat.pow_le_pow_right (by decide) hl
  have e3 : NumText.digitsVal w < 10 ^ 12 := Nat.lt_of_lt_of_le e e2
  have e4 : (10 : Nat) ^ 12 = 1000000000000 := by decide
  rw [e4] at e3
  unfold val
  show (NumText.digitsVal w : Int) < 1000000000000
  omega
theorem allDig_numL (n : Nat) : allDig (numL n) = true := allDig_iff.mpr (numL_digits n)
theorem val_numL (n : Nat) : val (numL n) = n := by
  unfold val
  rw [numL_val]
theorem numL_cons (n : Nat) : ∃ c r, numL n = c :: r ∧ isDig c = true := by
  cases h : numL n with
  | nil => exact absurd h (numL_ne n)
  | cons c r => exact ⟨c, r, rfl, isDig_iff.mpr (numL_digits n c (by rw [h]; exact List.mem_cons_self))⟩
theorem numL_head (n : Nat) (h1 : 1 ≤ n) : (numL n).head? ≠ some 48 := by
  induction n using Nat.strongRecOn with
  | _ n ih =>
    by_cases h : n < 10
    · rw [numL_lt h]
      intro e
      have e2 : 48 + n = 48 := Option.some.inj e
      omega
    · rw [numL_step (by omega)]
      intro e
      apply ih (n / 10) (by omega) (by omega)
      obtain ⟨c, r, e1, _⟩ := numL_cons (n / 10)
      rw [e1] at e ⊢
      exact e
theorem numL_len12 {n : Nat} (h : n < 1000000000000) : (numL n).length ≤ 12 := numL_len (by decide) (by
  have e4 : (10 : Nat) ^ 12 = 1000000000000 := by decide
  omega)
theorem numL_len1 (n : Nat) : 1 ≤ (numL n).length := by
  obtain ⟨c, r, e1, _⟩ := numL_cons n
  rw [e1, List.length_cons]
  omega
/-- the program's count_of -/
def countOf (w : L) : Option Int := if allDig w = true ∧ 1 ≤ w.length ∧ w.length ≤ 12 then some (val w) else none
/-- the law's figures -/
def figs (w : L) : Int := if allDig w = true ∧ 1 ≤ w.length ∧ w.length ≤ 12 ∧ w.head? ≠ some 48 then val w else -1
theorem countOf_numL {n : Nat} (h : n < 1000000000000) : countOf (numL n) = some (n : Int) := by
  unfold countOf
  rw [if_pos ⟨allDig_numL n, numL_len1 n, numL_len12 h⟩, val_numL]
theorem figs_numL {n : Nat} (h1 : 1 ≤ n) (h : n < 1000000000000) : figs (numL n) = (n : Int) := by
  unfold figs
  rw [if_pos ⟨allDig_numL n, numL_len1 n, numL_len12 h, numL_head n h1⟩, val_numL]
theorem countOf_some {w : L} {n : Int} (h : countOf w = some n) : 0 ≤ n ∧ n < big := by
  unfold countOf at h
  split at h
  · rename_i c
    have e : val w = n := Option.some.inj h
    rw [← e]
    exact ⟨val_nonneg w, val_lt c.1 c.2.2⟩
  · cases h
theorem figs_lt (w : L) : figs w < big := by
  unfold figs
  split
  · rename_i c
    exact val_lt c.1 c.2.2.1
  · decide
/-- str of an int -/
def intL (z : Int) : L := if z < 0 then 45 :: numL z.natAbs else numL z.natAbs

/-! ### an end -/
structure NumOk (n : Int) (m : Bool) (here : Int) : Prop where
  fast : m = true → n < big
  far : m = false → n - here < big ∧ here - n < big
def endTail (n : Int) (m : Bool) (here : Int) : L := if m = true then intL n else if n = here then [] else 91 :: (intL (n - here) ++ [93])
def mid (k : Nat) (w : L) : L := w.dropLast.drop k
/-- the program's far_of -/
def farOf (w : L) (here : Int) : Option (Int × Bool) := match w with
  | [] => some (here, false)
  | c :: r => if isDig c = true then (countOf (c :: r)).map fun n => (n, true)
    else if c = 91 ∧ (c :: r).getLast? = some 93 then
      (if (mid 1 (c :: r)).head? = some 45 then (countOf ((mid 1 (c :: r)).drop 1)).map fun n => (here - n, false) else (countOf (mid 1 (c :: r))).map fun n => (here + n, false))
    else none
theorem farOf_cons (c : Nat) (r : L) (here : Int) : farOf (c :: r) here = if isDig c = true then (countOf (c :: r)).map fun n => (n, true)
    else if c = 91 ∧ (c :: r).getLast? = some 93 then
      (if (mid 1 (c :: r)).head? = some 45 then (countOf ((mid 1 (c :: r)).drop 1)).map fun n => (here - n, false) else (countOf (mid 1 (c :: r))).map fun n => (here + n, false))
    else none := rfl
/-- the law's end -/
def lawBr (w : L) (k : Nat) (sg here : Int) : Option (Int × Bool) :=
  if w.getLast? ≠ some 93 ∨ figs (mid k w) < 1 ∨ here + sg * figs (mid k w) < 1 then none else some (here + sg * figs (mid k w), false)
def lawEnd (w : L) (here : Int) : Option (Int × Bool) := match w with
  | [] => some (here, false)
  | c :: r => if c = 91 then (if r.head? = some 45 then lawBr (c :: r) 2 (-1) here else lawBr (c :: r) 1 1 here)
    else if figs (c :: r) < 1 then none else some (figs (c :: r), true)
theorem lawEnd_cons (c : Nat) (r : L) (here : Int) : lawEnd (c :: r) here = if c = 91 then (if r.head? = some 45 then lawBr (c :: r) 2 (-1) here else lawBr (c :: r) 1 1 here)
    else if figs (c :: r) < 1 then none else some (figs (c :: r), true) := rfl
/-- what both give back of an end's text -/
def Tail (f : L → Int → Option (Int × Bool)) : Prop := ∀ n m here, 1 ≤ n → NumOk n m here → f (endTail n m here) here = some (n, m)
theorem br_mid (x : L) : mid 1 (91 :: (x ++ [93])) = x := by
  unfold mid
  rw [show 91 :: (x ++ [93]) = (91 :: x) ++ [93] from rfl, List.dropLast_concat]
  rfl
theorem br_mid2 (c : Nat) (x : L) : mid 2 (91 :: ((c :: x) ++ [93])) = x := by
  unfold mid
  rw [show 91 :: ((c :: x) ++ [93]) = (91 :: c :: x) ++ [93] from rfl, List.dropLast_concat]
  rfl
theorem br_last (x : L) : (91 :: (x ++ [93])).getLast? = some 93 := by
  rw [show 91 :: (x ++ [93]) = (91 :: x) ++ [93] from rfl, List.getLast?_concat]
theorem intL_neg {z : Int} (h : z < 0) : intL z = 45 :: numL z.natAbs := if_pos h
theorem intL_pos {z : Int} (h : ¬ z < 0) : intL z = numL z.natAbs := if_neg h
theorem numL_head45 (n : Nat) (x : L) : (numL n ++ x).head? ≠ some 45 := by
  obtain ⟨c, r, e, hc⟩ := numL_cons n
  rw [e]
  intro q
  have q2 : c = 45 := Option.some.inj q
  rw [q2] at hc
  cases hc
theorem tail_prog : Tail farOf := by
  intro n m here h1 hk
  unfold endTail
  cases m with
  | true =>
    rw [if_pos rfl, intL_pos (by omega)]
    obtain ⟨c, r, e, hc⟩ := numL_cons n.natAbs
    have b := hk.fast rfl
    have b2 : n < 1000000000000 := b
    have q := countOf_numL (n := n.natAbs) (by omega)
    rw [e] at q ⊢
    rw [farOf_cons, if_pos hc, q]
    show some (((n.natAbs : Nat) : Int), true) = _
    rw [show ((n.natAbs : Nat) : Int) = n by omega]
  | false =>
    rw [if_neg (by decide)]
    obtain ⟨b1, b2⟩ := hk.far rfl
    have b1' : n - here < 1000000000000 := b1
    have b2' : here - n < 1000000000000 := b2
    by_cases e : n = here
    · rw [if_pos e, e]
      rfl
    · rw [if_neg e]
      rw [farOf_cons]
      rw [if_neg (by decide), if_pos ⟨rfl, br_last _⟩, br_mid]
      by_cases z : n - here < 0
      · rw [intL_neg z, if_pos (show (45 :: numL (n - here).natAbs).head? = some 45 from rfl)]
        show (countOf (numL (n - here).natAbs)).map (fun k => (here - k, false)) = _
        rw [countOf_numL (by omega)]
        show some (here - (((n - here).natAbs : Nat) : Int), false) = _
        rw [show here - (((n - here).natAbs : Nat) : Int) = n by omega]
      · rw [intL_pos z, if_neg (by have q := numL_head45 (n - here).natAbs []; rw [List.append_nil] at q; exact q), countOf_numL (by omega)]
        show some (here + (((n - here).natAbs : Nat) : Int), false) = _
        rw [show here + (((n - here).natAbs : Nat) : Int) = n by omega]
theorem tail_law : Tail lawEnd := by
  intro n m here h1 hk
  unfold endTail
  cases m with
  | true =>
    rw [if_pos rfl, intL_pos (by omega)]
    obtain ⟨c, r, e, hc⟩ := numL_cons n.natAbs
    have b := hk.fast rfl
    have b2 : n < 1000000000000 := b
    have q := figs_numL (n := n.natAbs) (by omega) (by omega)
    rw [e] at q ⊢
    have hc91 : ¬ c = 91 := fun z => by
      rw [z] at hc
      cases hc
    rw [lawEnd_cons, if_neg hc91, q, if_neg (by omega), show ((n.natAbs : Nat) : Int) = n by omega]
  | false =>
    rw [if_neg (by decide)]
    obtain ⟨b1, b2⟩ := hk.far rfl
    have b1' : n - here < 1000000000000 := b1
    have b2' : here - n < 1000000000000 := b2
    by_cases e : n = here
    · rw [if_pos e, e]
      rfl
    · rw [if_neg e]
      rw [lawEnd_cons, if_pos rfl]
      by_cases z : n - here < 0
      · rw [intL_neg z]
        have hh : ((45 :: numL (n - here).natAbs) ++ [93]).head? = some 45 := rfl
        rw [if_pos hh]
        unfold lawBr
        rw [br_mid2, figs_numL (by omega) (by omega)]
        have e2 : here + -1 * (((n - here).natAbs : Nat) : Int) = n := by omega
        rw [e2, if_neg]
        rintro (q | q | q)
        · exact q (br_last _)
        · omega
        · omega
      · rw [intL_pos z]
        have hh : ¬ (numL (n - here).natAbs ++ [93]).head? = some 45 := numL_head45 _ _
        rw [if_neg hh]
        unfold lawBr
        rw [br_mid, figs_numL (by omega) (by omega)]
        have e2 : here + 1 * (((n - here).natAbs : Nat) : Int) = n := by omega
        rw [e2, if_neg]
        rintro (q | q | q)
        · exact q (br_last _)
        · omega
        · omega
/-- what both say of a number that they read -/
theorem out_prog {w : L} {here n : Int} {m : Bool} (h : farOf w here = some (n, m)) : NumOk n m here := by
  unfold farOf at h
  split at h
  · have e := Prod.mk.inj (Option.some.inj h)
    obtain ⟨e1, e2⟩ := e
    subst e1 e2
    exact ⟨fun q => (nomatch q), fun _ => by constructor <;> (show _ < (1000000000000 : Int); omega)⟩
  · split at h
    · obtain ⟨k, hk, e⟩ := Option.map_eq_some_iff.mp h
      obtain ⟨e1, e2⟩ := Prod.mk.inj e
      subst e1 e2
      exact ⟨fun _ => (countOf_some hk).2, fun q => (nomatch q)⟩
    · split at h
      · split at h
        · obtain ⟨k, hk, e⟩ := Option.map_eq_some_iff.mp h
          obtain ⟨e1, e2⟩ := Prod.mk.inj e
          subst e1 e2
          have b := countOf_some hk
          have b2 : k < 1000000000000 := b.2
          exact ⟨fun q => (nomatch q), fun _ => by constructor <;> (show _ < (1000000000000 : Int); omega)⟩
        · obtain ⟨k, hk, e⟩ := Option.map_eq_some_iff.mp h
          obtain ⟨e1, e2⟩ := Prod.mk.inj e
          subst e1 e2
          have b := countOf_some hk
          have b2 : k < 1000000000000 := b.2
          exact ⟨fun q => (nomatch q), fun _ => by constructor <;> (show _ < (1000000000000 : Int); omega)⟩
      · cases h
theorem out_br {w : L} {k : Nat} {sg here n : Int} {m : Bool} (hs : sg = 1 ∨ sg = -1) (h : lawBr w k sg here = some (n, m)) : 1 ≤ n ∧ NumOk n m here := by
  unfold lawBr at h
  split at h
  · cases h
  · rename_i q
    obtain ⟨e1, e2⟩ := Prod.mk.inj (Option.some.inj h)
    subst e2
    have b : figs (mid k w) < 1000000000000 := figs_lt _
    have q2 : ¬ figs (mid k w) < 1 := fun z => q (.inr (.inl z))
    have q3 : ¬ here + sg * figs (mid k w) < 1 := fun z => q (.inr (.inr z))
    generalize figs (mid k w) = f at b q2 q3 e1
    rcases hs with rfl | rfl
    · exact ⟨by omega, fun q => (nomatch q), fun _ => by constructor <;> (show _ < (1000000000000 : Int); omega)⟩
    · exact ⟨by omega, fun q => (nomatch q), fun _ => by constructor <;> (show _ < (1000000000000 : Int); omega)⟩
theorem out_law {w : L} {here n : Int} {m : Bool} (h1 : 1 ≤ here) (h : lawEnd w here = some (n, m)) : 1 ≤ n ∧ NumOk n m here := by
  cases w with
  | nil =>
    obtain ⟨e1, e2⟩ := Prod.mk.inj (Option.some.inj h)
    subst e1 e2
    exact ⟨h1, fun q => (nomatch q), fun _ => by constructor <;> (show _ < (1000000000000 : Int); omega)⟩
  | cons c r =>
    rw [lawEnd_cons] at h
    split at h
    · split at h
      · exact out_br (.inr rfl) h
      · exact out_br (.inl rfl) h
    · split at h
      · cases h
      · obtain ⟨e1, e2⟩ := Prod.mk.inj (Option.some.inj h)
        subst e1 e2
        exact ⟨by omega, fun _ => figs_lt _, fun q => (nomatch q)⟩

/-! ### a part: a row's and a column's end -/
abbrev End := Option Int × Bool
def before (s : Nat) (w : L) : L := w.takeWhile (· != s)
def after (s : Nat) (w : L) : L := (w.dropWhile (· != s)).drop 1
theorem before_app {s : Nat} : ∀ {x y : L}, s ∉ x → before s (x ++ s :: y) = x
  | [], y, _ => by
    show (s :: y).takeWhile (· != s) = []
    rw [List.takeWhile_cons_of_neg (by simp)]
  | a :: x, y, h => by
    show (a :: (x ++ s :: y)).takeWhile (· != s) = a :: x
    have ha : a ≠ s := fun e => h (by rw [e]; exact List.mem_cons_self)
    rw [List.takeWhile_cons_of_pos (by simpa using ha)]
    exact congrArg (a :: ·) (before_app (s := s) (x := x) (y := y) fun q => h (List.mem_cons_of_mem _ q))
theorem after_app {s : Nat} : ∀ {x y : L}, s ∉ x → after s (x ++ s :: y) = y
  | [], y, _ => by
    show ((s :: y).dropWhile (· != s)).drop 1 = y
    rw [List.dropWhile_cons_of_neg (by simp)]
    rfl
  | a :: x, y, h => by
    show ((a :: (x ++ s :: y)).dropWhile (· != s)).drop 1 = y
    have ha : a ≠ s := fun e => h (by rw [e]; exact List.mem_cons_self)
    rw [List.dropWhile_cons_of_pos (by simpa using ha)]
    exact after_app (s := s) (x := x) (y := y) fun q => h (List.mem_cons_of_mem _ q)
theorem before_none {s : Nat} : ∀ {x : L}, s ∉ x → before s x = x
  | [], _ => rfl
  | a :: x, h => by
    show (a :: x).takeWhile (· != s) = a :: x
    have ha : a ≠ s := fun e => h (by rw [e]; exact List.mem_cons_self)
    rw [List.takeWhile_cons_of_pos (by simpa using ha)]
    exact congrArg (a :: ·) (before_none fun q => h (List.mem_cons_of_mem _ q))
theorem before_free {s : Nat} : ∀ (x : L), s ∉ before s x
  | [] => by simp [before]
  | a :: x => by
    show s ∉ (a :: x).takeWhile (· != s)
    by_cases ha : a = s
    · rw [List.takeWhile_cons_of_neg (by simpa using ha)]
      simp
    · rw [List.takeWhile_cons_of_pos (by simpa using ha)]
      intro q
      rcases List.mem_cons.mp q with e | e
      · exact ha e.symm
      · exact before_free x e
theorem cut_at {s : Nat} : ∀ {x : L}, s ∈ x → x = before s x ++ s :: after s x
  | [], h => by simp at h
  | a :: x, h => by
    by_cases ha : a = s
    · subst ha
      show a :: x = (a :: x).takeWhile (· != a) ++ a :: ((a :: x).dropWhile (· != a)).drop 1
      rw [List.takeWhile_cons_of_neg (by simp), List.dropWhile_cons_of_neg (by simp)]
      rfl
    · have hx : s ∈ x := by
        rcases List.mem_cons.mp h with e | e
        · exact absurd e.symm ha
        · exact e
      have ih := cut_at hx
      show a :: x = (a :: x).takeWhile (· != s) ++ s :: ((a :: x).dropWhile (· != s)).drop 1
      rw [List.takeWhile_cons_of_pos (by simpa using ha), List.dropWhile_cons_of_pos (by simpa using ha)]
      exact congrArg (a :: ·) ih
def rowEnd (f : L → Int → Option (Int × Bool)) (row : L) (here : Int) : Option End := match row with
  | [] => some (none, false)
  | x :: t => if x = 82 then (f t here).map fun p => (some p.1, p.2) else none
def colEnd (f : L → Int → Option (Int × Bool)) (w : L) (here : Int) : Option End := if 67 ∈ w then (f (after 67 w) here).map fun p => (some p.1, p.2) else some (none, false)
def ends (f : L → Int → Option (Int × Bool)) (w : L) (r c : Int) : Option (End × End) := match rowEnd f (before 67 w) r, colEnd f w c with
  | some a, some b => some (a, b)
  | _, _ => none
def endT (s : Nat) (a : Option (Int × Bool)) (here : Int) : L := match a with
  | none => []
  | some (n, m) => s :: endTail n m here
def partL (a b : Option (Int × Bool)) (r c : Int) : L := endT 82 a r ++ endT 67 b c
def pr (a : Option (Int × Bool)) : End := match a with
  | none => (none, false)
  | some (n, m) => (some n, m)
def Fine (a : Option (Int × Bool)) (here : Int) : Prop := ∀ n m, a = some (n, m) → 1 ≤ n ∧ NumOk n m here
theorem intL_free {s : Nat} (h : s ≠ 45) (h2 : s < 48 ∨ 57 < s) (z : Int) : s ∉ intL z := by
  unfold intL
  split
  · intro q
    rcases List.mem_cons.mp q with e | e
    · exact h e
    · exact numL_free h2 e
  · exact numL_free h2
theorem endTail_free {s : Nat} (h : s = 67 ∨ s = 58 ∨ s = 82) (n : Int) (m : Bool) (here : Int) : s ∉ endTail n m here := by
  unfold endTail
  split
  · exact intL_free (by omega) (by omega) n
  · split
    · simp
    · intro q
      rcases List.mem_cons.mp q with e | e
      · omega
      · rcases List.mem_append.mp e with e | e
        · exact intL_free (by omega) (by omega) _ e
        · have e2 := List.mem_singleton.mp e
          omega
theorem endT_free67 (a : Option (Int × Bool)) (here : Int) : 67 ∉ endT 82 a here := by
  cases a with
  | none => simp [endT]
  | some p =>
    obtain ⟨n, m⟩ := p
    intro q
    rcases List.mem_cons.mp q with e | e
    · omega
    · exact endTail_free (.inl rfl) n m here e
theorem endT_free58 {s : Nat} (hs : s ≠ 58) (a : Option (Int × Bool)) (here : Int) : 58 ∉ endT s a here := by
  cases a with
  | none => simp [endT]
  | some p =>
    obtain ⟨n, m⟩ := p
    intro q
    rcases List.mem_cons.mp q with e | e
    · exact hs e.symm
    · exact endTail_free (.inr (.inl rfl)) n m here e
theorem partL_free58 (a b : Option (Int × Bool)) (r c : Int) : 58 ∉ partL a b r c := fun q => by
  rcases List.mem_append.mp q with e | e
  · exact endT_free58 (by decide) a r e
  · exact endT_free58 (by decide) b c e
/-- both readings give a part's ends back -/
theorem ends_part {f : L → Int → Option (Int × Bool)} (hf : Tail f) {a b : Option (Int × Bool)} {r c : Int} (ha : Fine a r) (hb : Fine b c) : ends f (partL a b r c) r c = some (pr a, pr b) := by
  have e1 : before 67 (partL a b r c) = endT 82 a r := by
    cases b with
    | none =>
      show before 67 (endT 82 a r ++ []) = _
      rw [List.append_nil]
      exact before_none (endT_free67 a r)
    | some p => exact before_app (endT_free67 a r)
  have h1 : rowEnd f (endT 82 a r) r = some (pr a) := by
    cases a with
    | none => rfl
    | some p =>
      obtain ⟨n, m⟩ := p
      show (if (82 : Nat) = 82 then (f (endTail n m r) r).map fun p => (some p.1, p.2) else none) = _
      rw [if_pos rfl, hf n m r (ha n m rfl).1 (ha n m rfl).2]
      rfl
  have h2 : colEnd f (partL a b r c) c = some (pr b) := by
    cases b with
    | none =>
      unfold colEnd
      rw [if_neg]
      · rfl
      · show ¬ 67 ∈ endT 82 a r ++ []
        rw [List.append_nil]
        exact endT_free67 a r
    | some p =>
      obtain ⟨n, m⟩ := p
      unfold colEnd
      rw [if_pos (show 67 ∈ partL a (some (n, m)) r c from List.mem_append_right _ List.mem_cons_self), show after 67 (partL a (some (n, m)) r c) = endTail n m c from after_app (endT_free67 a r), hf n m c (hb n m rfl).1 (hb n m rfl).2]
      rfl
  unfold ends
  rw [e1, h1, h2]
/-- what an end says -/
theorem row_inv {f : L → Int → Option (Int × Bool)} {row : L} {here : Int} {a : End} (h : rowEnd f row here = some a) : (row = [] ∧ a = (none, false)) ∨ ∃ w n m, row = 82 :: w ∧ f w here = some (n, m) ∧ a = (some n, m) := by
  cases row with
  | nil => exact .inl ⟨rfl, (Option.some.inj h).symm⟩
  | cons x t =>
    right
    have h2 : (if x = 82 then (f t here).map fun p => (some p.1, p.2) else none) = some a := h
    split at h2
    · rename_i e
      obtain ⟨p, hp, ep⟩ := Option.map_eq_some_iff.mp h2
      obtain ⟨n, m⟩ := p
      exact ⟨t, n, m, by rw [e], hp, ep.symm⟩
    · cases h2
theorem col_inv {f : L → Int → Option (Int × Bool)} {w : L} {here : Int} {b : End} (h : colEnd f w here = some b) : (67 ∉ w ∧ b = (none, false)) ∨ (67 ∈ w ∧ ∃ n m, f (after 67 w) here = some (n, m) ∧ b = (some n, m)) := by
  unfold colEnd at h
  split at h
  · rename_i e
    obtain ⟨p, hp, ep⟩ := Option.map_eq_some_iff.mp h
    obtain ⟨n, m⟩ := p
    exact .inr ⟨e, n, m, hp, ep.symm⟩
  · rename_i e
    exact .inl ⟨e, (Option.some.inj h).symm⟩
theorem ends_inv {f : L → Int → Option (Int × Bool)} {w : L} {r c : Int} {a b : End} (h : ends f w r c = some (a, b)) : rowEnd f (before 67 w) r = some a ∧ colEnd f w c = some b := by
  unfold ends at h
  split at h
  · rename_i x y e1 e2
    obtain ⟨q1, q2⟩ := Prod.mk.inj (Option.some.inj h)
    rw [e1, e2, q1, q2]
    exact ⟨rfl, rfl⟩
  · cases h

/-! ### a name in numbers -/
structure Due where
  top : Int
  left : Int
  bottom : Option Int
  right : Option Int
  up : Bool
  dn : Bool
  sd : Bool
  fr : Bool
  deriving DecidableEq
def isRows (d : Due) : Bool := decide (d.left = 1) && (d.right.isNone && d.bottom.isSome)
def isCols (d : Due) : Bool := decide (d.top = 1) && (d.bottom.isNone && d.right.isSome)
def isCell (d : Due) : Bool := decide (d.bottom = some d.top) && decide (d.right = some d.left)
/-- block.size() == 1 -/
def isOne (d : Due) : Bool := match d.bottom, d.right with
  | some b, some r => decide ((b - d.top + 1) * (r - d.left + 1) = 1)
  | _, _ => false
/-- an end's text, of what may not be there -/
def farT (s : Nat) (e : Option Int) (m : Bool) (here : Int) : L := match e with
  | none => []
  | some n => s :: endTail n m here
def u0 (d : Due) (r : Int) : L := farT 82 (some d.top) d.up r
def u1 (d : Due) (r : Int) : L := farT 82 d.bottom d.dn r
def s0 (d : Due) (c : Int) : L := farT 67 (some d.left) d.sd c
def s1 (d : Due) (c : Int) : L := farT 67 d.right d.fr c
/-- the text, one telling whether it is a cell's -/
def shownBy (one : Bool) (d : Due) (r c : Int) : L :=
  if isRows d = true then u0 d r ++ 58 :: u1 d r else if isCols d = true then s0 d c ++ 58 :: s1 d c
  else if one = true then u0 d r ++ s0 d c else (u0 d r ++ s0 d c) ++ 58 :: (u1 d r ++ s1 d c)
def isEnd (first : Int) (last : Option Int) : Bool := match last with
  | none => true
  | some l => decide (1 ≤ l) && decide (first ≤ l)
def blockOk (d : Due) : Bool := decide (1 ≤ d.top) && (decide (1 ≤ d.left) && (isEnd d.top d.bottom && isEnd d.left d.right))
def mayBe (m0 m1 stands : Bool) (last : Option Int) (one : Bool) : Bool := if (m0 && !stands || m1 && (!stands || last.isNone)) = true then false else (!one || m0 == m1)
def marksOk (d : Due) : Bool := mayBe d.up d.dn (!isCols d) d.bottom (isOne d) && mayBe d.sd d.fr (!isRows d) d.right (isOne d)
theorem isEnd_some {f l : Int} (h : isEnd f (some l) = true) : 1 ≤ l ∧ f ≤ l := by
  obtain ⟨h1, h2⟩ := Bool.and_eq_true_iff.mp h
  exact ⟨of_decide_eq_true h1, of_decide_eq_true h2⟩
theorem one_cell {d : Due} (h : blockOk d = true) : isOne d = isCell d := by
  unfold blockOk at h
  obtain ⟨_, h⟩ := Bool.and_eq_true_iff.mp h
  obtain ⟨_, h⟩ := Bool.and_eq_true_iff.mp h
  obtain ⟨h3, h4⟩ := Bool.and_eq_true_iff.mp h
  unfold isOne isCell
  cases hb : d.bottom with
  | none => simp
  | some b =>
    cases hr : d.right with
    | none => simp
    | some r =>
      rw [hb] at h3
      rw [hr] at h4
      have b2 := (isEnd_some h3).2
      have r2 := (isEnd_some h4).2
      show decide ((b - d.top + 1) * (r - d.left + 1) = 1) = (decide (some b = some d.top) && decide (some r = some d.left))
      rw [← Bool.decide_and]
      apply decide_eq_decide.mpr
      constructor
      · intro e
        have p1 : 1 ≤ b - d.top + 1 := by omega
        have p2 : 1 ≤ r - d.left + 1 := by omega
        have q1 : b - d.top + 1 ≤ 1 := by
          have := Int.mul_le_mul_of_nonneg_left p2 (show (0 : Int) ≤ b - d.top + 1 by omega)
          rw [e] at this
          omega
        have q2 : r - d.left + 1 ≤ 1 := by
          have := Int.mul_le_mul_of_nonneg_right p1 (show (0 : Int) ≤ r - d.left + 1 by omega)
          rw [e] at this
          omega
        exact ⟨congrArg some (by omega), congrArg some (by omega)⟩
      · rintro ⟨e1, e2⟩
        have e1' : b = d.top := Option.some.inj e1
        have e2' : r = d.left := Option.some.inj e2
        rw [e1', e2', show d.top - d.top + 1 = 1 by omega, show d.left - d.left + 1 = 1 by omega]
        rfl

/-! ### the two readings -/
def build (a b a2 b2 : End) : Due := ⟨a.1.getD 1, b.1.getD 1, a2.1, b2.1, a.2, a2.2, b.2, b2.2⟩
def lastP (t : L) : L := if 58 ∈ t then after 58 t else before 58 t
def readNums (t : L) (r c : Int) : Option Due := match ends farOf (before 58 t) r c, ends farOf (lastP t) r c with
  | some (a, b), some (a2, b2) => if (blockOk (build a b a2 b2) && marksOk (build a b a2 b2)) = true then some (build a b a2 b2) else none
  | _, _ => none
def progRead (t : L) (r c : Int) : Option Due := match readNums t r c with
  | some d => if shownBy (isOne d) d r c = t then some d else none
  | none => none
def ltO (o : Option Int) (n : Int) : Bool := match o with
  | none => false
  | some x => decide (x < n)
/-- the law's look at the ends of its parts: n parts -/
def lawPick (n : Nat) (a b a2 b2 : End) (t : L) (r c : Int) : Option Due :=
  if n = 1 ∧ (a.1 = none ∨ b.1 = none) then none
  else if b.1 = none ∧ (a2.1 = none ∨ b2.1 ≠ none) then none
  else if a.1 = none ∧ (b2.1 = none ∨ a2.1 ≠ none) then none
  else if ltO a2.1 (a.1.getD 1) = true ∨ ltO b2.1 (b.1.getD 1) = true then none
  else if shownBy (isCell (build a b a2 b2)) (build a b a2 b2) r c = t then some (build a b a2 b2) else none
def lawOf (ps : List L) (t : L) (r c : Int) : Option Due :=
  if 2 < ps.length ∨ (∃ p ∈ ps, ends lawEnd p r c = none) ∨ ps.headD [] = [] then none
  else match ends lawEnd (ps.headD []) r c, ends lawEnd (ps.getLastD []) r c with
    | some (a, b), some (a2, b2) => lawPick ps.length a b a2 b2 t r c
    | _, _ => none
def lawRead (t : L) (r c : Int) : Option Due := lawOf (spl [58] 0 [] t) t r c
structure Good (d : Due) (r c : Int) : Prop where
  blk : blockOk d = true
  mrk : marksOk d = true
  nt : isCols d = false → NumOk d.top d.up r
  nl : isRows d = false → NumOk d.left d.sd c
  nb : ∀ b, d.bottom = some b → NumOk b d.dn r
  nr : ∀ x, d.right = some x → NumOk x d.fr c
theorem mayBe_of {m0 m1 st one : Bool} {last : Option Int} (h : mayBe m0 m1 st last one = true) : (st = false → m0 = false ∧ m1 = false) ∧ (last = none → m1 = false) ∧ (one = true → m0 = m1) := by
  revert h
  unfold mayBe
  cases last <;> cases m0 <;> cases m1 <;> cases st <;> cases one <;> simp
theorem blk_of {d : Due} (h : blockOk d = true) : 1 ≤ d.top ∧ 1 ≤ d.left ∧ (∀ b, d.bottom = some b → 1 ≤ b ∧ d.top ≤ b) ∧ ∀ x, d.right = some x → 1 ≤ x ∧ d.left ≤ x := by
  unfold blockOk at h
  obtain ⟨h1, h⟩ := Bool.and_eq_true_iff.mp h
  obtain ⟨h2, h⟩ := Bool.and_eq_true_iff.mp h
  obtain ⟨h3, h4⟩ := Bool.and_eq_true_iff.mp h
  refine ⟨of_decide_eq_true h1, of_decide_eq_true h2, fun b e => ?_, fun x e => ?_⟩
  · rw [e] at h3
    exact isEnd_some h3
  · rw [e] at h4
    exact isEnd_some h4
theorem rows_of {d : Due} (h : isRows d = true) : d.left = 1 ∧ d.right = none ∧ ∃ b, d.bottom = some b := by
  unfold isRows at h
  obtain ⟨h1, h⟩ := Bool.and_eq_true_iff.mp h
  obtain ⟨h2, h3⟩ := Bool.and_eq_true_iff.mp h
  exact ⟨of_decide_eq_true h1, Option.isNone_iff_eq_none.mp h2, Option.isSome_iff_exists.mp h3⟩
theorem cols_of {d : Due} (h : isCols d = true) : d.top = 1 ∧ d.bottom = none ∧ ∃ x, d.right = some x := by
  unfold isCols at h
  obtain ⟨h1, h⟩ := Bool.and_eq_true_iff.mp h
  obtain ⟨h2, h3⟩ := Bool.and_eq_true_iff.mp h
  exact ⟨of_decide_eq_true h1, Option.isNone_iff_eq_none.mp h2, Option.isSome_iff_exists.mp h3⟩
/-- how the text of a good one stands: its parts -/
inductive Laid (d : Due) (r c : Int) (t : L) : Prop
  | one (a b : Option (Int × Bool)) (ha : Fine a r) (hb : Fine b c) (e : t = partL a b r c) (na : a ≠ none) (nb : b ≠ none) (hd : d = build (pr a) (pr b) (pr a) (pr b)) : Laid d r c t
  | two (a b a2 b2 : Option (Int × Bool)) (ha : Fine a r) (hb : Fine b c) (ha2 : Fine a2 r) (hb2 : Fine b2 c) (e : t = partL a b r c ++ 58 :: partL a2 b2 r c) (n0 : a ≠ none ∨ b ≠ none)
      (q1 : b = none → a2 ≠ none ∧ b2 = none) (q2 : a = none → b2 ≠ none ∧ a2 = none) (hd : d = build (pr a) (pr b) (pr a2) (pr b2)) : Laid d r c t
def withM (o : Option Int) (m : Bool) : Option (Int × Bool) := match o with
  | none => none
  | some n => some (n, m)
theorem pr_withM {o : Option Int} {m : Bool} (h : o = none → m = false) : pr (withM o m) = (o, m) := by
  cases o with
  | none => rw [h rfl] <;> rfl
  | some n => rfl
theorem endT_withM (s : Nat) (o : Option Int) (m : Bool) (here : Int) : endT s (withM o m) here = farT s o m here := by cases o <;> rfl
theorem fine_withM {o : Option Int} {m : Bool} {here : Int} (h : ∀ n, o = some n → 1 ≤ n ∧ NumOk n m here) : Fine (withM o m) here := fun n m' e => by
  cases o with
  | none => cases e
  | some k =>
    obtain ⟨e1, e2⟩ := Prod.mk.inj (Option.some.inj e)
    subst e1 e2
    exact h _ rfl
theorem laid_of {d : Due} {r c : Int} (g : Good d r c) : Laid d r c (shownBy (isOne d) d r c) := by
  obtain ⟨b1, b2, b3, b4⟩ := blk_of g.blk
  have gm := g.mrk
  unfold marksOk at gm
  obtain ⟨m1, m2⟩ := Bool.and_eq_true_iff.mp gm
  obtain ⟨m3, m4, m5⟩ := mayBe_of m1
  obtain ⟨m6, m7, m8⟩ := mayBe_of m2
  have hd : d = ⟨d.top, d.left, d.bottom, d.right, d.up, d.dn, d.sd, d.fr⟩ := rfl
  have fb : Fine (withM d.bottom d.dn) r := fine_withM fun n e => ⟨(b3 n e).1, g.nb n e⟩
  have fx : Fine (withM d.right d.fr) c := fine_withM fun n e => ⟨(b4 n e).1, g.nr n e⟩
  unfold shownBy
  cases hr : isRows d with
  | true =>
    obtain ⟨r1, r2, b, r3⟩ := rows_of hr
    obtain ⟨z1, z2⟩ := m6 (by rw [hr]; rfl)
    have hc : isCols d = false := by
      unfold isCols
      rw [r2]
      simp
    rw [if_pos rfl]
    refine .two (some (d.top, d.up)) none (withM d.bottom d.dn) none (fun n m e => ?_) (fun n m e => nomatch e) fb (fun n m e => nomatch e) ?_ (.inl (fun q => nomatch q)) (fun _ => ⟨by rw [r3]; exact (fun q => nomatch q), rfl⟩) (fun q => nomatch q) ?_
    · obtain ⟨e1, e2⟩ := Prod.mk.inj (Option.some.inj e)
      subst e1 e2
      exact ⟨b1, g.nt hc⟩
    · show u0 d r ++ 58 :: u1 d r = (endT 82 (some (d.top, d.up)) r ++ []) ++ 58 :: (endT 82 (withM d.bottom d.dn) r ++ [])
      rw [List.append_nil, List.append_nil, endT_withM]
      rfl
    · rw [pr_withM m4]
      show d = ⟨d.top, 1, d.bottom, none, d.up, d.dn, false, false⟩
      rw [← r1, ← r2, ← z1]
      exact hd.trans (by rw [z2, z1])
  | false =>
    rw [if_neg (by decide)]
    cases hc : isCols d with
    | true =>
      obtain ⟨r1, r2, b, r3⟩ := cols_of hc
      obtain ⟨z1, z2⟩ := m3 (by rw [hc]; rfl)
      rw [if_pos rfl]
      refine .two none (some (d.left, d.sd)) none (withM d.right d.fr) (fun n m e => nomatch e) (fun n m e => ?_) (fun n m e => nomatch e) fx ?_ (.inr (fun q => nomatch q)) (fun q => nomatch q) (fun _ => ⟨by rw [r3]; exact (fun q => nomatch q), rfl⟩) ?_
      · obtain ⟨e1, e2⟩ := Prod.mk.inj (Option.some.inj e)
        subst e1 e2
        exact ⟨b2, g.nl hr⟩
      · show s0 d c ++ 58 :: s1 d c = ([] ++ endT 67 (some (d.left, d.sd)) c) ++ 58 :: ([] ++ endT 67 (withM d.right d.fr) c)
        rw [List.nil_append, List.nil_append, endT_withM]
        rfl
      · rw [pr_withM m7]
        show d = ⟨1, d.left, none, d.right, false, false, d.sd, d.fr⟩
        rw [← r1, ← r2, ← z1]
        exact hd.trans (by rw [z2, z1])
    | false =>
      rw [if_neg (by decide)]
      have ft : Fine (some (d.top, d.up)) r := fun n m e => by
        obtain ⟨e1, e2⟩ := Prod.mk.inj (Option.some.inj e)
        subst e1 e2
        exact ⟨b1, g.nt hc⟩
      have fl : Fine (some (d.left, d.sd)) c := fun n m e => by
        obtain ⟨e1, e2⟩ := Prod.mk.inj (Option.some.inj e)
        subst e1 e2
        exact ⟨b2, g.nl hr⟩
      cases ho : isOne d with
      | true =>
        rw [if_pos rfl]
        have hcell := (one_cell g.blk).symm.trans ho
        unfold isCell at hcell
        obtain ⟨c1, c2⟩ := Bool.and_eq_true_iff.mp hcell
        refine .one (some (d.top, d.up)) (some (d.left, d.sd)) ft fl rfl (fun q => nomatch q) (fun q => nomatch q) ?_
        show d = ⟨d.top, d.left, some d.top, some d.left, d.up, d.up, d.sd, d.sd⟩
        have e1 := of_decide_eq_true c1
        have e2 := of_decide_eq_true c2
        have e3 := m5 ho
        have e4 := m8 ho
        rw [← e1, ← e2]
        exact hd.trans (by rw [e3, e4])
      | false =>
        rw [if_neg (by decide)]
        refine .two (some (d.top, d.up)) (some (d.left, d.sd)) (withM d.bottom d.dn) (withM d.right d.fr) ft fl fb fx ?_ (.inl (fun q => nomatch q)) (fun q => nomatch q) (fun q => nomatch q) ?_
        · show (u0 d r ++ s0 d c) ++ 58 :: (u1 d r ++ s1 d c) = (endT 82 (some (d.top, d.up)) r ++ endT 67 (some (d.left, d.sd)) c) ++ 58 :: (endT 82 (withM d.bottom d.dn) r ++ endT 67 (withM d.right d.fr) c)
          rw [endT_withM, endT_withM]
          rfl
        · rw [pr_withM m4, pr_withM m7]
          exact hd
theorem spl_none {t : L} (h : 58 ∉ t) : spl [58] 0 [] t = [t] := by
  rw [spl_last1 h]
  rfl
theorem spl_cut {x y : L} (h : 58 ∉ x) : spl [58] 0 [] (x ++ 58 :: y) = x :: spl [58] 0 [] y := by
  have e := spl_part1 (s := 58) (S := []) (p := x) (rest := y) (acc := []) h
  exact e
theorem spl_two {x y : L} (h : 58 ∉ x) (h2 : 58 ∉ y) : spl [58] 0 [] (x ++ 58 :: y) = [x, y] := by rw [spl_cut h, spl_none h2]
theorem fine_pos {a : Option (Int × Bool)} {here : Int} (ha : Fine a here) {k : Int} (hk : (pr a).1 = some k) : 1 ≤ k := by
  cases a with
  | none => cases hk
  | some p =>
    obtain ⟨n, m⟩ := p
    have e : n = k := Option.some.inj hk
    rw [← e]
    exact (ha n m rfl).1
theorem pr_none {a : Option (Int × Bool)} : (pr a).1 = none ↔ a = none := by
  cases a with
  | none => exact ⟨fun _ => rfl, fun _ => rfl⟩
  | some p => exact ⟨fun e => (nomatch e), fun e => (nomatch e)⟩
theorem partL_ne {a b : Option (Int × Bool)} {r c : Int} (h : a ≠ none ∨ b ≠ none) : partL a b r c ≠ [] := by
  cases a with
  | some p => exact fun q => nomatch q
  | none =>
    cases b with
    | some p => exact fun q => nomatch q
    | none => exact absurd rfl (h.elim id id)
/-- the program reads a good name back -/
theorem prog_back {d : Due} {r c : Int} (g : Good d r c) : progRead (shownBy (isOne d) d r c) r c = some d := by
  have x := laid_of g
  generalize ht : shownBy (isOne d) d r c = t at x
  have fin : readNums t r c = some d → progRead t r c = some d := fun e => by
    unfold progRead
    rw [e]
    show (if shownBy (isOne d) d r c = t then some d else none) = some d
    rw [if_pos ht]
  have ok : (blockOk d && marksOk d) = true := by rw [g.blk, g.mrk] <;> rfl
  apply fin
  cases x with
  | one a b ha hb e na nb hd =>
    have h58 : 58 ∉ t := by rw [e]; exact partL_free58 a b r c
    unfold readNums lastP
    rw [if_neg h58, before_none h58, e, ends_part tail_prog ha hb]
    show (if (blockOk (build (pr a) (pr b) (pr a) (pr b)) && marksOk (build (pr a) (pr b) (pr a) (pr b))) = true then some (build (pr a) (pr b) (pr a) (pr b)) else none) = some d
    rw [← hd, if_pos ok]
  | two a b a2 b2 ha hb ha2 hb2 e n0 q1 q2 hd =>
    have h58 : 58 ∈ t := by rw [e]; exact List.mem_append_right _ List.mem_cons_self
    unfold readNums lastP
    rw [if_pos h58, e, before_app (partL_free58 a b r c), after_app (partL_free58 a b r c), ends_part tail_prog ha hb, ends_part tail_prog ha2 hb2]
    show (if (blockOk (build (pr a) (pr b) (pr a2) (pr b2)) && marksOk (build (pr a) (pr b) (pr a2) (pr b2))) = true then some (build (pr a) (pr b) (pr a2) (pr b2)) else none) = some d
    rw [← hd, if_pos ok]
/-- the law reads a good name back -/
theorem law_back {d : Due} {r c : Int} (g : Good d r c) : lawRead (shownBy (isOne d) d r c) r c = some d := by
  have x := laid_of g
  generalize ht : shownBy (isOne d) d r c = t at x
  obtain ⟨b1, b2, b3, b4⟩ := blk_of g.blk
  have hs : shownBy (isCell d) d r c = t := by rw [← one_cell g.blk]; exact ht
  have lt1 : ltO d.bottom d.top = false := by
    cases e : d.bottom with
    | none => rfl
    | some b => exact decide_eq_false (by have := (b3 b e).2; omega)
  have lt2 : ltO d.right d.left = false := by
    cases e : d.right with
    | none => rfl
    | some b => exact decide_eq_false (by have := (b4 b e).2; omega)
  have nlt : ¬ (ltO d.bottom d.top = true ∨ ltO d.right d.left = true) := by
    rw [lt1, lt2]
    rintro (q | q) <;> cases q
  unfold lawRead
  cases x with
  | one a b ha hb e na nb hd =>
    have h58 : 58 ∉ t := by rw [e]; exact partL_free58 a b r c
    rw [spl_none h58]
    have he : ends lawEnd t r c = some (pr a, pr b) := by rw [e]; exact ends_part tail_law ha hb
    unfold lawOf
    rw [if_neg]
    · show (match ends lawEnd t r c, ends lawEnd t r c with
        | some (a, b), some (a2, b2) => lawPick 1 a b a2 b2 t r c
        | _, _ => none) = some d
      rw [he]
      show lawPick 1 (pr a) (pr b) (pr a) (pr b) t r c = some d
      unfold lawPick
      rw [if_neg (fun q => q.2.elim (fun z => na (pr_none.mp z)) (fun z => nb (pr_none.mp z))), if_neg (fun q => nb (pr_none.mp q.1)), if_neg (fun q => na (pr_none.mp q.1)), ← hd, if_neg, if_pos hs]
      rw [hd] at nlt
      exact nlt
    · rintro (q | ⟨p, hp, q⟩ | q)
      · exact absurd q (by show ¬ 2 < 1; decide)
      · rw [List.mem_singleton.mp hp, he] at q
        cases q
      · have q2 : t = [] := q
        rw [e] at q2
        exact partL_ne (.inl na) q2
  | two a b a2 b2 ha hb ha2 hb2 e n0 q1 q2 hd =>
    have hp0 := ends_part (r := r) (c := c) tail_law ha hb
    have hp1 := ends_part (r := r) (c := c) tail_law ha2 hb2
    have esp : spl [58] 0 [] t = [partL a b r c, partL a2 b2 r c] := by rw [e, spl_two (partL_free58 a b r c) (partL_free58 a2 b2 r c)]
    rw [esp]
    unfold lawOf
    rw [if_neg]
    · show (match ends lawEnd (partL a b r c) r c, ends lawEnd (partL a2 b2 r c) r c with
        | some (a, b), some (a2, b2) => lawPick 2 a b a2 b2 t r c
        | _, _ => none) = some d
      rw [hp0, hp1]
      show lawPick 2 (pr a) (pr b) (pr a2) (pr b2) t r c = some d
      unfold lawPick
      rw [if_neg (fun q => absurd q.1 (by decide)), if_neg (fun q => ?_), if_neg (fun q => ?_), ← hd, if_neg, if_pos hs]
      · rw [hd] at nlt
        exact nlt
      · have z := q2 (pr_none.mp q.1)
        rcases q.2 with w | w
        · exact z.1 (pr_none.mp w)
        · exact w (pr_none.mpr z.2)
      · have z := q1 (pr_none.mp q.1)
        rcases q.2 with w | w
        · exact z.1 (pr_none.mp w)
        · exact w (pr_none.mpr z.2)
    · rintro (q | ⟨p, hp, q⟩ | q)
      · exact absurd q (by show ¬ 2 < 2; decide)
      · rcases List.mem_cons.mp hp with z | z
        · rw [z, hp0] at q
          cases q
        · rw [List.mem_singleton.mp z, hp1] at q
          cases q
      · exact partL_ne n0 q
theorem cut_two {x y x' y' : L} (h : 58 ∉ x) (h' : 58 ∉ x') (e : x ++ 58 :: y = x' ++ 58 :: y') : x = x' := by
  have q := congrArg (before 58) e
  rw [before_app h, before_app h'] at q
  exact q
theorem farT_free58 {s : Nat} (hs : s ≠ 58) (o : Option Int) (m : Bool) (here : Int) : 58 ∉ farT s o m here := by
  cases o with
  | none => simp [farT]
  | some n =>
    have q := endT_free58 hs (some (n, m)) here
    exact q
theorem shown_rows {d : Due} {r c : Int} {one : Bool} (h : isRows d = true) : shownBy one d r c = u0 d r ++ 58 :: u1 d r := if_pos h
theorem shown_cols {d : Due} {r c : Int} {one : Bool} (h : isRows d = false) (h2 : isCols d = true) : shownBy one d r c = s0 d c ++ 58 :: s1 d c := by
  unfold shownBy
  rw [if_neg (by rw [h]; decide), if_pos h2]
theorem shown_one {d : Due} {r c : Int} (h : isRows d = false) (h2 : isCols d = false) : shownBy true d r c = u0 d r ++ s0 d c := by
  unfold shownBy
  rw [if_neg (by rw [h]; decide), if_neg (by rw [h2]; decide), if_pos rfl]
theorem shown_else {d : Due} {r c : Int} (h : isRows d = false) (h2 : isCols d = false) : shownBy false d r c = (u0 d r ++ s0 d c) ++ 58 :: (u1 d r ++ s1 d c) := by
  unfold shownBy
  rw [if_neg (by rw [h]; decide), if_neg (by rw [h2]; decide), if_neg (by decide)]
theorem u0_free67 (d : Due) (r : Int) : 67 ∉ u0 d r := endT_free67 (some (d.top, d.up)) r
theorem u0_free58 (d : Due) (r : Int) : 58 ∉ u0 d r := farT_free58 (by decide) _ _ _
theorem s0_free58 (d : Due) (c : Int) : 58 ∉ s0 d c := farT_free58 (by decide) _ _ _
theorem us_free58 (d : Due) (r c : Int) : 58 ∉ u0 d r ++ s0 d c := fun q => (List.mem_append.mp q).elim (u0_free58 d r) (s0_free58 d c)
/-- what one says of an end -/
def EndFine (a : End) (here : Int) : Prop := a = (none, false) ∨ ∃ n m, a = (some n, m) ∧ NumOk n m here
theorem numOk_none : ∀ {a : End} {here : Int}, EndFine a here → ∀ n, a.1 = some n → NumOk n a.2 here := fun {a here} h n e => by
  rcases h with rfl | ⟨k, m, rfl, q⟩
  · cases e
  · have e2 : k = n := Option.some.inj e
    rw [← e2]
    exact q
theorem mark_none {a : End} {here : Int} (h : EndFine a here) (e : a.1 = none) : a.2 = false := by
  rcases h with rfl | ⟨k, m, rfl, q⟩
  · rfl
  · cases e
/-- what the program reads is good, and it is shown so -/
theorem prog_good {t : L} {r c : Int} {d : Due} (h : progRead t r c = some d) : Good d r c ∧ shownBy (isOne d) d r c = t := by
  unfold progRead at h
  cases hn : readNums t r c with
  | none =>
    rw [hn] at h
    cases h
  | some d' =>
    rw [hn] at h
    have h2 : (if shownBy (isOne d') d' r c = t then some d' else none) = some d := h
    split at h2
    · rename_i ht
      obtain rfl : d' = d := Option.some.inj h2
      refine ⟨?_, ht⟩
      unfold readNums at hn
      split at hn
      · rename_i a b a2 b2 e1 e2
        split at hn
        · rename_i ok
          obtain ⟨k1, k2⟩ := Bool.and_eq_true_iff.mp ok
          have ed : build a b a2 b2 = d' := Option.some.inj hn
          rw [ed] at k1 k2
          obtain ⟨i1, i2⟩ := ends_inv e1
          obtain ⟨i3, i4⟩ := ends_inv e2
          have fa : EndFine a r := by
            rcases row_inv i1 with ⟨_, q⟩ | ⟨w, n, m, _, q, q2⟩
            · exact .inl q
            · exact .inr ⟨n, m, q2, out_prog q⟩
          have fb : EndFine b c := by
            rcases col_inv i2 with ⟨_, q⟩ | ⟨_, n, m, q, q2⟩
            · exact .inl q
            · exact .inr ⟨n, m, q2, out_prog q⟩
          have fa2 : EndFine a2 r := by
            rcases row_inv i3 with ⟨_, q⟩ | ⟨w, n, m, _, q, q2⟩
            · exact .inl q
            · exact .inr ⟨n, m, q2, out_prog q⟩
          have fb2 : EndFine b2 c := by
            rcases col_inv i4 with ⟨_, q⟩ | ⟨_, n, m, q, q2⟩
            · exact .inl q
            · exact .inr ⟨n, m, q2, out_prog q⟩
          refine ⟨k1, k2, fun hc => ?_, fun hr => ?_, fun x e => ?_, fun x e => ?_⟩
          · cases ha : a.1 with
            | some n =>
              have q := numOk_none fa n ha
              rw [← ed]
              show NumOk (a.1.getD 1) a.2 r
              rw [ha]
              exact q
            | none =>
              exfalso
              have hb0 : before 67 (before 58 t) = [] := by
                rcases row_inv i1 with ⟨q, _⟩ | ⟨w, n, m, _, _, q2⟩
                · exact q
                · rw [q2] at ha
                  cases ha
              have hd82 : ∃ x, t = 82 :: x := by
                rw [← ht]
                cases hr : isRows d' with
                | true =>
                  rw [shown_rows hr]
                  exact ⟨_, rfl⟩
                | false =>
                  cases ho : isOne d' with
                  | true =>
                    rw [shown_one hr hc]
                    exact ⟨_, rfl⟩
                  | false =>
                    rw [shown_else hr hc]
                    exact ⟨_, rfl⟩
              obtain ⟨x, ex⟩ := hd82
              rw [ex] at hb0
              have q : before 67 (before 58 (82 :: x)) = 82 :: before 67 (before 58 x) := by
                unfold before
                rw [List.takeWhile_cons_of_pos (by decide), List.takeWhile_cons_of_pos (by decide)]
              rw [q] at hb0
              cases hb0
          · cases hb : b.1 with
            | some n =>
              have q := numOk_none fb n hb
              rw [← ed]
              show NumOk (b.1.getD 1) b.2 c
              rw [hb]
              exact q
            | none =>
              exfalso
              have h67 : 67 ∉ before 58 t := by
                rcases col_inv i2 with ⟨q, _⟩ | ⟨_, n, m, _, q2⟩
                · exact q
                · rw [q2] at hb
                  cases hb
              apply h67
              rw [← ht]
              cases hc : isCols d' with
              | true =>
                rw [shown_cols hr hc, before_app (s0_free58 d' c)]
                exact List.mem_cons_self
              | false =>
                cases ho : isOne d' with
                | true =>
                  rw [shown_one hr hc, before_none (us_free58 d' r c)]
                  exact List.mem_append_right _ List.mem_cons_self
                | false =>
                  rw [shown_else hr hc, before_app (us_free58 d' r c)]
                  exact List.mem_append_right _ List.mem_cons_self
          · have e' : a2.1 = some x := by rw [← e, ← ed] <;> rfl
            have q := numOk_none fa2 x e'
            rw [← ed]
            exact q
          · have e' : b2.1 = some x := by rw [← e, ← ed] <;> rfl
            have q := numOk_none fb2 x e'
            rw [← ed]
            exact q
        · cases hn
      · cases hn
    · cases h2
/-- an end that the law reads -/
def EndLaw (a : End) (here : Int) : Prop := a = (none, false) ∨ ∃ n m, a = (some n, m) ∧ 1 ≤ n ∧ NumOk n m here
theorem EndLaw.fine {a : End} {here : Int} (h : EndLaw a here) : EndFine a here := by
  rcases h with q | ⟨n, m, e, _, q⟩
  · exact .inl q
  · exact .inr ⟨n, m, e, q⟩
theorem EndLaw.pos {a : End} {here : Int} (h : EndLaw a here) : 1 ≤ a.1.getD 1 := by
  rcases h with rfl | ⟨n, m, rfl, q, _⟩
  · exact Int.le_refl 1
  · exact q
theorem EndLaw.end_ {a : End} {here f : Int} (h : EndLaw a here) (lt : ¬ ltO a.1 f = true) : isEnd f a.1 = true := by
  rcases h with rfl | ⟨n, m, rfl, q, _⟩
  · rfl
  · have q2 : ¬ n < f := fun z => lt (decide_eq_true z)
    show (decide (1 ≤ n) && decide (f ≤ n)) = true
    rw [decide_eq_true q, decide_eq_true (by omega : f ≤ n)] <;> rfl
theorem law_end {r : Int} (hr : 1 ≤ r) {row : L} {a : End} (h : rowEnd lawEnd row r = some a) : EndLaw a r := by
  rcases row_inv h with ⟨_, q⟩ | ⟨w, n, m, _, q, q2⟩
  · exact .inl q
  · exact .inr ⟨n, m, q2, out_law hr q⟩
theorem law_endC {c : Int} (hc : 1 ≤ c) {w : L} {b : End} (h : colEnd lawEnd w c = some b) : EndLaw b c := by
  rcases col_inv h with ⟨_, q⟩ | ⟨_, n, m, q, q2⟩
  · exact .inl q
  · exact .inr ⟨n, m, q2, out_law hc q⟩
theorem mayBe_free {m0 m1 : Bool} {last : Option Int} (h : last = none → m1 = false) : mayBe m0 m1 true last false = true := by
  unfold mayBe
  cases last with
  | none =>
    rw [h rfl]
    cases m0 <;> rfl
  | some n => cases m0 <;> cases m1 <;> rfl
theorem mayBe_same {m st one : Bool} {n : Int} (h : st = true) : mayBe m m st (some n) one = true := by
  subst h
  cases m <;> cases one <;> rfl
/-- the good one, of the law's conditions; md: the marks may be there -/
theorem good_of {a b a2 b2 : End} {r c : Int} (fa : EndLaw a r) (fb : EndLaw b c) (fa2 : EndLaw a2 r) (fb2 : EndLaw b2 c)
    (lt : ¬ (ltO a2.1 (a.1.getD 1) = true ∨ ltO b2.1 (b.1.getD 1) = true)) (md : marksOk (build a b a2 b2) = true)
    (na : isCols (build a b a2 b2) = false → a.1 ≠ none) (nb : isRows (build a b a2 b2) = false → b.1 ≠ none) : Good (build a b a2 b2) r c where
  blk := by
    have e1 := fa.pos
    have e2 := fb.pos
    have e3 := fa2.end_ fun z => lt (.inl z)
    have e4 := fb2.end_ fun z => lt (.inr z)
    show (decide (1 ≤ a.1.getD 1) && (decide (1 ≤ b.1.getD 1) && (isEnd (a.1.getD 1) a2.1 && isEnd (b.1.getD 1) b2.1))) = true
    rw [decide_eq_true e1, decide_eq_true e2, e3, e4] <;> rfl
  mrk := md
  nt := fun h => by
    cases ha : a.1 with
    | none => exact absurd ha (na h)
    | some n =>
      have q := numOk_none fa.fine n ha
      show NumOk (a.1.getD 1) a.2 r
      rw [ha]
      exact q
  nl := fun h => by
    cases hb : b.1 with
    | none => exact absurd hb (nb h)
    | some n =>
      have q := numOk_none fb.fine n hb
      show NumOk (b.1.getD 1) b.2 c
      rw [hb]
      exact q
  nb := fun x e => numOk_none fa2.fine x e
  nr := fun x e => numOk_none fb2.fine x e
/-- what the law reads is good, and it is shown so -/
theorem law_good {t : L} {r c : Int} {d : Due} (hr : 1 ≤ r) (hc : 1 ≤ c) (h : lawRead t r c = some d) : Good d r c ∧ shownBy (isOne d) d r c = t := by
  unfold lawRead lawOf at h
  split at h
  · cases h
  · rename_i nc
    split at h
    · rename_i a b a2 b2 e1 e2
      unfold lawPick at h
      split at h
      · cases h
      · rename_i n1
        split at h
        · cases h
        · rename_i n2
          split at h
          · cases h
          · rename_i n3
            split at h
            · cases h
            · rename_i lt
              split at h
              · rename_i ht
                have ed : build a b a2 b2 = d := Option.some.inj h
                obtain ⟨i1, i2⟩ := ends_inv e1
                obtain ⟨i3, i4⟩ := ends_inv e2
                have fa := law_end hr i1
                have fb := law_endC hc i2
                have fa2 := law_end hr i3
                have fb2 := law_endC hc i4
                have g : Good (build a b a2 b2) r c := by
                  by_cases h58 : 58 ∈ t
                  · -- two parts
                    have hx := before_free (s := 58) t
                    have et := cut_at h58
                    generalize before 58 t = x at hx et
                    generalize after 58 t = y at et
                    have esp : spl [58] 0 [] t = x :: spl [58] 0 [] y := by rw [et, spl_cut hx]
                    rw [esp] at e1 i1 i2
                    cases hb : b.1 with
                    | none =>
                      have na : a.1 ≠ none := fun z => by
                        have q1 : a2.1 ≠ none ∧ b2.1 = none := by
                          refine ⟨fun w => n2 ⟨hb, .inl w⟩, ?_⟩
                          cases e : b2.1 with
                          | none => rfl
                          | some k => exact absurd ⟨hb, .inr (by rw [e]; exact fun q => nomatch q)⟩ n2
                        exact n3 ⟨z, .inl q1.2⟩
                      have q1 : a2.1 ≠ none := fun w => n2 ⟨hb, .inl w⟩
                      have q2 : b2.1 = none := by
                        cases e : b2.1 with
                        | none => rfl
                        | some k => exact absurd ⟨hb, .inr (by rw [e]; exact fun q => nomatch q)⟩ n2
                      obtain ⟨k, hk⟩ : ∃ k, a2.1 = some k := by
                        cases e : a2.1 with
                        | none => exact absurd e q1
                        | some k => exact ⟨k, rfl⟩
                      have m1 := mark_none fb.fine hb
                      have m2 := mark_none fb2.fine q2
                      have ecol : isCols (build a b a2 b2) = false := by
                        unfold isCols build
                        rw [hk]
                        simp
                      have eone : isOne (build a b a2 b2) = false := by
                        unfold isOne build
                        rw [hk, q2]
                      have erow : isRows (build a b a2 b2) = true := by
                        unfold isRows build
                        rw [hb, hk, q2]
                        rfl
                      refine good_of fa fb fa2 fb2 lt ?_ (fun _ => na) (fun z => by rw [erow] at z; cases z)
                      unfold marksOk
                      rw [ecol, eone, erow]
                      show (mayBe a.2 a2.2 true a2.1 false && mayBe b.2 b2.2 false b2.1 false) = true
                      rw [m1, m2, hk, mayBe_free (m0 := a.2) (m1 := a2.2) (last := some k) (fun q => by cases q)]
                      rfl
                    | some kb =>
                      have nb : b.1 ≠ none := by rw [hb]; exact fun q => nomatch q
                      cases ha : a.1 with
                      | none =>
                        have q1 : b2.1 ≠ none := fun w => n3 ⟨ha, .inl w⟩
                        have q2 : a2.1 = none := by
                          cases e : a2.1 with
                          | none => rfl
                          | some k => exact absurd ⟨ha, .inr (by rw [e]; exact fun q => nomatch q)⟩ n3
                        obtain ⟨k, hk⟩ : ∃ k, b2.1 = some k := by
                          cases e : b2.1 with
                          | none => exact absurd e q1
                          | some k => exact ⟨k, rfl⟩
                        have m1 := mark_none fa.fine ha
                        have m2 := mark_none fa2.fine q2
                        have erow : isRows (build a b a2 b2) = false := by
                          unfold isRows build
                          rw [hk]
                          simp
                        have eone : isOne (build a b a2 b2) = false := by
                          unfold isOne build
                          rw [hk, q2]
                        have ecol : isCols (build a b a2 b2) = true := by
                          unfold isCols build
                          rw [ha, hk, q2]
                          rfl
                        refine good_of fa fb fa2 fb2 lt ?_ (fun z => by rw [ecol] at z; cases z) (fun _ => nb)
                        unfold marksOk
                        rw [ecol, eone, erow]
                        show (mayBe a.2 a2.2 false a2.1 false && mayBe b.2 b2.2 true b2.1 false) = true
                        rw [m1, m2, hk, mayBe_free (m0 := b.2) (m1 := b2.2) (last := some k) (fun q => by cases q)]
                        rfl
                      | some ka =>
                        have na : a.1 ≠ none := by rw [ha]; exact fun q => nomatch q
                        have x82 : ∃ w, x = 82 :: w := by
                          have i1' : rowEnd lawEnd (before 67 x) r = some a := i1
                          rcases row_inv i1' with ⟨_, q⟩ | ⟨w, n, m, q, _, _⟩
                          · rw [q] at ha
                            cases ha
                          · cases x with
                            | nil => cases q
                            | cons z x' =>
                              have hz : z = 82 := by
                                unfold before at q
                                by_cases z67 : z = 67
                                · rw [List.takeWhile_cons_of_neg (by simpa using z67)] at q
                                  cases q
                                · rw [List.takeWhile_cons_of_pos (by simpa using z67)] at q
                                  exact (List.cons.inj q).1
                              exact ⟨x', by rw [hz]⟩
                        have x67 : 67 ∈ x := by
                          have i2' : colEnd lawEnd x c = some b := i2
                          rcases col_inv i2' with ⟨_, q⟩ | ⟨q, _⟩
                          · rw [q] at hb
                            cases hb
                          · exact q
                        have ht' := ht.trans et
                        have erow : isRows (build a b a2 b2) = false := by
                          cases e : isRows (build a b a2 b2) with
                          | false => rfl
                          | true =>
                            rw [shown_rows e] at ht'
                            have q := cut_two (u0_free58 _ r) hx ht'
                            rw [← q] at x67
                            exact absurd x67 (u0_free67 _ r)
                        have ecol : isCols (build a b a2 b2) = false := by
                          cases e : isCols (build a b a2 b2) with
                          | false => rfl
                          | true =>
                            rw [shown_cols erow e] at ht'
                            have q := cut_two (s0_free58 _ c) hx ht'
                            obtain ⟨w, ew⟩ := x82
                            rw [ew] at q
                            have q2 : 67 = 82 := (List.cons.inj q).1
                            exact absurd q2 (by decide)
                        have blk : blockOk (build a b a2 b2) = true := by
                          have e1 := fa.pos
                          have e2 := fb.pos
                          have e3 := fa2.end_ fun z => lt (.inl z)
                          have e4 := fb2.end_ fun z => lt (.inr z)
                          show (decide (1 ≤ a.1.getD 1) && (decide (1 ≤ b.1.getD 1) && (isEnd (a.1.getD 1) a2.1 && isEnd (b.1.getD 1) b2.1))) = true
                          rw [decide_eq_true e1, decide_eq_true e2, e3, e4] <;> rfl
                        have eone : isOne (build a b a2 b2) = false := by
                          cases e : isOne (build a b a2 b2) with
                          | false => rfl
                          | true =>
                            rw [← one_cell blk, e, shown_one erow ecol] at ht
                            rw [← ht] at h58
                            exact absurd h58 (us_free58 _ r c)
                        refine good_of fa fb fa2 fb2 lt ?_ (fun _ => na) (fun _ => nb)
                        unfold marksOk
                        rw [ecol, eone, erow]
                        show (mayBe a.2 a2.2 true a2.1 false && mayBe b.2 b2.2 true b2.1 false) = true
                        rw [mayBe_free (fun z => mark_none fa2.fine z), mayBe_free (fun z => mark_none fb2.fine z)]
                        rfl
                  · -- one part
                    have esp := spl_none h58
                    have e12 : some (a, b) = some (a2, b2) := by
                      rw [← e1, ← e2, esp]
                      rfl
                    obtain ⟨ea, eb⟩ := Prod.mk.inj (Option.some.inj e12)
                    subst ea eb
                    have na : a.1 ≠ none := fun z => n1 ⟨by rw [esp] <;> rfl, .inl z⟩
                    have nb : b.1 ≠ none := fun z => n1 ⟨by rw [esp] <;> rfl, .inr z⟩
                    obtain ⟨k, hk⟩ : ∃ k, a.1 = some k := by
                      cases e : a.1 with
                      | none => exact absurd e na
                      | some k => exact ⟨k, rfl⟩
                    obtain ⟨l, hl⟩ : ∃ k, b.1 = some k := by
                      cases e : b.1 with
                      | none => exact absurd e nb
                      | some k => exact ⟨k, rfl⟩
                    refine good_of fa fb fa2 fb2 lt ?_ (fun _ => na) (fun _ => nb)
                    have erow : isRows (build a b a b) = false := by
                      unfold isRows build
                      rw [hl]
                      simp
                    have ecol : isCols (build a b a b) = false := by
                      unfold isCols build
                      rw [hk]
                      simp
                    unfold marksOk
                    rw [ecol, erow]
                    show (mayBe a.2 a.2 true a.1 _ && mayBe b.2 b.2 true b.1 _) = true
                    rw [hk, hl, mayBe_same rfl, mayBe_same rfl]
                    rfl
                rw [ed] at g ht
                exact ⟨g, by rw [one_cell g.blk]; exact ht⟩
              · cases h
    · cases h
/-- THE PLAIN LAW -/
theorem one_reading {t : L} {r c : Int} (hr : 1 ≤ r) (hc : 1 ≤ c) : lawRead t r c = progRead t r c := by
  cases h : lawRead t r c with
  | some d =>
    obtain ⟨g, e⟩ := law_good hr hc h
    have q := prog_back g
    rw [e] at q
    exact q.symm
  | none =>
    cases h2 : progRead t r c with
    | none => rfl
    | some d =>
      obtain ⟨g, e⟩ := prog_good h2
      have q := law_back g
      rw [e, h] at q
      cases q
end K28

set_option Elab.async false
set_option linter.all false
set_option maxRecDepth 100000
set_option maxHeartbeats 4000000
/-! Exceptions whose context is None, or an exception whose own context is None. -/
namespace K28
open PySem PySem.Spec PyProof.Rows L2 HotX
/-- a context: None, or an exception at y, out of the reach of what is tracked, whose own context is None -/
def Ctx2 (B : Heap) (H : Hp) (v : Value) : Prop := v = .none ∨ ∃ (y : Addr) (o2 : Obj) (vs2 : Array Value), v = .ref y ∧ B.get? y = some o2 ∧ o2.data = .fields vs2 ∧ vs2[2]? = some .none ∧ H y = none
def Zx (B : Heap) (H : Hp) (cls : Value) (d : Option Addr) : Obj → Prop := fun o => o.cls = cls ∧ o.dict = d ∧ ∀ vs, o.data = .fields vs → ∃ v, vs[2]? = some v ∧ Ctx2 B H v
theorem Zx.steady {B : Heap} {H : Hp} {cls : Value} {d : Option Addr} : PX.Steady (Zx B H cls d) := fun o v h => by
  obtain ⟨h1, h2, h3⟩ := h
  refine ⟨PX.steady_cls (c := cls) o v h1, PX.steady_dict (d := d) o v h2, fun vs hv => ?_⟩
  obtain ⟨oc, od, dt, sl⟩ := o
  cases dt with
  | fields us =>
    obtain ⟨w, e1, e2⟩ := h3 us rfl
    have e : us.setIfInBounds 1 v = vs := Data.fields.inj hv
    refine ⟨w, ?_, e2⟩
    rw [← e]
    exact set_other (by decide) e1
  | _ => cases hv
theorem Zx.of_n {B : Heap} {H : Hp} {cls : Value} {d : Option Addr} {o : Obj} (h : L2N.Zn cls d o) : Zx B H cls d o := ⟨h.1, h.2.1, fun vs e => ⟨_, h.2.2 vs e, .inl rfl⟩⟩
theorem Zx.zc {B : Heap} {H : Hp} {cls : Value} {d : Option Addr} {o : Obj} (h : Zx B H cls d o) : Zc cls d o := ⟨h.1, h.2.1⟩
theorem traced_imp {h B : Heap} {a : Addr} {Z Z' : Obj → Prop} {fl : Value} (z : ∀ o, Z o → Z' o) (x : PX.TracedZ h B a Z fl) : PX.TracedZ h B a Z' fl := by
  obtain ⟨oe, vs, T, oT, ts, he, hz, r⟩ := x
  exact ⟨oe, vs, T, oT, ts, he, z _ hz, r⟩
theorem flying_imp {h B : Heap} {l : List Env} {a : Addr} {Z Z' : Obj → Prop} (z : ∀ o, Z o → Z' o) (x : PX.FlyingZ B l a Z h) : PX.FlyingZ B l a Z' h := ⟨x.1, x.2.1, x.2.2.1, traced_imp z x.2.2.2⟩
theorem air_imp {h B : Heap} {l : List Env} {a L : Addr} {Z Z' : Obj → Prop} (z : ∀ o, Z o → Z' o) (x : Sky B l a Z L h) : PX.AirZ B l a Z' L h := by
  rcases x with ⟨h1, h2, h3, oe, vs, h4, h5, h6⟩ | x | x
  · exact .inl ⟨h1, h2, h3, oe, vs, h4, z _ h5, h6⟩
  · exact .inr (.inl ⟨x.1, x.2.1, x.2.2.1, traced_imp z x.2.2.2⟩)
  · exact .inr (.inr ⟨x.1, x.2.1, x.2.2.1, traced_imp z x.2.2.2⟩)

/-- an exception in the air of X -/
def XE (X : Cx) (W : WX) (u : Value) (s' : Shared) : Prop :=
  ∃ (a : Addr) (B : Heap) (sI : Shared) (pins : List (Addr × Obj)) (σ : L2.St) (H : Hp) (cls : Value) (d : Option Addr),
    u = .ref a ∧ Inv X pins σ H sI ∧ (∀ b o, sI.heap.get? b = some o → b ∉ frs X.stack → B.get? b = some o) ∧ sI.heap.UpToSlots s'.heap ∧
      PX.AirZ B X.stack a (Zx B H cls d) X.env.locals s'.heap ∧ H a = none ∧ s'.os = sI.os ∧ AllBare s'.gens ∧ W cls d σ H
def Takes (X : Cx) (W : WX) : Prop := ∀ u s', XE X W u s' → X.xe u s'
/-- what a call lets out -/
def CX (P : Program) (w : World) (outer : List Env) (H : Hp) (s : Shared) (E : XK) (u : Value) (s' : Shared) : Prop :=
  ∃ (a : Addr) (B : Heap) (H' : Hp) (cls : Value) (d : Option Addr), u = .ref a ∧ PX.FlyingZ B outer a (Zx B H' cls d) s'.heap ∧ HOk P w H' B ∧ UB (frs outer) H H' s.heap B s'.heap ∧ H' a = none ∧ s'.os = s.os ∧ AllBare s'.gens ∧ E cls d H'
section
variable {X : Cx} {pins : List (Addr × Obj)} {σ : L2.St} {H : Hp} {sI s s' : Shared} {B : Heap} {W : WX} {E : XK}
/-- an exception whose context is None is one of these -/
theorem Takes.n (tk : Takes X W) : L2N.Takes X W := fun u s' ⟨a, B, sI, pins, σ, H, cls, d, e, I, nb, up, sky, na, os, ag, w⟩ => tk u s' ⟨a, B, sI, pins, σ, H, cls, d, e, I, nb, up, air_imp (fun _ z => Zx.of_n z) sky, na, os, ag, w⟩
theorem XE.of_call (I : Inv X pins σ H s) (hW : ∀ cls d H', E cls d H' → W cls d σ H') {u : Value} (c : CX X.prog X.w X.stack H s E u s') : XE X W u s' := by
  obtain ⟨a, B, H', cls, d, rfl, fl, hok, ub, na, os, ag, hE⟩ := c
  have st : B.StaysIn s'.heap := fl.1
  -- the ground and the frames, as they lie behind the call
  obtain ⟨G, gin, gout⟩ := restrict s'.heap fun b => (B.get? b).isSome || decide (b ∈ frs X.stack)
  have gB : ∀ b o, B.get? b = some o → G.get? b = some o := fun b o e => (gin b (by rw [e]; rfl)).trans (st b o e)
  have gF : ∀ b, b ∈ frs X.stack → G.get? b = s'.heap.get? b := fun b hb => gin b (by rw [decide_eq_true hb, Bool.or_true])
  have back : ∀ b o, G.get? b = some o → s'.heap.get? b = some o ∧ ((∃ o', B.get? b = some o') ∨ b ∈ frs X.stack) := fun b o e => by
    by_cases hb : b ∈ frs X.stack
    · exact ⟨(gF b hb).symm.trans e, .inr hb⟩
    · cases q : B.get? b with
      | some o' => exact ⟨(gin b (by rw [q]; rfl)).symm.trans e, .inl ⟨o', rfl⟩⟩
      | none =>
        rw [gout b (by rw [q, decide_eq_false hb]; rfl)] at e
        cases e
  refine ⟨a, B, ⟨G, s'.gens, s'.drawn, s'.toks, s.os⟩, pins, σ, H', cls, d, rfl, ?_, fun b o e hb => ?_, Heap.UpToSlots.of_keeps fun b o e => (back b o e).1, .inr (.inl fl), na, os, ag, hW _ _ _ hE⟩
  · refine I.call (ch := []) ⟨fun b o e n hb _ => gB b o (ub.keep b o e n hb), fun b o e n hb _ => ?_, fun b o e n _ => ub.free b o e n, fun b o e _ => ?_, ub.tups, ub.frzs, ub.tbls⟩ (hok.kept gB) ag (fun _ z => nomatch z)
    · obtain ⟨sl, q⟩ := ub.slot b o e hb
      exact ⟨sl, (gF b hb).trans q⟩
    · by_cases hb : b ∈ frs X.stack
      · obtain ⟨sl, q⟩ := ub.slot b o e hb
        exact ⟨_, (gF b hb).trans q⟩
      · obtain ⟨o', q⟩ := ub.there b o e hb
        exact ⟨o', gB b o' q⟩
  · obtain ⟨e', h⟩ := back b o e
    rcases h with ⟨o', q⟩ | h
    · have z := (st b o' q).symm.trans e'
      cases z
      exact q
    · exact absurd h hb
/-- it leaves the def -/
theorem XE.leave (hs : X.stack = X.env :: X.outer) (hf : X.env.frame = some X.env.locals) (hex : X.ex = []) {E₁ : Value → Shared → Prop} (hW : ∀ cls d σ H, W cls d σ H → E cls d H) {u : Value} (x : XE X W u s') :
    wpAny (model X.prog X.w) X.A (leaving X.env u) (fun _ s'' => CX X.prog X.w X.outer X.H_0 X.s_0 E u s'') E₁ s' := by
  obtain ⟨a, B, sI, pins, σ, H, cls, d, rfl, I, nb, up, sky, na, os, ag, w⟩ := x
  have nst : ∀ b o, X.s_0.heap.get? b = some o → b ∉ X.fs → b ∉ frs X.stack := fun b o e hb hm => by
    rcases List.mem_cons.mp (I.stkSub b hm) with z | z
    · have q : b < X.env.locals := Nat.lt_of_lt_of_le (Heap.lt_size e) I.ok.above
      rw [z] at q
      exact absurd q (Nat.lt_irrefl _)
    · exact hb z
  have hex' : ∀ b, b ∉ X.ex := fun b hb => by rw [hex] at hb; cases hb
  rw [hs] at sky
  refine PX.AirZ.leave Zx.steady (by rw [I.ok.frames, hs]) hf sky fun h' fl up' => ?_
  refine ⟨a, B, H, cls, d, rfl, fl, I.inGround nb, ⟨fun b o e n hb => nb b o (I.base.keep b o e n hb (hex' b)) (nst b o e hb), fun b o e hb => ?_, fun b o e n => I.base.free b o e n (hex' b), fun b o e hb => ?_, I.base.tups, I.base.frzs, I.base.tbls⟩,
    na, os.trans I.os, ag, hW _ _ _ _ w⟩
  · obtain ⟨_, o₀, e₀, hnf⟩ := I.ok.funs.mem hb
    obtain rfl : o = o₀ := Option.some.inj (e.symm.trans e₀)
    obtain ⟨sl, e1⟩ := I.base.slot b o e (I.ok.frf b hb) hb (hex' b)
    obtain ⟨sl2, e2⟩ := up b _ e1 hnf
    obtain ⟨sl3, e3⟩ := up' b _ e2 hnf
    exact ⟨sl3, e3⟩
  · obtain ⟨o', e1⟩ := I.base.there b o e (hex' b)
    exact ⟨o', nb b o' e1 (nst b o e hb)⟩
theorem takes_of (hs : X.stack = X.env :: X.outer) (hf : X.env.frame = some X.env.locals) (hex : X.ex = []) {E₁ : Value → Shared → Prop}
    (hx : X.xe = fun e s' => wpAny (model X.prog X.w) X.A (leaving X.env e) (fun _ s'' => CX X.prog X.w X.outer X.H_0 X.s_0 E e s'') E₁ s') : Takes X (fun cls d _ H => E cls d H) := fun u s' x => by
  rw [hx]
  exact XE.leave (W := fun cls d _ H => E cls d H) (E := E) hs hf hex (fun _ _ _ _ h => h) x
theorem passAt (tk : Takes X W) (σ : L2.St) : PassesAt (K28.CX X.prog X.w) X σ (WE W σ) := fun _ _ _ e s' I c => tk e s' (XE.of_call I (fun _ _ _ h => h) c)
/-- nothing is let out -/
theorem takes0 : Takes X (fun _ _ _ _ => False) := fun _ _ ⟨_, _, _, _, _, _, _, _, _, _, _, _, _, _, _, _, w⟩ => w.elim
theorem passN0 : Passes (L2N.CX X.prog X.w) X E0 := fun _ _ _ _ _ _ _ h => by
  obtain ⟨_, _, _, _, _, _, _, _, _, _, _, _, z⟩ := h
  exact z.elim
theorem passX0 : Passes (K28.CX X.prog X.w) X E0 := fun _ _ _ _ _ _ _ h => by
  obtain ⟨_, _, _, _, _, _, _, _, _, _, _, _, z⟩ := h
  exact z.elim
end
/-- raise X(..) from None, in an except suite: the one that is handled becomes the context -/
theorem ps_raiseFN {X : Cx} {W : WX} {e : Expr} {t : L2.St → Hp → XK → Prop} {j : Nat} {cpos pos : Pos} (hc : L2H.HotC X) (tk : Takes X W) (he : L2H.PMk5 X e t) :
    PS X (.Raise (some e) (some (.Constant .none j cpos)) pos) (fun _ σ H => t σ H fun cls d H' => W cls d σ H') := by
  refine ⟨fun pins s σ H D I h => ?_⟩
  obtain ⟨p, ⟨hh, v1, e1, c1⟩, hp⟩ := hc
  show wpAny _ _ (do standAt pos; raiseStmt X.env (some (do let v ← eval e X.env; standAt pos; pure v)) (some (do let v ← eval (.Constant .none j cpos) X.env; standAt pos; pure v))) _ _ _
  refine wpAny_bind (wpAny_standAt (raise_made_hotN (x1 := p.1) (fun s2 Q2 q2 => wpAny_bind (Constant_none (wpAny_bind (wpAny_standAt (wpAny_pure q2))))) (wpAny_bind (wpAny_mono (he pins s σ H _ I h) (fun u s1 hu => wpAny_bind (wpAny_standAt (wpAny_pure ?_))) fun _ _ x => x))))
  obtain ⟨⟨a, oe, vs, sI, H', cls, d, rfl, J, k, hne, ha, hz, hd, h1, na, os, ag, r, q⟩, h5⟩ := hu
  have hi : 4 < vs.size := h5 a oe vs rfl ha hd
  have off : ∀ {b : Addr} {o : Obj}, sI.heap.get? b = some o → a ≠ b := fun {b o} z y => by
    rw [← y, hne] at z
    cases z
  have k4 : ∀ b u, sI.heap.get? b = some u → (noneFrom s1.heap a).get? b = some u := fun b u z => (noneFrom_other (off z)).trans (k b u z)
  have k5 : ∀ b u, sI.heap.get? b = some u → ((noneFrom s1.heap a).update a (Obj.mapFields (·.setIfInBounds 2 (.ref p.1)))).get? b = some u := fun b u z => (Heap.get?_update_other _ _ (off z)).trans (k4 b u z)
  have P1 := J.pin p (List.mem_append_left _ hp)
  obtain ⟨ha4, hd4⟩ := noneFrom_at ha hd
  have hd5 := Obj.data_mapFields hd4 (·.setIfInBounds 2 (.ref p.1))
  have h12 : (((vs.setIfInBounds 3 Value.none).setIfInBounds 4 (Value.bool true)).setIfInBounds 2 (Value.ref p.1))[1]? = some Value.none := set_other (by decide) (set_other (by decide) (set_other (by decide) h1))
  have h22 : (((vs.setIfInBounds 3 Value.none).setIfInBounds 4 (Value.bool true)).setIfInBounds 2 (Value.ref p.1))[2]? = some (Value.ref p.1) := by
    have sz : 2 < ((vs.setIfInBounds 3 Value.none).setIfInBounds 4 (Value.bool true)).size := by rw [set_size, set_size]; omega
    generalize (vs.setIfInBounds 3 Value.none).setIfInBounds 4 (Value.bool true) = us at sz
    rw [Array.getElem?_setIfInBounds]
    simp [sz]
  refine ⟨a, oe, vs, cls, rfl, ha, hz.1, hd, h1, hi, (off P1.1).symm, ⟨hh, p.2, v1, k _ _ P1.1, e1, c1⟩, (r _ s1.heap (J.kIn.keeps k)).1, (r _ (noneFrom s1.heap a) (J.kIn.keeps k4)).2, tk _ _ ?_⟩
  refine ⟨a, PySem.W.hideAll sI.heap (frs X.stack), sI, pins, σ, H', cls, d, rfl, J, fun b o z hb => PySem.W.hideAll_get _ z hb, Heap.UpToSlots.of_keeps k5,
    .inl ⟨fun b o z => k5 b o (PySem.W.of_hideAll _ z), ?_, ?_, _, _, Heap.get?_update_self _ ha4 (Obj.isFreed_of_fields hd5), ?_, hd5, h12⟩, na, os, ag, q⟩
  · cases z : (PySem.W.hideAll sI.heap (frs X.stack)).get? a with
    | none => rfl
    | some o => exact absurd rfl (off (PySem.W.of_hideAll _ z))
  · exact Heap.FunFrames.of_keeps (fun b o z _ => ⟨o, k5 b o z, rfl⟩) (funFrames_none J.stack fun b hb => PySem.W.hideAll_none _ hb)
  · refine ⟨by rw [Obj.cls_mapFields, Obj.cls_mapFields, Obj.cls_mapFields]; exact hz.1, by rw [HandSPX.dict_mapFields, HandSPX.dict_mapFields, HandSPX.dict_mapFields]; exact hz.2.1, fun us hu => ?_⟩
    have eu : _ = us := Data.fields.inj (hd5.symm.trans hu)
    subst eu
    exact ⟨_, h22, .inr ⟨p.1, p.2, v1, rfl, PySem.W.hideAll_get _ P1.1 (fun z => (List.mem_cons.mp (J.stkSub p.1 z)).elim P1.2.2.1 P1.2.2.2.1), e1, c1, P1.2.1⟩⟩
end K28

set_option Elab.async false
set_option linter.all false
set_option maxRecDepth 100000
set_option maxHeartbeats 4000000
/-! try .. except (X, Y): a suite that raises; try .. except X as n: the first clause takes it. -/
namespace K28
open PySem PySem.Spec PyProof.Rows L2 HotX
theorem flying_keep {h h' B : Heap} {l : List Env} {a : Addr} {Z : Obj → Prop} (k : ∀ b o, h.get? b = some o → h'.get? b = some o) (x : PX.FlyingZ B l a Z h) : PX.FlyingZ B l a Z h' := by
  obtain ⟨x1, x2, x3, oe, vs, T, oT, ts, he, hz, hd, h1, hn, hne, hT, r⟩ := x
  exact ⟨fun b o e => k b o (x1 b o e), x2, Heap.FunFrames.of_keeps (fun b o e _ => ⟨o, k b o e, rfl⟩) x3, oe, vs, T, oT, ts, k _ _ he, hz, hd, h1, hn, hne, k _ _ hT, r⟩
theorem not_frame {B h : Heap} {l : List Env} {a : Addr} {o : Obj} {vs : Array Value} (ff : h.FunFrames B l) (e : h.get? a = some o) (d : o.data = .fields vs) : a ∉ frs l := fun hm => by
  obtain ⟨_, o', e', hnf⟩ := ff.mem hm
  obtain rfl : o = o' := Option.some.inj (e.symm.trans e')
  exact hnf _ d
/-- a state of the suite's context, its pins at pl -/
theorem inv_suite {X : Cx} {pins : List (Addr × Obj)} {σ : L2.St} {H : Hp} {s : Shared} (I : Inv X pins σ H s) (a : Addr) (pl : List (Addr × Obj)) (h : ∀ p ∈ pl, s.heap.get? p.1 = some p.2 ∧ H p.1 = none ∧ p.1 ≠ X.env.locals ∧ p.1 ∉ X.fs ∧ ∀ v, p.2.data ≠ .cell v) :
    Inv (X.suite a pl) [] σ H s :=
  ⟨I.ok.suite _ _, I.os, I.bare, I.base, I.loc, I.cell, I.free, I.freeC, fun p hp => h p (by rw [List.append_nil] at hp; exact hp), I.hok, I.len⟩
theorem inv_unsuite {X : Cx} {pins : List (Addr × Obj)} {σ : L2.St} {H : Hp} {s : Shared} {a : Addr} {pl : List (Addr × Obj)} (I : Inv (X.suite a pl) [] σ H s) (ok : X.Ok) (sub : ∀ p ∈ X.pn ++ pins, p ∈ pl) : Inv X pins σ H s :=
  ⟨ok, I.os, I.bare, I.base, I.loc, I.cell, I.free, I.freeC, fun p hp => I.pin p (List.mem_append_left _ (sub p hp)), I.hok, I.len⟩
/-- an exception's own object as a pin -/
theorem exc_pin {X : Cx} {B h : Heap} {H : Hp} {a : Addr} {o : Obj} {vs : Array Value} (hs : X.stack = X.env :: X.outer) (hf : X.env.frame = some X.env.locals) (ff : h.FunFrames B X.stack) (e : h.get? a = some o) (d : o.data = .fields vs) (n : H a = none) :
    h.get? a = some o ∧ H a = none ∧ a ≠ X.env.locals ∧ a ∉ X.fs ∧ ∀ v, o.data ≠ .cell v := by
  have nf := not_frame ff e d
  rw [hs] at nf
  refine ⟨e, n, fun z => nf (List.mem_filterMap.mpr ⟨X.env, List.mem_cons_self, by rw [hf, z]⟩), fun hm => ?_, fun v z => by rw [d] at z; cases z⟩
  obtain ⟨w, hw, q⟩ := List.mem_filterMap.mp hm
  exact nf (List.mem_filterMap.mpr ⟨w, List.mem_cons_of_mem _ hw, q⟩)
/-- what «except (c1, c2)» wishes of an exception of the body -/
def wTup (K : PySem.W.Frag) (c1 c2 : Value) (ts : Addr → Value → Option Addr → TS) (Wout : WX) (D : Ends) : WX := fun cls d σ H =>
  ∃ b, PySem.W.exmAny K cls [c1, c2] = some b ∧ (b = true → ∀ a, H a = none → ts a cls d D σ H) ∧ (b = false → Wout cls d σ H)
section
variable {X : Cx} {x1 x2 x n : Str} {c1 c2 c : Value} {i : Nat} {body suite : List Stmt} {b₀ : Stmt} {np np2 tp pos pos' : Pos} {kk : Nat} {tb : WX → TS} {ts : Addr → Value → Option Addr → TS} {Wout : WX} {hds : List ExceptHandler}
theorem ps_try_tup2 (hs : X.stack = X.env :: X.outer) (hf : X.env.frame = some X.env.locals) (hc1 : Gl X x1 ∧ X.mg x1 = some c1) (hc2 : Gl X x2 ∧ X.mg x2 = some c2) (hpa : ∀ hd : Option Value, PassesOwnAt (model X.prog X.w) (X.A.mark hd) X.A X.env X.xe) (tk : Takes X Wout)
    (hb : ∀ (W : WX) (pn : List (Addr × Obj)) (xe : Value → Shared → Prop), L2N.Takes (X.tr pn xe) W → PassesOwn (model X.prog X.w) X.A X.env xe → PSs (X.tr pn xe) body (tb W))
    (hsu : ∀ (a : Addr) (oe : Obj) (cls : Value) (d : Option Addr) (pn : List (Addr × Obj)), Takes (L2H.suiteX X a ((a, oe) :: pn)) Wout → L2H.HotC (L2H.suiteX X a ((a, oe) :: pn)) → PSs (L2H.suiteX X a ((a, oe) :: pn)) (b₀ :: suite) (ts a cls d))
    (hd1 : (x1 == ("__debug__" : Str)) = false := by decide) (hd2 : (x2 == ("__debug__" : Str)) = false := by decide)
    (st1 : starEach [.Name x1 np, .Name x2 np2] X.env = (false, eval (.Name x1 np) X.env) :: starEach [.Name x2 np2] X.env := by rfl) (st2 : starEach [.Name x2 np2] X.env = (false, eval (.Name x2 np2) X.env) :: starEach [] X.env := by rfl) :
    PS X (.Try body [.ExceptHandler (some (.Tuple [.Name x1 np, .Name x2 np2] kk tp)) none (b₀ :: suite) pos'] [] [] pos) (fun D σ H => tb (wTup X.K c1 c2 ts Wout D) D σ H) := by
  refine ⟨fun pins s σ H D I h => ?_⟩
  have ok := I.ok
  have hfr : X.A.frames = some (X.env :: X.outer) := by rw [ok.frames, hs]
  refine wpAny_Try_except ?_
  refine wpAny_mono ((hb (wTup X.K c1 c2 ts Wout D) (X.pn ++ pins) (fun e s₁ => wpAny (model X.prog X.w) X.A (noteFrame e X.env) (fun _ s₂ => wpAny (model X.prog X.w) X.A (setFlight e none) (fun _ s₃ =>
    wpAny (model X.prog X.w) X.A (handleBy e X.env [.ExceptHandler (some (.Tuple [.Name x1 np, .Name x2 np2] kk tp)) none (b₀ :: suite) pos']) (SP X pins D) X.xe s₃) X.xe s₂) X.xe s₁) (fun u s' xx => ?_) PassesOwn.looking).run [] s σ H D (I.toTry _) h) (fun f s1 hsp => ?_) (fun e s1 he => he)
  · obtain ⟨a, B, sI, pins', σ', H', cls, d, rfl, J', nb, up, sky, na, os, ag, b, hb1, hyes, hno⟩ := xx
    have J : Inv X pins σ' H' sI := J'.ofTry ok
    have air : PX.AirZ B (X.env :: X.outer) a (L2N.Zn cls d) X.env.locals s'.heap := by rw [← hs]; exact air_imp (fun _ z => z) sky
    show wpAny (model X.prog X.w) X.A (noteFrame (.ref a) X.env) _ _ _
    refine PX.AirZ.land L2N.Zn.steady hfr hf air fun h3 fl3 up3 => ?_
    have J3 : Inv X pins σ' H' { s' with heap := h3 } := J.landed nb fl3.1 (up.trans up3) os ag
    obtain ⟨oe3, vs3, he3, hz3, hd3⟩ := fl3.there
    have S3 := inv_suite J3 a [(a, oe3)] fun p hp => by
      obtain rfl : p = (a, oe3) := List.mem_singleton.mp hp
      exact exc_pin hs hf (by rw [hs]; exact fl3.2.2.1) he3 hd3 na
    refine wpAny_handleBy_cons (codeAny_handlers_test ?_) (by intro q; cases q)
    -- the tuple of the two classes is laid
    have kp : ∀ b o, h3.get? b = some o → (h3.push { cls := .type "tuple", data := .seq [c1, c2].toArray }).get? b = some o := fun b o e => Heap.get?_push_of_some _ e
    generalize hh4 : h3.push { cls := .type "tuple", data := .seq [c1, c2].toArray } = h4 at kp
    have ht4 : h4.get? h3.objs.size = some { cls := .type "tuple", data := .seq [c1, c2].toArray } := by rw [← hh4]; exact Heap.get?_push_size _ rfl
    have LT : PySem.W.Looks (model X.prog X.w) h4 (typeOf (.ref a)) cls := fun A Q E s k q => wpAny_typeOf_ref (k _ _ (kp _ _ he3)) (by rw [hz3.1]; exact q)
    have LM := PySem.W.exm_tup2 (M := model X.prog X.w) (J3.kIn.keeps kp) LT ht4 hb1
    have fl4 : PX.FlyingZ B (X.env :: X.outer) a (L2N.Zn cls d) h4 := flying_keep kp fl3
    have up4 : h3.UpToSlots h4 := Heap.UpToSlots.of_keeps kp
    refine wpAny_Tuple_spliced ?_
    rw [st1, st2]
    refine Calls.spliced_cons (ld_glob (X := X.suite a [(a, oe3)]) S3 hc1.1 hc1.2 ?_ hd1)
    refine Calls.spliced_cons (ld_glob (X := X.suite a [(a, oe3)]) S3 hc2.1 hc2.2 ?_ hd2)
    refine Calls.spliced_nil ⟨by show 2 ≤ sizeLine; rw [sizeLine_eq]; omega, ?_⟩
    show wpAny _ _ (excMatches (.ref a) (.ref h3.objs.size)) _ _ { s' with heap := h3.push { cls := .type "tuple", data := .seq [c1, c2].toArray } }
    rw [hh4]
    refine LM.here ?_
    cases b with
    | true =>
      refine codeAny_handlers_suite ?_
      refine PX.lands_againZ fl4 fun h5 fl5 up5 => ?_
      have J5 : Inv X pins σ' H' { s' with heap := h5 } := J.landed nb fl5.1 (((up.trans up3).trans up4).trans up5) os ag
      obtain ⟨oe5, vs5, he5, hz5, hd5⟩ := fl5.there
      have S5 := inv_suite J5 a ((a, oe5) :: (X.pn ++ pins)) fun p hp => by
        rcases List.mem_cons.mp hp with rfl | hp
        · exact exc_pin hs hf (by rw [hs]; exact fl5.2.2.1) he5 hd5 na
        · exact J5.pin p hp
      have tkS : Takes (L2H.suiteX X a ((a, oe5) :: (X.pn ++ pins))) Wout := fun u2 s2 y => by
        obtain ⟨a2, B2, sI2, pn2, σ2, H2, cls2, d2, e2, I2, nb2, up2, sky2, na2, os2, ag2, w2⟩ := y
        exact tk u2 s2 ⟨a2, B2, sI2, pins, σ2, H2, cls2, d2, e2, L2H.unsuiteX I2 ok, nb2, up2, sky2, na2, os2, ag2, w2⟩
      have hot : L2H.HotC (L2H.suiteX X a ((a, oe5) :: (X.pn ++ pins))) := ⟨(a, oe5), ⟨rfl, vs5, hd5, hz5.2.2 vs5 hd5⟩, List.mem_cons_self⟩
      refine wpAny_mono ((hsu a oe5 cls d (X.pn ++ pins) tkS hot).run [] _ _ H' _ (L2H.suiteX_of S5) (hyes rfl a na)) (fun f s6 hsp => ?_) (fun e6 s6 z => hpa (some (.ref a)) e6 s6 z)
      cases f with
      | ret u =>
        obtain ⟨v6, σ6, H6, S6, r6, q6⟩ := hsp
        exact ⟨_, _, _, L2H.unsuiteX S6 ok, r6, q6⟩
      | _ =>
        obtain ⟨σ6, H6, S6, q6⟩ := hsp
        exact ⟨_, _, L2H.unsuiteX S6 ok, q6⟩
    | false =>
      show wpAny _ X.A (handleBy (.ref a) X.env []) _ _ _
      refine PX.no_clauseZ hf fl4 fun h5 hh5 up5 => tk _ _ ?_
      exact ⟨a, B, sI, pins, σ', H', cls, d, rfl, J, nb, ((up.trans up3).trans up4).trans up5, .inr (.inr (by rw [hs]; exact ⟨hh5.1, hh5.2.1, hh5.2.2.1, traced_imp (fun _ z => Zx.of_n z) hh5.2.2.2⟩)), na, os, ag, hno rfl⟩
  · cases f with
    | next =>
      obtain ⟨σ', H', J', q⟩ := hsp
      exact wpAny_execs_nil ⟨σ', H', J'.ofTry ok, q⟩
    | ret u =>
      obtain ⟨v, σ', H', J', r, q⟩ := hsp
      exact ⟨v, σ', H', J'.ofTry ok, r, q⟩
    | _ =>
      obtain ⟨σ', H', J', q⟩ := hsp
      exact ⟨σ', H', J'.ofTry ok, q⟩

/-- the exception that is handled stands among the pins, with its context, if it has one -/
def HotC2 (X : Cx) : Prop := ∃ p ∈ X.pn, X.A.handled = some (.ref p.1) ∧ ∃ vs : Array Value, p.2.data = .fields vs ∧ ∃ v, vs[2]? = some v ∧ (v = .none ∨ ∃ q ∈ X.pn, v = .ref q.1 ∧ ∃ vs2 : Array Value, q.2.data = .fields vs2 ∧ vs2[2]? = some .none)
/-- what «except c as n» (n in slot i) wishes, where this clause takes each exception of the body -/
def wAs1 (K : PySem.W.Frag) (c : Value) (i : Nat) (ts : Addr → Value → Option Addr → TS) (D : Ends) : WX := fun cls d σ H =>
  PySem.W.exmOne K cls c = some true ∧ ∀ a, H a = none → ts a cls d { nx := fun σ' H' => D.nx (σ'.set i none) H', rt := D.rt, bk := fun σ' H' => D.bk (σ'.set i none) H', ct := fun σ' H' => D.ct (σ'.set i none) H' } (σ.set i (some (.ref a))) H
theorem ps_try_as1 (hs : X.stack = X.env :: X.outer) (hf : X.env.frame = some X.env.locals) (hN : X.N.Nodup) (hi : X.N[i]? = some n) (hln : X.env.kindOf n = some .local) (hc : Gl X x ∧ X.mg x = some c)
    (hb : ∀ (W : WX) (pn : List (Addr × Obj)) (xe : Value → Shared → Prop), Takes (X.tr pn xe) W → PassesOwn (model X.prog X.w) X.A X.env xe → PSs (X.tr pn xe) body (tb W))
    (hsu : ∀ (a : Addr) (oe : Obj) (cls : Value) (d : Option Addr) (pn : List (Addr × Obj)), Zc cls d oe → (∃ vs, oe.data = .fields vs) → HotC2 (X.suite a ((a, oe) :: pn)) → PSs (X.suite a ((a, oe) :: pn)) (b₀ :: suite) (ts a cls d))
    (hdb : (x == ("__debug__" : Str)) = false := by decide) :
    PS X (.Try body (.ExceptHandler (some (.Name x np)) (some n) (b₀ :: suite) pos' :: hds) [] [] pos) (fun D σ H => tb (wAs1 X.K c i ts D) D σ H) := by
  refine ⟨fun pins s σ H D I h => ?_⟩
  have ok := I.ok
  have hfr : X.A.frames = some (X.env :: X.outer) := by rw [ok.frames, hs]
  have hloc : Loc X.env.scope n := .inl hln
  refine wpAny_Try_except ?_
  refine wpAny_mono ((hb (wAs1 X.K c i ts D) (X.pn ++ pins) (fun e s₁ => wpAny (model X.prog X.w) X.A (noteFrame e X.env) (fun _ s₂ => wpAny (model X.prog X.w) X.A (setFlight e none) (fun _ s₃ =>
    wpAny (model X.prog X.w) X.A (handleBy e X.env (.ExceptHandler (some (.Name x np)) (some n) (b₀ :: suite) pos' :: hds)) (SP X pins D) X.xe s₃) X.xe s₂) X.xe s₁) (fun u s' xx => ?_) PassesOwn.looking).run [] s σ H D (I.toTry _) h) (fun f s1 hsp => ?_) (fun e s1 he => he)
  · obtain ⟨a, B, sI, pins', σ', H', cls, d, rfl, J', nb, up, sky, na, os, ag, hm, hyes⟩ := xx
    have J : Inv X pins σ' H' sI := J'.ofTry ok
    have air : PX.AirZ B (X.env :: X.outer) a (Zx B H' cls d) X.env.locals s'.heap := by rw [← hs]; exact sky
    show wpAny (model X.prog X.w) X.A (noteFrame (.ref a) X.env) _ _ _
    refine PX.AirZ.land Zx.steady hfr hf air fun h3 fl3 up3 => ?_
    have J3 : Inv X pins σ' H' { s' with heap := h3 } := J.landed nb fl3.1 (up.trans up3) os ag
    obtain ⟨oe3, vs3, he3, hz3, hd3⟩ := fl3.there
    have S3 := inv_suite J3 a [(a, oe3)] fun p hp => by
      obtain rfl : p = (a, oe3) := List.mem_singleton.mp hp
      exact exc_pin hs hf (by rw [hs]; exact fl3.2.2.1) he3 hd3 na
    refine PX.clause_asZ J3.kIn (fun o z => z.1) fl3 hm (fun {Q' E'} q => ld_glob (X := X.suite a [(a, oe3)]) S3 hc.1 hc.2 q hdb) fun h4 fl4 up4 => ?_
    have J4 : Inv X pins σ' H' { s' with heap := h4 } := J.landed nb fl4.1 ((up.trans up3).trans up4) os ag
    obtain ⟨oe4, vs4, he4, hz4, hd4⟩ := fl4.there
    have ff : h4.FunFrames B X.stack := by rw [hs]; exact fl4.2.2.1
    -- the pins: the exception, its context
    obtain ⟨pl, S4, sub, hot⟩ : ∃ pl, Inv (X.suite a ((a, oe4) :: pl)) [] σ' H' { s' with heap := h4 } ∧ (∀ p ∈ X.pn ++ pins, p ∈ (a, oe4) :: pl) ∧ HotC2 (X.suite a ((a, oe4) :: pl)) := by
      have pinA := exc_pin hs hf ff he4 hd4 na
      obtain ⟨v, hv, hc2⟩ := hz4.2.2 vs4 hd4
      rcases hc2 with rfl | ⟨y, o2, vs2, rfl, hy, hd2, hn2, ny⟩
      · refine ⟨X.pn ++ pins, inv_suite J4 a _ fun p hp => ?_, fun p hp => List.mem_cons_of_mem _ hp, (a, oe4), List.mem_cons_self, rfl, vs4, hd4, _, hv, .inl rfl⟩
        rcases List.mem_cons.mp hp with rfl | hp
        · exact pinA
        · exact J4.pin p hp
      · refine ⟨(y, o2) :: (X.pn ++ pins), inv_suite J4 a _ fun p hp => ?_, fun p hp => List.mem_cons_of_mem _ (List.mem_cons_of_mem _ hp), (a, oe4), List.mem_cons_self, rfl, vs4, hd4, _, hv,
          .inr ⟨(y, o2), List.mem_cons_of_mem _ List.mem_cons_self, rfl, vs2, hd2, hn2⟩⟩
        rcases List.mem_cons.mp hp with rfl | hp
        · exact pinA
        · rcases List.mem_cons.mp hp with rfl | hp
          · exact exc_pin hs hf ff (fl4.1 _ _ hy) hd2 ny
          · exact J4.pin p hp
    refine store_ok (X := X.suite a ((a, oe4) :: pl)) (v := .ref a) S4 hN hi hloc rfl (fun s5 S5 => ?_) (.inr hln)
    refine wpAny_mono ((hsu a oe4 cls d pl hz4.zc ⟨_, hd4⟩ hot).run [] s5 _ H' _ S5 (hyes a na)) (fun f s6 hsp => ?_) (fun _ _ z => False.elim z)
    have end_ : ∀ {σ6 : L2.St} {H6 : Hp} {Q : Shared → Prop}, Inv (X.suite a ((a, oe4) :: pl)) [] σ6 H6 s6 → (∀ s7, Inv X pins (σ6.set i none) H6 s7 → Q s7) →
        wpAny (model X.prog X.w) X.A (do bindName X.env n .none; unbindBehindTheSuite X.env n pos') (fun _ s7 => Q s7) X.xe s6 := fun {σ6 H6 Q} S6 hq => gone_ok (inv_unsuite S6 ok sub) hN hi hln hq
    cases f with
    | ret u =>
      obtain ⟨v6, σ6, H6, S6, r6, q6⟩ := hsp
      exact end_ S6 fun s7 J7 => ⟨_, _, _, J7, r6, q6⟩
    | next =>
      obtain ⟨σ6, H6, S6, q6⟩ := hsp
      exact end_ S6 fun s7 J7 => ⟨_, _, J7, q6⟩
    | brk =>
      obtain ⟨σ6, H6, S6, q6⟩ := hsp
      exact end_ S6 fun s7 J7 => ⟨_, _, J7, q6⟩
    | cont =>
      obtain ⟨σ6, H6, S6, q6⟩ := hsp
      exact end_ S6 fun s7 J7 => ⟨_, _, J7, q6⟩
  · cases f with
    | next =>
      obtain ⟨σ', H', J', q⟩ := hsp
      exact wpAny_execs_nil ⟨σ', H', J'.ofTry ok, q⟩
    | ret u =>
      obtain ⟨v, σ', H', J', r, q⟩ := hsp
      exact ⟨v, σ', H', J'.ofTry ok, r, q⟩
    | brk =>
      obtain ⟨σ', H', J', q⟩ := hsp
      exact ⟨σ', H', J'.ofTry ok, q⟩
    | cont =>
      obtain ⟨σ', H', J', q⟩ := hsp
      exact ⟨σ', H', J'.ofTry ok, q⟩
end
end K28

set_option Elab.async false
set_option linter.all false
set_option maxRecDepth 100000
set_option maxHeartbeats 4000000
/-! Where an exception is handled: a range's end, a def called there, a comprehension over a range, isinstance of the exception. -/
namespace K28
open PySem PySem.Spec PyProof.Rows L2 HotX
section
variable {prog : Program} {w : World} {A : Around} {E : Value → Shared → Prop} {s : Shared}
theorem unc_none {a o sl : Addr} {t : Bool} {ob : Obj} {vs : Array Value} {R : Result → Shared → Prop} (h1 : s.heap.get? o = some ob) (d1 : ob.data = .fields vs) (c1 : vs[2]? = some .none) (q : R (.ok (.ret .none)) s) :
    codeAny (model prog w) A (.builtin "proto.unchain" ⟨[.ref a, .ref o, .ref sl, .bool t], []⟩) R s := by
  refine codeAny_builtin HotX.entry_unchain ?_
  show wpAny _ _ (field (.ref o) 2 >>= _) _ _ s
  refine wpAny_bind (wpAny_field h1 d1 c1 ?_)
  rw [if_pos (show (Value.none == Value.none) = true from rfl)]
  first
  | exact wpAny_pure q
  | exact wpAny_bind (wpAny_pure (wpAny_pure q))
theorem unc_ref {a o y : Addr} {ob : Obj} {vs : Array Value} {R : Result → Shared → Prop} (h1 : s.heap.get? o = some ob) (d1 : ob.data = .fields vs) (c1 : vs[2]? = some (.ref y)) (ne : y ≠ a) (q : R (.ok (.ret .none)) s)
    (k : codeAny (model prog w) A (.builtin "proto.unchain" ⟨[.ref a, .ref y, .ref o, .bool true], []⟩) R s) :
    codeAny (model prog w) A (.builtin "proto.unchain" ⟨[.ref a, .ref o, .ref o, .bool false], []⟩) R s := by
  have b1 : (Value.ref y == Value.ref a) = false := by simp [ne]
  refine codeAny_builtin HotX.entry_unchain ?_
  show wpAny _ _ (field (.ref o) 2 >>= _) _ _ s
  refine wpAny_bind (wpAny_field h1 d1 c1 ?_)
  rw [if_neg (show ¬ (Value.ref y == Value.none) = true from by simp), b1, if_neg Bool.false_ne_true]
  by_cases e : y = o
  · subst e
    rw [if_pos (show (Value.ref y == Value.ref y) = true from by simp)]
    exact wpAny_bind (wpAny_rule (wpAny_pure q))
  · rw [if_neg (show ¬ (Value.ref y == Value.ref o) = true from by simp [e])]
    dsimp only
    rw [if_neg Bool.false_ne_true]
    exact wpAny_bind (wpAny_pure (wpAny_pure ⟨Code.quiet_builtin _ (by decide +kernel), k⟩))
/-- the exception that is handled, as it stands: its context is None, or one whose context is None -/
def HotAt2 (A : Around) (x1 : Addr) (h : Heap) : Prop := A.handled = some (.ref x1) ∧ ∃ (o : Obj) (vs : Array Value), h.get? x1 = some o ∧ o.data = .fields vs ∧ ∃ v, vs[2]? = some v ∧
  (v = .none ∨ ∃ (y : Addr) (o2 : Obj) (vs2 : Array Value), v = .ref y ∧ h.get? y = some o2 ∧ o2.data = .fields vs2 ∧ vs2[2]? = some .none)
theorem HotAt2.keeps {x1 : Addr} {h h' : Heap} (x : HotAt2 A x1 h) (k : ∀ b o, h.get? b = some o → h'.get? b = some o) : HotAt2 A x1 h' := by
  obtain ⟨hh, o, vs, h1, d1, v, hv, hc⟩ := x
  refine ⟨hh, o, vs, k _ _ h1, d1, v, hv, ?_⟩
  rcases hc with e | ⟨y, o2, vs2, e, h2, r⟩
  · exact .inl e
  · exact .inr ⟨y, o2, vs2, e, k _ _ h2, r⟩
theorem raiseNew_hot2 {α : Type} {a x1 : Addr} {oe : Obj} {vs : Array Value} {Q : α → Shared → Prop} (hot : HotAt2 A x1 s.heap) (hne : ∀ b, (∃ o, s.heap.get? b = some o) → b = a → b ≠ x1 ∧ ∀ o us, s.heap.get? x1 = some o → o.data = .fields us → us[2]? ≠ some (.ref a))
    (ha : s.heap.get? a = some oe) (da : oe.data = .fields vs) (hi : 2 < vs.size) (hE : E (.ref a) { s with heap := s.heap.update a (Obj.mapFields (·.setIfInBounds 2 (.ref x1))) }) : wpAny (model prog w) A (raiseNew (.ref a) : Sem α) Q E s := by
  obtain ⟨hh, o1, vs1, h1, d1, v, hv, hc⟩ := hot
  obtain ⟨n1, n2⟩ := hne a ⟨_, ha⟩ rfl
  have run : ∀ {P : Value → Shared → Prop}, P .none s → wpAny (model prog w) A (runValue (.builtin "proto.unchain" ⟨[.ref a, .ref x1, .ref x1, .bool false], []⟩)) P E s := fun {P} q => by
    refine wpAny_runValue ?_
    rcases hc with rfl | ⟨y, o2, vs2, rfl, h2, d2, c2⟩
    · exact unc_none h1 d1 hv q
    · exact unc_ref h1 d1 hv (fun e => n2 o1 vs1 h1 d1 (by rw [← e]; exact hv)) q (unc_none h2 d2 c2 q)
  unfold raiseNew
  refine wpAny_bind (wpAny_handled ?_)
  rw [hh]
  have hb : (Value.ref x1 != Value.ref a) = true := ref_bne (Ne.symm n1)
  first
  | (show wpAny _ _ (if (Value.ref x1 != Value.ref a) = true then _ else _) _ _ _
     rw [if_pos hb]
     first
     | exact wpAny_bind (wpAny_holding (run (wpAny_bind (chained ha da hi (wpAny_throw hE)))))
     | exact wpAny_bind (wpAny_bind (wpAny_holding (run (chained ha da hi (wpAny_throw hE))))))
  | (refine wpAny_bind ?_
     show wpAny _ _ (if (Value.ref x1 != Value.ref a) = true then _ else _) _ _ _
     rw [if_pos hb]
     exact wpAny_bind (wpAny_holding (run (chained ha da hi (wpAny_throw hE)))))
/-- the end of a range, where an exception is handled -/
theorem range_end_hot2 {it x1 : Addr} {x left step : Int} {Q : Option Value → Shared → Prop} (hot : HotAt2 A x1 s.heap) (hit : IsRangeIter s.heap it x left step) (hleft : left ≤ 0)
    (hQ : ∀ h', (∀ b o, s.heap.get? b = some o → h'.get? b = some o) → Q none { s with heap := h' }) : wpAny (model prog w) A (pyNext (.ref it)) Q E s := by
  have hT : s.TypeIs (.ref it) "range_iterator" := ⟨_, hit, rfl⟩
  unfold pyNext
  refine wpAny_bind (wpAny_attempt (wpAny_callSpecial?_slot (name := Str.ofString "__next__") hT F.slot_range_iterator_next
    (wpAny_call_entry F.slot_range_iterator_next hT F.entry_range_iterator_next ?_ (F.args_range_iterator_next_1 _))))
  show wpAny _ _ (field (.ref it) 0 >>= _) _ _ s
  refine wpAny_bind (wpAny_field hit rfl (x := rawInt x) rfl ?_)
  show wpAny _ _ (field (.ref it) 1 >>= _) _ _ s
  refine wpAny_bind (wpAny_field hit rfl (x := rawInt left) rfl ?_)
  show wpAny _ _ (field (.ref it) 2 >>= _) _ _ s
  refine wpAny_bind (wpAny_field hit rfl (x := rawInt step) rfl ?_)
  show wpAny _ _ (if left ≤ 0 then _ else _) _ _ s
  rw [if_pos hleft]
  refine wpAny_bind (wpAny_rule ?_)
  refine wpAny_bind ?_
  show wpAny _ _ (newExc (.type "StopIteration") [] >>= _) _ _ _
  refine wpAny_bind ?_
  simp only [newExc, newTuple]
  refine wpAny_bind (wpAny_newObj_type ?_ (by size_fits))
  refine wpAny_bind (m := firstArgMember _ _) (wpAny_of_eq (a := Value.none) (by first | rfl | (simp only [firstArgMember]; rfl)) ?_)
  refine wpAny_newObj_type ?_ (by size_fits)
  have old : ∀ {b : Addr} {o : Obj}, s.heap.get? b = some o → b ≠ s.heap.objs.size + 1 := fun {b o} e => Nat.ne_of_lt (Nat.lt_succ_of_lt (Heap.lt_size e))
  refine raiseNew_hot2 (hot.keeps fun b o e => Heap.get?_push_of_some _ (Heap.get?_push_of_some _ e)) (fun b _ eb => ?_) (Heap.get?_push_size _ rfl) rfl (by first | (simp; done) | (simp; omega) | (simp only [Array.size_append]; simp; omega)) ?_
  · obtain ⟨hh, o1, vs1, h1, d1, v, hv, hc⟩ := hot
    rw [Heap.size_push] at eb
    refine ⟨fun z => old h1 (z.symm.trans eb), fun o us ho hd hu => ?_⟩
    have e1 := (Heap.get?_push_of_some _ (Heap.get?_push_of_some _ h1)).symm.trans ho
    obtain rfl : o1 = o := Option.some.inj e1
    obtain rfl : vs1 = us := Data.fields.inj (d1.symm.trans hd)
    have ev : v = _ := Option.some.inj (hv.symm.trans hu)
    rw [Heap.size_push] at ev
    rcases hc with rfl | ⟨y, o2, vs2, rfl, h2, _, _⟩
    · cases ev
    · exact old h2 (Value.ref.inj ev)
  · refine wpAny_bind (wpAny_isInstance (T := "StopIteration") (b := true) ⟨_, Heap.get?_update_self _ (Heap.get?_push_size _ rfl) rfl, rfl⟩ isSubtype_stop ?_)
    refine wpAny_pure (hQ _ fun b o e => ?_)
    rw [Heap.get?_update_other _ _ (Nat.ne_of_gt (Heap.lt_size (Heap.get?_push_of_some _ e)))]
    exact Heap.get?_push_of_some _ (Heap.get?_push_of_some _ e)
end
theorem HotC2.at {X : Cx} {pins : List (Addr × Obj)} {σ : L2.St} {H : Hp} {s : Shared} (c : HotC2 X) (I : Inv X pins σ H s) : ∃ x1, HotAt2 X.A x1 s.heap := by
  obtain ⟨p, hp, hh, vs, hd, v, hv, hc⟩ := c
  refine ⟨p.1, hh, p.2, vs, (I.pin p (List.mem_append_left _ hp)).1, hd, v, hv, ?_⟩
  rcases hc with e | ⟨q, hq, e, vs2, hd2, h2⟩
  · exact .inl e
  · exact .inr ⟨q.1, q.2, vs2, e, (I.pin q (List.mem_append_left _ hq)).1, hd2, h2⟩

/-! ### defs called there -/
/-- what a def promises where the pins pl bear the handled exception -/
structure FnW (P : Program) (w : World) (K : PySem.W.Frag) (mg : Str → Option Value) (base : Heap) (k : Nat) (f : Addr) (fd : FuncData) (ps : List Str) (sp : Sp) (Z : List (Addr × Obj) → Prop) : Prop where
  len : ∀ vs H Q E, sp vs H Q E → vs.length = ps.length
  run : ∀ (A : Around) (outer : List Env) (s : Shared) (H : Hp) (args : Args) (us : List Value) (vs : List V) (Q : VK) (pl : List (Addr × Obj)), L2H.RoomH k A → (∀ X : Cx, X.A.handled = A.handled → (∀ p ∈ pl, p ∈ X.pn) → HotC2 X) → Z pl →
    (∀ p ∈ pl, L2H.PinOk outer H s p) → Env0 P w K mg base A outer s H → BindsTo s fd args (ps.zip us) → Vals vs us → sp vs H Q E0 → codeAny (model P w) A (.call (.ref f) args) (CR CX0 outer P w H s Q E0) s
/-- the context of such a def's body -/
def cxW (P : Program) (w : World) (K : PySem.W.Frag) (mg : Str → Option Value) (base : Heap) (N : List Str) (qual : Str) (scope : Scope) (f : Addr) (cd : Value) (A : Around) (outer : List Env) (s : Shared) (H : Hp) (pl : List (Addr × Obj)) : Cx :=
  { cxOf CX0 P w K mg base N qual scope f cd A outer s H E0 with calm := false, pn := pl, xe := fun _ _ => False }
theorem inv_startW {P : Program} {w : World} {K : PySem.W.Frag} {mg : Str → Option Value} {base : Heap} {N ps : List Str} {qual : Str} {scope : Scope} {f : Addr} {cd : Value} {A : Around} {outer : List Env} {s s1 : Shared} {H : Hp} {us : List Value} {vs : List V}
    (S : FnScope N ps scope) {p : Addr × Obj} {pl : List (Addr × Obj)} (hpin : ∀ q ∈ p :: pl, L2H.PinOk outer H s q) (e0 : Env0 P w K mg base A outer s H) (hl : vs.length = ps.length) (r : Vals vs us)
    (x : InCallC s s.heap.objs.size (bindL (envOfC qual scope s.heap.objs.size f cd).kindOf (ps.zip us) fun _ => none) (cellsFrom (s.heap.objs.size + 1) scope.names []) (bindC (envOfC qual scope s.heap.objs.size f cd).kindOf (ps.zip us) fun _ => none) s1) :
    Inv (cxW P w K mg base N qual scope f cd A outer s H (p :: pl)) [] (L2.start N vs) H s1 := by
  have I1 : Inv (L2H.cxH CX0 P w K mg base N qual scope f cd A outer s H E0 p) [] (L2.start N vs) H s1 := L2H.inv_startH S (hpin p List.mem_cons_self) e0 hl r x
  have I2 : Inv (L2H.cxH CX0 P w K mg base N qual scope f cd A outer s H E0 p) pl (L2.start N vs) H s1 := I1.pins_of fun q hq => by
    have z := hpin q (List.mem_cons_of_mem _ hq)
    obtain ⟨h1, tk, rfl, hk⟩ := x.done
    exact ⟨hk _ _ z.get, z.free, Nat.ne_of_lt (Heap.lt_size z.get), z.nofs, z.nocell⟩
  exact I2.toTry fun _ _ => False
theorem fn_ofW {P : Program} {w : World} {K : PySem.W.Frag} {mg : Str → Option Value} {base : Heap} {k : Nat} {f : Addr} {name qual : Str} {params : Arguments} {body : List Stmt} {scope : Scope} {dV kV doc pm cdv ct oc : Value} {an od : Option Addr}
    {osl : Array (Option Value)} {N ps : List Str} {sp : Sp} {Z : List (Addr × Obj) → Prop} (lk : K.lookup f = some ⟨oc, od, .func (PySem.W.fnOf name qual params body scope dV kV doc pm an cdv ct), osl⟩) (hcd : PySem.W.codeIn K cdv qual = true) (S : FnScope N ps scope)
    (hZ : ¬ Z []) (len : ∀ vs H Q E, sp vs H Q E → vs.length = ps.length)
    (hbody : ∀ (A : Around) (outer : List Env) (s : Shared) (H : Hp) (vs : List V) (Q : VK) (pl : List (Addr × Obj)), Z pl → HotC2 (cxW P w K mg base N qual scope f cdv A outer s H pl) → L2H.RoomH k (A.deeper (envOfC qual scope s.heap.objs.size f cdv)) → sp vs H Q E0 →
      ∃ t, PSs (cxW P w K mg base N qual scope f cdv A outer s H pl) body t ∧ t { nx := fun _ H' => Q .non H', rt := Q } (L2.start N vs) H) :
    FnW P w K mg base (k + 1) f (PySem.W.fnOf name qual params body scope dV kV doc pm an cdv ct) ps sp Z := by
  refine ⟨len, fun A outer s H args us vs Q pl hr hot hz hpin e0 hb r hsp => ?_⟩
  have hl := len _ _ _ _ hsp
  have KX : K.In s.heap := e0.mod.kin.keeps fun b o e => (e0.bs b o e).1
  have lim : s.heap.NoLimit := e0.mod.nolimit.keeps fun b o e => (e0.bs b o e).1
  have hkind : ∀ y ∈ ps.zip us, scope.names.lookup y.1 = some .local ∨ (scope.names.lookup y.1 = some .cell ∧ ((cellsFrom (s.heap.objs.size + 1) scope.names []).lookup y.1).isSome = true) := fun ⟨n, v⟩ hy => by
    rcases S.par n (List.of_mem_zip hy).1 with q | q
    · exact .inl q
    · exact .inr ⟨q, PySem.W.cellsFrom_some _ _ _ (.inl q)⟩
  refine codeAny_call_function hr.depth (KX _ _ lk) rfl S.co S.gen rfl (PySem.W.codeRec_of KX hcd) (hb _ _ _ _ ?_)
  refine wpAny_newFunctionEnv_cells S.kind hkind fun env he s1 x => ?_
  subst he
  refine ⟨lim.keeps x.toInCall.keep, codeAny_func ?_⟩
  obtain ⟨t, ht, hq⟩ := hbody A outer s H vs Q pl hz (hot _ rfl fun p hp => hp) (hr.deeper _) hsp
  cases pl with
  | nil => exact absurd hz hZ
  | cons p pl =>
    have I := inv_startW (f := f) (cd := cdv) S hpin e0 hl r x
    refine wpAny_mono (ht.run [] s1 (L2.start N vs) H _ I hq) (fun fl s' hs => ?_) fun e s' z => False.elim z
    cases fl with
    | ret u =>
      obtain ⟨v, σ', H', J, rv, q⟩ := hs
      exact ⟨v, H', J.os, J.bare, J.base, J.hok, rv, q⟩
    | next =>
      obtain ⟨σ', H', J, q⟩ := hs
      exact ⟨.non, H', J.os, J.bare, J.base, J.hok, rfl, q⟩
    | brk =>
      obtain ⟨_, _, _, q⟩ := hs
      exact False.elim q
    | cont =>
      obtain ⟨_, _, _, q⟩ := hs
      exact False.elim q
section
variable {X : Cx} {k : Nat} {f : Addr} {fd : FuncData} {ps : List Str} {sp : Sp} {x : Str} {q pos : Pos} {e : Expr} {es : List Expr} {t : TA} {Z : List (Addr × Obj) → Prop}
theorem pe_callW (F : FnW X.prog X.w X.K X.mg X.base k f fd ps sp Z) (hr : L2H.RoomH k X.A) (hc : HotC2 X) (hz : Z X.pn) (hg : Gl X x) (hm : X.mg x = some (.ref f)) (hk : PySem.W.keepIn X.K (.ref f) = true) (hb : Binds X.K fd ps [])
    (ha : PA X (e :: es) t) (hdb : (x == ("__debug__" : Str)) = false := by decide) (he : starEach (e :: es) X.env = (false, eval e X.env) :: starEach es X.env := by rfl) (hpl : (backTo pos (starEach es X.env)).any (·.1) = false := by rfl) :
    PE X (.Call (.Name x q) (e :: es) [] pos) (tCall sp [] E0 t) := by
  refine ⟨fun pins s σ H Q I h => ?_⟩
  refine wpAny_Call_Name_kw (ld_glob I hg hm ?_ hdb)
  refine PySem.W.callWith_K (h₀ := X.base) I.ok.mod.kin hk (thn (ha.run pos pins s σ H _ I h) fun us s1 ⟨vs, H1, I1, r, hsp0⟩ => ⟨I1.kIn, ?_⟩) he hpl
  have hsp : sp (vs ++ []) H1 Q E0 := hsp0
  rw [List.append_nil] at hsp
  have hl : us.length = ps.length := by rw [← r.length]; exact F.len _ _ _ _ hsp
  have b := hb s1 us I1.kIn (by rw [List.append_nil]; exact hl)
  rw [List.append_nil] at b
  refine wpAny_call (codeAny_mono (F.run X.A X.stack s1 H1 ⟨us, []⟩ us vs Q X.pn hr (fun Y hh sub => ?_) hz (fun p hp => ?_) I1.env0 b r hsp) fun r s' hq => ?_)
  · obtain ⟨p, hp, h1, vs1, hd, v, hv, hc1⟩ := hc
    refine ⟨p, sub p hp, by rw [hh]; exact h1, vs1, hd, v, hv, ?_⟩
    rcases hc1 with e | ⟨q2, hq, e, r2⟩
    · exact .inl e
    · exact .inr ⟨q2, sub q2 hq, e, r2⟩
  · have P1 := I1.pin p (List.mem_append_left _ hp)
    exact ⟨P1.1, P1.2.1, fun hmm => (List.mem_cons.mp (I1.stkSub p.1 hmm)).elim P1.2.2.1 P1.2.2.2.1, P1.2.2.2.2⟩
  · cases r with
    | error e => exact False.elim hq
    | ok fl =>
      cases fl with
      | ret u => exact I1.after hq
      | next => exact False.elim hq
      | brk => exact False.elim hq
      | cont => exact False.elim hq
end
/-! ### isinstance of a pinned exception of an own class -/
/-- what the class D must say -/
structure ExcK (K : PySem.W.Frag) (D : Addr) : Prop where
  cl : (PySem.W.clsIn K D).isSome = true
  hg : PySem.W.findIn K (.ref D) "__getattribute__" = some (some (.builtin "BaseException.__getattribute__"))
  hk : PySem.W.findIn K (.ref D) "__getattr__" = some none
  hs : PySem.W.subIn K (.ref D) (.type "BaseException") = some true
  ha : PySem.W.findIn K (.ref D) "__class__" = some (some (.builtin "object.__class__"))
  hn : PySem.W.specialIn K (.builtin "object.__class__") "__get__" = some (some (.builtin "getset_descriptor.__get__"))
  ht : PySem.W.takesIn K (.builtin "object.__class__") = some true
  hm : PySem.W.mroIn K D (.type "object") = some true
/-- isinstance(e, c), e the exception at a -/
def rIsE2 (K : PySem.W.Frag) (D a dd : Addr) : List V → Hp → VK → Prop := fun xs H Q => (∃ fs, H dd = some (.xd fs)) ∧ ∃ (c : V) (u : Value) (b : Bool), xs = [.ref a, c] ∧ ClsV c u ∧ PySem.W.kitOne K (.ref D) u = some b ∧ Q (.bl b) H
def rIsE2T (K : PySem.W.Frag) (D a dd : Addr) : List V → Hp → VK → Prop := fun xs H Q => (∃ fs, H dd = some (.xd fs)) ∧ ∃ (tp : Addr) (cs : List V) (us : List Value) (b : Bool), xs = [.ref a, .ref tp] ∧ H tp = some (.tup cs) ∧ Paired ClsV cs us ∧ PySem.W.kitAny K (.ref D) us = some b ∧ Q (.bl b) H
section
variable {X : Cx} {a D dd : Addr} {oe : Obj}
theorem exc_inst {pins : List (Addr × Obj)} {s : Shared} {σ : L2.St} {H : Hp} (I : Inv X pins σ H s) (hp : (a, oe) ∈ X.pn) (hz : Zc (.ref D) (some dd) oe) (hf : ∃ vs, oe.data = .fields vs) (hd : ∃ fs, H dd = some (.xd fs)) : ∃ od, PySem.W.InstAt s.heap a oe D (some od) := by
  obtain ⟨fs, hd⟩ := hd
  obtain ⟨_, ⟨od, _, _, ho, _⟩, _⟩ := (show ObjOk X.prog X.w H s.heap dd (.xd fs) from I.hok dd _ hd)
  obtain ⟨vs, hv⟩ := hf
  exact ⟨od, (I.pin (a, oe) (List.mem_append_left _ hp)).1, hz.1, by unfold PySem.W.notCls; rw [hv] <;> rfl, by rw [hz.2]; exact ho⟩
theorem call_isE2 (C : ExcK X.K D) (hp : (a, oe) ∈ X.pn) (hz : Zc (.ref D) (some dd) oe) (hf : ∃ vs, oe.data = .fields vs) : CallR X (.builtin "isinstance") (rIsE2 X.K D a dd) := by
  intro pins s σ H xs us Q I r h
  obtain ⟨hdd, c, u, b, rfl, k, e, q⟩ := h
  obtain ⟨u1, u2, rfl, r1, r2⟩ := vals2 r
  have e2 := k.eq r2
  subst e2
  cases (show u1 = Value.ref a from r1)
  obtain ⟨od, J⟩ := exc_inst I hp hz hf hdd
  exact PySem.W.kia_one (PySem.W.kitx_exc C.cl C.hg C.hk C.hs C.ha C.hn C.ht C.hm) I.kIn J e (fun z => nomatch z) fun tk => ⟨.bl b, H, I.tok tk, rfl, q⟩
theorem call_isE2T (C : ExcK X.K D) (hp : (a, oe) ∈ X.pn) (hz : Zc (.ref D) (some dd) oe) (hf : ∃ vs, oe.data = .fields vs) : CallR X (.builtin "isinstance") (rIsE2T X.K D a dd) := by
  intro pins s σ H xs us Q I r h
  obtain ⟨hdd, tp, cs, ws, b, rfl, hT, k, e, q⟩ := h
  obtain ⟨u1, u2, rfl, r1, r2⟩ := vals2 r
  cases (show u2 = Value.ref tp from r2)
  cases (show u1 = Value.ref a from r1)
  obtain ⟨od, J⟩ := exc_inst I hp hz hf hdd
  obtain ⟨_, its, rv, o, h1, h2, n, h3⟩ := (show ObjOk X.prog X.w H s.heap tp (.tup cs) from I.hok tp _ hT)
  have e3 := ClsV.all k rv
  subst e3
  obtain ⟨oc, od2, dt, sl⟩ := o
  simp only at h2 h3
  subst h2 h3
  exact PySem.W.kia_tup (PySem.W.kitx_exc C.cl C.hg C.hk C.hs C.ha C.hn C.ht C.hm) I.kIn J h1 e (fun z => nomatch z) fun tk => ⟨.bl b, H, I.tok tk, rfl, q⟩
end
end K28

set_option Elab.async false
set_option linter.all false
set_option maxRecDepth 100000
set_option maxHeartbeats 4000000
/-! [e for k in range(n) if t] where an exception is handled. -/
namespace K28
open PySem PySem.Spec PyProof.Rows L2 HotX
section
variable {X : Cx} {pins : List (Addr × Obj)} {σ : L2.St} {H : Hp} {s : Shared}
/-- what stood pinned ahead of a comprehension's block stands in it -/
theorem hot_blk {s3 s5 : Shared} {H3 H5 : Hp} {σ5 : L2.St} {scope : Scope} {ce : Env} {it x1 : Addr} (hc : HotC2 X) (I3 : Inv X pins σ H3 s3) (f3 : FpOk X pins H3 it) (I5 : Inv (X.blk s3 H3 scope ce [it]) [] σ5 H5 s5) : ∃ x1, HotAt2 X.A x1 s5.heap := by
  obtain ⟨p, hp, hh, vs, hd, v, hv, hcc⟩ := hc
  have kp : ∀ q ∈ X.pn, s5.heap.get? q.1 = some q.2 := fun q hq => by
    have z := I3.pin q (List.mem_append_left _ hq)
    refine I5.base.keep q.1 q.2 z.1 z.2.1 (fun hm => (List.mem_cons.mp (I3.stkSub q.1 hm)).elim z.2.2.1 z.2.2.2.1) fun hm => ?_
    have e : q.1 = it := List.mem_singleton.mp hm
    exact f3.2.2.2.2.2 q (List.mem_append_left _ hq) e
  refine ⟨p.1, hh, p.2, vs, kp p hp, hd, v, hv, ?_⟩
  rcases hcc with e | ⟨q, hq, e, vs2, hd2, h2⟩
  · exact .inl e
  · exact .inr ⟨q.1, q.2, vs2, e, kp q hq, hd2, h2⟩
theorem pe_lcHot {elt a : Expr} {x : Str} {px p rpos : Pos} {c : Expr} {scope : Scope} {own : List (Str × Nat)} {pos : Pos} {ta : TA} {g : TG} {tt : TT} {te : TE} (hc : HotC2 X) (hN : X.N.Nodup) (hgr : Gl X "range") (hmr : X.mg "range" = none) (ha : PA X [a] ta) (ok : BlkOk X.N X.env.scope scope own)
    (hg : ∀ (s : Shared) (H : Hp) (C : Addr) (cl : List (Str × Addr)) (fp : List Addr), PG (X.blk s H scope (compEnvC scope cl C X.env) fp) (.Name x px) g) (ht : ∀ (s : Shared) (H : Hp) (C : Addr) (cl : List (Str × Addr)) (fp : List Addr), PTs (X.blk s H scope (compEnvC scope cl C X.env) fp) [c] tt)
    (he : ∀ (s : Shared) (H : Hp) (C : Addr) (cl : List (Str × Addr)) (fp : List Addr), PE (X.blk s H scope (compEnvC scope cl C X.env) fp) elt te) (hs : ∀ v, foldedSetIterable (.Call (.Name "range" p) [a] [] rpos) X.env v = pure v := by intro _; rfl)
    (hst : starEach [a] X.env = [(false, eval a X.env)] := by rfl) :
    PE X (.ListComp elt [⟨.Name x px, .Call (.Name "range" p) [a] [] rpos, [c], 0⟩] scope pos) (tLc (iRng1 ta) g tt te (own.map (·.2))) := by
  refine ⟨fun pins s σ H Q I h => ?_⟩
  rw [eval_ListComp]
  have hfree : ∀ y ∈ scope.names, y.2 = .free → ∃ cc, X.env.cells.lookup y.1 = some cc := fun y hy e => (ok.free y hy e).elim (fun k => I.ok.has _ (.inl k)) fun k => I.ok.has _ (.inr k)
  refine wpAny_comprehension_free rfl hs (closure_ok hfree) ok.kind (fun y hy e => by rw [ok.uniq y hy, e]) ?_
  refine Call_ (ld_blt I hgr hmr boot_range (PyProof.Rows.callWith_type1 (thn (ha.run rpos pins s σ H _ I h) fun us s1 ⟨vs, H1, I1, r1, q1⟩ => ?_) hst rfl))
  obtain ⟨j, ej, b1, b2, q⟩ := q1
  subst ej
  cases r1 with
  | cons r rr =>
    cases rr
    obtain ⟨t, rfl⟩ := r
    refine call_range_1 ?_
    refine wpAny_pyIter_range (IsRange.new ..) (small_one (by omega) (by omega) b1 b2) ?_
    -- the iterator stands
    obtain ⟨n, hn⟩ : ∃ n, j.toNat = n := ⟨_, rfl⟩
    rw [hn] at q
    have e2 : ((n : Nat) : Int) - ((0 : Nat) : Int) = Builtin.Range.rangeSize 0 j 1 := by rw [rangeSize_one]; split <;> omega
    have IA : Inv X pins σ H1 ⟨s1.heap.push { cls := .type "range", data := .fields #[.int 0 s1.toks, .int j t, .int 1 (s1.toks + 1)] }, s1.gens, s1.drawn, s1.toks + 2, s1.os⟩ := I1.kept fun b o e => Heap.get?_push_of_some _ e
    generalize hsA : (⟨s1.heap.push { cls := .type "range", data := .fields #[.int 0 s1.toks, .int j t, .int 1 (s1.toks + 1)] }, s1.gens, s1.drawn, s1.toks + 2, s1.os⟩ : Shared) = sA at IA
    generalize hit : sA.heap.objs.size = it
    have fA : FpOk X pins H1 it := IA.fpOk (Nat.le_of_eq hit) (IA.hok.fresh (Nat.le_of_eq hit))
    generalize hs2 : ({ sA with heap := sA.heap.push { cls := .type "range_iterator", data := .fields #[rawInt 0, rawInt (Builtin.Range.rangeSize 0 j 1), rawInt 1] } } : Shared) = s2
    have I2 : Inv X pins σ H1 s2 := by
      rw [← hs2]
      exact IA.kept (t' := sA.toks) fun b o e => Heap.get?_push_of_some _ e
    have st2 : IsRangeIter s2.heap it (0 + ((0 : Nat) : Int) * 1) ((n : Int) - ((0 : Nat) : Int)) 1 := by
      rw [show 0 + ((0 : Nat) : Int) * 1 = 0 from rfl, e2, ← hs2, ← hit]
      exact Heap.get?_push_size _ rfl
    refine wpAny_newObj_type (newEnv_comp ?_) (by show 0 ≤ sizeLine; decide)
    generalize hD : s2.heap.objs.size = D
    have hDn : H1 D = none := I2.hok.fresh (Nat.le_of_eq hD)
    obtain ⟨W, ⟨m0, w0⟩, turn⟩ := q D hDn
    generalize hs3 : ({ s2 with heap := s2.heap.push { cls := .type "list", data := .seq ([] : List Value).toArray } } : Shared) = s3
    have h3 : s3.heap = s2.heap.push { cls := .type "list", data := .seq ([] : List Value).toArray } := by rw [← hs3]
    have I3 : Inv X pins σ (upd H1 D (.lst [])) s3 := by
      rw [← hs3]
      refine I2.laid (t' := s2.toks) (fun b o e => Heap.get?_push_of_some _ e) (Nat.le_of_eq hD) ⟨Nat.zero_le _, [], 0, .nil, ?_⟩
      rw [← hD]
      exact Heap.get?_push_size _ rfl
    have lt2 : it < s2.heap.objs.size := Heap.lt_size st2
    have f3 : FpOk X pins (upd H1 D (.lst [])) it := ⟨by rw [upd_ne (by rw [← hD]; exact Nat.ne_of_lt lt2)]; exact fA.1, fA.2⟩
    have lt3 : it < s3.heap.objs.size := by rw [h3, Heap.size_push]; exact Nat.lt_succ_of_lt lt2
    have st3 : IsRangeIter s3.heap it (0 + ((0 : Nat) : Int) * 1) ((n : Int) - ((0 : Nat) : Int)) 1 := by rw [h3]; exact Heap.get?_push_of_some _ st2
    have one : ∀ b ∈ [it], FpOk X pins (upd H1 D (.lst [])) b ∧ b < s3.heap.objs.size := fun b hb => by
      obtain rfl : b = it := List.mem_singleton.mp hb
      exact ⟨f3, lt3⟩
    have I4 := block_start I3 ok hN one
    have pg := hg s3 (upd H1 D (.lst [])) s3.heap.objs.size (cellsFrom (s3.heap.objs.size + 1) scope.names (cloFrom X.env.cells scope.names [])) [it]
    have pt := ht s3 (upd H1 D (.lst [])) s3.heap.objs.size (cellsFrom (s3.heap.objs.size + 1) scope.names (cloFrom X.env.cells scope.names [])) [it]
    have pe := he s3 (upd H1 D (.lst [])) s3.heap.objs.size (cellsFrom (s3.heap.objs.size + 1) scope.names (cloFrom X.env.cells scope.names [])) [it]
    show codeAny _ _ (.compStart _ 0 (.ref it) (.ref D) (compEnvC scope (cellsFrom (s3.heap.objs.size + 1) scope.names (cloFrom X.env.cells scope.names [])) s3.heap.objs.size X.env)) _ { s3 with heap := pushCells (s3.heap.push { cls := .type "dict", data := .dict #[] }) scope.names }
    generalize hce : compEnvC scope (cellsFrom (s3.heap.objs.size + 1) scope.names (cloFrom X.env.cells scope.names [])) s3.heap.objs.size X.env = ce at I4 pg pt pe ⊢
    have cL : ce.locals = s3.heap.objs.size := by subst hce; rfl
    generalize hH3 : upd H1 D (.lst []) = H3 at I3 I4 pg pt pe w0 f3 one
    generalize hs4 : ({ s3 with heap := pushCells (s3.heap.push { cls := .type "dict", data := .dict #[] }) scope.names } : Shared) = s4 at I4 ⊢
    have st4 : IsRangeIter s4.heap it (0 + ((0 : Nat) : Int) * 1) ((n : Int) - ((0 : Nat) : Int)) 1 := by rw [← hs4]; exact pushCells_keeps _ _ _ _ (Heap.get?_push_of_some _ st3)
    have stat : ∀ {σ' : L2.St} {H' : Hp} {s' : Shared}, Inv (X.blk s3 H3 scope ce [it]) [] σ' H' s' → H' it = none → ∀ b ∈ [it], FpOk (X.blk s3 H3 scope ce [it]) [] H' b := fun {σ' H' s'} I' hn b hb => by
      obtain rfl : b = it := List.mem_singleton.mp hb
      exact ⟨hn, (I'.ok.exf b hb).1, I'.ok.exfs b hb, .inl hb, fun x c e => (I'.ok.exf b hb).2 x c e, fun p hp => absurd (show p ∈ ([] : List (Addr × Obj)) ++ [] from hp) (by simp)⟩
    refine codeAny_compStart_list ?_ (wpAny_pyIter_rangeiter st4 ?_)
    all_goals
      refine compLoop_any (fun m s' => ∃ i H', Inv (X.blk s3 H3 scope ce [it]) [] (wipe σ (own.map (·.2))) H' s' ∧ IsRangeIter s'.heap it (0 + ((i : Nat) : Int) * 1) ((n : Int) - ((i : Nat) : Int)) 1 ∧ H' it = none ∧ W i m H') ?_ m0 ⟨0, H3, I4, st4, f3.1, w0⟩
      rintro m s5 ⟨i, H5, I5, st5, n5, w5⟩
      obtain ⟨x1, hot⟩ := hot_blk (x1 := it) hc I3 f3 I5
      obtain ⟨g0, g1, g2, g3, g4, g5⟩ := stat I5 n5 it List.mem_cons_self
      rcases turn i m H5 w5 with ⟨stop, qq⟩ | ⟨go, Nx, hNx, step⟩
      · refine range_end_hot2 hot st5 (by have : n ≤ i := stop; omega) fun h' eb => ?_
        have I6 : Inv (X.blk s3 H3 scope ce [it]) [] (wipe σ (own.map (·.2))) H5 { s5 with heap := h' } := I5.turned (t' := s5.toks) (fun b o _ e => eb b o e) g0 g1 g3 g4 g5
        have I7 : Inv X pins σ H5 { s5 with heap := h' } := I3.call' (ch := [it]) I6.os I6.base I6.hok I6.bare fun b hb => ⟨(one b hb).1.2.2.2.1, (one b hb).1.2.1, (one b hb).1.2.2.2.2.1, (one b hb).1.2.2.2.2.2⟩
        have nC : H5 s3.heap.objs.size = none := by
          have z : H5 ce.locals = none := I6.free
          rw [cL] at z
          exact z
        obtain ⟨mm, hn6, _⟩ := I6.loc
        have hn6 : Heap.Ns h' ce.locals mm := hn6
        rw [cL] at hn6
        refine ⟨mm, hn6, fun h'' sb => ?_⟩
        obtain ⟨k0, k1, k2, k3, k4, k5⟩ := I3.fpOk (H' := H5) (Nat.le_refl _) nC
        exact ⟨.ref D, H5, I7.turned (t' := s5.toks) (fun b o hb e => (sb.2 b hb).trans e) k0 k1 k3 k4 k5, rfl, qq⟩
      · have hlt : i < n := go
        refine wpAny_pyNext_range_item st5 (by omega) fun h' st' sb => ?_
        have st6 : IsRangeIter h' it (0 + ((i + 1 : Nat) : Int) * 1) ((n : Int) - ((i + 1 : Nat) : Int)) 1 := by
          rw [show 0 + ((i + 1 : Nat) : Int) * 1 = 0 + ((i : Nat) : Int) * 1 + 1 by omega, show (n : Int) - ((i + 1 : Nat) : Int) = (n : Int) - ((i : Nat) : Int) - 1 by omega]
          exact st'
        have I6 : Inv (X.blk s3 H3 scope ce [it]) [] (wipe σ (own.map (·.2))) H5 { s5 with heap := h', toks := s5.toks + 1 } := I5.turned (fun b o hb e => (sb.2 b hb).trans e) g0 g1 g3 g4 g5
        refine go_of (s := { s5 with heap := h', toks := s5.toks + 1 }) (n := "range_iterator") st6 rfl rfl (by decide) ?_
        have I6' := I6.pinned (stat I6 n5) fun b hb => by
          obtain rfl : b = it := List.mem_singleton.mp hb
          exact ⟨_, st6, fun v z => by cases (show Data.fields _ = Data.cell v from z)⟩
        refine thnF (pg.run _ _ _ H5 (.int (0 + (i : Int))) _ _ I6' ⟨s5.toks, by rw [Int.mul_one]⟩ (step _ H5 ⟨rfl, rfl⟩)) fun _ s8 ⟨σ8, H8, I8, hw8, q8⟩ => ?_
        refine thnF (pt.run _ s8 σ8 H8 _ I8 q8) fun b s9 ⟨H9, I9, q9⟩ => ?_
        have fin : ∀ {s' : Shared} {H' : Hp}, Inv (X.blk s3 H3 scope ce [it]) ([] ++ pinsAt [it] h') σ8 H' s' → Nx H' → ∃ m', m' < m ∧ ∃ i H', Inv (X.blk s3 H3 scope ce [it]) [] (wipe σ (own.map (·.2))) H' s' ∧ IsRangeIter s'.heap it (0 + ((i : Nat) : Int) * 1) ((n : Int) - ((i : Nat) : Int)) 1 ∧ H' it = none ∧ W i m' H' := fun {s' H'} I' nx => by
          obtain ⟨m', hm, w'⟩ := hNx H' nx
          have pi := I'.pin (it, _) (List.mem_append_right _ (List.mem_append_right _ (mem_pinsAt List.mem_cons_self st6)))
          have hl : (wipe σ (own.map (·.2))).length = σ8.length := by rw [← hw8, wipe_length]
          refine ⟨m', hm, i + 1, H', (I'.unpinned (pins := [])).weak hl (fun jj v e => ?_), pi.1, pi.2.1, w'⟩
          rw [← hw8] at e
          exact (wipe_some e).1
        cases b with
        | false =>
          simp only [Bool.false_eq_true, if_false] at q9 ⊢
          exact fin I9 q9
        | true =>
          simp only [if_true] at q9 ⊢
          refine thnF (pe.run _ s9 σ8 H9 _ I9 q9) fun z s10 ⟨yv, H10, I10, r10, acc, hD10, hz10, nx⟩ => ?_
          exact app_ok (X := X.blk s3 H3 scope ce [it]) I10 hD10 hz10 r10 fun s11 I11 => fin I11 nx
end
end K28

set_option Elab.async false
set_option linter.all false
set_option maxRecDepth 100000
set_option maxHeartbeats 4000000
/-! NoText(): made without arguments, by an own __init__ that says CellError.__init__(self, ..). -/
namespace K28
open PySem PySem.Spec PyProof.Rows L2 HotX
/-- the promise of NoText.__init__(self, line) -/
def spNT (C : Addr) : Sp := fun vs H Q _ => ∃ (a : Addr) (l : Int), vs = [.ref a, .int l] ∧ H a = some (exo a C none) ∧ ∀ dx : Addr, H dx = none → dx ≠ a → Q .non (upd (upd H dx (exd dx [(("line" : Str), V.int l)])) a (exo a C (some dx)))
/-- what the text says of the class at C with its __init__ at fI -/
structure NtCls (K : PySem.W.Frag) (C fI : Addr) : Prop where
  oex : OexC K C
  iC : PySem.W.findIn K (.ref C) "__init__" = some (some (.ref fI))
  tI : PySem.W.typeIn K (.ref fI) = some (.type "function")
/-- the reading: the new error's own dict, at d, is new and holds the line -/
def tMkNT (C : Addr) : L2.St → Hp → XK → Prop := fun _ H Q => ∀ d : Addr, H d = none → Q (.ref C) (some d) (upd H d (.xd [(("line" : Str), V.int 0)]))
section
variable {X : Cx} {C fI : Addr} {x : Str} {p pos : Pos}
theorem pmk_nt (T : NtCls X.K C fI) (hg : Gl X x) (hm : X.mg x = some (.ref C))
    (run : ∀ (pins : List (Addr × Obj)) (σ : L2.St) (s : Shared) (H : Hp) (Q : VK) (a : Addr), Inv X pins σ H s → spNT C [.ref a, .int 0] H Q E0 →
      codeAny (model X.prog X.w) (X.A.under (.builtin "type.__call__" ⟨[.ref C], []⟩)) (.call (.ref fI) ⟨[.ref a], []⟩) (CR CX0 X.stack X.prog X.w H s Q E0) s)
    (hdb : (x == ("__debug__" : Str)) = false := by decide) : L2H.PMk5 X (.Call (.Name x p) [] [] pos) (tMkNT C) := by
  intro pins s σ H Q I h
  obtain ⟨nm, q, N, bs, bm, sn, sub, ab, col, dd, k0, k1, k2, k3, k5, hC, hbm⟩ := T.oex.cls
  refine wpAny_Call_Name_kw (ld_glob I hg hm ?_ hdb)
  refine PySem.W.callWith_K0 I.kIn T.oex.kC ?_
  show wpAny _ _ (call (.ref C) []) _ _ _
  obtain ⟨hp, g, dr, tk, os⟩ := s
  obtain ⟨a, ea⟩ : ∃ a, hp.objs.size + 1 = a := ⟨_, rfl⟩
  have hsz : hp.objs.size ≤ a := by omega
  have hn : H a = none := I.hok.fresh hsz
  have kk : ∀ b o, hp.get? b = some o → ((hp.push (PySem.W.kdv_tup [])).push (PySem.HandSPX.excO C hp.objs.size)).get? b = some o := fun b o e => Heap.get?_push_of_some _ (Heap.get?_push_of_some _ e)
  have hget : ((hp.push (PySem.W.kdv_tup [])).push (PySem.HandSPX.excO C hp.objs.size)).get? a = some (PySem.HandSPX.excO C hp.objs.size) := by rw [← ea]; heap_get
  have I2 : Inv X pins σ (upd H a (exo a C none)) ⟨(hp.push (PySem.W.kdv_tup [])).push (PySem.HandSPX.excO C hp.objs.size), g, dr, tk, os⟩ := I.laid (t' := tk) kk hsz (exo_ok hget)
  -- what __init__ leaves
  have hr := run pins σ _ _ (fun v H2 => v = .non ∧ ∃ d : Addr, H2 a = some (exo a C (some d)) ∧ H2 d = some (exd d [(("line" : Str), V.int 0)]) ∧ H d = none ∧ upd (del H2 a) d (.xd [(("line" : Str), V.int 0)]) = upd H d (.xd [(("line" : Str), V.int 0)])) a I2
    ⟨a, 0, rfl, upd_same, fun dx ndx ne => ⟨rfl, dx, upd_same, by rw [upd_ne ne, upd_same], by rw [upd_ne ne] at ndx; exact ndx, by
      funext b
      by_cases hbd : b = dx
      · rw [hbd, upd_same, upd_same]
      · rw [upd_ne hbd, upd_ne hbd]
        by_cases hba : b = a
        · rw [hba, del_same, hn]
        · rw [del_ne hba, upd_ne hba, upd_ne hbd, upd_ne hba]⟩⟩
  refine wpAny_call (PySem.HandSPX.call_own F.excBase_ValueError (fun Y => PySem.HandSPX.refsVE_contains Y bm hbm) (I.kIn _ _ hC) (PySem.W.looks_findIn I.kIn T.iC) (fun self => PySem.W.bind_fn I.kIn self T.tI) (by rw [sizeLine_eq]; exact Nat.zero_le _) ?_)
  rw [ea]
  refine codeAny_mono hr fun r s' hq' => ?_
  cases r with
  | error er => exact False.elim hq'
  | ok fl =>
    cases fl with
    | ret u =>
      obtain ⟨v, H2, os2, bare2, un2, hok2, rv, ev, d, ea2, ed, hd1, eH⟩ := hq'
      subst ev
      obtain ⟨h2, g2, d2, t2, os'⟩ := s'
      obtain ⟨t0, G, J, kG, ge, hoe, na⟩ := mk_end0 (d2 := d2) (t2 := t2) I hsz kk un2 hok2 os2 bare2 ea2 ed hd1
      rw [eH] at J na
      refine ⟨rv, ⟨a, _, _, ⟨G, g2, d2, t2, os'⟩, _, .ref C, some d, rfl, J, kG, ge, hoe, ⟨rfl, rfl, fun vs hv => ?_⟩, rfl, rfl, na, rfl, bare2, raises_own T.oex.exC T.oex.tyC, h d hd1⟩, fun a3 oe vs ea3 hg2 hd2 => ?_⟩
      · cases hv
        rfl
      · cases ea3
        have hg3 : h2.get? a = some oe := hg2
        rw [hoe] at hg3
        cases hg3
        cases hd2
        show (4 : Nat) < 6
        decide
    | next => exact False.elim hq'
    | brk => exact False.elim hq'
    | cont => exact False.elim hq'
/-- in the calm -/
theorem pmk_ntC {k : Nat} {fd : FuncData} {ds : List Value} (T : NtCls X.K C fI) (F : FnOk X.prog X.w X.K X.mg X.base CX0 k fI fd ["self", "line"] (spNT C)) (hr : Room (k + 1) X.A) (hb : Binds X.K fd ["self", "line"] ds) (hd : Vals [V.int 0] ds) (hg : Gl X x) (hm : X.mg x = some (.ref C))
    (hdb : (x == ("__debug__" : Str)) = false := by decide) : L2N.PMk X (.Call (.Name x p) [] [] pos) (tMkNT C) :=
  (pmk_nt T hg hm (fun pins σ s H Q a I h => F.run _ X.stack s H ⟨[.ref a], []⟩ (.ref a :: ds) [.ref a, .int 0] Q E0 (hr.make C [] []) (I.env0.make C [] []) (hb s [.ref a] I.kIn (by rw [show [Value.ref a] ++ ds = Value.ref a :: ds from rfl, List.length_cons, ← hd.length] <;> rfl)) (.cons rfl hd) h) hdb).pmk
/-- in an except suite -/
theorem pmk_ntH {k : Nat} {fd : FuncData} {ds : List Value} (T : NtCls X.K C fI) (F : L2H.FnH X.prog X.w X.K X.mg X.base CX0 k fI fd ["self", "line"] (spNT C)) (hr : L2H.RoomH (k + 1) X.A) (hc : L2H.HotC X) (hb : Binds X.K fd ["self", "line"] ds) (hd : Vals [V.int 0] ds) (hg : Gl X x) (hm : X.mg x = some (.ref C))
    (hdb : (x == ("__debug__" : Str)) = false := by decide) : L2H.PMk5 X (.Call (.Name x p) [] [] pos) (tMkNT C) := by
  obtain ⟨pn, hot, hpn⟩ := hc
  refine pmk_nt T hg hm (fun pins σ s H Q a I h => ?_) hdb
  have P1 := I.pin pn (List.mem_append_left _ hpn)
  have hpin : L2H.PinOk X.stack H s pn := ⟨P1.1, P1.2.1, fun hmm => (List.mem_cons.mp (I.stkSub pn.1 hmm)).elim P1.2.2.1 P1.2.2.2.1, P1.2.2.2.2⟩
  exact F.run _ X.stack s H ⟨[.ref a], []⟩ (.ref a :: ds) [.ref a, .int 0] Q E0 pn (hr.make C [] []) ⟨hot.1, hot.2⟩ hpin (I.env0.make C [] []) (hb s [.ref a] I.kIn (by rw [show [Value.ref a] ++ ds = Value.ref a :: ds from rfl, List.length_cons, ← hd.length] <;> rfl)) (.cons rfl hd) h
end
/-- C0.__init__(self, ..), C0 an own class over ValueError that has none of its own: nothing of it is told -/
structure InitOf (K : PySem.W.Frag) (C0 : Addr) : Prop where
  rd : PySem.W.readsIn K C0 (.type "type") = true
  ga : PySem.W.specialIn K (.ref C0) "__getattribute__" = some (some (.builtin "type.__getattribute__"))
  at_ : ∃ r, PySem.W.findCls K (.ref C0) (.type "type") "__init__" = some r ∧ r = .val (.builtin "ValueError.__init__")
theorem pe_ceinit {X : Cx} {x : Str} {C0 : Addr} {e : Expr} {es : List Expr} {ta : TA} {p1 p2 pos : Pos} {pl : Sem Bool} (T0 : InitOf X.K C0) (hg : Gl X x) (hm : X.mg x = some (.ref C0)) (ha : PA X (e :: es) ta) (hdb : (x == ("__debug__" : Str)) = false := by decide)
    (hc : eval (.Call (.Attribute (.Name x p1) "__init__" p2) (e :: es) [] pos) X.env = (do
      let ov ← eval (.Name x p1) X.env
      standAt p2.atName
      let (f, first) ← holding [ov] (getMethod ov "__init__" pl)
      callWith pos f first (backTo pos (starEach (e :: es) X.env)) (backToKw pos (keywordEach [] X.env))) := by rfl)
    (he : starEach (e :: es) X.env = (false, eval e X.env) :: starEach es X.env := by rfl) (hpl : (backTo pos (starEach es X.env)).any (·.1) = false := by rfl) :
    PE X (.Call (.Attribute (.Name x p1) "__init__" p2) (e :: es) [] pos) (tVeI X.K ta) := by
  refine ⟨fun pins s σ H Q I h => ?_⟩
  refine PySem.W.methodCall_KW (ld_glob I hg hm ?_ hdb) hc
  obtain ⟨r, hr, er⟩ := T0.at_
  subst er
  refine PySem.W.method_cls I.kIn T0.ga (PySem.W.cls_value I.kIn T0.rd hr (by decide +kernel) ?_)
  show wpAny _ _ (callWith pos (Value.builtin "ValueError.__init__") [] (backTo pos (starEach (e :: es) X.env)) []) _ _ _
  refine PyProof.Rows.callWith_method1 (thn (ha.run pos pins _ σ H _ (I.tok _) h) fun us s1 ⟨vs, H1, I1, r1, a, C, ws, ev, hl, T, ea, q⟩ => ?_) he hpl
  subst ev
  cases r1 with
  | @cons _ u0 _ ur ra rw' =>
    obtain rfl : u0 = Value.ref a := ra
    have hlen : ur.length ≤ sizeLine := by
      rw [← Paired.length rw', sizeLine_eq]
      omega
    exact oinit_ok T I1 ea hlen fun s' J => ⟨.non, H1, J, rfl, q⟩
end K28

set_option Elab.async false
set_option linter.all false
set_option maxRecDepth 100000
set_option maxHeartbeats 4000000
/-! The row's defs by their places, and what the head tells of them (printed by gen/gentop.py). -/
namespace K28
open PySem PySem.Spec PyProof.Rows L2 He
def topN (i : Nat) : Stmt := PySem.Challenge.pw_cellblocks_k28_whole_numbers_texts_spoil.main.body.getD i (.Pass ⟨0, 0, 0, 0⟩)
abbrev sIsWhole : Stmt := topN 23
abbrev sIsCount : Stmt := topN 24
abbrev sIsCell : Stmt := topN 25
abbrev sCheckedCell : Stmt := topN 26
abbrev sIsEnd : Stmt := topN 35
abbrev sIsRows : Stmt := topN 36
abbrev sIsColumns : Stmt := topN 37
abbrev sByEnds : Stmt := topN 39
abbrev sCountOf : Stmt := topN 43
abbrev sAreMarks : Stmt := topN 48
abbrev sMayBe : Stmt := topN 49
abbrev sFarText : Stmt := topN 51
abbrev sNumbersBeside : Stmt := topN 52
abbrev sCheckedManner : Stmt := topN 53
abbrev sFarOf : Stmt := topN 57
abbrev sEndsIn : Stmt := topN 58
abbrev sReadNumbers : Stmt := topN 59
abbrev sReadName : Stmt := topN 60
abbrev sLawWell : Stmt := topN 63
abbrev sLawDraw : Stmt := topN 64
abbrev sLawWord : Stmt := topN 65
abbrev sLawNumber : Stmt := topN 66
abbrev sLawLast : Stmt := topN 67
abbrev sLawBlock : Stmt := topN 68
abbrev sLawIsRows : Stmt := topN 69
abbrev sLawIsColumns : Stmt := topN 70
abbrev sLawIsCell : Stmt := topN 71
abbrev sLawMarks : Stmt := topN 72
abbrev sLawPut : Stmt := topN 73
abbrev sLawFar : Stmt := topN 74
abbrev sLawInNumbers : Stmt := topN 75
abbrev sLawFigures : Stmt := topN 76
abbrev sLawBase : Stmt := topN 77
abbrev sLawRefused : Stmt := topN 78
abbrev sLawEnd : Stmt := topN 79
abbrev sLawEnds : Stmt := topN 80
abbrev sLawRead : Stmt := topN 81
abbrev sLawBySign : Stmt := topN 82
abbrev sLawDrawn : Stmt := topN 83
abbrev sLawByPart : Stmt := topN 84
abbrev sLaw : Stmt := topN 85
abbrev sBlockInit : Stmt := inClass (topN 40) 0
abbrev sBlockSize : Stmt := inClass (topN 40) 5
abbrev sNameInit : Stmt := inClass (topN 54) 0
abbrev sNameShown : Stmt := inClass (topN 54) 5
abbrev sNoTextInit : Stmt := inClass (topN 18) 0
/-- the function object at f -/
def fdO (K : PySem.W.Frag) (f : Addr) : FuncData := match K.lookup f with
  | some ⟨_, _, .func fd, _⟩ => fd
  | _ => PySem.W.fnOf "" "" { posonlyargs := [], args := [], vararg := none, kwonlyargs := [], kw_defaults := [], kwarg := none, defaults := [] } [] { kind := .function, names := [], isGenerator := false, isCoroutine := false } .none .none .none .none none .none .none
abbrev FnA (K : PySem.W.Frag) (x q : Str) (st : Stmt) (dvs : List V) (f : Addr) : Prop := FunD K x q (defArgs st) (defBody st) (defScope st) dvs [] f (fdO K f)
theorem fnA_of {K : PySem.W.Frag} {x q : Str} {st : Stmt} {dvs : List V} {f : Addr} (h : ∃ fd, FunD K x q (defArgs st) (defBody st) (defScope st) dvs [] f fd) : FnA K x q st dvs f := by
  obtain ⟨fd, F⟩ := h
  have e : fdO K f = fd := by
    obtain ⟨oc, od, dV, kV, doc, pm, an, cdv, ct, osl, e1, lk, _⟩ := F.ex
    unfold fdO
    rw [lk]
  unfold FnA
  rw [e]
  exact F
/-- a def of the module: its function object, its name -/
structure DefAt (K : PySem.W.Frag) (mg : Str → Option Value) (x : Str) (st : Stmt) (dvs : List V) : Prop where
  F : FnA K x x st dvs (ga K x)
  g : mg x = some (.ref (ga K x))
def fn0 : List DefD := [⟨("is_whole", none), "is_whole", "is_whole", defArgs sIsWhole, defBody sIsWhole, defScope sIsWhole, [], []⟩,
  ⟨("is_count", none), "is_count", "is_count", defArgs sIsCount, defBody sIsCount, defScope sIsCount, [], []⟩,
  ⟨("is_cell", none), "is_cell", "is_cell", defArgs sIsCell, defBody sIsCell, defScope sIsCell, [], []⟩,
  ⟨("checked_cell", none), "checked_cell", "checked_cell", defArgs sCheckedCell, defBody sCheckedCell, defScope sCheckedCell, [], []⟩,
  ⟨("is_end", none), "is_end", "is_end", defArgs sIsEnd, defBody sIsEnd, defScope sIsEnd, [], []⟩,
  ⟨("is_rows", none), "is_rows", "is_rows", defArgs sIsRows, defBody sIsRows, defScope sIsRows, [], []⟩,
  ⟨("is_columns", none), "is_columns", "is_columns", defArgs sIsColumns, defBody sIsColumns, defScope sIsColumns, [], []⟩,
  ⟨("by_ends", none), "by_ends", "by_ends", defArgs sByEnds, defBody sByEnds, defScope sByEnds, [], []⟩,
  ⟨("count_of", none), "count_of", "count_of", defArgs sCountOf, defBody sCountOf, defScope sCountOf, [], []⟩,
  ⟨("are_marks", none), "are_marks", "are_marks", defArgs sAreMarks, defBody sAreMarks, defScope sAreMarks, [], []⟩,
  ⟨("may_be", none), "may_be", "may_be", defArgs sMayBe, defBody sMayBe, defScope sMayBe, [], []⟩,
  ⟨("far_text", none), "far_text", "far_text", defArgs sFarText, defBody sFarText, defScope sFarText, [], []⟩]
def fn1 : List DefD := [⟨("numbers_beside", none), "numbers_beside", "numbers_beside", defArgs sNumbersBeside, defBody sNumbersBeside, defScope sNumbersBeside, [], []⟩,
  ⟨("checked_manner", none), "checked_manner", "checked_manner", defArgs sCheckedManner, defBody sCheckedManner, defScope sCheckedManner, [], []⟩,
  ⟨("far_of", none), "far_of", "far_of", defArgs sFarOf, defBody sFarOf, defScope sFarOf, [], []⟩,
  ⟨("ends_in", none), "ends_in", "ends_in", defArgs sEndsIn, defBody sEndsIn, defScope sEndsIn, [], []⟩,
  ⟨("read_numbers", none), "read_numbers", "read_numbers", defArgs sReadNumbers, defBody sReadNumbers, defScope sReadNumbers, [], []⟩,
  ⟨("read_name", none), "read_name", "read_name", defArgs sReadName, defBody sReadName, defScope sReadName, [.str "letters", .non], []⟩,
  ⟨("_law_well", none), "_law_well", "_law_well", defArgs sLawWell, defBody sLawWell, defScope sLawWell, [], []⟩,
  ⟨("_law_draw", none), "_law_draw", "_law_draw", defArgs sLawDraw, defBody sLawDraw, defScope sLawDraw, [], []⟩,
  ⟨("_law_word", none), "_law_word", "_law_word", defArgs sLawWord, defBody sLawWord, defScope sLawWord, [], []⟩,
  ⟨("_law_number", none), "_law_number", "_law_number", defArgs sLawNumber, defBody sLawNumber, defScope sLawNumber, [], []⟩,
  ⟨("_law_last", none), "_law_last", "_law_last", defArgs sLawLast, defBody sLawLast, defScope sLawLast, [], []⟩,
  ⟨("_law_block", none), "_law_block", "_law_block", defArgs sLawBlock, defBody sLawBlock, defScope sLawBlock, [], []⟩]
def fn2 : List DefD := [⟨("_law_is_rows", none), "_law_is_rows", "_law_is_rows", defArgs sLawIsRows, defBody sLawIsRows, defScope sLawIsRows, [], []⟩,
  ⟨("_law_is_columns", none), "_law_is_columns", "_law_is_columns", defArgs sLawIsColumns, defBody sLawIsColumns, defScope sLawIsColumns, [], []⟩,
  ⟨("_law_is_cell", none), "_law_is_cell", "_law_is_cell", defArgs sLawIsCell, defBody sLawIsCell, defScope sLawIsCell, [], []⟩,
  ⟨("_law_marks", none), "_law_marks", "_law_marks", defArgs sLawMarks, defBody sLawMarks, defScope sLawMarks, [], []⟩,
  ⟨("_law_put", none), "_law_put", "_law_put", defArgs sLawPut, defBody sLawPut, defScope sLawPut, [], []⟩,
  ⟨("_law_far", none), "_law_far", "_law_far", defArgs sLawFar, defBody sLawFar, defScope sLawFar, [], []⟩,
  ⟨("_law_in_numbers", none), "_law_in_numbers", "_law_in_numbers", defArgs sLawInNumbers, defBody sLawInNumbers, defScope sLawInNumbers, [], []⟩,
  ⟨("_law_figures", none), "_law_figures", "_law_figures", defArgs sLawFigures, defBody sLawFigures, defScope sLawFigures, [], []⟩,
  ⟨("_law_base", none), "_law_base", "_law_base", defArgs sLawBase, defBody sLawBase, defScope sLawBase, [], []⟩,
  ⟨("_law_refused", none), "_law_refused", "_law_refused", defArgs sLawRefused, defBody sLawRefused, defScope sLawRefused, [], []⟩,
  ⟨("_law_end", none), "_law_end", "_law_end", defArgs sLawEnd, defBody sLawEnd, defScope sLawEnd, [], []⟩,
  ⟨("_law_ends", none), "_law_ends", "_law_ends", defArgs sLawEnds, defBody sLawEnds, defScope sLawEnds, [], []⟩]
def fn3 : List DefD := [⟨("_law_read", none), "_law_read", "_law_read", defArgs sLawRead, defBody sLawRead, defScope sLawRead, [], []⟩,
  ⟨("_law_by_sign", none), "_law_by_sign", "_law_by_sign", defArgs sLawBySign, defBody sLawBySign, defScope sLawBySign, [], []⟩,
  ⟨("_law_drawn", none), "_law_drawn", "_law_drawn", defArgs sLawDrawn, defBody sLawDrawn, defScope sLawDrawn, [], []⟩,
  ⟨("_law_by_part", none), "_law_by_part", "_law_by_part", defArgs sLawByPart, defBody sLawByPart, defScope sLawByPart, [], []⟩,
  ⟨("law", none), "law", "law", defArgs sLaw, defBody sLaw, defScope sLaw, [], []⟩,
  ⟨("Block", some "__init__"), "__init__", "Block.__init__", defArgs sBlockInit, defBody sBlockInit, defScope sBlockInit, [.int 1, .int 1, .non, .non], []⟩,
  ⟨("Block", some "size"), "size", "Block.size", defArgs sBlockSize, defBody sBlockSize, defScope sBlockSize, [], []⟩,
  ⟨("Name", some "__init__"), "__init__", "Name.__init__", defArgs sNameInit, defBody sNameInit, defScope sNameInit, [.non, .non], []⟩,
  ⟨("Name", some "shown"), "shown", "Name.shown", defArgs sNameShown, defBody sNameShown, defScope sNameShown, [.str "letters", .non], []⟩,
  ⟨("NoText", some "__init__"), "__init__", "NoText.__init__", defArgs sNoTextInit, defBody sNoTextInit, defScope sNoTextInit, [.int 0], []⟩]
def fn : List DefD := fn0 ++ fn1 ++ fn2 ++ fn3
def fa0 : List Fa := [.glo "is_whole", .glo "is_count", .glo "is_cell", .glo "checked_cell", .glo "is_end", .glo "is_rows", .glo "is_columns", .glo "by_ends", .glo "count_of", .glo "are_marks", .glo "may_be", .glo "far_text", .glo "numbers_beside", .glo "checked_manner", .glo "far_of", .glo "ends_in", .glo "read_numbers", .glo "read_name", .glo "_law_well", .glo "_law_draw", .glo "_law_word", .glo "_law_number", .glo "_law_last", .glo "_law_block", .glo "_law_is_rows", .glo "_law_is_columns", .glo "_law_is_cell", .glo "_law_marks", .glo "_law_put", .glo "_law_far"]
def fa1 : List Fa := [.glo "_law_in_numbers", .glo "_law_figures", .glo "_law_base", .glo "_law_refused", .glo "_law_end", .glo "_law_ends", .glo "_law_read", .glo "_law_by_sign", .glo "_law_drawn", .glo "_law_by_part", .glo "law", .glo "NoText", .glo "NoBlock", .glo "NoName", .glo "NoCell", .glo "NoColumn", .glo "NoManner", .glo "Gone", .glo "NoNumber", .glo "Endless", .glo "NoArea", .glo "NoChange", .glo "NoOrder", .glo "NoPlace", .glo "NoRow", .glo "NoSheet", .glo "NoValue", .glo "NoWord", .glo "Ring", .glo "Unknown"]
def fa2 : List Fa := [.glo "CellError", .glo "Block", .glo "Name", .glo "MANNERS", .free "isinstance", .free "len", .free "all", .free "str", .free "int", .free "min", .free "max", .free "range", .free "tuple", .free "bool", .free "ValueError", .int "MOST_FIGURES" 12, .str "FIGURES" "0123456789", .cls "Block", .cls "Name", .mkr "Block", .mkr "Name", .meth "Block" "size", .meth "Name" "shown", .exc "NoBlock", .exc "NoName", .exm "NoText" "NoText" true, .noat "NoText" "line", .noat "Block" "top", .noat "Block" "left", .noat "Block" "bottom"]
def fa3 : List Fa := [.noat "Block" "right", .noat "Name" "block", .noat "Name" "rows", .noat "Name" "columns"]
def fa : List Fa := fa0 ++ fa1 ++ fa2 ++ fa3
/-! ### further facts, each a Bool -/
def oexB (K : PySem.W.Frag) (C : Addr) : Bool := match K.lookup C with
  | some ⟨.type c, _, .cls cd, sl⟩ => decide (c = "type") && (match cd.mro, sl.toList with
    | .ref C' :: bm, [_, _, _, _, some (.builtin n), _] => decide (C' = C) && (decide (n = "ValueError.__new__") && (PySem.HandSPX.refsVE bm && (cd.hasDict && !cd.hasDel)))
    | _, _ => false)
  | _ => false
theorem oexB_ok {K : PySem.W.Frag} {C : Addr} (h : oexB K C = true) : ∃ nm q N bs bm sn sub ab col dd k0 k1 k2 k3 k5, K.lookup C = some (excClassObj nm q C N bs bm true sn sub ab col dd k0 k1 k2 k3 k5 "ValueError.__new__") ∧ PySem.HandSPX.refsVE bm = true := by
  unfold oexB at h
  split at h
  · rename_i c dd cd sl lk
    obtain ⟨h1, h2⟩ := ba h
    obtain rfl : c = "type" := of_decide_eq_true h1
    split at h2
    · rename_i C' bm k0 k1 k2 k3 n k5 hm hs
      obtain ⟨h3, h2⟩ := ba h2
      obtain ⟨h4, h2⟩ := ba h2
      obtain ⟨h5, h2⟩ := ba h2
      obtain ⟨h6, h7⟩ := ba h2
      obtain rfl : C' = C := of_decide_eq_true h3
      obtain rfl : n = "ValueError.__new__" := of_decide_eq_true h4
      obtain ⟨nm, bs, mro, ns, qn, hd, sn, sub, ab, col, del⟩ := cd
      dsimp only at hm h6 h7
      subst hm h6
      have hdel : del = false := by
        cases del with
        | false => rfl
        | true => cases h7
      subst hdel
      have hsl : sl = #[k0, k1, k2, k3, some (.builtin "ValueError.__new__"), k5] := by
        obtain ⟨l⟩ := sl
        simp only at hs
        rw [hs]
      subst hsl
      exact ⟨nm, qn, ns, bs, bm, sn, sub, ab, col, dd, k0, k1, k2, k3, k5, lk, h5⟩
    · cases h2
  · cases h
/-- isinstance of an error of the class at C: all of these classes, by name, the answer -/
def isnB (K : PySem.W.Frag) (xs : List (Str × Bool)) : Bool := xs.all fun q => decide (PySem.W.kitOne K (.ref (ga K "NoText")) (.ref (ga K q.1)) = some q.2)
def readB (K : PySem.W.Frag) : Bool := (match PySem.W.findCls K (.ref (ga K "CellError")) (.type "type") "__init__" with
  | some (.val (.builtin x)) => decide (x = "ValueError.__init__")
  | _ => false)
theorem readB_ok {K : PySem.W.Frag} (h : readB K = true) : ∃ r, PySem.W.findCls K (.ref (ga K "CellError")) (.type "type") "__init__" = some r ∧ r = .val (.builtin "ValueError.__init__") := by
  unfold readB at h
  split at h
  · rename_i x e
    rw [of_decide_eq_true h] at e
    exact ⟨_, e, rfl⟩
  · cases h
def insB (K : PySem.W.Frag) (x : Str) : Bool := eqO (PySem.W.findIn K (.ref (ga K x)) "__class__") (some (some (.builtin "object.__class__"))) && (eqO (PySem.W.specialIn K (.builtin "object.__class__") "__get__") (some (some (.builtin "getset_descriptor.__get__"))) &&
  (decide (PySem.W.takesIn K (.builtin "object.__class__") = some true) && decide (PySem.W.mroIn K (ga K x) (.type "object") = some true)))
def isnL : List (Str × Bool) := [("NoText", true), ("NoCell", false), ("NoColumn", false), ("NoBlock", false), ("NoName", false), ("NoManner", false), ("Gone", false), ("NoNumber", false), ("Endless", false), ("NoArea", false), ("NoChange", false), ("NoOrder", false), ("NoPlace", false), ("NoRow", false), ("NoSheet", false), ("NoValue", false), ("NoWord", false), ("Ring", false), ("Unknown", false)]
def xs : List (PySem.W.Frag → Bool) := [
  fun K => oexB K (ga K "NoText"),
  fun K => eqO (PySem.W.findIn K (.ref (ga K "NoText")) "__setattr__") (some (some (.builtin "object.__setattr__"))),
  fun K => decide (PySem.W.subIn K (.ref (ga K "NoText")) (.type "BaseException") = some true),
  fun K => decide (PySem.W.typeIn K (.ref (ga K "NoText")) = some (.type "type")),
  fun K => PySem.W.keepIn K (.ref (ga K "NoText")),
  fun K => eqO (PySem.W.findIn K (.ref (ga K "NoText")) "__init__") (some (some (.ref (ma K (ga K "NoText") "__init__")))),
  fun K => decide (PySem.W.typeIn K (.ref (ma K (ga K "NoText") "__init__")) = some (.type "function")),
  fun K => PySem.W.readsIn K (ga K "CellError") (.type "type"),
  fun K => eqO (PySem.W.specialIn K (.ref (ga K "CellError")) "__getattribute__") (some (some (.builtin "type.__getattribute__"))),
  readB,
  fun K => xfB K (ga K "NoText"),
  fun K => insB K "NoText",
  fun K => insB K "Name",
  fun K => insB K "Block",
  fun K => isnB K isnL,
  fun K => decide (PySem.W.kitOne K (.ref (ga K "NoText")) (.type "ValueError") = some true),
  fun K => decide (PySem.W.kitOne K (.ref (ga K "Name")) (.type "str") = some false),
  fun K => decide (PySem.W.exmAny K (.ref (ga K "NoText")) [.ref (ga K "NoBlock"), .ref (ga K "NoName")] = some false),
  fun K => decide (PySem.W.exmAny K (.ref (ga K "NoBlock")) [.ref (ga K "NoBlock"), .ref (ga K "NoName")] = some true),
  fun K => decide (PySem.W.exmAny K (.ref (ga K "NoName")) [.ref (ga K "NoBlock"), .ref (ga K "NoName")] = some true),
  fun K => tupB K "MANNERS" [.str "letters", .str "numbers"],
  fun K => (PySem.W.clsIn K (ga K "NoText")).isSome]
def xsOk (K : PySem.W.Frag) : Bool := xs.all fun f => f K
/-! ### what the walk leans on -/
structure Top (K : PySem.W.Frag) (mg : Str → Option Value) : Prop where
  dIsWhole : DefAt K mg "is_whole" sIsWhole []
  dIsCount : DefAt K mg "is_count" sIsCount []
  dIsCell : DefAt K mg "is_cell" sIsCell []
  dCheckedCell : DefAt K mg "checked_cell" sCheckedCell []
  dIsEnd : DefAt K mg "is_end" sIsEnd []
  dIsRows : DefAt K mg "is_rows" sIsRows []
  dIsColumns : DefAt K mg "is_columns" sIsColumns []
  dByEnds : DefAt K mg "by_ends" sByEnds []
  dCountOf : DefAt K mg "count_of" sCountOf []
  dAreMarks : DefAt K mg "are_marks" sAreMarks []
  dMayBe : DefAt K mg "may_be" sMayBe []
  dFarText : DefAt K mg "far_text" sFarText []
  dNumbersBeside : DefAt K mg "numbers_beside" sNumbersBeside []
  dCheckedManner : DefAt K mg "checked_manner" sCheckedManner []
  dFarOf : DefAt K mg "far_of" sFarOf []
  dEndsIn : DefAt K mg "ends_in" sEndsIn []
  dReadNumbers : DefAt K mg "read_numbers" sReadNumbers []
  dReadName : DefAt K mg "read_name" sReadName [V.str "letters", V.non]
  dLawWell : DefAt K mg "_law_well" sLawWell []
  dLawDraw : DefAt K mg "_law_draw" sLawDraw []
  dLawWord : DefAt K mg "_law_word" sLawWord []
  dLawNumber : DefAt K mg "_law_number" sLawNumber []
  dLawLast : DefAt K mg "_law_last" sLawLast []
  dLawBlock : DefAt K mg "_law_block" sLawBlock []
  dLawIsRows : DefAt K mg "_law_is_rows" sLawIsRows []
  dLawIsColumns : DefAt K mg "_law_is_columns" sLawIsColumns []
  dLawIsCell : DefAt K mg "_law_is_cell" sLawIsCell []
  dLawMarks : DefAt K mg "_law_marks" sLawMarks []
  dLawPut : DefAt K mg "_law_put" sLawPut []
  dLawFar : DefAt K mg "_law_far" sLawFar []
  dLawInNumbers : DefAt K mg "_law_in_numbers" sLawInNumbers []
  dLawFigures : DefAt K mg "_law_figures" sLawFigures []
  dLawBase : DefAt K mg "_law_base" sLawBase []
  dLawRefused : DefAt K mg "_law_refused" sLawRefused []
  dLawEnd : DefAt K mg "_law_end" sLawEnd []
  dLawEnds : DefAt K mg "_law_ends" sLawEnds []
  dLawRead : DefAt K mg "_law_read" sLawRead []
  dLawBySign : DefAt K mg "_law_by_sign" sLawBySign []
  dLawDrawn : DefAt K mg "_law_drawn" sLawDrawn []
  dLawByPart : DefAt K mg "_law_by_part" sLawByPart []
  dLaw : DefAt K mg "law" sLaw []
  mBlockInit : FnA K "__init__" "Block.__init__" sBlockInit [V.int 1, V.int 1, V.non, V.non] (ma K (ga K "Block") "__init__")
  mBlockSize : FnA K "size" "Block.size" sBlockSize [] (ma K (ga K "Block") "size")
  mNameInit : FnA K "__init__" "Name.__init__" sNameInit [V.non, V.non] (ma K (ga K "Name") "__init__")
  mNameShown : FnA K "shown" "Name.shown" sNameShown [V.str "letters", V.non] (ma K (ga K "Name") "shown")
  mNoTextInit : FnA K "__init__" "NoText.__init__" sNoTextInit [V.int 0] (ma K (ga K "NoText") "__init__")
  gNoText : mg "NoText" = some (.ref (ga K "NoText"))
  gNoBlock : mg "NoBlock" = some (.ref (ga K "NoBlock"))
  gNoName : mg "NoName" = some (.ref (ga K "NoName"))
  gNoCell : mg "NoCell" = some (.ref (ga K "NoCell"))
  gNoColumn : mg "NoColumn" = some (.ref (ga K "NoColumn"))
  gNoManner : mg "NoManner" = some (.ref (ga K "NoManner"))
  gGone : mg "Gone" = some (.ref (ga K "Gone"))
  gNoNumber : mg "NoNumber" = some (.ref (ga K "NoNumber"))
  gEndless : mg "Endless" = some (.ref (ga K "Endless"))
  gNoArea : mg "NoArea" = some (.ref (ga K "NoArea"))
  gNoChange : mg "NoChange" = some (.ref (ga K "NoChange"))
  gNoOrder : mg "NoOrder" = some (.ref (ga K "NoOrder"))
  gNoPlace : mg "NoPlace" = some (.ref (ga K "NoPlace"))
  gNoRow : mg "NoRow" = some (.ref (ga K "NoRow"))
  gNoSheet : mg "NoSheet" = some (.ref (ga K "NoSheet"))
  gNoValue : mg "NoValue" = some (.ref (ga K "NoValue"))
  gNoWord : mg "NoWord" = some (.ref (ga K "NoWord"))
  gRing : mg "Ring" = some (.ref (ga K "Ring"))
  gUnknown : mg "Unknown" = some (.ref (ga K "Unknown"))
  gCellError : mg "CellError" = some (.ref (ga K "CellError"))
  gBlock : mg "Block" = some (.ref (ga K "Block"))
  gName : mg "Name" = some (.ref (ga K "Name"))
  gMANNERS : mg "MANNERS" = some (.ref (ga K "MANNERS"))
  zIsinstance : mg "isinstance" = none
  zLen : mg "len" = none
  zAll : mg "all" = none
  zStr : mg "str" = none
  zInt : mg "int" = none
  zMin : mg "min" = none
  zMax : mg "max" = none
  zRange : mg "range" = none
  zTuple : mg "tuple" = none
  zBool : mg "bool" = none
  zValueerror : mg "ValueError" = none
  mostF : ∃ t, mg "MOST_FIGURES" = some (.int 12 t)
  figs : ∃ t, mg "FIGURES" = some (.str "0123456789" t)
  cBlock : Cls K (ga K "Block")
  cName : Cls K (ga K "Name")
  mkBlock : Mk K (ga K "Block") (ma K (ga K "Block") "__init__")
  mkName : Mk K (ga K "Name") (ma K (ga K "Name") "__init__")
  meSize : Meth K (ga K "Block") "size" (ma K (ga K "Block") "size")
  meShown : Meth K (ga K "Name") "shown" (ma K (ga K "Name") "shown")
  excB : (Fa.exc "NoBlock").ok K = true
  excN : (Fa.exc "NoName").ok K = true
  exmT : PySem.W.exmOne K (.ref (ga K "NoText")) (.ref (ga K "NoText")) = some true
  noLine : PySem.W.findIn K (.ref (ga K "NoText")) "line" = some none
  nTop : NoAttr K (ga K "Block") "top"
  nLeft : NoAttr K (ga K "Block") "left"
  nBottom : NoAttr K (ga K "Block") "bottom"
  nRight : NoAttr K (ga K "Block") "right"
  nBlock : NoAttr K (ga K "Name") "block"
  nRows : NoAttr K (ga K "Name") "rows"
  nColumns : NoAttr K (ga K "Name") "columns"
  nt : NtCls K (ga K "NoText") (ma K (ga K "NoText") "__init__")
  ce : InitOf K (ga K "CellError")
  xf : XfC K (ga K "NoText")
  ek : ExcK K (ga K "NoText")
  inN : insB K "Name" = true
  inB : insB K "Block" = true
  isn : isnB K isnL = true
  isVE : PySem.W.kitOne K (.ref (ga K "NoText")) (.type "ValueError") = some true
  isNs : PySem.W.kitOne K (.ref (ga K "Name")) (.type "str") = some false
  anyT : PySem.W.exmAny K (.ref (ga K "NoText")) [.ref (ga K "NoBlock"), .ref (ga K "NoName")] = some false
  anyB : PySem.W.exmAny K (.ref (ga K "NoBlock")) [.ref (ga K "NoBlock"), .ref (ga K "NoName")] = some true
  anyN : PySem.W.exmAny K (.ref (ga K "NoName")) [.ref (ga K "NoBlock"), .ref (ga K "NoName")] = some true
  manners : ∀ H : Hp, SqT K H (ga K "MANNERS") [V.str "letters", V.str "numbers"]
/-! ### the Hook -/
/-- the objects that the facts speak of: the module's names, the classes and their names, the defs, their code and defaults (the addresses were asked of the run) -/
def asK : List Addr := [3, 2, 232, 231, 68, 67, 104, 103, 31, 30, 418, 417, 551, 550, 44, 43, 56, 55, 116, 115, 252, 251, 92, 91, 164, 163, 80, 79, 128, 127, 152, 151, 176, 175, 212, 211, 200, 199, 188, 187, 140, 139, 290, 289, 271, 270, 382, 381, 375, 415, 414, 513, 512, 506, 548, 547, 543, 229, 228, 222, 458, 299, 298, 306, 305, 311, 310, 318, 317, 339, 338, 346, 345, 353, 352, 367, 366, 443, 442, 463, 462, 470, 469, 484, 483, 491, 490, 498, 497, 576, 575, 583, 582, 590, 589, 598, 597, 591, 612, 611, 619, 618, 624, 623, 631, 630, 638, 637, 645, 644, 652, 651, 659, 658, 666, 665, 671, 670, 678, 677, 685, 684, 690, 689, 695, 694, 702, 701, 709, 708, 716, 715, 723, 722, 728, 727, 735, 734, 742, 741, 749, 748, 756, 755]
def frX (g : Addr → Option Obj) : PySem.W.Frag := frG g asK
def obsX (K : PySem.W.Frag) : AlD × Bool := (obsD fa fn K, xsOk K)
def hookX : PySem.W.Hook where
  α := AlD × Bool
  obs := fun s => obsX (frX s.heap.get?)
  val := fun _ => (valD fn, true)
  says := fun _ h => ∃ K : PySem.W.Frag, K.In h ∧ obsX K = (valD fn, true)
  of := fun _ _ e => ⟨_, frG_in, e⟩
  keeps := fun _ _ _ ⟨K, hK, c⟩ k => ⟨K, PySem.W.Frag.In.keeps hK k, c⟩
def obX (s : PySem.W.SharedT) : AlD × Bool := obsX (frX (HandSHeadRun.getT s))
theorem obX_eq (s : PySem.W.SharedT) : obX s = hookX.obs s.abs := by
  have e : HandSHeadRun.getT s = s.abs.heap.get? := funext (HandSHeadRun.getT_eq s)
  unfold obX
  rw [e]
  rfl
theorem top_of {K : PySem.W.Frag} {h : Heap} {mg : Str → Option Value} (X : K.In h) (G : h.Ns mainGlobals mg) (c : obsX K = (valD fn, true)) : Top K mg := by
  have cd : SaysD fa fn K := congrArg (fun z : AlD × Bool => z.1) c
  have cx : xsOk K = true := congrArg (fun z : AlD × Bool => z.2) c
  have fx : ∀ (i : Nat) {f : PySem.W.Frag → Bool}, xs[i]? = some f → f K = true := fun i {f} e => List.all_eq_true.mp cx f (List.mem_of_getElem? e)
  have x11 := fx 11 rfl
  obtain ⟨y1, x11⟩ := ba x11
  obtain ⟨y2, x11⟩ := ba x11
  obtain ⟨y3, y4⟩ := ba x11
  exact {
    dIsWhole := ⟨fnA_of (cd.def_ 0 (d := ⟨("is_whole", none), "is_whole", "is_whole", defArgs sIsWhole, defBody sIsWhole, defScope sIsWhole, [], []⟩) rfl), glo_ok X G (cd.fact 0 (f := .glo "is_whole") rfl)⟩
    dIsCount := ⟨fnA_of (cd.def_ 1 (d := ⟨("is_count", none), "is_count", "is_count", defArgs sIsCount, defBody sIsCount, defScope sIsCount, [], []⟩) rfl), glo_ok X G (cd.fact 1 (f := .glo "is_count") rfl)⟩
    dIsCell := ⟨fnA_of (cd.def_ 2 (d := ⟨("is_cell", none), "is_cell", "is_cell", defArgs sIsCell, defBody sIsCell, defScope sIsCell, [], []⟩) rfl), glo_ok X G (cd.fact 2 (f := .glo "is_cell") rfl)⟩
    dCheckedCell := ⟨fnA_of (cd.def_ 3 (d := ⟨("checked_cell", none), "checked_cell", "checked_cell", defArgs sCheckedCell, defBody sCheckedCell, defScope sCheckedCell, [], []⟩) rfl), glo_ok X G (cd.fact 3 (f := .glo "checked_cell") rfl)⟩
    dIsEnd := ⟨fnA_of (cd.def_ 4 (d := ⟨("is_end", none), "is_end", "is_end", defArgs sIsEnd, defBody sIsEnd, defScope sIsEnd, [], []⟩) rfl), glo_ok X G (cd.fact 4 (f := .glo "is_end") rfl)⟩
    dIsRows := ⟨fnA_of (cd.def_ 5 (d := ⟨("is_rows", none), "is_rows", "is_rows", defArgs sIsRows, defBody sIsRows, defScope sIsRows, [], []⟩) rfl), glo_ok X G (cd.fact 5 (f := .glo "is_rows") rfl)⟩
    dIsColumns := ⟨fnA_of (cd.def_ 6 (d := ⟨("is_columns", none), "is_columns", "is_columns", defArgs sIsColumns, defBody sIsColumns, defScope sIsColumns, [], []⟩) rfl), glo_ok X G (cd.fact 6 (f := .glo "is_columns") rfl)⟩
    dByEnds := ⟨fnA_of (cd.def_ 7 (d := ⟨("by_ends", none), "by_ends", "by_ends", defArgs sByEnds, defBody sByEnds, defScope sByEnds, [], []⟩) rfl), glo_ok X G (cd.fact 7 (f := .glo "by_ends") rfl)⟩
    dCountOf := ⟨fnA_of (cd.def_ 8 (d := ⟨("count_of", none), "count_of", "count_of", defArgs sCountOf, defBody sCountOf, defScope sCountOf, [], []⟩) rfl), glo_ok X G (cd.fact 8 (f := .glo "count_of") rfl)⟩
    dAreMarks := ⟨fnA_of (cd.def_ 9 (d := ⟨("are_marks", none), "are_marks", "are_marks", defArgs sAreMarks, defBody sAreMarks, defScope sAreMarks, [], []⟩) rfl), glo_ok X G (cd.fact 9 (f := .glo "are_marks") rfl)⟩
    dMayBe := ⟨fnA_of (cd.def_ 10 (d := ⟨("may_be", none), "may_be", "may_be", defArgs sMayBe, defBody sMayBe, defScope sMayBe, [], []⟩) rfl), glo_ok X G (cd.fact 10 (f := .glo "may_be") rfl)⟩
    dFarText := ⟨fnA_of (cd.def_ 11 (d := ⟨("far_text", none), "far_text", "far_text", defArgs sFarText, defBody sFarText, defScope sFarText, [], []⟩) rfl), glo_ok X G (cd.fact 11 (f := .glo "far_text") rfl)⟩
    dNumbersBeside := ⟨fnA_of (cd.def_ 12 (d := ⟨("numbers_beside", none), "numbers_beside", "numbers_beside", defArgs sNumbersBeside, defBody sNumbersBeside, defScope sNumbersBeside, [], []⟩) rfl), glo_ok X G (cd.fact 12 (f := .glo "numbers_beside") rfl)⟩
    dCheckedManner := ⟨fnA_of (cd.def_ 13 (d := ⟨("checked_manner", none), "checked_manner", "checked_manner", defArgs sCheckedManner, defBody sCheckedManner, defScope sCheckedManner, [], []⟩) rfl), glo_ok X G (cd.fact 13 (f := .glo "checked_manner") rfl)⟩
    dFarOf := ⟨fnA_of (cd.def_ 14 (d := ⟨("far_of", none), "far_of", "far_of", defArgs sFarOf, defBody sFarOf, defScope sFarOf, [], []⟩) rfl), glo_ok X G (cd.fact 14 (f := .glo "far_of") rfl)⟩
    dEndsIn := ⟨fnA_of (cd.def_ 15 (d := ⟨("ends_in", none), "ends_in", "ends_in", defArgs sEndsIn, defBody sEndsIn, defScope sEndsIn, [], []⟩) rfl), glo_ok X G (cd.fact 15 (f := .glo "ends_in") rfl)⟩
    dReadNumbers := ⟨fnA_of (cd.def_ 16 (d := ⟨("read_numbers", none), "read_numbers", "read_numbers", defArgs sReadNumbers, defBody sReadNumbers, defScope sReadNumbers, [], []⟩) rfl), glo_ok X G (cd.fact 16 (f := .glo "read_numbers") rfl)⟩
    dReadName := ⟨fnA_of (cd.def_ 17 (d := ⟨("read_name", none), "read_name", "read_name", defArgs sReadName, defBody sReadName, defScope sReadName, [.str "letters", .non], []⟩) rfl), glo_ok X G (cd.fact 17 (f := .glo "read_name") rfl)⟩
    dLawWell := ⟨fnA_of (cd.def_ 18 (d := ⟨("_law_well", none), "_law_well", "_law_well", defArgs sLawWell, defBody sLawWell, defScope sLawWell, [], []⟩) rfl), glo_ok X G (cd.fact 18 (f := .glo "_law_well") rfl)⟩
    dLawDraw := ⟨fnA_of (cd.def_ 19 (d := ⟨("_law_draw", none), "_law_draw", "_law_draw", defArgs sLawDraw, defBody sLawDraw, defScope sLawDraw, [], []⟩) rfl), glo_ok X G (cd.fact 19 (f := .glo "_law_draw") rfl)⟩
    dLawWord := ⟨fnA_of (cd.def_ 20 (d := ⟨("_law_word", none), "_law_word", "_law_word", defArgs sLawWord, defBody sLawWord, defScope sLawWord, [], []⟩) rfl), glo_ok X G (cd.fact 20 (f := .glo "_law_word") rfl)⟩
    dLawNumber := ⟨fnA_of (cd.def_ 21 (d := ⟨("_law_number", none), "_law_number", "_law_number", defArgs sLawNumber, defBody sLawNumber, defScope sLawNumber, [], []⟩) rfl), glo_ok X G (cd.fact 21 (f := .glo "_law_number") rfl)⟩
    dLawLast := ⟨fnA_of (cd.def_ 22 (d := ⟨("_law_last", none), "_law_last", "_law_last", defArgs sLawLast, defBody sLawLast, defScope sLawLast, [], []⟩) rfl), glo_ok X G (cd.fact 22 (f := .glo "_law_last") rfl)⟩
    dLawBlock := ⟨fnA_of (cd.def_ 23 (d := ⟨("_law_block", none), "_law_block", "_law_block", defArgs sLawBlock, defBody sLawBlock, defScope sLawBlock, [], []⟩) rfl), glo_ok X G (cd.fact 23 (f := .glo "_law_block") rfl)⟩
    dLawIsRows := ⟨fnA_of (cd.def_ 24 (d := ⟨("_law_is_rows", none), "_law_is_rows", "_law_is_rows", defArgs sLawIsRows, defBody sLawIsRows, defScope sLawIsRows, [], []⟩) rfl), glo_ok X G (cd.fact 24 (f := .glo "_law_is_rows") rfl)⟩
    dLawIsColumns := ⟨fnA_of (cd.def_ 25 (d := ⟨("_law_is_columns", none), "_law_is_columns", "_law_is_columns", defArgs sLawIsColumns, defBody sLawIsColumns, defScope sLawIsColumns, [], []⟩) rfl), glo_ok X G (cd.fact 25 (f := .glo "_law_is_columns") rfl)⟩
    dLawIsCell := ⟨fnA_of (cd.def_ 26 (d := ⟨("_law_is_cell", none), "_law_is_cell", "_law_is_cell", defArgs sLawIsCell, defBody sLawIsCell, defScope sLawIsCell, [], []⟩) rfl), glo_ok X G (cd.fact 26 (f := .glo "_law_is_cell") rfl)⟩
    dLawMarks := ⟨fnA_of (cd.def_ 27 (d := ⟨("_law_marks", none), "_law_marks", "_law_marks", defArgs sLawMarks, defBody sLawMarks, defScope sLawMarks, [], []⟩) rfl), glo_ok X G (cd.fact 27 (f := .glo "_law_marks") rfl)⟩
    dLawPut := ⟨fnA_of (cd.def_ 28 (d := ⟨("_law_put", none), "_law_put", "_law_put", defArgs sLawPut, defBody sLawPut, defScope sLawPut, [], []⟩) rfl), glo_ok X G (cd.fact 28 (f := .glo "_law_put") rfl)⟩
    dLawFar := ⟨fnA_of (cd.def_ 29 (d := ⟨("_law_far", none), "_law_far", "_law_far", defArgs sLawFar, defBody sLawFar, defScope sLawFar, [], []⟩) rfl), glo_ok X G (cd.fact 29 (f := .glo "_law_far") rfl)⟩
    dLawInNumbers := ⟨fnA_of (cd.def_ 30 (d := ⟨("_law_in_numbers", none), "_law_in_numbers", "_law_in_numbers", defArgs sLawInNumbers, defBody sLawInNumbers, defScope sLawInNumbers, [], []⟩) rfl), glo_ok X G (cd.fact 30 (f := .glo "_law_in_numbers") rfl)⟩
    dLawFigures := ⟨fnA_of (cd.def_ 31 (d := ⟨("_law_figures", none), "_law_figures", "_law_figures", defArgs sLawFigures, defBody sLawFigures, defScope sLawFigures, [], []⟩) rfl), glo_ok X G (cd.fact 31 (f := .glo "_law_figures") rfl)⟩
    dLawBase := ⟨fnA_of (cd.def_ 32 (d := ⟨("_law_base", none), "_law_base", "_law_base", defArgs sLawBase, defBody sLawBase, defScope sLawBase, [], []⟩) rfl), glo_ok X G (cd.fact 32 (f := .glo "_law_base") rfl)⟩
    dLawRefused := ⟨fnA_of (cd.def_ 33 (d := ⟨("_law_refused", none), "_law_refused", "_law_refused", defArgs sLawRefused, defBody sLawRefused, defScope sLawRefused, [], []⟩) rfl), glo_ok X G (cd.fact 33 (f := .glo "_law_refused") rfl)⟩
    dLawEnd := ⟨fnA_of (cd.def_ 34 (d := ⟨("_law_end", none), "_law_end", "_law_end", defArgs sLawEnd, defBody sLawEnd, defScope sLawEnd, [], []⟩) rfl), glo_ok X G (cd.fact 34 (f := .glo "_law_end") rfl)⟩
    dLawEnds := ⟨fnA_of (cd.def_ 35 (d := ⟨("_law_ends", none), "_law_ends", "_law_ends", defArgs sLawEnds, defBody sLawEnds, defScope sLawEnds, [], []⟩) rfl), glo_ok X G (cd.fact 35 (f := .glo "_law_ends") rfl)⟩
    dLawRead := ⟨fnA_of (cd.def_ 36 (d := ⟨("_law_read", none), "_law_read", "_law_read", defArgs sLawRead, defBody sLawRead, defScope sLawRead, [], []⟩) rfl), glo_ok X G (cd.fact 36 (f := .glo "_law_read") rfl)⟩
    dLawBySign := ⟨fnA_of (cd.def_ 37 (d := ⟨("_law_by_sign", none), "_law_by_sign", "_law_by_sign", defArgs sLawBySign, defBody sLawBySign, defScope sLawBySign, [], []⟩) rfl), glo_ok X G (cd.fact 37 (f := .glo "_law_by_sign") rfl)⟩
    dLawDrawn := ⟨fnA_of (cd.def_ 38 (d := ⟨("_law_drawn", none), "_law_drawn", "_law_drawn", defArgs sLawDrawn, defBody sLawDrawn, defScope sLawDrawn, [], []⟩) rfl), glo_ok X G (cd.fact 38 (f := .glo "_law_drawn") rfl)⟩
    dLawByPart := ⟨fnA_of (cd.def_ 39 (d := ⟨("_law_by_part", none), "_law_by_part", "_law_by_part", defArgs sLawByPart, defBody sLawByPart, defScope sLawByPart, [], []⟩) rfl), glo_ok X G (cd.fact 39 (f := .glo "_law_by_part") rfl)⟩
    dLaw := ⟨fnA_of (cd.def_ 40 (d := ⟨("law", none), "law", "law", defArgs sLaw, defBody sLaw, defScope sLaw, [], []⟩) rfl), glo_ok X G (cd.fact 40 (f := .glo "law") rfl)⟩
    mBlockInit := fnA_of (cd.def_ 41 (d := ⟨("Block", some "__init__"), "__init__", "Block.__init__", defArgs sBlockInit, defBody sBlockInit, defScope sBlockInit, [.int 1, .int 1, .non, .non], []⟩) rfl)
    mBlockSize := fnA_of (cd.def_ 42 (d := ⟨("Block", some "size"), "size", "Block.size", defArgs sBlockSize, defBody sBlockSize, defScope sBlockSize, [], []⟩) rfl)
    mNameInit := fnA_of (cd.def_ 43 (d := ⟨("Name", some "__init__"), "__init__", "Name.__init__", defArgs sNameInit, defBody sNameInit, defScope sNameInit, [.non, .non], []⟩) rfl)
    mNameShown := fnA_of (cd.def_ 44 (d := ⟨("Name", some "shown"), "shown", "Name.shown", defArgs sNameShown, defBody sNameShown, defScope sNameShown, [.str "letters", .non], []⟩) rfl)
    mNoTextInit := fnA_of (cd.def_ 45 (d := ⟨("NoText", some "__init__"), "__init__", "NoText.__init__", defArgs sNoTextInit, defBody sNoTextInit, defScope sNoTextInit, [.int 0], []⟩) rfl)
    gNoText := glo_ok X G (cd.fact 41 (f := .glo "NoText") rfl)
    gNoBlock := glo_ok X G (cd.fact 42 (f := .glo "NoBlock") rfl)
    gNoName := glo_ok X G (cd.fact 43 (f := .glo "NoName") rfl)
    gNoCell := glo_ok X G (cd.fact 44 (f := .glo "NoCell") rfl)
    gNoColumn := glo_ok X G (cd.fact 45 (f := .glo "NoColumn") rfl)
    gNoManner := glo_ok X G (cd.fact 46 (f := .glo "NoManner") rfl)
    gGone := glo_ok X G (cd.fact 47 (f := .glo "Gone") rfl)
    gNoNumber := glo_ok X G (cd.fact 48 (f := .glo "NoNumber") rfl)
    gEndless := glo_ok X G (cd.fact 49 (f := .glo "Endless") rfl)
    gNoArea := glo_ok X G (cd.fact 50 (f := .glo "NoArea") rfl)
    gNoChange := glo_ok X G (cd.fact 51 (f := .glo "NoChange") rfl)
    gNoOrder := glo_ok X G (cd.fact 52 (f := .glo "NoOrder") rfl)
    gNoPlace := glo_ok X G (cd.fact 53 (f := .glo "NoPlace") rfl)
    gNoRow := glo_ok X G (cd.fact 54 (f := .glo "NoRow") rfl)
    gNoSheet := glo_ok X G (cd.fact 55 (f := .glo "NoSheet") rfl)
    gNoValue := glo_ok X G (cd.fact 56 (f := .glo "NoValue") rfl)
    gNoWord := glo_ok X G (cd.fact 57 (f := .glo "NoWord") rfl)
    gRing := glo_ok X G (cd.fact 58 (f := .glo "Ring") rfl)
    gUnknown := glo_ok X G (cd.fact 59 (f := .glo "Unknown") rfl)
    gCellError := glo_ok X G (cd.fact 60 (f := .glo "CellError") rfl)
    gBlock := glo_ok X G (cd.fact 61 (f := .glo "Block") rfl)
    gName := glo_ok X G (cd.fact 62 (f := .glo "Name") rfl)
    gMANNERS := glo_ok X G (cd.fact 63 (f := .glo "MANNERS") rfl)
    zIsinstance := free_ok X G (cd.fact 64 (f := .free "isinstance") rfl)
    zLen := free_ok X G (cd.fact 65 (f := .free "len") rfl)
    zAll := free_ok X G (cd.fact 66 (f := .free "all") rfl)
    zStr := free_ok X G (cd.fact 67 (f := .free "str") rfl)
    zInt := free_ok X G (cd.fact 68 (f := .free "int") rfl)
    zMin := free_ok X G (cd.fact 69 (f := .free "min") rfl)
    zMax := free_ok X G (cd.fact 70 (f := .free "max") rfl)
    zRange := free_ok X G (cd.fact 71 (f := .free "range") rfl)
    zTuple := free_ok X G (cd.fact 72 (f := .free "tuple") rfl)
    zBool := free_ok X G (cd.fact 73 (f := .free "bool") rfl)
    zValueerror := free_ok X G (cd.fact 74 (f := .free "ValueError") rfl)
    mostF := int_ok X G (cd.fact 75 (f := .int "MOST_FIGURES" 12) rfl)
    figs := str_ok X G (cd.fact 76 (f := .str "FIGURES" "0123456789") rfl)
    cBlock := cls_ok (cd.fact 77 (f := .cls "Block") rfl)
    cName := cls_ok (cd.fact 78 (f := .cls "Name") rfl)
    mkBlock := mkr_ok (cd.fact 79 (f := .mkr "Block") rfl)
    mkName := mkr_ok (cd.fact 80 (f := .mkr "Name") rfl)
    meSize := meth_ok (cd.fact 81 (f := .meth "Block" "size") rfl)
    meShown := meth_ok (cd.fact 82 (f := .meth "Name" "shown") rfl)
    excB := (cd.fact 83 (f := .exc "NoBlock") rfl)
    excN := (cd.fact 84 (f := .exc "NoName") rfl)
    exmT := exm_ok (cd.fact 85 (f := .exm "NoText" "NoText" true) rfl)
    noLine := noat_ok (cd.fact 86 (f := .noat "NoText" "line") rfl)
    nTop := noat_ok (cd.fact 87 (f := .noat "Block" "top") rfl)
    nLeft := noat_ok (cd.fact 88 (f := .noat "Block" "left") rfl)
    nBottom := noat_ok (cd.fact 89 (f := .noat "Block" "bottom") rfl)
    nRight := noat_ok (cd.fact 90 (f := .noat "Block" "right") rfl)
    nBlock := noat_ok (cd.fact 91 (f := .noat "Name" "block") rfl)
    nRows := noat_ok (cd.fact 92 (f := .noat "Name" "rows") rfl)
    nColumns := noat_ok (cd.fact 93 (f := .noat "Name" "columns") rfl)
    nt := ⟨⟨oexB_ok (fx 0 rfl), eqO_ok (fx 1 rfl), of_decide_eq_true (fx 2 rfl), of_decide_eq_true (fx 3 rfl), fx 4 rfl⟩, eqO_ok (fx 5 rfl), of_decide_eq_true (fx 6 rfl)⟩
    ce := ⟨fx 7 rfl, eqO_ok (fx 8 rfl), readB_ok (fx 9 rfl)⟩
    xf := xfB_ok (fx 10 rfl)
    ek := ⟨fx 21 rfl, (xfB_ok (fx 10 rfl)).ga, (xfB_ok (fx 10 rfl)).gg, (xfB_ok (fx 10 rfl)).exC, eqO_ok y1, eqO_ok y2, of_decide_eq_true y3, of_decide_eq_true y4⟩
    inN := fx 12 rfl
    inB := fx 13 rfl
    isn := fx 14 rfl
    isVE := of_decide_eq_true (fx 15 rfl)
    isNs := of_decide_eq_true (fx 16 rfl)
    anyT := of_decide_eq_true (fx 17 rfl)
    anyB := of_decide_eq_true (fx 18 rfl)
    anyN := of_decide_eq_true (fx 19 rfl)
    manners := fun H => tupB_ok (fx 20 rfl) H }
/-! ### the names that the view leaves out -/
def names0 : List PySem.Str := ["_wall", "CellError", "NoCell", "NoColumn", "NoBlock", "NoArea", "NoNumber", "NoName", "NoManner", "NoChange", "NoWord", "NoOrder", "Endless", "NoPlace", "NoValue", "NoSheet", "NoRow", "NoText", "Gone", "Unknown", "Ring", "is_whole", "is_count", "is_cell", "checked_cell", "LETTERS", "MOST_LETTERS", "letters_of", "number_of", "FIGURES"]
def names1 : List PySem.Str := ["MOST_FIGURES", "is_end", "is_rows", "is_columns", "letters_ahead", "by_ends", "Block", "row_text", "column_text", "count_of", "parted", "block_of", "MANNERS", "are_marks", "may_be", "fast_text", "far_text", "numbers_beside", "checked_manner", "Name", "marks_in", "read_letters", "far_of", "ends_in", "read_numbers", "read_name", "_law_cell_at", "_law_well", "_law_draw", "_law_word"]
def names2 : List PySem.Str := ["_law_number", "_law_last", "_law_block", "_law_is_rows", "_law_is_columns", "_law_is_cell", "_law_marks", "_law_put", "_law_far", "_law_in_numbers", "_law_figures", "_law_base", "_law_refused", "_law_end", "_law_ends", "_law_read", "_law_by_sign", "_law_drawn", "_law_by_part"]
def names : List PySem.Str := names0 ++ names1 ++ names2
end K28

set_option Elab.async false
set_option linter.all false
set_option maxRecDepth 100000
set_option maxHeartbeats 0
/-! The head: one run of the top in the kernel, with the facts. -/
namespace K28
open PySem PySem.W PySem.Calls PyProof.Rows
abbrev RowK : OpenRow := OpenLaw.row PySem.Challenge.rw_cellblocks_k28_whole_numbers_texts_spoil
theorem run (w : World) : HandSHeadRun.RunEq RowK (view RowK.prog [85]) hookX obX 12000 names w := by
  intro os
  kernel_rfl
end K28

set_option Elab.async false
set_option linter.all false
set_option maxRecDepth 100000
set_option maxHeartbeats 4000000
/-! Helpers: heaps, comprehensions whose elements are told, fields. -/
namespace K28
open PySem PySem.Spec L2
open He (ga ma)
/-! ### heaps -/
theorem same_new {H : Hp} {p : Addr} {o : HO} (h : H p = none) : Same H (upd H p o) := fun b x e => by
  rw [upd_ne (ne_of_none e h)]
  exact e
theorem same_seqT {K : PySem.W.Frag} {H H' : Hp} {a : Addr} {xs : List V} (e : Same H H') (h : SqT K H a xs) : SqT K H' a xs := by
  rcases h with (h | ⟨o, h⟩) | h
  · exact .inl (.inl (e _ _ h))
  · exact .inl (.inr ⟨o, e _ _ h⟩)
  · exact .inr h
/-- all but the object at p is as it was -/
def SameBut (p : Addr) (H H' : Hp) : Prop := ∀ b o, b ≠ p → H b = some o → H' b = some o
theorem SameBut.refl (p : Addr) (H : Hp) : SameBut p H H := fun _ _ _ h => h
theorem SameBut.trans {p : Addr} {H H1 H2 : Hp} (a : SameBut p H H1) (b : SameBut p H1 H2) : SameBut p H H2 := fun c o n h => b c o n (a c o n h)
theorem Same.but {p : Addr} {H H' : Hp} (a : Same H H') : SameBut p H H' := fun b o _ h => a b o h
theorem but_upd {p : Addr} {H : Hp} {o : HO} : SameBut p H (upd H p o) := fun b x n h => by
  rw [upd_ne n]
  exact h
theorem small_lt {n : Nat} (h : n ≤ 100000) : n < sizeLine := Nat.lt_of_le_of_lt h (by rw [sizeLine_eq]; omega)
theorem small_le {n : Nat} (h : n ≤ 100000) : n ≤ sizeLine := Nat.le_of_lt (small_lt h)
/-! ### values of what may be none -/
def oV : Option Int → V
  | none => .non
  | some n => .int n
theorem oV_none {o : Option Int} : decide (oV o = .non) = o.isNone := by
  cases o with
  | none => rfl
  | some n => exact decide_eq_false (fun z => nomatch z)
/-! ### comprehensions: each element's value is told, and it keeps what stood -/
theorem take_next {α : Type} {l : List α} {i : Nat} {x : α} (h : l[i]? = some x) : l.take (i + 1) = l.take i ++ [x] := by
  rw [List.take_add_one, h]
  rfl
section
variable {K : PySem.W.Frag} {a : Addr} {xs ys : List V} {g : TG} {te : TE} {vs : List Nat} {σ : L2.St} {H1 : Hp} {D : Addr} {Qd : Hp → Prop}
/-- what a turn is to give -/
def Turn1 (g : TG) (te : TE) (vs : List Nat) (σ : L2.St) (x y : V) (H : Hp) : Prop := ∀ (R : V → Hp → Prop) (N : Hp → Prop), (∀ H4, Same H H4 → R y H4) →
  g x (wipe σ vs) H fun σ2 H2 => wipe σ2 vs = wipe σ vs ∧ tYes σ2 H2 fun b H3 => if b = true then te σ2 H3 R else N H3
theorem lc_listM (hS : SqL K H1 a xs) (hl : xs.length = ys.length) (hz : ys.length < sizeLine) (hD : H1 D = none) (step : ∀ (i : Nat) (x y : V) (H : Hp), xs[i]? = some x → ys[i]? = some y → Same H1 H → Turn1 g te vs σ x y H)
    (fin : ∀ H, Same H1 H → H D = some (.lst ys) → Qd H) :
    ∃ W : Nat → Nat → Hp → Prop, (∃ m, W 0 m (upd H1 D (.lst []))) ∧ ∀ i m H, W i m H →
      ((Itl K a).stop i H ∧ Qd H) ∨ ((Itl K a).go i H ∧ ∃ Nx : Hp → Prop, (∀ H', Nx H' → ∃ m', m' < m ∧ W (i + 1) m' H') ∧ ∀ x H', (Itl K a).yld i H x H' → g x (wipe σ vs) H' fun σ2 H2 => wipe σ2 vs = wipe σ vs ∧ tYes σ2 H2 fun b H3 =>
        if b = true then te σ2 H3 fun y H4 => ∃ acc, H4 D = some (.lst acc) ∧ acc.length < sizeLine ∧ Nx (upd H4 D (.lst (acc ++ [y]))) else Nx H3) := by
  refine lc_list (fun i H => Same H1 H ∧ H D = some (.lst (ys.take i))) ⟨same_new hD, upd_same⟩ (fun i H _ h => h.1.seq hS) ?_ (fun H h => ?_)
  · intro i x H hx ⟨s, hd⟩
    have hi : i < ys.length := by rw [← hl]; exact (List.getElem?_eq_some_iff.mp hx).1
    refine step i x ys[i] H hx (List.getElem?_eq_getElem hi) s _ _ fun H4 s4 => ⟨_, s4 _ _ hd, ?_, ?_, ?_⟩
    · rw [List.length_take]
      exact Nat.lt_of_le_of_lt (Nat.min_le_right _ _) hz
    · exact fun b o e => by
        rw [upd_ne (ne_of_none e hD)]
        exact s4 _ _ (s _ _ e)
    · rw [upd_same, take_next (List.getElem?_eq_getElem hi)]
  · rw [hl, List.take_length] at h
    exact fin H h.1 h.2
theorem lc_tupM (hS : SqT K H1 a xs) (hl : xs.length = ys.length) (hz : ys.length < sizeLine) (hD : H1 D = none) (step : ∀ (i : Nat) (x y : V) (H : Hp), xs[i]? = some x → ys[i]? = some y → Same H1 H → Turn1 g te vs σ x y H)
    (fin : ∀ H, Same H1 H → H D = some (.lst ys) → Qd H) :
    ∃ W : Nat → Nat → Hp → Prop, (∃ m, W 0 m (upd H1 D (.lst []))) ∧ ∀ i m H, W i m H →
      ((Itt K a).stop i H ∧ Qd H) ∨ ((Itt K a).go i H ∧ ∃ Nx : Hp → Prop, (∀ H', Nx H' → ∃ m', m' < m ∧ W (i + 1) m' H') ∧ ∀ x H', (Itt K a).yld i H x H' → g x (wipe σ vs) H' fun σ2 H2 => wipe σ2 vs = wipe σ vs ∧ tYes σ2 H2 fun b H3 =>
        if b = true then te σ2 H3 fun y H4 => ∃ acc, H4 D = some (.lst acc) ∧ acc.length < sizeLine ∧ Nx (upd H4 D (.lst (acc ++ [y]))) else Nx H3) := by
  refine lc_tup (fun i H => Same H1 H ∧ H D = some (.lst (ys.take i))) ⟨same_new hD, upd_same⟩ (fun i H _ h => same_seqT h.1 hS) ?_ (fun H h => ?_)
  · intro i x H hx ⟨s, hd⟩
    have hi : i < ys.length := by rw [← hl]; exact (List.getElem?_eq_some_iff.mp hx).1
    refine step i x ys[i] H hx (List.getElem?_eq_getElem hi) s _ _ fun H4 s4 => ⟨_, s4 _ _ hd, ?_, ?_, ?_⟩
    · rw [List.length_take]
      exact Nat.lt_of_le_of_lt (Nat.min_le_right _ _) hz
    · exact fun b o e => by
        rw [upd_ne (ne_of_none e hD)]
        exact s4 _ _ (s _ _ e)
    · rw [upd_same, take_next (List.getElem?_eq_getElem hi)]
  · rw [hl, List.take_length] at h
    exact fin H h.1 h.2
theorem lc_rangeM {n : Nat} (hl : ys.length = n) (hz : ys.length < sizeLine) (hD : H1 D = none) (step : ∀ (i : Nat) (y : V) (H : Hp), ys[i]? = some y → Same H1 H → Turn1 g te vs σ (.int (0 + (i : Int))) y H)
    (fin : ∀ H, Same H1 H → H D = some (.lst ys) → Qd H) :
    ∃ W : Nat → Nat → Hp → Prop, (∃ m, W 0 m (upd H1 D (.lst []))) ∧ ∀ i m H, W i m H →
      ((Itr 0 n).stop i H ∧ Qd H) ∨ ((Itr 0 n).go i H ∧ ∃ Nx : Hp → Prop, (∀ H', Nx H' → ∃ m', m' < m ∧ W (i + 1) m' H') ∧ ∀ x H', (Itr 0 n).yld i H x H' → g x (wipe σ vs) H' fun σ2 H2 => wipe σ2 vs = wipe σ vs ∧ tYes σ2 H2 fun b H3 =>
        if b = true then te σ2 H3 fun y H4 => ∃ acc, H4 D = some (.lst acc) ∧ acc.length < sizeLine ∧ Nx (upd H4 D (.lst (acc ++ [y]))) else Nx H3) := by
  refine lc_range (fun i H => Same H1 H ∧ H D = some (.lst (ys.take i))) ⟨same_new hD, upd_same⟩ ?_ (fun H h => ?_)
  · intro i H hi ⟨s, hd⟩
    have hi' : i < ys.length := by rw [hl]; exact hi
    refine step i ys[i] H (List.getElem?_eq_getElem hi') s _ _ fun H4 s4 => ⟨_, s4 _ _ hd, ?_, ?_, ?_⟩
    · rw [List.length_take]
      exact Nat.lt_of_le_of_lt (Nat.min_le_right _ _) hz
    · exact fun b o e => by
        rw [upd_ne (ne_of_none e hD)]
        exact s4 _ _ (s _ _ e)
    · rw [upd_same, take_next (List.getElem?_eq_getElem hi')]
  · rw [← hl, List.take_length] at h
    exact fin H h.1 h.2
end
/-! ### a block's fields, a name's -/
def blkF (t l b r : V) : List (Str × V) := putF "right" r (putF "bottom" b (putF "left" l (putF "top" t [])))
theorem blkF_top (t l b r : V) : (blkF t l b r).lookup ("top" : Str) = some t := by
  unfold blkF
  rw [lookup_putF, if_neg (by decide +kernel), lookup_putF, if_neg (by decide +kernel), lookup_putF, if_neg (by decide +kernel), lookup_putF, if_pos rfl]
theorem blkF_left (t l b r : V) : (blkF t l b r).lookup ("left" : Str) = some l := by
  unfold blkF
  rw [lookup_putF, if_neg (by decide +kernel), lookup_putF, if_neg (by decide +kernel), lookup_putF, if_pos rfl]
theorem blkF_bottom (t l b r : V) : (blkF t l b r).lookup ("bottom" : Str) = some b := by
  unfold blkF
  rw [lookup_putF, if_neg (by decide +kernel), lookup_putF, if_pos rfl]
theorem blkF_right (t l b r : V) : (blkF t l b r).lookup ("right" : Str) = some r := by
  unfold blkF
  rw [lookup_putF, if_pos rfl]
theorem blkF_size (t l b r : V) : (blkF t l b r).lookup ("size" : Str) = none := by
  unfold blkF
  rw [lookup_putF, if_neg (by decide +kernel), lookup_putF, if_neg (by decide +kernel), lookup_putF, if_neg (by decide +kernel), lookup_putF, if_neg (by decide +kernel)]
  rfl
def namF (b r c : V) : List (Str × V) := putF "columns" c (putF "rows" r (putF "block" b []))
theorem namF_block (b r c : V) : (namF b r c).lookup ("block" : Str) = some b := by
  unfold namF
  rw [lookup_putF, if_neg (by decide +kernel), lookup_putF, if_neg (by decide +kernel), lookup_putF, if_pos rfl]
theorem namF_rows (b r c : V) : (namF b r c).lookup ("rows" : Str) = some r := by
  unfold namF
  rw [lookup_putF, if_neg (by decide +kernel), lookup_putF, if_pos rfl]
theorem namF_columns (b r c : V) : (namF b r c).lookup ("columns" : Str) = some c := by
  unfold namF
  rw [lookup_putF, if_pos rfl]
theorem namF_shown (b r c : V) : (namF b r c).lookup ("shown" : Str) = none := by
  unfold namF
  rw [lookup_putF, if_neg (by decide +kernel), lookup_putF, if_neg (by decide +kernel), lookup_putF, if_neg (by decide +kernel)]
  rfl
theorem putF_len (f : Str) (v : V) : ∀ fs : List (Str × V), (putF f v fs).length ≤ fs.length + 1
  | [] => Nat.le_refl _
  | (g, x) :: r => by
    unfold putF
    split
    · exact Nat.le_succ _
    · have ih := putF_len f v r
      rw [List.length_cons, List.length_cons]
      omega
/-! ### a block's fields, a name's, as they are read -/
/-- a block at b -/
def IsBlk (K : PySem.W.Frag) (H : Hp) (b : Addr) (t l : Int) (bo ri : Option Int) : Prop := ∃ dx, H b = some (.ins (ga K "Block") dx (blkF (.int t) (.int l) (oV bo) (oV ri)))
theorem IsBlk.same {K : PySem.W.Frag} {H H' : Hp} {b : Addr} {t l : Int} {bo ri : Option Int} (h : IsBlk K H b t l bo ri) (e : Same H H') : IsBlk K H' b t l bo ri := by
  obtain ⟨dx, h⟩ := h
  exact ⟨dx, e _ _ h⟩
/-- a name at n: its block, its marks -/
def IsNam (K : PySem.W.Frag) (H : Hp) (n b pr pc : Addr) : Prop := ∃ dx, H n = some (.ins (ga K "Name") dx (namF (.ref b) (.ref pr) (.ref pc)))
theorem IsNam.same {K : PySem.W.Frag} {H H' : Hp} {n b pr pc : Addr} (h : IsNam K H n b pr pc) (e : Same H H') : IsNam K H' n b pr pc := by
  obtain ⟨dx, h⟩ := h
  exact ⟨dx, e _ _ h⟩
def gTop (t l : Int) (bo ri : Option Int) : V := .int t
def gLeft (t l : Int) (bo ri : Option Int) : V := .int l
def gBottom (t l : Int) (bo ri : Option Int) : V := oV bo
def gRight (t l : Int) (bo ri : Option Int) : V := oV ri
def gNB (b pr pc : Addr) : V := .ref b
def gNR (b pr pc : Addr) : V := .ref pr
def gNC (b pr pc : Addr) : V := .ref pc
def tBlk (K : PySem.W.Frag) (ta : TE) (g : Int → Int → Option Int → Option Int → V) : TE := fun σ H Q => ta σ H fun x H1 => ∃ b t l bo ri, x = .ref b ∧ IsBlk K H1 b t l bo ri ∧ Q (g t l bo ri) H1
def tNam (K : PySem.W.Frag) (ta : TE) (g : Addr → Addr → Addr → V) : TE := fun σ H Q => ta σ H fun x H1 => ∃ n b pr pc, x = .ref n ∧ IsNam K H1 n b pr pc ∧ Q (g b pr pc) H1
section
variable {X : Cx} {e : Expr} {f : Str} {pos : Pos} {ta : TE} {mg : Str → Option Value}
theorem pe_blk {g : Int → Int → Option Int → Option Int → V} (c : Cls X.K (ga X.K "Block")) (n : NoAttr X.K (ga X.K "Block") f) (hl : ∀ t l bo ri, (blkF (.int t) (.int l) (oV bo) (oV ri)).lookup f = some (g t l bo ri)) (he : PE X e ta)
    (hb : attributeBase e f X.env (eval e X.env) = eval e X.env) : PE X (.Attribute e f pos) (tBlk X.K ta g) := by
  refine ⟨fun pins s σ H Q I h => ?_⟩
  refine attr_of hb (thn (he.run pins s σ H _ I h) fun u s1 ⟨x, H1, I1, rx, b, t, l, bo, ri, ex, ⟨dx, ea⟩, q⟩ => ?_)
  subst ex
  obtain rfl : u = Value.ref b := rx
  exact getattr_ok I1 ea c n (hl t l bo ri) fun u' s2 I2 ru => ⟨_, H1, I2, ru, q⟩
theorem pe_nam {g : Addr → Addr → Addr → V} (c : Cls X.K (ga X.K "Name")) (n : NoAttr X.K (ga X.K "Name") f) (hl : ∀ b r c, (namF (.ref b) (.ref r) (.ref c)).lookup f = some (g b r c)) (he : PE X e ta)
    (hb : attributeBase e f X.env (eval e X.env) = eval e X.env) : PE X (.Attribute e f pos) (tNam X.K ta g) := by
  refine ⟨fun pins s σ H Q I h => ?_⟩
  refine attr_of hb (thn (he.run pins s σ H _ I h) fun u s1 ⟨x, H1, I1, rx, b, b0, pr, pc, ex, ⟨dx, ea⟩, q⟩ => ?_)
  subst ex
  obtain rfl : u = Value.ref b := rx
  exact getattr_ok I1 ea c n (hl b0 pr pc) fun u' s2 I2 ru => ⟨_, H1, I2, ru, q⟩
theorem pe_bTop (T : Top X.K mg) (he : PE X e ta) (hb : attributeBase e "top" X.env (eval e X.env) = eval e X.env := by rfl) : PE X (.Attribute e "top" pos) (tBlk X.K ta gTop) := pe_blk T.cBlock T.nTop (fun _ _ _ _ => blkF_top ..) he hb
theorem pe_bLeft (T : Top X.K mg) (he : PE X e ta) (hb : attributeBase e "left" X.env (eval e X.env) = eval e X.env := by rfl) : PE X (.Attribute e "left" pos) (tBlk X.K ta gLeft) := pe_blk T.cBlock T.nLeft (fun _ _ _ _ => blkF_left ..) he hb
theorem pe_bBottom (T : Top X.K mg) (he : PE X e ta) (hb : attributeBase e "bottom" X.env (eval e X.env) = eval e X.env := by rfl) : PE X (.Attribute e "bottom" pos) (tBlk X.K ta gBottom) := pe_blk T.cBlock T.nBottom (fun _ _ _ _ => blkF_bottom ..) he hb
theorem pe_bRight (T : Top X.K mg) (he : PE X e ta) (hb : attributeBase e "right" X.env (eval e X.env) = eval e X.env := by rfl) : PE X (.Attribute e "right" pos) (tBlk X.K ta gRight) := pe_blk T.cBlock T.nRight (fun _ _ _ _ => blkF_right ..) he hb
theorem pe_nB (T : Top X.K mg) (he : PE X e ta) (hb : attributeBase e "block" X.env (eval e X.env) = eval e X.env := by rfl) : PE X (.Attribute e "block" pos) (tNam X.K ta gNB) := pe_nam T.cName T.nBlock (fun _ _ _ => namF_block ..) he hb
theorem pe_nR (T : Top X.K mg) (he : PE X e ta) (hb : attributeBase e "rows" X.env (eval e X.env) = eval e X.env := by rfl) : PE X (.Attribute e "rows" pos) (tNam X.K ta gNR) := pe_nam T.cName T.nRows (fun _ _ _ => namF_rows ..) he hb
theorem pe_nC (T : Top X.K mg) (he : PE X e ta) (hb : attributeBase e "columns" X.env (eval e X.env) = eval e X.env := by rfl) : PE X (.Attribute e "columns" pos) (tNam X.K ta gNC) := pe_nam T.cName T.nColumns (fun _ _ _ => namF_columns ..) he hb
end
end K28

set_option Elab.async false
set_option linter.all false
set_option maxRecDepth 100000
set_option maxHeartbeats 4000000
/-! Texts by their codes: the rules for texts, said of lists of codes. -/
namespace K28
open PySem PySem.Spec L2
abbrev mkS (l : L) : Str := ⟨l.toArray⟩
abbrev sv (l : L) : V := .str (mkS l)
theorem mkS_len (l : L) : (mkS l).length = l.length := by rw [TL.len_tl]
theorem mkS_app (x y : L) : mkS x ++ mkS y = mkS (x ++ y) := TL.ext_tl (by rw [TL.tl_append])
theorem mkS_tl (x : Str) : mkS (TL.tl x) = x := TL.mk_tl x
theorem mkS_inj {x y : L} (h : mkS x = mkS y) : x = y := congrArg TL.tl h
theorem sv_inj {x y : L} (h : sv x = sv y) : x = y := mkS_inj (V.str.inj h)
theorem mkS_dec (x y : L) : decide (V.str (mkS x) = V.str (mkS y)) = decide (x = y) := by
  by_cases h : x = y
  · rw [h, decide_eq_true rfl, decide_eq_true rfl]
  · rw [decide_eq_false h, decide_eq_false fun z => h (sv_inj z)]
theorem str_int (i : Int) : (Str.ofString (toString i)) = mkS (intL i) := by
  by_cases h : i < 0
  · obtain ⟨n, rfl⟩ : ∃ n : Nat, i = Int.negSucc n := by
      cases i with
      | ofNat n => exact absurd h (by simp)
      | negSucc n => exact ⟨n, rfl⟩
    have e : toString (Int.negSucc n) = "-" ++ toString (n + 1) := rfl
    refine TL.ext_tl ?_
    rw [intL_neg h, e, TL.tl_ofString, String.toList_append, List.map_append]
    have e2 := TL.tl_num (n + 1)
    rw [TL.tl_ofString] at e2
    show 45 :: _ = 45 :: TL.numL (n + 1)
    rw [← e2]
    rfl
  · obtain ⟨n, rfl⟩ : ∃ n : Nat, i = (n : Int) := ⟨i.toNat, by omega⟩
    refine TL.ext_tl ?_
    rw [intL_pos h]
    exact TL.tl_num n
def Sm (n : Int) : Prop := n.natAbs < 2 ^ 60
theorem Sm.log {n : Int} (h : Sm n) : n.natAbs.log2 < 1920 := Nat.lt_trans (PySem.Flt.log2_lt_of (by decide) h) (by decide)
theorem sm_of {n : Int} (h1 : -1000000000000000 ≤ n) (h2 : n ≤ 1000000000000000) : Sm n := by
  show n.natAbs < 1152921504606846976
  omega
theorem intL_len {n : Int} (h : Sm n) : (intL n).length ≤ 20 := by
  have e : (TL.numL n.natAbs).length ≤ 19 := TL.numL_len (by decide) (by
    have : n.natAbs < 1152921504606846976 := h
    have e4 : (10 : Nat) ^ 19 = 10000000000000000000 := by decide
    omega)
  unfold intL
  split
  · rw [List.length_cons]
    omega
  · omega
theorem endTail_len {n h : Int} {m : Bool} (h1 : Sm n) (h2 : Sm (n - h)) : (endTail n m h).length ≤ 22 := by
  unfold endTail
  have e1 := intL_len h1
  have e2 := intL_len h2
  split
  · omega
  · split
    · simp
    · rw [List.length_cons, List.length_append]
      show _ + 1 + 1 ≤ _
      omega
theorem lit_e : ("" : Str) = mkS [] := by decide +kernel
theorem lit_R : ("R" : Str) = mkS [82] := by decide +kernel
theorem lit_C : ("C" : Str) = mkS [67] := by decide +kernel
theorem lit_lb : ("[" : Str) = mkS [91] := by decide +kernel
theorem lit_rb : ("]" : Str) = mkS [93] := by decide +kernel
theorem lit_colon : (":" : Str) = mkS [58] := by decide +kernel
theorem lit_minus : ("-" : Str) = mkS [45] := by decide +kernel
theorem lit_zero : ("0" : Str) = mkS [48] := by decide +kernel
theorem lit_nine : ("9" : Str) = mkS [57] := by decide +kernel
theorem lit_one : ("1" : Str) = mkS [49] := by decide +kernel
theorem lit_figs : ("0123456789" : Str) = mkS [48, 49, 50, 51, 52, 53, 54, 55, 56, 57] := by decide +kernel
def figsL : L := [48, 49, 50, 51, 52, 53, 54, 55, 56, 57]
theorem mem_figs (c : Nat) : decide (c ∈ figsL) = isDig c := by
  rw [Bool.eq_iff_iff, decide_eq_true_eq, isDig_iff]
  unfold figsL
  simp only [List.mem_cons, List.not_mem_nil, or_false]
  omega
theorem strip_empty (l : L) : Txt.stripChars (mkS l) (mkS figsL) = mkS [] ↔ allDig l = true := by
  have hc : ∀ c, (mkS figsL).cps.contains c = isDig c := fun c => by
    rw [← mem_figs, Bool.eq_iff_iff, decide_eq_true_eq]
    show (figsL.toArray).contains c = true ↔ _
    rw [List.contains_toArray]
    exact List.contains_iff_mem
  unfold Txt.stripChars
  rw [PyProof.Rows.stripBy_eq]
  generalize hg : (mkS figsL).cps.contains = g at hc
  obtain ⟨a1, a2, a3⟩ := PyProof.Rows.lo_facts g (mkS l)
  obtain ⟨b1, b2, b3, b4⟩ := PyProof.Rows.hi_facts g (mkS l) (stripLo g true (mkS l)) a1
  generalize stripLo g true (mkS l) = lo at a1 a2 a3 b1 b2 b3 b4
  generalize stripHi g true (mkS l) lo = hi at b1 b2 b3 b4
  rw [mkS_len] at a1 a3 b2 b3
  have gd : ∀ k, (mkS l).cps.getD k 0 = l.getD k 0 := fun k => (PyProof.Rows.getD_list (mkS l) k).symm
  have alld : allDig l = true ↔ ∀ k, k < l.length → isDig (l.getD k 0) = true := by
    unfold allDig
    rw [List.all_eq_true]
    constructor
    · intro h k hk
      have e : l.getD k 0 = l[k] := by simp [List.getD, hk]
      rw [e]
      exact h _ (List.getElem_mem hk)
    · intro h c hm
      obtain ⟨k, hk, rfl⟩ := List.getElem_of_mem hm
      have := h k hk
      have e : l.getD k 0 = l[k] := by simp [List.getD, hk]
      rwa [e] at this
  have len : (TL.tl (Builtin.Str.strSub (mkS l) lo hi)).length = hi - lo := by
    rw [TL.tl_strSub, List.length_take, List.length_drop]
    show min (hi - lo) (l.length - lo) = _
    omega
  constructor
  · intro e
    rw [e] at len
    have e0 : hi - lo = 0 := len.symm
    refine alld.mpr fun k hk => ?_
    rw [← gd, ← hc]
    by_cases q : k < lo
    · exact a2 k q
    · exact b3 k (by omega) hk
  · intro h
    have h' := alld.mp h
    have e1 : lo = l.length := by
      rcases a3 with e | e
      · exact e
      · by_cases q : lo < l.length
        · rw [gd, hc, h' lo q] at e
          cases e
        · omega
    refine TL.ext_tl ?_
    refine List.eq_nil_of_length_eq_zero ?_
    rw [len]
    omega
theorem int_of {l : L} (h : allDig l = true) (h1 : 1 ≤ l.length) (h2 : l.length ≤ 12) : PySem.intText? (mkS l) = some (val l) :=
  PySem.intText_digits (x := mkS l) (allDig_iff.mp h) (fun e => by
    have e' : l = [] := e
    rw [e'] at h1
    simp at h1) (by rw [mkS_len]; omega)
theorem starts45 (l : L) : Txt.startswith (mkS l) (mkS [45]) = decide (l.head? = some 45) := by
  cases l with
  | nil => decide +kernel
  | cons c r =>
    unfold Txt.startswith
    have e : Builtin.Str.subAt (mkS (c :: r)) (mkS [45]) 0 = decide (c = 45) := by
      unfold Builtin.Str.subAt
      rw [Bool.eq_iff_iff, decide_eq_true_eq, beq_iff_eq]
      show ((c :: r).toArray).extract 0 (0 + 1) = #[45] ↔ _
      rw [← Array.toList_inj]
      simp
    rw [e, mkS_len, mkS_len]
    have e2 : decide (0 + ([45] : L).length ≤ (c :: r).length) = true := decide_eq_true (by simp)
    rw [e2, Bool.true_and]
    simp
/-! ### partition, split -/
theorem par_one {s : Nat} (l : L) : TL.par [s] [] l = if s ∈ l then some (before s l, after s l) else none := by
  by_cases h : s ∈ l
  · rw [if_pos h]
    have e := TL.par_part1 (s := s) (S := []) (p := before s l) (rest := after s l) (acc := []) (before_free l)
    have e2 : before s l ++ ([s] ++ after s l) = l := (cut_at h).symm
    rw [show (s :: [] : L) = [s] from rfl] at e
    rw [e2] at e
    exact e
  · rw [if_neg h]
    exact TL.par_none1 h
theorem part_sv (l : L) (s : Nat) : Txt.partition (mkS l) (mkS [s]) = (mkS (before s l), mkS (if s ∈ l then [s] else []), mkS (if s ∈ l then after s l else [])) := by
  rw [TL.partition_par _ _ (by simp)]
  have e := par_one (s := s) l
  show (match TL.par [s] [] l with | some (a, b) => _ | none => _) = _
  rw [e]
  by_cases h : s ∈ l
  · simp only [if_pos h]
  · simp only [if_neg h]
    rw [before_none h] <;> rfl
theorem split_sv (l : L) (s : Nat) (hs : s < 256) : Txt.split (mkS l) (mkS [s]) = (TL.spl [s] 0 [] l).map mkS := by
  have e := TL.split_spl (mkS l) (mkS [s]) (by simp) (TL.kind_ok (by
    show (#[s] : Array Nat).all (· < 256) = true
    simp [hs]))
  refine TL.map_tl_inj ?_
  rw [e, List.map_map]
  show TL.spl [s] 0 [] l = List.map (TL.tl ∘ mkS) _
  rw [show (TL.tl ∘ mkS) = (id : L → L) from rfl, List.map_id]
section
variable {X : Cx}
theorem pe_lit {x : Str} {j pos} (l : L) (h : x = mkS l := by first | exact lit_e | exact lit_R | exact lit_C | exact lit_lb | exact lit_rb | exact lit_colon | exact lit_minus | exact lit_zero | exact lit_nine | exact lit_one | exact lit_figs) : PE X (.Constant (.str x) j pos) (tC (sv l)) := by
  subst h
  exact pe_str
def rCat : R2 := fun x y H Q => ∃ a b : L, x = sv a ∧ y = sv b ∧ a.length + b.length ≤ 100000 ∧ Q (sv (a ++ b)) H
theorem op_cat : OpR X (binaryOp .Add) rCat := fun pins s σ H x y u v Q I rx ry ⟨a, b, e1, e2, hl, q⟩ =>
  op_add_str pins s σ H x y u v Q I rx ry ⟨mkS a, mkS b, e1, e2, by rw [mkS_len, mkS_len]; exact small_le hl, by rw [mkS_app]; exact q⟩
def rEqL : R2 := fun x y H Q => ∃ a b : L, x = sv a ∧ y = sv b ∧ Q (.bl (decide (a = b))) H
theorem op_eqL : OpR X (compareOp .Eq) rEqL := fun pins s σ H x y u v Q I rx ry ⟨a, b, e1, e2, q⟩ =>
  op_eq pins s σ H x y u v Q I rx ry ⟨by rw [e1, e2]; rfl, by rw [e1, e2, mkS_dec]; exact q⟩
def rNeL : R2 := fun x y H Q => ∃ a b : L, x = sv a ∧ y = sv b ∧ Q (.bl (!decide (a = b))) H
theorem op_neL : OpR X (compareOp .NotEq) rNeL := fun pins s σ H x y u v Q I rx ry ⟨a, b, e1, e2, q⟩ =>
  op_ne pins s σ H x y u v Q I rx ry ⟨by rw [e1, e2]; rfl, by rw [e1, e2, mkS_dec]; exact q⟩
def rInL : R2 := fun x y H Q => ∃ (c : Nat) (l : L), x = sv [c] ∧ y = sv l ∧ Q (.bl (decide (c ∈ l))) H
theorem op_inL : OpR X (compareOp .In) rInL := fun pins s σ H x y u v Q I rx ry ⟨c, l, e1, e2, q⟩ => op_in_sign pins s σ H x y u v Q I rx ry ⟨c, mkS l, e1, e2, q⟩
def rNotInL : R2 := fun x y H Q => ∃ (c : Nat) (l : L), x = sv [c] ∧ y = sv l ∧ Q (.bl (!decide (c ∈ l))) H
theorem op_notInL : OpR X (compareOp .NotIn) rNotInL := fun pins s σ H x y u v Q I rx ry ⟨c, l, e1, e2, q⟩ => op_notIn_sign pins s σ H x y u v Q I rx ry ⟨c, mkS l, e1, e2, q⟩
def rIxV : R2 := fun x y H Q => ∃ (l : L) (i : Int) (c : Nat), x = sv l ∧ y = .int i ∧ l.length ≤ 100000 ∧ atI l i = some c ∧ Q (sv [c]) H
theorem ix_sv : IxR X rIxV := fun value slice pins s σ H x y v u Q I rx ry ⟨l, i, c, e1, e2, hl, ha, q⟩ hp =>
  ix_str value slice pins s σ H x y v u Q I rx ry ⟨mkS l, i, c, e1, e2, by rw [mkS_len]; exact small_le hl, ha, q⟩ hp
def cutL (l : L) (lo hi : Option Int) : L := (l.drop (HT.sIx l.length 0 lo)).take (HT.sIx l.length l.length hi - HT.sIx l.length 0 lo)
theorem cutS_mk (l : L) (lo hi : Option Int) : cutS (mkS l) lo hi = mkS (cutL l lo hi) := by
  unfold cutS cutL
  rw [mkS_len]
def rSlV : V → Option Int → Option Int → Hp → VK → Prop := fun x lo hi H Q => ∃ l : L, x = sv l ∧ l.length ≤ 100000 ∧ Q (sv (cutL l lo hi)) H
theorem sl_sv : SlR X rSlV := by
  intro pins s σ H x v vl vu lo hi sl Q I rx hs pl pu h
  obtain ⟨l, e, hl, q⟩ := h
  exact sl_str pins s σ H x v vl vu lo hi sl Q I rx hs pl pu ⟨mkS l, e, by rw [mkS_len]; exact small_le hl, by rw [cutS_mk]; exact q⟩
theorem call_strL : CallR X (.type "str") (fun xs H Q => ∃ i, xs = [.int i] ∧ Sm i ∧ Q (sv (intL i)) H) := fun pins s σ H xs us Q I r ⟨i, e, h, q⟩ =>
  call_str_int pins s σ H xs us Q I r ⟨i, e, h.log, by rw [str_int]; exact q⟩
theorem call_lenL : CallR X (.builtin "len") (fun xs H Q => ∃ l : L, xs = [sv l] ∧ l.length ≤ 100000 ∧ Q (.int l.length) H) := fun pins s σ H xs us Q I r ⟨l, e, h, q⟩ =>
  call_len_str pins s σ H xs us Q I r ⟨mkS l, e, by rw [mkS_len]; exact small_le h, by rw [mkS_len]; exact q⟩
theorem call_intL : CallR X (.type "int") (fun xs H Q => ∃ l : L, xs = [sv l] ∧ allDig l = true ∧ 1 ≤ l.length ∧ l.length ≤ 12 ∧ Q (.int (val l)) H) := fun pins s σ H xs us Q I r ⟨l, e, h, h1, h2, q⟩ =>
  call_int_str pins s σ H xs us Q I r ⟨mkS l, val l, e, int_of h h1 h2, by rw [mkS_len]; omega, q⟩
/-- s.strip(FIGURES): is it empty -/
def rStrip : V → List V → Hp → VK → Prop := fun x xs H Q => ∃ l : L, x = sv l ∧ xs = [sv figsL] ∧ l.length ≤ 100000 ∧ ∀ l' : L, (l' = [] ↔ allDig l = true) → Q (sv l') H
theorem mt_stripL : MtR X "str.strip" rStrip := fun pins s σ H x xs v us Q I rx rs ⟨l, e1, e2, hl, q⟩ =>
  mt_stripChars pins s σ H x xs v us Q I rx rs ⟨mkS l, mkS figsL, e1, e2, by rw [mkS_len]; exact small_le hl, by
    have e3 := mkS_tl (Txt.stripChars (mkS l) (mkS figsL))
    have q2 := q (TL.tl (Txt.stripChars (mkS l) (mkS figsL))) ⟨fun e => (strip_empty l).mp (by rw [← e3, e]), fun e => by rw [(strip_empty l).mpr e]⟩
    rw [← e3]
    exact q2⟩
def rStarts : V → List V → Hp → VK → Prop := fun x xs H Q => ∃ l : L, x = sv l ∧ xs = [sv [45]] ∧ Q (.bl (decide (l.head? = some 45))) H
theorem mt_startsL : MtR X "str.startswith" rStarts := fun pins s σ H x xs v us Q I rx rs ⟨l, e1, e2, q⟩ =>
  mt_startswith pins s σ H x xs v us Q I rx rs ⟨mkS l, mkS [45], e1, e2, by rw [starts45]; exact q⟩
def rPart : V → List V → Hp → VK → Prop := fun x xs H Q => ∃ (l : L) (s : Nat), x = sv l ∧ xs = [sv [s]] ∧ l.length ≤ 100000 ∧
  ∀ p, H p = none → Q (.ref p) (upd H p (.tup [sv (before s l), sv (if s ∈ l then [s] else []), sv (if s ∈ l then after s l else [])]))
theorem mt_partL : MtR X "str.partition" rPart := fun pins s σ H x xs v us Q I rx rs ⟨l, c, e1, e2, hl, q⟩ =>
  mt_partition pins s σ H x xs v us Q I rx rs ⟨mkS l, mkS [c], e1, e2, by rw [mkS_len]; rfl, by rw [mkS_len]; exact small_le hl, by rw [part_sv]; exact q⟩
def rSplit : V → List V → Hp → VK → Prop := fun x xs H Q => ∃ l : L, x = sv l ∧ xs = [sv [58]] ∧ l.length ≤ 100000 ∧ ∀ p, H p = none → Q (.ref p) (upd H p (.lst ((TL.spl [58] 0 [] l).map sv)))
theorem mt_splitL : MtR X "str.split" rSplit := fun pins s σ H x xs v us Q I rx rs ⟨l, e1, e2, hl, q⟩ =>
  mt_split pins s σ H x xs v us Q I rx rs ⟨mkS l, mkS [58], e1, e2, by rw [mkS_len]; rfl, by rw [mkS_len]; rw [sizeLine_eq]; omega, fun p hp => by
    rw [split_sv l 58 (by decide), List.map_map]
    exact q p hp⟩
end
end K28

set_option Elab.async false
set_option linter.all false
set_option maxRecDepth 100000
set_option maxHeartbeats 4000000
/-! The program, def by def: numbers, cells, ends. -/
namespace K28
open PySem PySem.Spec L2
open He (ga ma)
open PyProof.Rows (boot_isinstance)
section
variable {P : Program} {w : World} {K : PySem.W.Frag} {mg : Str → Option Value} {base : Heap}
/-! ### is_whole, is_count -/
def spWhole : Sp := fun vs H Q _ => ∃ i : Int, vs = [.int i] ∧ Q (.bl true) H
theorem scWhole : FnScope ["thing"] ["thing"] (defScope sIsWhole) := ⟨rfl, rfl, rfl, by decide +kernel, rfl, by decide +kernel, by decide +kernel⟩
theorem ok_whole (T : Top K mg) : FnOk P w K mg base CX0 1 (ga K "is_whole") (fdO K (ga K "is_whole")) ["thing"] spWhole := by
  refine T.dIsWhole.F.ok scWhole (fun vs H Q E h => ?_) (fun cdv A outer s H vs Q E hr h => ?_)
  · obtain ⟨i, rfl, _⟩ := h
    rfl
  · obtain ⟨i, rfl, q⟩ := h
    refine ⟨_, PSs.nox (pss_one (ps_ret (pe_and (pe_callB call_isi (by rfl) T.zIsinstance boot_isinstance (pa_cons (pv 0) (pa_cons (pe_bltn (v := .ty "int") (by rfl) T.zInt (by decide +kernel) rfl) pa_nil)))
      (pe_one (pe_not (pe_callB call_isi (by rfl) T.zIsinstance boot_isinstance (pa_cons (pv 0) (pa_cons (pe_bltn (v := .ty "bool") (by rfl) T.zBool (by decide +kernel) rfl) pa_nil)))))))), ?_⟩
    refine ⟨_, rfl, _, _, _, _, true, rfl, .ty "int", .base (.int i), kit_ty (by decide +kernel), true, rfl, iteT ?_⟩
    exact ⟨_, rfl, _, _, _, _, false, rfl, .ty "bool", .base (.int i), kit_ty (by decide +kernel), false, rfl, q⟩
def spCount : Sp := fun vs H Q _ => ∃ i : Int, vs = [.int i] ∧ Q (.bl (decide (1 ≤ i))) H
theorem scCount : FnScope ["thing"] ["thing"] (defScope sIsCount) := ⟨rfl, rfl, rfl, by decide +kernel, rfl, by decide +kernel, by decide +kernel⟩
theorem ok_count (T : Top K mg) : FnOk P w K mg base CX0 2 (ga K "is_count") (fdO K (ga K "is_count")) ["thing"] spCount := by
  have b1 : Binds K (fdO K (ga K "is_whole")) ["thing"] [] := T.dIsWhole.F.bindsN fun _ _ _ _ _ _ us hl => match us, hl with | [_], _ => rfl
  refine T.dIsCount.F.ok scCount (fun vs H Q E h => ?_) (fun cdv A outer s H vs Q E hr h => ?_)
  · obtain ⟨i, rfl, _⟩ := h
    rfl
  · obtain ⟨i, rfl, q⟩ := h
    refine ⟨_, PSs.nox (pss_one (ps_ret (pe_and (pe_call (ok_whole T) hr (by rfl) T.dIsWhole.g T.dIsWhole.F.kp b1 .nil pass0 (pa_cons (pv 0) pa_nil)) (pe_one (pe_cmp (pc_ge (pv 0) pe_int) rfl))))), ?_⟩
    exact ⟨_, rfl, i, rfl, true, rfl, iteT ⟨_, rfl, _, _, rfl, rfl, q⟩⟩
end
end K28

set_option Elab.async false
set_option linter.all false
set_option maxRecDepth 100000
set_option maxHeartbeats 4000000
/-! The program, def by def: cells, ends, blocks' sizes. -/
namespace K28
open PySem PySem.Spec L2
open He (ga ma)
open PyProof.Rows (boot_isinstance)
/-- a tuple that was laid -/
def Tp (H : Hp) (a : Addr) (xs : List V) : Prop := H a = some (.tup xs)
section
variable {P : Program} {w : World} {K : PySem.W.Frag} {mg : Str → Option Value} {base : Heap}
theorem b1 {x : Str} {st : Stmt} {g : Addr} {ds : List V} (f : Nat) : True := trivial
/-! ### is_cell, checked_cell -/
def spCell : Sp := fun vs H Q _ => ∃ (a : Addr) (r c : Int), vs = [.ref a] ∧ H a = some (.tup [.int r, .int c]) ∧ 1 ≤ r ∧ 1 ≤ c ∧ ∀ H', Same H H' → Q (.bl true) H'
theorem scCell : FnScope ["thing", "part"] ["thing"] (defScope sIsCell) := ⟨rfl, rfl, rfl, by decide +kernel, rfl, by decide +kernel, by decide +kernel⟩
theorem ok_cell (T : Top K mg) : FnOk P w K mg base CX0 3 (ga K "is_cell") (fdO K (ga K "is_cell")) ["thing"] spCell := by
  have b1 : Binds K (fdO K (ga K "is_count")) ["thing"] [] := T.dIsCount.F.bindsN fun _ _ _ _ _ _ us hl => match us, hl with | [_], _ => rfl
  refine T.dIsCell.F.ok scCell (fun vs H Q E h => ?_) (fun cdv A outer s H vs Q E hr h => ?_)
  · obtain ⟨a, r, c, rfl, _⟩ := h
    rfl
  · obtain ⟨a, r, c, rfl, ha, hr1, hc1, q⟩ := h
    refine ⟨_, PSs.nox (pss_one (ps_ret (pe_and (pe_callB call_isi (by rfl) T.zIsinstance boot_isinstance (pa_cons (pv 0) (pa_cons (pe_bltn (v := .ty "tuple") (by rfl) T.zTuple (by decide +kernel) rfl) pa_nil)))
      (pe_and (pe_cmpR op_eq (pe_callB call_len_seq (by rfl) T.zLen (by decide +kernel) (pa_cons (pv 0) pa_nil)) pe_int (nomark _))
      (pe_one (pe_callB (cr_all rfl) (by rfl) T.zAll (by decide +kernel) (pa_cons
        (pe_lc (own := [("part", 1)]) (g := gName 1) (tt := tYes) rfl scCell.nd (pi_tup (pv 0)) (blkOk_by (N := ["thing", "part"]) (sc := defScope sIsCell) (by decide +kernel)) (fun _ _ _ _ _ => pg_name (i := 1) scCell.nd rfl (Or.inl rfl))
          (fun _ _ _ _ _ => pts_nil) (fun _ _ _ _ _ => pe_call (ok_count T) hr (by rfl) T.dIsCount.g T.dIsCount.F.kp b1 .nil pass0 (pa_cons (pv 1) pa_nil))) pa_nil))))))), ?_⟩
    refine ⟨_, rfl, _, _, _, _, true, rfl, .ty "tuple", .base (.tup ha), kit_ty (by decide +kernel), true, rfl, iteT ?_⟩
    refine ⟨_, rfl, a, _, rfl, .inr (SqT.of ha), rfl, true, rfl, iteT ?_⟩
    refine ⟨_, rfl, a, rfl, ⟨_, SqT.of ha⟩, fun D hD => ?_⟩
    refine lc_tupM (xs := [.int r, .int c]) (ys := [.bl true, .bl true]) (SqT.of ha) rfl (small_lt (by decide)) hD (fun i x y H1 hx hy s1 => ?_) fun H1 s1 hl => ?_
    · intro R N hR
      refine ⟨rfl, _, rfl, ?_⟩
      have : ∃ k : Int, x = .int k ∧ 1 ≤ k ∧ y = .bl true := by
        match i, hx, hy with
        | 0, hx, hy => exact ⟨r, (Option.some.inj hx).symm, hr1, (Option.some.inj hy).symm⟩
        | 1, hx, hy => exact ⟨c, (Option.some.inj hx).symm, hc1, (Option.some.inj hy).symm⟩
      obtain ⟨k, rfl, hk, rfl⟩ := this
      refine ⟨k, rfl, ?_⟩
      rw [decide_eq_true hk]
      exact hR _ (Same.refl _)
    · exact ⟨D, [true, true], rfl, SqL.of hl, q _ s1⟩
def spChk : Sp := fun vs H Q _ => ∃ (a : Addr) (r c : Int), vs = [.ref a] ∧ H a = some (.tup [.int r, .int c]) ∧ 1 ≤ r ∧ 1 ≤ c ∧ ∀ H', Same H H' → Q .non H'
theorem scChk : FnScope ["thing"] ["thing"] (defScope sCheckedCell) := ⟨rfl, rfl, rfl, by decide +kernel, rfl, by decide +kernel, by decide +kernel⟩
theorem ok_chk (T : Top K mg) : FnOk P w K mg base CX0 4 (ga K "checked_cell") (fdO K (ga K "checked_cell")) ["thing"] spChk := by
  have b1 : Binds K (fdO K (ga K "is_cell")) ["thing"] [] := T.dIsCell.F.bindsN fun _ _ _ _ _ _ us hl => match us, hl with | [_], _ => rfl
  refine T.dCheckedCell.F.ok scChk (fun vs H Q E h => ?_) (fun cdv A outer s H vs Q E hr h => ?_)
  · obtain ⟨a, r, c, rfl, _⟩ := h
    rfl
  · obtain ⟨a, r, c, rfl, ha, hr1, hc1, q⟩ := h
    refine ⟨_, PSs.nox (pss_one (ps_if (pt_not (pt_val (pe_call (ok_cell T) hr (by rfl) T.dIsCell.g T.dIsCell.F.kp b1 .nil pass0 (pa_cons (pv 0) pa_nil)))) pss_never pss_nil)), ?_⟩
    exact ⟨_, rfl, a, r, c, rfl, ha, hr1, hc1, fun H' s' => ⟨true, rfl, iteF (q _ s')⟩⟩
/-! ### is_end, is_rows, is_columns -/
def spEnd : Sp := fun vs H Q _ => ∃ (f : Int) (l : Option Int), vs = [.int f, oV l] ∧ Q (.bl (isEnd f l)) H
theorem scEnd : FnScope ["first", "last"] ["first", "last"] (defScope sIsEnd) := ⟨rfl, rfl, rfl, by decide +kernel, rfl, by decide +kernel, by decide +kernel⟩
theorem ok_end (T : Top K mg) : FnOk P w K mg base CX0 3 (ga K "is_end") (fdO K (ga K "is_end")) ["first", "last"] spEnd := by
  have b1 : Binds K (fdO K (ga K "is_count")) ["thing"] [] := T.dIsCount.F.bindsN fun _ _ _ _ _ _ us hl => match us, hl with | [_], _ => rfl
  refine T.dIsEnd.F.ok scEnd (fun vs H Q E h => ?_) (fun cdv A outer s H vs Q E hr h => ?_)
  · obtain ⟨f, l, rfl, _⟩ := h
    rfl
  · obtain ⟨f, l, rfl, q⟩ := h
    refine ⟨_, PSs.nox (pss_one (ps_ret (pe_or (pe_cmp (pc_isN (pv 1)) rfl) (pe_one (pe_and (pe_call (ok_count T) hr (by rfl) T.dIsCount.g T.dIsCount.F.kp b1 .nil pass0 (pa_cons (pv 1) pa_nil)) (pe_one (pe_cmp (pc_ge (pv 1) (pv 0)) rfl))))))), ?_⟩
    refine ⟨_, rfl, _, rfl, ?_⟩
    cases l with
    | none => exact iteT q
    | some l =>
      refine iteF ⟨_, rfl, l, rfl, _, rfl, ?_⟩
      by_cases h1 : 1 ≤ l
      · have e : isEnd f (some l) = decide (f ≤ l) := by
          show (decide (1 ≤ l) && decide (f ≤ l)) = decide (f ≤ l)
          rw [decide_eq_true h1, Bool.true_and]
        rw [e] at q
        rw [decide_eq_true h1]
        exact iteT ⟨_, rfl, _, rfl, _, _, rfl, rfl, q⟩
      · have e : isEnd f (some l) = false := by
          show (decide (1 ≤ l) && decide (f ≤ l)) = false
          rw [decide_eq_false h1] <;> rfl
        rw [e] at q
        rw [decide_eq_false h1]
        exact iteF q
def rowsB (l : Int) (bo ri : Option Int) : Bool := decide (l = 1) && (ri.isNone && bo.isSome)
def colsB (t : Int) (bo ri : Option Int) : Bool := decide (t = 1) && (bo.isNone && ri.isSome)
def spRows (K : PySem.W.Frag) : Sp := fun vs H Q _ => ∃ (b : Addr) (t l : Int) (bo ri : Option Int), vs = [.ref b] ∧ IsBlk K H b t l bo ri ∧ Q (.bl (rowsB l bo ri)) H
def spCols (K : PySem.W.Frag) : Sp := fun vs H Q _ => ∃ (b : Addr) (t l : Int) (bo ri : Option Int), vs = [.ref b] ∧ IsBlk K H b t l bo ri ∧ Q (.bl (colsB t bo ri)) H
theorem scRows : FnScope ["block"] ["block"] (defScope sIsRows) := ⟨rfl, rfl, rfl, by decide +kernel, rfl, by decide +kernel, by decide +kernel⟩
theorem scCols : FnScope ["block"] ["block"] (defScope sIsColumns) := ⟨rfl, rfl, rfl, by decide +kernel, rfl, by decide +kernel, by decide +kernel⟩
theorem and3 {a : Int} {x y : Option Int} {H : Hp} {Q : VK} (q : Q (.bl (decide (a = 1) && (x.isNone && y.isSome))) H) :
    scal (.int a) (.int 1) = true ∧ ∃ c, V.bl (decide (V.int a = V.int 1)) = .bl c ∧ if c = true then ∃ c, V.bl (decide (oV x = .non)) = .bl c ∧ (if c = true then Q (.bl (!decide (oV y = .non))) H else Q (.bl false) H) else Q (.bl false) H := by
  refine ⟨rfl, _, rfl, ?_⟩
  by_cases h1 : a = 1
  · subst h1
    refine iteT ⟨_, rfl, ?_⟩
    cases x with
    | some x => exact iteF q
    | none => cases y <;> exact iteT q
  · rw [decide_eq_false h1] at q
    rw [decide_eq_false (fun z => h1 (V.int.inj z))]
    exact iteF q
theorem ok_rows (T : Top K mg) : FnOk P w K mg base CX0 1 (ga K "is_rows") (fdO K (ga K "is_rows")) ["block"] (spRows K) := by
  refine T.dIsRows.F.ok scRows (fun vs H Q E h => ?_) (fun cdv A outer s H vs Q E hr h => ?_)
  · obtain ⟨b, t, l, bo, ri, rfl, _⟩ := h
    rfl
  · obtain ⟨b, t, l, bo, ri, rfl, hb, q⟩ := h
    refine ⟨_, PSs.nox (pss_one (ps_ret (pe_and (pe_cmpR op_eq (pe_bLeft T (pv 0)) pe_int (nomark _)) (pe_and (pe_cmp (pc_isN (pe_bRight T (pv 0))) rfl) (pe_one (pe_cmp (pc_notN (pe_bBottom T (pv 0))) rfl)))))), ?_⟩
    refine ⟨_, rfl, b, t, l, bo, ri, rfl, hb, ?_⟩
    obtain ⟨h1, c, h2, h3⟩ := and3 (a := l) (x := ri) (y := bo) (H := H) (Q := Q) q
    refine ⟨h1, c, h2, ?_⟩
    cases c with
    | false => exact h3
    | true =>
      obtain ⟨c, h4, h5⟩ := h3
      refine iteT ⟨_, rfl, b, t, l, bo, ri, rfl, hb, c, h4, ?_⟩
      cases c with
      | false => exact h5
      | true => exact iteT ⟨_, rfl, b, t, l, bo, ri, rfl, hb, h5⟩
theorem ok_cols (T : Top K mg) : FnOk P w K mg base CX0 1 (ga K "is_columns") (fdO K (ga K "is_columns")) ["block"] (spCols K) := by
  refine T.dIsColumns.F.ok scCols (fun vs H Q E h => ?_) (fun cdv A outer s H vs Q E hr h => ?_)
  · obtain ⟨b, t, l, bo, ri, rfl, _⟩ := h
    rfl
  · obtain ⟨b, t, l, bo, ri, rfl, hb, q⟩ := h
    refine ⟨_, PSs.nox (pss_one (ps_ret (pe_and (pe_cmpR op_eq (pe_bTop T (pv 0)) pe_int (nomark _)) (pe_and (pe_cmp (pc_isN (pe_bBottom T (pv 0))) rfl) (pe_one (pe_cmp (pc_notN (pe_bRight T (pv 0))) rfl)))))), ?_⟩
    refine ⟨_, rfl, b, t, l, bo, ri, rfl, hb, ?_⟩
    obtain ⟨h1, c, h2, h3⟩ := and3 (a := t) (x := bo) (y := ri) (H := H) (Q := Q) q
    refine ⟨h1, c, h2, ?_⟩
    cases c with
    | false => exact h3
    | true =>
      obtain ⟨c, h4, h5⟩ := h3
      refine iteT ⟨_, rfl, b, t, l, bo, ri, rfl, hb, c, h4, ?_⟩
      cases c with
      | false => exact h5
      | true => exact iteT ⟨_, rfl, b, t, l, bo, ri, rfl, hb, h5⟩
/-! ### numbers_beside -/
def spBeside : Sp := fun vs H Q _ => ∃ (x y : L), vs = [sv x, sv y] ∧ x.length + y.length ≤ 100000 ∧ Q (sv (x ++ y)) H
theorem scBeside : FnScope ["row", "column"] ["row", "column"] (defScope sNumbersBeside) := ⟨rfl, rfl, rfl, by decide +kernel, rfl, by decide +kernel, by decide +kernel⟩
theorem ok_beside (T : Top K mg) : FnOk P w K mg base CX0 1 (ga K "numbers_beside") (fdO K (ga K "numbers_beside")) ["row", "column"] spBeside := by
  refine T.dNumbersBeside.F.ok scBeside (fun vs H Q E h => ?_) (fun cdv A outer s H vs Q E hr h => ?_)
  · obtain ⟨x, y, rfl, _⟩ := h
    rfl
  · obtain ⟨x, y, rfl, hl, q⟩ := h
    exact ⟨_, PSs.nox (pss_one (ps_ret (pe_op op_cat (pv 0) (pv 1)))), _, rfl, _, rfl, x, y, rfl, rfl, hl, q⟩
/-! ### Block.size -/
def sizeO (t l : Int) (bo ri : Option Int) : Option Int := match bo, ri with
  | some b, some r => some ((b - t + 1) * (r - l + 1))
  | _, _ => none
def fits (t l : Int) (bo ri : Option Int) : Prop := ∀ b r, bo = some b → ri = some r → -(2 ^ 64) < b - t + 1 ∧ b - t + 1 < 2 ^ 64
def spSize (K : PySem.W.Frag) : Sp := fun vs H Q _ => ∃ (b : Addr) (t l : Int) (bo ri : Option Int), vs = [.ref b] ∧ IsBlk K H b t l bo ri ∧ fits t l bo ri ∧ Q (oV (sizeO t l bo ri)) H
theorem scSize : FnScope ["self"] ["self"] (defScope sBlockSize) := ⟨rfl, rfl, rfl, by decide +kernel, rfl, by decide +kernel, by decide +kernel⟩
theorem ok_size (T : Top K mg) : FnOk P w K mg base CX0 1 (ma K (ga K "Block") "size") (fdO K (ma K (ga K "Block") "size")) ["self"] (spSize K) := by
  refine T.mBlockSize.ok scSize (fun vs H Q E h => ?_) (fun cdv A outer s H vs Q E hr h => ?_)
  · obtain ⟨b, t, l, bo, ri, rfl, _⟩ := h
    rfl
  · obtain ⟨b, t, l, bo, ri, rfl, hb, hf, q⟩ := h
    refine ⟨_, PSs.nox (pss_cons (ps_if (pw_or (pt_cmp (pc_isN (pe_bBottom T (pv 0))) rfl) (pw_or1 (pt_cmp (pc_isN (pe_bRight T (pv 0))) rfl))).pt (pss_one (ps_ret pe_non)) pss_nil)
      (pss_one (ps_ret (pe_op op_mul (pe_op op_add (pe_op op_sub (pe_bBottom T (pv 0)) (pe_bTop T (pv 0))) pe_int) (pe_op op_add (pe_op op_sub (pe_bRight T (pv 0)) (pe_bLeft T (pv 0))) pe_int))))), ?_⟩
    refine ⟨_, rfl, b, t, l, bo, ri, rfl, hb, _, rfl, ?_⟩
    cases bo with
    | none => exact iteT (iteT q)
    | some bo =>
      refine iteF ⟨_, rfl, b, t, l, some bo, ri, rfl, hb, _, rfl, ?_⟩
      cases ri with
      | none => exact iteT q
      | some ri =>
        refine iteF ?_
        refine ⟨_, rfl, b, t, l, some bo, some ri, rfl, hb, _, rfl, b, t, l, some bo, some ri, rfl, hb, _, _, rfl, rfl, _, _, rfl, rfl, ?_⟩
        refine ⟨_, rfl, b, t, l, some bo, some ri, rfl, hb, _, rfl, b, t, l, some bo, some ri, rfl, hb, _, _, rfl, rfl, _, _, rfl, rfl, ?_⟩
        exact ⟨_, _, rfl, rfl, .inl (hf _ _ rfl rfl), q⟩
end
end K28

set_option Elab.async false
set_option linter.all false
set_option maxRecDepth 100000
set_option maxHeartbeats 4000000
/-! The program, def by def: marks, ends' texts, a block's text by ends. -/
namespace K28
open PySem PySem.Spec L2
open He (ga ma)
open PyProof.Rows (boot_isinstance)
section
variable {P : Program} {w : World} {K : PySem.W.Frag} {mg : Str → Option Value} {base : Heap}
/-! ### how calls bind -/
theorem bi_whole (T : Top K mg) : Binds K (fdO K (ga K "is_whole")) ["thing"] [] := T.dIsWhole.F.bindsN fun _ _ _ _ _ _ us hl => match us, hl with | [_], _ => rfl
theorem bi_count (T : Top K mg) : Binds K (fdO K (ga K "is_count")) ["thing"] [] := T.dIsCount.F.bindsN fun _ _ _ _ _ _ us hl => match us, hl with | [_], _ => rfl
theorem bi_cell (T : Top K mg) : Binds K (fdO K (ga K "is_cell")) ["thing"] [] := T.dIsCell.F.bindsN fun _ _ _ _ _ _ us hl => match us, hl with | [_], _ => rfl
theorem bi_chk (T : Top K mg) : Binds K (fdO K (ga K "checked_cell")) ["thing"] [] := T.dCheckedCell.F.bindsN fun _ _ _ _ _ _ us hl => match us, hl with | [_], _ => rfl
theorem bi_end (T : Top K mg) : Binds K (fdO K (ga K "is_end")) ["first", "last"] [] := T.dIsEnd.F.bindsN fun _ _ _ _ _ _ us hl => match us, hl with | [_, _], _ => rfl
theorem bi_rows (T : Top K mg) : Binds K (fdO K (ga K "is_rows")) ["block"] [] := T.dIsRows.F.bindsN fun _ _ _ _ _ _ us hl => match us, hl with | [_], _ => rfl
theorem bi_cols (T : Top K mg) : Binds K (fdO K (ga K "is_columns")) ["block"] [] := T.dIsColumns.F.bindsN fun _ _ _ _ _ _ us hl => match us, hl with | [_], _ => rfl
theorem bi_beside (T : Top K mg) : Binds K (fdO K (ga K "numbers_beside")) ["row", "column"] [] := T.dNumbersBeside.F.bindsN fun _ _ _ _ _ _ us hl => match us, hl with | [_, _], _ => rfl
theorem bi_size (T : Top K mg) : Binds K (fdO K (ma K (ga K "Block") "size")) ["self"] [] := T.mBlockSize.bindsN fun _ _ _ _ _ _ us hl => match us, hl with | [_], _ => rfl
/-! ### may_be, are_marks -/
def spMay (K : PySem.W.Frag) : Sp := fun vs H Q _ => ∃ (p : Addr) (m0 m1 st one : Bool) (l : Option Int), vs = [.ref p, .bl st, oV l, .bl one] ∧ SqT K H p [.bl m0, .bl m1] ∧ Q (.bl (mayBe m0 m1 st l one)) H
theorem scMay : FnScope ["marks", "stands", "last", "is_one"] ["marks", "stands", "last", "is_one"] (defScope sMayBe) := ⟨rfl, rfl, rfl, by decide +kernel, rfl, by decide +kernel, by decide +kernel⟩
theorem ok_may (T : Top K mg) : FnOk P w K mg base CX0 1 (ga K "may_be") (fdO K (ga K "may_be")) ["marks", "stands", "last", "is_one"] (spMay K) := by
  refine T.dMayBe.F.ok scMay (fun vs H Q E h => ?_) (fun cdv A outer s H vs Q E hr h => ?_)
  · obtain ⟨p, m0, m1, st, one, l, rfl, _⟩ := h
    rfl
  · obtain ⟨p, m0, m1, st, one, l, rfl, hp, q⟩ := h
    refine ⟨_, PSs.nox (pss_cons (ps_if (pw_or (pw_and (pt_val (pe_ix ix_tup (pv 0) pe_int (fun _ _ => rfl))) (pw_and1 (pt_not (pt_val (pv 1))))).pt (pw_or1 (pw_and (pt_val (pe_ix ix_tup (pv 0) pe_int (fun _ _ => rfl)))
      (pw_and1 (pw_or (pt_not (pt_val (pv 1))) (pw_or1 (pt_cmp (pc_isN (pv 2)) rfl))).pt)).pt)).pt (pss_one (ps_ret pe_bl)) pss_nil)
      (pss_one (ps_ret (pe_or (pe_not (pv 3)) (pe_one (pe_cmpR op_eq (pe_ix ix_tup (pv 0) pe_int (fun _ _ => rfl)) (pe_ix ix_tup (pv 0) pe_int (fun _ _ => rfl)) (nomark _))))))), ?_⟩
    have i0 : atI [V.bl m0, V.bl m1] 0 = some (.bl m0) := rfl
    have i1 : atI [V.bl m0, V.bl m1] 1 = some (.bl m1) := rfl
    have fin : (m0 && !st || m1 && (!st || l.isNone)) = false → ∀ R : VK, R = Q → ∃ v, (L2.start ["marks", "stands", "last", "is_one"] [.ref p, .bl st, oV l, .bl one])[3]? = some (some v) ∧ ∃ c, v = .bl c ∧ ∃ c', V.bl (!c) = .bl c' ∧ if c' = true then R (.bl true) H else
        tOp rEq (tOp (rIxT K) (tVar 0) (tC (.int 0))) (tOp (rIxT K) (tVar 0) (tC (.int 1))) (L2.start ["marks", "stands", "last", "is_one"] [.ref p, .bl st, oV l, .bl one]) H R := fun e R eR => by
      subst eR
      have q2 : R (.bl (!one || m0 == m1)) H := by
        have z : mayBe m0 m1 st l one = (!one || m0 == m1) := by
          unfold mayBe
          rw [e, if_neg Bool.false_ne_true]
        rw [z] at q
        exact q
      refine ⟨_, rfl, one, rfl, _, rfl, ?_⟩
      cases one with
      | false => exact iteT q2
      | true =>
        refine iteF ⟨_, rfl, p, _, _, _, rfl, rfl, hp, i0, _, rfl, p, _, _, _, rfl, rfl, hp, i1, rfl, ?_⟩
        rw [dec_bl]
        exact q2
    have bad : (m0 && !st || m1 && (!st || l.isNone)) = true → Q (.bl false) H := fun e => by
      have z : mayBe m0 m1 st l one = false := by
        unfold mayBe
        rw [e, if_pos rfl]
      rw [z] at q
      exact q
    have second : (m0 && !st) = false → ∀ R : Bool → Hp → Prop, (∀ b, b = (m1 && (!st || l.isNone)) → R b H) → tAnd (tB (tOp (rIxT K) (tVar 0) (tC (.int 1)))) (tOr (tNot (tB (tVar 1))) (tB (tIsN (tVar 2)))) (L2.start ["marks", "stands", "last", "is_one"] [.ref p, .bl st, oV l, .bl one]) H R := fun e R hR => by
      refine ⟨_, rfl, p, _, _, _, rfl, rfl, hp, i1, m1, rfl, ?_⟩
      cases m1 with
      | false => exact iteF (hR _ rfl)
      | true =>
        refine iteT ⟨_, rfl, st, rfl, ?_⟩
        cases st with
        | false => exact iteT (hR _ rfl)
        | true =>
          refine iteF ⟨_, rfl, _, rfl, hR _ ?_⟩
          rw [oV_none]
          rfl
    refine ⟨_, rfl, p, _, _, _, rfl, rfl, hp, i0, m0, rfl, ?_⟩
    have go : (m0 && !st) = false → tAnd (tB (tOp (rIxT K) (tVar 0) (tC (.int 1)))) (tOr (tNot (tB (tVar 1))) (tB (tIsN (tVar 2)))) (L2.start ["marks", "stands", "last", "is_one"] [.ref p, .bl st, oV l, .bl one]) H fun b H1 => if b = true then Q (.bl false) H1 else
        ∃ v, (L2.start ["marks", "stands", "last", "is_one"] [.ref p, .bl st, oV l, .bl one])[3]? = some (some v) ∧ ∃ c, v = .bl c ∧ ∃ c', V.bl (!c) = .bl c' ∧ if c' = true then Q (.bl true) H1 else
        tOp rEq (tOp (rIxT K) (tVar 0) (tC (.int 0))) (tOp (rIxT K) (tVar 0) (tC (.int 1))) (L2.start ["marks", "stands", "last", "is_one"] [.ref p, .bl st, oV l, .bl one]) H1 Q := fun e => by
      refine second e _ fun b eb => ?_
      cases b with
      | true => exact iteT (bad (by rw [e, ← eb]; rfl))
      | false => exact iteF (fin (by rw [e, ← eb]; rfl) _ rfl)
    cases m0 with
    | false => exact iteF (iteF (go rfl))
    | true =>
      refine iteT ⟨_, rfl, st, rfl, ?_⟩
      cases st with
      | false => exact iteT (iteT (bad rfl))
      | true => exact iteF (go rfl)
theorem bi_may (T : Top K mg) : Binds K (fdO K (ga K "may_be")) ["marks", "stands", "last", "is_one"] [] := T.dMayBe.F.bindsN fun _ _ _ _ _ _ us hl => match us, hl with | [_, _, _, _], _ => rfl
def spMarks : Sp := fun vs H Q _ => ∃ (a : Addr) (x y : Bool), vs = [.ref a] ∧ H a = some (.tup [.bl x, .bl y]) ∧ ∀ H', Same H H' → Q (.bl true) H'
theorem scMarks : FnScope ["marks", "mark"] ["marks"] (defScope sAreMarks) := ⟨rfl, rfl, rfl, by decide +kernel, rfl, by decide +kernel, by decide +kernel⟩
theorem ok_marks (T : Top K mg) : FnOk P w K mg base CX0 1 (ga K "are_marks") (fdO K (ga K "are_marks")) ["marks"] spMarks := by
  refine T.dAreMarks.F.ok scMarks (fun vs H Q E h => ?_) (fun cdv A outer s H vs Q E hr h => ?_)
  · obtain ⟨a, x, y, rfl, _⟩ := h
    rfl
  · obtain ⟨a, x, y, rfl, ha, q⟩ := h
    refine ⟨_, PSs.nox (pss_one (ps_ret (pe_and (pe_callB call_isi (by rfl) T.zIsinstance boot_isinstance (pa_cons (pv 0) (pa_cons (pe_bltn (v := .ty "tuple") (by rfl) T.zTuple (by decide +kernel) rfl) pa_nil)))
      (pe_and (pe_cmpR op_eq (pe_callB call_len_seq (by rfl) T.zLen (by decide +kernel) (pa_cons (pv 0) pa_nil)) pe_int (nomark _))
      (pe_one (pe_callB (cr_all rfl) (by rfl) T.zAll (by decide +kernel) (pa_cons
        (pe_lc (own := [("mark", 1)]) (g := gName 1) (tt := tYes) rfl scMarks.nd (pi_tup (pv 0)) (blkOk_by (N := ["marks", "mark"]) (sc := defScope sAreMarks) (by decide +kernel)) (fun _ _ _ _ _ => pg_name (i := 1) scMarks.nd rfl (Or.inl rfl))
          (fun _ _ _ _ _ => pts_nil) (fun _ _ _ _ _ => pe_callB (r := rIsi K) call_isi (by rfl) T.zIsinstance boot_isinstance (pa_cons (pv 1) (pa_cons (pe_bltn (v := .ty "bool") (by rfl) T.zBool (by decide +kernel) rfl) pa_nil)))) pa_nil))))))), ?_⟩
    refine ⟨_, rfl, _, _, _, _, true, rfl, .ty "tuple", .base (.tup ha), kit_ty (by decide +kernel), true, rfl, iteT ?_⟩
    refine ⟨_, rfl, a, _, rfl, .inr (SqT.of ha), rfl, true, rfl, iteT ?_⟩
    refine ⟨_, rfl, a, rfl, ⟨_, SqT.of ha⟩, fun D hD => ?_⟩
    refine lc_tupM (xs := [.bl x, .bl y]) (ys := [.bl true, .bl true]) (SqT.of ha) rfl (small_lt (by decide)) hD (fun i x' y' H1 hx hy s1 => ?_) fun H1 s1 hl => ?_
    · intro R N hR
      refine ⟨rfl, _, rfl, ?_⟩
      have : ∃ k : Bool, x' = .bl k ∧ y' = .bl true := by
        match i, hx, hy with
        | 0, hx, hy => exact ⟨x, (Option.some.inj hx).symm, (Option.some.inj hy).symm⟩
        | 1, hx, hy => exact ⟨y, (Option.some.inj hx).symm, (Option.some.inj hy).symm⟩
      obtain ⟨k, rfl, rfl⟩ := this
      exact ⟨_, _, _, _, true, rfl, .ty "bool", .base (.bl k), kit_ty (by decide +kernel), hR _ (Same.refl _)⟩
    · exact ⟨D, [true, true], rfl, SqL.of hl, q _ s1⟩
theorem bi_marks (T : Top K mg) : Binds K (fdO K (ga K "are_marks")) ["marks"] [] := T.dAreMarks.F.bindsN fun _ _ _ _ _ _ us hl => match us, hl with | [_], _ => rfl
/-! ### far_text -/
def farTL (x : L) (e : Option Int) (m : Bool) (here : Int) : L := match e with
  | none => []
  | some n => x ++ endTail n m here
def spFarText : Sp := fun vs H Q _ => ∃ (x : L) (e : Option Int) (m : Bool) (here : Int), vs = [sv x, oV e, .bl m, .int here] ∧ x.length ≤ 1000 ∧ (∀ n, e = some n → Sm n ∧ Sm (n - here)) ∧ Q (sv (farTL x e m here)) H
theorem scFarText : FnScope ["letter", "end", "mark", "here"] ["letter", "end", "mark", "here"] (defScope sFarText) := ⟨rfl, rfl, rfl, by decide +kernel, rfl, by decide +kernel, by decide +kernel⟩
theorem ok_farText (T : Top K mg) : FnOk P w K mg base CX0 1 (ga K "far_text") (fdO K (ga K "far_text")) ["letter", "end", "mark", "here"] spFarText := by
  refine T.dFarText.F.ok scFarText (fun vs H Q E h => ?_) (fun cdv A outer s H vs Q E hr h => ?_)
  · obtain ⟨x, e, m, here, rfl, _⟩ := h
    rfl
  · obtain ⟨x, e, m, here, rfl, hx, hb, q⟩ := h
    refine ⟨_, PSs.nox (pss_cons (ps_if (pt_cmp (pc_isN (pv 1)) rfl) (pss_one (ps_ret (pe_lit []))) pss_nil)
      (pss_cons (ps_if (pt_val (pv 2)) (pss_one (ps_ret (pe_op op_cat (pv 0) (pe_callTy call_strL (by rfl) T.zStr (by decide +kernel) (pa_cons (pv 1) pa_nil))))) pss_nil)
      (pss_cons (ps_if (pt_cmpR op_eq (pv 1) (pv 3) (nomark _)) (pss_one (ps_ret (pv 0))) pss_nil)
      (pss_one (ps_ret (pe_op op_cat (pe_op op_cat (pe_op op_cat (pv 0) (pe_lit [91])) (pe_callTy call_strL (by rfl) T.zStr (by decide +kernel) (pa_cons (pe_op op_sub (pv 1) (pv 3)) pa_nil))) (pe_lit [93]))))))), ?_⟩
    refine ⟨_, rfl, _, rfl, ?_⟩
    cases e with
    | none => exact iteT q
    | some n =>
      obtain ⟨b1, b2⟩ := hb n rfl
      have l1 := intL_len b1
      have l2 := intL_len b2
      refine iteF ⟨_, rfl, m, rfl, ?_⟩
      cases m with
      | true => exact iteT ⟨_, rfl, _, rfl, n, rfl, b1, x, intL n, rfl, rfl, by omega, q⟩
      | false =>
        refine iteF ⟨_, rfl, _, rfl, rfl, _, rfl, ?_⟩
        by_cases e : n = here
        · subst e
          rw [show decide (oV (some n) = V.int n) = true from decide_eq_true rfl]
          refine iteT ⟨_, rfl, ?_⟩
          have e2 : farTL x (some n) false n = x := by
            show x ++ (if false = true then _ else if n = n then [] else _) = x
            rw [if_neg Bool.false_ne_true, if_pos rfl, List.append_nil]
          rw [e2] at q
          exact q
        · rw [show decide (oV (some n) = V.int here) = false from decide_eq_false fun z => e (V.int.inj z)]
          refine iteF ?_
          have e2 : farTL x (some n) false here = ((x ++ [91]) ++ intL (n - here)) ++ [93] := by
            show x ++ (if false = true then _ else if n = here then [] else _) = _
            rw [if_neg Bool.false_ne_true, if_neg e]
            simp
          rw [e2] at q
          have l3 : (x ++ [91]).length = x.length + 1 := by simp
          have l4 : ((x ++ [91]) ++ intL (n - here)).length = x.length + 1 + (intL (n - here)).length := by
            simp
            omega
          refine ⟨_, rfl, x, [91], rfl, rfl, by show _ + 1 ≤ _; omega, ?_⟩
          refine ⟨_, rfl, _, rfl, _, _, rfl, rfl, _, rfl, b2, x ++ [91], intL (n - here), rfl, rfl, by rw [l3]; omega, ?_⟩
          exact ⟨_, [93], rfl, rfl, by rw [l4]; show _ + 1 ≤ _; omega, q⟩
theorem bi_farText (T : Top K mg) : Binds K (fdO K (ga K "far_text")) ["letter", "end", "mark", "here"] [] := T.dFarText.F.bindsN fun _ _ _ _ _ _ us hl => match us, hl with | [_, _, _, _], _ => rfl
/-! ### by_ends -/
def byEnds (rows cols one : Bool) (r0 r1 c0 c1 : L) : L := if rows = true then r0 ++ 58 :: r1 else if cols = true then c0 ++ 58 :: c1 else if one = true then r0 ++ c0 else (r0 ++ c0) ++ 58 :: (r1 ++ c1)
def oneB (t l : Int) (bo ri : Option Int) : Bool := match bo, ri with
  | some b, some r => decide ((b - t + 1) * (r - l + 1) = 1)
  | _, _ => false
theorem size_scal (t l : Int) (bo ri : Option Int) : scal (oV (sizeO t l bo ri)) (.int 1) = true := by
  cases bo with
  | none => rfl
  | some b => cases ri <;> rfl
theorem size_one (t l : Int) (bo ri : Option Int) : decide (oV (sizeO t l bo ri) = .int 1) = oneB t l bo ri := by
  cases bo with
  | none => rfl
  | some b =>
    cases ri with
    | none => rfl
    | some r =>
      show decide (V.int ((b - t + 1) * (r - l + 1)) = V.int 1) = decide _
      by_cases h : (b - t + 1) * (r - l + 1) = 1
      · rw [h, decide_eq_true rfl, decide_eq_true rfl]
      · rw [decide_eq_false h, decide_eq_false fun z => h (V.int.inj z)]
def spByEnds (K : PySem.W.Frag) : Sp := fun vs H Q _ => ∃ (b pr pc : Addr) (t l : Int) (bo ri : Option Int) (r0 r1 c0 c1 : L), vs = [.ref b, .ref pr, .ref pc, .ref (ga K "numbers_beside")] ∧ IsBlk K H b t l bo ri ∧ fits t l bo ri ∧
  SqL K H pr [sv r0, sv r1] ∧ SqL K H pc [sv c0, sv c1] ∧ (r0.length ≤ 1000 ∧ r1.length ≤ 1000 ∧ c0.length ≤ 1000 ∧ c1.length ≤ 1000) ∧ Q (sv (byEnds (rowsB l bo ri) (colsB t bo ri) (oneB t l bo ri) r0 r1 c0 c1)) H
theorem scByEnds : FnScope ["block", "rows", "columns", "together", "first"] ["block", "rows", "columns", "together"] (defScope sByEnds) := ⟨rfl, rfl, rfl, by decide +kernel, rfl, by decide +kernel, by decide +kernel⟩
theorem ok_byEnds (T : Top K mg) : FnOk P w K mg base CX0 2 (ga K "by_ends") (fdO K (ga K "by_ends")) ["block", "rows", "columns", "together"] (spByEnds K) := by
  refine T.dByEnds.F.ok scByEnds (fun vs H Q E h => ?_) (fun cdv A outer s H vs Q E hr h => ?_)
  · obtain ⟨b, pr, pc, t, l, bo, ri, r0, r1, c0, c1, rfl, _⟩ := h
    rfl
  · obtain ⟨b, pr, pc, t, l, bo, ri, r0, r1, c0, c1, rfl, hb, hf, hr0, hc0, ⟨l1, l2, l3, l4⟩, q⟩ := h
    refine ⟨_, PSs.nox (pss_cons (ps_if (pt_val (pe_call (ok_rows T) hr (by rfl) T.dIsRows.g T.dIsRows.F.kp (bi_rows T) .nil pass0 (pa_cons (pv 0) pa_nil))) (pss_one (ps_ret (pe_op op_cat (pe_op op_cat (pe_ix ix_list (pv 1) pe_int (fun _ _ => rfl)) (pe_lit [58])) (pe_ix ix_list (pv 1) pe_int (fun _ _ => rfl))))) pss_nil)
      (pss_cons (ps_if (pt_val (pe_call (ok_cols T) hr (by rfl) T.dIsColumns.g T.dIsColumns.F.kp (bi_cols T) .nil pass0 (pa_cons (pv 0) pa_nil))) (pss_one (ps_ret (pe_op op_cat (pe_op op_cat (pe_ix ix_list (pv 2) pe_int (fun _ _ => rfl)) (pe_lit [58])) (pe_ix ix_list (pv 2) pe_int (fun _ _ => rfl))))) pss_nil)
      (pss_cons (ps_set (i := 4) scByEnds.nd rfl (Or.inl rfl) (pe_callL (i := 3) (ok_beside T) (hr.mono (by decide)) rfl (Or.inl rfl) T.dNumbersBeside.F.kp (bi_beside T) .nil pass0 (pa_cons (pe_ix ix_list (pv 1) pe_int (fun _ _ => rfl)) (pa_cons (pe_ix ix_list (pv 2) pe_int (fun _ _ => rfl)) pa_nil))))
      (pss_cons (ps_if (pt_cmpR op_eq (pe_meth0 (pv 0) T.cBlock T.meSize (ok_size T) hr (bi_size T) .nil pass0) pe_int (nomark _)) (pss_one (ps_ret (pv 4))) pss_nil)
      (pss_one (ps_ret (pe_op op_cat (pe_op op_cat (pv 4) (pe_lit [58])) (pe_callL (i := 3) (ok_beside T) (hr.mono (by decide)) rfl (Or.inl rfl) T.dNumbersBeside.F.kp (bi_beside T) .nil pass0 (pa_cons (pe_ix ix_list (pv 1) pe_int (fun _ _ => rfl)) (pa_cons (pe_ix ix_list (pv 2) pe_int (fun _ _ => rfl)) pa_nil)))))))))), ?_⟩
    have i0 : ∀ x y : L, atI [sv x, sv y] 0 = some (sv x) := fun _ _ => rfl
    have i1 : ∀ x y : L, atI [sv x, sv y] 1 = some (sv y) := fun _ _ => rfl
    have l11 : ∀ x y : L, (x ++ [58] ++ y : L) = x ++ 58 :: y := fun x y => by simp
    have ll : ∀ x y : L, (x ++ y).length = x.length + y.length := fun x y => by simp
    refine ⟨_, rfl, b, t, l, bo, ri, rfl, hb, _, rfl, ?_⟩
    unfold byEnds at q
    cases e1 : rowsB l bo ri with
    | true =>
      rw [e1, if_pos rfl, ← l11] at q
      refine iteT ⟨_, rfl, pr, _, _, _, rfl, rfl, hr0, i0 _ _, r0, [58], rfl, rfl, by show _ + 1 ≤ _; omega, _, rfl, pr, _, _, _, rfl, rfl, hr0, i1 _ _, _, r1, rfl, rfl, ?_, q⟩
      rw [ll]
      show _ + 1 + _ ≤ _
      omega
    | false =>
      rw [e1, if_neg Bool.false_ne_true] at q
      refine iteF ⟨_, rfl, b, t, l, bo, ri, rfl, hb, _, rfl, ?_⟩
      cases e2 : colsB t bo ri with
      | true =>
        rw [e2, if_pos rfl, ← l11] at q
        refine iteT ⟨_, rfl, pc, _, _, _, rfl, rfl, hc0, i0 _ _, c0, [58], rfl, rfl, by show _ + 1 ≤ _; omega, _, rfl, pc, _, _, _, rfl, rfl, hc0, i1 _ _, _, c1, rfl, rfl, ?_, q⟩
        rw [ll]
        show _ + 1 + _ ≤ _
        omega
      | false =>
        rw [e2, if_neg Bool.false_ne_true] at q
        refine iteF ⟨rfl, _, rfl, pr, _, _, _, rfl, rfl, hr0, i0 _ _, _, rfl, pc, _, _, _, rfl, rfl, hc0, i0 _ _, r0, c0, rfl, by omega, ?_⟩
        obtain ⟨dx, hb1⟩ := hb
        refine ⟨_, rfl, b, dx, _, rfl, hb1, blkF_size .., b, t, l, bo, ri, rfl, ⟨dx, hb1⟩, hf, size_scal t l bo ri, _, rfl, ?_⟩
        rw [size_one]
        cases e3 : oneB t l bo ri with
        | true =>
          rw [e3, if_pos rfl] at q
          exact iteT ⟨_, rfl, q⟩
        | false =>
          rw [e3, if_neg Bool.false_ne_true, ← l11] at q
          refine iteF ⟨_, rfl, r0 ++ c0, [58], rfl, rfl, ?_, rfl, _, rfl, pr, _, _, _, rfl, rfl, hr0, i1 _ _, _, rfl, pc, _, _, _, rfl, rfl, hc0, i1 _ _, r1, c1, rfl, by omega, _, r1 ++ c1, rfl, rfl, ?_, q⟩
          · rw [ll]
            show _ + _ + 1 ≤ _
            omega
          · rw [ll, ll, ll]
            show _ + _ + 1 + _ ≤ _
            omega
theorem bi_byEnds (T : Top K mg) : Binds K (fdO K (ga K "by_ends")) ["block", "rows", "columns", "together"] [] := T.dByEnds.F.bindsN fun _ _ _ _ _ _ us hl => match us, hl with | [_, _, _, _], _ => rfl
/-! ### checked_manner -/
def Org (r : Int) : Prop := 1 ≤ r ∧ r ≤ 1000000000000
theorem lit_numbers : ("numbers" : Str) = ("numbers" : Str) := rfl
def spManner : Sp := fun vs H Q _ => ∃ (a : Addr) (r c : Int), vs = [.str "numbers", .ref a] ∧ H a = some (.tup [.int r, .int c]) ∧ Org r ∧ Org c ∧ ∀ H', Same H H' → Q (.ref a) H'
theorem scManner : FnScope ["manner", "base"] ["manner", "base"] (defScope sCheckedManner) := ⟨rfl, rfl, rfl, by decide +kernel, rfl, by decide +kernel, by decide +kernel⟩
theorem ok_manner (T : Top K mg) : FnOk P w K mg base CX0 5 (ga K "checked_manner") (fdO K (ga K "checked_manner")) ["manner", "base"] spManner := by
  refine T.dCheckedManner.F.ok scManner (fun vs H Q E h => ?_) (fun cdv A outer s H vs Q E hr h => ?_)
  · obtain ⟨a, r, c, rfl, _⟩ := h
    rfl
  · obtain ⟨a, r, c, rfl, ha, hr1, hc1, q⟩ := h
    refine ⟨_, PSs.nox (pss_cons (ps_if (pt_cmpR op_notIn_seq (pv 0) (pe_glob (v := .ref (ga K "MANNERS")) (by rfl) T.gMANNERS rfl) rfl) pss_never pss_nil)
      (pss_cons (ps_if (pt_cmp (pc_isN (pv 1)) rfl) pss_never pss_nil)
      (pss_cons (ps_expr (pe_call (ok_chk T) hr (by rfl) T.dCheckedCell.g T.dCheckedCell.F.kp (bi_chk T) .nil pass0 (pa_cons (pv 1) pa_nil)))
      (pss_one (ps_ret (pv 1)))))), ?_⟩
    refine ⟨_, rfl, _, _, rfl, .inr (T.manners H), rfl, rfl, _, rfl, ?_⟩
    have e : inV (V.str "numbers") [V.str "letters", V.str "numbers"] = true := by decide +kernel
    rw [e]
    refine iteF ⟨_, rfl, _, rfl, iteF ⟨_, rfl, a, r, c, rfl, ha, hr1.1, hc1.1, fun H' s' => ⟨_, rfl, q _ s'⟩⟩⟩
theorem bi_manner (T : Top K mg) : Binds K (fdO K (ga K "checked_manner")) ["manner", "base"] [] := T.dCheckedManner.F.bindsN fun _ _ _ _ _ _ us hl => match us, hl with | [_, _], _ => rfl
end
end K28

set_option Elab.async false
set_option linter.all false
set_option maxRecDepth 100000
set_option maxHeartbeats 4000000
/-! The program, def by def: what raises: Block(..), NoText(), figures, ends. -/
namespace K28
open PySem PySem.Spec L2
open He (ga ma)
open PyProof.Rows (boot_isinstance)
section
variable {P : Program} {w : World} {K : PySem.W.Frag} {mg : Str → Option Value} {base : Heap}
/-! ### NoText.__init__ -/
theorem scNT : FnScope ["self", "line"] ["self", "line"] (defScope sNoTextInit) := ⟨rfl, rfl, rfl, by decide +kernel, rfl, by decide +kernel, by decide +kernel⟩
theorem spNT_len {C : Addr} : ∀ vs H Q E, spNT C vs H Q E → vs.length = 2 := fun vs H Q E h => by
  obtain ⟨a, l, rfl, _⟩ := h
  rfl
theorem ok_nt (T : Top K mg) : FnOk P w K mg base CX0 1 (ma K (ga K "NoText") "__init__") (fdO K (ma K (ga K "NoText") "__init__")) ["self", "line"] (spNT (ga K "NoText")) := by
  refine T.mNoTextInit.ok scNT spNT_len (fun cdv A outer s H vs Q E hr h => ?_)
  obtain ⟨a, l, rfl, ha, q⟩ := h
  refine ⟨_, PSs.nox (pss_cons (ps_expr (pe_ceinit T.ce (by rfl) T.gCellError (pa_cons (pv 0) (pa_cons pe_str pa_nil)))) (pss_one (ps_ost (pv 0) (pv 1)))), ?_⟩
  refine ⟨_, rfl, a, _, [.str _], rfl, by show 1 ≤ 1000; decide, T.nt.oex, ha, ?_⟩
  exact ⟨_, rfl, _, rfl, a, _, rfl, T.nt.oex, T.noLine, .inl ⟨ha, fun dx n ne => q dx n ne⟩⟩
theorem ok_ntH (T : Top K mg) : L2H.FnH P w K mg base CX0 1 (ma K (ga K "NoText") "__init__") (fdO K (ma K (ga K "NoText") "__init__")) ["self", "line"] (spNT (ga K "NoText")) := by
  obtain ⟨oc, od, dV, kV, doc, pm, an, cdv, ct, osl, e1, lk, hcd, _, _⟩ := T.mNoTextInit.ex
  rw [e1] at lk ⊢
  refine L2H.fn_ofH lk hcd scNT spNT_len (fun A outer s H vs Q E p hot hr h => ?_)
  obtain ⟨a, l, rfl, ha, q⟩ := h
  refine ⟨_, PSs.nox (pss_cons (ps_expr (pe_ceinit T.ce (by rfl) T.gCellError (pa_cons (pv 0) (pa_cons pe_str pa_nil)))) (pss_one (ps_ost (pv 0) (pv 1)))), ?_⟩
  refine ⟨_, rfl, a, _, [.str _], rfl, by show 1 ≤ 1000; decide, T.nt.oex, ha, ?_⟩
  exact ⟨_, rfl, _, rfl, a, _, rfl, T.nt.oex, T.noLine, .inl ⟨ha, fun dx n ne => q dx n ne⟩⟩
theorem bi_nt (T : Top K mg) : ∃ ds, Vals [V.int 0] ds ∧ Binds K (fdO K (ma K (ga K "NoText") "__init__")) ["self", "line"] ds :=
  T.mNoTextInit.binds1 (ps := ["self", "line"]) 1 0 (by simp) rfl fun T kV doc pm an cdv ct us its hu hi => match us, its, hu, hi with | [_], [_], _, _ => ⟨_, rfl, rfl⟩
/-! ### Block.__init__ -/
def blockB (t l : Int) (bo ri : Option Int) : Bool := decide (1 ≤ t) && (decide (1 ≤ l) && (isEnd t bo && isEnd l ri))
def spBI (K : PySem.W.Frag) : Sp := fun vs H Q E => ∃ (x dx : Addr) (t l : Int) (bo ri : Option Int), vs = [.ref x, .int t, .int l, oV bo, oV ri] ∧ H x = some (.ins (ga K "Block") dx []) ∧
  (blockB t l bo ri = true → Q .non (upd H x (.ins (ga K "Block") dx (blkF (.int t) (.int l) (oV bo) (oV ri))))) ∧ (blockB t l bo ri = false → E (.ref (ga K "NoBlock")) none H)
theorem scBI : FnScope ["self", "top", "left", "bottom", "right"] ["self", "top", "left", "bottom", "right"] (defScope sBlockInit) := ⟨rfl, rfl, rfl, by decide +kernel, rfl, by decide +kernel, by decide +kernel⟩
theorem upd_upd {H : Hp} {a : Addr} {x y : HO} : upd (upd H a x) a y = upd H a y := by
  funext b
  by_cases h : b = a
  · rw [h, upd_same, upd_same]
  · rw [upd_ne h, upd_ne h, upd_ne h]
theorem ok_bi (T : Top K mg) : FnOk P w K mg base (L2N.CX P w) 4 (ma K (ga K "Block") "__init__") (fdO K (ma K (ga K "Block") "__init__")) ["self", "top", "left", "bottom", "right"] (spBI K) := by
  obtain ⟨x1, x2, x3, x4⟩ := He.exc_ok T.excB
  refine T.mBlockInit.ok scBI (fun vs H Q E h => ?_) (fun cdv A outer s H vs Q E hr h => ?_)
  · obtain ⟨x, dx, t, l, bo, ri, rfl, _⟩ := h
    rfl
  · obtain ⟨x, dx, t, l, bo, ri, rfl, hx, q, e⟩ := h
    refine ⟨_, pss_cons (ps_if (pw_or (pt_not (pt_val (pe_call (ok_count T) (hr.mono (by decide)) (by rfl) T.dIsCount.g T.dIsCount.F.kp (bi_count T) .nil pass0 (pa_cons (pv 1) pa_nil))))
        (pw_or (pt_not (pt_val (pe_call (ok_count T) (hr.mono (by decide)) (by rfl) T.dIsCount.g T.dIsCount.F.kp (bi_count T) .nil pass0 (pa_cons (pv 2) pa_nil))))
        (pw_or (pt_not (pt_val (pe_call (ok_end T) hr (by rfl) T.dIsEnd.g T.dIsEnd.F.kp (bi_end T) .nil pass0 (pa_cons (pv 1) (pa_cons (pv 3) pa_nil)))))
        (pw_or1 (pt_not (pt_val (pe_call (ok_end T) hr (by rfl) T.dIsEnd.g T.dIsEnd.F.kp (bi_end T) .nil pass0 (pa_cons (pv 2) (pa_cons (pv 4) pa_nil))))))))).pt
        (pss_one (L2N.ps_raise rfl (L2N.takes_of rfl rfl rfl rfl) (L2N.pmk_own PySem.F.excBase_ValueError x1 T.gNoBlock x2 (raises_own x3 x4) (by rfl)))) pss_nil)
      (pss_cons (ps_fld (pv 0) (pv 1) rfl) (pss_cons (ps_fld (pv 0) (pv 2) rfl) (pss_cons (ps_fld (pv 0) (pv 3) rfl) (pss_one (ps_fld (pv 0) (pv 4) rfl))))), ?_⟩
    refine ⟨_, rfl, t, rfl, _, rfl, ?_⟩
    cases h1 : decide (1 ≤ t) with
    | false => exact iteT (iteT (e (by unfold blockB; rw [h1] <;> rfl)))
    | true =>
      refine iteF ⟨_, rfl, l, rfl, _, rfl, ?_⟩
      cases h2 : decide (1 ≤ l) with
      | false => exact iteT (iteT (e (by unfold blockB; rw [h1, h2] <;> rfl)))
      | true =>
        refine iteF ⟨_, rfl, _, rfl, t, bo, rfl, _, rfl, ?_⟩
        cases h3 : isEnd t bo with
        | false => exact iteT (iteT (e (by unfold blockB; rw [h1, h2, h3] <;> rfl)))
        | true =>
          refine iteF ⟨_, rfl, _, rfl, l, ri, rfl, _, rfl, ?_⟩
          cases h4 : isEnd l ri with
          | false => exact iteT (e (by unfold blockB; rw [h1, h2, h3, h4] <;> rfl))
          | true =>
            refine iteF ?_
            refine ⟨_, rfl, _, rfl, x, _, dx, _, rfl, hx, T.cBlock, T.nTop, by show 0 < 1000; decide, ?_⟩
            refine ⟨_, rfl, _, rfl, x, _, dx, _, rfl, upd_same, T.cBlock, T.nLeft, Nat.lt_of_le_of_lt (putF_len _ _ _) (by decide), ?_⟩
            refine ⟨_, rfl, _, rfl, x, _, dx, _, rfl, upd_same, T.cBlock, T.nBottom, Nat.lt_of_le_of_lt (Nat.le_trans (putF_len _ _ _) (Nat.succ_le_succ (putF_len _ _ _))) (by decide), ?_⟩
            refine ⟨_, rfl, _, rfl, x, _, dx, _, rfl, upd_same, T.cBlock, T.nRight, Nat.lt_of_le_of_lt (Nat.le_trans (putF_len _ _ _) (Nat.succ_le_succ (Nat.le_trans (putF_len _ _ _) (Nat.succ_le_succ (putF_len _ _ _))))) (by decide), ?_⟩
            rw [upd_upd, upd_upd, upd_upd]
            exact q (by unfold blockB; rw [h1, h2, h3, h4] <;> rfl)
theorem vals_nil_of {ds : List Value} (h : Vals [] ds) : ds = [] := by
  cases h
  rfl
theorem bi_bi (T : Top K mg) : Binds K (fdO K (ma K (ga K "Block") "__init__")) ["self", "top", "left", "bottom", "right"] [] := by
  obtain ⟨ds, h1, h2⟩ := T.mBlockInit.binds1 (ps := ["self", "top", "left", "bottom", "right"]) 5 4 (by simp) rfl fun T kV doc pm an cdv ct us its hu hi => match us, its, hu, hi with | [_, _, _, _, _], [_, _, _, _], _, _ => ⟨_, rfl, rfl⟩
  obtain rfl := vals_nil_of h1
  exact h2
/-- Block() -/
theorem bi_bi0 (T : Top K mg) : ∃ ds, Vals [V.int 1, V.int 1, V.non, V.non] ds ∧ Binds K (fdO K (ma K (ga K "Block") "__init__")) ["self", "top", "left", "bottom", "right"] ds :=
  T.mBlockInit.binds1 (ps := ["self", "top", "left", "bottom", "right"]) 1 0 (by simp) rfl fun T kV doc pm an cdv ct us its hu hi => match us, its, hu, hi with | [_], [_, _, _, _], _, _ => ⟨_, rfl, rfl⟩
/-! ### count_of -/
/-- NoText in the air: its dict is new, and nothing else has changed since H -/
def ENT (K : PySem.W.Frag) (E : XK) (H : Hp) : Prop := ∀ H1 d, Same H H1 → H1 d = none → E (.ref (ga K "NoText")) (some d) (upd H1 d (.xd [(("line" : Str), V.int 0)]))
theorem ENT.of {E : XK} {H H1 : Hp} (h : ENT K E H) (s : Same H H1) : ENT K E H1 := fun H2 d s2 hd => h H2 d (Same.trans s s2) hd
def spCountOf (K : PySem.W.Frag) : Sp := fun vs H Q E => ∃ l : L, vs = [sv l] ∧ l.length ≤ 100000 ∧ (∀ n, countOf l = some n → Q (.int n) H) ∧ (countOf l = none → ENT K E H)
theorem scCountOf : FnScope ["figures"] ["figures"] (defScope sCountOf) := ⟨rfl, rfl, rfl, by decide +kernel, rfl, by decide +kernel, by decide +kernel⟩
theorem ok_countOf (T : Top K mg) : FnOk P w K mg base (L2N.CX P w) 3 (ga K "count_of") (fdO K (ga K "count_of")) ["figures"] (spCountOf K) := by
  obtain ⟨ds, nd, nb⟩ := bi_nt T
  obtain ⟨tf, hf⟩ := T.figs
  obtain ⟨tm, hm⟩ := T.mostF
  refine T.dCountOf.F.ok scCountOf (fun vs H Q E h => ?_) (fun cdv A outer s H vs Q E hr h => ?_)
  · obtain ⟨l, rfl, _⟩ := h
    rfl
  · obtain ⟨l, rfl, hl, q, e⟩ := h
    refine ⟨_, pss_cons (ps_if (pw_or (pt_cmpR op_neL (pe_bm PySem.F.plainAttrs_str PySem.F.slot_str_strip PySem.F.type_str_strip mt_stripL (pv 0) (pa_cons (pe_glob (v := sv figsL) (by rfl) hf ⟨_, rfl⟩) pa_nil)) (pe_lit []) (nomark _))
        (pw_or1 (pt_not (pt_chain op_le op_le pe_int (pe_callB call_lenL (by rfl) T.zLen (by decide +kernel) (pa_cons (pv 0) pa_nil)) (pe_glob (v := .int 12) (by rfl) hm ⟨_, rfl⟩))))).pt
        (pss_one (L2N.ps_raise rfl (L2N.takes_of rfl rfl rfl rfl) (pmk_ntC T.nt (ok_nt T) hr nb nd (by rfl) T.gNoText))) pss_nil)
      (pss_one (ps_ret (pe_callTy call_intL (by rfl) T.zInt (by decide +kernel) (pa_cons (pv 0) pa_nil)))), ?_⟩
    have raise : countOf l = none → ∀ d, H d = none → E (.ref (ga K "NoText")) (some d) (upd H d (.xd [(("line" : Str), V.int 0)])) := fun c d hd => e c H d (Same.refl _) hd
    refine ⟨_, rfl, rfl, l, rfl, rfl, hl, fun l' hl' => ⟨l', [], rfl, rfl, _, rfl, ?_⟩⟩
    by_cases ha : allDig l = true
    · rw [hl'.mpr ha]
      refine iteF ?_
      refine ⟨_, rfl, l, rfl, hl, _, _, rfl, rfl, _, rfl, ?_⟩
      by_cases h1 : (1 : Int) ≤ (l.length : Int)
      · rw [decide_eq_true h1]
        refine iteT ⟨_, _, rfl, rfl, _, rfl, ?_⟩
        by_cases h2 : (l.length : Int) ≤ 12
        · rw [decide_eq_true h2]
          refine iteF ⟨_, rfl, l, rfl, ha, by omega, by omega, q _ ?_⟩
          unfold countOf
          rw [if_pos ⟨ha, by omega, by omega⟩]
        · rw [decide_eq_false h2]
          refine iteT (raise ?_)
          unfold countOf
          rw [if_neg fun z => by omega]
      · rw [decide_eq_false h1]
        refine iteF ⟨_, rfl, iteT (raise ?_)⟩
        unfold countOf
        rw [if_neg fun z => by omega]
    · have hne : ¬ l' = [] := fun z => ha (hl'.mp z)
      rw [decide_eq_false hne]
      refine iteT (iteT (raise ?_))
      unfold countOf
      rw [if_neg fun z => ha z.1]
theorem bi_countOf (T : Top K mg) : Binds K (fdO K (ga K "count_of")) ["figures"] [] := T.dCountOf.F.bindsN fun _ _ _ _ _ _ us hl => match us, hl with | [_], _ => rfl
/-! ### far_of -/
theorem atI0 (c : Nat) (r : L) : atI (c :: r) 0 = some c := atI_nat (j := 0) rfl
theorem atI_m1 {c : Nat} {r : L} {x : Nat} (h : (c :: r).getLast? = some x) : atI (c :: r) (-1) = some x := by
  obtain ⟨ys, e⟩ := List.getLast?_eq_some_iff.mp h
  rw [e]
  exact atI_last ys x
theorem cut_from1 (c : Nat) (r : L) : cutL (c :: r) (some 1) none = r := by
  unfold cutL
  have e : HT.sIx (c :: r).length 0 (some 1) = 1 := by
    rw [show (some 1 : Option Int) = some ((1 : Nat) : Int) from rfl, HT.sIx_nat]
    simp
  rw [e, HT.sIx_none]
  simp
theorem cut_mid (k : Nat) (l : L) : cutL l (some (k : Int)) (some (-1)) = mid k l := by
  unfold cutL mid
  have e2 : HT.sIx l.length l.length (some (-1)) = l.length - 1 := by
    show (if (-1 : Int) < 0 then (-1 + (l.length : Int)).toNat else min (-1 : Int).toNat l.length) = _
    rw [if_pos (by decide)]
    omega
  rw [HT.sIx_nat, e2, List.dropLast_eq_take]
  refine List.ext_getElem? fun i => ?_
  rw [List.getElem?_take, List.getElem?_drop, List.getElem?_drop, List.getElem?_take]
  by_cases hk : k ≤ l.length
  · rw [Nat.min_eq_left hk]
    by_cases h1 : i < l.length - 1 - k
    · rw [if_pos h1, if_pos (by omega)]
    · rw [if_neg h1]
      by_cases h2 : k + i < l.length - 1
      · omega
      · rw [if_neg h2]
  · rw [Nat.min_eq_right (by omega), if_neg (by omega), if_neg (by omega)]
theorem cut_from1' (l : L) : cutL l (some 1) none = l.drop 1 := by
  cases l with
  | nil => rfl
  | cons c r => exact cut_from1 c r
theorem mid_len (k : Nat) (l : L) : (mid k l).length ≤ l.length := by
  unfold mid
  rw [List.length_drop, List.length_dropLast]
  omega
def spFarOf (K : PySem.W.Frag) : Sp := fun vs H Q E => ∃ (l : L) (here : Int), vs = [sv l, .int here] ∧ l.length ≤ 100000 ∧ (∀ n m, farOf l here = some (n, m) → ∀ H' p, Same H H' → H' p = some (.tup [.int n, .bl m]) → Q (.ref p) H') ∧ (farOf l here = none → ENT K E H)
theorem scFarOf : FnScope ["word", "here", "figures"] ["word", "here"] (defScope sFarOf) := ⟨rfl, rfl, rfl, by decide +kernel, rfl, by decide +kernel, by decide +kernel⟩
theorem passL {X : Cx} {E : XK} (tk : L2N.Takes X (fun cls d _ H => E cls d H)) : Passes (L2N.CX X.prog X.w) X E := fun pins σ H s e s' I c => L2N.passes_call (E := E) tk (fun _ _ _ _ h => h) pins σ H s e s' I c
theorem ok_farOf (T : Top K mg) : FnOk P w K mg base (L2N.CX P w) 4 (ga K "far_of") (fdO K (ga K "far_of")) ["word", "here"] (spFarOf K) := by
  obtain ⟨ds, nd, nb⟩ := bi_nt T
  obtain ⟨tf, hf⟩ := T.figs
  refine T.dFarOf.F.ok scFarOf (fun vs H Q E h => ?_) (fun cdv A outer s H vs Q E hr h => ?_)
  · obtain ⟨l, here, rfl, _⟩ := h
    rfl
  · obtain ⟨l, here, rfl, hl, q, e⟩ := h
    have tup2 : ∀ {x y : V}, x = x → [x, y].length ≤ sizeLine := fun {x y} _ => by
      show 2 ≤ sizeLine
      decide
    refine ⟨_, pss_cons (ps_if (pt_cmpR op_eqL (pv 0) (pe_lit []) (nomark _)) (pss_one (ps_ret (pe_tup (pa_cons (pv 1) (pa_cons pe_bl pa_nil))))) pss_nil)
      (pss_cons (ps_if (pt_cmpR op_inL (pe_ix ix_sv (pv 0) pe_int (fun _ _ => rfl)) (pe_glob (v := sv figsL) (by rfl) hf ⟨_, rfl⟩) rfl)
        (pss_one (ps_ret (pe_tup (pa_cons (pe_call (ok_countOf T) hr (by rfl) T.dCountOf.g T.dCountOf.F.kp (bi_countOf T) .nil (passL (L2N.takes_of rfl rfl rfl rfl)) (pa_cons (pv 0) pa_nil)) (pa_cons pe_bl pa_nil))))) pss_nil)
      (pss_cons (ps_if (pw_or (pt_cmpR op_neL (pe_ix ix_sv (pv 0) pe_int (fun _ _ => rfl)) (pe_lit [91]) (nomark _)) (pw_or1 (pt_cmpR op_neL (pe_ix ix_sv (pv 0) (pe_un un_neg pe_int) (fun _ _ => rfl)) (pe_lit [93]) (nomark _)))).pt
        (pss_one (L2N.ps_raise rfl (L2N.takes_of rfl rfl rfl rfl) (pmk_ntC T.nt (ok_nt T) (hr.mono (by decide)) nb nd (by rfl) T.gNoText))) pss_nil)
      (pss_cons (ps_set (i := 2) scFarOf.nd rfl (Or.inl rfl) (pe_slice sl_sv (pv 0) (po_some pe_int) (po_some (pe_un un_neg pe_int))))
      (pss_cons (ps_if (pt_val (pe_bm PySem.F.plainAttrs_str PySem.F.slot_str_startswith PySem.F.type_str_startswith mt_startsL (pv 2) (pa_cons (pe_lit [45]) pa_nil)))
        (pss_one (ps_ret (pe_tup (pa_cons (pe_op op_sub (pv 1) (pe_call (ok_countOf T) hr (by rfl) T.dCountOf.g T.dCountOf.F.kp (bi_countOf T) .nil (passL (L2N.takes_of rfl rfl rfl rfl)) (pa_cons (pe_slice sl_sv (pv 2) (po_some pe_int) po_none) pa_nil))) (pa_cons pe_bl pa_nil))))) pss_nil)
      (pss_one (ps_ret (pe_tup (pa_cons (pe_op op_add (pv 1) (pe_call (ok_countOf T) hr (by rfl) T.dCountOf.g T.dCountOf.F.kp (bi_countOf T) .nil (passL (L2N.takes_of rfl rfl rfl rfl)) (pa_cons (pv 2) pa_nil))) (pa_cons pe_bl pa_nil))))))))), ?_⟩
    have laid : ∀ {n : Int} {m : Bool}, farOf l here = some (n, m) → ∀ p, H p = none → Q (.ref p) (upd H p (.tup [.int n, .bl m])) := fun c p hp => q _ _ c _ p (same_new hp) upd_same
    refine ⟨_, rfl, l, [], rfl, rfl, _, rfl, ?_⟩
    cases l with
    | nil => exact iteT ⟨_, rfl, tup2 rfl, fun p hp => laid rfl p hp⟩
    | cons c r =>
      refine iteF ⟨_, rfl, c :: r, _, c, rfl, rfl, hl, atI0 c r, c, figsL, rfl, rfl, _, rfl, ?_⟩
      rw [mem_figs]
      rw [farOf_cons] at q e laid
      by_cases hd : isDig c = true
      · rw [if_pos hd] at q e laid
        rw [hd]
        refine iteT ⟨_, rfl, c :: r, rfl, hl, fun n hn => ⟨tup2 rfl, fun p hp => laid (by rw [hn]; rfl) p hp⟩, fun hn => e (by rw [hn]; rfl)⟩
      · rw [if_neg hd] at q e laid
        rw [Bool.eq_false_iff.mpr hd]
        have rs : farOf (c :: r) here = none → ∀ d, H d = none → E (.ref (ga K "NoText")) (some d) (upd H d (.xd [(("line" : Str), V.int 0)])) := fun z d hdd => by
          rw [farOf_cons, if_neg hd] at z
          exact e z H d (Same.refl _) hdd
        refine iteF ⟨_, rfl, c :: r, _, c, rfl, rfl, hl, atI0 c r, [c], [91], rfl, rfl, _, rfl, ?_⟩
        by_cases h91 : c = 91
        · subst h91
          rw [show decide (([91] : L) = [91]) = true from decide_eq_true rfl]
          obtain ⟨x, hx⟩ : ∃ x, (91 :: r : L).getLast? = some x := ⟨_, List.getLast?_eq_getLast (by simp)⟩
          refine iteF ⟨_, rfl, _, rfl, 91 :: r, _, x, rfl, rfl, hl, atI_m1 hx, [x], [93], rfl, rfl, _, rfl, ?_⟩
          by_cases h93 : x = 93
          · subst h93
            rw [if_pos ⟨rfl, hx⟩] at q e laid
            rw [show decide (([93] : L) = [93]) = true from decide_eq_true rfl]
            have ml := mid_len 1 (91 :: r)
            refine iteF ⟨_, rfl, _, rfl, _, rfl, _, rfl, 91 :: r, rfl, hl, ?_⟩
            rw [show cutL (91 :: r) (some 1) (some (-1)) = mid 1 (91 :: r) from cut_mid 1 _]
            generalize mid 1 (91 :: r) = g at ml q e laid
            refine ⟨_, rfl, rfl, g, rfl, rfl, _, rfl, ?_⟩
            by_cases h45 : g.head? = some 45
            · rw [if_pos h45] at q e laid
              rw [decide_eq_true h45]
              refine iteT ⟨_, rfl, _, rfl, _, rfl, g, rfl, by omega, ?_⟩
              rw [cut_from1']
              refine ⟨g.drop 1, rfl, by rw [List.length_drop]; omega, fun n hn => ⟨_, _, rfl, rfl, tup2 rfl, fun p hp => laid (by rw [hn]; rfl) p hp⟩, fun hn => e (by rw [hn]; rfl)⟩
            · rw [if_neg h45] at q e laid
              rw [decide_eq_false h45]
              refine iteF ⟨_, rfl, _, rfl, g, rfl, by omega, fun n hn => ⟨_, _, rfl, rfl, tup2 rfl, fun p hp => laid (by rw [hn]; rfl) p hp⟩, fun hn => e (by rw [hn]; rfl)⟩
          · rw [show decide (([x] : L) = [93]) = false from decide_eq_false fun z => h93 (List.cons.inj z).1]
            refine iteT (rs ?_)
            rw [farOf_cons, if_neg hd, if_neg fun z => h93 (Option.some.inj (hx.symm.trans z.2))]
        · rw [show decide (([c] : L) = [91]) = false from decide_eq_false fun z => h91 (List.cons.inj z).1]
          refine iteT (iteT (rs ?_))
          rw [farOf_cons, if_neg hd, if_neg fun z => h91 z.1]
theorem bi_farOf (T : Top K mg) : Binds K (fdO K (ga K "far_of")) ["word", "here"] [] := T.dFarOf.F.bindsN fun _ _ _ _ _ _ us hl => match us, hl with | [_, _], _ => rfl
end
end K28

set_option Elab.async false
set_option linter.all false
set_option maxRecDepth 100000
set_option maxHeartbeats 4000000
/-! The program, def by def: a part's ends, names. -/
namespace K28
open PySem PySem.Spec L2
open He (ga ma)
open PyProof.Rows (boot_isinstance)
theorem same_upd {H H' : Hp} {p : Addr} {o : HO} (s : Same H H') (n : H p = none) : Same H (upd H' p o) := fun b x e => by
  rw [upd_ne (ne_of_none e n)]
  exact s _ _ e
theorem same_lay {H H' : Hp} {p : Addr} {o : HO} (s : Same H H') (n : H' p = none) : Same H (upd H' p o) := Same.trans s (same_new n)
theorem tup2 {x y : V} : [x, y].length ≤ sizeLine := by
  show 2 ≤ sizeLine
  decide
theorem before_len (s : Nat) (l : L) : (before s l).length ≤ l.length := by
  unfold before
  exact (List.takeWhile_sublist _).length_le
theorem after_len (s : Nat) (l : L) : (after s l).length ≤ l.length := by
  unfold after
  rw [List.length_drop]
  have := (List.dropWhile_sublist (· != s) (l := l)).length_le
  omega
/-- a pair of an end and its mark -/
def EndAt (H : Hp) (p : Addr) (a : End) : Prop := H p = some (.tup [oV a.1, .bl a.2])
section
variable {P : Program} {w : World} {K : PySem.W.Frag} {mg : Str → Option Value} {base : Heap}
def spEndsIn (K : PySem.W.Frag) : Sp := fun vs H Q E => ∃ (l : L) (a : Addr) (r c : Int), vs = [sv l, .ref a] ∧ H a = some (.tup [.int r, .int c]) ∧ l.length ≤ 100000 ∧
  (∀ x y, ends farOf l r c = some (x, y) → ∀ H' p pa pb, Same H H' → H' p = some (.lst [.ref pa, .ref pb]) → EndAt H' pa x → EndAt H' pb y → Q (.ref p) H') ∧ (ends farOf l r c = none → ENT K E H)
theorem scEndsIn : FnScope ["word", "base", "row", "letter", "column", "found"] ["word", "base"] (defScope sEndsIn) := ⟨rfl, rfl, rfl, by decide +kernel, rfl, by decide +kernel, by decide +kernel⟩
theorem ends_eq {l : L} {r c : Int} {a b : End} (ha : rowEnd farOf (before 67 l) r = some a) (hb : colEnd farOf l c = some b) : ends farOf l r c = some (a, b) := by
  unfold ends
  rw [ha, hb]
theorem ends_none1 {l : L} {r c : Int} (ha : rowEnd farOf (before 67 l) r = none) : ends farOf l r c = none := by
  unfold ends
  rw [ha]
theorem ends_none2 {l : L} {r c : Int} (hb : colEnd farOf l c = none) : ends farOf l r c = none := by
  unfold ends
  rw [hb]
  cases rowEnd farOf (before 67 l) r <;> rfl
theorem ok_endsIn (T : Top K mg) : FnOk P w K mg base (L2N.CX P w) 5 (ga K "ends_in") (fdO K (ga K "ends_in")) ["word", "base"] (spEndsIn K) := by
  obtain ⟨ds, nd, nb⟩ := bi_nt T
  refine T.dEndsIn.F.ok scEndsIn (fun vs H Q E h => ?_) (fun cdv A outer s H vs Q E hr h => ?_)
  · obtain ⟨l, a, r, c, rfl, _⟩ := h
    rfl
  · obtain ⟨l, a, r, c, rfl, hb, hl, q, e⟩ := h
    have st : ∃ t2 : TS, PSs (cxOf (L2N.CX P w) P w K mg base ["word", "base", "row", "letter", "column", "found"] "ends_in" (defScope sEndsIn) (ga K "ends_in") cdv A outer s H E) ((defBody sEndsIn).drop 3) t2 ∧
        ∀ (H' : Hp) (σ : L2.St) (p ra t1 : Addr) (x : End), rowEnd farOf (before 67 l) r = some x → H p = none → Same H H' → H' p = some (.lst [.ref ra, .ref t1]) → EndAt H' ra x → EndAt H' t1 (none, false) →
          σ = [some (sv l), some (.ref a), some (sv (before 67 l)), some (sv (if 67 ∈ l then [67] else [])), some (sv (if 67 ∈ l then after 67 l else [])), some (.ref p)] → t2 { nx := fun _ H' => Q .non H', rt := Q } σ H' := by
      refine ⟨_, pss_cons (ps_if (pt_cmpR op_neL (pv 3) (pe_lit []) (nomark _)) (pss_one (ps_asg (pe_call (ok_farOf T) hr (by rfl) T.dFarOf.g T.dFarOf.F.kp (bi_farOf T) .nil (passL (L2N.takes_of rfl rfl rfl rfl)) (pa_cons (pv 4) (pa_cons (pe_ix ix_tup (pv 1) pe_int (fun _ _ => rfl)) pa_nil))) (pg_sub (pv 5) pe_int set_list))) pss_nil)
        (pss_one (ps_ret (pv 5))), ?_⟩
      rintro H' σ p ra t1 x hx hp s' hl' h1 h2 rfl
      refine ⟨_, rfl, _, [], rfl, rfl, _, rfl, ?_⟩
      by_cases h67 : 67 ∈ l
      · rw [show (!decide ((if 67 ∈ l then [67] else [] : L) = [])) = true by rw [if_pos h67] <;> rfl]
        have ce : colEnd farOf l c = (farOf (after 67 l) c).map fun p => (some p.1, p.2) := by
          unfold colEnd
          rw [if_pos h67]
        refine iteT ⟨_, rfl, _, rfl, a, _, _, _, rfl, rfl, SqT.of (s' _ _ hb), atI_nat (j := 1) rfl, _, c, rfl, ?_, fun n m hn H2 pb s2 hpb => ?_, fun hn => ?_⟩
        · rw [if_pos h67]
          have := after_len 67 l
          omega
        · rw [if_pos h67] at hn
          refine ⟨_, rfl, p, [.ref ra, .ref t1], _, 1, rfl, rfl, s2 _ _ hl', rfl, _, rfl, ?_⟩
          have ne1 : ra ≠ p := ne_of h1 hl' (by intro z; cases z)
          have ne2 : pb ≠ p := ne_of hpb (s2 _ _ hl') (by intro z; cases z)
          refine q x (some n, m) (ends_eq hx (by rw [ce, hn]; rfl)) _ p ra pb (same_upd (Same.trans s' s2) hp) upd_same ?_ ?_
          · show upd _ _ _ _ = _
            rw [upd_ne ne1]
            exact s2 _ _ h1
          · show upd _ _ _ _ = _
            rw [upd_ne ne2]
            exact hpb
        · rw [if_pos h67] at hn
          exact (e (ends_none2 (by rw [ce, hn]; rfl))).of s'
      · rw [show (!decide ((if 67 ∈ l then [67] else [] : L) = [])) = false by rw [if_neg h67] <;> rfl]
        refine iteF ⟨_, rfl, q x (none, false) (ends_eq hx ?_) _ p ra t1 s' hl' h1 h2⟩
        unfold colEnd
        rw [if_neg h67]
    obtain ⟨t2, ht2, second⟩ := st
    refine ⟨_, pss_cons (ps_asg (pe_bm PySem.F.plainAttrs_str PySem.F.slot_str_partition PySem.F.type_str_partition mt_partL (pv 0) (pa_cons (pe_lit [67]) pa_nil)) (pg_tup rfl (pgs_cons (pg_name (i := 2) scEndsIn.nd rfl (Or.inl rfl)) (pgs_cons (pg_name (i := 3) scEndsIn.nd rfl (Or.inl rfl)) (pgs_cons (pg_name (i := 4) scEndsIn.nd rfl (Or.inl rfl)) pgs_nil)))))
      (pss_cons (ps_set (i := 5) scEndsIn.nd rfl (Or.inl rfl) (pe_lst (pa_cons (pe_tup (pa_cons pe_non (pa_cons pe_bl pa_nil))) (pa_cons (pe_tup (pa_cons pe_non (pa_cons pe_bl pa_nil))) pa_nil))))
      (pss_cons (ps_if (pt_cmpR op_neL (pv 2) (pe_lit []) (nomark _)) (pss_cons (ps_if (pt_cmpR op_neL (pe_ix ix_sv (pv 2) pe_int (fun _ _ => rfl)) (pe_lit [82]) (nomark _))
          (pss_one (L2N.ps_raise rfl (L2N.takes_of rfl rfl rfl rfl) (pmk_ntC T.nt (ok_nt T) (hr.mono (by decide)) nb nd (by rfl) T.gNoText))) pss_nil)
          (pss_one (ps_asg (pe_call (ok_farOf T) hr (by rfl) T.dFarOf.g T.dFarOf.F.kp (bi_farOf T) .nil (passL (L2N.takes_of rfl rfl rfl rfl)) (pa_cons (pe_slice sl_sv (pv 2) (po_some pe_int) po_none) (pa_cons (pe_ix ix_tup (pv 1) pe_int (fun _ _ => rfl)) pa_nil))) (pg_sub (pv 5) pe_int set_list)))) pss_nil)
      ht2)), ?_⟩
    refine ⟨_, rfl, rfl, l, 67, rfl, rfl, hl, fun p0 n0 => ⟨p0, _, rfl, SqT.of upd_same, rfl, _, _, rfl, _, _, rfl, _, _, rfl, rfl, ?_⟩⟩
    refine ⟨tup2, fun ta na => ⟨tup2, fun tb nb' => ⟨tup2, fun p np => ?_⟩⟩⟩
    have s3 := same_lay (o := .tup [.non, .bl false]) (same_lay (o := .tup [.non, .bl false]) (same_new (o := .tup [sv (before 67 l), sv (if 67 ∈ l then [67] else []), sv (if 67 ∈ l then after 67 l else [])]) n0) na) nb'
    have s4 := same_lay (o := .lst [.ref ta, .ref tb]) s3 np
    have hp : H p = none := s3.free np
    have h0 : EndAt (upd (upd (upd (upd H p0 (.tup [sv (before 67 l), sv (if 67 ∈ l then [67] else []), sv (if 67 ∈ l then after 67 l else [])])) ta (.tup [.non, .bl false])) tb (.tup [.non, .bl false])) p (.lst [.ref ta, .ref tb])) ta (none, false) := same_new np _ _ (same_new nb' _ _ upd_same)
    have h1 : EndAt (upd (upd (upd (upd H p0 (.tup [sv (before 67 l), sv (if 67 ∈ l then [67] else []), sv (if 67 ∈ l then after 67 l else [])])) ta (.tup [.non, .bl false])) tb (.tup [.non, .bl false])) p (.lst [.ref ta, .ref tb])) tb (none, false) := same_new np _ _ upd_same
    have hp4 : (upd (upd (upd (upd H p0 (.tup [sv (before 67 l), sv (if 67 ∈ l then [67] else []), sv (if 67 ∈ l then after 67 l else [])])) ta (.tup [.non, .bl false])) tb (.tup [.non, .bl false])) p (.lst [.ref ta, .ref tb])) p = some (.lst [.ref ta, .ref tb]) := upd_same
    generalize (upd (upd (upd (upd H p0 (.tup [sv (before 67 l), sv (if 67 ∈ l then [67] else []), sv (if 67 ∈ l then after 67 l else [])])) ta (.tup [.non, .bl false])) tb (.tup [.non, .bl false])) p (.lst [.ref ta, .ref tb])) = H4 at s4 h0 h1 hp4
    refine ⟨_, rfl, before 67 l, [], rfl, rfl, _, rfl, ?_⟩
    have bl := before_len 67 l
    cases hw : before 67 l with
    | nil => exact iteF (second H4 _ p ta tb (none, false) (by rw [hw]; rfl) hp s4 hp4 h0 h1 (by rw [hw]; rfl))
    | cons x t =>
      rw [hw] at bl
      have re : rowEnd farOf (before 67 l) r = if x = 82 then (farOf t r).map fun p => (some p.1, p.2) else none := by
        rw [hw]
        rfl
      refine iteT ⟨_, rfl, x :: t, _, x, rfl, rfl, by omega, atI0 x t, [x], [82], rfl, rfl, _, rfl, ?_⟩
      by_cases h82 : x = 82
      · subst h82
        rw [if_pos rfl] at re
        rw [show decide (([82] : L) = [82]) = true from decide_eq_true rfl]
        refine iteF ⟨_, rfl, _, rfl, 82 :: t, rfl, by omega, ?_⟩
        rw [cut_from1]
        refine ⟨_, rfl, a, _, _, _, rfl, rfl, SqT.of (s4 _ _ hb), atI_nat (j := 0) rfl, t, r, rfl, by simp at bl; omega, fun n m hn H2 pa s2 hpa => ?_, fun hn => (e (ends_none1 (by rw [re, hn]; rfl))).of s4⟩
        refine ⟨_, rfl, p, [.ref ta, .ref tb], _, 0, rfl, rfl, s2 _ _ hp4, rfl, ?_⟩
        have ne1 : tb ≠ p := ne_of h1 hp4 (by intro z; cases z)
        have ne2 : pa ≠ p := ne_of hpa (s2 _ _ hp4) (by intro z; cases z)
        refine second _ _ p pa tb (some n, m) (by rw [re, hn]; rfl) hp (same_upd (Same.trans s4 s2) hp) upd_same ?_ ?_ (by rw [hw]; rfl)
        · show upd _ _ _ _ = _
          rw [upd_ne ne2]
          exact hpa
        · show upd _ _ _ _ = _
          rw [upd_ne ne1]
          exact s2 _ _ h1
      · rw [if_neg h82] at re
        rw [show decide (([x] : L) = [82]) = false from decide_eq_false fun z => h82 (List.cons.inj z).1]
        exact iteT fun d hd => e (ends_none1 re) _ d s4 hd
theorem bi_endsIn (T : Top K mg) : Binds K (fdO K (ga K "ends_in")) ["word", "base"] [] := T.dEndsIn.F.bindsN fun _ _ _ _ _ _ us hl => match us, hl with | [_, _], _ => rfl
end
end K28

set_option Elab.async false
set_option linter.all false
set_option maxRecDepth 100000
set_option maxHeartbeats 4000000
/-! The program, def by def: names made and read. -/
namespace K28
open PySem PySem.Spec L2
open He (ga ma)
open PyProof.Rows (boot_isinstance)
theorem isB_of {K : PySem.W.Frag} {mg : Str → Option Value} (T : Top K mg) {H : Hp} {b dx : Addr} {fs : List (Str × V)} (h : H b = some (.ins (ga K "Block") dx fs)) : TyX K H (.ref b) (.ref (ga K "Block")) := by
  have x11 := T.inB
  obtain ⟨y1, x11⟩ := He.ba x11
  obtain ⟨y2, x11⟩ := He.ba x11
  obtain ⟨y3, y4⟩ := He.ba x11
  exact .base (.ins h T.cBlock (He.eqO_ok y1) (He.eqO_ok y2) (of_decide_eq_true y3) (of_decide_eq_true y4))
theorem isN_of {K : PySem.W.Frag} {mg : Str → Option Value} (T : Top K mg) {H : Hp} {b dx : Addr} {fs : List (Str × V)} (h : H b = some (.ins (ga K "Name") dx fs)) : TyX K H (.ref b) (.ref (ga K "Name")) := by
  have x11 := T.inN
  obtain ⟨y1, x11⟩ := He.ba x11
  obtain ⟨y2, x11⟩ := He.ba x11
  obtain ⟨y3, y4⟩ := He.ba x11
  exact .base (.ins h T.cName (He.eqO_ok y1) (He.eqO_ok y2) (of_decide_eq_true y3) (of_decide_eq_true y4))
theorem kit_self {K : PySem.W.Frag} {C : Addr} : PySem.W.kitOne K (.ref C) (.ref C) = some true := by
  unfold PySem.W.kitOne
  rw [if_pos (by simp)]
section
variable {P : Program} {w : World} {K : PySem.W.Frag} {mg : Str → Option Value} {base : Heap}
/-! ### Name.__init__ -/
/-- a mark's argument -/
def MarkV (H : Hp) (v : V) (u d : Bool) : Prop := (∃ p, v = .ref p ∧ H p = some (.tup [.bl u, .bl d])) ∨ (v = .non ∧ u = false ∧ d = false)
def marksB (u d s f : Bool) (t l : Int) (bo ri : Option Int) : Bool := mayBe u d (!colsB t bo ri) bo (oneB t l bo ri) && mayBe s f (!rowsB l bo ri) ri (oneB t l bo ri)
def spNI (K : PySem.W.Frag) : Sp := fun vs H Q E => ∃ (x dx b : Addr) (t l : Int) (bo ri : Option Int) (vr vc : V) (u d s f : Bool), vs = [.ref x, .ref b, vr, vc] ∧ H x = some (.ins (ga K "Name") dx []) ∧ IsBlk K H b t l bo ri ∧ fits t l bo ri ∧
  MarkV H vr u d ∧ MarkV H vc s f ∧
  (marksB u d s f t l bo ri = true → ∀ H1 pr pc, Same H H1 → H1 pr = some (.tup [.bl u, .bl d]) → H1 pc = some (.tup [.bl s, .bl f]) → Q .non (upd H1 x (.ins (ga K "Name") dx (namF (.ref b) (.ref pr) (.ref pc))))) ∧
  (marksB u d s f t l bo ri = false → ∀ H1, Same H H1 → E (.ref (ga K "NoName")) none H1)
theorem scNI : FnScope ["self", "block", "rows", "columns", "is_one", "good"] ["self", "block", "rows", "columns"] (defScope sNameInit) := ⟨rfl, rfl, rfl, by decide +kernel, rfl, by decide +kernel, by decide +kernel⟩
theorem ok_ni (T : Top K mg) : FnOk P w K mg base (L2N.CX P w) 2 (ma K (ga K "Name") "__init__") (fdO K (ma K (ga K "Name") "__init__")) ["self", "block", "rows", "columns"] (spNI K) := by
  obtain ⟨x1, x2, x3, x4⟩ := He.exc_ok T.excN
  refine T.mNameInit.ok scNI (fun vs H Q E h => ?_) (fun cdv A outer s H vs Q E hr h => ?_)
  · obtain ⟨x, dx, b, t, l, bo, ri, vr, vc, u, d, s, f, rfl, _⟩ := h
    rfl
  · obtain ⟨x, dx, b, t, l, bo, ri, vr, vc, u, d, sd, f, rfl, hx, hb, hf, hvr, hvc, q, e⟩ := h
    have st : ∃ t2 : TS, PSs (cxOf (L2N.CX P w) P w K mg base ["self", "block", "rows", "columns", "is_one", "good"] "Name.__init__" (defScope sNameInit) (ma K (ga K "Name") "__init__") cdv A outer s H E) ((defBody sNameInit).drop 2) t2 ∧
        ∀ (H' : Hp) (pr pc : Addr), Same H H' → H' pr = some (.tup [.bl u, .bl d]) → H' pc = some (.tup [.bl sd, .bl f]) → t2 { nx := fun _ H' => Q .non H', rt := Q } [some (.ref x), some (.ref b), some (.ref pr), some (.ref pc), none, none] H' := by
      refine ⟨_, pss_cons (ps_if (pw_or (pt_not (pt_val (pe_callB call_isi (by rfl) T.zIsinstance boot_isinstance (pa_cons (pv 1) (pa_cons (pe_glob (v := .ref (ga K "Block")) (by rfl) T.gBlock rfl) pa_nil)))))
          (pw_or (pt_not (pt_val (pe_call (ok_marks T) hr (by rfl) T.dAreMarks.g T.dAreMarks.F.kp (bi_marks T) .nil pass0 (pa_cons (pv 2) pa_nil))))
          (pw_or1 (pt_not (pt_val (pe_call (ok_marks T) hr (by rfl) T.dAreMarks.g T.dAreMarks.F.kp (bi_marks T) .nil pass0 (pa_cons (pv 3) pa_nil))))))).pt pss_never pss_nil)
        (pss_cons (ps_set (i := 4) scNI.nd rfl (Or.inl rfl) (pe_cmpR op_eq (pe_meth0 (pv 1) T.cBlock T.meSize (ok_size T) hr (bi_size T) .nil pass0) pe_int (nomark _)))
        (pss_cons (ps_set (i := 5) scNI.nd rfl (Or.inl rfl) (pe_call (ok_may T) hr (by rfl) T.dMayBe.g T.dMayBe.F.kp (bi_may T) .nil pass0 (pa_cons (pv 2) (pa_cons (pe_not (pe_call (ok_cols T) hr (by rfl) T.dIsColumns.g T.dIsColumns.F.kp (bi_cols T) .nil pass0 (pa_cons (pv 1) pa_nil)))
          (pa_cons (pe_bBottom T (pv 1)) (pa_cons (pv 4) pa_nil))))))
        (pss_cons (ps_if (pw_or (pt_not (pt_val (pv 5))) (pw_or1 (pt_not (pt_val (pe_call (ok_may T) hr (by rfl) T.dMayBe.g T.dMayBe.F.kp (bi_may T) .nil pass0 (pa_cons (pv 3) (pa_cons (pe_not (pe_call (ok_rows T) hr (by rfl) T.dIsRows.g T.dIsRows.F.kp (bi_rows T) .nil pass0 (pa_cons (pv 1) pa_nil)))
          (pa_cons (pe_bRight T (pv 1)) (pa_cons (pv 4) pa_nil))))))))).pt
          (pss_one (L2N.ps_raise rfl (L2N.takes_of rfl rfl rfl rfl) (L2N.pmk_own PySem.F.excBase_ValueError x1 T.gNoName x2 (raises_own x3 x4) (by rfl)))) pss_nil)
        (pss_cons (ps_fld (pv 0) (pv 1) rfl) (pss_cons (ps_fld (pv 0) (pv 2) rfl) (pss_one (ps_fld (pv 0) (pv 3) rfl))))))), ?_⟩
      intro H' pr pc s' h1 h2
      have hb0 := hb
      obtain ⟨bx, hb1⟩ := hb
      refine ⟨_, rfl, _, _, _, _, true, rfl, .own _, isB_of T (s' _ _ hb1), kit_self, true, rfl, iteF ?_⟩
      refine ⟨_, rfl, pr, u, d, rfl, h1, fun H2 s2 => ⟨true, rfl, iteF ?_⟩⟩
      refine ⟨_, rfl, pc, sd, f, rfl, s2 _ _ h2, fun H3 s3 => ⟨true, rfl, iteF ?_⟩⟩
      have s5 := Same.trans (Same.trans s' s2) s3
      have hb3 := hb0.same s5
      have h1' := s3 _ _ (s2 _ _ h1)
      have h2' := s3 _ _ (s2 _ _ h2)
      obtain ⟨bx3, hb4⟩ := hb3
      have hb3 : IsBlk K H3 b t l bo ri := ⟨bx3, hb4⟩
      refine ⟨_, rfl, b, bx3, _, rfl, hb4, blkF_size .., b, t, l, bo, ri, rfl, hb3, hf, size_scal t l bo ri, ?_⟩
      rw [size_one]
      refine ⟨_, rfl, _, rfl, b, t, l, bo, ri, rfl, hb3, _, rfl, _, rfl, b, t, l, bo, ri, rfl, hb3, _, rfl, pr, u, d, !colsB t bo ri, oneB t l bo ri, bo, rfl, SqT.of h1', ?_⟩
      refine ⟨_, rfl, _, rfl, ?_⟩
      cases m1 : mayBe u d (!colsB t bo ri) bo (oneB t l bo ri) with
      | false => exact iteT (iteT (e (by unfold marksB; rw [m1] <;> rfl) _ s5))
      | true =>
        refine iteF ⟨_, rfl, _, rfl, b, t, l, bo, ri, rfl, hb3, _, rfl, _, rfl, b, t, l, bo, ri, rfl, hb3, _, rfl, pc, sd, f, !rowsB l bo ri, oneB t l bo ri, ri, rfl, SqT.of h2', _, rfl, ?_⟩
        cases m2 : mayBe sd f (!rowsB l bo ri) ri (oneB t l bo ri) with
        | false => exact iteT (e (by unfold marksB; rw [m1, m2] <;> rfl) _ s5)
        | true =>
          have hx3 := s5 _ _ hx
          refine iteF ?_
          refine ⟨_, rfl, _, rfl, x, _, dx, _, rfl, hx3, T.cName, T.nBlock, by show 0 < 1000; decide, ?_⟩
          refine ⟨_, rfl, _, rfl, x, _, dx, _, rfl, upd_same, T.cName, T.nRows, Nat.lt_of_le_of_lt (putF_len _ _ _) (by decide), ?_⟩
          refine ⟨_, rfl, _, rfl, x, _, dx, _, rfl, upd_same, T.cName, T.nColumns, Nat.lt_of_le_of_lt (Nat.le_trans (putF_len _ _ _) (Nat.succ_le_succ (putF_len _ _ _))) (by decide), ?_⟩
          rw [upd_upd, upd_upd]
          exact q (by unfold marksB; rw [m1, m2] <;> rfl) H3 pr pc s5 h1' h2'
    obtain ⟨t2, ht2, rest⟩ := st
    refine ⟨_, pss_cons (ps_if (pt_cmp (pc_isN (pv 2)) rfl) (pss_one (ps_set (i := 2) scNI.nd rfl (Or.inl rfl) (pe_tup (pa_cons pe_bl (pa_cons pe_bl pa_nil))))) pss_nil)
      (pss_cons (ps_if (pt_cmp (pc_isN (pv 3)) rfl) (pss_one (ps_set (i := 3) scNI.nd rfl (Or.inl rfl) (pe_tup (pa_cons pe_bl (pa_cons pe_bl pa_nil))))) pss_nil) ht2), ?_⟩
    rcases hvr with ⟨pr, rfl, hpr⟩ | ⟨rfl, rfl, rfl⟩
    · refine ⟨_, rfl, _, rfl, iteF ?_⟩
      rcases hvc with ⟨pc, rfl, hpc⟩ | ⟨rfl, rfl, rfl⟩
      · exact ⟨_, rfl, _, rfl, iteF (rest H pr pc (Same.refl _) hpr hpc)⟩
      · exact ⟨_, rfl, _, rfl, iteT ⟨tup2, fun p np => rest _ pr p (same_new np) (same_new np _ _ hpr) upd_same⟩⟩
    · refine ⟨_, rfl, _, rfl, iteT ⟨tup2, fun p np => ?_⟩⟩
      rcases hvc with ⟨pc, rfl, hpc⟩ | ⟨rfl, rfl, rfl⟩
      · exact ⟨_, rfl, _, rfl, iteF (rest _ p pc (same_new np) upd_same (same_new np _ _ hpc))⟩
      · exact ⟨_, rfl, _, rfl, iteT ⟨tup2, fun p2 np2 => rest _ p p2 (same_lay (same_new np) np2) (same_new np2 _ _ upd_same) upd_same⟩⟩
theorem bi_ni (T : Top K mg) : Binds K (fdO K (ma K (ga K "Name") "__init__")) ["self", "block", "rows", "columns"] [] := by
  obtain ⟨ds, h1, h2⟩ := T.mNameInit.binds1 (ps := ["self", "block", "rows", "columns"]) 4 2 (by simp) rfl fun T kV doc pm an cdv ct us its hu hi => match us, its, hu, hi with | [_, _, _, _], [_, _], _, _ => ⟨_, rfl, rfl⟩
  obtain rfl := vals_nil_of h1
  exact h2
/-- Name(block) -/
theorem bi_ni1 (T : Top K mg) : ∃ ds, Vals [V.non, V.non] ds ∧ Binds K (fdO K (ma K (ga K "Name") "__init__")) ["self", "block", "rows", "columns"] ds :=
  T.mNameInit.binds1 (ps := ["self", "block", "rows", "columns"]) 2 0 (by simp) rfl fun T kV doc pm an cdv ct us its hu hi => match us, its, hu, hi with | [_, _], [_, _], _, _ => ⟨_, rfl, rfl⟩
end
end K28

set_option Elab.async false
set_option linter.all false
set_option maxRecDepth 100000
set_option maxHeartbeats 4000000
/-! The program, def by def: read_numbers, shown. -/
namespace K28
open PySem PySem.Spec L2
open He (ga ma)
open PyProof.Rows (boot_isinstance)
/-- a name that says d -/
def NameAt (K : PySem.W.Frag) (H : Hp) (n : Addr) (d : Due) : Prop := ∃ b pr pc, IsNam K H n b pr pc ∧ IsBlk K H b d.top d.left d.bottom d.right ∧ H pr = some (.tup [.bl d.up, .bl d.dn]) ∧ H pc = some (.tup [.bl d.sd, .bl d.fr])
theorem NameAt.same {K : PySem.W.Frag} {H H' : Hp} {n : Addr} {d : Due} (h : NameAt K H n d) (s : Same H H') : NameAt K H' n d := by
  obtain ⟨b, pr, pc, h1, h2, h3, h4⟩ := h
  exact ⟨b, pr, pc, h1.same s, h2.same s, s _ _ h3, s _ _ h4⟩
theorem rowsB_eq (d : Due) : rowsB d.left d.bottom d.right = isRows d := rfl
theorem colsB_eq (d : Due) : colsB d.top d.bottom d.right = isCols d := rfl
theorem oneB_eq (d : Due) : oneB d.top d.left d.bottom d.right = isOne d := rfl
theorem blockB_eq (d : Due) : blockB d.top d.left d.bottom d.right = blockOk d := rfl
theorem marksB_eq (d : Due) : marksB d.up d.dn d.sd d.fr d.top d.left d.bottom d.right = marksOk d := rfl
theorem shown_eq (d : Due) (r c : Int) : byEnds (isRows d) (isCols d) (isOne d) (u0 d r) (u1 d r) (s0 d c) (s1 d c) = shownBy (isOne d) d r c := rfl
def EFail (K : PySem.W.Frag) (E : XK) (H : Hp) : Prop := ENT K E H ∧ (∀ H1, Same H H1 → E (.ref (ga K "NoBlock")) none H1) ∧ ∀ H1, Same H H1 → E (.ref (ga K "NoName")) none H1
/-- an end that was read: not greater than this -/
def Big (o : Option Int) : Prop := ∀ n, o = some n → n ≤ 2000000000000
theorem big_of {f : L → Int → Option (Int × Bool)} (hf : f = farOf) {l : L} {here n : Int} {m : Bool} (ho : Org here) (h : f l here = some (n, m)) : n ≤ 2000000000000 := by
  subst hf
  have k := out_prog h
  have o2 := ho.2
  cases m with
  | true =>
    have b : n < 1000000000000 := k.fast rfl
    omega
  | false =>
    have b : n - here < 1000000000000 := (k.far rfl).1
    omega
theorem big_row {l : L} {here : Int} {a : End} (ho : Org here) (h : rowEnd farOf l here = some a) : Big a.1 := by
  intro n e
  unfold rowEnd at h
  cases l with
  | nil =>
    cases h
    cases e
  | cons x t =>
    simp only at h
    split at h
    · obtain ⟨p, hp, rfl⟩ := Option.map_eq_some_iff.mp h
      cases e
      exact big_of rfl ho (n := p.1) (m := p.2) hp
    · cases h
theorem big_col {l : L} {here : Int} {a : End} (ho : Org here) (h : colEnd farOf l here = some a) : Big a.1 := by
  intro n e
  unfold colEnd at h
  split at h
  · obtain ⟨p, hp, rfl⟩ := Option.map_eq_some_iff.mp h
    cases e
    exact big_of rfl ho (n := p.1) (m := p.2) hp
  · cases h
    cases e
theorem big_ends {l : L} {r c : Int} {a b : End} (hr : Org r) (hc : Org c) (h : ends farOf l r c = some (a, b)) : Big a.1 ∧ Big b.1 := by
  unfold ends at h
  split at h
  · rename_i x y hx hy
    cases h
    exact ⟨big_row hr hx, big_col hc hy⟩
  · cases h
theorem fits_of {t l : Int} {bo ri : Option Int} (h : blockB t l bo ri = true) (hb : Big bo) : fits t l bo ri := by
  intro b r e1 e2
  subst e1 e2
  unfold blockB at h
  obtain ⟨h1, h⟩ := Bool.and_eq_true_iff.mp h
  obtain ⟨h2, h⟩ := Bool.and_eq_true_iff.mp h
  obtain ⟨h3, h4⟩ := Bool.and_eq_true_iff.mp h
  have k1 := of_decide_eq_true h1
  obtain ⟨k2, k3⟩ := isEnd_some h3
  have k4 := hb b rfl
  constructor
  · show (-18446744073709551616 : Int) < _
    omega
  · show _ < (18446744073709551616 : Int)
    omega
section
variable {P : Program} {w : World} {K : PySem.W.Frag} {mg : Str → Option Value} {base : Heap}
def spReadN (K : PySem.W.Frag) : Sp := fun vs H Q E => ∃ (t : L) (a : Addr) (r c : Int), vs = [sv t, .ref a] ∧ H a = some (.tup [.int r, .int c]) ∧ Org r ∧ Org c ∧ t.length ≤ 100000 ∧
  (∀ d, readNums t r c = some d → ∀ H' n, Same H H' → NameAt K H' n d → Q (.ref n) H') ∧ (readNums t r c = none → EFail K E H)
theorem scReadN : FnScope ["text", "base", "first", "colon", "last", "top", "up", "left", "side", "bottom", "down", "right", "far"] ["text", "base"] (defScope sReadNumbers) := ⟨rfl, rfl, rfl, by decide +kernel, rfl, by decide +kernel, by decide +kernel⟩
theorem rn_none1 {t : L} {r c : Int} (h : ends farOf (before 58 t) r c = none) : readNums t r c = none := by
  unfold readNums
  rw [h]
theorem rn_none2 {t : L} {r c : Int} (h : ends farOf (lastP t) r c = none) : readNums t r c = none := by
  unfold readNums
  rw [h]
  cases ends farOf (before 58 t) r c <;> rfl
theorem rn_eq {t : L} {r c : Int} {a b a2 b2 : End} (h : ends farOf (before 58 t) r c = some (a, b)) (h2 : ends farOf (lastP t) r c = some (a2, b2)) :
    readNums t r c = if (blockOk (build a b a2 b2) && marksOk (build a b a2 b2)) = true then some (build a b a2 b2) else none := by
  unfold readNums
  rw [h, h2]
theorem lastP_len (t : L) : (lastP t).length ≤ t.length := by
  unfold lastP
  split
  · exact after_len 58 t
  · exact before_len 58 t
theorem ok_readN (T : Top K mg) : FnOk P w K mg base (L2N.CX P w) 6 (ga K "read_numbers") (fdO K (ga K "read_numbers")) ["text", "base"] (spReadN K) := by
  refine T.dReadNumbers.F.ok scReadN (fun vs H Q E h => ?_) (fun cdv A outer s H vs Q E hr h => ?_)
  · obtain ⟨t, a, r, c, rfl, _⟩ := h
    rfl
  · obtain ⟨t, a, r, c, rfl, ha, hr1, hc1, hl, q, e⟩ := h
    -- the end: from four ends
    have st : ∃ t2 : TS, PSs (cxOf (L2N.CX P w) P w K mg base ["text", "base", "first", "colon", "last", "top", "up", "left", "side", "bottom", "down", "right", "far"] "read_numbers" (defScope sReadNumbers) (ga K "read_numbers") cdv A outer s H E) ((defBody sReadNumbers).drop 2) t2 ∧
        ∀ (H' : Hp) (v3 : V), Same H H' → t2 { nx := fun _ H' => Q .non H', rt := Q } [some (sv t), some (.ref a), some (sv (before 58 t)), some v3, some (sv (lastP t)), none, none, none, none, none, none, none, none] H' := by
      refine ⟨_, pss_cons (ps_asg (pe_call (ok_endsIn T) hr (by rfl) T.dEndsIn.g T.dEndsIn.F.kp (bi_endsIn T) .nil (passL (L2N.takes_of rfl rfl rfl rfl)) (pa_cons (pv 2) (pa_cons (pv 1) pa_nil)))
          (pg_unl rfl (pgs_cons (pg_tup rfl (pgs_cons (pg_name (i := 5) scReadN.nd rfl (Or.inl rfl)) (pgs_cons (pg_name (i := 6) scReadN.nd rfl (Or.inl rfl)) pgs_nil))) (pgs_cons (pg_tup rfl (pgs_cons (pg_name (i := 7) scReadN.nd rfl (Or.inl rfl)) (pgs_cons (pg_name (i := 8) scReadN.nd rfl (Or.inl rfl)) pgs_nil))) pgs_nil))))
        (pss_cons (ps_asg (pe_call (ok_endsIn T) hr (by rfl) T.dEndsIn.g T.dEndsIn.F.kp (bi_endsIn T) .nil (passL (L2N.takes_of rfl rfl rfl rfl)) (pa_cons (pv 4) (pa_cons (pv 1) pa_nil)))
          (pg_unl rfl (pgs_cons (pg_tup rfl (pgs_cons (pg_name (i := 9) scReadN.nd rfl (Or.inl rfl)) (pgs_cons (pg_name (i := 10) scReadN.nd rfl (Or.inl rfl)) pgs_nil))) (pgs_cons (pg_tup rfl (pgs_cons (pg_name (i := 11) scReadN.nd rfl (Or.inl rfl)) (pgs_cons (pg_name (i := 12) scReadN.nd rfl (Or.inl rfl)) pgs_nil))) pgs_nil))))
        (pss_cons (ps_if (pt_cmp (pc_isN (pv 5)) rfl) (pss_one (ps_set (i := 5) scReadN.nd rfl (Or.inl rfl) pe_int)) pss_nil)
        (pss_cons (ps_if (pt_cmp (pc_isN (pv 7)) rfl) (pss_one (ps_set (i := 7) scReadN.nd rfl (Or.inl rfl) pe_int)) pss_nil)
        (pss_one (ps_ret (pe_make T.mkName (ok_ni T) (hr.mono (by decide)) (by rfl) T.gName (bi_ni T) .nil (passL (L2N.takes_of rfl rfl rfl rfl))
          (pa_cons (pe_make T.mkBlock (ok_bi T) hr (by rfl) T.gBlock (bi_bi T) .nil (passL (L2N.takes_of rfl rfl rfl rfl)) (pa_cons (pv 5) (pa_cons (pv 7) (pa_cons (pv 9) (pa_cons (pv 11) pa_nil)))))
          (pa_cons (pe_tup (pa_cons (pv 6) (pa_cons (pv 10) pa_nil))) (pa_cons (pe_tup (pa_cons (pv 8) (pa_cons (pv 12) pa_nil))) pa_nil))))))))), ?_⟩
      intro H' v3 s'
      have efail : readNums t r c = none → ∀ H2, Same H H2 → EFail K E H2 := fun z H2 s2 => ⟨(e z).1.of s2, fun H3 s3 => (e z).2.1 H3 (Same.trans s2 s3), fun H3 s3 => (e z).2.2 H3 (Same.trans s2 s3)⟩
      refine ⟨_, rfl, _, rfl, before 58 t, a, r, c, rfl, s' _ _ ha, Nat.le_trans (before_len 58 t) hl, fun x y hxy H1 p pa pb s1 hp hpa hpb => ?_, fun hn => (efail (rn_none1 hn) _ s').1⟩
      refine ⟨p, _, rfl, SqL.of hp, rfl, _, _, rfl, ⟨pa, _, rfl, SqT.of hpa, rfl, _, _, rfl, _, _, rfl, rfl, _, _, rfl, ⟨pb, _, rfl, SqT.of hpb, rfl, _, _, rfl, _, _, rfl, rfl, rfl, ?_⟩⟩⟩
      have s'1 := Same.trans s' s1
      refine ⟨_, rfl, _, rfl, lastP t, a, r, c, rfl, s'1 _ _ ha, Nat.le_trans (lastP_len t) hl, fun x2 y2 hxy2 H2 p2 pa2 pb2 s2 hp2 hpa2 hpb2 => ?_, fun hn => (efail (rn_none2 hn) _ s'1).1⟩
      refine ⟨p2, _, rfl, SqL.of hp2, rfl, _, _, rfl, ⟨pa2, _, rfl, SqT.of hpa2, rfl, _, _, rfl, _, _, rfl, rfl, _, _, rfl, ⟨pb2, _, rfl, SqT.of hpb2, rfl, _, _, rfl, _, _, rfl, rfl, rfl, ?_⟩⟩⟩
      have s'2 := Same.trans s'1 s2
      have rn := rn_eq hxy hxy2
      obtain ⟨xo, xm⟩ := x
      obtain ⟨yo, ym⟩ := y
      obtain ⟨bo, bm⟩ := x2
      obtain ⟨ri, rm⟩ := y2
      have bb := (big_ends hr1 hc1 hxy2).1
      -- Name(Block(..), ..)
      have last : ∀ v6 v8 : V, v6 = v6 → tRet (tMake (ga K "Name") (spNI K) [] E (tCons (tMake (ga K "Block") (spBI K) [] E (tCons (tVar 5) (tCons (tVar 7) (tCons (tVar 9) (tCons (tVar 11) tNil))))) (tCons (tTup (tCons (tVar 6) (tCons (tVar 10) tNil))) (tCons (tTup (tCons (tVar 8) (tCons (tVar 12) tNil))) tNil))))
          { nx := fun _ H' => Q .non H', rt := Q } [some (sv t), some (.ref a), some (sv (before 58 t)), some v3, some (sv (lastP t)), some (.int (xo.getD 1)), some (.bl xm), some (.int (yo.getD 1)), some (.bl ym), some (oV bo), some (.bl bm), some (oV ri), some (.bl rm)] H2 := fun _ _ _ => by
        refine ⟨_, rfl, _, rfl, _, rfl, _, rfl, fun b dx nb0 ndx nbd => ?_⟩
        refine ⟨b, dx, xo.getD 1, yo.getD 1, bo, ri, rfl, upd_same, fun hB => ⟨rfl, ?_⟩, fun hB => ?_⟩
        · have sb := same_upd (o := .ins (ga K "Block") dx (blkF (.int (xo.getD 1)) (.int (yo.getD 1)) (oV bo) (oV ri))) (same_lay (o := .ins (ga K "Block") dx []) (same_lay (o := .own b) s'2 ndx) (by rw [upd_ne (Ne.symm nbd)]; exact nb0)) (s'2.free nb0)
          have hb : IsBlk K (upd (upd (upd H2 dx (.own b)) b (.ins (ga K "Block") dx [])) b (.ins (ga K "Block") dx (blkF (.int (xo.getD 1)) (.int (yo.getD 1)) (oV bo) (oV ri)))) b (xo.getD 1) (yo.getD 1) bo ri := ⟨dx, upd_same⟩
          generalize (upd (upd (upd H2 dx (.own b)) b (.ins (ga K "Block") dx [])) b (.ins (ga K "Block") dx (blkF (.int (xo.getD 1)) (.int (yo.getD 1)) (oV bo) (oV ri)))) = H3 at sb hb
          refine ⟨_, rfl, _, rfl, tup2, fun pr npr => ⟨_, rfl, _, rfl, tup2, fun pc npc => ?_⟩⟩
          intro n ndx2 nn nnd ne2
          have hb4 := (hb.same (same_new (o := .tup [.bl xm, .bl bm]) npr)).same (same_new (o := .tup [.bl ym, .bl rm]) npc)
          have s4 := same_lay (o := .tup [.bl ym, .bl rm]) (same_lay (o := .tup [.bl xm, .bl bm]) sb npr) npc
          have hpr : (upd (upd H3 pr (.tup [.bl xm, .bl bm])) pc (.tup [.bl ym, .bl rm])) pr = some (.tup [.bl xm, .bl bm]) := same_new npc _ _ upd_same
          have hpc : (upd (upd H3 pr (.tup [.bl xm, .bl bm])) pc (.tup [.bl ym, .bl rm])) pc = some (.tup [.bl ym, .bl rm]) := upd_same
          generalize (upd (upd H3 pr (.tup [.bl xm, .bl bm])) pc (.tup [.bl ym, .bl rm])) = H4 at s4 hb4 hpr hpc nn nnd
          have n1 : (upd H4 ndx2 (.own n)) n = none := by rw [upd_ne (Ne.symm ne2)]; exact nn
          have s5 := same_lay (o := .ins (ga K "Name") ndx2 []) (same_new (o := .own n) nnd) n1
          refine ⟨n, ndx2, b, xo.getD 1, yo.getD 1, bo, ri, _, _, xm, bm, ym, rm, rfl, upd_same, hb4.same s5, fits_of hB bb, .inl ⟨pr, rfl, s5 _ _ hpr⟩, .inl ⟨pc, rfl, s5 _ _ hpc⟩, fun hM H5 qr qc s6 h1 h2 => ⟨rfl, ?_⟩, fun hM H5 s6 => ?_⟩
          · have hn : H4 n = none := nn
            have s7 := same_upd (o := .ins (ga K "Name") ndx2 (namF (.ref b) (.ref qr) (.ref qc))) (Same.trans (Same.trans s4 s5) s6) (s4.free hn)
            have s8 := same_upd (o := .ins (ga K "Name") ndx2 (namF (.ref b) (.ref qr) (.ref qc))) (Same.trans s5 s6) hn
            have z : readNums t r c = some (build (xo, xm) (yo, ym) (bo, bm) (ri, rm)) := by
              rw [rn, if_pos]
              rw [show blockOk (build (xo, xm) (yo, ym) (bo, bm) (ri, rm)) = true from hB, show marksOk (build (xo, xm) (yo, ym) (bo, bm) (ri, rm)) = true from hM] <;> rfl
            have k6 := s6 _ _ (show (upd (upd H4 ndx2 (.own n)) n (.ins (ga K "Name") ndx2 [])) n = _ from upd_same)
            refine q _ z _ n s7 ⟨b, qr, qc, ⟨ndx2, upd_same⟩, hb4.same s8, ?_, ?_⟩
            · rw [upd_ne (ne_of h1 k6 (by intro z; cases z))]
              exact h1
            · rw [upd_ne (ne_of h2 k6 (by intro z; cases z))]
              exact h2
          · refine (e ?_).2.2 _ (Same.trans (Same.trans s4 s5) s6)
            rw [rn, if_neg]
            rw [show marksOk (build (xo, xm) (yo, ym) (bo, bm) (ri, rm)) = false from hM, Bool.and_false]
            exact Bool.false_ne_true
        · refine (e ?_).2.1 _ (same_lay (same_lay s'2 ndx) (by rw [upd_ne (Ne.symm nbd)]; exact nb0))
          rw [rn, if_neg]
          rw [show blockOk (build (xo, xm) (yo, ym) (bo, bm) (ri, rm)) = false from hB, Bool.false_and]
          exact Bool.false_ne_true
      refine ⟨_, rfl, _, rfl, ?_⟩
      cases xo with
      | none =>
        refine iteT ⟨_, rfl, _, rfl, ?_⟩
        cases yo with
        | none => exact iteT (last .non .non rfl)
        | some y => exact iteF (last .non .non rfl)
      | some x =>
        refine iteF ⟨_, rfl, _, rfl, ?_⟩
        cases yo with
        | none => exact iteT (last .non .non rfl)
        | some y => exact iteF (last .non .non rfl)
    obtain ⟨t2, ht2, rest⟩ := st
    refine ⟨_, pss_cons (ps_asg (pe_bm PySem.F.plainAttrs_str PySem.F.slot_str_partition PySem.F.type_str_partition mt_partL (pv 0) (pa_cons (pe_lit [58]) pa_nil)) (pg_tup rfl (pgs_cons (pg_name (i := 2) scReadN.nd rfl (Or.inl rfl)) (pgs_cons (pg_name (i := 3) scReadN.nd rfl (Or.inl rfl)) (pgs_cons (pg_name (i := 4) scReadN.nd rfl (Or.inl rfl)) pgs_nil)))))
      (pss_cons (ps_if (pt_cmpR op_eqL (pv 3) (pe_lit []) (nomark _)) (pss_one (ps_set (i := 4) scReadN.nd rfl (Or.inl rfl) (pv 2))) pss_nil) ht2), ?_⟩
    refine ⟨_, rfl, rfl, t, 58, rfl, rfl, hl, fun p0 n0 => ⟨p0, _, rfl, SqT.of upd_same, rfl, _, _, rfl, _, _, rfl, _, _, rfl, rfl, ?_⟩⟩
    refine ⟨_, rfl, _, [], rfl, rfl, _, rfl, ?_⟩
    by_cases h58 : 58 ∈ t
    · have e1 : lastP t = (if 58 ∈ t then after 58 t else []) := by
        unfold lastP
        rw [if_pos h58, if_pos h58]
      rw [show decide ((if 58 ∈ t then [58] else [] : L) = []) = false by rw [if_pos h58] <;> rfl]
      have g := rest _ (sv (if 58 ∈ t then [58] else [])) (same_new (o := .tup [sv (before 58 t), sv (if 58 ∈ t then [58] else []), sv (if 58 ∈ t then after 58 t else [])]) n0)
      rw [e1] at g
      exact iteF g
    · have e1 : lastP t = before 58 t := by
        unfold lastP
        rw [if_neg h58]
      rw [show decide ((if 58 ∈ t then [58] else [] : L) = []) = true by rw [if_neg h58] <;> rfl]
      have g := rest _ (sv (if 58 ∈ t then [58] else [])) (same_new (o := .tup [sv (before 58 t), sv (if 58 ∈ t then [58] else []), sv (if 58 ∈ t then after 58 t else [])]) n0)
      rw [e1] at g
      exact iteT ⟨_, rfl, g⟩
theorem bi_readN (T : Top K mg) : Binds K (fdO K (ga K "read_numbers")) ["text", "base"] [] := T.dReadNumbers.F.bindsN fun _ _ _ _ _ _ us hl => match us, hl with | [_, _], _ => rfl
end
end K28

set_option Elab.async false
set_option linter.all false
set_option maxRecDepth 100000
set_option maxHeartbeats 4000000
/-! The program, def by def: shown. -/
namespace K28
open PySem PySem.Spec L2
open He (ga ma)
open PyProof.Rows (boot_isinstance)
structure Bnd (d : Due) : Prop where
  t : 1 ≤ d.top ∧ d.top ≤ 2000000000000
  l : 1 ≤ d.left ∧ d.left ≤ 2000000000000
  b : ∀ n, d.bottom = some n → 1 ≤ n ∧ n ≤ 2000000000000
  r : ∀ n, d.right = some n → 1 ≤ n ∧ n ≤ 2000000000000
theorem Bnd.fits {d : Due} (h : Bnd d) : fits d.top d.left d.bottom d.right := by
  intro b r e1 e2
  have h1 := h.t
  have h2 := h.b b e1
  constructor
  · show (-18446744073709551616 : Int) < _
    omega
  · show _ < (18446744073709551616 : Int)
    omega
theorem bnd_of {t : L} {r c : Int} {d : Due} (hr : Org r) (hc : Org c) (h : readNums t r c = some d) : Bnd d := by
  unfold readNums at h
  split at h
  · rename_i a b a2 b2 h1 h2
    split at h
    · rename_i hg
      obtain ⟨hb, _⟩ := Bool.and_eq_true_iff.mp hg
      obtain ⟨k1, k2, k3, k4⟩ := blk_of hb
      obtain ⟨g1, g2⟩ := big_ends hr hc h1
      obtain ⟨g3, g4⟩ := big_ends hr hc h2
      cases h
      refine ⟨⟨k1, ?_⟩, ⟨k2, ?_⟩, fun n e => ⟨(k3 n e).1, g3 n e⟩, fun n e => ⟨(k4 n e).1, g4 n e⟩⟩
      · show a.1.getD 1 ≤ _
        cases ha : a.1 with
        | none =>
          show (1 : Int) ≤ _
          decide
        | some n => exact g1 n ha
      · show b.1.getD 1 ≤ _
        cases ha : b.1 with
        | none =>
          show (1 : Int) ≤ _
          decide
        | some n => exact g2 n ha
    · cases h
  · cases h
theorem sm_org {n h : Int} (h1 : 1 ≤ n ∧ n ≤ 2000000000000) (ho : Org h) : Sm n ∧ Sm (n - h) := by
  have := ho.1
  have := ho.2
  exact ⟨sm_of (by omega) (by omega), sm_of (by omega) (by omega)⟩
theorem farTL_eq (s : Nat) (e : Option Int) (m : Bool) (h : Int) : farTL [s] e m h = farT s e m h := by cases e <;> rfl
theorem farT_len {s : Nat} {e : Option Int} {m : Bool} {h : Int} (hb : ∀ n, e = some n → Sm n ∧ Sm (n - h)) : (farT s e m h).length ≤ 100 := by
  cases e with
  | none => simp [farT]
  | some n =>
    obtain ⟨b1, b2⟩ := hb n rfl
    have := endTail_len (m := m) b1 b2
    show (s :: endTail n m h).length ≤ _
    rw [List.length_cons]
    omega
theorem le1000 {n : Nat} (h : n ≤ 100) : n ≤ 1000 := by omega
section
variable {P : Program} {w : World} {K : PySem.W.Frag} {mg : Str → Option Value} {base : Heap}
def spShown (K : PySem.W.Frag) : Sp := fun vs H Q _ => ∃ (n a : Addr) (d : Due) (r c : Int), vs = [.ref n, .str "numbers", .ref a] ∧ NameAt K H n d ∧ Bnd d ∧ H a = some (.tup [.int r, .int c]) ∧ Org r ∧ Org c ∧ ∀ H', Same H H' → Q (sv (shownBy (isOne d) d r c)) H'
theorem scShown : FnScope ["self", "manner", "base", "here", "up", "side", "rows", "columns", "end", "mark"] ["self", "manner", "base"] (defScope sNameShown) := ⟨rfl, rfl, rfl, by decide +kernel, rfl, by decide +kernel, by decide +kernel⟩
theorem ok_shown (T : Top K mg) : FnOk P w K mg base CX0 6 (ma K (ga K "Name") "shown") (fdO K (ma K (ga K "Name") "shown")) ["self", "manner", "base"] (spShown K) := by
  refine T.mNameShown.ok scShown (fun vs H Q E h => ?_) (fun cdv A outer s H vs Q E hr h => ?_)
  · obtain ⟨n, a, d, r, c, rfl, _⟩ := h
    rfl
  · obtain ⟨n, a, d, r, c, rfl, hn, hd, ha, hr1, hc1, q⟩ := h
    refine ⟨_, PSs.nox (pss_cons (ps_set (i := 3) scShown.nd rfl (Or.inr rfl) (pe_call (ok_manner T) hr (by rfl) T.dCheckedManner.g T.dCheckedManner.F.kp (bi_manner T) .nil pass0 (pa_cons (pv 1) (pa_cons (pv 2) pa_nil))))
      (pss_cons (ps_set (i := 4) scShown.nd rfl (Or.inl rfl) (pe_lst (pa_cons (pe_tup (pa_cons (pe_bTop T (pe_nB T (pv 0))) (pa_cons (pe_ix ix_tup (pe_nR T (pv 0)) pe_int (fun _ _ => rfl)) pa_nil)))
          (pa_cons (pe_tup (pa_cons (pe_bBottom T (pe_nB T (pv 0))) (pa_cons (pe_ix ix_tup (pe_nR T (pv 0)) pe_int (fun _ _ => rfl)) pa_nil))) pa_nil))))
      (pss_cons (ps_set (i := 5) scShown.nd rfl (Or.inl rfl) (pe_lst (pa_cons (pe_tup (pa_cons (pe_bLeft T (pe_nB T (pv 0))) (pa_cons (pe_ix ix_tup (pe_nC T (pv 0)) pe_int (fun _ _ => rfl)) pa_nil)))
          (pa_cons (pe_tup (pa_cons (pe_bRight T (pe_nB T (pv 0))) (pa_cons (pe_ix ix_tup (pe_nC T (pv 0)) pe_int (fun _ _ => rfl)) pa_nil))) pa_nil))))
      (pss_cons (ps_if (pt_cmpR op_eq (pv 1) pe_str (nomark _)) pss_never pss_nil)
      (pss_cons (ps_setLc (i := 6) (own := [("end", 8), ("mark", 9)]) (g := gTup K 2 (gCons (gName 8) (gCons (gName 9) gNil))) (tt := tYes) rfl scShown.nd rfl rfl (sw_true rfl rfl rfl (by decide +kernel)) (pi_list (pv 4)) (blkOk_by (N := ["self", "manner", "base", "here", "up", "side", "rows", "columns", "end", "mark"]) (sc := defScope sNameShown) (by decide +kernel))
        (fun _ _ _ _ _ => pg_tup rfl (pgs_cons (pg_name (i := 8) scShown.nd rfl (Or.inl rfl)) (pgs_cons (pg_name (i := 9) scShown.nd rfl (Or.inl rfl)) pgs_nil))) (fun _ _ _ _ _ => pts_nil)
        (fun _ _ _ _ _ => pe_call (ok_farText T) (hr.mono (by decide)) (by rfl) T.dFarText.g T.dFarText.F.kp (bi_farText T) .nil pass0 (pa_cons (pe_lit [82]) (pa_cons (pv 8) (pa_cons (pv 9) (pa_cons (pe_ix (r := rIxT K) ix_tup (pv 3) pe_int (fun _ _ => rfl)) pa_nil))))))
      (pss_cons (ps_setLc (i := 7) (own := [("end", 8), ("mark", 9)]) (g := gTup K 2 (gCons (gName 8) (gCons (gName 9) gNil))) (tt := tYes) rfl scShown.nd rfl rfl (sw_true rfl rfl rfl (by decide +kernel)) (pi_list (pv 5)) (blkOk_by (N := ["self", "manner", "base", "here", "up", "side", "rows", "columns", "end", "mark"]) (sc := defScope sNameShown) (by decide +kernel))
        (fun _ _ _ _ _ => pg_tup rfl (pgs_cons (pg_name (i := 8) scShown.nd rfl (Or.inl rfl)) (pgs_cons (pg_name (i := 9) scShown.nd rfl (Or.inl rfl)) pgs_nil))) (fun _ _ _ _ _ => pts_nil)
        (fun _ _ _ _ _ => pe_call (ok_farText T) (hr.mono (by decide)) (by rfl) T.dFarText.g T.dFarText.F.kp (bi_farText T) .nil pass0 (pa_cons (pe_lit [67]) (pa_cons (pv 8) (pa_cons (pv 9) (pa_cons (pe_ix (r := rIxT K) ix_tup (pv 3) pe_int (fun _ _ => rfl)) pa_nil))))))
      (pss_one (ps_ret (pe_call (ok_byEnds T) (hr.mono (by decide)) (by rfl) T.dByEnds.g T.dByEnds.F.kp (bi_byEnds T) .nil pass0 (pa_cons (pe_nB T (pv 0)) (pa_cons (pv 6) (pa_cons (pv 7) (pa_cons (pe_glob (v := .ref (ga K "numbers_beside")) (by rfl) T.dNumbersBeside.g rfl) pa_nil))))))))))))), ?_⟩
    refine ⟨_, rfl, _, rfl, a, r, c, rfl, ha, hr1, hc1, fun H1 s1 => ?_⟩
    obtain ⟨b, pr, pc, n1, n2, n3, n4⟩ := hn
    have m1 := n1.same s1
    have m2 := n2.same s1
    have m3 := s1 _ _ n3
    have m4 := s1 _ _ n4
    have ma' := s1 _ _ ha
    refine ⟨_, rfl, n, b, pr, pc, rfl, m1, b, _, _, _, _, rfl, m2, _, rfl, n, b, pr, pc, rfl, m1, pr, _, _, _, rfl, rfl, SqT.of m3, atI_nat (j := 0) rfl, tup2, fun t0 f0 => ?_⟩
    have s2 := same_new (o := .tup [.int d.top, .bl d.up]) f0
    refine ⟨_, rfl, n, b, pr, pc, rfl, m1.same s2, b, _, _, _, _, rfl, m2.same s2, _, rfl, n, b, pr, pc, rfl, m1.same s2, pr, _, _, _, rfl, rfl, SqT.of (s2 _ _ m3), atI_nat (j := 1) rfl, tup2, fun t1 f1 => ⟨tup2, fun pu fu => ?_⟩⟩
    have s3 := same_lay (o := .tup [oV d.bottom, .bl d.dn]) s2 f1
    have s4 := same_lay (o := .lst [.ref t0, .ref t1]) s3 fu
    have g1 : (upd (upd (upd H1 t0 (.tup [.int d.top, .bl d.up])) t1 (.tup [oV d.bottom, .bl d.dn])) pu (.lst [.ref t0, .ref t1])) t0 = some (.tup [oV (some d.top), .bl d.up]) := same_new fu _ _ (same_new f1 _ _ upd_same)
    have g2 : (upd (upd (upd H1 t0 (.tup [.int d.top, .bl d.up])) t1 (.tup [oV d.bottom, .bl d.dn])) pu (.lst [.ref t0, .ref t1])) t1 = some (.tup [oV d.bottom, .bl d.dn]) := same_new fu _ _ upd_same
    have g3 : (upd (upd (upd H1 t0 (.tup [.int d.top, .bl d.up])) t1 (.tup [oV d.bottom, .bl d.dn])) pu (.lst [.ref t0, .ref t1])) pu = some (.lst [.ref t0, .ref t1]) := upd_same
    have k1 := m1.same s4
    have k2 := m2.same s4
    have k3 := s4 _ _ m3
    have k4 := s4 _ _ m4
    have ka := s4 _ _ ma'
    have sA := Same.trans s1 s4
    unfold gTop gBottom
    generalize (upd (upd (upd H1 t0 (.tup [.int d.top, .bl d.up])) t1 (.tup [oV d.bottom, .bl d.dn])) pu (.lst [.ref t0, .ref t1])) = H2 at g1 g2 g3 k1 k2 k3 k4 ka sA
    refine ⟨_, rfl, n, b, pr, pc, rfl, k1, b, _, _, _, _, rfl, k2, _, rfl, n, b, pr, pc, rfl, k1, pc, _, _, _, rfl, rfl, SqT.of k4, atI_nat (j := 0) rfl, tup2, fun t2 f2 => ?_⟩
    have s5 := same_new (o := .tup [.int d.left, .bl d.sd]) f2
    refine ⟨_, rfl, n, b, pr, pc, rfl, k1.same s5, b, _, _, _, _, rfl, k2.same s5, _, rfl, n, b, pr, pc, rfl, k1.same s5, pc, _, _, _, rfl, rfl, SqT.of (s5 _ _ k4), atI_nat (j := 1) rfl, tup2, fun t3 f3 => ⟨tup2, fun ps fs => ?_⟩⟩
    have s6 := same_lay (o := .tup [oV d.right, .bl d.fr]) s5 f3
    have s7 := same_lay (o := .lst [.ref t2, .ref t3]) s6 fs
    have g4 : (upd (upd (upd H2 t2 (.tup [.int d.left, .bl d.sd])) t3 (.tup [oV d.right, .bl d.fr])) ps (.lst [.ref t2, .ref t3])) t2 = some (.tup [oV (some d.left), .bl d.sd]) := same_new fs _ _ (same_new f3 _ _ upd_same)
    have g5 : (upd (upd (upd H2 t2 (.tup [.int d.left, .bl d.sd])) t3 (.tup [oV d.right, .bl d.fr])) ps (.lst [.ref t2, .ref t3])) t3 = some (.tup [oV d.right, .bl d.fr]) := same_new fs _ _ upd_same
    have g6 : (upd (upd (upd H2 t2 (.tup [.int d.left, .bl d.sd])) t3 (.tup [oV d.right, .bl d.fr])) ps (.lst [.ref t2, .ref t3])) ps = some (.lst [.ref t2, .ref t3]) := upd_same
    have h1 := s7 _ _ g1
    have h2 := s7 _ _ g2
    have h3 := s7 _ _ g3
    have l1 := k1.same s7
    have l2 := k2.same s7
    have la := s7 _ _ ka
    have sB := Same.trans sA s7
    unfold gLeft gRight
    generalize (upd (upd (upd H2 t2 (.tup [.int d.left, .bl d.sd])) t3 (.tup [oV d.right, .bl d.fr])) ps (.lst [.ref t2, .ref t3])) = H3 at g4 g5 g6 h1 h2 h3 l1 l2 la sB
    refine ⟨_, rfl, rfl, _, rfl, ?_⟩
    rw [show decide (V.str "numbers" = V.str "letters") = false by decide +kernel]
    refine iteF ?_
    refine ⟨_, rfl, pu, rfl, ⟨_, SqL.of h3⟩, fun D1 hD1 => ?_⟩
    refine lc_listM (xs := [.ref t0, .ref t1]) (ys := [sv (u0 d r), sv (u1 d r)]) (SqL.of h3) rfl (small_lt (by show 2 ≤ 100000; decide)) hD1 (fun i x y H4 hx hy s8 => ?_) fun H4 s8 hl4 => ?_
    · intro R N hR
      obtain ⟨tt, e, m, hxt, hyt, htt, hb⟩ : ∃ (tt : Addr) (e : Option Int) (m : Bool), x = .ref tt ∧ y = sv (farTL [82] e m r) ∧ H3 tt = some (.tup [oV e, .bl m]) ∧ ∀ n, e = some n → Sm n ∧ Sm (n - r) := by
        match i, hx, hy with
        | 0, hx, hy => exact ⟨t0, some d.top, d.up, (Option.some.inj hx).symm, (Option.some.inj hy).symm, h1, fun n e => by cases e; exact sm_org hd.t hr1⟩
        | 1, hx, hy =>
          refine ⟨t1, d.bottom, d.dn, (Option.some.inj hx).symm, ?_, h2, fun n e => sm_org (hd.b n e) hr1⟩
          rw [farTL_eq]
          exact (Option.some.inj hy).symm
      subst hxt hyt
      refine ⟨tt, _, rfl, SqT.of (s8 _ _ htt), rfl, _, _, rfl, _, _, rfl, rfl, rfl, ?_⟩
      exact ⟨_, rfl, _, rfl, _, rfl, a, _, _, _, rfl, rfl, SqT.of (s8 _ _ la), atI_nat (j := 0) rfl, [82], e, m, r, rfl, by simp, hb, hR _ (Same.refl _)⟩
    · have p1 := s8 _ _ g6
      refine ⟨_, rfl, ps, rfl, ⟨_, SqL.of p1⟩, fun D2 hD2 => ?_⟩
      refine lc_listM (xs := [.ref t2, .ref t3]) (ys := [sv (s0 d c), sv (K28.s1 d c)]) (SqL.of p1) rfl (small_lt (by show 2 ≤ 100000; decide)) hD2 (fun i x y H5 hx hy s9 => ?_) fun H5 s9 hl5 => ?_
      · intro R N hR
        obtain ⟨tt, e, m, hxt, hyt, htt, hb⟩ : ∃ (tt : Addr) (e : Option Int) (m : Bool), x = .ref tt ∧ y = sv (farTL [67] e m c) ∧ H3 tt = some (.tup [oV e, .bl m]) ∧ ∀ n, e = some n → Sm n ∧ Sm (n - c) := by
          match i, hx, hy with
          | 0, hx, hy => exact ⟨t2, some d.left, d.sd, (Option.some.inj hx).symm, (Option.some.inj hy).symm, g4, fun n e => by cases e; exact sm_org hd.l hc1⟩
          | 1, hx, hy =>
            refine ⟨t3, d.right, d.fr, (Option.some.inj hx).symm, ?_, g5, fun n e => sm_org (hd.r n e) hc1⟩
            rw [farTL_eq]
            exact (Option.some.inj hy).symm
        subst hxt hyt
        refine ⟨tt, _, rfl, SqT.of (s9 _ _ (s8 _ _ htt)), rfl, _, _, rfl, _, _, rfl, rfl, rfl, ?_⟩
        exact ⟨_, rfl, _, rfl, _, rfl, a, _, _, _, rfl, rfl, SqT.of (s9 _ _ (s8 _ _ la)), atI_nat (j := 1) rfl, [67], e, m, c, rfl, by simp, hb, hR _ (Same.refl _)⟩
      · have sE := Same.trans s8 s9
        refine ⟨_, rfl, n, b, pr, pc, rfl, l1.same sE, _, rfl, _, rfl, ?_⟩
        refine ⟨b, D1, D2, d.top, d.left, d.bottom, d.right, u0 d r, u1 d r, s0 d c, K28.s1 d c, rfl, l2.same sE, hd.fits, SqL.of (s9 _ _ hl4), SqL.of hl5, ⟨?_, ?_, ?_, ?_⟩, q _ (Same.trans sB sE)⟩
        · exact le1000 (farT_len fun n e => by cases e; exact sm_org hd.t hr1)
        · exact le1000 (farT_len fun n e => sm_org (hd.b n e) hr1)
        · exact le1000 (farT_len fun n e => by cases e; exact sm_org hd.l hc1)
        · exact le1000 (farT_len fun n e => sm_org (hd.r n e) hc1)
end
end K28

set_option Elab.async false
set_option linter.all false
set_option maxRecDepth 100000
set_option maxHeartbeats 4000000
/-! The program, def by def: read_name. -/
namespace K28
open PySem PySem.Spec L2
open He (ga ma)
open PyProof.Rows (boot_isinstance)
section
variable {P : Program} {w : World} {K : PySem.W.Frag} {mg : Str → Option Value} {base : Heap}
theorem bi_shown (T : Top K mg) : Binds K (fdO K (ma K (ga K "Name") "shown")) ["self", "manner", "base"] [] := by
  obtain ⟨ds, h1, h2⟩ := T.mNameShown.binds1 (ps := ["self", "manner", "base"]) 3 2 (by simp) rfl fun T kV doc pm an cdv ct us its hu hi => match us, its, hu, hi with | [_, _, _], [_, _], _, _ => ⟨_, rfl, rfl⟩
  obtain rfl := vals_nil_of h1
  exact h2
theorem bi_readName (T : Top K mg) : Binds K (fdO K (ga K "read_name")) ["text", "manner", "base"] [] := by
  obtain ⟨ds, h1, h2⟩ := T.dReadName.F.binds1 (ps := ["text", "manner", "base"]) 3 2 (by simp) rfl fun T kV doc pm an cdv ct us its hu hi => match us, its, hu, hi with | [_, _, _], [_, _], _, _ => ⟨_, rfl, rfl⟩
  obtain rfl := vals_nil_of h1
  exact h2
def spReadName (K : PySem.W.Frag) : Sp := fun vs H Q E => ∃ (v : V) (a : Addr) (r c : Int), vs = [v, .str "numbers", .ref a] ∧ H a = some (.tup [.int r, .int c]) ∧ Org r ∧ Org c ∧
  ((∃ t : L, v = sv t ∧ t.length ≤ 100000 ∧ (∀ d, progRead t r c = some d → ∀ H' n, Same H H' → NameAt K H' n d → Bnd d → Q (.ref n) H') ∧ (progRead t r c = none → ENT K E H)) ∨
    (∃ ty : Value, TyX K H v ty ∧ PySem.W.kitOne K ty (.type "str") = some false ∧ ENT K E H ∧ ∀ H', Same H H' → TyX K H' v ty))
theorem scReadName : FnScope ["text", "manner", "base", "here", "found"] ["text", "manner", "base"] (defScope sReadName) := ⟨rfl, rfl, rfl, by decide +kernel, rfl, by decide +kernel, by decide +kernel⟩
theorem ok_readName (T : Top K mg) : FnOk P w K mg base (K28.CX P w) 7 (ga K "read_name") (fdO K (ga K "read_name")) ["text", "manner", "base"] (spReadName K) := by
  obtain ⟨ds, nd, nb⟩ := bi_nt T
  refine T.dReadName.F.ok scReadName (fun vs H Q E h => ?_) (fun cdv A outer s H vs Q E hr h => ?_)
  · obtain ⟨v, a, r, c, rfl, _⟩ := h
    rfl
  · obtain ⟨v, a, r, c, rfl, ha, hr1, hc1, hv⟩ := h
    have tk : Takes (cxOf (K28.CX P w) P w K mg base ["text", "manner", "base", "here", "found"] "read_name" (defScope sReadName) (ga K "read_name") cdv A outer s H E) (fun cls d _ H => E cls d H) := takes_of rfl rfl rfl rfl
    refine ⟨_, pss_cons (ps_set (i := 3) scReadName.nd rfl (Or.inl rfl) (pe_call (ok_manner T) (hr.mono (by decide)) (by rfl) T.dCheckedManner.g T.dCheckedManner.F.kp (bi_manner T) .nil pass0 (pa_cons (pv 1) (pa_cons (pv 2) pa_nil))))
      (pss_cons (ps_if (pt_not (pt_val (pe_callB call_isi (by rfl) T.zIsinstance boot_isinstance (pa_cons (pv 0) (pa_cons (pe_bltn (v := .ty "str") (by rfl) T.zStr (by decide +kernel) rfl) pa_nil)))))
        (pss_one (L2N.ps_raise rfl tk.n (pmk_ntC T.nt (ok_nt T) (hr.mono (by decide)) nb nd (by rfl) T.gNoText))) pss_nil)
      (pss_cons (ps_try_tup2 rfl rfl ⟨by rfl, T.gNoBlock⟩ ⟨by rfl, T.gNoName⟩ (L2H.passesAt_of rfl) tk
        (fun W pn xe tkb _ => pss_one (ps_if (pt_cmpR op_eq (pv 1) pe_str (nomark _)) pss_never
          (pss_one (ps_set (i := 4) scReadName.nd rfl (Or.inl rfl) (pe_callS (ok_readN T) hr (by rfl) T.dReadNumbers.g T.dReadNumbers.F.kp (bi_readN T) (fun σ => L2N.passAt tkb σ) (pa_cons (pv 0) (pa_cons (pv 3) pa_nil)))))))
        (fun a oe cls d pn tkS hot => pss_one (ps_raiseFN hot tkS (pmk_ntH T.nt (ok_ntH T) (L2H.roomH_mark (hr.mono (by decide)) _) hot nb nd (by rfl) T.gNoText))))
      (pss_cons (ps_if (pt_cmpR op_neL (pe_meth (pv 4) T.cName T.meShown (ok_shown T) hr (bi_shown T) .nil pass0 (pa_cons (pv 1) (pa_cons (pv 3) pa_nil))) (pv 0) (nomark _))
        (pss_one (L2N.ps_raise rfl tk.n (pmk_ntC T.nt (ok_nt T) (hr.mono (by decide)) nb nd (by rfl) T.gNoText))) pss_nil)
      (pss_one (ps_ret (pv 4)))))), ?_⟩
    refine ⟨_, rfl, _, rfl, a, r, c, rfl, ha, hr1, hc1, fun H1 s1 => ?_⟩
    rcases hv with ⟨t, rfl, hl, q, e⟩ | ⟨ty, ht, hk, e, ht'⟩
    · refine ⟨_, rfl, _, _, _, _, true, rfl, .ty "str", .base (.str _), kit_ty (by decide +kernel), true, rfl, iteF ?_⟩
      refine ⟨_, rfl, rfl, _, rfl, ?_⟩
      rw [show decide (V.str "numbers" = V.str "letters") = false by decide +kernel]
      have fail : readNums t r c = none → ENT K E H := fun z => e (by unfold progRead; rw [z])
      refine iteF ⟨_, rfl, _, rfl, t, a, r, c, rfl, s1 _ _ ha, hr1, hc1, hl, fun d hd H2 n s2 hn => ?_, fun hn => ⟨fun H2 d s2 hd => ?_, fun H2 s2 => ?_, fun H2 s2 => ?_⟩⟩
      · have s12 := Same.trans s1 s2
        have hb := bnd_of hr1 hc1 hd
        have hn0 := hn
        obtain ⟨b, pr, pc, ⟨dx, n1⟩, _⟩ := hn
        refine ⟨_, rfl, n, dx, _, rfl, n1, namF_shown .., _, rfl, _, rfl, n, a, d, r, c, rfl, hn0, hb, s12 _ _ ha, hr1, hc1, fun H3 s3 => ⟨_, rfl, shownBy (isOne d) d r c, t, rfl, rfl, _, rfl, ?_⟩⟩
        by_cases hs : shownBy (isOne d) d r c = t
        · rw [show (!decide (shownBy (isOne d) d r c = t)) = false by rw [decide_eq_true hs] <;> rfl]
          refine iteF ⟨_, rfl, q d ?_ H3 n (Same.trans s12 s3) (hn0.same s3) hb⟩
          unfold progRead
          rw [hd]
          exact if_pos hs
        · rw [show (!decide (shownBy (isOne d) d r c = t)) = true by rw [decide_eq_false hs] <;> rfl]
          refine iteT fun d2 hd2 => e ?_ H3 d2 (Same.trans s12 s3) hd2
          unfold progRead
          rw [hd]
          exact if_neg hs
      · exact ⟨false, T.anyT, fun z => Bool.noConfusion z, fun _ => fail hn H2 d (Same.trans s1 s2) hd⟩
      · exact ⟨true, T.anyB, fun _ x hx d hd => fail hn H2 d (Same.trans s1 s2) hd, fun z => Bool.noConfusion z⟩
      · exact ⟨true, T.anyN, fun _ x hx d hd => fail hn H2 d (Same.trans s1 s2) hd, fun z => Bool.noConfusion z⟩
    · refine ⟨_, rfl, _, _, _, _, false, rfl, .ty "str", ht' _ s1, hk, false, rfl, iteT fun d hd => e H1 d s1 hd⟩
end
end K28

set_option Elab.async false
set_option linter.all false
set_option maxRecDepth 100000
set_option maxHeartbeats 4000000
/-! The law's defs: the well, numbers, blocks. -/
namespace K28
open PySem PySem.Spec L2
open He (ga ma)
/-- the well -/
def WellAt (H : Hp) (p : Addr) : Prop := ∃ a b c : Int, H p = some (.lst [.int a, .int b, .int c])
theorem WellAt.upd {H : Hp} {p : Addr} {a b c : Int} : WellAt (upd H p (.lst [.int a, .int b, .int c])) p := ⟨a, b, c, upd_same⟩
theorem WellAt.same {H H' : Hp} {p : Addr} (h : WellAt H p) (s : Same H H') : WellAt H' p := by
  obtain ⟨a, b, c, h⟩ := h
  exact ⟨a, b, c, s _ _ h⟩
theorem WellAt.sq {K : PySem.W.Frag} {H : Hp} {p : Addr} {a b c : Int} (h : H p = some (.lst [.int a, .int b, .int c])) : SqL K H p [.int a, .int b, .int c] := SqL.of h
/-- what a draw does to the heap -/
def Drawn (p : Addr) (H H' : Hp) : Prop := SameBut p H H' ∧ WellAt H' p
theorem Drawn.refl {p : Addr} {H : Hp} (h : WellAt H p) : Drawn p H H := ⟨SameBut.refl p H, h⟩
theorem Drawn.trans {p : Addr} {H H1 H2 : Hp} (a : Drawn p H H1) (b : Drawn p H1 H2) : Drawn p H H2 := ⟨SameBut.trans a.1 b.1, b.2⟩
theorem Drawn.same {p : Addr} {H H1 H2 : Hp} (a : Drawn p H H1) (b : Same H1 H2) : Drawn p H H2 := ⟨SameBut.trans a.1 (Same.but b), a.2.same b⟩
theorem Drawn.of {p : Addr} {H H' : Hp} (w : WellAt H p) (b : Same H H') : Drawn p H H' := ⟨Same.but b, w.same b⟩
theorem Drawn.upd {p : Addr} {H : Hp} {a b c : Int} : Drawn p H (upd H p (.lst [.int a, .int b, .int c])) := ⟨but_upd, WellAt.upd⟩
/-- an object that is no list keeps -/
theorem Drawn.keep {p q : Addr} {H H' : Hp} {o : HO} (d : Drawn p H H') (w : WellAt H p) (h : H q = some o) (n : ∀ xs, o ≠ .lst xs) : H' q = some o := by
  obtain ⟨a, b, c, hw⟩ := w
  exact d.1 q o (ne_of h hw (n _)) h
theorem Drawn.tup {p q : Addr} {H H' : Hp} {xs : List V} (d : Drawn p H H') (w : WellAt H p) (h : H q = some (.tup xs)) : H' q = some (.tup xs) := d.keep w h fun _ z => by cases z
theorem pos0 (n : Int) (h : decide (0 < n) = true) : 0 < n := of_decide_eq_true h
section
variable {P : Program} {w : World} {K : PySem.W.Frag} {mg : Str → Option Value} {base : Heap}
/-! ### _law_draw -/
def spDraw : Sp := fun vs H Q _ => ∃ (p : Addr) (m : Int), vs = [.ref p, .int m] ∧ WellAt H p ∧ 1 ≤ m ∧ m < 2 ^ 60 ∧ ∀ r H', 0 ≤ r → r < m → Drawn p H H' → Q (.int r) H'
theorem scDraw : FnScope ["_law_well_here", "_law_many", "_law_found", "_law_number_here"] ["_law_well_here", "_law_many"] (defScope sLawDraw) := ⟨rfl, rfl, rfl, by decide +kernel, rfl, by decide +kernel, by decide +kernel⟩
theorem ok_draw (T : Top K mg) : FnOk P w K mg base CX0 1 (ga K "_law_draw") (fdO K (ga K "_law_draw")) ["_law_well_here", "_law_many"] spDraw := by
  refine T.dLawDraw.F.ok scDraw (fun vs H Q E h => ?_) (fun cdv A outer s H vs Q E hr h => ?_)
  · obtain ⟨p, m, rfl, _⟩ := h
    rfl
  · obtain ⟨p, m, rfl, ⟨a, b, c, hw⟩, hm1, hm2, q⟩ := h
    refine ⟨_, PSs.nox (pss_cons (ps_if (pt_cmpR op_gt (pe_ix ix_list (pv 0) pe_int (fun _ _ => rfl)) pe_int (nomark _)) (pss_cons (ps_set (i := 2) scDraw.nd rfl (Or.inl rfl) (pe_op op_mod (pe_ix ix_list (pv 0) pe_int (fun _ _ => rfl)) (pv 1)))
        (pss_cons (ps_asg (pe_op op_fdivW (pe_ix ix_list (pv 0) pe_int (fun _ _ => rfl)) (pv 1)) (pg_sub (pv 0) pe_int set_list)) (pss_one (ps_ret (pv 2))))) pss_nil)
      (pss_cons (ps_asg (pe_op op_add (pe_ix ix_list (pv 0) pe_int (fun _ _ => rfl)) pe_int) (pg_sub (pv 0) pe_int set_list))
      (pss_cons (ps_set (i := 3) scDraw.nd rfl (Or.inl rfl) (pe_op op_mod (pe_op op_mul (pe_op op_add (pe_op op_add (pe_ix ix_list (pv 0) pe_int (fun _ _ => rfl)) (pe_op op_mul pe_int (pe_ix ix_list (pv 0) pe_int (fun _ _ => rfl)))) pe_int) pe_int) pe_int))
      (pss_cons (ps_set (i := 3) scDraw.nd rfl (Or.inl rfl) (pe_op op_mod (pe_op op_mul (pv 3) (pe_op op_add (pe_op op_fdiv (pv 3) pe_int) pe_int)) pe_int))
      (pss_one (ps_ret (pe_op op_mod (pe_op op_fdiv (pe_op op_mod (pe_op op_mul (pv 3) (pe_op op_add (pe_op op_fdiv (pv 3) pe_int) pe_int)) pe_int) pe_int) (pv 1)))))))), ?_⟩
    have i0 : ∀ x y z : V, atI [x, y, z] 0 = some x := fun _ _ _ => atI_nat (j := 0) rfl
    have i1 : ∀ x y z : V, atI [x, y, z] 1 = some y := fun _ _ _ => atI_nat (j := 1) rfl
    have i2 : ∀ x y z : V, atI [x, y, z] 2 = some z := fun _ _ _ => atI_nat (j := 2) rfl
    refine ⟨_, rfl, p, _, _, _, rfl, rfl, SqL.of hw, i0 _ _ _, _, _, rfl, rfl, _, rfl, ?_⟩
    by_cases h0 : 0 < a
    · rw [decide_eq_true h0]
      refine iteT ⟨_, rfl, p, _, _, _, rfl, rfl, SqL.of hw, i0 _ _ _, _, rfl, _, _, rfl, rfl, by omega, ?_⟩
      refine ⟨_, rfl, p, _, _, _, rfl, rfl, SqL.of hw, i0 _ _ _, _, rfl, _, _, rfl, rfl, ⟨by omega, Nat.lt_trans (PySem.Flt.log2_lt_of (k := 60) (by decide) (by omega)) (by decide)⟩, ?_⟩
      refine ⟨_, rfl, p, _, _, 0, rfl, rfl, hw, rfl, _, rfl, ?_⟩
      exact q _ _ (Int.emod_nonneg _ (by omega)) (Int.emod_lt_of_pos _ (by omega)) Drawn.upd
    · rw [decide_eq_false h0]
      refine iteF ⟨_, rfl, p, _, _, _, rfl, rfl, SqL.of hw, i2 _ _ _, _, _, rfl, rfl, _, rfl, p, _, _, 2, rfl, rfl, hw, rfl, ?_⟩
      have hw2 : (upd H p (.lst [.int a, .int b, .int (c + 1)])) p = some (.lst [.int a, .int b, .int (c + 1)]) := upd_same
      refine ⟨_, rfl, p, _, _, _, rfl, rfl, SqL.of hw2, i1 _ _ _, _, rfl, p, _, _, _, rfl, rfl, SqL.of hw2, i2 _ _ _, _, _, rfl, rfl, .inl (by decide), _, _, rfl, rfl, _, _, rfl, rfl, _, _, rfl, rfl, .inr (by decide), _, _, rfl, rfl, pos0 _ rfl, ?_⟩
      generalize hx : (b + 7919 * (c + 1) + 1) * 48271 % 2147483647 = x
      have x0 : 0 ≤ x := by rw [← hx]; exact Int.emod_nonneg _ (by decide)
      have x1 : x < 2147483647 := by rw [← hx]; exact Int.emod_lt_of_pos _ (by decide)
      refine ⟨_, rfl, _, rfl, _, _, rfl, rfl, ⟨by decide, by decide⟩, _, _, rfl, rfl, _, _, rfl, rfl, .inl ?_, _, _, rfl, rfl, pos0 _ rfl, ?_⟩
      · constructor
        · show (-18446744073709551616 : Int) < _
          omega
        · show _ < (18446744073709551616 : Int)
          omega
      generalize hy : x * (x / 1009 + 69621) % 2147483629 = y
      have y0 : 0 ≤ y := by rw [← hy]; exact Int.emod_nonneg _ (by decide)
      have y1 : y < 2147483629 := by rw [← hy]; exact Int.emod_lt_of_pos _ (by decide)
      refine ⟨_, rfl, _, rfl, _, _, rfl, rfl, ⟨by decide, by decide⟩, _, _, rfl, rfl, _, _, rfl, rfl, .inl ?_, _, _, rfl, rfl, pos0 _ rfl, _, _, rfl, rfl, ⟨by decide, by decide⟩, _, rfl, _, _, rfl, rfl, by omega, ?_⟩
      · constructor
        · show (-18446744073709551616 : Int) < _
          omega
        · show _ < (18446744073709551616 : Int)
          omega
      exact q _ _ (Int.emod_nonneg _ (by omega)) (Int.emod_lt_of_pos _ (by omega)) Drawn.upd
theorem bi_draw (T : Top K mg) : Binds K (fdO K (ga K "_law_draw")) ["_law_well_here", "_law_many"] [] := T.dLawDraw.F.bindsN fun _ _ _ _ _ _ us hl => match us, hl with | [_, _], _ => rfl
/-! ### _law_well -/
def spWell : Sp := fun vs H Q _ => ∃ c : Int, vs = [.int c] ∧ ∀ H' p, Same H H' → H p = none → WellAt H' p → Q (.ref p) H'
theorem scWell : FnScope ["_law_cell"] ["_law_cell"] (defScope sLawWell) := ⟨rfl, rfl, rfl, by decide +kernel, rfl, by decide +kernel, by decide +kernel⟩
theorem ok_well (T : Top K mg) : FnOk P w K mg base CX0 1 (ga K "_law_well") (fdO K (ga K "_law_well")) ["_law_cell"] spWell := by
  refine T.dLawWell.F.ok scWell (fun vs H Q E h => ?_) (fun cdv A outer s H vs Q E hr h => ?_)
  · obtain ⟨c, rfl, _⟩ := h
    rfl
  · obtain ⟨c, rfl, q⟩ := h
    refine ⟨_, PSs.nox (pss_one (ps_ret (pe_lst (pa_cons (pe_op op_mul (pv 0) (pe_callTy call_int1 (by rfl) T.zInt (by decide +kernel) (pa_cons (pe_cmpR op_ge (pv 0) (pe_op op_pow pe_int pe_int) (nomark _)) pa_nil)))
      (pa_cons (pe_op op_mod (pv 0) pe_int) (pa_cons pe_int pa_nil)))))), ?_⟩
    refine ⟨_, rfl, _, rfl, _, _, rfl, rfl, ⟨by decide, by decide, by decide⟩, _, _, rfl, rfl, .inr ⟨_, rfl, _, _, rfl, rfl, .inr ?_, _, rfl, _, _, rfl, rfl, pos0 _ rfl, by show 3 ≤ sizeLine; decide, fun p np => ?_⟩⟩
    · split <;> exact ⟨by decide, by decide⟩
    · exact q _ p (same_new np) np ⟨_, _, _, upd_same⟩
theorem bi_well (T : Top K mg) : Binds K (fdO K (ga K "_law_well")) ["_law_cell"] [] := T.dLawWell.F.bindsN fun _ _ _ _ _ _ us hl => match us, hl with | [_], _ => rfl
end
end K28

set_option Elab.async false
set_option linter.all false
set_option maxRecDepth 100000
set_option maxHeartbeats 4000000
/-! The law's defs: numbers, blocks. -/
namespace K28
open PySem PySem.Spec L2
open He (ga ma)
def NumB (n : Int) : Prop := 1 ≤ n ∧ n ≤ 999999999998
section
variable {P : Program} {w : World} {K : PySem.W.Frag} {mg : Str → Option Value} {base : Heap}
def spNumber : Sp := fun vs H Q _ => ∃ p : Addr, vs = [.ref p] ∧ WellAt H p ∧ ∀ n H', NumB n → Drawn p H H' → Q (.int n) H'
theorem scNumber : FnScope ["_law_well_here", "_law_way", "_law_far_here"] ["_law_well_here"] (defScope sLawNumber) := ⟨rfl, rfl, rfl, by decide +kernel, rfl, by decide +kernel, by decide +kernel⟩
def farsL : List Int := [26, 27, 52, 53, 702, 703, 18278, 18279, 217180147158, 217180147159, 10 ^ (12 : Int).toNat - 2, 1]
theorem fars_at {r : Int} (h0 : 0 ≤ r) (h1 : r < 12) : ∃ n : Int, atI (farsL.map V.int) r = some (.int n) ∧ NumB n := by
  have : r = 0 ∨ r = 1 ∨ r = 2 ∨ r = 3 ∨ r = 4 ∨ r = 5 ∨ r = 6 ∨ r = 7 ∨ r = 8 ∨ r = 9 ∨ r = 10 ∨ r = 11 := by omega
  rcases this with rfl | rfl | rfl | rfl | rfl | rfl | rfl | rfl | rfl | rfl | rfl | rfl
  · exact ⟨_, atI_nat (j := 0) rfl, by decide, by decide⟩
  · exact ⟨_, atI_nat (j := 1) rfl, by decide, by decide⟩
  · exact ⟨_, atI_nat (j := 2) rfl, by decide, by decide⟩
  · exact ⟨_, atI_nat (j := 3) rfl, by decide, by decide⟩
  · exact ⟨_, atI_nat (j := 4) rfl, by decide, by decide⟩
  · exact ⟨_, atI_nat (j := 5) rfl, by decide, by decide⟩
  · exact ⟨_, atI_nat (j := 6) rfl, by decide, by decide⟩
  · exact ⟨_, atI_nat (j := 7) rfl, by decide, by decide⟩
  · exact ⟨_, atI_nat (j := 8) rfl, by decide, by decide⟩
  · exact ⟨_, atI_nat (j := 9) rfl, by decide, by decide⟩
  · exact ⟨_, atI_nat (j := 10) rfl, by decide, by decide⟩
  · exact ⟨_, atI_nat (j := 11) rfl, by decide, by decide⟩
theorem p60 {n : Int} (h : decide (n < 1152921504606846976) = true) : n < 2 ^ 60 := of_decide_eq_true h
theorem ten12 : ((10 : Int) ^ (12 : Int).toNat - 2) = 999999999998 := by decide
theorem ten12' : ((10 : Int) ^ (12 : Int).toNat - 1) = 999999999999 := by decide
theorem ten6 : ((10 : Int) ^ (6 : Int).toNat) = 1000000 := by decide
theorem ok_number (T : Top K mg) : FnOk P w K mg base CX0 2 (ga K "_law_number") (fdO K (ga K "_law_number")) ["_law_well_here"] spNumber := by
  refine T.dLawNumber.F.ok scNumber (fun vs H Q E h => ?_) (fun cdv A outer s H vs Q E hr h => ?_)
  · obtain ⟨p, rfl, _⟩ := h
    rfl
  · obtain ⟨p, rfl, hw, q⟩ := h
    refine ⟨_, PSs.nox (pss_cons (ps_set (i := 1) scNumber.nd rfl (Or.inl rfl) (pe_call (ok_draw T) hr (by rfl) T.dLawDraw.g T.dLawDraw.F.kp (bi_draw T) .nil pass0 (pa_cons (pv 0) (pa_cons pe_int pa_nil))))
      (pss_cons (ps_if (pt_cmpR op_lt (pv 1) pe_int (nomark _)) (pss_one (ps_ret (pe_op op_add pe_int (pe_call (ok_draw T) hr (by rfl) T.dLawDraw.g T.dLawDraw.F.kp (bi_draw T) .nil pass0 (pa_cons (pv 0) (pa_cons pe_int pa_nil)))))) pss_nil)
      (pss_cons (ps_if (pt_cmpR op_eq (pv 1) pe_int (nomark _)) (pss_cons (ps_set (i := 2) scNumber.nd rfl (Or.inl rfl) (pe_lst (pa_cons pe_int (pa_cons pe_int (pa_cons pe_int (pa_cons pe_int (pa_cons pe_int (pa_cons pe_int (pa_cons pe_int (pa_cons pe_int (pa_cons pe_int (pa_cons pe_int
            (pa_cons (pe_op op_sub (pe_op op_pow pe_int pe_int) pe_int) (pa_cons pe_int pa_nil))))))))))))))
          (pss_one (ps_ret (pe_ix ix_list (pv 2) (pe_call (ok_draw T) hr (by rfl) T.dLawDraw.g T.dLawDraw.F.kp (bi_draw T) .nil pass0 (pa_cons (pv 0) (pa_cons pe_int pa_nil))) (fun _ _ => rfl))))) pss_nil)
      (pss_cons (ps_if (pt_cmpR op_eq (pv 1) pe_int (nomark _)) (pss_one (ps_ret (pe_op op_add pe_int (pe_call (ok_draw T) hr (by rfl) T.dLawDraw.g T.dLawDraw.F.kp (bi_draw T) .nil pass0 (pa_cons (pv 0) (pa_cons (pe_op op_sub (pe_op op_pow pe_int pe_int) pe_int) pa_nil)))))) pss_nil)
      (pss_one (ps_ret (pe_op op_add pe_int (pe_call (ok_draw T) hr (by rfl) T.dLawDraw.g T.dLawDraw.F.kp (bi_draw T) .nil pass0 (pa_cons (pv 0) (pa_cons pe_int pa_nil)))))))))), ?_⟩
    refine ⟨_, rfl, p, 8, rfl, hw, by decide, p60 rfl, fun r1 H1 a1 a2 d1 => ?_⟩
    have w1 := d1.2
    refine ⟨_, rfl, _, _, rfl, rfl, _, rfl, ?_⟩
    by_cases h4 : r1 < 4
    · rw [decide_eq_true h4]
      exact iteT ⟨_, rfl, p, 9, rfl, w1, by decide, p60 rfl, fun r2 H2 b1 b2 d2 => ⟨_, _, rfl, rfl, q _ _ ⟨by omega, by omega⟩ (d1.trans d2)⟩⟩
    · rw [decide_eq_false h4]
      refine iteF ⟨_, rfl, rfl, _, rfl, ?_⟩
      by_cases e4 : r1 = 4
      · rw [show decide (V.int r1 = V.int 4) = true from decide_eq_true (by rw [e4])]
        refine iteT ⟨_, _, rfl, rfl, ⟨by decide, by decide, by decide⟩, _, _, rfl, rfl, by show 12 ≤ sizeLine; decide, fun l nl => ⟨_, rfl, _, rfl, p, 12, rfl, w1.same (same_new nl), by decide, p60 rfl, fun r2 H2 b1 b2 d2 => ?_⟩⟩
        obtain ⟨n, hn, hb⟩ := fars_at b1 b2
        have nlp : l ≠ p := fun z => by
          obtain ⟨_, _, _, hp⟩ := w1
          rw [z, hp] at nl
          cases nl
        exact ⟨l, _, r2, _, rfl, rfl, SqL.of (d2.1 l _ nlp upd_same), hn, q _ _ hb ((d1.same (same_new nl)).trans d2)⟩
      · rw [show decide (V.int r1 = V.int 4) = false from decide_eq_false fun z => e4 (V.int.inj z)]
        refine iteF ⟨_, rfl, rfl, _, rfl, ?_⟩
        by_cases e5 : r1 = 5
        · rw [show decide (V.int r1 = V.int 5) = true from decide_eq_true (by rw [e5])]
          refine iteT ⟨_, rfl, _, _, rfl, rfl, ⟨by decide, by decide, by decide⟩, _, _, rfl, rfl, p, _, rfl, w1, by decide, by decide, fun r2 H2 b1 b2 d2 => ⟨_, _, rfl, rfl, q _ _ ?_ (d1.trans d2)⟩⟩
          rw [ten12] at b2
          exact ⟨by omega, by omega⟩
        · rw [show decide (V.int r1 = V.int 5) = false from decide_eq_false fun z => e5 (V.int.inj z)]
          exact iteF ⟨_, rfl, p, 800, rfl, w1, by decide, p60 rfl, fun r2 H2 b1 b2 d2 => ⟨_, _, rfl, rfl, q _ _ ⟨by omega, by omega⟩ (d1.trans d2)⟩⟩
theorem bi_number (T : Top K mg) : Binds K (fdO K (ga K "_law_number")) ["_law_well_here"] [] := T.dLawNumber.F.bindsN fun _ _ _ _ _ _ us hl => match us, hl with | [_], _ => rfl
/-! ### _law_last -/
def spLast : Sp := fun vs H Q _ => ∃ (p : Addr) (f : Int), vs = [.ref p, .int f] ∧ WellAt H p ∧ NumB f ∧ ∀ n H', NumB n → Drawn p H H' → Q (.int n) H'
theorem scLast : FnScope ["_law_well_here", "_law_first", "_law_way"] ["_law_well_here", "_law_first"] (defScope sLawLast) := ⟨rfl, rfl, rfl, by decide +kernel, rfl, by decide +kernel, by decide +kernel⟩
theorem ok_last (T : Top K mg) : FnOk P w K mg base CX0 2 (ga K "_law_last") (fdO K (ga K "_law_last")) ["_law_well_here", "_law_first"] spLast := by
  refine T.dLawLast.F.ok scLast (fun vs H Q E h => ?_) (fun cdv A outer s H vs Q E hr h => ?_)
  · obtain ⟨p, f, rfl, _⟩ := h
    rfl
  · obtain ⟨p, f, rfl, hw, hf, q⟩ := h
    refine ⟨_, PSs.nox (pss_cons (ps_set (i := 2) scLast.nd rfl (Or.inl rfl) (pe_call (ok_draw T) hr (by rfl) T.dLawDraw.g T.dLawDraw.F.kp (bi_draw T) .nil pass0 (pa_cons (pv 0) (pa_cons pe_int pa_nil))))
      (pss_cons (ps_if (pt_cmpR op_lt (pv 2) pe_int (nomark _)) (pss_one (ps_ret (pv 1))) pss_nil)
      (pss_cons (ps_if (pt_cmpR op_eq (pv 2) pe_int (nomark _)) (pss_one (ps_ret (pe_callB (call_min2 rfl) (by rfl) T.zMin (by decide +kernel) (pa_cons (pe_op op_sub (pe_op op_pow pe_int pe_int) pe_int)
          (pa_cons (pe_op op_add (pv 1) (pe_call (ok_draw T) hr (by rfl) T.dLawDraw.g T.dLawDraw.F.kp (bi_draw T) .nil pass0 (pa_cons (pv 0) (pa_cons (pe_op op_pow pe_int pe_int) pa_nil)))) pa_nil))))) pss_nil)
      (pss_one (ps_ret (pe_callB (call_min2 rfl) (by rfl) T.zMin (by decide +kernel) (pa_cons (pe_op op_sub (pe_op op_pow pe_int pe_int) pe_int)
          (pa_cons (pe_op op_add (pv 1) (pe_call (ok_draw T) hr (by rfl) T.dLawDraw.g T.dLawDraw.F.kp (bi_draw T) .nil pass0 (pa_cons (pv 0) (pa_cons pe_int pa_nil)))) pa_nil)))))))), ?_⟩
    refine ⟨_, rfl, p, 6, rfl, hw, by decide, p60 rfl, fun r1 H1 a1 a2 d1 => ?_⟩
    have w1 := d1.2
    have f1 := hf.1
    have f2 := hf.2
    refine ⟨_, rfl, _, _, rfl, rfl, _, rfl, ?_⟩
    by_cases h4 : r1 < 2
    · rw [decide_eq_true h4]
      exact iteT ⟨_, rfl, q _ _ hf d1⟩
    · rw [decide_eq_false h4]
      refine iteF ⟨_, rfl, rfl, _, rfl, ?_⟩
      by_cases e4 : r1 = 2
      · rw [show decide (V.int r1 = V.int 2) = true from decide_eq_true (by rw [e4])]
        refine iteT ⟨_, _, rfl, rfl, ⟨by decide, by decide, by decide⟩, _, _, rfl, rfl, _, rfl, _, rfl, _, _, rfl, rfl, ⟨by decide, by decide, by decide⟩, p, _, rfl, w1, by decide, by decide, fun r2 H2 b1 b2 d2 => ⟨_, _, rfl, rfl, _, _, rfl, q _ _ ?_ (d1.trans d2)⟩⟩
        rw [ten12]
        constructor <;> split <;> omega
      · rw [show decide (V.int r1 = V.int 2) = false from decide_eq_false fun z => e4 (V.int.inj z)]
        refine iteF ⟨_, _, rfl, rfl, ⟨by decide, by decide, by decide⟩, _, _, rfl, rfl, _, rfl, _, rfl, p, 6, rfl, w1, by decide, p60 rfl, fun r2 H2 b1 b2 d2 => ⟨_, _, rfl, rfl, _, _, rfl, q _ _ ?_ (d1.trans d2)⟩⟩
        rw [ten12]
        constructor <;> split <;> omega
theorem bi_last (T : Top K mg) : Binds K (fdO K (ga K "_law_last")) ["_law_well_here", "_law_first"] [] := T.dLawLast.F.bindsN fun _ _ _ _ _ _ us hl => match us, hl with | [_, _], _ => rfl
end
end K28

set_option Elab.async false
set_option linter.all false
set_option maxRecDepth 100000
set_option maxHeartbeats 4000000
/-! The law's defs: a block as four numbers, what it is. -/
namespace K28
open PySem PySem.Spec L2
open He (ga ma)
def NumO (o : Option Int) : Prop := ∀ n, o = some n → NumB n
structure FourOk (t l : Int) (bo ri : Option Int) : Prop where
  t : NumB t
  l : NumB l
  b : NumO bo
  r : NumO ri
theorem numO_none : NumO none := fun _ z => by cases z
theorem numO_some {n : Int} (h : NumB n) : NumO (some n) := fun _ z => by
  cases z
  exact h
theorem numB_one : NumB 1 := ⟨by decide, by decide⟩
abbrev fourV (t l : Int) (bo ri : Option Int) : HO := .tup [.int t, .int l, oV bo, oV ri]
theorem tup4 {x y z u : V} : [x, y, z, u].length ≤ sizeLine := by
  show 4 ≤ sizeLine
  decide
section
variable {P : Program} {w : World} {K : PySem.W.Frag} {mg : Str → Option Value} {base : Heap}
def spBlock : Sp := fun vs H Q _ => ∃ p : Addr, vs = [.ref p] ∧ WellAt H p ∧ ∀ H' q t l bo ri, Drawn p H H' → H' q = some (fourV t l bo ri) → FourOk t l bo ri → Q (.ref q) H'
theorem scBlock : FnScope ["_law_well_here", "_law_kind", "_law_top", "_law_bottom", "_law_left", "_law_right"] ["_law_well_here"] (defScope sLawBlock) := ⟨rfl, rfl, rfl, by decide +kernel, rfl, by decide +kernel, by decide +kernel⟩
theorem ok_block (T : Top K mg) : FnOk P w K mg base CX0 3 (ga K "_law_block") (fdO K (ga K "_law_block")) ["_law_well_here"] spBlock := by
  refine T.dLawBlock.F.ok scBlock (fun vs H Q E h => ?_) (fun cdv A outer s H vs Q E hr h => ?_)
  · obtain ⟨p, rfl, _⟩ := h
    rfl
  · obtain ⟨p, rfl, hw, q⟩ := h
    refine ⟨_, PSs.nox (pss_cons (ps_set (i := 1) scBlock.nd rfl (Or.inl rfl) (pe_call (ok_draw T) (hr.mono (by decide)) (by rfl) T.dLawDraw.g T.dLawDraw.F.kp (bi_draw T) .nil pass0 (pa_cons (pv 0) (pa_cons pe_int pa_nil))))
      (pss_cons (ps_set (i := 2) scBlock.nd rfl (Or.inl rfl) (pe_call (ok_number T) hr (by rfl) T.dLawNumber.g T.dLawNumber.F.kp (bi_number T) .nil pass0 (pa_cons (pv 0) pa_nil)))
      (pss_cons (ps_set (i := 3) scBlock.nd rfl (Or.inl rfl) (pe_call (ok_last T) hr (by rfl) T.dLawLast.g T.dLawLast.F.kp (bi_last T) .nil pass0 (pa_cons (pv 0) (pa_cons (pv 2) pa_nil))))
      (pss_cons (ps_set (i := 4) scBlock.nd rfl (Or.inl rfl) (pe_call (ok_number T) hr (by rfl) T.dLawNumber.g T.dLawNumber.F.kp (bi_number T) .nil pass0 (pa_cons (pv 0) pa_nil)))
      (pss_cons (ps_set (i := 5) scBlock.nd rfl (Or.inl rfl) (pe_call (ok_last T) hr (by rfl) T.dLawLast.g T.dLawLast.F.kp (bi_last T) .nil pass0 (pa_cons (pv 0) (pa_cons (pv 4) pa_nil))))
      (pss_cons (ps_if (pt_cmpR op_eq (pv 1) pe_int (nomark _)) (pss_one (ps_ret (pe_tup (pa_cons (pv 2) (pa_cons (pv 4) (pa_cons (pv 2) (pa_cons (pv 4) pa_nil))))))) pss_nil)
      (pss_cons (ps_if (pt_cmpR op_eq (pv 1) pe_int (nomark _)) (pss_one (ps_ret (pe_tup (pa_cons (pv 2) (pa_cons pe_int (pa_cons (pv 3) (pa_cons pe_non pa_nil))))))) pss_nil)
      (pss_cons (ps_if (pt_cmpR op_eq (pv 1) pe_int (nomark _)) (pss_one (ps_ret (pe_tup (pa_cons pe_int (pa_cons (pv 4) (pa_cons pe_non (pa_cons (pv 5) pa_nil))))))) pss_nil)
      (pss_cons (ps_if (pt_cmpR op_lt (pv 1) pe_int (nomark _)) (pss_one (ps_ret (pe_ix ix_list (pe_lst (pa_cons (pe_tup (pa_cons (pv 2) (pa_cons (pv 4) (pa_cons pe_non (pa_cons (pv 5) pa_nil)))))
          (pa_cons (pe_tup (pa_cons (pv 2) (pa_cons (pv 4) (pa_cons (pv 3) (pa_cons pe_non pa_nil))))) (pa_cons (pe_tup (pa_cons (pv 2) (pa_cons (pv 4) (pa_cons pe_non (pa_cons pe_non pa_nil))))) pa_nil)))) (pe_op op_sub (pv 1) pe_int) (fun _ _ => rfl)))) pss_nil)
      (pss_cons (ps_if (pt_cmpR op_eq (pv 1) pe_int (nomark _)) (pss_one (ps_ret (pe_tup (pa_cons pe_int (pa_cons pe_int (pa_cons pe_non (pa_cons pe_non pa_nil))))))) pss_nil)
      (pss_one (ps_ret (pe_tup (pa_cons (pv 2) (pa_cons (pv 4) (pa_cons (pv 3) (pa_cons (pv 5) pa_nil))))))))))))))))), ?_⟩
    refine ⟨_, rfl, p, 9, rfl, hw, by decide, p60 rfl, fun k H1 a1 a2 d1 => ?_⟩
    refine ⟨_, rfl, p, rfl, d1.2, fun t H2 bt d2 => ?_⟩
    refine ⟨_, rfl, _, rfl, p, t, rfl, d2.2, bt, fun bo H3 bb d3 => ?_⟩
    refine ⟨_, rfl, p, rfl, d3.2, fun l H4 bl d4 => ?_⟩
    refine ⟨_, rfl, _, rfl, p, l, rfl, d4.2, bl, fun ri H5 br d5 => ?_⟩
    have d := (((d1.trans d2).trans d3).trans d4).trans d5
    have go : ∀ (t l : Int) (bo ri : Option Int), FourOk t l bo ri → ∀ x, H5 x = none → Q (.ref x) (upd H5 x (fourV t l bo ri)) := fun t l bo ri f x nx => q _ x t l bo ri (d.same (same_new nx)) upd_same f
    refine ⟨_, rfl, rfl, _, rfl, ?_⟩
    by_cases k0 : k = 0
    · rw [show decide (V.int k = V.int 0) = true from decide_eq_true (by rw [k0])]
      exact iteT ⟨_, rfl, _, rfl, _, rfl, _, rfl, tup4, fun x nx => go t l (some t) (some l) ⟨bt, bl, numO_some bt, numO_some bl⟩ x nx⟩
    rw [show decide (V.int k = V.int 0) = false from decide_eq_false fun z => k0 (V.int.inj z)]
    refine iteF ⟨_, rfl, rfl, _, rfl, ?_⟩
    by_cases k1 : k = 1
    · rw [show decide (V.int k = V.int 1) = true from decide_eq_true (by rw [k1])]
      exact iteT ⟨_, rfl, _, rfl, tup4, fun x nx => go t 1 (some bo) none ⟨bt, numB_one, numO_some bb, numO_none⟩ x nx⟩
    rw [show decide (V.int k = V.int 1) = false from decide_eq_false fun z => k1 (V.int.inj z)]
    refine iteF ⟨_, rfl, rfl, _, rfl, ?_⟩
    by_cases k2 : k = 2
    · rw [show decide (V.int k = V.int 2) = true from decide_eq_true (by rw [k2])]
      exact iteT ⟨_, rfl, _, rfl, tup4, fun x nx => go 1 l none (some ri) ⟨numB_one, bl, numO_none, numO_some br⟩ x nx⟩
    rw [show decide (V.int k = V.int 2) = false from decide_eq_false fun z => k2 (V.int.inj z)]
    refine iteF ⟨_, rfl, _, _, rfl, rfl, _, rfl, ?_⟩
    by_cases k6 : k < 6
    · rw [decide_eq_true k6]
      refine iteT ⟨_, rfl, _, rfl, _, rfl, tup4, fun x1 n1 => ⟨_, rfl, _, rfl, _, rfl, tup4, fun x2 n2 => ⟨_, rfl, _, rfl, tup4, fun x3 n3 => ⟨by show 3 ≤ sizeLine; decide, fun ll nl => ⟨_, rfl, _, _, rfl, rfl, ?_⟩⟩⟩⟩⟩
      have h1 := same_new (o := .lst [.ref x1, .ref x2, .ref x3]) nl x1 _ (same_new n3 x1 _ (same_new n2 x1 _ (show upd H5 x1 (fourV t l none (some ri)) x1 = some (fourV t l none (some ri)) from upd_same)))
      have h2 := same_new (o := .lst [.ref x1, .ref x2, .ref x3]) nl x2 _ (same_new n3 x2 _ (show (upd (upd H5 x1 (fourV t l none (some ri))) x2 (fourV t l (some bo) none)) x2 = some (fourV t l (some bo) none) from upd_same))
      have h3 := same_new (o := .lst [.ref x1, .ref x2, .ref x3]) nl x3 _ (show (upd (upd (upd H5 x1 (fourV t l none (some ri))) x2 (fourV t l (some bo) none)) x3 (fourV t l none none)) x3 = some (fourV t l none none) from upd_same)
      have dd := d.same (same_lay (o := .lst [.ref x1, .ref x2, .ref x3]) (same_lay (same_lay (same_new n1) n2) n3) nl)
      have : k = 3 ∨ k = 4 ∨ k = 5 := by omega
      rcases this with rfl | rfl | rfl
      · exact ⟨ll, _, 0, _, rfl, rfl, SqL.of upd_same, atI_nat (j := 0) rfl, q _ x1 t l none (some ri) dd h1 ⟨bt, bl, numO_none, numO_some br⟩⟩
      · exact ⟨ll, _, 1, _, rfl, rfl, SqL.of upd_same, atI_nat (j := 1) rfl, q _ x2 t l (some bo) none dd h2 ⟨bt, bl, numO_some bb, numO_none⟩⟩
      · exact ⟨ll, _, 2, _, rfl, rfl, SqL.of upd_same, atI_nat (j := 2) rfl, q _ x3 t l none none dd h3 ⟨bt, bl, numO_none, numO_none⟩⟩
    rw [decide_eq_false k6]
    refine iteF ⟨_, rfl, rfl, _, rfl, ?_⟩
    by_cases e6 : k = 6
    · rw [show decide (V.int k = V.int 6) = true from decide_eq_true (by rw [e6])]
      exact iteT ⟨tup4, fun x nx => go 1 1 none none ⟨numB_one, numB_one, numO_none, numO_none⟩ x nx⟩
    rw [show decide (V.int k = V.int 6) = false from decide_eq_false fun z => e6 (V.int.inj z)]
    exact iteF ⟨_, rfl, _, rfl, _, rfl, _, rfl, tup4, fun x nx => go t l (some bo) (some ri) ⟨bt, bl, numO_some bb, numO_some br⟩ x nx⟩
theorem bi_block (T : Top K mg) : Binds K (fdO K (ga K "_law_block")) ["_law_well_here"] [] := T.dLawBlock.F.bindsN fun _ _ _ _ _ _ us hl => match us, hl with | [_], _ => rfl
/-! ### what a block is -/
def spLR (K : PySem.W.Frag) : Sp := fun vs H Q _ => ∃ (p : Addr) (t l : Int) (bo ri : Option Int), vs = [.ref p] ∧ SqT K H p [.int t, .int l, oV bo, oV ri] ∧ Q (.bl (rowsB l bo ri)) H
def spLC (K : PySem.W.Frag) : Sp := fun vs H Q _ => ∃ (p : Addr) (t l : Int) (bo ri : Option Int), vs = [.ref p] ∧ SqT K H p [.int t, .int l, oV bo, oV ri] ∧ Q (.bl (colsB t bo ri)) H
theorem scLR : FnScope ["_law_four"] ["_law_four"] (defScope sLawIsRows) := ⟨rfl, rfl, rfl, by decide +kernel, rfl, by decide +kernel, by decide +kernel⟩
theorem scLC : FnScope ["_law_four"] ["_law_four"] (defScope sLawIsColumns) := ⟨rfl, rfl, rfl, by decide +kernel, rfl, by decide +kernel, by decide +kernel⟩
theorem f0 (t l : Int) (bo ri : Option Int) : atI [V.int t, .int l, oV bo, oV ri] 0 = some (.int t) := atI_nat (j := 0) rfl
theorem f1 (t l : Int) (bo ri : Option Int) : atI [V.int t, .int l, oV bo, oV ri] 1 = some (.int l) := atI_nat (j := 1) rfl
theorem f2 (t l : Int) (bo ri : Option Int) : atI [V.int t, .int l, oV bo, oV ri] 2 = some (oV bo) := atI_nat (j := 2) rfl
theorem f3 (t l : Int) (bo ri : Option Int) : atI [V.int t, .int l, oV bo, oV ri] 3 = some (oV ri) := atI_nat (j := 3) rfl
theorem ok_lr (T : Top K mg) : FnOk P w K mg base CX0 1 (ga K "_law_is_rows") (fdO K (ga K "_law_is_rows")) ["_law_four"] (spLR K) := by
  refine T.dLawIsRows.F.ok scLR (fun vs H Q E h => ?_) (fun cdv A outer s H vs Q E hr h => ?_)
  · obtain ⟨p, t, l, bo, ri, rfl, _⟩ := h
    rfl
  · obtain ⟨p, t, l, bo, ri, rfl, hp, q⟩ := h
    refine ⟨_, PSs.nox (pss_one (ps_ret (pe_and (pe_cmpR op_eq (pe_ix ix_tup (pv 0) pe_int (fun _ _ => rfl)) pe_int (nomark _)) (pe_and (pe_cmp (pc_isN (pe_ix ix_tup (pv 0) pe_int (fun _ _ => rfl))) rfl) (pe_one (pe_cmp (pc_notN (pe_ix ix_tup (pv 0) pe_int (fun _ _ => rfl))) rfl)))))), ?_⟩
    refine ⟨_, rfl, p, _, _, _, rfl, rfl, hp, f1 .., ?_⟩
    obtain ⟨h1, c, h2, h3⟩ := and3 (a := l) (x := ri) (y := bo) (H := H) (Q := Q) q
    refine ⟨h1, c, h2, ?_⟩
    cases c with
    | false => exact h3
    | true =>
      obtain ⟨c, h4, h5⟩ := h3
      refine iteT ⟨_, rfl, p, _, _, _, rfl, rfl, hp, f3 .., c, h4, ?_⟩
      cases c with
      | false => exact h5
      | true => exact iteT ⟨_, rfl, p, _, _, _, rfl, rfl, hp, f2 .., h5⟩
theorem ok_lc (T : Top K mg) : FnOk P w K mg base CX0 1 (ga K "_law_is_columns") (fdO K (ga K "_law_is_columns")) ["_law_four"] (spLC K) := by
  refine T.dLawIsColumns.F.ok scLC (fun vs H Q E h => ?_) (fun cdv A outer s H vs Q E hr h => ?_)
  · obtain ⟨p, t, l, bo, ri, rfl, _⟩ := h
    rfl
  · obtain ⟨p, t, l, bo, ri, rfl, hp, q⟩ := h
    refine ⟨_, PSs.nox (pss_one (ps_ret (pe_and (pe_cmpR op_eq (pe_ix ix_tup (pv 0) pe_int (fun _ _ => rfl)) pe_int (nomark _)) (pe_and (pe_cmp (pc_isN (pe_ix ix_tup (pv 0) pe_int (fun _ _ => rfl))) rfl) (pe_one (pe_cmp (pc_notN (pe_ix ix_tup (pv 0) pe_int (fun _ _ => rfl))) rfl)))))), ?_⟩
    refine ⟨_, rfl, p, _, _, _, rfl, rfl, hp, f0 .., ?_⟩
    obtain ⟨h1, c, h2, h3⟩ := and3 (a := t) (x := bo) (y := ri) (H := H) (Q := Q) q
    refine ⟨h1, c, h2, ?_⟩
    cases c with
    | false => exact h3
    | true =>
      obtain ⟨c, h4, h5⟩ := h3
      refine iteT ⟨_, rfl, p, _, _, _, rfl, rfl, hp, f2 .., c, h4, ?_⟩
      cases c with
      | false => exact h5
      | true => exact iteT ⟨_, rfl, p, _, _, _, rfl, rfl, hp, f3 .., h5⟩
theorem bi_lr (T : Top K mg) : Binds K (fdO K (ga K "_law_is_rows")) ["_law_four"] [] := T.dLawIsRows.F.bindsN fun _ _ _ _ _ _ us hl => match us, hl with | [_], _ => rfl
theorem bi_lc (T : Top K mg) : Binds K (fdO K (ga K "_law_is_columns")) ["_law_four"] [] := T.dLawIsColumns.F.bindsN fun _ _ _ _ _ _ us hl => match us, hl with | [_], _ => rfl
/-! ### is it a cell -/
def oD : Option Int → PyData
  | none => .none
  | some n => .int n
theorem oD_at {K : PySem.W.Frag} {H : Hp} (o : Option Int) : Dp K H (oV o) (oD o) := by
  cases o with
  | none => exact .non
  | some n => exact .int n
def cellB (t l : Int) (bo ri : Option Int) : Bool := decide (bo = some t) && decide (ri = some l)
theorem oD_eqv (t : Int) (o : Option Int) : PyData.eqv (.int t) (oD o) = decide (o = some t) := by
  cases o with
  | none => rfl
  | some n =>
    show PyData.eqv (.int t) (.int n) = _
    simp only [PyData.eqv]
    by_cases h : t = n
    · rw [h]
      simp
    · rw [decide_eq_false fun z => h (Option.some.inj z).symm]
      simpa using h
theorem cell_eqv (t l : Int) (bo ri : Option Int) : PyData.eqv (.tuple [.int t, .int l]) (.tuple [oD bo, oD ri]) = cellB t l bo ri := by
  have e : PyData.eqv (.tuple [.int t, .int l]) (.tuple [oD bo, oD ri]) = (PyData.eqv (.int t) (oD bo) && (PyData.eqv (.int l) (oD ri) && true)) := by
    cases bo <;> cases ri <;> simp only [oD, PyData.eqv, PyData.eqvAll]
  rw [e, oD_eqv, oD_eqv, Bool.and_true]
  rfl
theorem oD_flat (o : Option Int) : (oD o).canLay0 = true ∧ (oD o).depth = 0 := by cases o <;> simp [oD, PyData.canLay0, PyData.depth]
def spLCell (K : PySem.W.Frag) : Sp := fun vs H Q _ => ∃ (p : Addr) (t l : Int) (bo ri : Option Int), vs = [.ref p] ∧ SqT K H p [.int t, .int l, oV bo, oV ri] ∧ ∀ H', Same H H' → Q (.bl (cellB t l bo ri)) H'
theorem scLCell : FnScope ["_law_four"] ["_law_four"] (defScope sLawIsCell) := ⟨rfl, rfl, rfl, by decide +kernel, rfl, by decide +kernel, by decide +kernel⟩
theorem ok_lcell (T : Top K mg) : FnOk P w K mg base CX0 1 (ga K "_law_is_cell") (fdO K (ga K "_law_is_cell")) ["_law_four"] (spLCell K) := by
  refine T.dLawIsCell.F.ok scLCell (fun vs H Q E h => ?_) (fun cdv A outer s H vs Q E hr h => ?_)
  · obtain ⟨p, t, l, bo, ri, rfl, _⟩ := h
    rfl
  · obtain ⟨p, t, l, bo, ri, rfl, hp, q⟩ := h
    refine ⟨_, PSs.nox (pss_one (ps_ret (pe_cmpR (op_eqD hr.units) (pe_slice sl_tup (pv 0) po_none (po_some pe_int)) (pe_slice sl_tup (pv 0) (po_some pe_int) po_none) (nomark _)))), ?_⟩
    refine ⟨_, rfl, _, rfl, p, _, rfl, hp, by show ¬ (HT.sIx 4 0 none = 0 ∧ HT.sIx 4 4 (some 2) = 4); decide, fun x nx => ?_⟩
    have s1 := same_new (o := .tup (cutV [.int t, .int l, oV bo, oV ri] none (some 2))) nx
    refine ⟨_, rfl, _, rfl, p, _, rfl, same_seqT s1 hp, by show ¬ (HT.sIx 4 0 (some 2) = 0 ∧ HT.sIx 4 4 none = 4); decide, fun y ny => ?_⟩
    have s2 := same_lay (o := .tup (cutV [.int t, .int l, oV bo, oV ri] (some 2) none)) s1 ny
    have e1 : cutV [V.int t, .int l, oV bo, oV ri] none (some 2) = [.int t, .int l] := rfl
    have e2 : cutV [V.int t, .int l, oV bo, oV ri] (some 2) none = [oV bo, oV ri] := rfl
    refine ⟨.tuple [.int t, .int l], .tuple [oD bo, oD ri], .tup (SqT.of (same_new ny _ _ upd_same)) ?_, .tup (SqT.of upd_same) ?_, ?_, ?_, ?_⟩
    · rw [e1]
      exact .cons (.int t) (.cons (.int l) .nil)
    · rw [e2]
      exact .cons (oD_at bo) (.cons (oD_at ri) .nil)
    · show ((PyData.tuple [.int t, .int l]).canLay0 && decide ((PyData.tuple [.int t, .int l]).depth ≤ 64)) = true
      simp [PyData.canLay0, PyData.canLayAll0, PyData.depth, PyData.depthAll]
    · show ((PyData.tuple [oD bo, oD ri]).canLay0 && decide ((PyData.tuple [oD bo, oD ri]).depth ≤ 64)) = true
      simp [PyData.canLay0, PyData.canLayAll0, PyData.depth, PyData.depthAll, (oD_flat bo).1, (oD_flat bo).2, (oD_flat ri).1, (oD_flat ri).2]
    · rw [cell_eqv]
      exact q _ s2
theorem bi_lcell (T : Top K mg) : Binds K (fdO K (ga K "_law_is_cell")) ["_law_four"] [] := T.dLawIsCell.F.bindsN fun _ _ _ _ _ _ us hl => match us, hl with | [_], _ => rfl
end
end K28

set_option Elab.async false
set_option linter.all false
set_option maxRecDepth 100000
set_option maxHeartbeats 4000000
/-! The law's defs: marks, the text in numbers. -/
namespace K28
open PySem PySem.Spec L2
open He (ga ma)
/-- whatever bool it gives, and nothing changes -/
def AnyB (t : TE) (σ : L2.St) (H : Hp) : Prop := ∀ R : VK, (∀ y : Bool, R (.bl y) H) → t σ H R
theorem anyB_and {ta tb : TE} {σ : L2.St} {H : Hp} (ha : AnyB ta σ H) (hb : AnyB tb σ H) : AnyB (tAndV ta tb) σ H := fun R hR => ha _ fun y => ⟨y, rfl, by
  cases y with
  | false => exact iteF (hR _)
  | true => exact iteT (hb _ hR)⟩
theorem anyB_not {ta : TE} {σ : L2.St} {H : Hp} (ha : AnyB ta σ H) : AnyB (tNotV ta) σ H := fun R hR => ha _ fun y => ⟨y, rfl, hR _⟩
section
variable {P : Program} {w : World} {K : PySem.W.Frag} {mg : Str → Option Value} {base : Heap}
/-! ### _law_marks -/
/-- a pair of pairs of marks -/
def MarksAt (H : Hp) (p : Addr) (u d s f : Bool) : Prop := ∃ pr pc, H p = some (.tup [.ref pr, .ref pc]) ∧ H pr = some (.tup [.bl u, .bl d]) ∧ H pc = some (.tup [.bl s, .bl f])
def spMarksL (K : PySem.W.Frag) : Sp := fun vs H Q _ => ∃ (p f : Addr) (t l : Int) (bo ri : Option Int), vs = [.ref p, .ref f] ∧ WellAt H p ∧ H f = some (fourV t l bo ri) ∧ ∀ H' q u d s g, Drawn p H H' → MarksAt H' q u d s g → Q (.ref q) H'
theorem scMarksL : FnScope ["_law_well_here", "_law_four", "_law_some", "_law_rows", "_law_columns", "_law_k"] ["_law_well_here", "_law_four"] (defScope sLawMarks) := ⟨rfl, rfl, rfl, by decide +kernel, rfl, by decide +kernel, by decide +kernel⟩
theorem bool4 : ∀ bs : List Bool, bs.length = 4 → ∃ a b c d, bs = [a, b, c, d]
  | [a, b, c, d], _ => ⟨a, b, c, d, rfl⟩
theorem ok_marksL (T : Top K mg) : FnOk P w K mg base CX0 2 (ga K "_law_marks") (fdO K (ga K "_law_marks")) ["_law_well_here", "_law_four"] (spMarksL K) := by
  refine T.dLawMarks.F.ok scMarksL (fun vs H Q E h => ?_) (fun cdv A outer s H vs Q E hr h => ?_)
  · obtain ⟨p, f, t, l, bo, ri, rfl, _⟩ := h
    rfl
  · obtain ⟨p, f, t, l, bo, ri, rfl, hw, hf, q⟩ := h
    refine ⟨_, PSs.nox (pss_cons (ps_setLc (i := 2) (own := [("_law_k", 5)]) (g := gName 5) (tt := tYes) rfl scMarksL.nd rfl rfl (sw_true rfl rfl rfl (by decide +kernel)) (pi_range1 rfl T.zRange (pa_cons pe_int pa_nil))
        (blkOk_by (N := ["_law_well_here", "_law_four", "_law_some", "_law_rows", "_law_columns", "_law_k"]) (sc := defScope sLawMarks) (by decide +kernel))
        (fun _ _ _ _ _ => pg_name (i := 5) scMarksL.nd rfl (Or.inl rfl)) (fun _ _ _ _ _ => pts_nil)
        (fun _ _ _ _ _ => pe_cmpR op_eq (pe_call (ok_draw T) hr (by rfl) T.dLawDraw.g T.dLawDraw.F.kp (bi_draw T) .nil pass0 (pa_cons (pv 0) (pa_cons pe_int pa_nil))) pe_int (nomark _)))
      (pss_cons (ps_set (i := 3) scMarksL.nd rfl (Or.inl rfl) (pe_tup (pa_cons (pe_and (pe_ix ix_list (pv 2) pe_int (fun _ _ => rfl)) (pe_one (pe_not (pe_call (ok_lc T) hr (by rfl) T.dLawIsColumns.g T.dLawIsColumns.F.kp (bi_lc T) .nil pass0 (pa_cons (pv 1) pa_nil)))))
          (pa_cons (pe_and (pe_ix ix_list (pv 2) pe_int (fun _ _ => rfl)) (pe_and (pe_not (pe_call (ok_lc T) hr (by rfl) T.dLawIsColumns.g T.dLawIsColumns.F.kp (bi_lc T) .nil pass0 (pa_cons (pv 1) pa_nil))) (pe_one (pe_cmp (pc_notN (pe_ix ix_tup (pv 1) pe_int (fun _ _ => rfl))) rfl)))) pa_nil))))
      (pss_cons (ps_set (i := 4) scMarksL.nd rfl (Or.inl rfl) (pe_tup (pa_cons (pe_and (pe_ix ix_list (pv 2) pe_int (fun _ _ => rfl)) (pe_one (pe_not (pe_call (ok_lr T) hr (by rfl) T.dLawIsRows.g T.dLawIsRows.F.kp (bi_lr T) .nil pass0 (pa_cons (pv 1) pa_nil)))))
          (pa_cons (pe_and (pe_ix ix_list (pv 2) pe_int (fun _ _ => rfl)) (pe_and (pe_not (pe_call (ok_lr T) hr (by rfl) T.dLawIsRows.g T.dLawIsRows.F.kp (bi_lr T) .nil pass0 (pa_cons (pv 1) pa_nil))) (pe_one (pe_cmp (pc_notN (pe_ix ix_tup (pv 1) pe_int (fun _ _ => rfl))) rfl)))) pa_nil))))
      (pss_cons (ps_if (pt_val (pe_call (ok_lcell T) hr (by rfl) T.dLawIsCell.g T.dLawIsCell.F.kp (bi_lcell T) .nil pass0 (pa_cons (pv 1) pa_nil)))
        (pss_one (ps_ret (pe_tup (pa_cons (pe_tup (pa_cons (pe_ix ix_tup (pv 3) pe_int (fun _ _ => rfl)) (pa_cons (pe_ix ix_tup (pv 3) pe_int (fun _ _ => rfl)) pa_nil))) (pa_cons (pe_tup (pa_cons (pe_ix ix_tup (pv 4) pe_int (fun _ _ => rfl)) (pa_cons (pe_ix ix_tup (pv 4) pe_int (fun _ _ => rfl)) pa_nil))) pa_nil))))) pss_nil)
      (pss_one (ps_ret (pe_tup (pa_cons (pv 3) (pa_cons (pv 4) pa_nil))))))))), ?_⟩
    refine ⟨4, rfl, by decide, by decide, fun D nD => ?_⟩
    have nDp : D ≠ p := fun z => by
      obtain ⟨_, _, _, hp⟩ := hw
      rw [z, hp] at nD
      cases nD
    refine lc_range (lo := 0) (n := 4) (fun i H1 => Drawn p H H1 ∧ ∃ bs : List Bool, bs.length = i ∧ H1 D = some (.lst (bs.map .bl))) ⟨Drawn.of hw (same_new nD), [], rfl, upd_same⟩ (fun i H1 hi ⟨d1, bs, hb, hD⟩ => ?_) (fun H1 ⟨d1, bs, hb, hD⟩ => ?_)
    · refine ⟨rfl, _, rfl, p, 2, rfl, d1.2, by decide, p60 rfl, fun r H2 a1 a2 d2 => ⟨rfl, _, d2.1 D _ nDp hD, ?_, ?_, bs ++ [decide (V.int r = V.int 1)], ?_, ?_⟩⟩
      · rw [List.length_map, hb]
        exact small_lt (by omega)
      · refine ⟨fun b o hbp e => ?_, ?_⟩
        · by_cases hbD : b = D
          · rw [hbD, nD] at e
            cases e
          · rw [upd_ne hbD]
            exact d2.1 b o hbp (d1.1 b o hbp e)
        · obtain ⟨x, y, z, hz⟩ := d2.2
          exact ⟨x, y, z, by rw [upd_ne (Ne.symm nDp)]; exact hz⟩
      · rw [List.length_append, hb]
        rfl
      · rw [upd_same, List.map_append]
        rfl
    · obtain ⟨m0, m1, m2, m3, rfl⟩ := bool4 bs hb
      have hf1 := d1.tup hw hf
      have sq : SqT K H1 f [.int t, .int l, oV bo, oV ri] := SqT.of hf1
      have mm : ∀ (H : Hp), Same H1 H → ∀ (σ : L2.St), σ[2]? = some (some (.ref D)) → ∀ i : Nat, i < 4 → AnyB (tOp (rIxL K) (tVar 2) (tC (.int (i : Int)))) σ H := fun H s σ hσ i hi R hR => by
        have hb : ∃ y : Bool, atI [V.bl m0, .bl m1, .bl m2, .bl m3] (i : Int) = some (.bl y) := by
          have : i = 0 ∨ i = 1 ∨ i = 2 ∨ i = 3 := by omega
          rcases this with rfl | rfl | rfl | rfl
          · exact ⟨_, atI_nat rfl⟩
          · exact ⟨_, atI_nat rfl⟩
          · exact ⟨_, atI_nat rfl⟩
          · exact ⟨_, atI_nat rfl⟩
        obtain ⟨y, hy⟩ := hb
        exact ⟨_, hσ, D, _, _, _, rfl, rfl, SqL.of (s _ _ hD), hy, hR y⟩
      have cc : ∀ (H : Hp), Same H1 H → ∀ (σ : L2.St), σ[1]? = some (some (.ref f)) → AnyB (tCall (spLC K) [] E0 (tCons (tVar 1) tNil)) σ H := fun H s σ hσ R hR => ⟨_, hσ, f, t, l, bo, ri, rfl, SqT.of (s _ _ hf1), hR _⟩
      have rr : ∀ (H : Hp), Same H1 H → ∀ (σ : L2.St), σ[1]? = some (some (.ref f)) → AnyB (tCall (spLR K) [] E0 (tCons (tVar 1) tNil)) σ H := fun H s σ hσ R hR => ⟨_, hσ, f, t, l, bo, ri, rfl, SqT.of (s _ _ hf1), hR _⟩
      have n2 : ∀ (H : Hp), Same H1 H → ∀ (σ : L2.St), σ[1]? = some (some (.ref f)) → AnyB (tNotN (tOp (rIxT K) (tVar 1) (tC (.int 2)))) σ H := fun H s σ hσ R hR => ⟨_, hσ, f, _, _, _, rfl, rfl, SqT.of (s _ _ hf1), f2 .., hR _⟩
      have n3 : ∀ (H : Hp), Same H1 H → ∀ (σ : L2.St), σ[1]? = some (some (.ref f)) → AnyB (tNotN (tOp (rIxT K) (tVar 1) (tC (.int 3)))) σ H := fun H s σ hσ R hR => ⟨_, hσ, f, _, _, _, rfl, rfl, SqT.of (s _ _ hf1), f3 .., hR _⟩
      have A1 := anyB_and (mm H1 (Same.refl _) [some (.ref p), some (.ref f), some (.ref D), none, none, none] rfl 0 (by decide)) (anyB_not (cc H1 (Same.refl _) [some (.ref p), some (.ref f), some (.ref D), none, none, none] rfl))
      have A2 := anyB_and (mm H1 (Same.refl _) [some (.ref p), some (.ref f), some (.ref D), none, none, none] rfl 1 (by decide)) (anyB_and (anyB_not (cc H1 (Same.refl _) [some (.ref p), some (.ref f), some (.ref D), none, none, none] rfl)) (n2 H1 (Same.refl _) [some (.ref p), some (.ref f), some (.ref D), none, none, none] rfl))
      refine A1 _ fun y1 => A2 _ fun y2 => ⟨tup2, fun pr npr => ?_⟩
      have s1 := same_new (o := .tup [.bl y1, .bl y2]) npr
      have hr1 : (upd H1 pr (.tup [.bl y1, .bl y2])) pr = some (.tup [.bl y1, .bl y2]) := upd_same
      generalize (upd H1 pr (.tup [.bl y1, .bl y2])) = H2 at s1 hr1
      have A3 := anyB_and (mm H2 s1 [some (.ref p), some (.ref f), some (.ref D), some (.ref pr), none, none] rfl 2 (by decide)) (anyB_not (rr H2 s1 [some (.ref p), some (.ref f), some (.ref D), some (.ref pr), none, none] rfl))
      have A4 := anyB_and (mm H2 s1 [some (.ref p), some (.ref f), some (.ref D), some (.ref pr), none, none] rfl 3 (by decide)) (anyB_and (anyB_not (rr H2 s1 [some (.ref p), some (.ref f), some (.ref D), some (.ref pr), none, none] rfl)) (n3 H2 s1 [some (.ref p), some (.ref f), some (.ref D), some (.ref pr), none, none] rfl))
      refine A3 _ fun y3 => A4 _ fun y4 => ⟨tup2, fun pc npc => ?_⟩
      have s2 := same_lay (o := .tup [.bl y3, .bl y4]) s1 npc
      have hr2 : (upd H2 pc (.tup [.bl y3, .bl y4])) pr = some (.tup [.bl y1, .bl y2]) := same_new npc _ _ hr1
      have hc2 : (upd H2 pc (.tup [.bl y3, .bl y4])) pc = some (.tup [.bl y3, .bl y4]) := upd_same
      generalize (upd H2 pc (.tup [.bl y3, .bl y4])) = H3 at s2 hr2 hc2
      refine ⟨_, rfl, f, t, l, bo, ri, rfl, SqT.of (s2 _ _ hf1), fun H4 s3 => ⟨_, rfl, ?_⟩⟩
      have s4 := Same.trans s2 s3
      have hr4 := s3 _ _ hr2
      have hc4 := s3 _ _ hc2
      cases cellB t l bo ri with
      | true =>
        refine iteT ⟨_, rfl, pr, _, _, _, rfl, rfl, SqT.of hr4, atI_nat (j := 0) rfl, _, rfl, pr, _, _, _, rfl, rfl, SqT.of hr4, atI_nat (j := 0) rfl, tup2, fun x nx => ?_⟩
        have k1 := same_new (o := .tup [.bl y1, .bl y1]) nx
        refine ⟨_, rfl, pc, _, _, _, rfl, rfl, SqT.of (k1 _ _ hc4), atI_nat (j := 0) rfl, _, rfl, pc, _, _, _, rfl, rfl, SqT.of (k1 _ _ hc4), atI_nat (j := 0) rfl, tup2, fun y ny => ⟨tup2, fun z nz => ?_⟩⟩
        have k2 := same_lay (o := .tup [.ref x, .ref y]) (same_lay (o := .tup [.bl y3, .bl y3]) k1 ny) nz
        exact q _ z y1 y1 y3 y3 ((d1.same s4).same k2) ⟨x, y, upd_same, same_new nz _ _ (same_new ny _ _ upd_same), same_new nz _ _ upd_same⟩
      | false =>
        refine iteF ⟨_, rfl, _, rfl, tup2, fun z nz => ?_⟩
        have k2 := same_new (o := .tup [.ref pr, .ref pc]) nz
        exact q _ z y1 y2 y3 y4 ((d1.same s4).same k2) ⟨pr, pc, upd_same, k2 _ _ hr4, k2 _ _ hc4⟩
theorem bi_marksL (T : Top K mg) : Binds K (fdO K (ga K "_law_marks")) ["_law_well_here", "_law_four"] [] := T.dLawMarks.F.bindsN fun _ _ _ _ _ _ us hl => match us, hl with | [_, _], _ => rfl
end
end K28

set_option Elab.async false
set_option linter.all false
set_option maxRecDepth 100000
set_option maxHeartbeats 4000000
/-! The law's defs: the text in numbers. -/
namespace K28
open PySem PySem.Spec L2
open He (ga ma)
theorem ll {α : Type} (x y : List α) : (x ++ y).length = x.length + y.length := List.length_append
theorem l11 (x y : L) : (x ++ [58] ++ y : L) = x ++ 58 :: y := by simp
section
variable {P : Program} {w : World} {K : PySem.W.Frag} {mg : Str → Option Value} {base : Heap}
def spPut (K : PySem.W.Frag) : Sp := fun vs H Q _ => ∃ (f pr pc : Addr) (t l : Int) (bo ri : Option Int) (r0 r1 c0 c1 : L), vs = [.ref f, .ref pr, .ref pc, .bl false] ∧ SqT K H f [.int t, .int l, oV bo, oV ri] ∧
  SqL K H pr [sv r0, sv r1] ∧ SqL K H pc [sv c0, sv c1] ∧ (r0.length ≤ 1000 ∧ r1.length ≤ 1000 ∧ c0.length ≤ 1000 ∧ c1.length ≤ 1000) ∧ ∀ H', Same H H' → Q (sv (byEnds (rowsB l bo ri) (colsB t bo ri) (cellB t l bo ri) r0 r1 c0 c1)) H'
theorem scPut : FnScope ["_law_four", "_law_rows", "_law_columns", "_law_letters", "_law_first", "_law_last_here"] ["_law_four", "_law_rows", "_law_columns", "_law_letters"] (defScope sLawPut) := ⟨rfl, rfl, rfl, by decide +kernel, rfl, by decide +kernel, by decide +kernel⟩
theorem ok_put (T : Top K mg) : FnOk P w K mg base CX0 2 (ga K "_law_put") (fdO K (ga K "_law_put")) ["_law_four", "_law_rows", "_law_columns", "_law_letters"] (spPut K) := by
  refine T.dLawPut.F.ok scPut (fun vs H Q E h => ?_) (fun cdv A outer s H vs Q E hr h => ?_)
  · obtain ⟨f, pr, pc, t, l, bo, ri, r0, r1, c0, c1, rfl, _⟩ := h
    rfl
  · obtain ⟨f, pr, pc, t, l, bo, ri, r0, r1, c0, c1, rfl, hf, hr0, hc0, ⟨l1, l2, l3, l4⟩, q⟩ := h
    refine ⟨_, PSs.nox (pss_cons (ps_if (pt_val (pe_call (ok_lr T) hr (by rfl) T.dLawIsRows.g T.dLawIsRows.F.kp (bi_lr T) .nil pass0 (pa_cons (pv 0) pa_nil))) (pss_one (ps_ret (pe_op op_cat (pe_op op_cat (pe_ix ix_list (pv 1) pe_int (fun _ _ => rfl)) (pe_lit [58])) (pe_ix ix_list (pv 1) pe_int (fun _ _ => rfl))))) pss_nil)
      (pss_cons (ps_if (pt_val (pe_call (ok_lc T) hr (by rfl) T.dLawIsColumns.g T.dLawIsColumns.F.kp (bi_lc T) .nil pass0 (pa_cons (pv 0) pa_nil))) (pss_one (ps_ret (pe_op op_cat (pe_op op_cat (pe_ix ix_list (pv 2) pe_int (fun _ _ => rfl)) (pe_lit [58])) (pe_ix ix_list (pv 2) pe_int (fun _ _ => rfl))))) pss_nil)
      (pss_cons (ps_par (i := 4) (j := 5) rfl scPut.nd rfl rfl (by decide) rfl rfl (pa_cons (pe_op op_cat (pe_ix ix_list (pv 1) pe_int (fun _ _ => rfl)) (pe_ix ix_list (pv 2) pe_int (fun _ _ => rfl))) (pa_cons (pe_op op_cat (pe_ix ix_list (pv 1) pe_int (fun _ _ => rfl)) (pe_ix ix_list (pv 2) pe_int (fun _ _ => rfl))) pa_nil)) (by rfl))
      (pss_cons (ps_if (pt_val (pv 3)) pss_never pss_nil)
      (pss_one (ps_ret (pe_ix ix_list (pe_lst (pa_cons (pe_op op_cat (pe_op op_cat (pv 4) (pe_lit [58])) (pv 5)) (pa_cons (pv 4) pa_nil))) (pe_callTy call_int1 (by rfl) T.zInt (by decide +kernel) (pa_cons (pe_call (ok_lcell T) hr (by rfl) T.dLawIsCell.g T.dLawIsCell.F.kp (bi_lcell T) .nil pass0 (pa_cons (pv 0) pa_nil)) pa_nil)) (fun _ _ => rfl)))))))), ?_⟩
    have i0 : ∀ x y : L, atI [sv x, sv y] 0 = some (sv x) := fun _ _ => atI_nat (j := 0) rfl
    have i1 : ∀ x y : L, atI [sv x, sv y] 1 = some (sv y) := fun _ _ => atI_nat (j := 1) rfl
    refine ⟨_, rfl, f, t, l, bo, ri, rfl, hf, _, rfl, ?_⟩
    unfold byEnds at q
    cases e1 : rowsB l bo ri with
    | true =>
      rw [e1, if_pos rfl, ← l11] at q
      refine iteT ⟨_, rfl, pr, _, _, _, rfl, rfl, hr0, i0 _ _, r0, [58], rfl, rfl, by show _ + 1 ≤ _; omega, _, rfl, pr, _, _, _, rfl, rfl, hr0, i1 _ _, _, r1, rfl, rfl, ?_, q _ (Same.refl _)⟩
      rw [ll]
      show _ + 1 + _ ≤ _
      omega
    | false =>
      rw [e1, if_neg Bool.false_ne_true] at q
      refine iteF ⟨_, rfl, f, t, l, bo, ri, rfl, hf, _, rfl, ?_⟩
      cases e2 : colsB t bo ri with
      | true =>
        rw [e2, if_pos rfl, ← l11] at q
        refine iteT ⟨_, rfl, pc, _, _, _, rfl, rfl, hc0, i0 _ _, c0, [58], rfl, rfl, by show _ + 1 ≤ _; omega, _, rfl, pc, _, _, _, rfl, rfl, hc0, i1 _ _, _, c1, rfl, rfl, ?_, q _ (Same.refl _)⟩
        rw [ll]
        show _ + 1 + _ ≤ _
        omega
      | false =>
        rw [e2, if_neg Bool.false_ne_true] at q
        refine iteF ⟨_, rfl, pr, _, _, _, rfl, rfl, hr0, i0 _ _, _, rfl, pc, _, _, _, rfl, rfl, hc0, i0 _ _, r0, c0, rfl, rfl, by omega, ?_⟩
        refine ⟨_, rfl, pr, _, _, _, rfl, rfl, hr0, i1 _ _, _, rfl, pc, _, _, _, rfl, rfl, hc0, i1 _ _, r1, c1, rfl, rfl, by omega, _, _, rfl, ?_⟩
        refine ⟨_, rfl, false, rfl, iteF ?_⟩
        refine ⟨_, rfl, r0 ++ c0, [58], rfl, rfl, ?_, _, rfl, _, r1 ++ c1, rfl, rfl, ?_, _, rfl, tup2, fun x nx => ?_⟩
        · rw [ll]
          show _ + _ + 1 ≤ _
          omega
        · rw [ll, ll, ll]
          show _ + _ + 1 + _ ≤ _
          omega
        have s1 := same_new (o := .lst [sv (r0 ++ c0 ++ [58] ++ (r1 ++ c1)), sv (r0 ++ c0)]) nx
        refine ⟨_, rfl, f, t, l, bo, ri, rfl, same_seqT s1 hf, fun H2 s2 => .inr ⟨_, rfl, ?_⟩⟩
        have hx := s2 _ _ (show (upd H x (.lst [sv (r0 ++ c0 ++ [58] ++ (r1 ++ c1)), sv (r0 ++ c0)])) x = _ from upd_same)
        have s3 := Same.trans s1 s2
        cases e3 : cellB t l bo ri with
        | true =>
          rw [e3, if_pos rfl] at q
          exact ⟨x, _, 1, _, rfl, rfl, SqL.of hx, i1 _ _, q _ s3⟩
        | false =>
          rw [e3, if_neg Bool.false_ne_true, ← l11] at q
          exact ⟨x, _, 0, _, rfl, rfl, SqL.of hx, i0 _ _, q _ s3⟩
theorem bi_put (T : Top K mg) : Binds K (fdO K (ga K "_law_put")) ["_law_four", "_law_rows", "_law_columns", "_law_letters"] [] := T.dLawPut.F.bindsN fun _ _ _ _ _ _ us hl => match us, hl with | [_, _, _, _], _ => rfl
/-! ### _law_far -/
def spLFar : Sp := fun vs H Q _ => ∃ (x : L) (e : Option Int) (m : Bool) (here : Int), vs = [sv x, oV e, .bl m, .int here] ∧ x.length ≤ 1000 ∧ (∀ n, e = some n → Sm n ∧ Sm (n - here)) ∧ ∀ H', Same H H' → Q (sv (farTL x e m here)) H'
theorem scLFar : FnScope ["_law_letter", "_law_number_here", "_law_mark", "_law_here"] ["_law_letter", "_law_number_here", "_law_mark", "_law_here"] (defScope sLawFar) := ⟨rfl, rfl, rfl, by decide +kernel, rfl, by decide +kernel, by decide +kernel⟩
theorem ok_lfar (T : Top K mg) : FnOk P w K mg base CX0 1 (ga K "_law_far") (fdO K (ga K "_law_far")) ["_law_letter", "_law_number_here", "_law_mark", "_law_here"] spLFar := by
  refine T.dLawFar.F.ok scLFar (fun vs H Q E h => ?_) (fun cdv A outer s H vs Q E hr h => ?_)
  · obtain ⟨x, e, m, here, rfl, _⟩ := h
    rfl
  · obtain ⟨x, e, m, here, rfl, hx, hb, q⟩ := h
    refine ⟨_, PSs.nox (pss_cons (ps_if (pt_cmp (pc_isN (pv 1)) rfl) (pss_one (ps_ret (pe_lit []))) pss_nil)
      (pss_cons (ps_if (pt_val (pv 2)) (pss_one (ps_ret (pe_op op_cat (pv 0) (pe_callTy call_strL (by rfl) T.zStr (by decide +kernel) (pa_cons (pv 1) pa_nil))))) pss_nil)
      (pss_one (ps_ret (pe_op op_cat (pv 0) (pe_ix ix_list (pe_lst (pa_cons (pe_op op_cat (pe_op op_cat (pe_lit [91]) (pe_callTy call_strL (by rfl) T.zStr (by decide +kernel) (pa_cons (pe_op op_sub (pv 1) (pv 3)) pa_nil))) (pe_lit [93])) (pa_cons (pe_lit []) pa_nil)))
        (pe_callTy call_int1 (by rfl) T.zInt (by decide +kernel) (pa_cons (pe_cmpR op_eq (pv 1) (pv 3) (nomark _)) pa_nil)) (fun _ _ => rfl))))))), ?_⟩
    refine ⟨_, rfl, _, rfl, ?_⟩
    cases e with
    | none => exact iteT (q _ (Same.refl _))
    | some n =>
      obtain ⟨b1, b2⟩ := hb n rfl
      have l1 := intL_len b1
      have l2 := intL_len b2
      refine iteF ⟨_, rfl, m, rfl, ?_⟩
      cases m with
      | true => exact iteT ⟨_, rfl, _, rfl, n, rfl, b1, x, intL n, rfl, rfl, by omega, q _ (Same.refl _)⟩
      | false =>
        refine iteF ⟨_, rfl, _, rfl, _, rfl, _, _, rfl, rfl, _, rfl, b2, [91], intL (n - here), rfl, rfl, by show 1 + _ ≤ _; omega, _, [93], rfl, rfl, ?_, tup2, fun y ny => ?_⟩
        · rw [ll]
          show 1 + _ + 1 ≤ _
          omega
        have s1 := same_new (o := .lst [sv ([91] ++ intL (n - here) ++ [93]), sv []]) ny
        have ly : ([91] ++ intL (n - here) ++ [93] : L).length = (intL (n - here)).length + 2 := by
          simp
        have hy : (upd H y (.lst [sv ([91] ++ intL (n - here) ++ [93]), sv []])) y = some (.lst [sv ([91] ++ intL (n - here) ++ [93]), sv []]) := upd_same
        refine ⟨_, rfl, _, rfl, rfl, .inr ⟨_, rfl, ?_⟩⟩
        by_cases e : n = here
        · subst e
          rw [show decide (oV (some n) = V.int n) = true from decide_eq_true rfl]
          have e2 : farTL x (some n) false n = x ++ [] := by
            show x ++ (if false = true then _ else if n = n then [] else _) = x ++ []
            rw [if_neg Bool.false_ne_true, if_pos rfl]
          rw [e2] at q
          exact ⟨y, _, 1, _, rfl, rfl, SqL.of hy, atI_nat (j := 1) rfl, x, [], rfl, rfl, by show _ + 0 ≤ _; omega, q _ s1⟩
        · rw [show decide (oV (some n) = V.int here) = false from decide_eq_false fun z => e (V.int.inj z)]
          have e2 : farTL x (some n) false here = x ++ ([91] ++ intL (n - here) ++ [93]) := by
            show x ++ (if false = true then _ else if n = here then [] else _) = _
            rw [if_neg Bool.false_ne_true, if_neg e]
            simp
          rw [e2] at q
          exact ⟨y, _, 0, _, rfl, rfl, SqL.of hy, atI_nat (j := 0) rfl, x, _, rfl, rfl, by rw [ly]; omega, q _ s1⟩
theorem bi_lfar (T : Top K mg) : Binds K (fdO K (ga K "_law_far")) ["_law_letter", "_law_number_here", "_law_mark", "_law_here"] [] := T.dLawFar.F.bindsN fun _ _ _ _ _ _ us hl => match us, hl with | [_, _, _, _], _ => rfl
/-! ### _law_in_numbers -/
structure DueSm (d : Due) (r c : Int) : Prop where
  t : Sm d.top ∧ Sm (d.top - r)
  l : Sm d.left ∧ Sm (d.left - c)
  b : ∀ n, d.bottom = some n → Sm n ∧ Sm (n - r)
  r : ∀ n, d.right = some n → Sm n ∧ Sm (n - c)
def spInN (K : PySem.W.Frag) : Sp := fun vs H Q _ => ∃ (f pr pc o : Addr) (d : Due) (r c : Int), vs = [.ref f, .ref pr, .ref pc, .ref o] ∧ SqT K H f [.int d.top, .int d.left, oV d.bottom, oV d.right] ∧ SqT K H pr [.bl d.up, .bl d.dn] ∧ SqT K H pc [.bl d.sd, .bl d.fr] ∧
  SqT K H o [.int r, .int c] ∧ DueSm d r c ∧ ∀ H', Same H H' → Q (sv (shownBy (isCell d) d r c)) H'
theorem scInN : FnScope ["_law_four", "_law_rows", "_law_columns", "_law_origin", "_law_up", "_law_side", "_law_k"] ["_law_four", "_law_rows", "_law_columns", "_law_origin"] (defScope sLawInNumbers) := ⟨rfl, rfl, rfl, by decide +kernel, rfl, by decide +kernel, by decide +kernel⟩
theorem ok_inN (T : Top K mg) : FnOk P w K mg base CX0 3 (ga K "_law_in_numbers") (fdO K (ga K "_law_in_numbers")) ["_law_four", "_law_rows", "_law_columns", "_law_origin"] (spInN K) := by
  refine T.dLawInNumbers.F.ok scInN (fun vs H Q E h => ?_) (fun cdv A outer s H vs Q E hr h => ?_)
  · obtain ⟨f, pr, pc, o, d, r, c, rfl, _⟩ := h
    rfl
  · obtain ⟨f, pr, pc, o, d, r, c, rfl, hf, hp, hc, ho, hd, q⟩ := h
    refine ⟨_, PSs.nox (pss_cons (ps_setLc (i := 4) (own := [("_law_k", 6)]) (g := gName 6) (tt := tYes) rfl scInN.nd rfl rfl (sw_true rfl rfl rfl (by decide +kernel)) (pi_range1 rfl T.zRange (pa_cons pe_int pa_nil))
        (blkOk_by (N := ["_law_four", "_law_rows", "_law_columns", "_law_origin", "_law_up", "_law_side", "_law_k"]) (sc := defScope sLawInNumbers) (by decide +kernel))
        (fun _ _ _ _ _ => pg_name (i := 6) scInN.nd rfl (Or.inl rfl)) (fun _ _ _ _ _ => pts_nil)
        (fun _ _ _ _ _ => pe_call (ok_lfar T) (hr.mono (by decide)) (by rfl) T.dLawFar.g T.dLawFar.F.kp (bi_lfar T) .nil pass0 (pa_cons (pe_lit [82]) (pa_cons (pe_ix (r := rIxT K) ix_tup (pv 0) (pe_op op_mul pe_int (pv 6)) (fun _ _ => rfl)) (pa_cons (pe_ix (r := rIxT K) ix_tup (pv 1) (pv 6) (fun _ _ => rfl)) (pa_cons (pe_ix (r := rIxT K) ix_tup (pv 3) pe_int (fun _ _ => rfl)) pa_nil))))))
      (pss_cons (ps_setLc (i := 5) (own := [("_law_k", 6)]) (g := gName 6) (tt := tYes) rfl scInN.nd rfl rfl (sw_true rfl rfl rfl (by decide +kernel)) (pi_range1 rfl T.zRange (pa_cons pe_int pa_nil))
        (blkOk_by (N := ["_law_four", "_law_rows", "_law_columns", "_law_origin", "_law_up", "_law_side", "_law_k"]) (sc := defScope sLawInNumbers) (by decide +kernel))
        (fun _ _ _ _ _ => pg_name (i := 6) scInN.nd rfl (Or.inl rfl)) (fun _ _ _ _ _ => pts_nil)
        (fun _ _ _ _ _ => pe_call (ok_lfar T) (hr.mono (by decide)) (by rfl) T.dLawFar.g T.dLawFar.F.kp (bi_lfar T) .nil pass0 (pa_cons (pe_lit [67]) (pa_cons (pe_ix (r := rIxT K) ix_tup (pv 0) (pe_op op_add (pe_op op_mul pe_int (pv 6)) pe_int) (fun _ _ => rfl)) (pa_cons (pe_ix (r := rIxT K) ix_tup (pv 2) (pv 6) (fun _ _ => rfl)) (pa_cons (pe_ix (r := rIxT K) ix_tup (pv 3) pe_int (fun _ _ => rfl)) pa_nil))))))
      (pss_one (ps_ret (pe_call (ok_put T) hr (by rfl) T.dLawPut.g T.dLawPut.F.kp (bi_put T) .nil pass0 (pa_cons (pv 0) (pa_cons (pv 4) (pa_cons (pv 5) (pa_cons pe_bl pa_nil))))))))), ?_⟩
    refine ⟨2, rfl, by decide, by decide, fun D1 n1 => ?_⟩
    have r0 : atI [V.int r, V.int c] 0 = some (.int r) := atI_nat (j := 0) rfl
    have r1 : atI [V.int r, V.int c] 1 = some (.int c) := atI_nat (j := 1) rfl
    refine lc_rangeM (ys := [sv (u0 d r), sv (u1 d r)]) rfl (small_lt (by show 2 ≤ 100000; decide)) n1 (fun i y H1 hy s1 => ?_) fun H1 s1 hD1 => ?_
    · intro R N hR
      refine ⟨rfl, ?_⟩
      match i, hy with
      | 0, hy =>
        have ey : y = sv (farTL [82] (some d.top) d.up r) := by
          rw [farTL_eq]
          exact (Option.some.inj hy).symm
        subst ey
        exact ⟨_, rfl, _, rfl, _, _, rfl, rfl, .inl (by decide), f, _, 0, _, rfl, rfl, same_seqT s1 hf, f0 .., _, rfl, _, rfl, pr, _, 0, _, rfl, rfl, same_seqT s1 hp, atI_nat (j := 0) rfl, _, rfl, o, _, _, _, rfl, rfl, same_seqT s1 ho, r0,
          [82], some d.top, d.up, r, rfl, by simp, (fun n e => by cases e; exact hd.t), fun H2 s2 => hR _ s2⟩
      | 1, hy =>
        have ey : y = sv (farTL [82] d.bottom d.dn r) := by
          rw [farTL_eq]
          exact (Option.some.inj hy).symm
        subst ey
        exact ⟨_, rfl, _, rfl, _, _, rfl, rfl, .inl (by decide), f, _, 2, _, rfl, rfl, same_seqT s1 hf, f2 .., _, rfl, _, rfl, pr, _, 1, _, rfl, rfl, same_seqT s1 hp, atI_nat (j := 1) rfl, _, rfl, o, _, _, _, rfl, rfl, same_seqT s1 ho, r0,
          [82], d.bottom, d.dn, r, rfl, by simp, hd.b, fun H2 s2 => hR _ s2⟩
    · refine ⟨2, rfl, by decide, by decide, fun D2 n2 => ?_⟩
      refine lc_rangeM (ys := [sv (s0 d c), sv (K28.s1 d c)]) rfl (small_lt (by show 2 ≤ 100000; decide)) n2 (fun i y H2 hy s2 => ?_) fun H2 s2 hD2 => ?_
      · intro R N hR
        have s3 := Same.trans s1 s2
        refine ⟨rfl, ?_⟩
        match i, hy with
        | 0, hy =>
          have ey : y = sv (farTL [67] (some d.left) d.sd c) := by
            rw [farTL_eq]
            exact (Option.some.inj hy).symm
          subst ey
          exact ⟨_, rfl, _, rfl, _, _, rfl, rfl, .inl (by decide), _, _, rfl, rfl, f, _, 1, _, rfl, rfl, same_seqT s3 hf, f1 .., _, rfl, _, rfl, pc, _, 0, _, rfl, rfl, same_seqT s3 hc, atI_nat (j := 0) rfl, _, rfl, o, _, _, _, rfl, rfl, same_seqT s3 ho, r1,
            [67], some d.left, d.sd, c, rfl, by simp, (fun n e => by cases e; exact hd.l), fun H3 s4 => hR _ s4⟩
        | 1, hy =>
          have ey : y = sv (farTL [67] d.right d.fr c) := by
            rw [farTL_eq]
            exact (Option.some.inj hy).symm
          subst ey
          exact ⟨_, rfl, _, rfl, _, _, rfl, rfl, .inl (by decide), _, _, rfl, rfl, f, _, 3, _, rfl, rfl, same_seqT s3 hf, f3 .., _, rfl, _, rfl, pc, _, 1, _, rfl, rfl, same_seqT s3 hc, atI_nat (j := 1) rfl, _, rfl, o, _, _, _, rfl, rfl, same_seqT s3 ho, r1,
            [67], d.right, d.fr, c, rfl, by simp, hd.r, fun H3 s4 => hR _ s4⟩
      · have s3 := Same.trans s1 s2
        refine ⟨_, rfl, _, rfl, _, rfl, f, D1, D2, d.top, d.left, d.bottom, d.right, u0 d r, u1 d r, s0 d c, K28.s1 d c, rfl, same_seqT s3 hf, SqL.of (s2 _ _ hD1), SqL.of hD2, ⟨?_, ?_, ?_, ?_⟩, fun H3 s4 => q _ (Same.trans s3 s4)⟩
        · exact le1000 (farT_len fun n e => by cases e; exact hd.t)
        · exact le1000 (farT_len hd.b)
        · exact le1000 (farT_len fun n e => by cases e; exact hd.l)
        · exact le1000 (farT_len hd.r)
theorem bi_inN (T : Top K mg) : Binds K (fdO K (ga K "_law_in_numbers")) ["_law_four", "_law_rows", "_law_columns", "_law_origin"] [] := T.dLawInNumbers.F.bindsN fun _ _ _ _ _ _ us hl => match us, hl with | [_, _, _, _], _ => rfl
end
end K28

set_option Elab.async false
set_option linter.all false
set_option maxRecDepth 100000
set_option maxHeartbeats 4000000
/-! The law's defs: figures, ends. -/
namespace K28
open PySem PySem.Spec L2
open He (ga ma)
/-- codes that are signs -/
def Cp (l : L) : Prop := ∀ c ∈ l, c < 1114112
theorem Cp.sub {l m : L} (h : Cp l) (s : ∀ c ∈ m, c ∈ l) : Cp m := fun c hc => h c (s c hc)
theorem Cp.app {l m : L} (h : Cp l) (h2 : Cp m) : Cp (l ++ m) := fun c hc => (List.mem_append.mp hc).elim (h c) (h2 c)
/-- a comprehension over a text, with a test -/
theorem lc_str {x : Str} {g : TG} {tt : TT} {te : TE} {vs : List Nat} {σ : L2.St} {H1 : Hp} {D : Addr} {Qd : Hp → Prop} (Pv : Nat → Hp → Prop) (h0 : Pv 0 (upd H1 D (.lst [])))
    (hs : ∀ (i c : Nat) (H : Hp), x.cps[i]? = some c → Pv i H → g (.str ⟨#[c]⟩) (wipe σ vs) H fun σ2 H2 => wipe σ2 vs = wipe σ vs ∧ tt σ2 H2 fun b H3 =>
      if b = true then te σ2 H3 fun y H4 => ∃ acc, H4 D = some (.lst acc) ∧ acc.length < sizeLine ∧ Pv (i + 1) (upd H4 D (.lst (acc ++ [y]))) else Pv (i + 1) H3) (hd : ∀ H, Pv x.cps.size H → Qd H) :
    ∃ W : Nat → Nat → Hp → Prop, (∃ m, W 0 m (upd H1 D (.lst []))) ∧ ∀ i m H, W i m H →
      ((Its x).stop i H ∧ Qd H) ∨ ((Its x).go i H ∧ ∃ Nx : Hp → Prop, (∀ H', Nx H' → ∃ m', m' < m ∧ W (i + 1) m' H') ∧ ∀ v H', (Its x).yld i H v H' → g v (wipe σ vs) H' fun σ2 H2 => wipe σ2 vs = wipe σ vs ∧ tt σ2 H2 fun b H3 =>
        if b = true then te σ2 H3 fun y H4 => ∃ acc, H4 D = some (.lst acc) ∧ acc.length < sizeLine ∧ Nx (upd H4 D (.lst (acc ++ [y]))) else Nx H3) := by
  refine ⟨fun i m H => m = x.cps.size - i ∧ i ≤ x.cps.size ∧ Pv i H, ⟨x.cps.size, by simp, Nat.zero_le _, h0⟩, ?_⟩
  rintro i m H ⟨rfl, hi, p⟩
  by_cases hlt : i < x.cps.size
  · refine .inr ⟨hlt, Pv (i + 1), fun H' p' => ⟨x.cps.size - (i + 1), by omega, rfl, hlt, p'⟩, fun v H' y => ?_⟩
    obtain ⟨e, c, hc, ev⟩ := y
    subst e ev
    exact hs i c _ hc p
  · have e : i = x.cps.size := by omega
    subst e
    exact .inl ⟨Nat.le_refl _, hd H p⟩
def badL (l : L) : L := l.filter fun c => !isDig c
theorem badL_nil (l : L) : badL l = [] ↔ allDig l = true := by
  unfold badL allDig
  rw [List.filter_eq_nil_iff, List.all_eq_true]
  constructor
  · intro h c hc
    have := h c hc
    simpa using this
  · intro h c hc
    rw [h c hc]
    simp
def strD (c : Nat) : PyData := .str (mkS [c])
theorem strD_all {K : PySem.W.Frag} {H : Hp} : ∀ l : L, DpAll K H (l.map fun c => sv [c]) (l.map strD)
  | [] => .nil
  | c :: r => .cons (.str _) (strD_all r)
theorem strD_lay : ∀ l : L, Cp l → PyData.canLayAll0 (l.map strD) = true
  | [], _ => rfl
  | c :: r, h => by
    show (PyData.canLay0 (strD c) && PyData.canLayAll0 (r.map strD)) = true
    rw [strD_lay r fun x hx => h x (List.mem_cons_of_mem _ hx), Bool.and_true]
    have hc := h c List.mem_cons_self
    show (#[c] : Array Nat).all (· < 0x110000) = true
    simp [hc]
theorem strD_depth : ∀ l : L, PyData.depthAll (l.map strD) = 0
  | [] => rfl
  | c :: r => by
    show max (PyData.depth (strD c)) (PyData.depthAll (r.map strD)) = 0
    rw [strD_depth r]
    rfl
theorem strD_shaped (l : L) (h : Cp l) : SeqAt.shaped (.list (l.map strD)) = true := by
  show (PyData.canLay0 (.list (l.map strD)) && decide (PyData.depth (.list (l.map strD)) ≤ 64)) = true
  have e1 : PyData.canLay0 (.list (l.map strD)) = true := by
    simp only [PyData.canLay0]
    exact strD_lay l h
  have e2 : PyData.depth (.list (l.map strD)) ≤ 64 := by
    simp only [PyData.depth]
    rw [strD_depth]
    decide
  rw [e1, decide_eq_true e2] <;> rfl
theorem strD_eqv (l : L) : PyData.eqv (.list (l.map strD)) (.list []) = decide (l = []) := by
  cases l with
  | nil =>
    simp only [List.map_nil, PyData.eqv, PyData.eqvAll]
    rfl
  | cons c r => simp only [List.map_cons, PyData.eqv, PyData.eqvAll, reduceCtorEq, decide_false]
section
variable {P : Program} {w : World} {K : PySem.W.Frag} {mg : Str → Option Value} {base : Heap}
def spFigs : Sp := fun vs H Q _ => ∃ l : L, vs = [sv l] ∧ l.length ≤ 100000 ∧ Cp l ∧ ∀ H', Same H H' → Q (.int (figs l)) H'
theorem scFigs : FnScope ["_law_word_here", "_law_sign"] ["_law_word_here"] (defScope sLawFigures) := ⟨rfl, rfl, rfl, by decide +kernel, rfl, by decide +kernel, by decide +kernel⟩
theorem ok_figs (T : Top K mg) : FnOk P w K mg base CX0 1 (ga K "_law_figures") (fdO K (ga K "_law_figures")) ["_law_word_here"] spFigs := by
  refine T.dLawFigures.F.ok scFigs (fun vs H Q E h => ?_) (fun cdv A outer s H vs Q E hr h => ?_)
  · obtain ⟨l, rfl, _⟩ := h
    rfl
  · obtain ⟨l, rfl, hl, hcp, q⟩ := h
    refine ⟨_, PSs.nox (pss_cons (ps_if (pw_or (pt_not (pt_chain op_le op_le pe_int (pe_callB call_lenL (by rfl) T.zLen (by decide +kernel) (pa_cons (pv 0) pa_nil)) pe_int))
        (pw_or (pt_cmpR (op_neD hr.units) (pe_lc (own := [("_law_sign", 1)]) (g := gName 1) (tt := tTest (tOp rNotInL (tVar 1) (tC (sv figsL)))) rfl scFigs.nd (pi_str (pv 0)) (blkOk_by (N := ["_law_word_here", "_law_sign"]) (sc := defScope sLawFigures) (by decide +kernel))
            (fun _ _ _ _ _ => pg_name (i := 1) scFigs.nd rfl (Or.inl rfl)) (fun _ _ _ _ _ => pts_one (pt_cmpR op_notInL (pv 1) (pe_lit figsL) rfl)) (fun _ _ _ _ _ => pv 1)) (pe_lst pa_nil) (nomark _))
        (pw_or1 (pt_cmpR op_eqL (pe_ix ix_sv (pv 0) pe_int (fun _ _ => rfl)) (pe_lit [48]) (nomark _))))).pt (pss_one (ps_ret (pe_un un_neg pe_int))) pss_nil)
      (pss_one (ps_ret (pe_callTy call_intL (by rfl) T.zInt (by decide +kernel) (pa_cons (pv 0) pa_nil))))), ?_⟩
    have bad : ¬ (allDig l = true ∧ 1 ≤ l.length ∧ l.length ≤ 12 ∧ l.head? ≠ some 48) → ∀ H', Same H H' → Q (.int (-1)) H' := fun h H' s' => by
      have := q H' s'
      unfold figs at this
      rw [if_neg h] at this
      exact this
    refine ⟨_, rfl, l, rfl, hl, _, _, rfl, rfl, _, rfl, ?_⟩
    by_cases h1 : (1 : Int) ≤ (l.length : Int)
    · rw [decide_eq_true h1]
      refine iteT ⟨_, _, rfl, rfl, _, rfl, ?_⟩
      by_cases h2 : (l.length : Int) ≤ 12
      · rw [decide_eq_true h2]
        refine iteF ⟨_, rfl, mkS l, rfl, fun D nD => ?_⟩
        refine lc_str (x := mkS l) (fun i H1 => Same H H1 ∧ H1 D = some (.lst ((badL (l.take i)).map fun c => sv [c]))) ⟨same_new nD, upd_same⟩ (fun i c H1 hc ⟨s1, hD⟩ => ?_) (fun H1 ⟨s1, hD⟩ => ?_)
        · have hc' : l[i]? = some c := by
            have z : (mkS l).cps[i]? = l[i]? := by
              show (l.toArray)[i]? = l[i]?
              rw [List.getElem?_toArray]
            rw [← z]
            exact hc
          refine ⟨rfl, _, rfl, c, figsL, rfl, rfl, _, rfl, ?_⟩
          rw [mem_figs]
          have en : badL (l.take (i + 1)) = badL (l.take i) ++ (if isDig c = true then [] else [c]) := by
            unfold badL
            rw [take_next hc', List.filter_append]
            cases hdd : isDig c <;> simp [hdd]
          cases hd : isDig c with
          | true =>
            rw [hd, if_pos rfl, List.append_nil] at en
            exact iteF ⟨s1, by rw [en]; exact hD⟩
          | false =>
            rw [hd, if_neg Bool.false_ne_true] at en
            refine iteT ⟨_, rfl, _, hD, ?_, same_upd s1 nD, ?_⟩
            · rw [List.length_map]
              refine small_lt (Nat.le_trans ?_ hl)
              unfold badL
              refine Nat.le_trans (List.length_filter_le _ _) ?_
              rw [List.length_take]
              omega
            · rw [upd_same, en, List.map_append]
              rfl
        · have es : (mkS l).cps.size = l.length := by
            show l.toArray.size = _
            rw [List.size_toArray]
          rw [es, List.take_length] at hD
          refine ⟨by show 0 ≤ sizeLine; decide, fun x nx => ?_⟩
          have s2 := same_lay (o := .lst []) s1 nx
          refine ⟨.list ((badL l).map strD), .list [], .lst (SqL.of (same_new nx _ _ hD)) (strD_all _), .lst (SqL.of upd_same) .nil, strD_shaped _ (hcp.sub fun c hc => (List.mem_filter.mp hc).1), rfl, _, rfl, ?_⟩
          rw [strD_eqv]
          by_cases hb : badL l = []
          · rw [decide_eq_true hb]
            have ha := (badL_nil l).mp hb
            obtain ⟨c, r, rfl⟩ : ∃ c r, l = c :: r := by
              cases l with
              | nil => simp at h1
              | cons c r => exact ⟨c, r, rfl⟩
            refine iteF ⟨_, rfl, c :: r, _, c, rfl, rfl, hl, atI0 c r, [c], [48], rfl, rfl, _, rfl, ?_⟩
            by_cases h48 : c = 48
            · subst h48
              rw [show decide (([48] : L) = [48]) = true from decide_eq_true rfl]
              exact iteT ⟨_, rfl, bad (fun z => z.2.2.2 rfl) _ s2⟩
            · rw [show decide (([c] : L) = [48]) = false from decide_eq_false fun z => h48 (List.cons.inj z).1]
              refine iteF ⟨_, rfl, c :: r, rfl, ha, by omega, by omega, ?_⟩
              have := q _ s2
              unfold figs at this
              rw [if_pos ⟨ha, by omega, by omega, fun z => h48 (Option.some.inj z)⟩] at this
              exact this
          · rw [decide_eq_false hb]
            exact iteT (iteT ⟨_, rfl, bad (fun z => hb ((badL_nil l).mpr z.1)) _ s2⟩)
      · rw [decide_eq_false h2]
        exact iteT (iteT ⟨_, rfl, bad (fun z => h2 (by omega)) _ (Same.refl _)⟩)
    · rw [decide_eq_false h1]
      exact iteF ⟨_, rfl, iteT (iteT ⟨_, rfl, bad (fun z => h1 (by omega)) _ (Same.refl _)⟩)⟩
theorem bi_figs (T : Top K mg) : Binds K (fdO K (ga K "_law_figures")) ["_law_word_here"] [] := T.dLawFigures.F.bindsN fun _ _ _ _ _ _ us hl => match us, hl with | [_], _ => rfl
end
end K28

set_option Elab.async false
set_option linter.all false
set_option maxRecDepth 100000
set_option maxHeartbeats 4000000
/-! The law's defs: the base, ends. -/
namespace K28
open PySem PySem.Spec L2
open He (ga ma)
theorem mid_sub (k : Nat) (l : L) : ∀ c ∈ mid k l, c ∈ l := fun c hc => (List.dropLast_sublist l).subset (List.mem_of_mem_drop hc)
theorem before_sub (s : Nat) (l : L) : ∀ c ∈ before s l, c ∈ l := fun c hc => (List.takeWhile_sublist _).subset hc
theorem after_sub (s : Nat) (l : L) : ∀ c ∈ after s l, c ∈ l := fun c hc => (List.dropWhile_sublist _).subset (List.mem_of_mem_drop hc)
theorem cut12 (c : Nat) (r : L) : cutL (c :: r) (some 1) (some 2) = r.take 1 := by
  unfold cutL
  rw [show (some 1 : Option Int) = some ((1 : Nat) : Int) from rfl, show (some 2 : Option Int) = some ((2 : Nat) : Int) from rfl, HT.sIx_nat, HT.sIx_nat]
  cases r with
  | nil => rfl
  | cons x y =>
    have e1 : min 1 (c :: x :: y).length = 1 := by simp
    have e2 : min 2 (c :: x :: y).length = 2 := by
      rw [List.length_cons, List.length_cons]
      omega
    rw [e1, e2]
    rfl
theorem take1_minus (r : L) : decide (r.take 1 = [45]) = decide (r.head? = some 45) := by
  cases r with
  | nil => rfl
  | cons c r =>
    show decide ([c] = [45]) = decide (some c = some 45)
    by_cases h : c = 45
    · rw [h]
      rfl
    · rw [decide_eq_false fun z => h (List.cons.inj z).1, decide_eq_false fun z => h (Option.some.inj z)]
section
variable {P : Program} {w : World} {K : PySem.W.Frag} {mg : Str → Option Value} {base : Heap}
/-! ### _law_base -/
def spBase : Sp := fun vs H Q _ => ∃ (p f : Addr) (t l : Int) (bo ri : Option Int), vs = [.ref p, .ref f] ∧ WellAt H p ∧ H f = some (fourV t l bo ri) ∧ NumB t ∧ NumB l ∧ ∀ H' o r c, Drawn p H H' → H' o = some (.tup [.int r, .int c]) → Org r → Org c → Q (.ref o) H'
theorem scBase : FnScope ["_law_well_here", "_law_four", "_law_way", "_law_near"] ["_law_well_here", "_law_four"] (defScope sLawBase) := ⟨rfl, rfl, rfl, by decide +kernel, rfl, by decide +kernel, by decide +kernel⟩
theorem ok_base (T : Top K mg) : FnOk P w K mg base CX0 2 (ga K "_law_base") (fdO K (ga K "_law_base")) ["_law_well_here", "_law_four"] spBase := by
  refine T.dLawBase.F.ok scBase (fun vs H Q E h => ?_) (fun cdv A outer s H vs Q E hr h => ?_)
  · obtain ⟨p, f, t, l, bo, ri, rfl, _⟩ := h
    rfl
  · obtain ⟨p, f, t, l, bo, ri, rfl, hw, hf, ht, hl, q⟩ := h
    refine ⟨_, PSs.nox (pss_cons (ps_set (i := 2) scBase.nd rfl (Or.inl rfl) (pe_call (ok_draw T) hr (by rfl) T.dLawDraw.g T.dLawDraw.F.kp (bi_draw T) .nil pass0 (pa_cons (pv 0) (pa_cons pe_int pa_nil))))
      (pss_cons (ps_set (i := 3) scBase.nd rfl (Or.inl rfl) (pe_tup (pa_cons (pe_op op_add (pe_ix ix_tup (pv 1) pe_int (fun _ _ => rfl)) (pe_call (ok_draw T) hr (by rfl) T.dLawDraw.g T.dLawDraw.F.kp (bi_draw T) .nil pass0 (pa_cons (pv 0) (pa_cons pe_int pa_nil))))
          (pa_cons (pe_op op_add (pe_ix ix_tup (pv 1) pe_int (fun _ _ => rfl)) (pe_call (ok_draw T) hr (by rfl) T.dLawDraw.g T.dLawDraw.F.kp (bi_draw T) .nil pass0 (pa_cons (pv 0) (pa_cons pe_int pa_nil)))) pa_nil))))
      (pss_cons (ps_if (pt_cmpR op_eq (pv 2) pe_int (nomark _)) (pss_one (ps_ret (pe_tup (pa_cons (pe_op op_add pe_int (pe_call (ok_draw T) hr (by rfl) T.dLawDraw.g T.dLawDraw.F.kp (bi_draw T) .nil pass0 (pa_cons (pv 0) (pa_cons pe_int pa_nil))))
          (pa_cons (pe_op op_add pe_int (pe_call (ok_draw T) hr (by rfl) T.dLawDraw.g T.dLawDraw.F.kp (bi_draw T) .nil pass0 (pa_cons (pv 0) (pa_cons pe_int pa_nil)))) pa_nil))))) pss_nil)
      (pss_cons (ps_if (pt_cmpR op_eq (pv 2) pe_int (nomark _)) (pss_one (ps_ret (pe_tup (pa_cons (pe_op op_add pe_int (pe_call (ok_draw T) hr (by rfl) T.dLawDraw.g T.dLawDraw.F.kp (bi_draw T) .nil pass0 (pa_cons (pv 0) (pa_cons (pe_op op_sub (pe_op op_pow pe_int pe_int) pe_int) pa_nil))))
          (pa_cons (pe_op op_add pe_int (pe_call (ok_draw T) hr (by rfl) T.dLawDraw.g T.dLawDraw.F.kp (bi_draw T) .nil pass0 (pa_cons (pv 0) (pa_cons (pe_op op_sub (pe_op op_pow pe_int pe_int) pe_int) pa_nil)))) pa_nil))))) pss_nil)
      (pss_one (ps_ret (pe_tup (pa_cons (pe_callB (call_min2 rfl) (by rfl) T.zMin (by decide +kernel) (pa_cons (pe_ix ix_tup (pv 3) pe_int (fun _ _ => rfl)) (pa_cons (pe_op op_sub (pe_op op_pow pe_int pe_int) pe_int) pa_nil)))
          (pa_cons (pe_callB (call_min2 rfl) (by rfl) T.zMin (by decide +kernel) (pa_cons (pe_ix ix_tup (pv 3) pe_int (fun _ _ => rfl)) (pa_cons (pe_op op_sub (pe_op op_pow pe_int pe_int) pe_int) pa_nil))) pa_nil))))))))), ?_⟩
    have t1 := ht.1
    have l1 := hl.1
    have t2 := ht.2
    have l2 := hl.2
    refine ⟨_, rfl, p, 3, rfl, hw, by decide, p60 rfl, fun k H1 a1 a2 d1 => ?_⟩
    refine ⟨_, rfl, f, _, _, _, rfl, rfl, SqT.of (d1.tup hw hf), f0 .., _, rfl, p, 4, rfl, d1.2, by decide, p60 rfl, fun x H2 b1 b2 d2 => ⟨_, _, rfl, rfl, ?_⟩⟩
    have d12 := d1.trans d2
    refine ⟨_, rfl, f, _, _, _, rfl, rfl, SqT.of (d12.tup hw hf), f1 .., _, rfl, p, 4, rfl, d12.2, by decide, p60 rfl, fun y H3 c1 c2 d3 => ⟨_, _, rfl, rfl, tup2, fun n nn => ?_⟩⟩
    have d4 := (d12.trans d3).same (same_new (o := .tup [.int (t + x), .int (l + y)]) nn)
    have hn : (upd H3 n (.tup [.int (t + x), .int (l + y)])) n = some (.tup [.int (t + x), .int (l + y)]) := upd_same
    generalize (upd H3 n (.tup [.int (t + x), .int (l + y)])) = H4 at d4 hn
    refine ⟨_, rfl, rfl, _, rfl, ?_⟩
    by_cases k0 : k = 0
    · rw [show decide (V.int k = V.int 0) = true from decide_eq_true (by rw [k0])]
      refine iteT ⟨_, rfl, p, 9, rfl, d4.2, by decide, p60 rfl, fun u H5 e1 e2 d5 => ⟨_, _, rfl, rfl, _, rfl, p, 9, rfl, d5.2, by decide, p60 rfl, fun v H6 g1 g2 d6 => ⟨_, _, rfl, rfl, tup2, fun o no => ?_⟩⟩⟩
      exact q _ o _ _ (((d4.trans d5).trans d6).same (same_new no)) upd_same ⟨by omega, by omega⟩ ⟨by omega, by omega⟩
    rw [show decide (V.int k = V.int 0) = false from decide_eq_false fun z => k0 (V.int.inj z)]
    refine iteF ⟨_, rfl, rfl, _, rfl, ?_⟩
    by_cases k1 : k = 1
    · rw [show decide (V.int k = V.int 1) = true from decide_eq_true (by rw [k1])]
      refine iteT ⟨_, rfl, _, _, rfl, rfl, ⟨by decide, by decide, by decide⟩, _, _, rfl, rfl, p, _, rfl, d4.2, by decide, by decide, fun u H5 e1 e2 d5 => ⟨_, _, rfl, rfl, _, rfl, _, _, rfl, rfl, ⟨by decide, by decide, by decide⟩, _, _, rfl, rfl, p, _, rfl, d5.2, by decide, by decide, fun v H6 g1 g2 d6 => ⟨_, _, rfl, rfl, tup2, fun o no => ?_⟩⟩⟩
      rw [ten12'] at e2 g2
      exact q _ o _ _ (((d4.trans d5).trans d6).same (same_new no)) upd_same ⟨by omega, by omega⟩ ⟨by omega, by omega⟩
    rw [show decide (V.int k = V.int 1) = false from decide_eq_false fun z => k1 (V.int.inj z)]
    refine iteF ⟨_, rfl, n, _, _, _, rfl, rfl, SqT.of hn, atI_nat (j := 0) rfl, _, _, rfl, rfl, ⟨by decide, by decide, by decide⟩, _, _, rfl, rfl, _, _, rfl, ?_⟩
    refine ⟨_, rfl, n, _, _, _, rfl, rfl, SqT.of hn, atI_nat (j := 1) rfl, _, _, rfl, rfl, ⟨by decide, by decide, by decide⟩, _, _, rfl, rfl, _, _, rfl, tup2, fun o no => ?_⟩
    rw [ten12']
    refine q _ o _ _ (d4.same (same_new no)) upd_same ?_ ?_
    · constructor <;> split <;> omega
    · constructor <;> split <;> omega
theorem bi_base (T : Top K mg) : Binds K (fdO K (ga K "_law_base")) ["_law_well_here", "_law_four"] [] := T.dLawBase.F.bindsN fun _ _ _ _ _ _ us hl => match us, hl with | [_, _], _ => rfl
/-! ### _law_end -/
def spLEnd : Sp := fun vs H Q _ => ∃ (l : L) (here : Int), vs = [sv l, .int here] ∧ l.length ≤ 100000 ∧ Cp l ∧ (∀ n m, lawEnd l here = some (n, m) → ∀ H' p, Same H H' → H' p = some (.tup [.int n, .bl m]) → Q (.ref p) H') ∧ (lawEnd l here = none → ∀ H', Same H H' → Q .non H')
theorem scLEnd : FnScope ["_law_word_here", "_law_here", "_law_sign", "_law_far_here"] ["_law_word_here", "_law_here"] (defScope sLawEnd) := ⟨rfl, rfl, rfl, by decide +kernel, rfl, by decide +kernel, by decide +kernel⟩
theorem ok_lend (T : Top K mg) : FnOk P w K mg base CX0 2 (ga K "_law_end") (fdO K (ga K "_law_end")) ["_law_word_here", "_law_here"] spLEnd := by
  refine T.dLawEnd.F.ok scLEnd (fun vs H Q E h => ?_) (fun cdv A outer s H vs Q E hr h => ?_)
  · obtain ⟨l, here, rfl, _⟩ := h
    rfl
  · obtain ⟨l, here, rfl, hl, hcp, q, qn⟩ := h
    refine ⟨_, PSs.nox (pss_cons (ps_if (pt_cmpR op_eqL (pv 0) (pe_lit []) (nomark _)) (pss_one (ps_ret (pe_tup (pa_cons (pv 1) (pa_cons pe_bl pa_nil))))) pss_nil)
      (pss_cons (ps_if (pt_cmpR op_neL (pe_ix ix_sv (pv 0) pe_int (fun _ _ => rfl)) (pe_lit [91]) (nomark _)) (pss_one (ps_ret (pe_ix ix_list (pe_lst (pa_cons (pe_tup (pa_cons (pe_call (ok_figs T) hr (by rfl) T.dLawFigures.g T.dLawFigures.F.kp (bi_figs T) .nil pass0 (pa_cons (pv 0) pa_nil)) (pa_cons pe_bl pa_nil))) (pa_cons pe_non pa_nil)))
          (pe_callTy call_int1 (by rfl) T.zInt (by decide +kernel) (pa_cons (pe_cmpR op_lt (pe_call (ok_figs T) hr (by rfl) T.dLawFigures.g T.dLawFigures.F.kp (bi_figs T) .nil pass0 (pa_cons (pv 0) pa_nil)) pe_int (nomark _)) pa_nil)) (fun _ _ => rfl)))) pss_nil)
      (pss_cons (ps_set (i := 2) scLEnd.nd rfl (Or.inl rfl) (pe_op op_sub pe_int (pe_op op_mul pe_int (pe_callTy call_int1 (by rfl) T.zInt (by decide +kernel) (pa_cons (pe_cmpR op_eqL (pe_slice sl_sv (pv 0) (po_some pe_int) (po_some pe_int)) (pe_lit [45]) (nomark _)) pa_nil)))))
      (pss_cons (ps_set (i := 3) scLEnd.nd rfl (Or.inl rfl) (pe_call (ok_figs T) hr (by rfl) T.dLawFigures.g T.dLawFigures.F.kp (bi_figs T) .nil pass0 (pa_cons (pe_slice sl_sv (pv 0) (po_some (pe_op op_add pe_int (pe_callTy call_int1 (by rfl) T.zInt (by decide +kernel) (pa_cons (pe_cmpR op_lt (pv 2) pe_int (nomark _)) pa_nil)))) (po_some (pe_un un_neg pe_int))) pa_nil)))
      (pss_cons (ps_if (pw_or (pt_cmpR op_neL (pe_ix ix_sv (pv 0) (pe_un un_neg pe_int) (fun _ _ => rfl)) (pe_lit [93]) (nomark _)) (pw_or (pt_cmpR op_lt (pv 3) pe_int (nomark _)) (pw_or1 (pt_cmpR op_lt (pe_op op_add (pv 1) (pe_op op_mul (pv 2) (pv 3))) pe_int (nomark _))))).pt (pss_one (ps_ret pe_non)) pss_nil)
      (pss_one (ps_ret (pe_tup (pa_cons (pe_op op_add (pv 1) (pe_op op_mul (pv 2) (pv 3))) (pa_cons pe_bl pa_nil)))))))))), ?_⟩
    -- the bracketed end, its sign known
    refine ⟨_, rfl, l, [], rfl, rfl, _, rfl, ?_⟩
    cases l with
    | nil => exact iteT ⟨_, rfl, tup2, fun p np => q _ _ rfl _ p (same_new np) upd_same⟩
    | cons c r =>
      refine iteF ⟨_, rfl, c :: r, _, c, rfl, rfl, hl, atI0 c r, [c], [91], rfl, rfl, _, rfl, ?_⟩
      rw [lawEnd_cons] at q qn
      by_cases h91 : c = 91
      · subst h91
        rw [if_pos rfl] at q qn
        rw [show decide (([91] : L) = [91]) = true from decide_eq_true rfl]
        refine iteF ⟨_, rfl, _, rfl, _, rfl, 91 :: r, rfl, hl, ?_⟩
        refine ⟨_, [45], rfl, rfl, .inr ⟨_, rfl, _, _, rfl, rfl, .inl (by decide), _, _, rfl, rfl, ?_⟩⟩
        rw [cut12, take1_minus]
        have fin : ∀ (k : Nat) (sg : Int) (H1 : Hp), (sg = 1 ∨ sg = -1) → Same H H1 → (∀ (n : Int) (m : Bool), lawBr (91 :: r) k sg here = some (n, m) → ∀ (H' : Hp) (p : Addr), Same H H' → H' p = some (.tup [.int n, .bl m]) → Q (.ref p) H') → (lawBr (91 :: r) k sg here = none → ∀ (H' : Hp), Same H H' → Q .non H') →
            tSeq (tIfS (tOr (tTest (tOp rNeL (tOp rIxV (tVar 0) (tUn (rU fun i => .int (-i)) (tC (.int 1)))) (tC (sv [93])))) (tOr (tTest (tOp (rI0 fun i j => .bl (decide (i < j))) (tVar 3) (tC (.int 1)))) (tTest (tOp (rI0 fun i j => .bl (decide (i < j))) (tOp (rI0 fun i j => .int (i + j)) (tVar 1) (tOp (rI CMul fun i j => .int (i * j)) (tVar 2) (tVar 3))) (tC (.int 1)))))) (tRet (tC .non)) tNext)
              (tRet (tTup (tCons (tOp (rI0 fun i j => .int (i + j)) (tVar 1) (tOp (rI CMul fun i j => .int (i * j)) (tVar 2) (tVar 3))) (tCons (tC (.bl false)) tNil))))
              { nx := fun _ H' => Q .non H', rt := Q } [some (sv (91 :: r)), some (.int here), some (.int sg), some (.int (figs (mid k (91 :: r))))] H1 := fun k sg H1 hs s1 q qn => by
          have cm : CMul sg (figs (mid k (91 :: r))) := .inl (by rcases hs with rfl | rfl <;> exact ⟨by decide, by decide⟩)
          obtain ⟨x, hx⟩ : ∃ x, (91 :: r : L).getLast? = some x := ⟨_, List.getLast?_eq_getLast (by simp)⟩
          unfold lawBr at q qn
          refine ⟨_, rfl, _, rfl, 91 :: r, _, x, rfl, rfl, hl, atI_m1 hx, [x], [93], rfl, rfl, _, rfl, ?_⟩
          by_cases h93 : x = 93
          · subst h93
            rw [show decide (([93] : L) = [93]) = true from decide_eq_true rfl]
            refine iteF ⟨_, rfl, _, _, rfl, rfl, _, rfl, ?_⟩
            by_cases g1 : figs (mid k (91 :: r)) < 1
            · rw [decide_eq_true g1]
              exact iteT (iteT (qn (if_pos (.inr (.inl g1))) _ s1))
            · rw [decide_eq_false g1]
              refine iteF ⟨_, rfl, _, rfl, _, rfl, _, _, rfl, rfl, cm, _, _, rfl, rfl, _, _, rfl, rfl, _, rfl, ?_⟩
              by_cases g2 : here + sg * figs (mid k (91 :: r)) < 1
              · rw [decide_eq_true g2]
                exact iteT (qn (if_pos (.inr (.inr g2))) _ s1)
              · rw [decide_eq_false g2]
                refine iteF ⟨_, rfl, _, rfl, _, rfl, _, _, rfl, rfl, cm, _, _, rfl, rfl, tup2, fun p np => ?_⟩
                refine q _ _ (if_neg ?_) _ p (same_lay s1 np) upd_same
                rintro (z | z | z)
                · exact z hx
                · exact g1 z
                · exact g2 z
          · rw [show decide (([x] : L) = [93]) = false from decide_eq_false fun z => h93 (List.cons.inj z).1]
            refine iteT (iteT (qn (if_pos (.inl fun z => h93 (Option.some.inj (hx.symm.trans z)))) _ s1))
        have ml := mid_len
        by_cases h45 : r.head? = some 45
        · rw [if_pos h45] at q qn
          rw [decide_eq_true h45]
          refine ⟨_, rfl, _, rfl, _, _, rfl, rfl, .inr ⟨_, rfl, _, _, rfl, rfl, _, rfl, _, rfl, _, rfl, 91 :: r, rfl, hl, ?_⟩⟩
          refine ⟨mid 2 (91 :: r), ?_, Nat.le_trans (ml 2 _) hl, hcp.sub (mid_sub 2 _), fun H1 s1 => fin 2 (-1) H1 (.inr rfl) s1 q qn⟩
          exact congrArg (fun z => [sv z]) (cut_mid 2 (91 :: r))
        · rw [if_neg h45] at q qn
          rw [decide_eq_false h45]
          refine ⟨_, rfl, _, rfl, _, _, rfl, rfl, .inr ⟨_, rfl, _, _, rfl, rfl, _, rfl, _, rfl, _, rfl, 91 :: r, rfl, hl, ?_⟩⟩
          refine ⟨mid 1 (91 :: r), ?_, Nat.le_trans (ml 1 _) hl, hcp.sub (mid_sub 1 _), fun H1 s1 => fin 1 1 H1 (.inl rfl) s1 q qn⟩
          exact congrArg (fun z => [sv z]) (cut_mid 1 (91 :: r))
      · rw [if_neg h91] at q qn
        rw [show decide (([c] : L) = [91]) = false from decide_eq_false fun z => h91 (List.cons.inj z).1]
        refine iteT ⟨_, rfl, c :: r, rfl, hl, hcp, fun H1 s1 => ⟨tup2, fun p np => ⟨tup2, fun x nx => ⟨_, rfl, c :: r, rfl, hl, hcp, fun H2 s2 => ⟨_, _, rfl, rfl, .inr ⟨_, rfl, ?_⟩⟩⟩⟩⟩⟩
        have hp := s2 _ _ (same_new nx _ _ (show (upd H1 p (.tup [.int (figs (c :: r)), .bl true])) p = _ from upd_same))
        have hx := s2 _ _ (show (upd (upd H1 p (.tup [.int (figs (c :: r)), .bl true])) x (.lst [.ref p, .non])) x = _ from upd_same)
        have s3 := Same.trans (same_lay (same_lay s1 np) nx) s2
        by_cases g : figs (c :: r) < 1
        · rw [if_pos g] at qn
          rw [decide_eq_true g]
          exact ⟨x, _, 1, _, rfl, rfl, SqL.of hx, atI_nat (j := 1) rfl, qn rfl _ s3⟩
        · rw [if_neg g] at q
          rw [decide_eq_false g]
          exact ⟨x, _, 0, _, rfl, rfl, SqL.of hx, atI_nat (j := 0) rfl, q _ _ rfl _ p s3 hp⟩
theorem bi_lend (T : Top K mg) : Binds K (fdO K (ga K "_law_end")) ["_law_word_here", "_law_here"] [] := T.dLawEnd.F.bindsN fun _ _ _ _ _ _ us hl => match us, hl with | [_, _], _ => rfl
end
end K28

set_option Elab.async false
set_option linter.all false
set_option maxRecDepth 100000
set_option maxHeartbeats 4000000
/-! The law's defs: a part's ends. -/
namespace K28
open PySem PySem.Spec L2
open He (ga ma)
/-- an end, or None -/
def UpV (H : Hp) (v : V) (o : Option End) : Prop := (o = none ∧ v = .non) ∨ ∃ pa a, o = some a ∧ v = .ref pa ∧ EndAt H pa a
theorem UpV.same {H H' : Hp} {v : V} {o : Option End} (h : UpV H v o) (s : Same H H') : UpV H' v o := by
  rcases h with h | ⟨pa, a, h1, h2, h3⟩
  · exact .inl h
  · exact .inr ⟨pa, a, h1, h2, s _ _ h3⟩
section
variable {P : Program} {w : World} {K : PySem.W.Frag} {mg : Str → Option Value} {base : Heap}
def spLEnds : Sp := fun vs H Q _ => ∃ (l : L) (o : Addr) (r c : Int), vs = [sv l, .ref o] ∧ H o = some (.tup [.int r, .int c]) ∧ l.length ≤ 100000 ∧ Cp l ∧
  (∀ a b, ends lawEnd l r c = some (a, b) → ∀ H' p pa pb, Same H H' → H' p = some (.tup [.ref pa, .ref pb]) → EndAt H' pa a → EndAt H' pb b → Q (.ref p) H') ∧ (ends lawEnd l r c = none → ∀ H', Same H H' → Q .non H')
theorem scLEnds : FnScope ["_law_word_here", "_law_origin", "_law_up", "_law_side", "_law_rows", "_law_letter", "_law_columns"] ["_law_word_here", "_law_origin"] (defScope sLawEnds) := ⟨rfl, rfl, rfl, by decide +kernel, rfl, by decide +kernel, by decide +kernel⟩
def both : Option End → Option End → Option (End × End)
  | some a, some b => some (a, b)
  | none, _ => none
  | some _, none => none
theorem lends_eq {l : L} {r c : Int} {x y : Option End} (ha : rowEnd lawEnd (before 67 l) r = x) (hb : colEnd lawEnd l c = y) : ends lawEnd l r c = both x y := by
  subst ha hb
  unfold ends
  cases rowEnd lawEnd (before 67 l) r with
  | none => rfl
  | some a => cases colEnd lawEnd l c <;> rfl
theorem ok_lends (T : Top K mg) : FnOk P w K mg base CX0 3 (ga K "_law_ends") (fdO K (ga K "_law_ends")) ["_law_word_here", "_law_origin"] spLEnds := by
  refine T.dLawEnds.F.ok scLEnds (fun vs H Q E h => ?_) (fun cdv A outer s H vs Q E hr h => ?_)
  · obtain ⟨l, o, r, c, rfl, _⟩ := h
    rfl
  · obtain ⟨l, o, r, c, rfl, ho, hl, hcp, q, qn⟩ := h
    have st : ∃ t2 : TS, PSs (cxOf CX0 P w K mg base ["_law_word_here", "_law_origin", "_law_up", "_law_side", "_law_rows", "_law_letter", "_law_columns"] "_law_ends" (defScope sLawEnds) (ga K "_law_ends") cdv A outer s H E).nox ((defBody sLawEnds).drop 3) t2 ∧
        ∀ (H' : Hp) (v : V) (sb : Addr) (x : Option End), UpV H' v x → rowEnd lawEnd (before 67 l) r = x → EndAt H' sb (none, false) → Same H H' →
          t2 { nx := fun _ H' => Q .non H', rt := Q } [some (sv l), some (.ref o), some v, some (.ref sb), some (sv (before 67 l)), some (sv (if 67 ∈ l then [67] else [])), some (sv (if 67 ∈ l then after 67 l else []))] H' := by
      refine ⟨_, pss_cons (ps_if (pt_cmpR op_neL (pv 5) (pe_lit []) (nomark _)) (pss_one (ps_set (i := 3) scLEnds.nd rfl (Or.inl rfl) (pe_call (ok_lend T) hr (by rfl) T.dLawEnd.g T.dLawEnd.F.kp (bi_lend T) .nil pass0 (pa_cons (pv 6) (pa_cons (pe_ix ix_tup (pv 1) pe_int (fun _ _ => rfl)) pa_nil))))) pss_nil)
        (pss_one (ps_ret (pe_ix ix_list (pe_lst (pa_cons pe_non (pa_cons (pe_tup (pa_cons (pv 2) (pa_cons (pv 3) pa_nil))) pa_nil))) (pe_callTy call_int1 (by rfl) T.zInt (by decide +kernel) (pa_cons (pe_and (pe_cmp (pc_notN (pv 2)) rfl) (pe_one (pe_cmp (pc_notN (pv 3)) rfl))) pa_nil)) (fun _ _ => rfl)))), ?_⟩
      intro H' v sb x hv hx hsb s'
      have last : ∀ (H1 : Hp) (v3 : V) (y : Option End), UpV H1 v x → UpV H1 v3 y → colEnd lawEnd l c = y → Same H H1 → tRet (tOp (rIxL K) (tLst (tCons (tC .non) (tCons (tTup (tCons (tVar 2) (tCons (tVar 3) tNil))) tNil)))
          (tCB (fun xs H Q => (∃ i, xs = [.int i] ∧ Q (.int i) H) ∨ ∃ k, xs = [.bl k] ∧ Q (.int (if k then 1 else 0)) H) (tCons (tAndV (tNotN (tVar 2)) (tNotN (tVar 3))) tNil)))
          { nx := fun _ H' => Q .non H', rt := Q } [some (sv l), some (.ref o), some v, some v3, some (sv (before 67 l)), some (sv (if 67 ∈ l then [67] else [])), some (sv (if 67 ∈ l then after 67 l else []))] H1 := fun H1 v3 y h2 h3 hy s1 => by
        have le := lends_eq hx hy
        refine ⟨_, rfl, _, rfl, tup2, fun p np => ⟨tup2, fun z nz => ?_⟩⟩
        have s2 := same_lay (o := .lst [.non, .ref p]) (same_lay (o := .tup [v, v3]) s1 np) nz
        have hp : (upd (upd H1 p (.tup [v, v3])) z (.lst [.non, .ref p])) p = some (.tup [v, v3]) := same_new nz _ _ upd_same
        have hz : (upd (upd H1 p (.tup [v, v3])) z (.lst [.non, .ref p])) z = some (.lst [.non, .ref p]) := upd_same
        have k2 := (h2.same (same_new (o := .tup [v, v3]) np)).same (same_new (o := .lst [.non, .ref p]) nz)
        have k3 := (h3.same (same_new (o := .tup [v, v3]) np)).same (same_new (o := .lst [.non, .ref p]) nz)
        refine ⟨_, rfl, _, rfl, ?_⟩
        rcases k2 with ⟨rfl, rfl⟩ | ⟨pa, a, rfl, rfl, ha⟩
        · refine iteF (.inr ⟨_, rfl, z, _, 0, _, rfl, rfl, SqL.of hz, atI_nat (j := 0) rfl, qn le _ s2⟩)
        · refine iteT ⟨_, rfl, ?_⟩
          rcases k3 with ⟨rfl, rfl⟩ | ⟨pb, b, rfl, rfl, hb⟩
          · refine .inr ⟨_, rfl, z, _, 0, _, rfl, rfl, SqL.of hz, atI_nat (j := 0) rfl, qn le _ s2⟩
          · exact .inr ⟨_, rfl, z, _, 1, _, rfl, rfl, SqL.of hz, atI_nat (j := 1) rfl, q a b le _ p pa pb s2 hp ha hb⟩
      refine ⟨_, rfl, _, [], rfl, rfl, _, rfl, ?_⟩
      by_cases h67 : 67 ∈ l
      · rw [show (!decide ((if 67 ∈ l then [67] else [] : L) = [])) = true by rw [if_pos h67] <;> rfl]
        have ce : colEnd lawEnd l c = (lawEnd (after 67 l) c).map fun p => (some p.1, p.2) := by
          unfold colEnd
          rw [if_pos h67]
        have ea : (if 67 ∈ l then after 67 l else []) = after 67 l := if_pos h67
        refine iteT ⟨_, rfl, _, rfl, o, _, _, _, rfl, rfl, SqT.of (s' _ _ ho), atI_nat (j := 1) rfl, _, c, rfl, ?_, ?_, fun n m hn H1 pb s1 hpb => ?_, fun hn H1 s1 => ?_⟩
        · rw [ea]
          exact Nat.le_trans (after_len 67 l) hl
        · rw [ea]
          exact hcp.sub (after_sub 67 l)
        · rw [ea] at hn
          exact last H1 (.ref pb) (some (some n, m)) (hv.same s1) (.inr ⟨pb, _, rfl, rfl, hpb⟩) (by rw [ce, hn]; rfl) (Same.trans s' s1)
        · rw [ea] at hn
          exact last H1 .non none (hv.same s1) (.inl ⟨rfl, rfl⟩) (by rw [ce, hn]; rfl) (Same.trans s' s1)
      · rw [show (!decide ((if 67 ∈ l then [67] else [] : L) = [])) = false by rw [if_neg h67] <;> rfl]
        refine iteF (last H' (.ref sb) (some (none, false)) hv (.inr ⟨sb, _, rfl, rfl, hsb⟩) ?_ s')
        unfold colEnd
        rw [if_neg h67]
    obtain ⟨t2, ht2, rest⟩ := st
    refine ⟨_, PSs.nox (pss_cons (ps_asg (pe_tup (pa_cons (pe_tup (pa_cons pe_non (pa_cons pe_bl pa_nil))) (pa_cons (pe_tup (pa_cons pe_non (pa_cons pe_bl pa_nil))) pa_nil))) (pg_tup rfl (pgs_cons (pg_name (i := 2) scLEnds.nd rfl (Or.inl rfl)) (pgs_cons (pg_name (i := 3) scLEnds.nd rfl (Or.inl rfl)) pgs_nil))))
      (pss_cons (ps_asg (pe_bm PySem.F.plainAttrs_str PySem.F.slot_str_partition PySem.F.type_str_partition mt_partL (pv 0) (pa_cons (pe_lit [67]) pa_nil)) (pg_tup rfl (pgs_cons (pg_name (i := 4) scLEnds.nd rfl (Or.inl rfl)) (pgs_cons (pg_name (i := 5) scLEnds.nd rfl (Or.inl rfl)) (pgs_cons (pg_name (i := 6) scLEnds.nd rfl (Or.inl rfl)) pgs_nil)))))
      (pss_cons (ps_if (pt_cmpR op_neL (pv 4) (pe_lit []) (nomark _)) (pss_one (ps_set (i := 2) scLEnds.nd rfl (Or.inl rfl) (pe_ix ix_list (pe_lst (pa_cons pe_non (pa_cons (pe_call (ok_lend T) hr (by rfl) T.dLawEnd.g T.dLawEnd.F.kp (bi_lend T) .nil pass0 (pa_cons (pe_slice sl_sv (pv 4) (po_some pe_int) po_none) (pa_cons (pe_ix ix_tup (pv 1) pe_int (fun _ _ => rfl)) pa_nil))) pa_nil)))
          (pe_callTy call_int1 (by rfl) T.zInt (by decide +kernel) (pa_cons (pe_cmpR op_eqL (pe_ix ix_sv (pv 4) pe_int (fun _ _ => rfl)) (pe_lit [82]) (nomark _)) pa_nil)) (fun _ _ => rfl)))) pss_nil)
      ht2))), ?_⟩
    refine ⟨tup2, fun ta na => ⟨tup2, fun tb nb => ⟨tup2, fun tt nt => ?_⟩⟩⟩
    have s3 := same_lay (o := .tup [.ref ta, .ref tb]) (same_lay (o := .tup [.non, .bl false]) (same_new (o := .tup [.non, .bl false]) na) nb) nt
    have h1 : EndAt (upd (upd (upd H ta (.tup [.non, .bl false])) tb (.tup [.non, .bl false])) tt (.tup [.ref ta, .ref tb])) ta (none, false) := same_new nt _ _ (same_new nb _ _ upd_same)
    have h2 : EndAt (upd (upd (upd H ta (.tup [.non, .bl false])) tb (.tup [.non, .bl false])) tt (.tup [.ref ta, .ref tb])) tb (none, false) := same_new nt _ _ upd_same
    have h3 : (upd (upd (upd H ta (.tup [.non, .bl false])) tb (.tup [.non, .bl false])) tt (.tup [.ref ta, .ref tb])) tt = some (.tup [.ref ta, .ref tb]) := upd_same
    generalize (upd (upd (upd H ta (.tup [.non, .bl false])) tb (.tup [.non, .bl false])) tt (.tup [.ref ta, .ref tb])) = H1 at s3 h1 h2 h3
    refine ⟨tt, _, rfl, SqT.of h3, rfl, _, _, rfl, _, _, rfl, rfl, ?_⟩
    refine ⟨_, rfl, rfl, l, 67, rfl, rfl, hl, fun p0 n0 => ⟨p0, _, rfl, SqT.of upd_same, rfl, _, _, rfl, _, _, rfl, _, _, rfl, rfl, ?_⟩⟩
    have s4 := same_lay (o := .tup [sv (before 67 l), sv (if 67 ∈ l then [67] else []), sv (if 67 ∈ l then after 67 l else [])]) s3 n0
    have g1 : EndAt (upd H1 p0 (.tup [sv (before 67 l), sv (if 67 ∈ l then [67] else []), sv (if 67 ∈ l then after 67 l else [])])) ta (none, false) := same_new n0 _ _ h1
    have g2 : EndAt (upd H1 p0 (.tup [sv (before 67 l), sv (if 67 ∈ l then [67] else []), sv (if 67 ∈ l then after 67 l else [])])) tb (none, false) := same_new n0 _ _ h2
    generalize (upd H1 p0 (.tup [sv (before 67 l), sv (if 67 ∈ l then [67] else []), sv (if 67 ∈ l then after 67 l else [])])) = H2 at s4 g1 g2
    refine ⟨_, rfl, before 67 l, [], rfl, rfl, _, rfl, ?_⟩
    have bl := Nat.le_trans (before_len 67 l) hl
    have bc := hcp.sub (before_sub 67 l)
    have rest' := rest H2
    cases hw : before 67 l with
    | nil =>
      rw [hw] at rest'
      exact iteF (rest' (.ref ta) tb (some (none, false)) (.inr ⟨ta, _, rfl, rfl, g1⟩) rfl g2 s4)
    | cons x t =>
      rw [hw] at bl bc
      have re : rowEnd lawEnd (x :: t) r = if x = 82 then (lawEnd t r).map fun p => (some p.1, p.2) else none := rfl
      have rest2 := rest
      rw [hw] at rest2
      refine iteT ⟨_, rfl, _, rfl, x :: t, rfl, bl, ?_⟩
      rw [cut_from1]
      have fin : ∀ (H3 : Hp) (v : V) (y : Option End), UpV H3 v y → (lawEnd t r).map (fun p => (some p.1, p.2)) = y → Same H2 H3 → ∀ z, H3 z = none → (tCB (fun xs H Q => (∃ i, xs = [.int i] ∧ Q (.int i) H) ∨ ∃ k, xs = [.bl k] ∧ Q (.int (if k then 1 else 0)) H) (tCons (tOp rEqL (tOp rIxV (tVar 4) (tC (.int 0))) (tC (sv [82]))) tNil))
          [some (sv l), some (.ref o), some (.ref ta), some (.ref tb), some (sv (x :: t)), some (sv (if 67 ∈ l then [67] else [])), some (sv (if 67 ∈ l then after 67 l else []))] (upd H3 z (.lst [.non, v])) fun y H2 => rIxL K (.ref z) y H2 fun v' H' => t2 { nx := fun _ H' => Q .non H', rt := Q } [some (sv l), some (.ref o), some v', some (.ref tb), some (sv (x :: t)), some (sv (if 67 ∈ l then [67] else [])), some (sv (if 67 ∈ l then after 67 l else []))] H' := fun H3 v y hv hy s5 z nz => by
        have s6 := same_lay (o := .lst [.non, v]) (Same.trans s4 s5) nz
        have hz : (upd H3 z (.lst [.non, v])) z = some (.lst [.non, v]) := upd_same
        have g3 : EndAt (upd H3 z (.lst [.non, v])) tb (none, false) := same_new nz _ _ (s5 _ _ g2)
        refine ⟨_, rfl, x :: t, _, x, rfl, rfl, bl, atI0 x t, [x], [82], rfl, rfl, .inr ⟨_, rfl, ?_⟩⟩
        by_cases h82 : x = 82
        · rw [show decide (([x] : L) = [82]) = true from decide_eq_true (by rw [h82])]
          rw [if_pos h82] at re
          exact ⟨z, _, 1, _, rfl, rfl, SqL.of hz, atI_nat (j := 1) rfl, rest2 _ v tb y (hv.same (same_new nz)) (re.trans hy) g3 s6⟩
        · rw [show decide (([x] : L) = [82]) = false from decide_eq_false fun z => h82 (List.cons.inj z).1]
          rw [if_neg h82] at re
          exact ⟨z, _, 0, _, rfl, rfl, SqL.of hz, atI_nat (j := 0) rfl, rest2 _ .non tb none (.inl ⟨rfl, rfl⟩) re g3 s6⟩
      refine ⟨_, rfl, o, _, _, _, rfl, rfl, SqT.of (s4 _ _ ho), atI_nat (j := 0) rfl, t, r, rfl, by rw [List.length_cons] at bl; omega, bc.sub fun c hc => List.mem_cons_of_mem _ hc, fun n m hn H3 pa s5 hpa => ⟨tup2, fun z nz => ?_⟩, fun hn H3 s5 => ⟨tup2, fun z nz => ?_⟩⟩
      · exact fin H3 (.ref pa) (some (some n, m)) (.inr ⟨pa, _, rfl, rfl, hpa⟩) (by rw [hn]; rfl) s5 z nz
      · exact fin H3 .non none (.inl ⟨rfl, rfl⟩) (by rw [hn]; rfl) s5 z nz
theorem bi_lends (T : Top K mg) : Binds K (fdO K (ga K "_law_ends")) ["_law_word_here", "_law_origin"] [] := T.dLawEnds.F.bindsN fun _ _ _ _ _ _ us hl => match us, hl with | [_, _], _ => rfl
end
end K28

set_option Elab.async false
set_option linter.all false
set_option maxRecDepth 100000
set_option maxHeartbeats 4000000
/-! The law's reading: parts, their ends as data. -/
namespace K28
open PySem PySem.Spec L2
open He (ga ma)
/-! ### parts -/
theorem spl_len : ∀ (l acc : L), (TL.spl [58] 0 acc l).length ≤ l.length + 1
  | [], acc => by
    rw [TL.spl_nil]
    simp
  | c :: r, acc => by
    cases h : TL.pre [58] (c :: r) with
    | true =>
      rw [TL.spl_hit h]
      have := spl_len r []
      show (TL.spl [58] 0 [] r).length + 1 ≤ r.length + 1 + 1
      omega
    | false =>
      rw [TL.spl_miss h, List.length_cons]
      have := spl_len r (acc ++ [c])
      omega
theorem spl_sub : ∀ (l acc : L), ∀ p ∈ TL.spl [58] 0 acc l, ∀ c ∈ p, c ∈ acc ∨ c ∈ l
  | [], acc, p, hp, c, hc => by
    rw [TL.spl_nil] at hp
    rw [List.mem_singleton.mp hp] at hc
    exact .inl hc
  | x :: r, acc, p, hp, c, hc => by
    cases h : TL.pre [58] (x :: r) with
    | true =>
      rw [TL.spl_hit h] at hp
      rcases List.mem_cons.mp hp with e | hp
      · rw [e] at hc
        exact .inl hc
      · rcases spl_sub r [] p hp c hc with q | q
        · cases q
        · exact .inr (List.mem_cons_of_mem _ q)
    | false =>
      rw [TL.spl_miss h] at hp
      rcases spl_sub r (acc ++ [x]) p hp c hc with q | q
      · rcases List.mem_append.mp q with q | q
        · exact .inl q
        · rw [List.mem_singleton.mp q]
          exact .inr List.mem_cons_self
      · exact .inr (List.mem_cons_of_mem _ q)
theorem spl_plen : ∀ (l acc : L), ∀ p ∈ TL.spl [58] 0 acc l, p.length ≤ acc.length + l.length
  | [], acc, p, hp => by
    rw [TL.spl_nil] at hp
    rw [List.mem_singleton.mp hp]
    simp
  | x :: r, acc, p, hp => by
    cases h : TL.pre [58] (x :: r) with
    | true =>
      rw [TL.spl_hit h] at hp
      rcases List.mem_cons.mp hp with e | hp
      · rw [e]
        omega
      · have := spl_plen r [] p hp
        rw [List.length_nil] at this
        rw [List.length_cons]
        omega
    | false =>
      rw [TL.spl_miss h] at hp
      have := spl_plen r (acc ++ [x]) p hp
      rw [List.length_append, List.length_singleton] at this
      rw [List.length_cons]
      omega
theorem spl_ne (l acc : L) : TL.spl [58] 0 acc l ≠ [] := by
  cases l with
  | nil =>
    rw [TL.spl_nil]
    simp
  | cons c r =>
    cases h : TL.pre [58] (c :: r) with
    | true =>
      rw [TL.spl_hit h]
      simp
    | false =>
      rw [TL.spl_miss h]
      exact spl_ne r _
theorem spl_cp {l : L} (h : Cp l) {p : L} (hp : p ∈ TL.spl [58] 0 [] l) : Cp p := fun c hc => by
  rcases spl_sub l [] p hp c hc with q | q
  · cases q
  · exact h c q
/-! ### two ends, or None -/
def SomeV (H : Hp) (v : V) : Option (End × End) → Prop
  | none => v = .non
  | some (a, b) => ∃ p pa pb, v = .ref p ∧ H p = some (.tup [.ref pa, .ref pb]) ∧ EndAt H pa a ∧ EndAt H pb b
theorem SomeV.same {H H' : Hp} {v : V} : ∀ {o : Option (End × End)}, SomeV H v o → Same H H' → SomeV H' v o
  | none, h, _ => h
  | some (a, b), ⟨p, pa, pb, h1, h2, h3, h4⟩, s => ⟨p, pa, pb, h1, s _ _ h2, s _ _ h3, s _ _ h4⟩
def Somes (H : Hp) : List V → List (Option (End × End)) → Prop
  | [], [] => True
  | v :: xs, o :: os => SomeV H v o ∧ Somes H xs os
  | _, _ => False
theorem Somes.same {H H' : Hp} : ∀ {xs : List V} {os : List (Option (End × End))}, Somes H xs os → Same H H' → Somes H' xs os
  | [], [], _, _ => trivial
  | v :: xs, o :: os, ⟨h1, h2⟩, s => ⟨h1.same s, h2.same s⟩
theorem Somes.app {H : Hp} : ∀ {xs : List V} {os : List (Option (End × End))} {v : V} {o : Option (End × End)}, Somes H xs os → SomeV H v o → Somes H (xs ++ [v]) (os ++ [o])
  | [], [], _, _, _, h => ⟨h, trivial⟩
  | x :: xs, y :: os, _, _, ⟨h1, h2⟩, h => ⟨h1, h2.app h⟩
theorem Somes.len {H : Hp} : ∀ {xs : List V} {os : List (Option (End × End))}, Somes H xs os → xs.length = os.length
  | [], [], _ => rfl
  | x :: xs, y :: os, ⟨_, h2⟩ => congrArg Nat.succ h2.len
theorem Somes.head {H : Hp} {o : Option (End × End)} {os : List (Option (End × End))} : ∀ {xs : List V}, Somes H xs (o :: os) → ∃ v, atI xs 0 = some v ∧ SomeV H v o
  | x :: xs, ⟨h1, _⟩ => ⟨x, atI_nat (j := 0) rfl, h1⟩
theorem Somes.lastV {H : Hp} : ∀ {xs : List V} {os : List (Option (End × End))} {o : Option (End × End)}, Somes H xs os → os.getLast? = some o → ∃ ys v, xs = ys ++ [v] ∧ SomeV H v o
  | [], [], _, _, e => by cases e
  | [x], [y], o, ⟨h1, _⟩, e => ⟨[], x, rfl, by cases e; exact h1⟩
  | [x], y :: z :: os, _, ⟨_, h2⟩, _ => h2.elim
  | x :: x2 :: xs, [y], _, ⟨_, h2⟩, _ => h2.elim
  | x :: x2 :: xs, y :: z :: os, o, ⟨_, h2⟩, e => by
    rw [List.getLast?_cons_cons] at e
    obtain ⟨ys, v, e1, h⟩ := h2.lastV e
    exact ⟨x :: ys, v, by rw [e1]; rfl, h⟩
def endD (a : End) : PyData := .tuple [oD a.1, .bool a.2]
def partD : Option (End × End) → PyData
  | none => .none
  | some (a, b) => .tuple [endD a, endD b]
theorem endD_at {K : PySem.W.Frag} {H : Hp} {p : Addr} {a : End} (h : EndAt H p a) : Dp K H (.ref p) (endD a) := .tup (SqT.of h) (.cons (oD_at a.1) (.cons (.bl a.2) .nil))
theorem partD_at {K : PySem.W.Frag} {H : Hp} {v : V} : ∀ {o : Option (End × End)}, SomeV H v o → Dp K H v (partD o)
  | none, h => by
    cases h
    exact .non
  | some (a, b), ⟨p, pa, pb, h1, h2, h3, h4⟩ => by
    subst h1
    exact .tup (SqT.of h2) (.cons (endD_at h3) (.cons (endD_at h4) .nil))
theorem partsD_at {K : PySem.W.Frag} {H : Hp} : ∀ {xs : List V} {os : List (Option (End × End))}, Somes H xs os → DpAll K H xs (os.map partD)
  | [], [], _ => .nil
  | x :: xs, y :: os, ⟨h1, h2⟩ => .cons (partD_at h1) (partsD_at h2)
theorem partD_lay (o : Option (End × End)) : (partD o).canLay0 = true ∧ (partD o).depth ≤ 2 := by
  cases o with
  | none => simp [partD, PyData.canLay0, PyData.depth]
  | some q =>
    obtain ⟨a, b⟩ := q
    simp [partD, endD, PyData.canLay0, PyData.canLayAll0, PyData.depth, PyData.depthAll, (oD_flat a.1).1, (oD_flat a.1).2, (oD_flat b.1).1, (oD_flat b.1).2]
theorem partsD_lay : ∀ os : List (Option (End × End)), PyData.canLayAll0 (os.map partD) = true ∧ PyData.depthAll (os.map partD) ≤ 2
  | [] => ⟨rfl, by decide⟩
  | o :: os => by
    obtain ⟨h1, h2⟩ := partD_lay o
    obtain ⟨h3, h4⟩ := partsD_lay os
    constructor
    · show (PyData.canLay0 (partD o) && PyData.canLayAll0 (os.map partD)) = true
      rw [h1, h3] <;> rfl
    · show max (PyData.depth (partD o)) (PyData.depthAll (os.map partD)) ≤ 2
      omega
theorem partsD_shaped (os : List (Option (End × End))) : SeqAt.shaped (.list (os.map partD)) = true := by
  obtain ⟨h1, h2⟩ := partsD_lay os
  show (PyData.canLay0 (.list (os.map partD)) && decide (PyData.depth (.list (os.map partD)) ≤ 64)) = true
  have e1 : PyData.canLay0 (.list (os.map partD)) = true := by
    simp only [PyData.canLay0]
    exact h1
  have e2 : PyData.depth (.list (os.map partD)) ≤ 64 := by
    simp only [PyData.depth]
    omega
  rw [e1, decide_eq_true e2] <;> rfl
theorem none_in (os : List (Option (End × End))) : ((os.map partD).any fun z => PyData.eqv z .none) = os.any fun o => o.isNone := by
  rw [List.any_map]
  congr 1
  funext o
  cases o with
  | none => rfl
  | some q => rfl
end K28

set_option Elab.async false
set_option linter.all false
set_option maxRecDepth 100000
set_option maxHeartbeats 4000000
/-! The law's reading of a text. -/
namespace K28
open PySem PySem.Spec L2
open He (ga ma)
/-- what _law_read gives back -/
def DueAt (H : Hp) (p : Addr) (d : Due) : Prop := ∃ f pr pc, H p = some (.tup [.ref f, .ref pr, .ref pc]) ∧ H f = some (fourV d.top d.left d.bottom d.right) ∧ H pr = some (.tup [.bl d.up, .bl d.dn]) ∧ H pc = some (.tup [.bl d.sd, .bl d.fr])
/-- a number that the law's reading of an end gives -/
def LawE (a : End) (here : Int) : Prop := ∀ n, a.1 = some n → 1 ≤ n ∧ n ≤ 2000000000000
theorem lawE_of {l : L} {here n : Int} {m : Bool} (ho : Org here) (h : lawEnd l here = some (n, m)) : 1 ≤ n ∧ n ≤ 2000000000000 := by
  obtain ⟨h1, k⟩ := out_law ho.1 h
  have o2 := ho.2
  cases m with
  | true =>
    have b : n < 1000000000000 := k.fast rfl
    omega
  | false =>
    have b : n - here < 1000000000000 := (k.far rfl).1
    omega
theorem lawE_ends {l : L} {r c : Int} {a b : End} (hr : Org r) (hc : Org c) (h : ends lawEnd l r c = some (a, b)) : LawE a r ∧ LawE b c := by
  have e := lends_eq (l := l) (r := r) (c := c) rfl rfl
  rw [h] at e
  cases hx : rowEnd lawEnd (before 67 l) r with
  | none =>
    rw [hx] at e
    cases e
  | some x =>
    cases hy : colEnd lawEnd l c with
    | none =>
      rw [hx, hy] at e
      cases e
    | some y =>
      rw [hx, hy] at e
      cases e
      constructor
      · intro n en
        unfold rowEnd at hx
        split at hx
        · cases hx
          cases en
        · split at hx
          · obtain ⟨q, hq, rfl⟩ := Option.map_eq_some_iff.mp hx
            cases en
            exact lawE_of hr (n := q.1) (m := q.2) hq
          · cases hx
      · intro n en
        unfold colEnd at hy
        split at hy
        · obtain ⟨q, hq, rfl⟩ := Option.map_eq_some_iff.mp hy
          cases en
          exact lawE_of hc (n := q.1) (m := q.2) hq
        · cases hy
          cases en
theorem getD_bnd {a : End} {here : Int} (h : LawE a here) : 1 ≤ a.1.getD 1 ∧ a.1.getD 1 ≤ 2000000000000 := by
  cases ha : a.1 with
  | none => exact ⟨by decide, by decide⟩
  | some n => exact h n ha
theorem due_sm {a b a2 b2 : End} {r c : Int} (hr : Org r) (hc : Org c) (h1 : LawE a r) (h2 : LawE b c) (h3 : LawE a2 r) (h4 : LawE b2 c) : DueSm (build a b a2 b2) r c :=
  ⟨sm_org (getD_bnd h1) hr, sm_org (getD_bnd h2) hc, fun n e => sm_org (h3 n e) hr, fun n e => sm_org (h4 n e) hc⟩
abbrev sgR (t : L) (o pP D : Addr) (a b a2 b2 : End) : L2.St := [some (sv t), some (.ref o), some (.ref pP), some (.ref D), some (oV a.1), some (.bl a.2), some (oV b.1), some (.bl b.2), some (oV a2.1), some (.bl a2.2), some (oV b2.1), some (.bl b2.2), none, none, none]
theorem oV_non (o : Option Int) : decide (oV o = .non) = decide (o = none) := by
  cases o with
  | none => rfl
  | some n => exact decide_eq_false fun z => by cases z
/-- the results, by what is picked -/
def Give (Q : VK) (H : Hp) (o : Option Due) : Prop := (∀ d, o = some d → ∀ H' p, Same H H' → DueAt H' p d → Q (.ref p) H') ∧ (o = none → ∀ H', Same H H' → Q .non H')
def c5 (n : Nat) (a b : End) : Prop := n = 1 ∧ (a.1 = none ∨ b.1 = none)
def c6 (b a2 b2 : End) : Prop := b.1 = none ∧ (a2.1 = none ∨ b2.1 ≠ none)
def c7 (a a2 b2 : End) : Prop := a.1 = none ∧ (b2.1 = none ∨ a2.1 ≠ none)
instance (n : Nat) (a b : End) : Decidable (c5 n a b) := by unfold c5; infer_instance
instance (b a2 b2 : End) : Decidable (c6 b a2 b2) := by unfold c6; infer_instance
instance (a a2 b2 : End) : Decidable (c7 a a2 b2) := by unfold c7; infer_instance
def pick8 (a b a2 b2 : End) (t : L) (r c : Int) : Option Due := if ltO a2.1 (a.1.getD 1) = true ∨ ltO b2.1 (b.1.getD 1) = true then none else if shownBy (isCell (build a b a2 b2)) (build a b a2 b2) r c = t then some (build a b a2 b2) else none
def pick7 (a b a2 b2 : End) (t : L) (r c : Int) : Option Due := if c7 a a2 b2 then none else pick8 a b a2 b2 t r c
def pick6 (a b a2 b2 : End) (t : L) (r c : Int) : Option Due := if c6 b a2 b2 then none else pick7 a b a2 b2 t r c
theorem pick5 (n : Nat) (a b a2 b2 : End) (t : L) (r c : Int) : lawPick n a b a2 b2 t r c = if c5 n a b then none else pick6 a b a2 b2 t r c := by
  unfold lawPick pick6 pick7 pick8 c5 c6 c7
  rfl
theorem dec_and {p q : Prop} [Decidable p] [Decidable q] (h : p) : decide (p ∧ q) = decide q := by
  by_cases hq : q
  · rw [decide_eq_true hq, decide_eq_true ⟨h, hq⟩]
  · rw [decide_eq_false hq, decide_eq_false fun z => hq z.2]
theorem test3 {σ : L2.St} {H : Hp} {R : Bool → Hp → Prop} {x y z : Option Int} {i j k : Nat} (hi : σ[i]? = some (some (oV x))) (hj : σ[j]? = some (some (oV y))) (hk : σ[k]? = some (some (oV z))) (hR : R (decide (x = none ∧ (y = none ∨ z ≠ none))) H) :
    tAnd (tB (tIsN (tVar i))) (tOr (tB (tIsN (tVar j))) (tB (tNotN (tVar k)))) σ H R := by
  refine ⟨_, hi, _, rfl, ?_⟩
  rw [oV_non]
  cases x with
  | some x => exact iteF hR
  | none =>
    refine iteT ⟨_, hj, _, rfl, ?_⟩
    rw [oV_non]
    cases y with
    | none => exact iteT hR
    | some y =>
      refine iteF ⟨_, hk, _, rfl, ?_⟩
      rw [oV_non]
      cases z with
      | none => exact hR
      | some z => exact hR
theorem test2 {σ : L2.St} {H : Hp} {R : Bool → Hp → Prop} {x y : Option Int} {i j : Nat} (hi : σ[i]? = some (some (oV x))) (hj : σ[j]? = some (some (oV y))) (hR : R (decide (x = none ∨ y = none)) H) :
    tOr (tB (tIsN (tVar i))) (tB (tIsN (tVar j))) σ H R := by
  refine ⟨_, hi, _, rfl, ?_⟩
  rw [oV_non]
  cases x with
  | none => exact iteT hR
  | some x =>
    refine iteF ⟨_, hj, _, rfl, ?_⟩
    rw [oV_non]
    cases y with
    | none => exact hR
    | some y => exact hR
theorem units65 {k : Nat} {A : Around} (r : Room k A) : A.units + 65 < cLine := by
  have := r.un
  omega
/-- tuples are kept -/
def KeepT (H H' : Hp) : Prop := ∀ q xs, H q = some (.tup xs) → H' q = some (.tup xs)
theorem keepT_same {H H' : Hp} (s : Same H H') : KeepT H H' := fun q xs e => s _ _ e
theorem keepT_lst {H : Hp} {D : Addr} {ys zs : List V} (h : H D = some (.lst ys)) : KeepT H (upd H D (.lst zs)) := fun q xs e => by
  rw [upd_ne (ne_of e h (by intro z; cases z))]
  exact e
theorem SomeV.keep {H H' : Hp} {v : V} : ∀ {o : Option (End × End)}, SomeV H v o → KeepT H H' → SomeV H' v o
  | none, h, _ => h
  | some (a, b), ⟨p, pa, pb, h1, h2, h3, h4⟩, s => ⟨p, pa, pb, h1, s _ _ h2, s _ _ h3, s _ _ h4⟩
theorem Somes.keep {H H' : Hp} : ∀ {xs : List V} {os : List (Option (End × End))}, Somes H xs os → KeepT H H' → Somes H' xs os
  | [], [], _, _ => trivial
  | v :: xs, o :: os, ⟨h1, h2⟩, s => ⟨h1.keep s, h2.keep s⟩
theorem lawOf_bad {ps : List L} {t : L} {r c : Int} (h : 2 < ps.length ∨ (∃ p ∈ ps, ends lawEnd p r c = none) ∨ ps.headD [] = []) : lawOf ps t r c = none := by
  unfold lawOf
  rw [if_pos h]
theorem lawOf_pick {ps : List L} {t : L} {r c : Int} {a b a2 b2 : End} (h : ¬ (2 < ps.length ∨ (∃ p ∈ ps, ends lawEnd p r c = none) ∨ ps.headD [] = [])) (h1 : ends lawEnd (ps.headD []) r c = some (a, b)) (h2 : ends lawEnd (ps.getLastD []) r c = some (a2, b2)) :
    lawOf ps t r c = lawPick ps.length a b a2 b2 t r c := by
  unfold lawOf
  rw [if_neg h, h1, h2]
section
variable {P : Program} {w : World} {K : PySem.W.Frag} {mg : Str → Option Value} {base : Heap}
def spLRead : Sp := fun vs H Q _ => ∃ (t : L) (o : Addr) (r c : Int), vs = [sv t, .ref o] ∧ H o = some (.tup [.int r, .int c]) ∧ Org r ∧ Org c ∧ t.length ≤ 90000 ∧ Cp t ∧
  (∀ d, lawRead t r c = some d → ∀ H' p, Same H H' → DueAt H' p d → Q (.ref p) H') ∧ (lawRead t r c = none → ∀ H', Same H H' → Q .non H')
theorem scLRead : FnScope ["_law_wording", "_law_origin", "_law_parts", "_law_some", "_law_top", "_law_up", "_law_left", "_law_side", "_law_bottom", "_law_down", "_law_right", "_law_far_here", "_law_four", "_law_due", "_law_part"] ["_law_wording", "_law_origin"] (defScope sLawRead) := ⟨rfl, rfl, rfl, by decide +kernel, rfl, by decide +kernel, by decide +kernel⟩
abbrev nmR : List Str := ["_law_wording", "_law_origin", "_law_parts", "_law_some", "_law_top", "_law_up", "_law_left", "_law_side", "_law_bottom", "_law_down", "_law_right", "_law_far_here", "_law_four", "_law_due", "_law_part"]
theorem ok_lread (T : Top K mg) : FnOk P w K mg base CX0 4 (ga K "_law_read") (fdO K (ga K "_law_read")) ["_law_wording", "_law_origin"] spLRead := by
  refine T.dLawRead.F.ok scLRead (fun vs H Q E h => ?_) (fun cdv A outer s H vs Q E hr h => ?_)
  · obtain ⟨t, o, r, c, rfl, _⟩ := h
    rfl
  · obtain ⟨t, o, r, c, rfl, ho, hr1, hc1, hl, hcp, q, qn⟩ := h
    -- behind the looks at what is missing: from the four on
    have st8 : ∃ t8 : TS, PSs (cxOf CX0 P w K mg base nmR "_law_read" (defScope sLawRead) (ga K "_law_read") cdv A outer s H E).nox ((defBody sLawRead).drop 8) t8 ∧
        ∀ (H' : Hp) (pP D : Addr) (a b a2 b2 : End), Same H H' → LawE a r → LawE b c → LawE a2 r → LawE b2 c →
          (∀ d, (if ltO a2.1 (a.1.getD 1) = true ∨ ltO b2.1 (b.1.getD 1) = true then none else if shownBy (isCell (build a b a2 b2)) (build a b a2 b2) r c = t then some (build a b a2 b2) else none) = some d → ∀ H' p, Same H H' → DueAt H' p d → Q (.ref p) H') →
          ((if ltO a2.1 (a.1.getD 1) = true ∨ ltO b2.1 (b.1.getD 1) = true then none else if shownBy (isCell (build a b a2 b2)) (build a b a2 b2) r c = t then some (build a b a2 b2) else none) = none → ∀ H', Same H H' → Q .non H') →
          t8 { nx := fun _ H' => Q .non H', rt := Q } (sgR t o pP D a b a2 b2) H' := by
      refine ⟨_, pss_cons (ps_set (i := 12) scLRead.nd rfl (Or.inl rfl) (pe_tup (pa_cons (pe_orT (pv 4) (pe_one pe_int)) (pa_cons (pe_orT (pv 6) (pe_one pe_int)) (pa_cons (pv 8) (pa_cons (pv 10) pa_nil))))))
        (pss_cons (ps_if (pw_or (pw_and (pt_cmp (pc_notN (pv 8)) rfl) (pw_and1 (pt_cmpR op_lt (pv 8) (pe_ix ix_tup (pv 12) pe_int (fun _ _ => rfl)) (nomark _)))).pt (pw_or1 (pw_and (pt_cmp (pc_notN (pv 10)) rfl) (pw_and1 (pt_cmpR op_lt (pv 10) (pe_ix ix_tup (pv 12) pe_int (fun _ _ => rfl)) (nomark _)))).pt)).pt (pss_one (ps_ret pe_non)) pss_nil)
        (pss_cons (ps_set (i := 13) scLRead.nd rfl (Or.inl rfl) (pe_tup (pa_cons (pv 12) (pa_cons (pe_tup (pa_cons (pv 5) (pa_cons (pv 9) pa_nil))) (pa_cons (pe_tup (pa_cons (pv 7) (pa_cons (pv 11) pa_nil))) pa_nil)))))
        (pss_one (ps_ret (pe_ix ix_list (pe_lst (pa_cons pe_non (pa_cons (pv 13) pa_nil))) (pe_callTy call_int1 (by rfl) T.zInt (by decide +kernel) (pa_cons (pe_cmpR op_eqL (pe_call (ok_inN T) hr (by rfl) T.dLawInNumbers.g T.dLawInNumbers.F.kp (bi_inN T) .nil pass0
          (pa_cons (pv 12) (pa_cons (pe_ix ix_tup (pv 13) pe_int (fun _ _ => rfl)) (pa_cons (pe_ix ix_tup (pv 13) pe_int (fun _ _ => rfl)) (pa_cons (pv 1) pa_nil))))) (pv 0) (nomark _)) pa_nil)) (fun _ _ => rfl)))))), ?_⟩
      intro H1 pP D a b a2 b2 s1 ea eb ea2 eb2 q8 q8n
      have orV : ∀ (x : End) (here : Int), LawE x here → ∃ k, TruV K (oV x.1) H1 k ∧ ∀ (R : VK) (tb : TE) (σ : L2.St), (tb = tC (.int 1)) → R (.int (x.1.getD 1)) H1 → if k = true then R (oV x.1) H1 else tb σ H1 R := fun x here hx => by
        cases hx1 : x.1 with
        | none => exact ⟨false, rfl, fun R tb σ e hR => by subst e; exact iteF hR⟩
        | some n =>
          refine ⟨(n != 0), rfl, fun R tb σ e hR => ?_⟩
          have h1 := (hx n hx1).1
          rw [show (n != 0) = true by simp; omega]
          exact iteT hR
      obtain ⟨ka, tra, fa⟩ := orV a r ea
      obtain ⟨kb, trb, fb⟩ := orV b c eb
      refine ⟨_, rfl, ka, tra, fa _ _ _ rfl ⟨_, rfl, kb, trb, fb _ _ _ rfl ⟨_, rfl, _, rfl, tup4, fun f nf => ?_⟩⟩⟩
      have s2 := same_lay (o := fourV (a.1.getD 1) (b.1.getD 1) a2.1 b2.1) s1 nf
      have hf : (upd H1 f (fourV (a.1.getD 1) (b.1.getD 1) a2.1 b2.1)) f = some (fourV (a.1.getD 1) (b.1.getD 1) a2.1 b2.1) := upd_same
      generalize (upd H1 f (fourV (a.1.getD 1) (b.1.getD 1) a2.1 b2.1)) = H2 at s2 hf
      have two : ¬ (ltO a2.1 (a.1.getD 1) = true ∨ ltO b2.1 (b.1.getD 1) = true) → tSeq (tAsg (tTup (tCons (tVar 12) (tCons (tTup (tCons (tVar 5) (tCons (tVar 9) tNil))) (tCons (tTup (tCons (tVar 7) (tCons (tVar 11) tNil))) tNil)))) (gName 13))
          (tRet (tOp (rIxL K) (tLst (tCons (tC .non) (tCons (tVar 13) tNil))) (tCB (fun xs H Q => (∃ i, xs = [.int i] ∧ Q (.int i) H) ∨ ∃ k, xs = [.bl k] ∧ Q (.int (if k then 1 else 0)) H) (tCons (tOp rEqL (tCall (spInN K) [] E0
            (tCons (tVar 12) (tCons (tOp (rIxT K) (tVar 13) (tC (.int 1))) (tCons (tOp (rIxT K) (tVar 13) (tC (.int 2))) (tCons (tVar 1) tNil))))) (tVar 0)) tNil))))
          { nx := fun _ H' => Q .non H', rt := Q } ((sgR t o pP D a b a2 b2).set 12 (some (.ref f))) H2 := fun hlt => by
        rw [if_neg hlt] at q8 q8n
        refine ⟨_, rfl, _, rfl, _, rfl, tup2, fun pr npr => ⟨_, rfl, _, rfl, tup2, fun pc npc => ⟨by show 3 ≤ sizeLine; decide, fun du ndu => ?_⟩⟩⟩
        have s3 := same_lay (o := .tup [.ref f, .ref pr, .ref pc]) (same_lay (o := .tup [.bl b.2, .bl b2.2]) (same_lay (o := .tup [.bl a.2, .bl a2.2]) s2 npr) npc) ndu
        have g0 : (upd (upd (upd H2 pr (.tup [.bl a.2, .bl a2.2])) pc (.tup [.bl b.2, .bl b2.2])) du (.tup [.ref f, .ref pr, .ref pc])) f = some (fourV (a.1.getD 1) (b.1.getD 1) a2.1 b2.1) := same_new ndu _ _ (same_new npc _ _ (same_new npr _ _ hf))
        have g1 : (upd (upd (upd H2 pr (.tup [.bl a.2, .bl a2.2])) pc (.tup [.bl b.2, .bl b2.2])) du (.tup [.ref f, .ref pr, .ref pc])) pr = some (.tup [.bl a.2, .bl a2.2]) := same_new ndu _ _ (same_new npc _ _ upd_same)
        have g2 : (upd (upd (upd H2 pr (.tup [.bl a.2, .bl a2.2])) pc (.tup [.bl b.2, .bl b2.2])) du (.tup [.ref f, .ref pr, .ref pc])) pc = some (.tup [.bl b.2, .bl b2.2]) := same_new ndu _ _ upd_same
        have g3 : (upd (upd (upd H2 pr (.tup [.bl a.2, .bl a2.2])) pc (.tup [.bl b.2, .bl b2.2])) du (.tup [.ref f, .ref pr, .ref pc])) du = some (.tup [.ref f, .ref pr, .ref pc]) := upd_same
        generalize (upd (upd (upd H2 pr (.tup [.bl a.2, .bl a2.2])) pc (.tup [.bl b.2, .bl b2.2])) du (.tup [.ref f, .ref pr, .ref pc])) = H3 at s3 g0 g1 g2 g3
        refine ⟨_, rfl, tup2, fun z nz => ?_⟩
        have s4 := same_lay (o := .lst [.non, .ref du]) s3 nz
        have k4 := same_new (o := .lst [.non, .ref du]) nz
        have hz : (upd H3 z (.lst [.non, .ref du])) z = some (.lst [.non, .ref du]) := upd_same
        refine ⟨_, rfl, _, rfl, du, _, _, _, rfl, rfl, SqT.of (k4 _ _ g3), atI_nat (j := 1) rfl, _, rfl, du, _, _, _, rfl, rfl, SqT.of (k4 _ _ g3), atI_nat (j := 2) rfl, _, rfl,
          f, pr, pc, o, build a b a2 b2, r, c, rfl, SqT.of (k4 _ _ g0), SqT.of (k4 _ _ g1), SqT.of (k4 _ _ g2), SqT.of (s4 _ _ ho), due_sm hr1 hc1 ea eb ea2 eb2, fun H5 s5 => ⟨_, rfl, _, t, rfl, rfl, .inr ⟨_, rfl, ?_⟩⟩⟩
        have s6 := Same.trans s4 s5
        by_cases hs : shownBy (isCell (build a b a2 b2)) (build a b a2 b2) r c = t
        · rw [decide_eq_true hs]
          refine ⟨z, _, 1, _, rfl, rfl, SqL.of (s5 _ _ hz), atI_nat (j := 1) rfl, q8 _ (if_pos hs) _ du s6 ⟨f, pr, pc, s5 _ _ (k4 _ _ g3), s5 _ _ (k4 _ _ g0), s5 _ _ (k4 _ _ g1), s5 _ _ (k4 _ _ g2)⟩⟩
        · rw [decide_eq_false hs]
          exact ⟨z, _, 0, _, rfl, rfl, SqL.of (s5 _ _ hz), atI_nat (j := 0) rfl, q8n (if_neg hs) _ s6⟩
      have right : ¬ ltO a2.1 (a.1.getD 1) = true → ∀ R : Bool → Hp → Prop, (∀ k, k = ltO b2.1 (b.1.getD 1) → R k H2) → tAnd (tB (tNotN (tVar 10))) (tTest (tOp (rI0 fun i j => .bl (decide (i < j))) (tVar 10) (tOp (rIxT K) (tVar 12) (tC (.int 1))))) ((sgR t o pP D a b a2 b2).set 12 (some (.ref f))) H2 R := fun _ R hR => by
        refine ⟨_, rfl, _, rfl, ?_⟩
        cases hb2 : b2.1 with
        | none => exact iteF (hR _ (by rw [hb2]; rfl))
        | some n =>
          refine iteT ⟨_, rfl, _, rfl, f, _, _, _, rfl, rfl, SqT.of hf, f1 .., _, _, congrArg oV hb2, rfl, _, rfl, hR _ ?_⟩
          rw [hb2]
          rfl
      refine ⟨_, rfl, _, rfl, ?_⟩
      have go : ∀ k, k = ltO a2.1 (a.1.getD 1) → (if k = true then (if true = true then Q .non H2 else False) else True) → True := fun _ _ _ => trivial
      cases ha2 : a2.1 with
      | none =>
        have z : ¬ ltO a2.1 (a.1.getD 1) = true := by
          rw [ha2]
          exact Bool.false_ne_true
        refine iteF (right z _ fun k hk => ?_)
        cases k with
        | true => exact iteT (q8n (if_pos (.inr hk.symm)) _ s2)
        | false => exact iteF (two fun y => y.elim z fun y => by rw [← hk] at y; cases y)
      | some n =>
        refine iteT ⟨_, rfl, _, rfl, f, _, _, _, rfl, rfl, SqT.of hf, f0 .., _, _, congrArg oV ha2, rfl, _, rfl, ?_⟩
        have e : ltO a2.1 (a.1.getD 1) = decide (n < a.1.getD 1) := by
          rw [ha2]
          rfl
        by_cases hlt : n < a.1.getD 1
        · rw [decide_eq_true hlt]
          exact iteT (iteT (q8n (if_pos (.inl (by rw [e, decide_eq_true hlt]))) _ s2))
        · rw [decide_eq_false hlt]
          have z : ¬ ltO a2.1 (a.1.getD 1) = true := by
            rw [e, decide_eq_false hlt]
            exact Bool.false_ne_true
          refine iteF (right z _ fun k hk => ?_)
          cases k with
          | true => exact iteT (q8n (if_pos (.inr hk.symm)) _ s2)
          | false => exact iteF (two fun y => y.elim z fun y => by rw [← hk] at y; cases y)
    obtain ⟨t8, ht8, r8⟩ := st8
    have st7 : ∃ t7 : TS, PSs (cxOf CX0 P w K mg base nmR "_law_read" (defScope sLawRead) (ga K "_law_read") cdv A outer s H E).nox ((defBody sLawRead).drop 7) t7 ∧
        ∀ (H' : Hp) (pP D : Addr) (a b a2 b2 : End), Same H H' → LawE a r → LawE b c → LawE a2 r → LawE b2 c → Give Q H (pick7 a b a2 b2 t r c) → t7 { nx := fun _ H' => Q .non H', rt := Q } (sgR t o pP D a b a2 b2) H' := by
      refine ⟨_, pss_cons (ps_if (pw_and (pt_cmp (pc_isN (pv 4)) rfl) (pw_and1 (pw_or (pt_cmp (pc_isN (pv 10)) rfl) (pw_or1 (pt_cmp (pc_notN (pv 8)) rfl))).pt)).pt (pss_one (ps_ret pe_non)) pss_nil) ht8, ?_⟩
      intro H1 pP D a b a2 b2 s1 ea eb ea2 eb2 g
      refine test3 (x := a.1) (y := b2.1) (z := a2.1) rfl rfl rfl ?_
      by_cases h : c7 a a2 b2
      · rw [show decide (a.1 = none ∧ (b2.1 = none ∨ a2.1 ≠ none)) = true from decide_eq_true h]
        exact iteT (g.2 (if_pos h) _ s1)
      · rw [show decide (a.1 = none ∧ (b2.1 = none ∨ a2.1 ≠ none)) = false from decide_eq_false h]
        unfold pick7 at g
        rw [if_neg h] at g
        exact iteF (r8 H1 pP D a b a2 b2 s1 ea eb ea2 eb2 g.1 g.2)
    obtain ⟨t7, ht7, r7⟩ := st7
    have st6 : ∃ t6 : TS, PSs (cxOf CX0 P w K mg base nmR "_law_read" (defScope sLawRead) (ga K "_law_read") cdv A outer s H E).nox ((defBody sLawRead).drop 6) t6 ∧
        ∀ (H' : Hp) (pP D : Addr) (a b a2 b2 : End), Same H H' → LawE a r → LawE b c → LawE a2 r → LawE b2 c → Give Q H (pick6 a b a2 b2 t r c) → t6 { nx := fun _ H' => Q .non H', rt := Q } (sgR t o pP D a b a2 b2) H' := by
      refine ⟨_, pss_cons (ps_if (pw_and (pt_cmp (pc_isN (pv 6)) rfl) (pw_and1 (pw_or (pt_cmp (pc_isN (pv 8)) rfl) (pw_or1 (pt_cmp (pc_notN (pv 10)) rfl))).pt)).pt (pss_one (ps_ret pe_non)) pss_nil) ht7, ?_⟩
      intro H1 pP D a b a2 b2 s1 ea eb ea2 eb2 g
      refine test3 (x := b.1) (y := a2.1) (z := b2.1) rfl rfl rfl ?_
      by_cases h : c6 b a2 b2
      · rw [show decide (b.1 = none ∧ (a2.1 = none ∨ b2.1 ≠ none)) = true from decide_eq_true h]
        exact iteT (g.2 (if_pos h) _ s1)
      · rw [show decide (b.1 = none ∧ (a2.1 = none ∨ b2.1 ≠ none)) = false from decide_eq_false h]
        unfold pick6 at g
        rw [if_neg h] at g
        exact iteF (r7 H1 pP D a b a2 b2 s1 ea eb ea2 eb2 g)
    obtain ⟨t6, ht6, r6⟩ := st6
    have st5 : ∃ t5 : TS, PSs (cxOf CX0 P w K mg base nmR "_law_read" (defScope sLawRead) (ga K "_law_read") cdv A outer s H E).nox ((defBody sLawRead).drop 5) t5 ∧
        ∀ (H' : Hp) (pP D : Addr) (ps : List L) (a b a2 b2 : End), Same H H' → SqL K H' pP (ps.map sv) → LawE a r → LawE b c → LawE a2 r → LawE b2 c → Give Q H (lawPick ps.length a b a2 b2 t r c) → t5 { nx := fun _ H' => Q .non H', rt := Q } (sgR t o pP D a b a2 b2) H' := by
      refine ⟨_, pss_cons (ps_if (pw_and (pt_cmpR op_eq (pe_callB call_len_seq (by rfl) T.zLen (by decide +kernel) (pa_cons (pv 2) pa_nil)) pe_int (nomark _)) (pw_and1 (pw_or (pt_cmp (pc_isN (pv 4)) rfl) (pw_or1 (pt_cmp (pc_isN (pv 6)) rfl))).pt)).pt (pss_one (ps_ret pe_non)) pss_nil) ht6, ?_⟩
      intro H1 pP D ps a b a2 b2 s1 hP ea eb ea2 eb2 g
      rw [pick5] at g
      refine ⟨_, rfl, pP, _, rfl, .inl hP, rfl, _, rfl, ?_⟩
      by_cases h1 : ps.length = 1
      · rw [show decide (V.int ((ps.map sv).length : Nat) = V.int 1) = true from decide_eq_true (by rw [List.length_map, h1]; rfl)]
        refine iteT (test2 (x := a.1) (y := b.1) rfl rfl ?_)
        by_cases h : a.1 = none ∨ b.1 = none
        · rw [decide_eq_true h]
          exact iteT (g.2 (if_pos ⟨h1, h⟩) _ s1)
        · rw [decide_eq_false h]
          rw [if_neg (fun z : c5 ps.length a b => h z.2)] at g
          exact iteF (r6 H1 pP D a b a2 b2 s1 ea eb ea2 eb2 g)
      · rw [show decide (V.int ((ps.map sv).length : Nat) = V.int 1) = false from decide_eq_false fun z => h1 (by
          have := V.int.inj z
          rw [List.length_map] at this
          omega)]
        rw [if_neg (fun z : c5 ps.length a b => h1 z.1)] at g
        exact iteF (iteF (r6 H1 pP D a b a2 b2 s1 ea eb ea2 eb2 g))
    obtain ⟨t5, ht5, r5⟩ := st5
    refine ⟨_, PSs.nox (pss_cons (ps_set (i := 2) scLRead.nd rfl (Or.inl rfl) (pe_bm PySem.F.plainAttrs_str PySem.F.slot_str_split PySem.F.type_str_split mt_splitL (pv 0) (pa_cons (pe_lit [58]) pa_nil)))
      (pss_cons (ps_setLc (i := 3) (own := [("_law_part", 14)]) (g := gName 14) (tt := tYes) rfl scLRead.nd rfl rfl (sw_true rfl rfl rfl (by decide +kernel)) (pi_list (pv 2)) (blkOk_by (N := nmR) (sc := defScope sLawRead) (by decide +kernel))
        (fun _ _ _ _ _ => pg_name (i := 14) scLRead.nd rfl (Or.inl rfl)) (fun _ _ _ _ _ => pts_nil) (fun _ _ _ _ _ => pe_call (ok_lends T) hr (by rfl) T.dLawEnds.g T.dLawEnds.F.kp (bi_lends T) .nil pass0 (pa_cons (pv 14) (pa_cons (pv 1) pa_nil))))
      (pss_cons (ps_if (pw_or (pt_cmpR op_gt (pe_callB call_len_seq (by rfl) T.zLen (by decide +kernel) (pa_cons (pv 2) pa_nil)) pe_int (nomark _)) (pw_or (pt_cmpR (op_inD (units65 hr)) pe_non (pv 3) rfl) (pw_or1 (pt_cmpR op_eqL (pe_ix ix_list (pv 2) pe_int (fun _ _ => rfl)) (pe_lit []) (nomark _))))).pt (pss_one (ps_ret pe_non)) pss_nil)
      (pss_cons (ps_asg (pe_ix ix_list (pv 3) pe_int (fun _ _ => rfl)) (pg_tup rfl (pgs_cons (pg_tup rfl (pgs_cons (pg_name (i := 4) scLRead.nd rfl (Or.inl rfl)) (pgs_cons (pg_name (i := 5) scLRead.nd rfl (Or.inl rfl)) pgs_nil))) (pgs_cons (pg_tup rfl (pgs_cons (pg_name (i := 6) scLRead.nd rfl (Or.inl rfl)) (pgs_cons (pg_name (i := 7) scLRead.nd rfl (Or.inl rfl)) pgs_nil))) pgs_nil))))
      (pss_cons (ps_asg (pe_ix ix_list (pv 3) (pe_un un_neg pe_int) (fun _ _ => rfl)) (pg_tup rfl (pgs_cons (pg_tup rfl (pgs_cons (pg_name (i := 8) scLRead.nd rfl (Or.inl rfl)) (pgs_cons (pg_name (i := 9) scLRead.nd rfl (Or.inl rfl)) pgs_nil))) (pgs_cons (pg_tup rfl (pgs_cons (pg_name (i := 10) scLRead.nd rfl (Or.inl rfl)) (pgs_cons (pg_name (i := 11) scLRead.nd rfl (Or.inl rfl)) pgs_nil))) pgs_nil))))
      ht5))))), ?_⟩
    have hL : lawRead t r c = lawOf (TL.spl [58] 0 [] t) t r c := rfl
    rw [hL] at q qn
    have pn := spl_ne t []
    have pl := spl_len t []
    have pcp : ∀ p ∈ TL.spl [58] 0 [] t, Cp p ∧ p.length ≤ 90000 := fun p hp => ⟨spl_cp hcp hp, by
      have := spl_plen t [] p hp
      rw [List.length_nil] at this
      omega⟩
    refine ⟨_, rfl, rfl, t, rfl, rfl, by omega, fun pP nP => ?_⟩
    have s1 := same_new (o := .lst ((TL.spl [58] 0 [] t).map sv)) nP
    have hP : (upd H pP (.lst ((TL.spl [58] 0 [] t).map sv))) pP = some (.lst ((TL.spl [58] 0 [] t).map sv)) := upd_same
    generalize (upd H pP (.lst ((TL.spl [58] 0 [] t).map sv))) = H1 at s1 hP
    generalize TL.spl [58] 0 [] t = ps at hL q qn pn pl pcp hP
    refine ⟨_, rfl, pP, rfl, ⟨_, SqL.of hP⟩, fun D nD => ?_⟩
    refine lc_list (xs := ps.map sv) (fun i H2 => Same H1 H2 ∧ ∃ xs, H2 D = some (.lst xs) ∧ xs.length = i ∧ Somes H2 xs ((ps.take i).map fun p => ends lawEnd p r c)) ⟨same_new nD, [], upd_same, rfl, trivial⟩ (fun i H2 _ h => SqL.of (h.1 _ _ hP)) (fun i x H2 hx ⟨s2, xs, hD, hxl, hS⟩ => ?_) (fun H2 ⟨s2, xs, hD, hxl, hS⟩ => ?_)
    · have hi : i < ps.length := by
        have := (List.getElem?_eq_some_iff.mp hx).1
        rwa [List.length_map] at this
      have hp : ps[i]? = some ps[i] := List.getElem?_eq_getElem hi
      have ex : x = sv ps[i] := by
        rw [List.getElem?_map, hp] at hx
        exact (Option.some.inj hx).symm
      subst ex
      obtain ⟨k1, k2⟩ := pcp _ (List.getElem_mem hi)
      have fin : ∀ (H4 : Hp) (v : V), Same H2 H4 → SomeV H4 v (ends lawEnd ps[i] r c) → ∃ acc, H4 D = some (.lst acc) ∧ acc.length < sizeLine ∧ (Same H1 (upd H4 D (.lst (acc ++ [v]))) ∧ ∃ xs, (upd H4 D (.lst (acc ++ [v]))) D = some (.lst xs) ∧ xs.length = i + 1 ∧ Somes (upd H4 D (.lst (acc ++ [v]))) xs ((ps.take (i + 1)).map fun p => ends lawEnd p r c)) := fun H4 v s4 hv => by
        have kt := keepT_lst (zs := xs ++ [v]) (s4 _ _ hD)
        refine ⟨xs, s4 _ _ hD, small_lt (by omega), same_upd (Same.trans s2 s4) nD, _, upd_same, by rw [List.length_append, hxl]; rfl, ?_⟩
        rw [take_next hp, List.map_append]
        exact ((hS.same s4).app hv).keep kt
      refine ⟨rfl, _, rfl, _, rfl, ps[i], o, r, c, rfl, s2 _ _ (s1 _ _ ho), by omega, k1, fun a b hab H4 p pa pb s4 g1 g2 g3 => fin H4 (.ref p) s4 ?_, fun hn H4 s4 => fin H4 .non s4 ?_⟩
      · rw [hab]
        exact ⟨p, pa, pb, rfl, g1, g2, g3⟩
      · rw [hn]
        exact rfl
    · rw [List.length_map] at hxl hS
      rw [List.take_length] at hS
      have s3 := Same.trans s1 s2
      have hP2 := s2 _ _ hP
      have bad : (2 < ps.length ∨ (∃ p ∈ ps, ends lawEnd p r c = none) ∨ ps.headD [] = []) → Q .non H2 := fun z => qn (lawOf_bad z) _ s3
      refine ⟨_, rfl, pP, _, rfl, .inl (SqL.of hP2), _, _, rfl, rfl, _, rfl, ?_⟩
      rw [List.length_map]
      by_cases h2 : (2 : Int) < ((ps.length : Nat) : Int)
      · rw [decide_eq_true h2]
        exact iteT (iteT (bad (.inl (by omega))))
      rw [decide_eq_false h2]
      refine iteF ⟨_, rfl, .none, (ps.map fun p => ends lawEnd p r c).map partD, .non, .lst (SqL.of hD) (partsD_at hS), rfl, partsD_shaped _, _, rfl, ?_⟩
      rw [none_in]
      cases hn : (ps.map fun p => ends lawEnd p r c).any fun o => o.isNone with
      | true =>
        refine iteT (iteT (bad (.inr (.inl ?_))))
        obtain ⟨x, hx, hxn⟩ := List.any_eq_true.mp hn
        obtain ⟨p, hp, rfl⟩ := List.mem_map.mp hx
        exact ⟨p, hp, Option.isNone_iff_eq_none.mp hxn⟩
      | false =>
        have hsome : ∀ p ∈ ps, ∃ a b, ends lawEnd p r c = some (a, b) := fun p hp => by
          cases h : ends lawEnd p r c with
          | none =>
            have : ((ps.map fun p => ends lawEnd p r c).any fun o => o.isNone) = true := List.any_eq_true.mpr ⟨_, List.mem_map.mpr ⟨p, hp, rfl⟩, by rw [h]; rfl⟩
            rw [hn] at this
            cases this
          | some q => exact ⟨q.1, q.2, rfl⟩
        obtain ⟨p0, rest, rfl⟩ : ∃ p0 rest, ps = p0 :: rest := by
          cases ps with
          | nil => exact absurd rfl pn
          | cons p0 rest => exact ⟨p0, rest, rfl⟩
        refine iteF ⟨_, rfl, pP, _, _, _, rfl, rfl, SqL.of hP2, atI_nat (j := 0) rfl, p0, [], rfl, rfl, _, rfl, ?_⟩
        by_cases he : p0 = []
        · rw [decide_eq_true he]
          exact iteT (bad (.inr (.inr he)))
        rw [decide_eq_false he]
        refine iteF ?_
        obtain ⟨a, b, hab⟩ := hsome p0 List.mem_cons_self
        obtain ⟨pl1, hpl⟩ : ∃ x, (p0 :: rest).getLast? = some x := ⟨_, List.getLast?_eq_getLast (by simp)⟩
        have hplm : pl1 ∈ p0 :: rest := List.mem_of_getLast? hpl
        obtain ⟨a2, b2, hab2⟩ := hsome pl1 hplm
        have good : ¬ (2 < (p0 :: rest).length ∨ (∃ p ∈ p0 :: rest, ends lawEnd p r c = none) ∨ (p0 :: rest).headD [] = []) := by
          rintro (z | ⟨p, hp, z⟩ | z)
          · exact h2 (by omega)
          · obtain ⟨x, y, e⟩ := hsome p hp
            rw [e] at z
            cases z
          · exact he z
        have hgl : (p0 :: rest).getLastD [] = pl1 := by
          rw [List.getLastD_eq_getLast?, hpl]
          rfl
        have pk := lawOf_pick (t := t) good hab (by rw [hgl]; exact hab2)
        rw [pk] at q qn
        obtain ⟨v0, hv0, hs0⟩ := Somes.head (o := ends lawEnd p0 r c) (os := rest.map fun p => ends lawEnd p r c) hS
        rw [hab] at hs0
        obtain ⟨q0, qa, qb, rfl, g1, g2, g3⟩ := hs0
        refine ⟨_, rfl, D, _, _, _, rfl, rfl, SqL.of hD, hv0, ?_⟩
        refine ⟨q0, _, rfl, SqT.of g1, rfl, _, _, rfl, ⟨qa, _, rfl, SqT.of g2, rfl, _, _, rfl, _, _, rfl, rfl, _, _, rfl, ⟨qb, _, rfl, SqT.of g3, rfl, _, _, rfl, _, _, rfl, rfl, rfl, ?_⟩⟩⟩
        obtain ⟨ys, v9, rfl, hs9⟩ := hS.lastV (o := ends lawEnd pl1 r c) (by rw [List.getLast?_map, hpl]; rfl)
        rw [hab2] at hs9
        obtain ⟨q9, qa9, qb9, rfl, g4, g5, g6⟩ := hs9
        refine ⟨_, rfl, _, rfl, D, _, -1, _, rfl, rfl, SqL.of hD, atI_last ys _, ?_⟩
        refine ⟨q9, _, rfl, SqT.of g4, rfl, _, _, rfl, ⟨qa9, _, rfl, SqT.of g5, rfl, _, _, rfl, _, _, rfl, rfl, _, _, rfl, ⟨qb9, _, rfl, SqT.of g6, rfl, _, _, rfl, _, _, rfl, rfl, rfl, ?_⟩⟩⟩
        obtain ⟨e1, e2⟩ := lawE_ends hr1 hc1 hab
        obtain ⟨e3, e4⟩ := lawE_ends hr1 hc1 hab2
        exact r5 H2 pP D (p0 :: rest) a b a2 b2 s3 (SqL.of hP2) e1 e2 e3 e4 ⟨q, qn⟩
theorem bi_lread (T : Top K mg) : Binds K (fdO K (ga K "_law_read")) ["_law_wording", "_law_origin"] [] := T.dLawRead.F.bindsN fun _ _ _ _ _ _ us hl => match us, hl with | [_, _], _ => rfl
end
end K28

set_option Elab.async false
set_option linter.all false
set_option maxRecDepth 100000
set_option maxHeartbeats 4000000
/-! Texts changed by chance: their lengths, their signs. -/
namespace K28
open PySem PySem.Spec L2
open He (ga ma)
/-! ### lists of texts -/
def szP (ps : List L) : Nat := (ps.map fun p => p.length + 1).sum
theorem szP_cons (p : L) (ps : List L) : szP (p :: ps) = p.length + 1 + szP ps := by
  unfold szP
  rw [List.map_cons, List.sum_cons]
theorem szP_app (a b : List L) : szP (a ++ b) = szP a + szP b := by
  unfold szP
  rw [List.map_append, List.sum_append]
theorem szP_sub {a b : List L} (h : a.Sublist b) : szP a ≤ szP b := by
  induction h with
  | slnil => exact Nat.le_refl _
  | cons x _ ih =>
    rw [szP_cons]
    omega
  | cons_cons x _ ih =>
    rw [szP_cons, szP_cons]
    omega
theorem szP_rev : ∀ a : List L, szP a.reverse = szP a
  | [] => rfl
  | p :: a => by
    rw [List.reverse_cons, szP_app, szP_rev a, szP_cons, szP_cons]
    show szP a + (p.length + 1 + 0) = _
    omega
theorem szP_spl : ∀ (l acc : L), szP (TL.spl [58] 0 acc l) = acc.length + l.length + 1
  | [], acc => by
    rw [TL.spl_nil, szP_cons]
    rfl
  | c :: r, acc => by
    cases h : TL.pre [58] (c :: r) with
    | true =>
      rw [TL.spl_hit h, szP_cons]
      have := szP_spl r []
      rw [List.length_nil] at this
      show acc.length + 1 + szP (TL.spl [58] 0 [] r) = acc.length + (r.length + 1) + 1
      omega
    | false =>
      rw [TL.spl_miss h, szP_spl r, List.length_append]
      show acc.length + 1 + r.length + 1 = acc.length + (r.length + 1) + 1
      omega
theorem joinL_len : ∀ ps : List L, (TL.joinL [58] ps).length ≤ szP ps
  | [] => Nat.zero_le _
  | [p] => by
    rw [szP_cons]
    show p.length ≤ _
    omega
  | p :: q :: r => by
    have := joinL_len (q :: r)
    rw [szP_cons]
    show (p ++ ([58] ++ TL.joinL [58] (q :: r))).length ≤ _
    rw [List.length_append, List.length_append]
    show p.length + (1 + _) ≤ _
    omega
theorem joinL_cp : ∀ ps : List L, (∀ p ∈ ps, Cp p) → Cp (TL.joinL [58] ps)
  | [], _ => fun _ h => by cases h
  | [p], h => h p List.mem_cons_self
  | p :: q :: r, h => by
    have ih := joinL_cp (q :: r) fun x hx => h x (List.mem_cons_of_mem _ hx)
    refine Cp.app (h p List.mem_cons_self) (Cp.app (fun c hc => ?_) ih)
    rw [List.mem_singleton.mp hc]
    decide
def cutP (ps : List L) (lo hi : Option Int) : List L := (ps.drop (HT.sIx ps.length 0 lo)).take (HT.sIx ps.length ps.length hi - HT.sIx ps.length 0 lo)
theorem cutP_sub (ps : List L) (lo hi : Option Int) : (cutP ps lo hi).Sublist ps := (List.take_sublist _ _).trans (List.drop_sublist _ _)
theorem cutV_map (ps : List L) (lo hi : Option Int) : cutV (ps.map sv) lo hi = (cutP ps lo hi).map sv := by
  unfold cutV cutP
  rw [List.length_map, List.map_take, List.map_drop]
theorem cutL_sub (l : L) (lo hi : Option Int) : (cutL l lo hi).Sublist l := (List.take_sublist _ _).trans (List.drop_sublist _ _)
theorem cutL_len (l : L) (lo hi : Option Int) : (cutL l lo hi).length ≤ l.length := (cutL_sub l lo hi).length_le
theorem cutL_cp {l : L} (h : Cp l) (lo hi : Option Int) : Cp (cutL l lo hi) := h.sub fun _ hc => (cutL_sub l lo hi).subset hc
theorem szP_len (ps : List L) : ps.length ≤ szP ps := by
  induction ps with
  | nil => exact Nat.zero_le _
  | cons p ps ih =>
    rw [szP_cons, List.length_cons]
    omega
theorem szP_tsum (ps : List L) : ((ps.map mkS).map (·.length)).sum + (ps.map mkS).length = szP ps := by
  induction ps with
  | nil => rfl
  | cons p ps ih =>
    rw [szP_cons, List.map_cons, List.map_cons, List.sum_cons, List.length_cons, mkS_len]
    omega
/-! ### rules -/
theorem reps_toList (c : Nat) : ∀ (n : Nat) (acc : Array Nat), ((List.replicate n #[c]).foldl (· ++ ·) acc).toList = acc.toList ++ List.replicate n c
  | 0, acc => by simp
  | n + 1, acc => by
    rw [List.replicate_succ, List.foldl_cons, reps_toList c n, List.replicate_succ]
    simp
theorem mul_sv (c n : Nat) (h : 2 ≤ n) : Txt.mul (mkS [c]) (n : Int) = mkS (List.replicate n c) := by
  unfold Txt.mul
  rw [if_neg (by omega), if_neg (by
    rw [mkS_len]
    simp
    omega)]
  refine TL.ext_tl ?_
  show ((List.replicate (n : Int).toNat #[c]).foldl (· ++ ·) #[]).toList = _
  rw [reps_toList]
  simp
section
variable {X : Cx}
def rMulL : R2 := fun x y H Q => ∃ c n : Nat, x = sv [c] ∧ y = .int (n : Int) ∧ 2 ≤ n ∧ n ≤ 10000 ∧ Q (sv (List.replicate n c)) H
theorem op_mulL : OpR X (binaryOp .Mult) rMulL := by
  intro pins s σ H x y v u Q I rx ry h
  obtain ⟨c, n, rfl, rfl, h1, h2, q⟩ := h
  obtain ⟨t, rfl⟩ := rx
  obtain ⟨t', rfl⟩ := ry
  refine PySem.SB.mul ⟨?_, fun _ _ => ?_, fun _ _ => ?_⟩ fun t2 k => ⟨sv (List.replicate n c), H, I.tok k, ⟨t2, by rw [mul_sv c n h1]⟩, q⟩
  · have e1 : ¬ ((n : Int) < -(2 ^ 63 : Int)) := by omega
    have e2 : ¬ ((n : Int) ≥ 2 ^ 63) := by omega
    rw [decide_eq_false e1, decide_eq_false e2] <;> rfl
  · rw [mkS_len]
    have e : (1 : Int) ≤ (2 ^ 63 - 1) / (n : Int) := by
      rw [Int.le_ediv_iff_mul_le (by omega)]
      omega
    show ¬ (((1 : Nat) : Int) > _)
    omega
  · rw [mkS_len]
    unfold Builtin.Str.tooLong
    refine decide_eq_false ?_
    show ¬ (1 * (n : Int).toNat > 2 ^ 24)
    omega
theorem pe_strL {x : Str} {j pos} : PE X (.Constant (.str x) j pos) (tC (sv (TL.tl x))) := pe_lit (TL.tl x) (mkS_tl x).symm
def rJoin (K : PySem.W.Frag) : V → List V → Hp → VK → Prop := fun x xs H Q => ∃ (p : Addr) (ps : List L), x = sv [58] ∧ xs = [.ref p] ∧ SqL K H p (ps.map sv) ∧ szP ps ≤ 1000000 ∧ Q (sv (TL.joinL [58] ps)) H
theorem mt_joinL : MtR X "str.join" (rJoin X.K) := fun pins s σ H x xs v us Q I rx rs ⟨p, ps, e1, e2, hp, hz, q⟩ =>
  mt_join pins s σ H x xs v us Q I rx rs ⟨mkS [58], p, ps.map mkS, e1, e2, .inl (by rw [List.map_map]; exact hp), by
    have := szP_tsum ps
    rw [mkS_len]
    show _ + _ * 1 ≤ _
    omega, by
    have e : Txt.join (mkS [58]) (ps.map mkS) = mkS (TL.joinL [58] ps) := by
      refine TL.ext_tl ?_
      rw [TL.join_eq, TL.tl_join, List.map_map]
      show TL.joinL [58] (ps.map id) = _
      rw [List.map_id]
    rw [e]
    exact q⟩
end
/-! ### the signs of a text in numbers -/
theorem intL_cp (n : Int) : Cp (intL n) := by
  have h : ∀ n, Cp (TL.numL n) := fun n c hc => by
    have := TL.numL_digits n c hc
    omega
  unfold intL
  split
  · intro c hc
    rcases List.mem_cons.mp hc with e | e
    · omega
    · exact h _ c e
  · exact h _
theorem endTail_cp (n : Int) (m : Bool) (h : Int) : Cp (endTail n m h) := by
  unfold endTail
  split
  · exact intL_cp n
  · split
    · exact fun _ z => by cases z
    · intro c hc
      rcases List.mem_cons.mp hc with e | e
      · omega
      · rcases List.mem_append.mp e with e | e
        · exact intL_cp _ c e
        · have := List.mem_singleton.mp e
          omega
theorem farT_cp {s : Nat} (hs : s < 1114112) (e : Option Int) (m : Bool) (h : Int) : Cp (farT s e m h) := by
  cases e with
  | none => exact fun _ z => by cases z
  | some n =>
    intro c hc
    rcases List.mem_cons.mp hc with e | e
    · omega
    · exact endTail_cp n m h c e
theorem shown_cp (one : Bool) (d : Due) (r c : Int) : Cp (shownBy one d r c) := by
  have a0 : Cp (u0 d r) := farT_cp (by decide) _ _ _
  have a1 : Cp (u1 d r) := farT_cp (by decide) _ _ _
  have b0 : Cp (s0 d c) := farT_cp (by decide) _ _ _
  have b1 : Cp (s1 d c) := farT_cp (by decide) _ _ _
  have co : ∀ {x y : L}, Cp x → Cp y → Cp (x ++ 58 :: y) := fun hx hy => Cp.app hx fun z hz => by
    rcases List.mem_cons.mp hz with e | e
    · omega
    · exact hy z e
  unfold shownBy
  split
  · exact co a0 a1
  · split
    · exact co b0 b1
    · split
      · exact Cp.app a0 b0
      · exact co (Cp.app a0 b0) (Cp.app a1 b1)
theorem shown_len {one : Bool} {d : Due} {r c : Int} (h : DueSm d r c) : (shownBy one d r c).length ≤ 500 := by
  have a0 : (u0 d r).length ≤ 100 := farT_len fun n e => by cases e; exact h.t
  have a1 : (u1 d r).length ≤ 100 := farT_len h.b
  have b0 : (s0 d c).length ≤ 100 := farT_len fun n e => by cases e; exact h.l
  have b1 : (s1 d c).length ≤ 100 := farT_len h.r
  unfold shownBy
  split
  · rw [List.length_append, List.length_cons]
    omega
  · split
    · rw [List.length_append, List.length_cons]
      omega
    · split
      · rw [List.length_append]
        omega
      · rw [List.length_append, List.length_append, List.length_cons, List.length_append]
        omega
end K28

set_option Elab.async false
set_option linter.all false
set_option maxRecDepth 100000
set_option maxHeartbeats 4000000
/-! The law's defs: the text drawn, and changed by chance. -/
namespace K28
open PySem PySem.Spec L2
open He (ga ma)
theorem sm_numB {n h : Int} (h1 : NumB n) (ho : Org h) : Sm n ∧ Sm (n - h) := sm_org ⟨h1.1, by have := h1.2; omega⟩ ho
section
variable {P : Program} {w : World} {K : PySem.W.Frag} {mg : Str → Option Value} {base : Heap}
/-! ### _law_drawn -/
def spDrawn : Sp := fun vs H Q _ => ∃ (p o : Addr) (r c : Int), vs = [.ref p, .ref o] ∧ WellAt H p ∧ H o = some (.tup [.int r, .int c]) ∧ Org r ∧ Org c ∧ ∀ (l : L) H', l.length ≤ 500 → Cp l → Drawn p H H' → Q (sv l) H'
theorem scDrawn : FnScope ["_law_well_here", "_law_origin", "_law_four", "_law_rows", "_law_columns"] ["_law_well_here", "_law_origin"] (defScope sLawDrawn) := ⟨rfl, rfl, rfl, by decide +kernel, rfl, by decide +kernel, by decide +kernel⟩
theorem ok_drawn (T : Top K mg) : FnOk P w K mg base CX0 4 (ga K "_law_drawn") (fdO K (ga K "_law_drawn")) ["_law_well_here", "_law_origin"] spDrawn := by
  refine T.dLawDrawn.F.ok scDrawn (fun vs H Q E h => ?_) (fun cdv A outer s H vs Q E hr h => ?_)
  · obtain ⟨p, o, r, c, rfl, _⟩ := h
    rfl
  · obtain ⟨p, o, r, c, rfl, hw, ho, hr1, hc1, q⟩ := h
    refine ⟨_, PSs.nox (pss_cons (ps_set (i := 2) scDrawn.nd rfl (Or.inl rfl) (pe_call (ok_block T) hr (by rfl) T.dLawBlock.g T.dLawBlock.F.kp (bi_block T) .nil pass0 (pa_cons (pv 0) pa_nil)))
      (pss_cons (ps_asg (pe_call (ok_marksL T) (hr.mono (by decide)) (by rfl) T.dLawMarks.g T.dLawMarks.F.kp (bi_marksL T) .nil pass0 (pa_cons (pv 0) (pa_cons (pv 2) pa_nil))) (pg_tup rfl (pgs_cons (pg_name (i := 3) scDrawn.nd rfl (Or.inl rfl)) (pgs_cons (pg_name (i := 4) scDrawn.nd rfl (Or.inl rfl)) pgs_nil))))
      (pss_one (ps_ret (pe_call (ok_inN T) hr (by rfl) T.dLawInNumbers.g T.dLawInNumbers.F.kp (bi_inN T) .nil pass0 (pa_cons (pv 2) (pa_cons (pv 3) (pa_cons (pv 4) (pa_cons (pv 1) pa_nil))))))))), ?_⟩
    refine ⟨_, rfl, p, rfl, hw, fun H1 f t l bo ri d1 hf k => ?_⟩
    refine ⟨_, rfl, _, rfl, p, f, t, l, bo, ri, rfl, d1.2, hf, fun H2 m u d s g d2 ⟨pr, pc, g1, g2, g3⟩ => ?_⟩
    refine ⟨m, _, rfl, SqT.of g1, rfl, _, _, rfl, _, _, rfl, rfl, ?_⟩
    have sm : DueSm (⟨t, l, bo, ri, u, d, s, g⟩ : Due) r c := ⟨sm_numB k.t hr1, sm_numB k.l hc1, fun n e => sm_numB (k.b n e) hr1, fun n e => sm_numB (k.r n e) hc1⟩
    refine ⟨_, rfl, _, rfl, _, rfl, _, rfl, f, pr, pc, o, ⟨t, l, bo, ri, u, d, s, g⟩, r, c, rfl, SqT.of (d2.tup d1.2 hf), SqT.of g2, SqT.of g3, SqT.of (d2.tup d1.2 (d1.tup hw ho)), sm, fun H3 s3 => q _ H3 (shown_len sm) (shown_cp _ _ _ _) ((d1.trans d2).same s3)⟩
theorem bi_drawn (T : Top K mg) : Binds K (fdO K (ga K "_law_drawn")) ["_law_well_here", "_law_origin"] [] := T.dLawDrawn.F.bindsN fun _ _ _ _ _ _ us hl => match us, hl with | [_, _], _ => rfl
/-! ### _law_by_sign -/
def spBySign : Sp := fun vs H Q _ => ∃ (p : Addr) (l : L), vs = [.ref p, sv l] ∧ WellAt H p ∧ l.length ≤ 45000 ∧ Cp l ∧ ∀ (l' : L) H', l'.length ≤ 2 * l.length + 5000 → Cp l' → Drawn p H H' → Q (sv l') H'
theorem scBySign : FnScope ["_law_well_here", "_law_wording", "_law_signs", "_law_some", "_law_fork", "_law_at", "_law_sign"] ["_law_well_here", "_law_wording"] (defScope sLawBySign) := ⟨rfl, rfl, rfl, by decide +kernel, rfl, by decide +kernel, by decide +kernel⟩
theorem keepL {p q : Addr} {H H' : Hp} {o : HO} (d : Drawn p H H') (h : H q = some o) (n : q ≠ p) : H' q = some o := d.1 q o n h
theorem new_ne {p q : Addr} {H : Hp} (w : WellAt H p) (n : H q = none) : q ≠ p := fun z => by
  obtain ⟨_, _, _, hp⟩ := w
  rw [z, hp] at n
  cases n
theorem at2 {x y : V} {r : Int} (h0 : 0 ≤ r) (h1 : r < 2) : ∃ v, atI [x, y] r = some v ∧ (v = x ∨ v = y) := by
  have : r = 0 ∨ r = 1 := by omega
  rcases this with rfl | rfl
  · exact ⟨x, atI_nat (j := 0) rfl, .inl rfl⟩
  · exact ⟨y, atI_nat (j := 1) rfl, .inr rfl⟩
theorem at3 {x y z : V} {r : Int} (h0 : 0 ≤ r) (h1 : r < 3) : ∃ v, atI [x, y, z] r = some v ∧ (v = x ∨ v = y ∨ v = z) := by
  have : r = 0 ∨ r = 1 ∨ r = 2 := by omega
  rcases this with rfl | rfl | rfl
  · exact ⟨x, atI_nat (j := 0) rfl, .inl rfl⟩
  · exact ⟨y, atI_nat (j := 1) rfl, .inr (.inl rfl)⟩
  · exact ⟨z, atI_nat (j := 2) rfl, .inr (.inr rfl)⟩
theorem cp_of {l : L} (h : (l.all fun c => decide (c < 1114112)) = true) : Cp l := fun c hc => of_decide_eq_true (List.all_eq_true.mp h c hc)
theorem atL {l : L} {r : Int} (h0 : 0 ≤ r) (h1 : r < (l.length : Int)) : ∃ c, atI l r = some c ∧ c ∈ l := by
  obtain ⟨n, rfl⟩ : ∃ n : Nat, r = (n : Int) := ⟨r.toNat, by omega⟩
  have hn : n < l.length := by omega
  exact ⟨l[n], atI_nat (List.getElem?_eq_getElem hn), List.getElem_mem hn⟩
theorem ok_bySign (T : Top K mg) : FnOk P w K mg base CX0 2 (ga K "_law_by_sign") (fdO K (ga K "_law_by_sign")) ["_law_well_here", "_law_wording"] spBySign := by
  refine T.dLawBySign.F.ok scBySign (fun vs H Q E h => ?_) (fun cdv A outer s H vs Q E hr h => ?_)
  · obtain ⟨p, l, rfl, _⟩ := h
    rfl
  · obtain ⟨p, l, rfl, hw, hl, hcp, q⟩ := h
    refine ⟨_, PSs.nox (pss_cons (ps_set (i := 2) scBySign.nd rfl (Or.inl rfl) pe_strL)
      (pss_cons (ps_set (i := 3) scBySign.nd rfl (Or.inl rfl) (pe_ix ix_list (pe_lst (pa_cons (pv 2) (pa_cons pe_strL pa_nil))) (pe_call (ok_draw T) hr (by rfl) T.dLawDraw.g T.dLawDraw.F.kp (bi_draw T) .nil pass0 (pa_cons (pv 0) (pa_cons pe_int pa_nil))) (fun _ _ => rfl)))
      (pss_cons (ps_set (i := 4) scBySign.nd rfl (Or.inl rfl) (pe_call (ok_draw T) hr (by rfl) T.dLawDraw.g T.dLawDraw.F.kp (bi_draw T) .nil pass0 (pa_cons (pv 0) (pa_cons pe_int pa_nil))))
      (pss_cons (ps_set (i := 5) scBySign.nd rfl (Or.inl rfl) (pe_call (ok_draw T) hr (by rfl) T.dLawDraw.g T.dLawDraw.F.kp (bi_draw T) .nil pass0 (pa_cons (pv 0) (pa_cons (pe_op op_add (pe_callB call_lenL (by rfl) T.zLen (by decide +kernel) (pa_cons (pv 1) pa_nil)) pe_int) pa_nil))))
      (pss_cons (ps_set (i := 6) scBySign.nd rfl (Or.inl rfl) (pe_ix ix_sv (pv 3) (pe_call (ok_draw T) hr (by rfl) T.dLawDraw.g T.dLawDraw.F.kp (bi_draw T) .nil pass0 (pa_cons (pv 0) (pa_cons (pe_callB call_lenL (by rfl) T.zLen (by decide +kernel) (pa_cons (pv 3) pa_nil)) pa_nil))) (fun _ _ => rfl)))
      (pss_one (ps_ret (pe_op op_cat (pe_op op_cat (pe_slice sl_sv (pv 1) po_none (po_some (pv 5))) (pe_ix ix_list (pe_lst (pa_cons (pv 6) (pa_cons (pv 6) (pa_cons (pe_lit []) pa_nil)))) (pv 4) (fun _ _ => rfl)))
        (pe_slice sl_sv (pv 1) (po_some (pe_op op_add (pv 5) (pe_ix ix_list (pe_lst (pa_cons pe_int (pa_cons pe_int (pa_cons pe_int pa_nil)))) (pv 4) (fun _ _ => rfl)))) po_none))))))))), ?_⟩
    refine ⟨_, rfl, tup2, fun z nz => ?_⟩
    have k1 : ∀ {x : L} (v : V), v = sv x ∨ v = v → True := fun _ _ => trivial
    refine ⟨_, rfl, p, 2, rfl, hw.same (same_new nz), by decide, p60 rfl, fun r1 H1 a1 a2 d1 => ?_⟩
    have nzp := new_ne hw nz
    have hz := keepL d1 upd_same nzp
    have d1' := (Drawn.of hw (same_new nz)).trans d1
    obtain ⟨v, hv, hv2⟩ := at2 a1 a2
    refine ⟨z, _, r1, v, rfl, rfl, SqL.of hz, hv, ?_⟩
    obtain ⟨m, rfl, m1, m2, m3⟩ : ∃ m : L, v = sv m ∧ 1 ≤ m.length ∧ m.length ≤ 1000 ∧ Cp m := by
      rcases hv2 with rfl | rfl
      · exact ⟨_, rfl, by decide +kernel, by decide +kernel, cp_of (by decide +kernel)⟩
      · exact ⟨_, rfl, by decide +kernel, by decide +kernel, cp_of (by decide +kernel)⟩
    clear hv hv2 hz
    refine ⟨_, rfl, p, 3, rfl, d1'.2, by decide, p60 rfl, fun fork H2 b1 b2 d2 => ?_⟩
    have d12 := d1'.trans d2
    refine ⟨_, rfl, _, rfl, l, rfl, by omega, _, _, rfl, rfl, p, _, rfl, d12.2, by omega, by omega, fun at_ H3 c1 c2 d3 => ?_⟩
    have d13 := d12.trans d3
    refine ⟨_, rfl, _, rfl, _, rfl, m, rfl, by omega, p, _, rfl, d13.2, by omega, by omega, fun r4 H4 e1 e2 d4 => ?_⟩
    have d14 := d13.trans d4
    obtain ⟨c, hc, hcm⟩ := atL (l := m) e1 e2
    refine ⟨m, r4, c, rfl, rfl, by omega, hc, ?_⟩
    have hcc := m3 c hcm
    refine ⟨_, rfl, _, rfl, _, rfl, l, rfl, by omega, ?_⟩
    refine ⟨_, rfl, _, rfl, by show 3 ≤ sizeLine; decide, fun y ny => ?_⟩
    have s5 := same_new (o := .lst [sv [c], sv [c], sv []]) ny
    obtain ⟨v, hv, hv2⟩ := at3 (x := sv [c]) (y := sv [c]) (z := sv []) b1 b2
    refine ⟨_, rfl, y, _, fork, v, rfl, rfl, SqL.of upd_same, hv, ?_⟩
    obtain ⟨g, rfl, g1, g2⟩ : ∃ g : L, v = sv g ∧ g.length ≤ 1 ∧ Cp g := by
      rcases hv2 with rfl | rfl | rfl
      · exact ⟨[c], rfl, by simp, fun x hx => by rw [List.mem_singleton.mp hx]; exact hcc⟩
      · exact ⟨[c], rfl, by simp, fun x hx => by rw [List.mem_singleton.mp hx]; exact hcc⟩
      · exact ⟨[], rfl, by simp, fun x hx => by cases hx⟩
    have l1 := cutL_len l none (some at_)
    refine ⟨_, g, rfl, rfl, by omega, ?_⟩
    refine ⟨_, rfl, _, rfl, by show 3 ≤ sizeLine; decide, fun x nx => ?_⟩
    have s6 := same_lay (o := .lst [.int 0, .int 1, .int 1]) s5 nx
    obtain ⟨v, hv, hv2⟩ := at3 (x := V.int 0) (y := V.int 1) (z := V.int 1) b1 b2
    obtain ⟨j, rfl⟩ : ∃ j : Int, v = .int j := by
      rcases hv2 with rfl | rfl | rfl
      · exact ⟨_, rfl⟩
      · exact ⟨_, rfl⟩
      · exact ⟨_, rfl⟩
    refine ⟨_, rfl, x, _, fork, _, rfl, rfl, SqL.of upd_same, hv, _, _, rfl, rfl, _, rfl, l, rfl, by omega, ?_⟩
    have l2 := cutL_len l (some (at_ + j)) none
    refine ⟨_, _, rfl, rfl, by rw [List.length_append]; omega, q _ _ ?_ (Cp.app (Cp.app (cutL_cp hcp _ _) g2) (cutL_cp hcp _ _)) (d14.same s6)⟩
    rw [List.length_append, List.length_append]
    omega
theorem bi_bySign (T : Top K mg) : Binds K (fdO K (ga K "_law_by_sign")) ["_law_well_here", "_law_wording"] [] := T.dLawBySign.F.bindsN fun _ _ _ _ _ _ us hl => match us, hl with | [_, _], _ => rfl
end
end K28

set_option Elab.async false
set_option linter.all false
set_option maxRecDepth 100000
set_option maxHeartbeats 4000000
/-! The law's defs: the text changed by a part. -/
namespace K28
open PySem PySem.Spec L2
open He (ga ma)
theorem at8 {l : List V} (hl : l.length = 8) {r : Int} (h0 : 0 ≤ r) (h1 : r < 8) : ∃ v, atI l r = some v ∧ v ∈ l := by
  obtain ⟨n, rfl⟩ : ∃ n : Nat, r = (n : Int) := ⟨r.toNat, by omega⟩
  have hn : n < l.length := by omega
  exact ⟨l[n], atI_nat (List.getElem?_eq_getElem hn), List.getElem_mem hn⟩
theorem rep_cp {c n : Nat} (h : c < 1114112) : Cp (List.replicate n c) := fun x hx => by
  rw [List.eq_of_mem_replicate hx]
  exact h
theorem cp_cons {c : Nat} {l : L} (h : c < 1114112) (hl : Cp l) : Cp (c :: l) := fun x hx => by
  rcases List.mem_cons.mp hx with e | e
  · omega
  · exact hl x e
theorem cp_nil : Cp [] := fun x hx => by cases hx
section
variable {P : Program} {w : World} {K : PySem.W.Frag} {mg : Str → Option Value} {base : Heap}
def spByPart : Sp := fun vs H Q _ => ∃ (p o : Addr) (l : L) (r c : Int), vs = [.ref p, sv l, .ref o] ∧ WellAt H p ∧ H o = some (.tup [.int r, .int c]) ∧ Org r ∧ Org c ∧ l.length ≤ 45000 ∧ Cp l ∧ ∀ (l' : L) H', l'.length ≤ 2 * l.length + 5000 → Cp l' → Drawn p H H' → Q (sv l') H'
theorem scByPart : FnScope ["_law_well_here", "_law_wording", "_law_origin", "_law_fork", "_law_parts", "_law_at", "_law_other", "_law_some", "_law_far_here"] ["_law_well_here", "_law_wording", "_law_origin"] (defScope sLawByPart) := ⟨rfl, rfl, rfl, by decide +kernel, rfl, by decide +kernel, by decide +kernel⟩
abbrev nmB : List Str := ["_law_well_here", "_law_wording", "_law_origin", "_law_fork", "_law_parts", "_law_at", "_law_other", "_law_some", "_law_far_here"]
/-- the last fork's texts -/
def farTs : List L := [List.replicate 12 57, List.replicate 13 57, [91, 48, 93], [91, 49, 93], [91, 45, 49, 93], [91] ++ List.replicate 13 57 ++ [93], [67, 91] ++ List.replicate 4000 49 ++ [93], [82]]
theorem lit_3 : ("[0]" : Str) = mkS [91, 48, 93] := by decide +kernel
theorem lit_4 : ("[1]" : Str) = mkS [91, 49, 93] := by decide +kernel
theorem lit_5 : ("[-1]" : Str) = mkS [91, 45, 49, 93] := by decide +kernel
theorem lit_6 : ("C[" : Str) = mkS [67, 91] := by decide +kernel
theorem farTs_ok : ∀ x ∈ farTs, x.length ≤ 4003 ∧ Cp x := by
  intro x hx
  unfold farTs at hx
  simp only [List.mem_cons, List.not_mem_nil, or_false] at hx
  rcases hx with rfl | rfl | rfl | rfl | rfl | rfl | rfl | rfl
  · exact ⟨by rw [List.length_replicate]; decide, rep_cp (by decide)⟩
  · exact ⟨by rw [List.length_replicate]; decide, rep_cp (by decide)⟩
  · exact ⟨by decide, cp_of (by decide)⟩
  · exact ⟨by decide, cp_of (by decide)⟩
  · exact ⟨by decide, cp_of (by decide)⟩
  · exact ⟨by rw [List.length_append, List.length_append, List.length_replicate]; decide, Cp.app (Cp.app (cp_of (by decide)) (rep_cp (by decide))) (cp_of (by decide))⟩
  · exact ⟨by rw [List.length_append, List.length_append, List.length_replicate]; decide, Cp.app (Cp.app (cp_of (by decide)) (rep_cp (by decide))) (cp_of (by decide))⟩
  · exact ⟨by decide, cp_of (by decide)⟩
theorem ok_byPart (T : Top K mg) : FnOk P w K mg base CX0 5 (ga K "_law_by_part") (fdO K (ga K "_law_by_part")) ["_law_well_here", "_law_wording", "_law_origin"] spByPart := by
  refine T.dLawByPart.F.ok scByPart (fun vs H Q E h => ?_) (fun cdv A outer s H vs Q E hr h => ?_)
  · obtain ⟨p, o, l, r, c, rfl, _⟩ := h
    rfl
  · obtain ⟨p, o, l, r, c, rfl, hw, ho, hr1, hc1, hl, hcp, q⟩ := h
    refine ⟨_, PSs.nox (pss_cons (ps_set (i := 3) scByPart.nd rfl (Or.inl rfl) (pe_call (ok_draw T) (hr.mono (by decide)) (by rfl) T.dLawDraw.g T.dLawDraw.F.kp (bi_draw T) .nil pass0 (pa_cons (pv 0) (pa_cons pe_int pa_nil))))
      (pss_cons (ps_set (i := 4) scByPart.nd rfl (Or.inl rfl) (pe_bm PySem.F.plainAttrs_str PySem.F.slot_str_split PySem.F.type_str_split mt_splitL (pv 1) (pa_cons (pe_lit [58]) pa_nil)))
      (pss_cons (ps_set (i := 5) scByPart.nd rfl (Or.inl rfl) (pe_call (ok_draw T) (hr.mono (by decide)) (by rfl) T.dLawDraw.g T.dLawDraw.F.kp (bi_draw T) .nil pass0 (pa_cons (pv 0) (pa_cons (pe_callB call_len_seq (by rfl) T.zLen (by decide +kernel) (pa_cons (pv 4) pa_nil)) pa_nil))))
      (pss_cons (ps_set (i := 6) scByPart.nd rfl (Or.inl rfl) (pe_bm PySem.F.plainAttrs_str PySem.F.slot_str_split PySem.F.type_str_split mt_splitL (pe_call (ok_drawn T) hr (by rfl) T.dLawDrawn.g T.dLawDrawn.F.kp (bi_drawn T) .nil pass0 (pa_cons (pv 0) (pa_cons (pv 2) pa_nil))) (pa_cons (pe_lit [58]) pa_nil)))
      (pss_cons (ps_if (pt_cmpR op_eq (pv 3) pe_int (nomark _)) (pss_one (ps_ret (pe_bm PySem.F.plainAttrs_str PySem.F.slot_str_join PySem.F.type_str_join mt_joinL (pe_lit [58]) (pa_cons (pe_revL (pv 4)) pa_nil)))) pss_nil)
      (pss_cons (ps_if (pt_cmpR op_eq (pv 3) pe_int (nomark _)) (pss_one (ps_ret (pe_bm PySem.F.plainAttrs_str PySem.F.slot_str_join PySem.F.type_str_join mt_joinL (pe_lit [58]) (pa_cons (pe_op L2.op_cat (pe_slice sl_list (pv 4) po_none (po_some (pe_op op_add (pv 5) pe_int))) (pe_slice sl_list (pv 4) (po_some (pv 5)) po_none)) pa_nil)))) pss_nil)
      (pss_cons (ps_if (pt_cmpR op_eq (pv 3) pe_int (nomark _)) (pss_one (ps_ret (pe_bm PySem.F.plainAttrs_str PySem.F.slot_str_join PySem.F.type_str_join mt_joinL (pe_lit [58]) (pa_cons (pe_op L2.op_cat (pe_slice sl_list (pv 4) po_none (po_some (pv 5))) (pe_slice sl_list (pv 4) (po_some (pe_op op_add (pv 5) pe_int)) po_none)) pa_nil)))) pss_nil)
      (pss_cons (ps_if (pt_cmpR op_eq (pv 3) pe_int (nomark _)) (pss_one (ps_ret (pe_bm PySem.F.plainAttrs_str PySem.F.slot_str_join PySem.F.type_str_join mt_joinL (pe_lit [58]) (pa_cons (pe_op L2.op_cat (pe_op L2.op_cat (pe_slice sl_list (pv 4) po_none (po_some (pv 5))) (pe_slice sl_list (pv 6) (po_some (pe_un un_neg pe_int)) po_none)) (pe_slice sl_list (pv 4) (po_some (pe_op op_add (pv 5) pe_int)) po_none)) pa_nil)))) pss_nil)
      (pss_cons (ps_set (i := 7) scByPart.nd rfl (Or.inl rfl) (pe_lst (pa_cons (pe_op op_mulL (pe_lit [57]) pe_int) (pa_cons (pe_op op_mulL (pe_lit [57]) pe_int) (pa_cons (pe_lit [91, 48, 93] lit_3) (pa_cons (pe_lit [91, 49, 93] lit_4) (pa_cons (pe_lit [91, 45, 49, 93] lit_5)
          (pa_cons (pe_op op_cat (pe_op op_cat (pe_lit [91]) (pe_op op_mulL (pe_lit [57]) pe_int)) (pe_lit [93])) (pa_cons (pe_op op_cat (pe_op op_cat (pe_lit [67, 91] lit_6) (pe_op op_mulL (pe_lit [49]) pe_int)) (pe_lit [93])) (pa_cons (pe_lit [82]) pa_nil))))))))))
      (pss_cons (ps_set (i := 8) scByPart.nd rfl (Or.inl rfl) (pe_ix ix_list (pv 7) (pe_call (ok_draw T) (hr.mono (by decide)) (by rfl) T.dLawDraw.g T.dLawDraw.F.kp (bi_draw T) .nil pass0 (pa_cons (pv 0) (pa_cons pe_int pa_nil))) (fun _ _ => rfl)))
      (pss_one (ps_ret (pe_bm PySem.F.plainAttrs_str PySem.F.slot_str_join PySem.F.type_str_join mt_joinL (pe_lit [58]) (pa_cons (pe_op L2.op_cat (pe_op L2.op_cat (pe_slice sl_list (pv 4) po_none (po_some (pv 5))) (pe_lst (pa_cons (pe_op op_cat (pe_ix ix_list (pv 4) (pv 5) (fun _ _ => rfl)) (pv 8)) pa_nil))) (pe_slice sl_list (pv 4) (po_some (pe_op op_add (pv 5) pe_int)) po_none)) pa_nil)))))))))))))), ?_⟩
    refine ⟨_, rfl, p, 5, rfl, hw, by decide, p60 rfl, fun fork H1 a1 a2 d1 => ?_⟩
    refine ⟨_, rfl, rfl, l, rfl, rfl, by omega, fun pP nP => ?_⟩
    have nPp := new_ne d1.2 nP
    have pz := szP_spl l []
    have pl := spl_len l []
    have pn := spl_ne l []
    have pcp : ∀ x ∈ TL.spl [58] 0 [] l, Cp x := fun x hx => spl_cp hcp hx
    have d2 := d1.same (same_new (o := .lst ((TL.spl [58] 0 [] l).map sv)) nP)
    have hP : (upd H1 pP (.lst ((TL.spl [58] 0 [] l).map sv))) pP = some (.lst ((TL.spl [58] 0 [] l).map sv)) := upd_same
    generalize (upd H1 pP (.lst ((TL.spl [58] 0 [] l).map sv))) = H2 at d2 hP
    generalize TL.spl [58] 0 [] l = ps at pz pl pn pcp hP
    rw [List.length_nil] at pz
    have p1 : 1 ≤ ps.length := by
      cases ps with
      | nil => exact absurd rfl pn
      | cons x y => simp
    refine ⟨_, rfl, _, rfl, pP, _, rfl, .inl (SqL.of hP), p, _, rfl, d2.2, by rw [List.length_map]; omega, by rw [List.length_map]; omega, fun at_ H3 b1 b2 d3 => ?_⟩
    rw [List.length_map] at b2
    have d23 := d2.trans d3
    have hP3 := keepL d3 hP nPp
    refine ⟨_, rfl, _, rfl, p, o, r, c, rfl, d23.2, d23.tup hw ho, hr1, hc1, fun l2 H4 m1 m2 d4 => ?_⟩
    have d24 := d23.trans d4
    have hP4 := keepL d4 hP3 nPp
    refine ⟨rfl, l2, rfl, rfl, by omega, fun pO nO => ?_⟩
    have nOp := new_ne d24.2 nO
    have oz := szP_spl l2 []
    have ocp : ∀ x ∈ TL.spl [58] 0 [] l2, Cp x := fun x hx => spl_cp m2 hx
    have d25 := d24.same (same_new (o := .lst ((TL.spl [58] 0 [] l2).map sv)) nO)
    have hO : (upd H4 pO (.lst ((TL.spl [58] 0 [] l2).map sv))) pO = some (.lst ((TL.spl [58] 0 [] l2).map sv)) := upd_same
    have hP5 := same_new (o := .lst ((TL.spl [58] 0 [] l2).map sv)) nO _ _ hP4
    generalize (upd H4 pO (.lst ((TL.spl [58] 0 [] l2).map sv))) = H5 at d25 hO hP5
    generalize TL.spl [58] 0 [] l2 = os at oz ocp hO
    rw [List.length_nil] at oz
    -- the end of each fork
    have fin : ∀ (H6 : Hp) (pj : Addr) (js : List L), Drawn p H H6 → H6 pj = some (.lst (js.map sv)) → szP js ≤ 2 * l.length + 5000 → (∀ x ∈ js, Cp x) → rJoin K (sv [58]) [.ref pj] H6 Q := fun H6 pj js d6 hj hz hc =>
      ⟨pj, js, rfl, rfl, SqL.of hj, by omega, q _ _ (Nat.le_trans (joinL_len js) hz) (joinL_cp js hc) d6⟩
    have cutc : ∀ lo hi, ∀ x ∈ cutP ps lo hi, Cp x := fun lo hi x hx => pcp x ((cutP_sub ps lo hi).subset hx)
    have cutz : ∀ lo hi, szP (cutP ps lo hi) ≤ szP ps := fun lo hi => szP_sub (cutP_sub ps lo hi)
    have cutn : ∀ lo hi, ((cutP ps lo hi).map sv).length ≤ ps.length := fun lo hi => by
      rw [List.length_map]
      exact (cutP_sub ps lo hi).length_le
    have appc : ∀ {a b : List L}, (∀ x ∈ a, Cp x) → (∀ x ∈ b, Cp x) → ∀ x ∈ a ++ b, Cp x := fun ha hb x hx => (List.mem_append.mp hx).elim (ha x) (hb x)
    refine ⟨_, rfl, rfl, _, rfl, ?_⟩
    by_cases k0 : fork = 0
    · rw [show decide (V.int fork = V.int 0) = true from decide_eq_true (by rw [k0])]
      refine iteT ⟨rfl, _, rfl, pP, _, rfl, SqL.of hP5, fun z nz => ?_⟩
      rw [← List.map_reverse]
      refine fin _ z ps.reverse (d25.same (same_new nz)) upd_same (by rw [szP_rev]; omega) fun x hx => pcp x (List.mem_reverse.mp hx)
    rw [show decide (V.int fork = V.int 0) = false from decide_eq_false fun z => k0 (V.int.inj z)]
    refine iteF ⟨_, rfl, rfl, _, rfl, ?_⟩
    by_cases k1 : fork = 1
    · rw [show decide (V.int fork = V.int 1) = true from decide_eq_true (by rw [k1])]
      refine iteT ⟨rfl, _, rfl, _, rfl, _, _, rfl, rfl, _, rfl, pP, _, rfl, SqL.of (hP5), fun z nz => ?_⟩
      rw [cutV_map]
      have s6 := same_new (o := .lst ((cutP ps none (some (at_ + 1))).map sv)) nz
      refine ⟨_, rfl, _, rfl, _, rfl, pP, _, rfl, SqL.of ((s6 _ _ hP5)), fun y ny => ?_⟩
      rw [cutV_map]
      have s7 := same_lay (o := .lst ((cutP ps (some at_) none).map sv)) s6 ny
      have e1 := cutn none (some (at_ + 1))
      have e2 := cutn (some at_) none
      have g1 := cutz none (some (at_ + 1))
      have g2 := cutz (some at_) none
      refine ⟨z, y, _, _, rfl, rfl, same_new ny _ _ upd_same, upd_same, small_le (by omega), fun x nx => ?_⟩
      rw [← List.map_append]
      exact fin _ x _ (d25.same (same_lay s7 nx)) upd_same (by rw [szP_app]; omega) (appc (cutc _ _) (cutc _ _))
    rw [show decide (V.int fork = V.int 1) = false from decide_eq_false fun z => k1 (V.int.inj z)]
    refine iteF ⟨_, rfl, rfl, _, rfl, ?_⟩
    by_cases k2 : fork = 2
    · rw [show decide (V.int fork = V.int 2) = true from decide_eq_true (by rw [k2])]
      refine iteT ⟨rfl, _, rfl, _, rfl, _, rfl, pP, _, rfl, SqL.of (hP5), fun z nz => ?_⟩
      rw [cutV_map]
      have s6 := same_new (o := .lst ((cutP ps none (some at_)).map sv)) nz
      refine ⟨_, rfl, _, rfl, _, _, rfl, rfl, _, rfl, pP, _, rfl, SqL.of ((s6 _ _ hP5)), fun y ny => ?_⟩
      rw [cutV_map]
      have s7 := same_lay (o := .lst ((cutP ps (some (at_ + 1)) none).map sv)) s6 ny
      have e1 := cutn none (some at_)
      have e2 := cutn (some (at_ + 1)) none
      have g1 := cutz none (some at_)
      have g2 := cutz (some (at_ + 1)) none
      refine ⟨z, y, _, _, rfl, rfl, same_new ny _ _ upd_same, upd_same, small_le (by omega), fun x nx => ?_⟩
      rw [← List.map_append]
      exact fin _ x _ (d25.same (same_lay s7 nx)) upd_same (by rw [szP_app]; omega) (appc (cutc _ _) (cutc _ _))
    rw [show decide (V.int fork = V.int 2) = false from decide_eq_false fun z => k2 (V.int.inj z)]
    refine iteF ⟨_, rfl, rfl, _, rfl, ?_⟩
    by_cases k3 : fork = 3
    · rw [show decide (V.int fork = V.int 3) = true from decide_eq_true (by rw [k3])]
      refine iteT ⟨rfl, _, rfl, _, rfl, _, rfl, pP, _, rfl, SqL.of (hP5), fun z nz => ?_⟩
      rw [cutV_map]
      have s6 := same_new (o := .lst ((cutP ps none (some at_)).map sv)) nz
      refine ⟨_, rfl, _, rfl, _, rfl, pO, _, rfl, SqL.of (s6 _ _ hO), fun y ny => ?_⟩
      rw [cutV_map]
      have s7 := same_lay (o := .lst ((cutP os (some (-1)) none).map sv)) s6 ny
      have e1 := cutn none (some at_)
      have g1 := cutz none (some at_)
      have g3 := szP_sub (cutP_sub os (some (-1)) none)
      have n3 := szP_len (cutP os (some (-1)) none)
      have lm : ((cutP os (some (-1)) none).map sv).length = (cutP os (some (-1)) none).length := List.length_map _
      refine ⟨z, y, _, _, rfl, rfl, same_new ny _ _ upd_same, upd_same, small_le (by omega), fun x nx => ?_⟩
      rw [← List.map_append]
      have s8 := same_lay (o := .lst ((cutP ps none (some at_) ++ cutP os (some (-1)) none).map sv)) s7 nx
      refine ⟨_, rfl, _, rfl, _, _, rfl, rfl, _, rfl, pP, _, rfl, SqL.of ((s8 _ _ hP5)), fun u nu => ?_⟩
      rw [cutV_map]
      have s9 := same_lay (o := .lst ((cutP ps (some (at_ + 1)) none).map sv)) s8 nu
      have e2 := cutn (some (at_ + 1)) none
      have g2 := cutz (some (at_ + 1)) none
      have lm2 : ((cutP ps none (some at_) ++ cutP os (some (-1)) none).map sv).length = ((cutP ps none (some at_)).map sv).length + (cutP os (some (-1)) none).length := by
        rw [List.length_map, List.length_append, List.length_map]
      refine ⟨x, u, _, _, rfl, rfl, same_new nu _ _ upd_same, upd_same, small_le (by omega), fun v nv => ?_⟩
      rw [← List.map_append]
      exact fin _ v _ (d25.same (same_lay s9 nv)) upd_same (by rw [szP_app, szP_app]; omega) (appc (appc (cutc _ _) fun x hx => ocp x ((cutP_sub os _ _).subset hx)) (cutc _ _))
    rw [show decide (V.int fork = V.int 3) = false from decide_eq_false fun z => k3 (V.int.inj z)]
    refine iteF ⟨57, 12, rfl, rfl, by decide, by decide, 57, 13, rfl, rfl, by decide, by decide, 57, 13, rfl, rfl, by decide, by decide, [91], _, rfl, rfl, by rw [List.length_replicate]; decide, _, [93], rfl, rfl, by rw [List.length_append, List.length_replicate]; decide,
      49, 4000, rfl, rfl, by decide, by decide, [67, 91], _, rfl, rfl, by rw [List.length_replicate]; decide, _, [93], rfl, rfl, by rw [List.length_append, List.length_replicate]; decide, by show 8 ≤ sizeLine; decide, fun z nz => ?_⟩
    have nzp := new_ne d25.2 nz
    have d26 := d25.same (same_new (o := .lst (farTs.map sv)) nz)
    have hP6 := same_new (o := .lst (farTs.map sv)) nz _ _ hP5
    have hz : (upd H5 z (.lst (farTs.map sv))) z = some (.lst (farTs.map sv)) := upd_same
    have go : ∀ H6 : Hp, H6 = upd H5 z (.lst (farTs.map sv)) → True := fun _ _ => trivial
    refine ⟨_, rfl, _, rfl, p, 8, rfl, d26.2, by decide, p60 rfl, fun r8 H7 c1 c2 d7 => ?_⟩
    have hz7 := keepL d7 hz nzp
    have hP7 := keepL d7 hP6 nPp
    have d27 := d26.trans d7
    obtain ⟨v, hv, hvm⟩ := at8 (l := farTs.map sv) rfl c1 c2
    obtain ⟨ft, hft, rfl⟩ := List.mem_map.mp hvm
    obtain ⟨t1, t2⟩ := farTs_ok ft hft
    refine ⟨z, _, r8, _, rfl, rfl, SqL.of hz7, hv, ?_⟩
    refine ⟨rfl, _, rfl, _, rfl, _, rfl, pP, _, rfl, SqL.of (hP7), fun y ny => ?_⟩
    rw [cutV_map]
    have s8 := same_new (o := .lst ((cutP ps none (some at_)).map sv)) ny
    obtain ⟨n, rfl⟩ : ∃ n : Nat, at_ = (n : Int) := ⟨at_.toNat, by omega⟩
    have hn : n < ps.length := by omega
    have hpn : atI (ps.map sv) (n : Int) = some (sv ps[n]) := atI_nat (by rw [List.getElem?_map, List.getElem?_eq_getElem hn]; rfl)
    have hm := List.getElem_mem hn
    have lz : ps[n].length + 1 ≤ szP ps := by
      have := szP_sub (List.singleton_sublist.mpr hm)
      rw [szP_cons] at this
      omega
    refine ⟨_, rfl, _, rfl, pP, _, _, _, rfl, rfl, SqL.of (s8 _ _ hP7), hpn, _, rfl, ps[n], ft, rfl, rfl, by omega, by show 1 ≤ sizeLine; decide, fun x nx => ?_⟩
    have s9 := same_lay (o := .lst [sv (ps[n] ++ ft)]) s8 nx
    have e1 := cutn none (some (n : Int))
    have g1 := cutz none (some (n : Int))
    refine ⟨y, x, _, [sv (ps[n] ++ ft)], rfl, rfl, same_new nx _ _ upd_same, upd_same, small_le (by show _ + 1 ≤ _; omega), fun u nu => ?_⟩
    have em : (cutP ps none (some (n : Int))).map sv ++ [sv (ps[n] ++ ft)] = (cutP ps none (some (n : Int)) ++ [ps[n] ++ ft]).map sv := by
      rw [List.map_append]
      rfl
    rw [em]
    have s10 := same_lay (o := .lst ((cutP ps none (some (n : Int)) ++ [ps[n] ++ ft]).map sv)) s9 nu
    refine ⟨_, rfl, _, rfl, _, _, rfl, rfl, _, rfl, pP, _, rfl, SqL.of ((s10 _ _ hP7)), fun g ng => ?_⟩
    rw [cutV_map]
    have s11 := same_lay (o := .lst ((cutP ps (some ((n : Int) + 1)) none).map sv)) s10 ng
    have e2 := cutn (some ((n : Int) + 1)) none
    have lm2 : ((cutP ps none (some (n : Int)) ++ [ps[n] ++ ft]).map sv).length = ((cutP ps none (some (n : Int))).map sv).length + 1 := by
      rw [List.length_map, List.length_append, List.length_map]
      rfl
    refine ⟨u, g, _, _, rfl, rfl, same_new ng _ _ upd_same, upd_same, small_le (by omega), fun v nv => ?_⟩
    rw [← List.map_append]
    refine fin _ v _ (d27.same (same_lay s11 nv)) upd_same ?_ (appc (appc (cutc _ _) fun x hx => by rw [List.mem_singleton.mp hx]; exact Cp.app (pcp _ hm) t2) (cutc _ _))
    -- the parts ahead, the part, the parts behind: no more than all and the new text
    have c1' : cutP ps none (some (n : Int)) = ps.take n := by
      unfold cutP
      rw [HT.sIx_nat, HT.sIx_none, Nat.min_eq_left (by omega)]
      rfl
    have c2' : cutP ps (some ((n : Int) + 1)) none = ps.drop (n + 1) := by
      unfold cutP
      rw [show ((n : Int) + 1) = ((n + 1 : Nat) : Int) from rfl, HT.sIx_nat, HT.sIx_none, Nat.min_eq_left (by omega), List.take_of_length_le]
      rw [List.length_drop]
      omega
    have all : szP (ps.take n) + (ps[n].length + 1 + szP (ps.drop (n + 1))) = szP ps := by
      rw [← szP_cons, ← szP_app, ← List.drop_eq_getElem_cons hn, List.take_append_drop]
    rw [szP_app, szP_app, c1', c2', szP_cons, List.length_append]
    show _ + (_ + 0) + _ ≤ _
    omega
theorem bi_byPart (T : Top K mg) : Binds K (fdO K (ga K "_law_by_part")) ["_law_well_here", "_law_wording", "_law_origin"] [] := T.dLawByPart.F.bindsN fun _ _ _ _ _ _ us hl => match us, hl with | [_, _, _], _ => rfl
end
end K28

set_option Elab.async false
set_option linter.all false
set_option maxRecDepth 100000
set_option maxHeartbeats 4000000
/-! The law's defs: the error's word, the refusal. -/
namespace K28
open PySem PySem.Spec L2
open He (ga ma)
open PyProof.Rows (boot_isinstance)
theorem isn_at {K : PySem.W.Frag} (h : isnB K isnL = true) (i : Nat) {x : Str} {b : Bool} (e : isnL[i]? = some (x, b)) : PySem.W.kitOne K (.ref (ga K "NoText")) (.ref (ga K x)) = some b := of_decide_eq_true (List.all_eq_true.mp h _ (List.mem_of_getElem? e))
/-- the pins bear the exception at a -/
def Zw (a : Addr) (cls : Value) (d : Option Addr) : List (Addr × Obj) → Prop := fun pl => ∃ oe, (a, oe) ∈ pl ∧ Zc cls d oe ∧ ∃ vs, oe.data = .fields vs
def spWord (K : PySem.W.Frag) (a : Addr) (cls : Value) (d : Option Addr) : Sp := fun vs H Q _ => ∃ dd, vs = [.ref a] ∧ cls = .ref (ga K "NoText") ∧ d = some dd ∧ (∃ fs, H dd = some (.xd fs)) ∧ ∀ H', Same H H' → Q (.str "text") H'
theorem scWord : FnScope ["_law_e", "_law_kinds", "_law_others", "_law_words", "_law_k"] ["_law_e"] (defScope sLawWord) := ⟨rfl, rfl, rfl, by decide +kernel, rfl, by decide +kernel, by decide +kernel⟩
def kindsL : List Bool := [false, false, false, true, false, false, false, false]
def wordsL : List Str := ["cell", "column", "block", "text", "name", "manner", "gone", "number"]
section
variable {P : Program} {w : World} {K : PySem.W.Frag} {mg : Str → Option Value} {base : Heap}
theorem ok_word (T : Top K mg) (a : Addr) (cls : Value) (d : Option Addr) : FnW P w K mg base 1 (ga K "_law_word") (fdO K (ga K "_law_word")) ["_law_e"] (spWord K a cls d) (Zw a cls d) := by
  obtain ⟨oc, od, dV, kV, doc, pm, an, cdv, ct, osl, e1, lk, hcd, _, _⟩ := T.dLawWord.F.ex
  rw [e1] at lk ⊢
  refine fn_ofW lk hcd scWord (fun ⟨oe, h, _⟩ => by cases h) (fun vs H Q E h => ?_) (fun A outer s H vs Q pl hz hot hr h => ?_)
  · obtain ⟨dd, rfl, _⟩ := h
    rfl
  · obtain ⟨dd, rfl, rfl, rfl, hd, q⟩ := h
    obtain ⟨oe, hp, hzc, hf⟩ := hz
    have isi : CallR (cxW P w K mg base ["_law_e", "_law_kinds", "_law_others", "_law_words", "_law_k"] "_law_word" (defScope sLawWord) (ga K "_law_word") cdv A outer s H pl) (.builtin "isinstance") (rIsE2 K (ga K "NoText") a dd) := call_isE2 (X := cxW P w K mg base ["_law_e", "_law_kinds", "_law_others", "_law_words", "_law_k"] "_law_word" (defScope sLawWord) (ga K "_law_word") cdv A outer s H pl) T.ek hp hzc hf
    have isiT : CallR (cxW P w K mg base ["_law_e", "_law_kinds", "_law_others", "_law_words", "_law_k"] "_law_word" (defScope sLawWord) (ga K "_law_word") cdv A outer s H pl) (.builtin "isinstance") (rIsE2T K (ga K "NoText") a dd) := call_isE2T (X := cxW P w K mg base ["_law_e", "_law_kinds", "_law_others", "_law_words", "_law_k"] "_law_word" (defScope sLawWord) (ga K "_law_word") cdv A outer s H pl) T.ek hp hzc hf
    refine ⟨_, pss_cons (ps_set (i := 1) scWord.nd rfl (Or.inr rfl) (pe_lst (pa_cons (pe_callB isi (by rfl) T.zIsinstance boot_isinstance (pa_cons (pv 0) (pa_cons (pe_glob (v := .ref (ga K "NoCell")) (by rfl) T.gNoCell rfl) pa_nil)))
          (pa_cons (pe_callB isi (by rfl) T.zIsinstance boot_isinstance (pa_cons (pv 0) (pa_cons (pe_glob (v := .ref (ga K "NoColumn")) (by rfl) T.gNoColumn rfl) pa_nil)))
          (pa_cons (pe_callB isi (by rfl) T.zIsinstance boot_isinstance (pa_cons (pv 0) (pa_cons (pe_glob (v := .ref (ga K "NoBlock")) (by rfl) T.gNoBlock rfl) pa_nil)))
          (pa_cons (pe_callB isi (by rfl) T.zIsinstance boot_isinstance (pa_cons (pv 0) (pa_cons (pe_glob (v := .ref (ga K "NoText")) (by rfl) T.gNoText rfl) pa_nil))) pa_nil))))))
      (pss_cons (ps_set (i := 1) scWord.nd rfl (Or.inr rfl) (pe_op L2.op_cat (pv 1) (pe_lst (pa_cons (pe_callB isi (by rfl) T.zIsinstance boot_isinstance (pa_cons (pv 0) (pa_cons (pe_glob (v := .ref (ga K "NoName")) (by rfl) T.gNoName rfl) pa_nil)))
          (pa_cons (pe_callB isi (by rfl) T.zIsinstance boot_isinstance (pa_cons (pv 0) (pa_cons (pe_glob (v := .ref (ga K "NoManner")) (by rfl) T.gNoManner rfl) pa_nil)))
          (pa_cons (pe_callB isi (by rfl) T.zIsinstance boot_isinstance (pa_cons (pv 0) (pa_cons (pe_glob (v := .ref (ga K "Gone")) (by rfl) T.gGone rfl) pa_nil)))
          (pa_cons (pe_callB isi (by rfl) T.zIsinstance boot_isinstance (pa_cons (pv 0) (pa_cons (pe_glob (v := .ref (ga K "NoNumber")) (by rfl) T.gNoNumber rfl) pa_nil))) pa_nil)))))))
      (pss_cons (ps_set (i := 2) scWord.nd rfl (Or.inl rfl) (pe_callB isiT (by rfl) T.zIsinstance boot_isinstance (pa_cons (pv 0) (pa_cons (pe_tup (pa_cons (pe_glob (v := .ref (ga K "Endless")) (by rfl) T.gEndless rfl) (pa_cons (pe_glob (v := .ref (ga K "NoArea")) (by rfl) T.gNoArea rfl)
          (pa_cons (pe_glob (v := .ref (ga K "NoChange")) (by rfl) T.gNoChange rfl) (pa_cons (pe_glob (v := .ref (ga K "NoOrder")) (by rfl) T.gNoOrder rfl) (pa_cons (pe_glob (v := .ref (ga K "NoPlace")) (by rfl) T.gNoPlace rfl) (pa_cons (pe_glob (v := .ref (ga K "NoRow")) (by rfl) T.gNoRow rfl) pa_nil))))))) pa_nil))))
      (pss_cons (ps_set (i := 2) scWord.nd rfl (Or.inl rfl) (pe_or (pv 2) (pe_one (pe_callB isiT (by rfl) T.zIsinstance boot_isinstance (pa_cons (pv 0) (pa_cons (pe_tup (pa_cons (pe_glob (v := .ref (ga K "NoSheet")) (by rfl) T.gNoSheet rfl) (pa_cons (pe_glob (v := .ref (ga K "NoValue")) (by rfl) T.gNoValue rfl)
          (pa_cons (pe_glob (v := .ref (ga K "NoWord")) (by rfl) T.gNoWord rfl) (pa_cons (pe_glob (v := .ref (ga K "Ring")) (by rfl) T.gRing rfl) (pa_cons (pe_glob (v := .ref (ga K "Unknown")) (by rfl) T.gUnknown rfl) pa_nil)))))) pa_nil))))))
      (pss_cons (ps_set (i := 3) scWord.nd rfl (Or.inr rfl) (pe_lst (pa_cons pe_str (pa_cons pe_str (pa_cons pe_str (pa_cons pe_str (pa_cons pe_str (pa_cons pe_str (pa_cons pe_str (pa_cons pe_str pa_nil))))))))))
      (pss_cons (ps_if (pw_or (pt_val (pv 2)) (pw_or1 (pt_not (pt_val (pe_callB isi (by rfl) T.zIsinstance boot_isinstance (pa_cons (pv 0) (pa_cons (pe_bltn (v := .ty "ValueError") (by rfl) T.zValueerror (by decide +kernel) rfl) pa_nil))))))).pt pss_never pss_nil)
      (pss_one (ps_ret (pe_bm PySem.F.plainAttrs_str PySem.F.slot_str_join PySem.F.type_str_join mt_join pe_str (pa_cons
        (pe_lcHot (own := [("_law_k", 4)]) (g := gName 4) (tt := tB (tOp (rIxL K) (tVar 1) (tVar 4))) hot scWord.nd (by rfl) T.zRange (pa_cons pe_int pa_nil) (blkOk_by (N := ["_law_e", "_law_kinds", "_law_others", "_law_words", "_law_k"]) (sc := defScope sLawWord) (by decide +kernel))
          (fun _ _ _ _ _ => pg_name (i := 4) scWord.nd rfl (Or.inl rfl)) (fun _ _ _ _ _ => pts_one (pt_val (pe_ix (r := rIxL K) ix_list (pv 1) (pv 4) (fun _ _ => rfl)))) (fun _ _ _ _ _ => pe_ix (r := rIxL K) ix_list (pv 3) (pv 4) (fun _ _ => rfl))) pa_nil))))))))), ?_⟩
    obtain ⟨fs, hfs⟩ := hd
    have I := fun (i : Nat) {x : Str} {b : Bool} (e : isnL[i]? = some (x, b)) => isn_at T.isn i e
    have nf : ∀ {t : Prop}, false = true → t := fun z => by cases z
    refine ⟨_, rfl, ⟨fs, hfs⟩, _, _, _, rfl, .own _, I 1 rfl, _, rfl, ⟨fs, hfs⟩, _, _, _, rfl, .own _, I 2 rfl, _, rfl, ⟨fs, hfs⟩, _, _, _, rfl, .own _, I 3 rfl, _, rfl, ⟨fs, hfs⟩, _, _, _, rfl, .own _, I 0 rfl, tup4, fun l nl => ?_⟩
    have s1 := same_new (o := .lst [.bl false, .bl false, .bl false, .bl true]) nl
    have h1 : (upd H l (.lst [.bl false, .bl false, .bl false, .bl true])) l = some (.lst [.bl false, .bl false, .bl false, .bl true]) := upd_same
    generalize (upd H l (.lst [.bl false, .bl false, .bl false, .bl true])) = H1 at s1 h1
    have f1 := s1 _ _ hfs
    refine ⟨_, rfl, _, rfl, ⟨fs, f1⟩, _, _, _, rfl, .own _, I 4 rfl, _, rfl, ⟨fs, f1⟩, _, _, _, rfl, .own _, I 5 rfl, _, rfl, ⟨fs, f1⟩, _, _, _, rfl, .own _, I 6 rfl, _, rfl, ⟨fs, f1⟩, _, _, _, rfl, .own _, I 7 rfl, tup4, fun l2 nl2 => ?_⟩
    have k2 := same_new (o := .lst [.bl false, .bl false, .bl false, .bl false]) nl2
    refine ⟨l, l2, _, _, rfl, rfl, k2 _ _ h1, upd_same, by show 8 ≤ sizeLine; decide, fun l3 nl3 => ?_⟩
    have s3 := same_lay (o := .lst ([.bl false, .bl false, .bl false, .bl true] ++ [.bl false, .bl false, .bl false, .bl false])) (Same.trans s1 k2) nl3
    have h3 : (upd (upd H1 l2 (.lst [.bl false, .bl false, .bl false, .bl false])) l3 (.lst ([.bl false, .bl false, .bl false, .bl true] ++ [.bl false, .bl false, .bl false, .bl false]))) l3 = some (.lst (kindsL.map V.bl)) := upd_same
    generalize (upd (upd H1 l2 (.lst [.bl false, .bl false, .bl false, .bl false])) l3 (.lst ([.bl false, .bl false, .bl false, .bl true] ++ [.bl false, .bl false, .bl false, .bl false]))) = H3 at s3 h3
    refine ⟨_, rfl, by show 6 ≤ sizeLine; decide, fun t1 nt1 => ?_⟩
    have k4 := same_new (o := .tup [.ref (ga K "Endless"), .ref (ga K "NoArea"), .ref (ga K "NoChange"), .ref (ga K "NoOrder"), .ref (ga K "NoPlace"), .ref (ga K "NoRow")]) nt1
    have s4 := Same.trans s3 k4
    refine ⟨⟨fs, s4 _ _ hfs⟩, t1, _, _, false, rfl, upd_same, .cons (.own _) (.cons (.own _) (.cons (.own _) (.cons (.own _) (.cons (.own _) (.cons (.own _) .nil))))),
      kitAny_cons (I 8 rfl) (fun _ => kitAny_cons (I 9 rfl) (fun _ => kitAny_cons (I 10 rfl) (fun _ => kitAny_cons (I 11 rfl) (fun _ => kitAny_cons (I 12 rfl) (fun _ => kitAny_cons (I 13 rfl) (fun _ => kitAny_nil) nf) nf) nf) nf) nf) nf, ?_⟩
    have h4 := k4 _ _ h3
    generalize (upd H3 t1 (.tup [.ref (ga K "Endless"), .ref (ga K "NoArea"), .ref (ga K "NoChange"), .ref (ga K "NoOrder"), .ref (ga K "NoPlace"), .ref (ga K "NoRow")])) = H4 at s4 h4
    refine ⟨_, rfl, false, rfl, iteF ⟨_, rfl, by show 5 ≤ sizeLine; decide, fun t2 nt2 => ?_⟩⟩
    have k5 := same_new (o := .tup [.ref (ga K "NoSheet"), .ref (ga K "NoValue"), .ref (ga K "NoWord"), .ref (ga K "Ring"), .ref (ga K "Unknown")]) nt2
    have s5 := Same.trans s4 k5
    refine ⟨⟨fs, s5 _ _ hfs⟩, t2, _, _, false, rfl, upd_same, .cons (.own _) (.cons (.own _) (.cons (.own _) (.cons (.own _) (.cons (.own _) .nil)))),
      kitAny_cons (I 14 rfl) (fun _ => kitAny_cons (I 15 rfl) (fun _ => kitAny_cons (I 16 rfl) (fun _ => kitAny_cons (I 17 rfl) (fun _ => kitAny_cons (I 18 rfl) (fun _ => kitAny_nil) nf) nf) nf) nf) nf, ?_⟩
    have h5 := k5 _ _ h4
    generalize (upd H4 t2 (.tup [.ref (ga K "NoSheet"), .ref (ga K "NoValue"), .ref (ga K "NoWord"), .ref (ga K "Ring"), .ref (ga K "Unknown")])) = H5 at s5 h5
    refine ⟨by show 8 ≤ sizeLine; decide, fun wl nwl => ?_⟩
    have s6 := same_lay (o := .lst (wordsL.map V.str)) s5 nwl
    have h6 := same_new (o := .lst (wordsL.map V.str)) nwl _ _ h5
    have g6 : (upd H5 wl (.lst (wordsL.map V.str))) wl = some (.lst (wordsL.map V.str)) := upd_same
    have go : ∀ H6 : Hp, Same H H6 → H6 l3 = some (.lst (kindsL.map V.bl)) → H6 wl = some (.lst (wordsL.map V.str)) → ∀ (R : VK), (∀ H', Same H H' → R (.str "text") H') → tBM K "str" (fun x xs H Q => ∃ a p, ∃ ys : List Str, x = .str a ∧ xs = [.ref p] ∧ (SqL K H p (ys.map V.str) ∨ SqT K H p (ys.map V.str)) ∧
        (ys.map (·.length)).sum + ys.length * a.length ≤ 16777216 ∧ Q (.str (Txt.join a ys)) H) (tC (.str " ")) (tCons (tLc (iRng1 (tCons (tC (.int 8)) tNil)) (gName 4) (tB (tOp (rIxL K) (tVar 1) (tVar 4))) (tOp (rIxL K) (tVar 3) (tVar 4)) [4]) tNil)
        [some (.ref a), some (.ref l3), some (.bl false), some (.ref wl), none] H6 R := fun H6 sH hk hw R hR => by
      refine ⟨rfl, 8, rfl, by decide, by decide, fun D nD => ?_⟩
      refine lc_range (lo := 0) (n := 8) (fun i H7 => Same H6 H7 ∧ H7 D = some (.lst (if 3 < i then [.str "text"] else []))) ⟨same_new nD, upd_same⟩ (fun i H7 hi ⟨s7, hD⟩ => ?_) (fun H7 ⟨s7, hD⟩ => ?_)
      · have hkat : atI (kindsL.map V.bl) (0 + (i : Int)) = some (.bl (decide (i = 3))) := by
          rw [Int.zero_add]
          have : i = 0 ∨ i = 1 ∨ i = 2 ∨ i = 3 ∨ i = 4 ∨ i = 5 ∨ i = 6 ∨ i = 7 := by omega
          rcases this with rfl | rfl | rfl | rfl | rfl | rfl | rfl | rfl <;> exact atI_nat rfl
        refine ⟨rfl, _, rfl, _, rfl, l3, _, _, _, rfl, rfl, SqL.of (s7 _ _ hk), hkat, _, rfl, ?_⟩
        by_cases h3 : i = 3
        · subst h3
          refine iteT ⟨_, rfl, _, rfl, wl, _, 3, _, rfl, rfl, SqL.of (s7 _ _ hw), atI_nat (j := 3) rfl, [], hD, by decide, same_upd s7 nD, upd_same⟩
        · rw [decide_eq_false h3]
          refine iteF ⟨s7, ?_⟩
          rw [hD]
          by_cases h4 : 3 < i
          · rw [if_pos h4, if_pos (by omega)]
          · rw [if_neg h4, if_neg (by omega)]
      · refine ⟨_, D, ["text"], rfl, rfl, .inl (SqL.of hD), by decide, ?_⟩
        have e : Txt.join (" " : Str) ["text"] = ("text" : Str) := by
          rw [TL.join_eq]
          rfl
        rw [e]
        exact hR _ (Same.trans sH s7)
    refine ⟨_, rfl, false, rfl, iteF ⟨_, rfl, ⟨fs, s6 _ _ hfs⟩, .ty "ValueError", _, true, rfl, .ty "ValueError", T.isVE, true, rfl, iteF ?_⟩⟩
    exact go _ s6 h6 g6 Q q
theorem bi_word (T : Top K mg) : Binds K (fdO K (ga K "_law_word")) ["_law_e"] [] := T.dLawWord.F.bindsN fun _ _ _ _ _ _ us hl => match us, hl with | [_], _ => rfl
end
end K28

set_option Elab.async false
set_option linter.all false
set_option maxRecDepth 100000
set_option maxHeartbeats 4000000
/-! The law's defs: the refusal. -/
namespace K28
open PySem PySem.Spec L2
open He (ga ma)
section
variable {P : Program} {w : World} {K : PySem.W.Frag} {mg : Str → Option Value} {base : Heap}
def spRefused (K : PySem.W.Frag) : Sp := fun vs H Q _ => ∃ (v : V) (o : Addr) (r c : Int), vs = [v, .ref o] ∧ H o = some (.tup [.int r, .int c]) ∧ Org r ∧ Org c ∧
  ((∃ t : L, v = sv t ∧ t.length ≤ 100000 ∧ progRead t r c = none) ∨ (∃ ty : Value, (∀ H', Same H H' → TyX K H' v ty) ∧ PySem.W.kitOne K ty (.type "str") = some false)) ∧ ∀ H', Same H H' → Q (.bl true) H'
theorem scRefused : FnScope ["_law_wording", "_law_origin", "_law_found", "_law_e"] ["_law_wording", "_law_origin"] (defScope sLawRefused) := ⟨rfl, rfl, rfl, by decide +kernel, rfl, by decide +kernel, by decide +kernel⟩
theorem ok_refused (T : Top K mg) : FnOk P w K mg base CX0 8 (ga K "_law_refused") (fdO K (ga K "_law_refused")) ["_law_wording", "_law_origin"] (spRefused K) := by
  refine T.dLawRefused.F.ok scRefused (fun vs H Q E h => ?_) (fun cdv A outer s H vs Q E hr h => ?_)
  · obtain ⟨v, o, r, c, rfl, _⟩ := h
    rfl
  · obtain ⟨v, o, r, c, rfl, ho, hr1, hc1, hv, q⟩ := h
    refine ⟨_, PSs.nox (pss_cons (ps_set (i := 2) scRefused.nd rfl (Or.inl rfl) (pe_tup (pa_cons pe_str (pa_cons pe_int pa_nil))))
      (pss_cons (ps_try_as1 (i := 3) rfl rfl scRefused.nd rfl rfl ⟨by rfl, T.gNoText⟩
          (fun W pn xe tkb _ => pss_one (ps_expr (pe_callS (ok_readName T) hr (by rfl) T.dReadName.g T.dReadName.F.kp (bi_readName T) (fun σ => passAt tkb σ) (pa_cons (pv 0) (pa_cons pe_str (pa_cons (pv 1) pa_nil))))))
          (fun a oe cls d pn hz hf hot => pss_one (ps_set (i := 2) scRefused.nd rfl (Or.inl rfl) (pe_tup (pa_cons (pe_callW (ok_word T a cls d) (L2H.roomH_mark (hr.mono (by decide)) _) hot ⟨oe, List.mem_cons_self, hz, hf⟩ (by rfl) T.dLawWord.g T.dLawWord.F.kp (bi_word T) (pa_cons (pv 3) pa_nil))
            (pa_cons (pe_xf T.xf T.noLine hz hf (pv 3)) pa_nil))))))
      (pss_one (ps_ret (pe_cmpR (op_eqD hr.units) (pv 2) (pe_tup (pa_cons pe_str (pa_cons pe_int pa_nil))) (nomark _)))))), ?_⟩
    refine ⟨tup2, fun p np => ?_⟩
    have s1 := same_new (o := .tup [.str "told", .int 0]) np
    generalize (upd H p (.tup [.str "told", .int 0])) = H1 at s1
    -- what follows the error
    have after : ∀ H2, Same H1 H2 → ∀ d, H2 d = none → wAs1 K (.ref (ga K "NoText")) 3 (fun a cls d => tAsg (tTup (tCons (tCall (spWord K a cls d) [] E0 (tCons (tVar 3) tNil)) (tCons (tXf a cls d (ga K "NoText") "line" (tVar 3)) tNil))) (gName 2))
        { nx := fun σ H' => tRet (tOp (rEqD K) (tVar 2) (tTup (tCons (tC (.str "text")) (tCons (tC (.int 0)) tNil)))) { nx := fun _ H' => Q .non H', rt := Q } σ H', rt := Q } (.ref (ga K "NoText")) (some d) [some v, some (.ref o), some (.ref p), none] (upd H2 d (.xd [(("line" : Str), V.int 0)])) := fun H2 s2 d hd => by
      refine ⟨T.exmT, fun a ha => ?_⟩
      have s3 := same_lay (o := .xd [(("line" : Str), V.int 0)]) (Same.trans s1 s2) hd
      have h3 : (upd H2 d (.xd [(("line" : Str), V.int 0)])) d = some (.xd [(("line" : Str), V.int 0)]) := upd_same
      refine ⟨_, rfl, d, rfl, rfl, rfl, ⟨_, h3⟩, fun H4 s4 => ⟨_, rfl, rfl, rfl, d, _, .int 0, rfl, s4 _ _ h3, rfl, tup2, fun x nx => ?_⟩⟩
      have s5 := same_lay (o := .tup [.str "text", .int 0]) (Same.trans s3 s4) nx
      refine ⟨_, rfl, tup2, fun y ny => ?_⟩
      have s6 := same_lay (o := .tup [.str "text", .int 0]) s5 ny
      refine ⟨.tuple [.str "text", .int 0], .tuple [.str "text", .int 0], .tup (SqT.of (same_new ny _ _ upd_same)) (.cons (.str _) (.cons (.int 0) .nil)), .tup (SqT.of upd_same) (.cons (.str _) (.cons (.int 0) .nil)), by decide +kernel, by decide +kernel, ?_⟩
      have e : PyData.eqv (.tuple [.str "text", .int 0]) (.tuple [.str "text", .int 0]) = true := by decide +kernel
      rw [e]
      exact q _ s6
    refine ⟨_, rfl, _, rfl, v, o, r, c, rfl, s1 _ _ ho, hr1, hc1, ?_⟩
    rcases hv with ⟨t, rfl, hl, hn⟩ | ⟨ty, ht, hk⟩
    · exact .inl ⟨t, rfl, hl, fun d hd => (by rw [hn] at hd; cases hd), fun _ H2 d s2 hd => after H2 s2 d hd⟩
    · exact .inr ⟨ty, ht _ s1, hk, fun H2 d s2 hd => after H2 s2 d hd, fun H2 s2 => ht _ (Same.trans s1 s2)⟩
theorem bi_refused (T : Top K mg) : Binds K (fdO K (ga K "_law_refused")) ["_law_wording", "_law_origin"] [] := T.dLawRefused.F.bindsN fun _ _ _ _ _ _ us hl => match us, hl with | [_, _], _ => rfl
end
end K28

set_option Elab.async false
set_option linter.all false
set_option maxRecDepth 100000
set_option maxHeartbeats 4000000
/-! The law's def: the things that are no texts; the readings of one wording. -/
namespace K28
open PySem PySem.Spec L2
open He (ga ma)
def forB : Stmt → List Stmt
  | .For _ _ b _ _ => b
  | _ => []
abbrev lawB : List Stmt := forB ((defBody sLaw).getD 0 (.Pass ⟨0, 0, 0, 0⟩))
abbrev nmL : List Str := ["_law_script", "_law_cell", "_law_well_here", "_law_many", "_law_shift", "_law_origin", "_law_wording", "_law_k", "_law_due", "_law_name", "_law_block_here", "_law_found", "_law_thing"]
theorem scLaw : FnScope nmL ["_law_script"] (defScope sLaw) := ⟨rfl, rfl, rfl, by decide +kernel, rfl, by decide +kernel, by decide +kernel⟩
section
variable {P : Program} {w : World} {K : PySem.W.Frag} {mg : Str → Option Value} {base : Heap}
abbrev xL (P : Program) (w : World) (K : PySem.W.Frag) (mg : Str → Option Value) (base : Heap) (cdv : Value) (A : Around) (outer : List Env) (s : Shared) (H : Hp) (E : XK) : Cx := (cxOf CX0 P w K mg base nmL "law" (defScope sLaw) (ga K "law") cdv A outer s H E).nox
theorem kbn_readName (T : Top K mg) : ∃ its : List Value, KBn K (fdO K (ga K "read_name")) ["text", "manner", "base"] 1 ["base", "manner"] (fun us ws => us ++ ws.drop 1 ++ ws.take 1) (fun vs zs => vs ++ zs.drop 1 ++ zs.take 1) :=
  T.dReadName.F.kbindsD (ps := ["text", "manner", "base"]) 1 ["base", "manner"] (fun us _ ws => us ++ ws.drop 1 ++ ws.take 1) (by simp) (fun r1 _ r3 => (r1.append (r3.drop 1)).append (r3.take 1))
    fun T kV doc pm an cdv ct us its ws hu hi hw => match us, its, ws, hu, hi, hw with | [_], [_, _], [_, _], _, _, _ => ⟨_, rfl, rfl⟩
/-- what is no text -/
def NoTxt (K : PySem.W.Frag) (H : Hp) (v : V) : Prop := ∃ ty : Value, (∀ H', Same H H' → TyX K H' v ty) ∧ PySem.W.kitOne K ty (.type "str") = some false
theorem lawThings (T : Top K mg) (cdv : Value) (A : Around) (outer : List Env) (s : Shared) (H : Hp) (E : XK) (hr : Room 8 (A.deeper (PyProof.Rows.envOfC "law" (defScope sLaw) s.heap.objs.size (ga K "law") cdv))) :
    ∃ t9 : TS, PSs (xL P w K mg base cdv A outer s H E) (lawB.drop 9) t9 ∧ ∀ (D : Ends) (x0 x1 x2 x3 x4 x7 x8 x9 x10 x11 x12 : Option V) (o : Addr) (r c : Int) (l : L) (H1 : Hp), H1 o = some (.tup [.int r, .int c]) → Org r → Org c →
      (∀ x12 H', Same H1 H' → D.nx [x0, x1, x2, x3, x4, some (.ref o), some (sv l), x7, x8, x9, x10, x11, x12] H') →
      t9 D [x0, x1, x2, x3, x4, some (.ref o), some (sv l), x7, x8, x9, x10, x11, x12] H1 := by
  obtain ⟨ds0, nd0, nb0⟩ := bi_bi0 T
  obtain ⟨ds1, nd1, nb1⟩ := bi_ni1 T
  refine ⟨_, pss_one (ps_for PassesOwn.never rfl (pi_list (pe_lst (pa_cons pe_non (pa_cons pe_int (pa_cons pe_bl (pa_cons (pe_lst (pa_cons (pv 6) pa_nil)) (pa_cons (pe_tup (pa_cons (pv 6) pa_nil)) (pa_cons pe_dnewK
      (pa_cons (pe_make T.mkName (ok_ni T) (hr.mono (by decide)) (by rfl) T.gName nb1 nd1 passN0 (pa_cons (pe_make0 T.mkBlock (ok_bi T) (hr.mono (by decide)) (by rfl) T.gBlock nb0 nd0 passN0) pa_nil)) pa_nil)))))))))
      (pg_name (i := 12) scLaw.nd rfl (Or.inl rfl)) (pss_one (ps_if (pt_not (pt_val (pe_call (ok_refused T) hr (by rfl) T.dLawRefused.g T.dLawRefused.F.kp (bi_refused T) .nil pass0 (pa_cons (pv 12) (pa_cons (pv 5) pa_nil))))) (pss_one (ps_ret pe_bl)) pss_nil))), ?_⟩
  intro D x0 x1 x2 x3 x4 x7 x8 x9 x10 x11 x12 o r c l H1 ho hr1 hc1 q
  refine ⟨_, rfl, by show 1 ≤ sizeLine; decide, fun a1 n1 => ⟨_, rfl, by show 1 ≤ sizeLine; decide, fun a2 n2 => fun a3 n3 => ?_⟩⟩
  have s3 := same_lay (o := .dK []) (same_lay (o := .tup [sv l]) (same_new (o := .lst [sv l]) n1) n2) n3
  have g1 : (upd (upd (upd H1 a1 (.lst [sv l])) a2 (.tup [sv l])) a3 (.dK [])) a1 = some (.lst [sv l]) := same_new n3 _ _ (same_new n2 _ _ upd_same)
  have g2 : (upd (upd (upd H1 a1 (.lst [sv l])) a2 (.tup [sv l])) a3 (.dK [])) a2 = some (.tup [sv l]) := same_new n3 _ _ upd_same
  have g3 : (upd (upd (upd H1 a1 (.lst [sv l])) a2 (.tup [sv l])) a3 (.dK [])) a3 = some (.dK []) := upd_same
  generalize (upd (upd (upd H1 a1 (.lst [sv l])) a2 (.tup [sv l])) a3 (.dK [])) = H3 at s3 g1 g2 g3
  intro b dx nb ndx ne
  have m1 : (upd H3 dx (.own b)) b = none := by rw [upd_ne (Ne.symm ne)]; exact nb
  have s4 := same_lay (o := .ins (ga K "Block") dx []) (same_new (o := .own b) ndx) m1
  refine ⟨b, dx, 1, 1, none, none, rfl, upd_same, fun _ => ⟨rfl, ?_⟩, fun z => by cases z⟩
  have s5 := same_upd (o := .ins (ga (xL P w K mg base cdv A outer s H E).K "Block") dx (blkF (.int 1) (.int 1) (oV none) (oV none))) s4 nb
  have hb : IsBlk K (upd (upd (upd H3 dx (.own b)) b (.ins (ga K "Block") dx [])) b (.ins (ga (xL P w K mg base cdv A outer s H E).K "Block") dx (blkF (.int 1) (.int 1) (oV none) (oV none)))) b 1 1 none none := ⟨dx, upd_same⟩
  generalize (upd (upd (upd H3 dx (.own b)) b (.ins (ga K "Block") dx [])) b (.ins (ga (xL P w K mg base cdv A outer s H E).K "Block") dx (blkF (.int 1) (.int 1) (oV none) (oV none)))) = H5 at s5 hb
  intro n dx2 nn nnd ne2
  have m2 : (upd H5 dx2 (.own n)) n = none := by rw [upd_ne (Ne.symm ne2)]; exact nn
  have s6 := same_lay (o := .ins (ga K "Name") dx2 []) (same_new (o := .own n) nnd) m2
  refine ⟨n, dx2, b, 1, 1, none, none, .non, .non, false, false, false, false, rfl, upd_same, hb.same s6, (fun _ _ z => by cases z), .inr ⟨rfl, rfl, rfl⟩, .inr ⟨rfl, rfl, rfl⟩, fun _ H7 pr pc s7 _ _ => ⟨rfl, ?_⟩, fun z => by cases z⟩
  have s8 := same_upd (o := .ins (ga (xL P w K mg base cdv A outer s H E).K "Name") dx2 (namF (.ref b) (.ref pr) (.ref pc))) (Same.trans s6 s7) nn
  have hn : (upd H7 n (.ins (ga (xL P w K mg base cdv A outer s H E).K "Name") dx2 (namF (.ref b) (.ref pr) (.ref pc)))) n = some (.ins (ga K "Name") dx2 (namF (.ref b) (.ref pr) (.ref pc))) := upd_same
  have s9 := Same.trans s5 s8
  generalize (upd H7 n (.ins (ga (xL P w K mg base cdv A outer s H E).K "Name") dx2 (namF (.ref b) (.ref pr) (.ref pc)))) = H8 at s9 hn
  refine ⟨by show 7 ≤ sizeLine; decide, fun th nth => ?_⟩
  have k9 := same_new (o := .lst [.non, .int 5, .bl true, .ref a1, .ref a2, .ref a3, .ref n]) nth
  have s10 := Same.trans s9 k9
  have hth : (upd H8 th (.lst [.non, .int 5, .bl true, .ref a1, .ref a2, .ref a3, .ref n])) th = some (.lst [.non, .int 5, .bl true, .ref a1, .ref a2, .ref a3, .ref n]) := upd_same
  have hn' := k9 _ _ hn
  generalize (upd H8 th (.lst [.non, .int 5, .bl true, .ref a1, .ref a2, .ref a3, .ref n])) = H9 at s10 hth hn'
  have sA := Same.trans s3 s10
  have tys : ∀ x ∈ ([.non, .int 5, .bl true, .ref a1, .ref a2, .ref a3, .ref n] : List V), NoTxt K H9 x := by
    intro x hx
    simp only [List.mem_cons, List.not_mem_nil, or_false] at hx
    rcases hx with rfl | rfl | rfl | rfl | rfl | rfl | rfl
    · exact ⟨.type "NoneType", fun _ _ => .base .non, kit_ty (by decide +kernel)⟩
    · exact ⟨.type "int", fun _ _ => .base (.int 5), kit_ty (by decide +kernel)⟩
    · exact ⟨.type "bool", fun _ _ => .base (.bl true), kit_ty (by decide +kernel)⟩
    · exact ⟨.type "list", fun _ s => .base (.lst (s _ _ (s10 _ _ g1))), kit_ty (by decide +kernel)⟩
    · exact ⟨.type "tuple", fun _ s => .base (.tup (s _ _ (s10 _ _ g2))), kit_ty (by decide +kernel)⟩
    · exact ⟨.type "dict", fun _ s => .base (.dK (s _ _ (s10 _ _ g3))), kit_ty (by decide +kernel)⟩
    · exact ⟨_, fun _ s => isN_of T (s _ _ hn'), T.isNs⟩
  refine ⟨th, rfl, ⟨_, SqL.of hth⟩, ?_⟩
  refine for_list (xs := [.non, .int 5, .bl true, .ref a1, .ref a2, .ref a3, .ref n]) (fun i σ H => (∃ y, σ = [x0, x1, x2, x3, x4, some (.ref o), some (sv l), x7, x8, x9, x10, x11, y]) ∧ Same H9 H) ⟨⟨_, rfl⟩, Same.refl _⟩ (fun i σ H _ h => SqL.of (h.2 _ _ hth)) (fun i x σ H hx h => ?_) (fun σ H h => ?_)
  · obtain ⟨⟨y, rfl⟩, sH⟩ := h
    obtain ⟨ty, h1, h2⟩ := tys x (List.mem_of_getElem? hx)
    refine ⟨_, rfl, _, rfl, x, o, r, c, rfl, sH _ _ (sA _ _ ho), hr1, hc1, .inr ⟨ty, fun H' s' => h1 H' (Same.trans sH s'), h2⟩, fun H' s' => ⟨true, rfl, iteF ⟨⟨_, rfl⟩, Same.trans sH s'⟩⟩⟩
  · obtain ⟨⟨y, rfl⟩, sH⟩ := h
    exact q y H (Same.trans sA sH)
end
end K28

set_option Elab.async false
set_option linter.all false
set_option maxRecDepth 100000
set_option maxHeartbeats 4000000
/-! The law's def: one wording, read by both. -/
namespace K28
open PySem PySem.Spec L2
open He (ga ma)
def dueD (d : Due) : PyData := .tuple [.tuple [.int d.top, .int d.left, oD d.bottom, oD d.right], .tuple [.bool d.up, .bool d.dn], .tuple [.bool d.sd, .bool d.fr]]
theorem oD_refl (o : Option Int) : PyData.eqv (oD o) (oD o) = true := by
  cases o with
  | none => rfl
  | some n =>
    show PyData.eqv (.int n) (.int n) = true
    simp only [PyData.eqv, beq_self_eq_true]
theorem dueD_refl (d : Due) : PyData.eqv (dueD d) (dueD d) = true := by
  have e : PyData.eqv (dueD d) (dueD d) = ((d.top == d.top && (d.left == d.left && (PyData.eqv (oD d.bottom) (oD d.bottom) && (PyData.eqv (oD d.right) (oD d.right) && true)))) && ((d.up == d.up && (d.dn == d.dn && true)) && ((d.sd == d.sd && (d.fr == d.fr && true)) && true))) := by
    obtain ⟨t, l, bo, ri, u, dn, sd, fr⟩ := d
    cases bo <;> cases ri <;> simp only [dueD, oD, PyData.eqv, PyData.eqvAll]
  rw [e, oD_refl, oD_refl]
  simp
theorem dueD_shaped (d : Due) : SeqAt.shaped (dueD d) = true := by
  show (PyData.canLay0 (dueD d) && decide (PyData.depth (dueD d) ≤ 64)) = true
  obtain ⟨t, l, bo, ri, u, dn, sd, fr⟩ := d
  cases bo <;> cases ri <;> simp [dueD, oD, PyData.canLay0, PyData.canLayAll0, PyData.depth, PyData.depthAll]
theorem dueD_at {K : PySem.W.Frag} {H : Hp} {p f pr pc : Addr} {d : Due} (h : H p = some (.tup [.ref f, .ref pr, .ref pc])) (hf : H f = some (fourV d.top d.left d.bottom d.right)) (hr : H pr = some (.tup [.bl d.up, .bl d.dn])) (hc : H pc = some (.tup [.bl d.sd, .bl d.fr])) : Dp K H (.ref p) (dueD d) :=
  .tup (SqT.of h) (.cons (.tup (SqT.of hf) (.cons (.int _) (.cons (.int _) (.cons (oD_at _) (.cons (oD_at _) .nil))))) (.cons (.tup (SqT.of hr) (.cons (.bl _) (.cons (.bl _) .nil))) (.cons (.tup (SqT.of hc) (.cons (.bl _) (.cons (.bl _) .nil))) .nil)))
section
variable {P : Program} {w : World} {K : PySem.W.Frag} {mg : Str → Option Value} {base : Heap}
theorem lawOne (T : Top K mg) (cdv : Value) (A : Around) (outer : List Env) (s : Shared) (H : Hp) (E : XK) (hr : Room 8 (A.deeper (PyProof.Rows.envOfC "law" (defScope sLaw) s.heap.objs.size (ga K "law") cdv))) :
    ∃ t7 : TS, PSs (xL P w K mg base cdv A outer s H E) (lawB.drop 7) t7 ∧ ∀ (D : Ends) (x0 x1 x2 x3 x4 x7 x8 x9 x10 x11 x12 : Option V) (o : Addr) (r c : Int) (l : L) (H1 : Hp), H1 o = some (.tup [.int r, .int c]) → Org r → Org c → l.length ≤ 90000 → Cp l →
      (∀ x8 x9 x10 x11 x12 H', Same H1 H' → D.nx [x0, x1, x2, x3, x4, some (.ref o), some (sv l), x7, x8, x9, x10, x11, x12] H') →
      t7 D [x0, x1, x2, x3, x4, some (.ref o), some (sv l), x7, x8, x9, x10, x11, x12] H1 := by
  obtain ⟨t9, ht9, r9⟩ := lawThings (P := P) (w := w) (base := base) T cdv A outer s H E hr
  obtain ⟨its, kb⟩ := kbn_readName T
  refine ⟨_, pss_cons (ps_set (i := 8) scLaw.nd rfl (Or.inl rfl) (pe_call (ok_lread T) (hr.mono (by decide)) (by rfl) T.dLawRead.g T.dLawRead.F.kp (bi_lread T) .nil pass0 (pa_cons (pv 6) (pa_cons (pv 5) pa_nil))))
    (pss_cons (ps_if (pt_cmp (pc_isN (pv 8)) rfl) (pss_one (ps_if (pt_not (pt_val (pe_call (ok_refused T) hr (by rfl) T.dLawRefused.g T.dLawRefused.F.kp (bi_refused T) .nil pass0 (pa_cons (pv 6) (pa_cons (pv 5) pa_nil))))) (pss_one (ps_ret pe_bl)) pss_nil))
      (pss_cons (ps_set (i := 9) scLaw.nd rfl (Or.inl rfl) (pe_callN (ok_readName T) (hr.mono (by decide)) (by rfl) T.dReadName.g T.dReadName.F.kp kb passX0 (pa_cons (pv 6) pa_nil) (pk_cons (pv 5) (pk_cons pe_str pk_nil))))
      (pss_cons (ps_set (i := 10) scLaw.nd rfl (Or.inl rfl) (pe_nB T (pv 9)))
      (pss_cons (ps_set (i := 11) scLaw.nd rfl (Or.inl rfl) (pe_tup (pa_cons (pe_tup (pa_cons (pe_bTop T (pv 10)) (pa_cons (pe_bLeft T (pv 10)) (pa_cons (pe_bBottom T (pv 10)) (pa_cons (pe_bRight T (pv 10)) pa_nil))))) (pa_cons (pe_nR T (pv 9)) (pa_cons (pe_nC T (pv 9)) pa_nil)))))
      (pss_one (ps_if (pw_or (pt_cmpR (op_neD hr.units) (pv 11) (pv 8) (nomark _)) (pw_or1 (pt_cmpR op_neL (pe_meth (pv 9) T.cName T.meShown (ok_shown T) (hr.mono (by decide)) (bi_shown T) .nil pass0 (pa_cons pe_str (pa_cons (pv 5) pa_nil))) (pv 6) (nomark _)))).pt (pss_one (ps_ret pe_bl)) pss_nil))))))
    ht9), ?_⟩
  intro D x0 x1 x2 x3 x4 x7 x8 x9 x10 x11 x12 o r c l H1 ho hr1 hc1 hl hcp q
  have one := one_reading (t := l) hr1.1 hc1.1
  refine ⟨_, rfl, _, rfl, l, o, r, c, rfl, ho, hr1, hc1, hl, hcp, fun d hd H2 p s2 hp => ?_, fun hn H2 s2 => ?_⟩
  · obtain ⟨f, pr, pc, h1, h2, h3, h4⟩ := hp
    rw [one] at hd
    refine ⟨_, rfl, _, rfl, iteF ?_⟩
    refine ⟨_, rfl, _, rfl, rfl, rfl, sv l, o, r, c, rfl, s2 _ _ ho, hr1, hc1, .inl ⟨l, rfl, by omega, fun d2 hd2 H3 n s3 hn hb => ?_, fun hn => by rw [hd] at hn; cases hn⟩⟩
    rw [hd] at hd2
    cases hd2
    have hn0 := hn
    obtain ⟨b, qr, qc, k1, k2, k3, k4⟩ := hn
    refine ⟨_, rfl, n, b, qr, qc, rfl, k1, ?_⟩
    refine ⟨_, rfl, b, _, _, _, _, rfl, k2, _, rfl, b, _, _, _, _, rfl, k2, _, rfl, b, _, _, _, _, rfl, k2, _, rfl, b, _, _, _, _, rfl, k2, tup4, fun y ny => ?_⟩
    have s4 := same_new (o := fourV d.top d.left d.bottom d.right) ny
    have y4 : (upd H3 y (fourV d.top d.left d.bottom d.right)) y = some (fourV d.top d.left d.bottom d.right) := upd_same
    refine ⟨_, rfl, n, b, qr, qc, rfl, k1.same s4, _, rfl, n, b, qr, qc, rfl, k1.same s4, by show 3 ≤ sizeLine; decide, fun z nz => ?_⟩
    have s5 := same_lay (o := .tup [.ref y, .ref qr, .ref qc]) s4 nz
    have z5 : (upd (upd H3 y (fourV d.top d.left d.bottom d.right)) z (.tup [.ref y, .ref qr, .ref qc])) z = some (.tup [.ref y, .ref qr, .ref qc]) := upd_same
    have y5 := same_new (o := .tup [.ref y, .ref qr, .ref qc]) nz _ _ y4
    have s6 := Same.trans s3 s5
    refine ⟨_, rfl, _, rfl, dueD d, dueD d, dueD_at z5 y5 (s5 _ _ k3) (s5 _ _ k4), dueD_at (s6 _ _ h1) (s6 _ _ h2) (s6 _ _ h3) (s6 _ _ h4), dueD_shaped d, dueD_shaped d, _, rfl, ?_⟩
    rw [dueD_refl]
    have s7 := Same.trans s2 s6
    obtain ⟨dx, n1⟩ := k1.same s5
    refine iteF ⟨_, rfl, n, dx, _, rfl, n1, namF_shown .., _, rfl, n, o, d, r, c, rfl, hn0.same s5, hb, s7 _ _ ho, hr1, hc1, fun H4 s8 => ⟨_, rfl, _, l, rfl, rfl, _, rfl, ?_⟩⟩
    rw [show (!decide (shownBy (isOne d) d r c = l)) = false by rw [decide_eq_true (prog_good hd).2] <;> rfl]
    have s9 := Same.trans s7 s8
    exact iteF (r9 _ _ _ _ _ _ _ _ _ _ _ _ o r c l H4 (s9 _ _ ho) hr1 hc1 fun x12 H' s' => q _ _ _ _ x12 H' (Same.trans s9 s'))
  · rw [one] at hn
    refine ⟨_, rfl, _, rfl, iteT ?_⟩
    refine ⟨_, rfl, _, rfl, sv l, o, r, c, rfl, s2 _ _ ho, hr1, hc1, .inl ⟨l, rfl, by omega, hn⟩, fun H3 s3 => ⟨true, rfl, iteF ?_⟩⟩
    have s4 := Same.trans s2 s3
    exact r9 _ _ _ _ _ _ _ _ _ _ _ _ o r c l H3 (s4 _ _ ho) hr1 hc1 fun x12 H' s' => q _ _ _ _ x12 H' (Same.trans s4 s')
end
end K28

set_option Elab.async false
set_option linter.all false
set_option maxRecDepth 100000
set_option maxHeartbeats 4000000
/-! The law's def: the whole. -/
namespace K28
open PySem PySem.Spec L2
open He (ga ma)
def bd : Nat → Nat
  | 0 => 500
  | n + 1 => 2 * bd n + 5000
theorem bd_le : ∀ {i : Nat}, i ≤ 3 → bd i ≤ 45000 ∧ bd i ≤ 90000
  | 0, _ => ⟨by decide, by decide⟩
  | 1, _ => ⟨by decide, by decide⟩
  | 2, _ => ⟨by decide, by decide⟩
  | 3, _ => ⟨by decide, by decide⟩
  | n + 4, h => by omega
theorem same_of_but {p : Addr} {H H' : Hp} (s : SameBut p H H') (n : H p = none) : Same H H' := fun b o e => s b o (ne_of_none e n) e
section
variable {P : Program} {w : World} {K : PySem.W.Frag} {mg : Str → Option Value} {base : Heap}
theorem lawTurn (T : Top K mg) (cdv : Value) (A : Around) (outer : List Env) (s : Shared) (H : Hp) (E : XK) (hr : Room 8 (A.deeper (PyProof.Rows.envOfC "law" (defScope sLaw) s.heap.objs.size (ga K "law") cdv))) :
    ∃ t0 : TS, PSs (xL P w K mg base cdv A outer s H E) lawB t0 ∧ ∀ (D : Ends) (x0 x2 x3 x4 x5 x6 x7 x8 x9 x10 x11 x12 : Option V) (c0 : Int) (H1 : Hp),
      (∀ x1 x2 x3 x4 x5 x6 x7 x8 x9 x10 x11 x12 H', Same H1 H' → D.nx [x0, x1, x2, x3, x4, x5, x6, x7, x8, x9, x10, x11, x12] H') →
      t0 D [x0, some (.int c0), x2, x3, x4, x5, x6, x7, x8, x9, x10, x11, x12] H1 := by
  obtain ⟨t7, ht7, r7⟩ := lawOne (P := P) (w := w) (base := base) T cdv A outer s H E hr
  have st6 : ∃ t6 : TS, PSs (xL P w K mg base cdv A outer s H E) (lawB.drop 6) t6 ∧ ∀ (D : Ends) (x0 x1 x3 x7 x8 x9 x10 x11 x12 : Option V) (p o : Addr) (r c sh : Int) (l : L) (H1 : Hp), WellAt H1 p → H1 o = some (.tup [.int r, .int c]) → Org r → Org c → l.length ≤ 90000 → Cp l →
      (∀ x5 x8 x9 x10 x11 x12 H', Drawn p H1 H' → D.nx [x0, x1, some (.ref p), x3, some (.int sh), x5, some (sv l), x7, x8, x9, x10, x11, x12] H') →
      t6 D [x0, x1, some (.ref p), x3, some (.int sh), some (.ref o), some (sv l), x7, x8, x9, x10, x11, x12] H1 := by
    refine ⟨_, pss_cons (ps_if (pt_cmpR op_eq (pv 4) pe_int (nomark _)) (pss_one (ps_set (i := 5) scLaw.nd rfl (Or.inl rfl) (pe_tup (pa_cons (pe_callB (call_max2 rfl) (by rfl) T.zMax (by decide +kernel) (pa_cons pe_int (pa_cons (pe_op op_sub (pe_ix ix_tup (pv 5) pe_int (fun _ _ => rfl)) (pe_call (ok_draw T) (hr.mono (by decide)) (by rfl) T.dLawDraw.g T.dLawDraw.F.kp (bi_draw T) .nil pass0 (pa_cons (pv 2) (pa_cons pe_int pa_nil)))) pa_nil)))
        (pa_cons (pe_callB (call_max2 rfl) (by rfl) T.zMax (by decide +kernel) (pa_cons pe_int (pa_cons (pe_op op_sub (pe_ix ix_tup (pv 5) pe_int (fun _ _ => rfl)) (pe_call (ok_draw T) (hr.mono (by decide)) (by rfl) T.dLawDraw.g T.dLawDraw.F.kp (bi_draw T) .nil pass0 (pa_cons (pv 2) (pa_cons pe_int pa_nil)))) pa_nil))) pa_nil))))) pss_nil) ht7, ?_⟩
    intro D x0 x1 x3 x7 x8 x9 x10 x11 x12 p o r c sh l H1 hw ho hr1 hc1 hl hcp q
    refine ⟨_, rfl, rfl, _, rfl, ?_⟩
    by_cases hs : sh = 0
    · rw [show decide (V.int sh = V.int 0) = true from decide_eq_true (by rw [hs])]
      refine iteT ⟨_, rfl, o, _, _, _, rfl, rfl, SqT.of ho, atI_nat (j := 0) rfl, _, rfl, p, 5, rfl, hw, by decide, p60 rfl, fun u H2 a1 a2 d2 => ⟨_, _, rfl, rfl, _, _, rfl, ?_⟩⟩
      refine ⟨_, rfl, o, _, _, _, rfl, rfl, SqT.of (d2.tup hw ho), atI_nat (j := 1) rfl, _, rfl, p, 5, rfl, d2.2, by decide, p60 rfl, fun v H3 b1 b2 d3 => ⟨_, _, rfl, rfl, _, _, rfl, tup2, fun o2 no2 => ?_⟩⟩
      have hr2 := hr1.2
      have hc2 := hc1.2
      have hr0 := hr1.1
      have hc0 := hc1.1
      have k1 : Org (if r - u > 1 then r - u else 1) := by
        constructor <;> split <;> omega
      have k2 : Org (if c - v > 1 then c - v else 1) := by
        constructor <;> split <;> omega
      have d4 := (d2.trans d3).same (same_new (o := .tup [.int (if r - u > 1 then r - u else 1), .int (if c - v > 1 then c - v else 1)]) no2)
      exact r7 _ _ _ _ _ _ _ _ _ _ _ _ o2 _ _ l _ upd_same k1 k2 hl hcp fun x8 x9 x10 x11 x12 H' s' => q _ x8 x9 x10 x11 x12 H' (d4.same s')
    · rw [show decide (V.int sh = V.int 0) = false from decide_eq_false fun z => hs (V.int.inj z)]
      exact iteF (r7 _ _ _ _ _ _ _ _ _ _ _ _ o r c l H1 ho hr1 hc1 hl hcp fun x8 x9 x10 x11 x12 H' s' => q _ x8 x9 x10 x11 x12 H' (Drawn.of hw s'))
  obtain ⟨t6, ht6, r6⟩ := st6
  refine ⟨_, pss_cons (ps_set (i := 2) scLaw.nd rfl (Or.inl rfl) (pe_call (ok_well T) (hr.mono (by decide)) (by rfl) T.dLawWell.g T.dLawWell.F.kp (bi_well T) .nil pass0 (pa_cons (pv 1) pa_nil)))
    (pss_cons (ps_set (i := 3) scLaw.nd rfl (Or.inl rfl) (pe_call (ok_draw T) (hr.mono (by decide)) (by rfl) T.dLawDraw.g T.dLawDraw.F.kp (bi_draw T) .nil pass0 (pa_cons (pv 2) (pa_cons pe_int pa_nil))))
    (pss_cons (ps_set (i := 4) scLaw.nd rfl (Or.inl rfl) (pe_call (ok_draw T) (hr.mono (by decide)) (by rfl) T.dLawDraw.g T.dLawDraw.F.kp (bi_draw T) .nil pass0 (pa_cons (pv 2) (pa_cons pe_int pa_nil))))
    (pss_cons (ps_set (i := 5) scLaw.nd rfl (Or.inl rfl) (pe_call (ok_base T) (hr.mono (by decide)) (by rfl) T.dLawBase.g T.dLawBase.F.kp (bi_base T) .nil pass0 (pa_cons (pv 2) (pa_cons (pe_call (ok_block T) (hr.mono (by decide)) (by rfl) T.dLawBlock.g T.dLawBlock.F.kp (bi_block T) .nil pass0 (pa_cons (pv 2) pa_nil)) pa_nil))))
    (pss_cons (ps_set (i := 6) scLaw.nd rfl (Or.inl rfl) (pe_call (ok_drawn T) (hr.mono (by decide)) (by rfl) T.dLawDrawn.g T.dLawDrawn.F.kp (bi_drawn T) .nil pass0 (pa_cons (pv 2) (pa_cons (pv 5) pa_nil))))
    (pss_cons (ps_for PassesOwn.never rfl (pi_range1 rfl T.zRange (pa_cons (pv 3) pa_nil)) (pg_name (i := 7) scLaw.nd rfl (Or.inl rfl))
      (pss_one (ps_if (pt_cmpR op_gt (pe_call (ok_draw T) (hr.mono (by decide)) (by rfl) T.dLawDraw.g T.dLawDraw.F.kp (bi_draw T) .nil pass0 (pa_cons (pv 2) (pa_cons pe_int pa_nil))) pe_int (nomark _))
        (pss_one (ps_set (i := 6) scLaw.nd rfl (Or.inl rfl) (pe_call (ok_bySign T) (hr.mono (by decide)) (by rfl) T.dLawBySign.g T.dLawBySign.F.kp (bi_bySign T) .nil pass0 (pa_cons (pv 2) (pa_cons (pv 6) pa_nil)))))
        (pss_one (ps_set (i := 6) scLaw.nd rfl (Or.inl rfl) (pe_call (ok_byPart T) (hr.mono (by decide)) (by rfl) T.dLawByPart.g T.dLawByPart.F.kp (bi_byPart T) .nil pass0 (pa_cons (pv 2) (pa_cons (pv 6) (pa_cons (pv 5) pa_nil)))))))))
    ht6))))), ?_⟩
  intro D x0 x2 x3 x4 x5 x6 x7 x8 x9 x10 x11 x12 c0 H1 q
  refine ⟨_, rfl, c0, rfl, fun H2 p s2 np hw2 => ?_⟩
  refine ⟨_, rfl, p, 4, rfl, hw2, by decide, p60 rfl, fun many H3 a1 a2 d3 => ?_⟩
  refine ⟨_, rfl, p, 4, rfl, d3.2, by decide, p60 rfl, fun sh H4 b1 b2 d4 => ?_⟩
  refine ⟨_, rfl, _, rfl, p, rfl, d4.2, fun H5 f t l bo ri d5 hf k => ?_⟩
  refine ⟨p, f, t, l, bo, ri, rfl, d5.2, hf, k.t, k.l, fun H6 o r c d6 ho hr1 hc1 => ?_⟩
  refine ⟨_, rfl, _, rfl, p, o, r, c, rfl, d6.2, ho, hr1, hc1, fun l0 H7 hl0 hcp0 d7 => ?_⟩
  have d27 := (((d3.trans d4).trans d5).trans d6).trans d7
  have ho7 := d7.tup d6.2 ho
  have same1 : ∀ H', Drawn p H7 H' → Same H1 H' := fun H' d => same_of_but (SameBut.trans (Same.but s2) ((d27.trans d).1)) np
  refine ⟨_, rfl, many, rfl, by omega, by omega, ?_⟩
  have hm : many.toNat ≤ 3 := by omega
  refine for_range (lo := 0) (n := many.toNat) (fun i σ H => ∃ (l : L) (y : Option V), σ = [x0, some (.int c0), some (.ref p), some (.int many), some (.int sh), some (.ref o), some (sv l), y, x8, x9, x10, x11, x12] ∧ l.length ≤ bd i ∧ Cp l ∧ Drawn p H7 H)
    ⟨l0, _, rfl, hl0, hcp0, Drawn.refl d7.2⟩ (fun i σ H hi h => ?_) (fun σ H h => ?_)
  · obtain ⟨l, y, rfl, hl, hcp, d8⟩ := h
    have hb := (bd_le (i := i) (by omega)).1
    have step : ∀ (l' : L) (H' : Hp), l'.length ≤ 2 * l.length + 5000 → l'.length ≤ bd (i + 1) := fun l' H' h => by
      show l'.length ≤ 2 * bd i + 5000
      omega
    refine ⟨_, rfl, p, 3, rfl, d8.2, by decide, p60 rfl, fun g H9 e1 e2 d9 => ⟨_, _, rfl, rfl, _, rfl, ?_⟩⟩
    have d10 := d8.trans d9
    by_cases hg : 0 < g
    · rw [decide_eq_true hg]
      exact iteT ⟨_, rfl, _, rfl, p, l, rfl, d10.2, by omega, hcp, fun l' H' h1 h2 h3 => ⟨l', _, rfl, step l' H' h1, h2, d10.trans h3⟩⟩
    · rw [decide_eq_false hg]
      exact iteF ⟨_, rfl, _, rfl, _, rfl, p, o, l, r, c, rfl, d10.2, d10.tup d7.2 ho7, hr1, hc1, by omega, hcp, fun l' H' h1 h2 h3 => ⟨l', _, rfl, step l' H' h1, h2, d10.trans h3⟩⟩
  · obtain ⟨l, y, rfl, hl, hcp, d8⟩ := h
    have hb := (bd_le hm).2
    exact r6 D _ _ _ _ _ _ _ _ _ p o r c sh l H d8.2 (d8.tup d7.2 ho7) hr1 hc1 (by omega) hcp fun x5 x8 x9 x10 x11 x12 H' d' => q _ _ _ _ _ _ _ _ _ _ _ _ H' (same1 H' (d8.trans d'))
/-! ### law -/
def spLaw (K : PySem.W.Frag) : Sp := fun vs H Q _ => ∃ (a : Addr) (ns : List Int), vs = [.ref a] ∧ ns.length ≤ 63 ∧ SqL K H a (ns.map V.int) ∧ ∀ H', Q (.bl true) H'
theorem len13 (σ : L2.St) (h : σ.length = 13) : ∃ x0 x1 x2 x3 x4 x5 x6 x7 x8 x9 x10 x11 x12, σ = [x0, x1, x2, x3, x4, x5, x6, x7, x8, x9, x10, x11, x12] := by
  match σ, h with
  | [x0, x1, x2, x3, x4, x5, x6, x7, x8, x9, x10, x11, x12], _ => exact ⟨_, _, _, _, _, _, _, _, _, _, _, _, _, rfl⟩
theorem ok_law (T : Top K mg) : FnOk P w K mg base CX0 9 (ga K "law") (fdO K (ga K "law")) ["_law_script"] (spLaw K) := by
  refine T.dLaw.F.ok scLaw (fun vs H Q E h => ?_) (fun cdv A outer s H vs Q E hr h => ?_)
  · obtain ⟨a, ns, rfl, _⟩ := h
    rfl
  · obtain ⟨a, ns, rfl, hl, ha, q⟩ := h
    obtain ⟨t0, ht0, r0⟩ := lawTurn (P := P) (w := w) (base := base) T cdv A outer s H E hr
    refine ⟨_, PSs.nox (pss_cons (ps_for PassesOwn.never rfl (pi_list (pe_op L2.op_cat (pe_slice sl_list (pv 0) po_none (po_some pe_int)) (pe_lst (pa_cons pe_int (pa_cons pe_int (pa_cons pe_int pa_nil)))))) (pg_name (i := 1) scLaw.nd rfl (Or.inl rfl)) ht0)
      (pss_one (ps_ret pe_bl))), ?_⟩
    refine ⟨_, rfl, _, rfl, a, _, rfl, ha, fun x nx => ⟨by show 3 ≤ sizeLine; decide, fun y ny => ?_⟩⟩
    have hc : ((cutV (ns.map V.int) none (some 22)) ++ [V.int 1, .int 5, .int 12]).length ≤ 66 := by
      have := cutV_length (ns.map V.int) none (some 22)
      rw [List.length_map] at this
      rw [List.length_append]
      show _ + 3 ≤ _
      omega
    have cells : ∀ v ∈ (cutV (ns.map V.int) none (some 22)) ++ [V.int 1, .int 5, .int 12], ∃ i : Int, v = .int i := fun v hv => by
      rcases List.mem_append.mp hv with h | h
      · have : v ∈ ns.map V.int := by
          unfold cutV at h
          exact List.mem_of_mem_drop (List.mem_of_mem_take h)
        obtain ⟨i, _, rfl⟩ := List.mem_map.mp this
        exact ⟨i, rfl⟩
      · simp only [List.mem_cons, List.not_mem_nil, or_false] at h
        rcases h with rfl | rfl | rfl
        · exact ⟨_, rfl⟩
        · exact ⟨_, rfl⟩
        · exact ⟨_, rfl⟩
    refine ⟨x, y, _, _, rfl, rfl, same_new ny _ _ upd_same, upd_same, ?_, fun z nz => ?_⟩
    · rw [List.length_append] at hc
      exact small_le (by omega)
    generalize hcs : (cutV (ns.map V.int) none (some 22)) ++ [V.int 1, .int 5, .int 12] = cs at cells
    refine ⟨z, rfl, ⟨_, SqL.of upd_same⟩, ?_⟩
    refine for_list (xs := cs) (fun i σ H1 => σ.length = 13 ∧ H1 z = some (.lst cs)) ⟨rfl, upd_same⟩ (fun i σ H1 _ h => SqL.of h.2) (fun i v σ H1 hv h => ?_) (fun σ H1 h => ?_)
    · obtain ⟨c0, rfl⟩ := cells v (List.mem_of_getElem? hv)
      obtain ⟨x0, x1, x2, x3, x4, x5, x6, x7, x8, x9, x10, x11, x12, rfl⟩ := len13 σ h.1
      exact r0 _ _ _ _ _ _ _ _ _ _ _ _ _ c0 H1 fun _ _ _ _ _ _ _ _ _ _ _ _ H' s' => ⟨rfl, s' _ _ h.2⟩
    · exact q H1
end
end K28

set_option Elab.async false
set_option linter.all false
set_option maxRecDepth 100000
set_option maxHeartbeats 0
namespace K28
open PySem PySem.Spec L2
open He (ga ma)
theorem facts {P : Program} {w : World} {K : PySem.W.Frag} {h : Heap} {mg : Str → Option Value} {f : Addr} (X : K.In h) (G : h.Ns mainGlobals mg) (hfa : mg ("law" : Str) = some (.ref f)) (c : obsX K = (He.valD fn, true)) :
    ∃ fd : FuncData, (∀ (s : Shared) (v : Value), BindsTo s fd ⟨[v], []⟩ [("_law_script", v)]) ∧ ∀ base : Heap, K.In base → base.Ns mainGlobals mg → FnOk P w K mg base CX0 9 f fd ["_law_script"] (spLaw K) := by
  have T := top_of X G c
  have e := hfa.symm.trans T.dLaw.g
  cases e
  have b := FunD.bindsA (ps := ["_law_script"]) T.dLaw.F fun _ _ _ _ _ _ us hl => match us, hl with | [_], _ => rfl
  exact ⟨fdO K (ga K "law"), fun s v => b s [v] rfl, fun base _ _ => ok_law T⟩
end K28
open PySem PySem.W PySem.Calls PyProof.Rows
theorem PySem.Challenge.cw_cellblocks_k28_whole_numbers_texts_spoil_holds : PySem.Challenge.rw_cellblocks_k28_whole_numbers_texts_spoil.Holds := by
  w_on; o_law
  refine HandSHeadRun.head_any (r := OpenLaw.row PySem.Challenge.rw_cellblocks_k28_whole_numbers_texts_spoil) (q := view (OpenLaw.row PySem.Challenge.rw_cellblocks_k28_whole_numbers_texts_spoil).prog [85]) (H := K28.hookX) (ob := K28.obX) (M := 12000) (loose := K28.names) (d := HandSHeadRun.topDef (OpenLaw.row PySem.Challenge.rw_cellblocks_k28_whole_numbers_texts_spoil).prog 85) (kwd := []) K28.obX_eq
    (by kernel_rfl) (fun s => by kernel_rfl) K28.run (by kernel_rfl) (by kernel_rfl) (by kernel_rfl) (by rfl) (by first | assumption | decide +kernel) (by decide +kernel) ⟨rfl, rfl, rfl, rfl, rfl, by decide +kernel⟩ ?hw ?hc
  case hw => w_witness2
  case hc =>
    refine L2.walk_ofE (l := PySem.Challenge.rw_cellblocks_k28_whole_numbers_texts_spoil) (n := 63) (k := 9) (x := "_law_script") (CX := L2.CX0) rfl (by decide) (by kernel_rfl) ⟨rfl, by decide, by decide⟩ ?F (fun _ _ _ _ z => z)
    intro w mg fa h Y G hmg0
    obtain ⟨K, KX, c⟩ := Y
    have hmg : mg ("law" : PySem.Str) = some (.ref fa) := by
      have e : (HandSHeadRun.topDef (OpenLaw.row PySem.Challenge.rw_cellblocks_k28_whole_numbers_texts_spoil).prog 85).name = ("law" : PySem.Str) := by kernel_rfl
      rw [← e]
      exact hmg0
    obtain ⟨fd, hb, hF⟩ := K28.facts (P := (PySem.Challenge.rw_cellblocks_k28_whole_numbers_texts_spoil).prog) (w := w) KX G hmg c
    exact ⟨K, fd, K28.spLaw K, KX, hb, fun H a ns hl _ hS => ⟨a, ns, rfl, hl, hS, fun _ => rfl⟩, hF⟩
