import PyProof.Rows.All
import Wide.All
import OpenK.AllK
import Wide.FinOn
import KE.IntTextLaws
import KE.KIntText
import PyProof.ReprReads
import PyProof.StrLawsRepr
import HandS.ForMost
import HandS.Walk
import HandS.Flow
import HandS.IsInst
import HandS.Steps
import HandS.More
import HandS.Exc
import HandS.TryOnly
import HandS.ExcOwn
import HandS.WordsExc
import KE.KExcSuper
import HandS.ExcIs
import KE.KExcIs
import HandS.Small
import HandS.Wide
import HandS.Replace
import HandS.ReplaceDef
import HandS.ReplaceList
import HandS.ReplaceLit
import HandS.RaiseMore
import HandS.TupMul
import PySem.Challenge.RW_deedstore_k02_bounds_of_trees
set_option Elab.async false
set_option linter.all false
set_option maxRecDepth 100000
namespace DS
open PySem PySem.NumText

abbrev Cs := List Nat
/-- a text by its codes -/
def S (l : Cs) : Str := ⟨l.toArray⟩
theorem S_cps (l : Cs) : (S l).cps.toList = l := rfl
theorem S_length (l : Cs) : (S l).length = l.length := by show l.toArray.size = l.length; simp
theorem S_append (a b : Cs) : S a ++ S b = S (a ++ b) := by
  show (⟨a.toArray ++ b.toArray⟩ : Str) = ⟨(a ++ b).toArray⟩
  simp
theorem S_inj {a b : Cs} (h : S a = S b) : a = b := by
  have := congrArg (fun x : Str => x.cps.toList) h
  exact this
theorem S_eta (x : Str) : S x.cps.toList = x := by cases x; simp [S]

/-! ### decimal digits -/
def decD (m : Nat) : Cs := (Nat.toDigits 10 m).map Char.toNat
def numT (i : Int) : Cs := if i < 0 then 45 :: decD i.natAbs else decD i.natAbs
def isDig (c : Nat) : Prop := 48 ≤ c ∧ c ≤ 57

theorem decD_small {m : Nat} (h : m < 10) : decD m = [48 + m] := by
  match m, h with
  | 0, _ => rfl | 1, _ => rfl | 2, _ => rfl | 3, _ => rfl | 4, _ => rfl
  | 5, _ => rfl | 6, _ => rfl | 7, _ => rfl | 8, _ => rfl | 9, _ => rfl
theorem decD_step {m : Nat} (h : 10 ≤ m) : decD m = decD (m / 10) ++ [48 + m % 10] := by
  unfold decD
  rw [Nat.toDigits_of_base_le (by decide) h, List.map_append]
  congr 1
  have := decD_small (m := m % 10) (by omega)
  unfold decD at this
  rw [Nat.toDigits_of_lt_base (by omega)] at this
  simpa using this

theorem decD_ne (m : Nat) : decD m ≠ [] := by
  by_cases h : m < 10
  · rw [decD_small h]; simp
  · rw [decD_step (by omega)]; simp
theorem decD_digits : ∀ m : Nat, AllDigits (decD m) := by
  intro m
  induction m using Nat.strongRecOn with
  | _ m ih =>
    by_cases h : m < 10
    · rw [decD_small h]; intro c hc; simp at hc; omega
    · rw [decD_step (by omega)]
      intro c hc
      rcases List.mem_append.mp hc with hc | hc
      · exact ih (m / 10) (by omega) c hc
      · simp at hc; omega
theorem digitsVal_snoc (l : Cs) (c : Nat) : digitsVal (l ++ [c]) = digitsVal l * 10 + (c - 48) := by
  unfold digitsVal; rw [List.foldl_append]; rfl
theorem decD_val : ∀ m : Nat, digitsVal (decD m) = m := by
  intro m
  induction m using Nat.strongRecOn with
  | _ m ih =>
    by_cases h : m < 10
    · rw [decD_small h]; unfold digitsVal; simp
    · rw [decD_step (by omega), digitsVal_snoc, ih (m / 10) (by omega)]; omega
theorem decD_len : ∀ (k m : Nat), m < 10 ^ k → 0 < k → (decD m).length ≤ k := by
  intro k
  induction k with
  | zero => intro m _ h; omega
  | succ k ih =>
    intro m hm _
    by_cases h : m < 10
    · rw [decD_small h]; simp
    · rw [decD_step (by omega), List.length_append]
      have hk : 0 < k := by
        cases k with
        | zero => simp at hm; omega
        | succ k => omega
      have := ih (m / 10) (by rw [Nat.pow_succ] at hm; omega) hk
      simp; omega
/-- the first digit is no 0 but of 0 itself -/
theorem decD_head : ∀ m : Nat, 0 < m → (decD m).head? ≠ some 48 := by
  intro m
  induction m using Nat.strongRecOn with
  | _ m ih =>
    intro h0
    by_cases h : m < 10
    · rw [decD_small h]; simp; omega
    · rw [decD_step (by omega)]
      have := ih (m / 10) (by omega) (by omega)
      have hne := decD_ne (m / 10)
      cases e : decD (m / 10) with
      | nil => exact absurd e hne
      | cons a l => rw [e] at this; simpa using this
theorem toString_nat (m : Nat) : (Str.ofString (toString ((m : Nat) : Int))) = S (decD m) := by
  rw [← S_eta (Str.ofString _)]
  congr 1
  exact PySem.W.KIN.signs_num m

theorem toString_neg (m : Nat) (h : 0 < m) : (Str.ofString (toString (-(m : Int)))) = S (45 :: decD m) := by
  have e : toString (-(m : Int)) = "-" ++ toString ((m : Nat) : Int) := by
    obtain ⟨k, rfl⟩ : ∃ k, m = k + 1 := ⟨m - 1, by omega⟩
    show Int.repr (Int.negSucc k) = "-" ++ Int.repr (Int.ofNat (k + 1))
    rfl
  rw [e, Str.ofString_eq_toList, String.toList_append, List.map_append]
  have := congrArg (fun x : Str => x.cps.toList) (toString_nat m)
  rw [Str.ofString_eq_toList] at this
  simp only [S] at this ⊢
  congr 1
  simp at this
  simp [this]
theorem toString_int (i : Int) : (Str.ofString (toString i)) = S (numT i) := by
  unfold numT
  by_cases h : i < 0
  · rw [if_pos h]
    have e : i = -((i.natAbs : Nat) : Int) := by omega
    conv => lhs; rw [e]
    exact toString_neg _ (by omega)
  · rw [if_neg h]
    have e : i = ((i.natAbs : Nat) : Int) := by omega
    conv => lhs; rw [e]
    exact toString_nat _

/-! ### the text of a tree -/
def esc1 (c : Nat) : Cs := if c = 34 ∨ c = 92 then [92, c] else [c]
def escT (s : Cs) : Cs := (s.map esc1).flatten
theorem esc1_len (c : Nat) : (esc1 c).length ≤ 2 := by unfold esc1; split <;> simp
theorem escT_len (l : Cs) : (escT l).length ≤ 2 * l.length := by
  induction l with
  | nil => simp [escT]
  | cons c l ih =>
    have h := esc1_len c
    simp only [escT, List.map_cons, List.flatten_cons, List.length_append, List.length_cons] at ih ⊢
    omega
theorem escT_cons (c : Nat) (l : Cs) : escT (c :: l) = esc1 c ++ escT l := rfl
mutual
def txt : PyData → Cs
  | .none => [45]
  | .bool b => if b then [121, 101, 115] else [110, 111]
  | .int i => numT i
  | .str x => 34 :: (escT x.cps.toList ++ [34])
  | .tuple xs => 40 :: (txtAll xs ++ [41])
  | .list _ => []
  | .dict _ => []
def txtAll : List PyData → Cs
  | [] => []
  | x :: xs => txt x ++ txtMore xs
def txtMore : List PyData → Cs
  | [] => []
  | x :: xs => 32 :: (txt x ++ txtMore xs)
end
/-! how many parts, how deep -/
mutual
def cnt : PyData → Nat
  | .tuple xs => 1 + cntAll xs
  | _ => 1
def cntAll : List PyData → Nat
  | [] => 0
  | x :: xs => cnt x + cntAll xs
end
mutual
def hgt : PyData → Nat
  | .tuple xs => 1 + hgtAll xs
  | _ => 1
def hgtAll : List PyData → Nat
  | [] => 0
  | x :: xs => max (hgt x) (hgtAll xs)
end
def sgnList : Cs := (" !\"#$&'()*+,-./0123456789:;<=>?@ABCDEFGHIJKLMNOPQRSTUVWXYZ[\\]^_`abcdefghijklmnopqrstuvwxyz{|}~").toList.map Char.toNat
/-! a tree -/
mutual
def good : PyData → Prop
  | .none => True
  | .bool _ => True
  | .int i => i.natAbs < 10 ^ 100
  | .str x => ∀ c ∈ x.cps.toList, c ∈ sgnList
  | .tuple xs => goodAll xs
  | .list _ => False
  | .dict _ => False
def goodAll : List PyData → Prop
  | [] => True
  | x :: xs => good x ∧ goodAll xs
end
theorem cnt_pos (t : PyData) : 1 ≤ cnt t := by cases t <;> simp [cnt]
theorem hgt_pos (t : PyData) : 1 ≤ hgt t := by cases t <;> simp [hgt]
theorem sgn_q : 34 ∈ sgnList := by decide +kernel
theorem sgn_b : 92 ∈ sgnList := by decide +kernel
/-- a text does not begin with a bracket that closes, nor with a blank -/
theorem txt_head : ∀ t : PyData, good t → ∃ c r, txt t = c :: r ∧ (c = 40 ∨ c = 34 ∨ c = 121 ∨ c = 110 ∨ c = 45 ∨ isDig c)
  | .none, _ => ⟨45, [], rfl, by simp⟩
  | .bool true, _ => ⟨121, [101, 115], rfl, by simp⟩
  | .bool false, _ => ⟨110, [111], rfl, by simp⟩
  | .str x, _ => ⟨34, _, rfl, by simp⟩
  | .tuple xs, _ => ⟨40, _, rfl, by simp⟩
  | .int i, _ => by
    simp only [txt, numT]
    split
    · exact ⟨45, _, rfl, by simp⟩
    · have h := decD_digits i.natAbs
      cases e : decD i.natAbs with
      | nil => exact absurd e (decD_ne _)
      | cons c r => rw [e] at h; exact ⟨c, r, rfl, by simp [isDig]; exact .inr (.inr (.inr (.inr (.inr h.head))))⟩
  | .list _, h => by simp [good] at h
  | .dict _, h => by simp [good] at h
end DS
set_option Elab.async false
set_option linter.all false
set_option maxRecDepth 100000
namespace DS
open PySem PySem.NumText
instance (c : Nat) : Decidable (isDig c) := inferInstanceAs (Decidable (48 ≤ c ∧ c ≤ 57))
/-! ### the reader as plain functions: what is read and where it ends, or the index of the error -/
def strM : Cs → Nat → Cs → Except Nat (Cs × Nat)
  | [], a, _ => .error a
  | c :: r, a, acc =>
    if c = 34 then .ok (acc, a + 1)
    else if c ∈ sgnList then
      if c = 92 then
        match r with
        | [] => .error (a + 1)
        | c2 :: r2 => if c2 = 34 ∨ c2 = 92 then strM r2 (a + 2) (acc ++ [c2]) else .error (a + 1)
      else strM r (a + 1) (acc ++ [c])
    else .error a
def digM : Cs → Cs → Nat → Except Nat (Cs × Nat)
  | f, [], a => .ok (f, a)
  | f, c :: r, a => if isDig c then (if f ≠ [48] ∧ f.length < 100 then digM (f ++ [c]) r (a + 1) else .error a) else .ok (f, a)
def numM : Cs → Nat → Except Nat (PyData × Nat)
  | [], a => .error a
  | c :: r, a =>
    if c = 45 then
      match r with
      | [] => .ok (.none, a + 1)
      | c1 :: r2 =>
        if isDig c1 then
          if c1 = 48 then .error (a + 1)
          else match digM [c1] r2 (a + 2) with
            | .ok (f, a') => .ok (.int (-(digitsVal f : Int)), a')
            | .error i => .error i
        else .ok (.none, a + 1)
    else if isDig c then
      match digM [c] r (a + 1) with
      | .ok (f, a') => .ok (.int (digitsVal f : Int), a')
      | .error i => .error i
    else .error a
def wrdM : Cs → Cs → Nat → Except Nat Nat
  | [], _, a => .ok a
  | w :: ws, [], a => .error a
  | w :: ws, c :: r, a => if c = w then wrdM ws r (a + 1) else .error a
mutual
def readM (z : Cs) : Nat → Nat → Nat → Nat → Option (Except Nat (PyData × Nat × Nat))
  | 0, _, _, _ => none
  | f + 1, d, a, n =>
    if d < 30 ∧ n < 2000 then
      match z.drop a with
      | [] => some (.error a)
      | c :: r =>
        if c = 40 then
          match r with
          | 41 :: _ => some (.ok (.tuple [], a + 2, n + 1))
          | _ => tupM z f (d + 1) (a + 1) (n + 1) []
        else if c = 34 then
          some (match strM r (a + 1) [] with | .ok (s, a') => .ok (.str (S s), a', n + 1) | .error i => .error i)
        else if c = 121 then
          some (match wrdM [121, 101, 115] (c :: r) a with | .ok a' => .ok (.bool true, a', n + 1) | .error i => .error i)
        else if c = 110 then
          some (match wrdM [110, 111] (c :: r) a with | .ok a' => .ok (.bool false, a', n + 1) | .error i => .error i)
        else
          some (match numM (c :: r) a with | .ok (t, a') => .ok (t, a', n + 1) | .error i => .error i)
    else some (.error a)
def tupM (z : Cs) : Nat → Nat → Nat → Nat → List PyData → Option (Except Nat (PyData × Nat × Nat))
  | 0, _, _, _, _ => none
  | f + 1, d, a, n, acc =>
    match readM z f d a n with
    | none => none
    | some (.error i) => some (.error i)
    | some (.ok (t, a', n')) =>
      match z.drop a' with
      | 41 :: _ => some (.ok (.tuple (acc ++ [t]), a' + 1, n'))
      | 32 :: _ => if n' < 2000 then tupM z f d (a' + 1) n' (acc ++ [t]) else some (.error a')
      | _ => some (.error a')
end
/-! ### the law's automaton -/
inductive Md where
  | part | first | fin | minus | digits (k : Int) | str | esc | word (w : Cs)
structure As where
  m : Md
  o : Int
  n : Int
def begins (s : As) (c : Nat) : Option As :=
  if s.o > 29 ∨ s.n > 1999 then none
  else if c = 40 then some ⟨.first, s.o + 1, s.n + 1⟩
  else if c = 45 then some ⟨.minus, s.o, s.n + 1⟩
  else if c = 48 then some ⟨.fin, s.o, s.n + 1⟩
  else if c = 34 then some ⟨.str, s.o, s.n + 1⟩
  else if c = 121 then some ⟨.word [101, 115], s.o, s.n + 1⟩
  else if c = 110 then some ⟨.word [111], s.o, s.n + 1⟩
  else if isDig c then some ⟨.digits 99, s.o, s.n + 1⟩
  else none
def behind (s : As) (c : Nat) : Option As :=
  if c = 32 ∧ s.o > 0 ∧ s.n < 2000 then some ⟨.part, s.o, s.n⟩
  else if c = 41 ∧ s.o - 1 ≥ 0 then some ⟨.fin, s.o - 1, s.n⟩
  else none
def fitsA (s : As) (c : Nat) : Option As :=
  match s.m with
  | .str => if c = 34 then some { s with m := .fin } else if c = 92 then some { s with m := .esc } else if c ∈ sgnList then some { s with m := .str } else none
  | .esc => if c = 34 ∨ c = 92 then some { s with m := .str } else none
  | .word w => if w.head? = some c then some { s with m := if w.tail = [] then .fin else .word w.tail } else none
  | .part => begins s c
  | .first => if c = 41 then behind s c else begins s c
  | .minus => if isDig c ∧ c ≠ 48 then some { s with m := .digits 99 } else behind s c
  | .digits k => if isDig c then (if k - 1 ≥ 0 then some { s with m := .digits (k - 1) } else none) else behind s c
  | .fin => behind s c
def runA : As → Cs → Nat → Nat ⊕ As
  | s, [], _ => .inr s
  | s, c :: r, a => match fitsA s c with
    | none => .inl a
    | some s' => runA s' r (a + 1)
def accept (s : As) : Bool := decide (s.o = 0) && match s.m with | .fin | .minus | .digits _ => true | _ => false
/-- the index told by the law's walk, -1 for the text of a tree -/
def verdict (len : Nat) : Nat ⊕ As → Int
  | .inl j => j
  | .inr s => if accept s then -1 else len
def wrongA (z : Cs) : Int := verdict z.length (runA ⟨.part, 0, 0⟩ z 0)
end DS
set_option Elab.async false
set_option linter.all false
set_option maxRecDepth 100000
set_option maxHeartbeats 2000000
namespace DS
open PySem PySem.NumText
def Stop (rest : Cs) : Prop := ∀ c r, rest = c :: r → ¬ isDig c
theorem digitsVal_lt : ∀ f : Cs, AllDigits f → digitsVal f < 10 ^ f.length := by
  intro f
  induction hn : f.length generalizing f with
  | zero => intro _; have : f = [] := List.length_eq_zero_iff.mp hn; subst this; simp [digitsVal]
  | succ k ih =>
    intro h
    obtain ⟨g, c, rfl⟩ : ∃ g c, f = g ++ [c] := by
      rcases List.eq_nil_or_concat f with e | ⟨g, c, e⟩
      · subst e; simp at hn
      · exact ⟨g, c, by simpa using e⟩
    have hg : g.length = k := by simpa using hn
    have h1 := ih g hg (fun d hd => h d (by simp [hd]))
    have h2 := h c (by simp)
    rw [digitsVal_snoc, Nat.pow_succ]
    omega
theorem digitsVal_pos : ∀ f : Cs, AllDigits f → f ≠ [] → f.head? ≠ some 48 → 0 < digitsVal f := by
  intro f
  induction hn : f.length generalizing f with
  | zero => intro _ h; exact absurd (List.length_eq_zero_iff.mp hn) h
  | succ k ih =>
    intro h hne hh
    obtain ⟨g, c, rfl⟩ : ∃ g c, f = g ++ [c] := by
      rcases List.eq_nil_or_concat f with e | ⟨g, c, e⟩
      · subst e; simp at hn
      · exact ⟨g, c, by simpa using e⟩
    have h2 := h c (by simp)
    rw [digitsVal_snoc]
    cases g with
    | nil =>
      have : c ≠ 48 := by simpa using hh
      omega
    | cons x g =>
      have := ih (x :: g) (by simpa using hn) (fun d hd => h d (List.mem_append_left _ hd)) (by simp) (by simpa using hh)
      omega
theorem decD_of : ∀ f : Cs, AllDigits f → f ≠ [] → (f.head? = some 48 → f = [48]) → decD (digitsVal f) = f := by
  intro f
  induction hn : f.length generalizing f with
  | zero => intro _ h; exact absurd (List.length_eq_zero_iff.mp hn) h
  | succ k ih =>
    intro h hne hh
    obtain ⟨g, c, rfl⟩ : ∃ g c, f = g ++ [c] := by
      rcases List.eq_nil_or_concat f with e | ⟨g, c, e⟩
      · subst e; simp at hn
      · exact ⟨g, c, by simpa using e⟩
    have h2 := h c (by simp)
    cases g with
    | nil =>
      have e : digitsVal ([] ++ [c]) = c - 48 := by rw [digitsVal_snoc]; simp [digitsVal]
      rw [e, decD_small (by omega)]
      simp; omega
    | cons x g =>
      have hx : (x :: g).head? ≠ some 48 := fun e => by
        have := hh (by simpa using e)
        simp at this
      have ha : AllDigits (x :: g) := fun d hd => h d (List.mem_append_left _ hd)
      have hp := digitsVal_pos (x :: g) ha (by simp) hx
      have hi := ih (x :: g) (by simpa using hn) ha (by simp) (fun e => absurd e hx)
      rw [digitsVal_snoc, decD_step (by omega), show (digitsVal (x :: g) * 10 + (c - 48)) / 10 = digitsVal (x :: g) by omega, hi]
      congr 1
      simp; omega
/-! ### strings -/
theorem strM_nil (a : Nat) (acc : Cs) : strM [] a acc = .error a := by rfl
theorem strM_cons (c : Nat) (r : Cs) (a : Nat) (acc : Cs) : strM (c :: r) a acc = if c = 34 then .ok (acc, a + 1) else if c ∈ sgnList then (if c = 92 then (match r with
    | [] => .error (a + 1)
    | c2 :: r2 => if c2 = 34 ∨ c2 = 92 then strM r2 (a + 2) (acc ++ [c2]) else .error (a + 1)) else strM r (a + 1) (acc ++ [c])) else .error a := by cases r <;> rfl
theorem numM_cons (c : Nat) (r : Cs) (a : Nat) : numM (c :: r) a = if c = 45 then (match r with
      | [] => .ok (.none, a + 1)
      | c1 :: r2 => if isDig c1 then (if c1 = 48 then .error (a + 1) else match digM [c1] r2 (a + 2) with
            | .ok (f, a') => .ok (.int (-(digitsVal f : Int)), a')
            | .error i => .error i) else .ok (.none, a + 1))
    else if isDig c then (match digM [c] r (a + 1) with
      | .ok (f, a') => .ok (.int (digitsVal f : Int), a')
      | .error i => .error i) else .error a := by cases r <;> rfl
theorem strM_run (len : Nat) (o n : Int) : ∀ (r : Cs) (a : Nat) (acc : Cs), a + r.length = len →
    match strM r a acc with
    | .ok (s, a') => ∃ s1 rest, s = acc ++ s1 ∧ (∀ c ∈ s1, c ∈ sgnList) ∧ r = escT s1 ++ 34 :: rest ∧ a' = a + (escT s1).length + 1 ∧ runA ⟨.str, o, n⟩ r a = runA ⟨.fin, o, n⟩ rest a'
    | .error i => verdict len (runA ⟨.str, o, n⟩ r a) = i
  | [], a, acc, h => by
    simp only [List.length_nil, Nat.add_zero] at h
    rw [strM_nil]
    show (if accept ⟨.str, o, n⟩ then (-1 : Int) else len) = a
    rw [show accept ⟨.str, o, n⟩ = false by simp [accept], h]
    rfl
  | c :: r, a, acc, h => by
    rw [List.length_cons] at h
    rw [strM_cons]
    by_cases h34 : c = 34
    · subst h34
      simp only [if_pos]
      exact ⟨[], r, by simp, by simp, by simp [escT], by simp [escT], by simp [runA, fitsA]⟩
    rw [if_neg h34]
    by_cases hs : c ∈ sgnList
    · rw [if_pos hs]
      by_cases h92 : c = 92
      · subst h92
        simp only [if_pos]
        cases r with
        | nil =>
          simp only [List.length_nil] at h
          simp [runA, fitsA, verdict, accept]
          omega
        | cons c2 r2 =>
          rw [List.length_cons] at h
          by_cases h2 : c2 = 34 ∨ c2 = 92
          · simp only [if_pos h2]
            have ih := strM_run len o n r2 (a + 2) (acc ++ [c2]) (by omega)
            have hr : runA ⟨.str, o, n⟩ (92 :: c2 :: r2) a = runA ⟨.str, o, n⟩ r2 (a + 2) := by simp [runA, fitsA, h2]
            have he : esc1 c2 = [92, c2] := by unfold esc1; rw [if_pos h2]
            cases e : strM r2 (a + 2) (acc ++ [c2]) with
            | ok p =>
              obtain ⟨s, a'⟩ := p
              rw [e] at ih
              obtain ⟨s1, rest, h1, h3, h4, h5, h6⟩ := ih
              refine ⟨c2 :: s1, rest, by rw [h1]; simp, ?_, by rw [escT_cons, he, h4]; simp, by rw [escT_cons, he, h5]; simp; omega, by rw [hr, h6]⟩
              intro d hd
              rcases List.mem_cons.mp hd with rfl | hd
              · rcases h2 with rfl | rfl
                · exact sgn_q
                · exact sgn_b
              · exact h3 d hd
            | error i =>
              rw [e] at ih
              show verdict len (runA ⟨.str, o, n⟩ (92 :: c2 :: r2) a) = i
              rw [hr]
              exact ih
          · simp only [if_neg h2]
            simp [runA, fitsA, h2, verdict]
      · rw [if_neg h92]
        have ih := strM_run len o n r (a + 1) (acc ++ [c]) (by omega)
        have hr : runA ⟨.str, o, n⟩ (c :: r) a = runA ⟨.str, o, n⟩ r (a + 1) := by simp [runA, fitsA, h34, h92, hs]
        have he : esc1 c = [c] := by unfold esc1; rw [if_neg (by omega)]
        cases e : strM r (a + 1) (acc ++ [c]) with
        | ok p =>
          obtain ⟨s, a'⟩ := p
          rw [e] at ih
          obtain ⟨s1, rest, h1, h3, h4, h5, h6⟩ := ih
          refine ⟨c :: s1, rest, by rw [h1]; simp, ?_, by rw [escT_cons, he, h4]; simp, by rw [escT_cons, he, h5]; simp; omega, by rw [hr, h6]⟩
          intro d hd
          rcases List.mem_cons.mp hd with rfl | hd
          · exact hs
          · exact h3 d hd
        | error i =>
          rw [e] at ih
          show verdict len (runA ⟨.str, o, n⟩ (c :: r) a) = i
          rw [hr]
          exact ih
    · rw [if_neg hs]
      have h92 : c ≠ 92 := fun e => hs (e ▸ sgn_b)
      show verdict len (runA ⟨.str, o, n⟩ (c :: r) a) = a
      simp [runA, fitsA, h34, h92, hs, verdict]
/-! ### digits -/
theorem digM_run (len : Nat) (o n : Int) : ∀ (r f : Cs) (a : Nat), f ≠ [48] → f.length ≤ 100 → f ≠ [] →
    match digM f r a with
    | .ok (g, a') => ∃ ds rest, g = f ++ ds ∧ AllDigits ds ∧ r = ds ++ rest ∧ a' = a + ds.length ∧ g.length ≤ 100 ∧ Stop rest ∧ runA ⟨.digits (100 - f.length), o, n⟩ r a = runA ⟨.digits (100 - g.length), o, n⟩ rest a'
    | .error i => verdict len (runA ⟨.digits (100 - f.length), o, n⟩ r a) = i
  | [], f, a, _, hl, _ => by
    simp only [digM]
    exact ⟨[], [], by simp, fun _ h => by simp at h, rfl, rfl, hl, fun _ _ e => by simp at e, rfl⟩
  | c :: r, f, a, h48, hl, hne => by
    unfold digM
    by_cases hd : isDig c
    · rw [if_pos hd]
      by_cases hf : f ≠ [48] ∧ f.length < 100
      · rw [if_pos hf]
        have n48 : f ++ [c] ≠ [48] := fun e => by
          have := congrArg List.length e
          simp only [List.length_append, List.length_cons, List.length_nil] at this
          have : f.length ≠ 0 := by simpa using hne
          omega
        have ih := digM_run len o n r (f ++ [c]) (a + 1) n48 (by simp; omega) (by simp)
        have hr : runA ⟨.digits (100 - f.length), o, n⟩ (c :: r) a = runA ⟨.digits (100 - (f ++ [c]).length), o, n⟩ r (a + 1) := by
          simp only [runA, fitsA, if_pos hd]
          rw [if_pos (by omega)]
          have e : (100 : Int) - f.length - 1 = 100 - (f ++ [c]).length := by simp; omega
          simp only [e]
        cases e : digM (f ++ [c]) r (a + 1) with
        | ok p =>
          obtain ⟨g, a'⟩ := p
          rw [e] at ih
          obtain ⟨ds, rest, h1, h2, h3, h4, h5, h6, h7⟩ := ih
          refine ⟨c :: ds, rest, by rw [h1]; simp, ?_, by rw [h3]; simp, by rw [h4]; simp; omega, h5, h6, by rw [hr, h7]⟩
          intro d hd'
          rcases List.mem_cons.mp hd' with rfl | hd'
          · exact hd
          · exact h2 d hd'
        | error i =>
          rw [e] at ih
          show verdict len (runA ⟨.digits (100 - f.length), o, n⟩ (c :: r) a) = i
          rw [hr]
          exact ih
      · rw [if_neg hf]
        have : f.length = 100 := by
          have := not_and.mp hf h48
          omega
        show verdict len (runA ⟨.digits (100 - f.length), o, n⟩ (c :: r) a) = a
        simp only [runA, fitsA, if_pos hd]
        rw [if_neg (by omega)]
        rfl
    · rw [if_neg hd]
      exact ⟨[], c :: r, by simp, fun _ h => by simp at h, rfl, rfl, hl, fun c' r' e => by simp at e; exact e.1 ▸ hd, rfl⟩
/-- behind a part -/
def Done (m : Md) (rest : Cs) : Prop := m = .fin ∨ ((m = .minus ∨ ∃ k, m = .digits k) ∧ Stop rest)
theorem done_fits {m : Md} {rest r : Cs} {c : Nat} {o n : Int} (h : Done m rest) (e : rest = c :: r) : fitsA ⟨m, o, n⟩ c = behind ⟨m, o, n⟩ c := by
  rcases h with rfl | ⟨rfl | ⟨k, rfl⟩, hs⟩
  · rfl
  · have := hs c r e
    simp only [fitsA]
    rw [if_neg (fun z => this z.1)]
  · have := hs c r e
    simp only [fitsA]
    rw [if_neg this]
theorem behind_m {m m' : Md} {o n : Int} {c : Nat} : behind ⟨m, o, n⟩ c = behind ⟨m', o, n⟩ c := rfl
theorem run_part {o n : Int} {c : Nat} {r : Cs} {a : Nat} : runA ⟨.part, o, n⟩ (c :: r) a = match begins ⟨.part, o, n⟩ c with | none => .inl a | some s' => runA s' r (a + 1) := rfl
theorem begins_dig {o n : Int} {c : Nat} (h1 : o ≤ 29) (h2 : n ≤ 1999) (hd : isDig c) (h0 : c ≠ 48) : begins ⟨.part, o, n⟩ c = some ⟨.digits 99, o, n + 1⟩ := by
  unfold isDig at hd
  unfold begins
  have g : ¬ (o > 29 ∨ n > 1999) := by omega
  simp only [if_neg g]
  rw [if_neg (by omega), if_neg (by omega), if_neg h0, if_neg (by omega), if_neg (by omega), if_neg (by omega), if_pos (by unfold isDig; omega)]
/-! ### numbers -/
theorem numM_run (len : Nat) {o n : Int} (h1 : o ≤ 29) (h2 : n ≤ 1999) {c : Nat} {r : Cs} {a : Nat} (hc : c ≠ 40 ∧ c ≠ 34 ∧ c ≠ 121 ∧ c ≠ 110) (hl : a + (c :: r).length = len) :
    match numM (c :: r) a with
    | .ok (t, a') => ∃ rest m, good t ∧ hgt t = 1 ∧ cnt t = 1 ∧ c :: r = txt t ++ rest ∧ a' = a + (txt t).length ∧ Done m rest ∧ runA ⟨.part, o, n⟩ (c :: r) a = runA ⟨m, o, n + 1⟩ rest a'
    | .error i => verdict len (runA ⟨.part, o, n⟩ (c :: r) a) = i := by
  have g : ¬ (o > 29 ∨ n > 1999) := by omega
  rw [numM_cons]
  by_cases h45 : c = 45
  · subst h45
    simp only [if_pos]
    have hb : begins ⟨.part, o, n⟩ 45 = some ⟨.minus, o, n + 1⟩ := by unfold begins; simp only [if_neg g]; rfl
    cases r with
    | nil => exact ⟨[], .minus, by simp [good], by simp [hgt], by simp [cnt], rfl, rfl, .inr ⟨.inl rfl, fun _ _ e => by simp at e⟩, by rw [run_part, hb]⟩
    | cons c1 r2 =>
      by_cases hd : isDig c1
      · simp only [if_pos hd]
        by_cases h0 : c1 = 48
        · subst h0
          simp only [if_pos]
          rw [run_part, hb]
          simp [runA, fitsA, behind, verdict]
        · rw [if_neg h0]
          have hr : runA ⟨.part, o, n⟩ (45 :: c1 :: r2) a = runA ⟨.digits 99, o, n + 1⟩ r2 (a + 2) := by
            rw [run_part, hb]
            simp only [runA, fitsA, if_pos (And.intro hd h0)]
          have ih := digM_run len o (n + 1) r2 [c1] (a + 2) (by simpa using h0) (by simp) (by simp)
          have e99 : (100 : Int) - ([c1] : Cs).length = 99 := by simp
          rw [e99] at ih
          cases e : digM [c1] r2 (a + 2) with
          | ok p =>
            obtain ⟨gd, a'⟩ := p
            rw [e] at ih
            obtain ⟨ds, rest, q1, q2, q3, q4, q5, q6, q7⟩ := ih
            have hall : AllDigits gd := by
              rw [q1]; intro x hx
              rcases List.mem_append.mp hx with hx | hx
              · simp at hx; subst hx; exact hd
              · exact q2 x hx
            have hgn : gd ≠ [] := by rw [q1]; simp
            have hh : gd.head? ≠ some 48 := by rw [q1]; simpa using h0
            have hv := digitsVal_pos gd hall hgn hh
            have ed := decD_of gd hall hgn (fun z => absurd z hh)
            have et : txt (.int (-(digitsVal gd : Int))) = 45 :: gd := by
              simp only [txt, numT]
              rw [if_pos (by omega), show (-(digitsVal gd : Int)).natAbs = digitsVal gd by omega, ed]
            refine ⟨rest, .digits (100 - gd.length), ?_, by simp [hgt], by simp [cnt], ?_, ?_, .inr ⟨.inr ⟨_, rfl⟩, q6⟩, by rw [hr, q7]⟩
            · simp only [good]
              have := digitsVal_lt gd hall
              have h3 : 10 ^ gd.length ≤ 10 ^ 100 := Nat.pow_le_pow_right (by decide) q5
              omega
            · rw [et, q1, q3]; simp
            · rw [et, q4, q1]; simp; omega
          | error i =>
            rw [e] at ih
            show verdict len (runA ⟨.part, o, n⟩ (45 :: c1 :: r2) a) = i
            rw [hr]
            exact ih
      · simp only [if_neg hd]
        exact ⟨c1 :: r2, .minus, by simp [good], by simp [hgt], by simp [cnt], rfl, rfl, .inr ⟨.inl rfl, fun c' r' e => by simp at e; exact e.1 ▸ hd⟩, by rw [run_part, hb]⟩
  · rw [if_neg h45]
    by_cases hd : isDig c
    · rw [if_pos hd]
      by_cases h0 : c = 48
      · subst h0
        have hb : begins ⟨.part, o, n⟩ 48 = some ⟨.fin, o, n + 1⟩ := by unfold begins; simp only [if_neg g]; rfl
        cases r with
        | nil =>
          simp only [digM]
          exact ⟨[], .fin, by simp only [good]; decide +kernel, by simp [hgt], by simp [cnt], rfl, rfl, .inl rfl, by rw [run_part, hb]⟩
        | cons c1 r2 =>
          unfold digM
          by_cases hd1 : isDig c1
          · simp only [if_pos hd1]
            rw [if_neg (by simp)]
            show verdict len (runA ⟨.part, o, n⟩ (48 :: c1 :: r2) a) = ((a + 1 : Nat) : Int)
            rw [run_part, hb]
            unfold isDig at hd1
            have b0 : behind ⟨.fin, o, n + 1⟩ c1 = none := by unfold behind; rw [if_neg (by omega), if_neg (by omega)]
            simp only [runA, fitsA, b0, verdict]
          · simp only [if_neg hd1]
            exact ⟨c1 :: r2, .fin, by simp only [good]; decide +kernel, by simp [hgt], by simp [cnt], rfl, rfl, .inl rfl, by rw [run_part, hb]⟩
      · have hb := begins_dig h1 h2 hd h0
        have hr : runA ⟨.part, o, n⟩ (c :: r) a = runA ⟨.digits 99, o, n + 1⟩ r (a + 1) := by rw [run_part, hb]
        have ih := digM_run len o (n + 1) r [c] (a + 1) (by simpa using h0) (by simp) (by simp)
        have e99 : (100 : Int) - ([c] : Cs).length = 99 := by simp
        rw [e99] at ih
        cases e : digM [c] r (a + 1) with
        | ok p =>
          obtain ⟨gd, a'⟩ := p
          rw [e] at ih
          obtain ⟨ds, rest, q1, q2, q3, q4, q5, q6, q7⟩ := ih
          have hall : AllDigits gd := by
            rw [q1]; intro x hx
            rcases List.mem_append.mp hx with hx | hx
            · simp at hx; subst hx; exact hd
            · exact q2 x hx
          have hgn : gd ≠ [] := by rw [q1]; simp
          have hh : gd.head? ≠ some 48 := by rw [q1]; simpa using h0
          have ed := decD_of gd hall hgn (fun z => absurd z hh)
          have et : txt (.int (digitsVal gd : Int)) = gd := by
            simp only [txt, numT]
            rw [if_neg (by omega), show ((digitsVal gd : Int)).natAbs = digitsVal gd by omega, ed]
          refine ⟨rest, .digits (100 - gd.length), ?_, by simp [hgt], by simp [cnt], ?_, ?_, .inr ⟨.inr ⟨_, rfl⟩, q6⟩, by rw [hr, q7]⟩
          · simp only [good]
            have := digitsVal_lt gd hall
            have h3 : 10 ^ gd.length ≤ 10 ^ 100 := Nat.pow_le_pow_right (by decide) q5
            omega
          · rw [et, q1, q3]; simp
          · rw [et, q4, q1]; simp; omega
        | error i =>
          rw [e] at ih
          show verdict len (runA ⟨.part, o, n⟩ (c :: r) a) = i
          rw [hr]
          exact ih
    · rw [if_neg hd]
      have hb : begins ⟨.part, o, n⟩ c = none := by
        unfold isDig at hd
        unfold begins
        simp only [if_neg g]
        rw [if_neg hc.1, if_neg h45, if_neg (by omega), if_neg hc.2.1, if_neg hc.2.2.1, if_neg hc.2.2.2, if_neg (by unfold isDig; omega)]
      show verdict len (runA ⟨.part, o, n⟩ (c :: r) a) = a
      rw [run_part, hb]
      rfl
/-! ### words -/
theorem wrdM_run (len : Nat) (o n : Int) : ∀ (ws r : Cs) (a : Nat), ws ≠ [] → a + r.length = len →
    match wrdM ws r a with
    | .ok a' => ∃ rest, r = ws ++ rest ∧ a' = a + ws.length ∧ runA ⟨.word ws, o, n⟩ r a = runA ⟨.fin, o, n⟩ rest a'
    | .error i => verdict len (runA ⟨.word ws, o, n⟩ r a) = i
  | [], _, _, h, _ => absurd rfl h
  | w :: ws, [], a, _, hl => by
    show (if accept ⟨.word (w :: ws), o, n⟩ then (-1 : Int) else len) = a
    rw [show accept ⟨.word (w :: ws), o, n⟩ = false by simp [accept]]
    simp at hl
    simp [hl]
  | w :: ws, c :: r, a, _, hl => by
    rw [List.length_cons] at hl
    unfold wrdM
    by_cases h : c = w
    · subst h
      simp only [if_pos]
      have hr : runA ⟨.word (c :: ws), o, n⟩ (c :: r) a = runA ⟨if ws = [] then .fin else .word ws, o, n⟩ r (a + 1) := by by_cases hw : ws = [] <;> simp [runA, fitsA, hw]
      cases ws with
      | nil => exact ⟨r, rfl, rfl, by rw [hr]; rfl⟩
      | cons w2 ws =>
        have ih := wrdM_run len o n (w2 :: ws) r (a + 1) (by simp) (by omega)
        rw [if_neg (by simp)] at hr
        cases e : wrdM (w2 :: ws) r (a + 1) with
        | ok a' =>
          rw [e] at ih
          obtain ⟨rest, h1, h2, h3⟩ := ih
          exact ⟨rest, by rw [h1]; rfl, by rw [h2]; simp; omega, by rw [hr, h3]⟩
        | error i =>
          rw [e] at ih
          show verdict len (runA ⟨.word (c :: w2 :: ws), o, n⟩ (c :: r) a) = i
          rw [hr]; exact ih
    · simp only [if_neg h]
      show verdict len (runA ⟨.word (w :: ws), o, n⟩ (c :: r) a) = a
      have : ¬ (w :: ws).head? = some c := by simpa using fun e => h e.symm
      simp only [runA, fitsA, if_neg this, verdict]
/-! ### trees -/
def OkR (z : Cs) (d a n : Nat) : Except Nat (PyData × Nat × Nat) → Prop
  | .ok (t, a', n') => ∃ m, good t ∧ d + hgt t ≤ 30 ∧ n' = n + cnt t ∧ n' ≤ 2000 ∧ z.drop a = txt t ++ z.drop a' ∧ a' = a + (txt t).length ∧ Done m (z.drop a') ∧ runA ⟨.part, d, n⟩ (z.drop a) a = runA ⟨m, d, n'⟩ (z.drop a') a'
  | .error i => verdict z.length (runA ⟨.part, d, n⟩ (z.drop a) a) = i
def OkT (z : Cs) (d a n : Nat) (acc : List PyData) : Except Nat (PyData × Nat × Nat) → Prop
  | .ok (t, a', n') => ∃ ts, ts ≠ [] ∧ t = .tuple (acc ++ ts) ∧ goodAll ts ∧ d + hgtAll ts ≤ 30 ∧ n' = n + cntAll ts ∧ n' ≤ 2000 ∧ z.drop a = txtAll ts ++ 41 :: z.drop a' ∧ a' = a + (txtAll ts).length + 1 ∧
      runA ⟨.part, d, n⟩ (z.drop a) a = runA ⟨.fin, (d : Int) - 1, n'⟩ (z.drop a') a'
  | .error i => verdict z.length (runA ⟨.part, d, n⟩ (z.drop a) a) = i
theorem drop_len {z : Cs} {a : Nat} {c : Nat} {r : Cs} (h : z.drop a = c :: r) : a + (c :: r).length = z.length := by
  have := congrArg List.length h
  rw [List.length_drop, List.length_cons] at this
  rw [List.length_cons]; omega
theorem drop_next {z : Cs} {a : Nat} {c : Nat} {r : Cs} (h : z.drop a = c :: r) : z.drop (a + 1) = r := by rw [← List.drop_drop, h]; rfl
theorem drop_far {z : Cs} {a : Nat} {l r : Cs} (h : z.drop a = l ++ r) : z.drop (a + l.length) = r := by rw [← List.drop_drop, h]; simp
theorem first_part (len : Nat) (o n : Int) (r : Cs) (a : Nat) (h : ∀ r', r ≠ 41 :: r') : verdict len (runA ⟨.first, o, n⟩ r a) = verdict len (runA ⟨.part, o, n⟩ r a) ∧ (r ≠ [] → runA ⟨.first, o, n⟩ r a = runA ⟨.part, o, n⟩ r a) := by
  cases r with
  | nil => exact ⟨by simp [runA, verdict, accept], fun z => absurd rfl z⟩
  | cons c r =>
    have hc : c ≠ 41 := fun e => h r (by rw [e])
    have : runA ⟨.first, o, n⟩ (c :: r) a = runA ⟨.part, o, n⟩ (c :: r) a := by simp [runA, fitsA, hc, begins]
    exact ⟨by rw [this], fun _ => this⟩
theorem begins_no {o n : Int} {c : Nat} (h : ¬ (o ≤ 29 ∧ n ≤ 1999)) : begins ⟨.part, o, n⟩ c = none := by
  unfold begins; rw [if_pos (by show o > 29 ∨ n > 1999; omega)]
theorem run_no (len : Nat) {o n : Int} {r : Cs} {a : Nat} (h : ¬ (o ≤ 29 ∧ n ≤ 1999)) (hl : r = [] → a = len) : verdict len (runA ⟨.part, o, n⟩ r a) = a := by
  cases r with
  | nil => simp [runA, verdict, accept, hl rfl]
  | cons c r => rw [run_part, begins_no h]; rfl
theorem run_end (len : Nat) {o n : Int} {a : Nat} (hl : a = len) : verdict len (runA ⟨.part, o, n⟩ [] a) = a := by simp [runA, verdict, accept, hl]
theorem cnt_ge (t : PyData) : 1 ≤ cnt t := by cases t <;> simp [cnt]
mutual
theorem readM_run (z : Cs) : ∀ (f d a n : Nat) (r : Except Nat (PyData × Nat × Nat)), a ≤ z.length → readM z f d a n = some r → OkR z d a n r
  | 0, d, a, n, r, _, h => by simp [readM] at h
  | f + 1, d, a, n, r, ha, h => by
    unfold readM at h
    by_cases hb : d < 30 ∧ n < 2000
    · rw [if_pos hb] at h
      have g1 : (d : Int) ≤ 29 := by omega
      have g2 : (n : Int) ≤ 1999 := by omega
      have g : ¬ ((d : Int) > 29 ∨ (n : Int) > 1999) := by omega
      cases hd : z.drop a with
      | nil =>
        rw [hd] at h
        obtain rfl := Option.some.inj h
        show verdict z.length (runA _ (z.drop a) a) = a
        rw [hd]
        exact run_end _ (by have := congrArg List.length hd; rw [List.length_drop] at this; simp at this; omega)
      | cons c r0 =>
        rw [hd] at h
        have hdn := drop_next hd
        have hl := drop_len hd
        simp only at h
        by_cases h40 : c = 40
        · subst h40
          rw [if_pos rfl] at h
          have hbg : begins ⟨.part, d, n⟩ 40 = some ⟨.first, (d : Int) + 1, (n : Int) + 1⟩ := by unfold begins; simp only [if_neg g]; rfl
          have hrun : runA ⟨.part, d, n⟩ (z.drop a) a = runA ⟨.first, ((d + 1 : Nat) : Int), ((n + 1 : Nat) : Int)⟩ (z.drop (a + 1)) (a + 1) := by
            rw [hd, run_part, hbg, hdn]
            push_cast
            rfl
          by_cases h41 : ∃ r', r0 = 41 :: r'
          · obtain ⟨r', rfl⟩ := h41
            simp only at h
            obtain rfl := Option.some.inj h
            have hd2 : z.drop (a + 2) = r' := drop_next hdn
            refine ⟨.fin, by simp [good, goodAll], by simp [hgt, hgtAll]; omega, by simp [cnt, cntAll], by omega, ?_, rfl, .inl rfl, ?_⟩
            · rw [hd, hd2]; rfl
            · rw [hrun, hdn, hd2]
              have : behind ⟨.first, ((d + 1 : Nat) : Int), ((n + 1 : Nat) : Int)⟩ 41 = some ⟨.fin, d, ((n + 1 : Nat) : Int)⟩ := by
                unfold behind
                rw [if_neg (by omega), if_pos (by simp)]
                simp
              simp only [runA, fitsA, if_pos, this]
          · have no41 : ∀ r', r0 ≠ 41 :: r' := fun r' e => h41 ⟨r', e⟩
            have h' : tupM z f (d + 1) (a + 1) (n + 1) [] = some r := by
              cases r0 with
              | nil => exact h
              | cons c1 r1 =>
                have : c1 ≠ 41 := fun e => no41 r1 (by rw [e])
                split at h
                · rename_i e; simp at e; exact absurd e.1 this
                · exact h
            have ih := tupM_run z f (d + 1) (a + 1) (n + 1) [] r (by simp at hl; omega) (by omega) h'
            have fp := first_part z.length ((d + 1 : Nat) : Int) ((n + 1 : Nat) : Int) (z.drop (a + 1)) (a + 1) (by rw [hdn]; exact no41)
            match r, ih with
            | .ok (t, a', n'), ih =>
              obtain ⟨ts, q0, q1, q2, q3, q4, q4', q5, q6, q7⟩ := ih
              simp only [List.nil_append] at q1
              subst q1
              refine ⟨.fin, by simpa [good] using q2, by simp only [hgt]; omega, by simp only [cnt]; omega, q4', ?_, by simp only [txt, List.length_cons, List.length_append, List.length_nil]; omega, .inl rfl, ?_⟩
              · rw [hd, ← hdn, q5]; simp [txt]
              · have ne : z.drop (a + 1) ≠ [] := by rw [q5]; simp
                rw [hrun, fp.2 ne, q7]
                congr 2
                push_cast; omega
            | .error i, ih =>
              show verdict z.length (runA ⟨.part, d, n⟩ (z.drop a) a) = i
              rw [hrun, fp.1]
              exact ih
        · rw [if_neg h40] at h
          by_cases h34 : c = 34
          · subst h34
            rw [if_pos rfl] at h
            obtain rfl := Option.some.inj h
            have hbg : begins ⟨.part, d, n⟩ 34 = some ⟨.str, d, (n : Int) + 1⟩ := by unfold begins; simp only [if_neg g]; rfl
            have hrun : runA ⟨.part, d, n⟩ (z.drop a) a = runA ⟨.str, d, (n : Int) + 1⟩ r0 (a + 1) := by rw [hd, run_part, hbg]
            have sr := strM_run z.length (d : Int) ((n : Int) + 1) r0 (a + 1) [] (by rw [List.length_cons] at hl; omega)
            cases e : strM r0 (a + 1) [] with
            | ok p =>
              obtain ⟨s, a'⟩ := p
              rw [e] at sr
              obtain ⟨s1, rest, q1, q2, q3, q4, q5⟩ := sr
              simp only [List.nil_append] at q1
              subst q1
              have et : txt (.str (S s)) = 34 :: (escT s ++ [34]) := by simp only [txt, S_cps]
              have hlen : (txt (.str (S s))).length = (escT s).length + 2 := by rw [et]; simp
              have hfull : z.drop a = txt (.str (S s)) ++ rest := by rw [hd, et, q3]; simp
              have hrest := drop_far hfull
              refine ⟨.fin, by simpa [good, S_cps] using q2, by simp [hgt]; omega, by simp [cnt], by omega, ?_, by rw [q4, hlen]; omega, .inl rfl, ?_⟩
              · rw [hfull, show a' = a + (txt (.str (S s))).length by rw [q4, hlen]; omega, hrest]
              · rw [hrun, q5, show a' = a + (txt (.str (S s))).length by rw [q4, hlen]; omega, hrest]
                push_cast
                rfl
            | error i =>
              rw [e] at sr
              show verdict z.length (runA ⟨.part, d, n⟩ (z.drop a) a) = i
              rw [hrun]; exact sr
          · rw [if_neg h34] at h
            have wordCase : ∀ (b : Bool) (w : Nat) (ws : Cs), c = w → ws ≠ [] → txt (.bool b) = w :: ws → begins ⟨.part, d, n⟩ w = some ⟨.word ws, d, (n : Int) + 1⟩ →
                r = (match wrdM (w :: ws) (c :: r0) a with | .ok a' => .ok (.bool b, a', n + 1) | .error i => .error i) → OkR z d a n r := by
              intro b w ws hw hws et hbg hr
              subst hw
              have hrun : runA ⟨.part, d, n⟩ (z.drop a) a = runA ⟨.word ws, d, (n : Int) + 1⟩ r0 (a + 1) := by rw [hd, run_part, hbg]
              have wr := wrdM_run z.length (d : Int) ((n : Int) + 1) ws r0 (a + 1) hws (by rw [List.length_cons] at hl; omega)
              have hstep : wrdM (c :: ws) (c :: r0) a = wrdM ws r0 (a + 1) := by rw [wrdM, if_pos rfl]
              rw [hstep] at hr
              cases e : wrdM ws r0 (a + 1) with
              | ok a' =>
                rw [e] at wr hr
                subst hr
                obtain ⟨rest, q1, q2, q3⟩ := wr
                have hlen : (txt (.bool b)).length = ws.length + 1 := by rw [et]; simp
                have hfull : z.drop a = txt (.bool b) ++ rest := by rw [hd, et, q1]; simp
                have hrest := drop_far hfull
                refine ⟨.fin, by simp [good], by simp [hgt]; omega, by simp [cnt], by omega, ?_, by rw [q2, hlen]; omega, .inl rfl, ?_⟩
                · rw [hfull, show a' = a + (txt (.bool b)).length by rw [q2, hlen]; omega, hrest]
                · rw [hrun, q3, show a' = a + (txt (.bool b)).length by rw [q2, hlen]; omega, hrest]
                  push_cast
                  rfl
              | error i =>
                rw [e] at wr hr
                subst hr
                show verdict z.length (runA ⟨.part, d, n⟩ (z.drop a) a) = i
                rw [hrun]; exact wr
            by_cases h121 : c = 121
            · rw [if_pos h121] at h
              exact wordCase true 121 [101, 115] h121 (by simp) rfl (by unfold begins; simp only [if_neg g]; rfl) (Option.some.inj h).symm
            · rw [if_neg h121] at h
              by_cases h110 : c = 110
              · rw [if_pos h110] at h
                exact wordCase false 110 [111] h110 (by simp) rfl (by unfold begins; simp only [if_neg g]; rfl) (Option.some.inj h).symm
              · rw [if_neg h110] at h
                obtain rfl := Option.some.inj h
                have nr := numM_run z.length g1 g2 (c := c) (r := r0) (a := a) ⟨h40, h34, h121, h110⟩ hl
                cases e : numM (c :: r0) a with
                | ok p =>
                  obtain ⟨t, a'⟩ := p
                  rw [e] at nr
                  obtain ⟨rest, m, q1, q2, q3, q4, q5, q6, q7⟩ := nr
                  have hfull : z.drop a = txt t ++ rest := by rw [hd, q4]
                  have hrest := drop_far hfull
                  refine ⟨m, q1, by rw [q2]; omega, by rw [q3], by omega, by rw [hfull, q5, hrest], q5, by rw [q5, hrest]; exact q6, ?_⟩
                  rw [hd, q7, q5, hrest]
                  push_cast
                  rfl
                | error i =>
                  rw [e] at nr
                  show verdict z.length (runA ⟨.part, d, n⟩ (z.drop a) a) = i
                  rw [hd]; exact nr
    · rw [if_neg hb] at h
      obtain rfl := Option.some.inj h
      show verdict z.length (runA _ (z.drop a) a) = a
      exact run_no _ (by omega) (fun e => by have := congrArg List.length e; rw [List.length_drop] at this; simp at this; omega)
theorem tupM_run (z : Cs) : ∀ (f d a n : Nat) (acc : List PyData) (r : Except Nat (PyData × Nat × Nat)), a ≤ z.length → 1 ≤ d → tupM z f d a n acc = some r → OkT z d a n acc r
  | 0, d, a, n, acc, r, _, _, h => by simp [tupM] at h
  | f + 1, d, a, n, acc, r, ha, hd1, h => by
    unfold tupM at h
    cases e : readM z f d a n with
    | none => rw [e] at h; simp at h
    | some x =>
      rw [e] at h
      have ih := readM_run z f d a n x ha e
      match x, ih with
      | .error i, ih =>
        simp only at h
        obtain rfl := Option.some.inj h
        exact ih
      | .ok (t, a', n'), ih =>
        obtain ⟨m, p1, p2, p3, p4, p5, p6, p7, p8⟩ := ih
        simp only at h
        have ha' : a' ≤ z.length := by
          have := congrArg List.length p5
          rw [List.length_drop, List.length_append, List.length_drop] at this
          omega
        have stop : ∀ (i : Nat), i = a' → (∀ c r', z.drop a' = c :: r' → behind ⟨m, d, n'⟩ c = none) → verdict z.length (runA ⟨.part, d, n⟩ (z.drop a) a) = i := by
          intro i hi hb
          rw [p8]
          cases ez : z.drop a' with
          | nil =>
            have hlen : a' = z.length := by have := congrArg List.length ez; rw [List.length_drop] at this; simp at this; omega
            have hac : accept ⟨m, d, n'⟩ = false := by simp only [accept]; rw [decide_eq_false (by simp; omega)]; rfl
            show (if accept ⟨m, d, n'⟩ then (-1 : Int) else z.length) = i
            rw [hac, hi, hlen]
            rfl
          | cons c r' =>
            simp only [runA]
            rw [done_fits (ez ▸ p7) rfl, hb c r' ez, hi]
            rfl
        split at h
        · rename_i r' ez
          obtain rfl := Option.some.inj h
          have hn := drop_next ez
          refine ⟨[t], by simp, rfl, by simp [goodAll, p1], by simp [hgtAll]; omega, by simp [cntAll]; omega, p4, ?_, ?_, ?_⟩
          · rw [p5, ez, hn]; simp [txtAll, txtMore]
          · rw [p6]; simp [txtAll, txtMore]
          · rw [p8, ez, hn]
            simp only [runA]
            rw [done_fits (ez ▸ p7) rfl]
            unfold behind
            rw [if_neg (by omega), if_pos (by simp; omega)]
        · rename_i r' ez
          have hn := drop_next ez
          by_cases hr : n' < 2000
          · rw [if_pos hr] at h
            have ih2 := tupM_run z f d (a' + 1) n' (acc ++ [t]) r (by have := drop_len ez; rw [List.length_cons] at this; omega) hd1 h
            have hrun : runA ⟨.part, d, n⟩ (z.drop a) a = runA ⟨.part, d, n'⟩ (z.drop (a' + 1)) (a' + 1) := by
              rw [p8, ez, hn]
              simp only [runA]
              rw [done_fits (ez ▸ p7) rfl]
              unfold behind
              rw [if_pos ⟨rfl, by simp; omega, by simp; omega⟩]
            match r, ih2 with
            | .ok (u, b, k), ih2 =>
              obtain ⟨ts, s0, s1, s2, s3, s4, s4', s5, s6, s7⟩ := ih2
              obtain ⟨t0, t1, rfl⟩ : ∃ t0 t1, ts = t0 :: t1 := by
                cases ts with
                | nil => exact absurd rfl s0
                | cons x y => exact ⟨x, y, rfl⟩
              refine ⟨t :: t0 :: t1, by simp, by rw [s1]; simp, ⟨p1, s2⟩, ?_, ?_, s4', ?_, ?_, by rw [hrun, s7]⟩
              · simp only [hgtAll] at s3 ⊢; omega
              · simp only [cntAll] at s4 ⊢; omega
              · rw [p5, ez, ← hn, s5]; simp [txtAll, txtMore]
              · rw [s6, p6]; simp [txtAll, txtMore]; omega
            | .error i, ih2 =>
              show verdict z.length (runA ⟨.part, d, n⟩ (z.drop a) a) = i
              rw [hrun]; exact ih2
          · rw [if_neg hr] at h
            obtain rfl := Option.some.inj h
            exact stop a' rfl fun c r'' ec => by
              rw [ez] at ec
              obtain ⟨rfl, rfl⟩ := List.cons.inj ec
              unfold behind
              rw [if_neg (by simp; omega), if_neg (by simp)]
        · rename_i n1 n2
          obtain rfl := Option.some.inj h
          exact stop a' rfl fun c r'' ec => by
            unfold behind
            rw [if_neg (fun z => n2 r'' (by rw [ec, z.1])), if_neg (fun z => n1 r'' (by rw [ec, z.1]))]
end
end DS
set_option Elab.async false
set_option linter.all false
set_option maxRecDepth 100000
set_option maxHeartbeats 2000000
namespace DS
open PySem PySem.NumText
theorem txt_pos {t : PyData} (h : good t) : 1 ≤ (txt t).length := by
  obtain ⟨c, r, e, _⟩ := txt_head t h
  rw [e]; simp
/-! ### the fuel suffices -/
mutual
theorem readM_some (z : Cs) : ∀ (f d a n : Nat), a ≤ z.length → 2 * (z.length - a) + 1 ≤ f → ∃ r, readM z f d a n = some r
  | 0, d, a, n, _, h => by omega
  | f + 1, d, a, n, ha, h => by
    unfold readM
    split
    · split
      · exact ⟨_, rfl⟩
      · rename_i c r e
        have hl := drop_len e
        rw [List.length_cons] at hl
        split
        · split
          · exact ⟨_, rfl⟩
          · exact tupM_some z f (d + 1) (a + 1) (n + 1) [] (by omega) (by omega) (by omega)
        · split
          · exact ⟨_, rfl⟩
          · split
            · exact ⟨_, rfl⟩
            · split
              · exact ⟨_, rfl⟩
              · exact ⟨_, rfl⟩
    · exact ⟨_, rfl⟩
theorem tupM_some (z : Cs) : ∀ (f d a n : Nat) (acc : List PyData), a ≤ z.length → 1 ≤ d → 2 * (z.length - a) + 2 ≤ f → ∃ r, tupM z f d a n acc = some r
  | 0, d, a, n, acc, _, _, h => by omega
  | f + 1, d, a, n, acc, ha, hd, h => by
    obtain ⟨r, er⟩ := readM_some z f d a n ha (by omega)
    have ih := readM_run z f d a n r ha er
    unfold tupM
    rw [er]
    match r, ih with
    | .error i, _ => exact ⟨_, rfl⟩
    | .ok (t, a', n'), ih =>
      obtain ⟨m, p1, p2, p3, p4, p5, p6, p7, p8⟩ := ih
      have := txt_pos p1
      simp only
      split
      · exact ⟨_, rfl⟩
      · rename_i r' ez
        have hl := drop_len ez
        rw [List.length_cons] at hl
        split
        · exact tupM_some z f d (a' + 1) n' (acc ++ [t]) (by omega) hd (by omega)
        · exact ⟨_, rfl⟩
      · exact ⟨_, rfl⟩
end
/-- what read_tree tells of a text: the tree, or the index -/
def toldM (z : Cs) : Except Nat PyData :=
  match readM z (2 * z.length + 1) 0 0 0 with
  | some (.ok (t, a', _)) => if a' < z.length then .error a' else .ok t
  | some (.error i) => .error i
  | none => .error 0
theorem told_wrong (z : Cs) : match toldM z with
    | .ok t => good t ∧ hgt t ≤ 30 ∧ txt t = z ∧ wrongA z = -1
    | .error i => wrongA z = i ∧ i ≤ z.length := by
  obtain ⟨r, er⟩ := readM_some z (2 * z.length + 1) 0 0 0 (by omega) (by omega)
  have ih := readM_run z _ 0 0 0 r (by omega) er
  unfold toldM
  rw [er]
  match r, ih with
  | .error i, ih =>
    have e : wrongA z = i := ih
    refine ⟨e, ?_⟩
    have : ∀ (r : Cs) (s : As) (a : Nat), a + r.length = z.length → verdict z.length (runA s r a) ≤ z.length := by
      intro r
      induction r with
      | nil => intro s a h; simp only [runA, verdict]; split <;> omega
      | cons c r ih =>
        intro s a h
        rw [List.length_cons] at h
        simp only [runA]
        split
        · simp only [verdict]; omega
        · exact ih _ _ (by omega)
    have := this z ⟨.part, 0, 0⟩ 0 (by omega)
    have e2 : verdict z.length (runA ⟨.part, 0, 0⟩ z 0) = i := e
    rw [e2] at this
    omega
  | .ok (t, a', n'), ih =>
    obtain ⟨m, p1, p2, p3, p4, p5, p6, p7, p8⟩ := ih
    have p8' : runA ⟨.part, 0, 0⟩ z 0 = runA ⟨m, 0, n'⟩ (z.drop a') a' := p8
    have p5' : z = txt t ++ z.drop a' := p5
    simp only
    by_cases hl : a' < z.length
    · rw [if_pos hl]
      refine ⟨?_, Nat.le_of_lt hl⟩
      unfold wrongA
      rw [p8']
      have e : z.drop a' = z[a'] :: z.drop (a' + 1) := List.drop_eq_getElem_cons hl
      rw [e]
      simp only [runA]
      rw [done_fits (e ▸ p7) rfl]
      unfold behind
      rw [if_neg (by simp), if_neg (by simp)]
      rfl
    · rw [if_neg hl]
      have en : z.drop a' = [] := List.drop_eq_nil_of_le (by omega)
      refine ⟨p1, by omega, ?_, ?_⟩
      · rw [p5', en]; simp
      · unfold wrongA
        rw [p8', en]
        have : accept ⟨m, 0, n'⟩ = true := by
          rcases p7 with rfl | ⟨rfl | ⟨k, rfl⟩, _⟩ <;> rfl
        simp only [runA, verdict]
        rw [this]; rfl
end DS
set_option Elab.async false
set_option linter.all false
set_option maxRecDepth 100000
set_option maxHeartbeats 4000000
namespace DS
open PySem L2 PySem.NumText
theorem ofs_q : Str.ofString "\"" = S [34] := by decide +kernel
theorem ofs_b : Str.ofString "\\" = S [92] := by decide +kernel
theorem ofs_e : Str.ofString "" = S [] := by decide +kernel
theorem one_S (c : Nat) : (⟨#[c]⟩ : Str) = S [c] := rfl
def gluS (sep : Cs) : List Cs → Cs
  | [] => []
  | [x] => x
  | x :: y :: r => x ++ (sep ++ gluS sep (y :: r))
theorem glue_cps (sep : Cs) (l : List Cs) : Txt.join (S sep) (l.map S) = S (gluS sep l) := by
  show Builtin.Str.glued (S sep) (l.map S) = _
  rw [PySem.StrLaws.glued_eq_join]
  induction l with
  | nil => rfl
  | cons x r ih =>
    cases r with
    | nil => rfl
    | cons y r =>
      simp only [List.map_cons] at ih ⊢
      show S x ++ S sep ++ Str.join (S sep) (S y :: r.map S) = _
      rw [ih, S_append, S_append]
      simp [gluS]
theorem glu_nil : ∀ l : List Cs, gluS [] l = l.flatten
  | [] => rfl
  | [x] => by simp [gluS]
  | x :: y :: r => by simp [gluS, glu_nil (y :: r)]
theorem join_empty (l : List Cs) : Txt.join (S []) (l.map S) = S l.flatten := by rw [glue_cps, glu_nil]
theorem same_new {H : Hp} {p : Addr} (h : H p = none) (o : HO) : Same H (upd H p o) := fun b u q => by rw [upd_ne (ne_of_none q h)]; exact q
theorem same_put {H H' : Hp} {p : Addr} (s : Same H H') (h : H p = none) (o : HO) : Same H (upd H' p o) := fun b u q => by rw [upd_ne (ne_of_none q h)]; exact s b u q
theorem small {n : Nat} (h : n ≤ 16777216) : n ≤ sizeLine := Nat.le_trans h (by decide)
theorem small' {n : Nat} (h : n < 16777216) : n < sizeLine := Nat.lt_of_lt_of_le h (by decide)
theorem sum_lens : ∀ l : List Cs, ((l.map S).map (·.length)).sum = l.flatten.length
  | [] => rfl
  | x :: r => by
    have := sum_lens r
    simp only [List.map_cons, List.sum_cons, List.flatten_cons, List.length_append, S_length] at this ⊢
    omega
theorem sqT_same {K : PySem.W.Frag} {H H' : Hp} {a : Addr} {xs : List V} (e : Same H H') (h : SqT K H a xs) : SqT K H' a xs := by
  rcases h with (h | ⟨o, h⟩) | h
  · exact .inl (.inl (e _ _ h))
  · exact .inl (.inr ⟨o, e _ _ h⟩)
  · exact .inr h
mutual
theorem dp_same {K : PySem.W.Frag} {H H' : Hp} (e : Same H H') : ∀ (d : PyData) (v : V), Dp K H v d → Dp K H' v d
  | .none, _, h => by cases h; exact .non
  | .bool b, _, h => by cases h; exact .bl b
  | .int i, _, h => by cases h; exact .int i
  | .str x, _, h => by cases h; exact .str x
  | .list ds, _, h => by
    cases h with
    | lst hs ha => exact .lst (e.seq hs) (dp_sameAll e ds _ ha)
  | .tuple ds, _, h => by
    cases h with
    | tup hs ha => exact .tup (sqT_same e hs) (dp_sameAll e ds _ ha)
  | .dict _, _, h => by cases h
theorem dp_sameAll {K : PySem.W.Frag} {H H' : Hp} (e : Same H H') : ∀ (ds : List PyData) (vs : List V), DpAll K H vs ds → DpAll K H' vs ds
  | [], _, h => by cases h; exact .nil
  | d :: ds, _, h => by
    cases h with
    | cons h1 h2 => exact .cons (dp_same e d _ h1) (dp_sameAll e ds _ h2)
end
theorem dp_len {K : PySem.W.Frag} {H : Hp} : ∀ {vs : List V} {ds : List PyData}, DpAll K H vs ds → vs.length = ds.length
  | _, _, .nil => rfl
  | _, _, .cons _ h => by simp [dp_len h]
theorem dp_get {K : PySem.W.Frag} {H : Hp} : ∀ {vs : List V} {ds : List PyData} {i : Nat} {x : V}, DpAll K H vs ds → vs[i]? = some x → ∃ d, ds[i]? = some d ∧ Dp K H x d
  | _, _, _, _, .nil, h => by simp at h
  | _, _, 0, _, .cons h1 _, h => by simp at h; subst h; exact ⟨_, rfl, h1⟩
  | _, _, i + 1, x, .cons _ h2, h => by simpa using dp_get (i := i) h2 (by simpa using h)
theorem dp_snoc {K : PySem.W.Frag} {H : Hp} : ∀ {vs : List V} {ds : List PyData} {x : V} {d : PyData}, DpAll K H vs ds → Dp K H x d → DpAll K H (vs ++ [x]) (ds ++ [d])
  | _, _, _, _, .nil, h => .cons h .nil
  | _, _, _, _, .cons h1 h2, h => .cons h1 (dp_snoc h2 h)
/-- its class -/
def tyN : PyData → String
  | .none => "NoneType" | .bool _ => "bool" | .int _ => "int" | .str _ => "str" | .list _ => "list" | .tuple _ => "tuple" | .dict _ => "dict"
theorem ty_sqT {K : PySem.W.Frag} {H : Hp} {a : Addr} {xs : List V} (h : SqT K H a xs) : TyX K H (.ref a) (.type "tuple") := by
  rcases h with (h | ⟨o, h⟩) | ⟨o, its, n, h1, h2, _⟩
  · exact .base (.tup h)
  · exact .fTuple h
  · exact .kTuple h1 h2
theorem dp_ty {K : PySem.W.Frag} {H : Hp} : ∀ {d : PyData} {v : V}, good d → Dp K H v d → TyX K H v (.type (tyN d))
  | .none, _, _, h => by cases h; exact .base .non
  | .bool b, _, _, h => by cases h; exact .base (.bl b)
  | .int i, _, _, h => by cases h; exact .base (.int i)
  | .str x, _, _, h => by cases h; exact .base (.str x)
  | .list ds, _, g, _ => by simp [good] at g
  | .dict _, _, g, _ => by simp [good] at g
  | .tuple ds, _, _, h => by
    cases h with
    | tup hs ha => exact ty_sqT hs
theorem good_get : ∀ {ds : List PyData} {i : Nat} {d : PyData}, goodAll ds → ds[i]? = some d → good d
  | [], _, _, _, h => by simp at h
  | d :: ds, 0, e, g, h => by simp at h; subst h; simp [goodAll] at g; exact g.1
  | d :: ds, i + 1, e, g, h => by simp [goodAll] at g; exact good_get g.2 (by simpa using h)
theorem hgt_get : ∀ {ds : List PyData} {i : Nat} {d : PyData}, ds[i]? = some d → hgt d ≤ hgtAll ds
  | [], _, _, h => by simp at h
  | d :: ds, 0, e, h => by simp at h; subst h; simp only [hgtAll]; omega
  | d :: ds, i + 1, e, h => by have := hgt_get (ds := ds) (i := i) (by simpa using h); simp only [hgtAll]; omega
theorem txtMore_len : ∀ {ds : List PyData} {i : Nat} {d : PyData}, ds[i]? = some d → (txt d).length ≤ (txtMore ds).length
  | [], _, _, h => by simp at h
  | d :: ds, 0, e, h => by simp at h; subst h; simp only [txtMore, List.length_cons, List.length_append]; omega
  | d :: ds, i + 1, e, h => by have := txtMore_len (ds := ds) (i := i) (by simpa using h); simp only [txtMore, List.length_cons, List.length_append]; omega
theorem txtAll_len {ds : List PyData} {i : Nat} {d : PyData} (h : ds[i]? = some d) : (txt d).length ≤ (txtAll ds).length := by
  cases ds with
  | nil => simp at h
  | cons x xs =>
    cases i with
    | zero => simp at h; subst h; simp only [txtAll, List.length_append]; omega
    | succ i => have := txtMore_len (ds := xs) (i := i) (by simpa using h); simp only [txtAll, List.length_append]; omega
theorem glu_more : ∀ (x : PyData) (xs : List PyData), gluS [32] ((x :: xs).map txt) = txt x ++ txtMore xs
  | x, [] => by simp [gluS, txtMore]
  | x, y :: r => by
    have := glu_more y r
    simp only [List.map_cons] at this ⊢
    simp [gluS, this, txtMore]
theorem glu_all : ∀ xs : List PyData, gluS [32] (xs.map txt) = txtAll xs
  | [] => rfl
  | x :: xs => by rw [glu_more]; rfl
theorem txtMore_ge : ∀ ds : List PyData, (ds.map txt).flatten.length + ds.length = (txtMore ds).length
  | [] => rfl
  | d :: ds => by
    have := txtMore_ge ds
    simp only [List.map_cons, List.flatten_cons, List.length_append, List.length_cons, txtMore]
    omega
theorem txtAll_ge : ∀ ds : List PyData, (ds.map txt).flatten.length + ds.length ≤ (txtAll ds).length + 1
  | [] => by simp
  | d :: ds => by
    have := txtMore_ge ds
    simp only [List.map_cons, List.flatten_cons, List.length_append, List.length_cons, txtAll]
    omega
theorem escT_ge : ∀ l : Cs, l.length ≤ (escT l).length
  | [] => by simp [escT]
  | c :: l => by
    have := escT_ge l
    have h : 1 ≤ (esc1 c).length := by unfold esc1; split <;> simp
    rw [escT_cons, List.length_append, List.length_cons]
    omega
theorem good_log {i : Int} (h : i.natAbs < 10 ^ 100) : i.natAbs.log2 < 1920 := by
  by_cases h0 : i.natAbs = 0
  · rw [h0]; decide
  · exact (Nat.log2_lt h0).mpr (Nat.lt_of_lt_of_le h (by decide +kernel))
/-- built-in names that the text does not bind -/
structure Bn (mg : Str → Option Value) : Prop where
  isi : mg "isinstance" = none
  tup : mg "tuple" = none
  str : mg "str" = none
  bl : mg "bool" = none
  len : mg "len" = none
  int : mg "int" = none
  range : mg "range" = none
  repr : mg "repr" = none
  list : mg "list" = none
  abs : mg "abs" = none
  min : mg "min" = none
theorem boot_isi : bootBuiltins "isinstance" = some (.builtin "isinstance") := by decide +kernel
theorem ofs_op : Str.ofString "(" = S [40] := by decide +kernel
theorem ofs_cl : Str.ofString ")" = S [41] := by decide +kernel
theorem ofs_sp : Str.ofString " " = S [32] := by decide +kernel
theorem ofs_mi : Str.ofString "-" = S [45] := by decide +kernel
theorem ofs_yes : Str.ofString "yes" = S [121, 101, 115] := by decide +kernel
theorem ofs_no : Str.ofString "no" = S [110, 111] := by decide +kernel
theorem k_NoneType_str : kitB "NoneType" "str" = some false := by decide +kernel
theorem k_NoneType_tuple : kitB "NoneType" "tuple" = some false := by decide +kernel
theorem k_bool_bool : kitB "bool" "bool" = some true := by decide +kernel
theorem k_bool_str : kitB "bool" "str" = some false := by decide +kernel
theorem k_bool_tuple : kitB "bool" "tuple" = some false := by decide +kernel
theorem k_int_bool : kitB "int" "bool" = some false := by decide +kernel
theorem k_int_str : kitB "int" "str" = some false := by decide +kernel
theorem k_int_tuple : kitB "int" "tuple" = some false := by decide +kernel
theorem k_str_str : kitB "str" "str" = some true := by decide +kernel
theorem k_str_tuple : kitB "str" "tuple" = some false := by decide +kernel
theorem k_tuple_tuple : kitB "tuple" "tuple" = some true := by decide +kernel
def spWT (K : PySem.W.Frag) (n : Nat) : Sp := fun vs H Q _ => ∃ v t, vs = [v] ∧ Dp K H v t ∧ good t ∧ hgt t ≤ n ∧ (txt t).length ≤ 1000000 ∧ ∀ H', Same H H' → Q (.str (S (txt t))) H'
/-- all but p is as it was -/
def Sb (p : Addr) (H H' : Hp) : Prop := ∀ b o, H b = some o → b ≠ p → H' b = some o
theorem Sb.refl (p : Addr) (H : Hp) : Sb p H H := fun _ _ h _ => h
theorem Sb.trans {p : Addr} {H H1 H2 : Hp} (a : Sb p H H1) (b : Sb p H1 H2) : Sb p H H2 := fun c o h n => b c o (a c o h n) n
theorem Same.sb {p : Addr} {H H' : Hp} (s : Same H H') : Sb p H H' := fun b o h _ => s b o h
theorem sb_upd {p : Addr} {H : Hp} (o : HO) : Sb p H (upd H p o) := fun b u h n => by rw [upd_ne n]; exact h
theorem sb_free {p q : Addr} {H H' : Hp} {o : HO} (s : Sb p H H') (hp : H p = some o) (h : H' q = none) (hp' : H' p ≠ none) : H q = none := by
  cases e : H q with
  | none => rfl
  | some u =>
    by_cases n : q = p
    · subst n; exact absurd h hp'
    · rw [s q u e n] at h; cases h
theorem sqT_sb {K : PySem.W.Frag} {p : Addr} {H H' : Hp} {a : Addr} {xs : List V} (s : Sb p H H') (hp : ∀ xs, H p ≠ some (.tup xs)) (hp2 : ∀ o xs, H p ≠ some (.frz o (.tup xs))) (h : SqT K H a xs) : SqT K H' a xs := by
  rcases h with (h | ⟨o, h⟩) | h
  · exact .inl (.inl (s _ _ h fun e => hp xs (e ▸ h)))
  · exact .inl (.inr ⟨o, s _ _ h fun e => hp2 o xs (e ▸ h)⟩)
  · exact .inr h
mutual
theorem dp_sb {K : PySem.W.Frag} {p : Addr} {H H' : Hp} (s : Sb p H H') (hp : ∀ xs, H p ≠ some (.tup xs)) (hp2 : ∀ o xs, H p ≠ some (.frz o (.tup xs))) : ∀ (d : PyData) (v : V), good d → Dp K H v d → Dp K H' v d
  | .none, _, _, h => by cases h; exact .non
  | .bool b, _, _, h => by cases h; exact .bl b
  | .int i, _, _, h => by cases h; exact .int i
  | .str x, _, _, h => by cases h; exact .str x
  | .list ds, _, g, h => by simp [good] at g
  | .tuple ds, _, g, h => by
    cases h with
    | tup hs ha => exact .tup (sqT_sb s hp hp2 hs) (dp_sbAll s hp hp2 ds _ (by simpa [good] using g) ha)
  | .dict _, _, _, h => by cases h
theorem dp_sbAll {K : PySem.W.Frag} {p : Addr} {H H' : Hp} (s : Sb p H H') (hp : ∀ xs, H p ≠ some (.tup xs)) (hp2 : ∀ o xs, H p ≠ some (.frz o (.tup xs))) : ∀ (ds : List PyData) (vs : List V), goodAll ds → DpAll K H vs ds → DpAll K H' vs ds
  | [], _, _, h => by cases h; exact .nil
  | d :: ds, _, g, h => by
    simp only [goodAll] at g
    cases h with
    | cons h1 h2 => exact .cons (dp_sb s hp hp2 d _ g.1 h1) (dp_sbAll s hp hp2 ds _ g.2 h2)
end
def flds (z : Cs) (a n : Nat) : List (Str × V) := [("text", .str (S z)), ("at", .int a), ("parts", .int n), ("is_bounded", .bl true)]
theorem fl_text (z : Cs) (a n : Nat) : (flds z a n).lookup ("text" : Str) = some (.str (S z)) := by rfl
theorem fl_at (z : Cs) (a n : Nat) : (flds z a n).lookup ("at" : Str) = some (.int a) := by rfl
theorem fl_parts (z : Cs) (a n : Nat) : (flds z a n).lookup ("parts" : Str) = some (.int n) := by rfl
theorem fl_bd (z : Cs) (a n : Nat) : (flds z a n).lookup ("is_bounded" : Str) = some (.bl true) := by rfl
theorem fl_no (z : Cs) (a n : Nat) {m : Str} (h1 : (m == "text") = false) (h2 : (m == "at") = false) (h3 : (m == "parts") = false) (h4 : (m == "is_bounded") = false) : (flds z a n).lookup m = none := by
  simp only [flds, List.lookup, h1, h2, h3, h4]
theorem fl_putAt (z : Cs) (a a' n : Nat) : putF "at" (.int (a' : Nat)) (flds z a n) = flds z a' n := by rfl
theorem fl_putParts (z : Cs) (a n n' : Nat) : putF "parts" (.int (n' : Nat)) (flds z a n) = flds z a n' := by rfl
theorem fl_init (z : Cs) : putF "is_bounded" (.bl true) (putF "parts" (.int 0) (putF "at" (.int 0) (putF "text" (.str (S z)) []))) = flds z 0 0 := by rfl
/-- a Reader stands at p -/
def RdAt (C : Addr) (H : Hp) (p : Addr) (z : Cs) (a n : Nat) : Prop := ∃ dx, H p = some (.ins C dx (flds z a n))
theorem RdAt.noT {C : Addr} {H : Hp} {p : Addr} {z : Cs} {a n : Nat} (R : RdAt C H p z a n) : ∀ xs, H p ≠ some (.tup xs) := fun xs e => by
  obtain ⟨dx, h⟩ := R; rw [h] at e; cases e
theorem RdAt.noF {C : Addr} {H : Hp} {p : Addr} {z : Cs} {a n : Nat} (R : RdAt C H p z a n) : ∀ o xs, H p ≠ some (.frz o (.tup xs)) := fun o xs e => by
  obtain ⟨dx, h⟩ := R; rw [h] at e; cases e
theorem RdAt.ne {C : Addr} {H : Hp} {p : Addr} {z : Cs} {a n : Nat} (R : RdAt C H p z a n) : H p ≠ none := by
  obtain ⟨dx, h⟩ := R; rw [h]; simp
/-- the sign at a -/
def sg (z : Cs) (a : Nat) : Cs := (z.drop a).take 1
theorem sg_some {z : Cs} {a c : Nat} {r : Cs} (h : z.drop a = c :: r) : sg z a = [c] := by unfold sg; rw [h]; rfl
theorem sg_nil {z : Cs} {a : Nat} (h : z.drop a = []) : sg z a = [] := by unfold sg; rw [h]; rfl
theorem lt_of_drop {z : Cs} {a c : Nat} {r : Cs} (h : z.drop a = c :: r) : a < z.length := by
  have := congrArg List.length h
  rw [List.length_drop, List.length_cons] at this
  omega
theorem drop_more {z : Cs} {a c : Nat} {r : Cs} (h : z.drop a = c :: r) : z.drop (a + 1) = r := by
  rw [← List.drop_drop, h]; rfl
theorem drop_app {z : Cs} {a : Nat} {l r : Cs} (h : z.drop a = l ++ r) : z.drop (a + l.length) = r := by
  rw [← List.drop_drop, h]; simp
theorem cut_sg (z : Cs) (a : Nat) : cutS (S z) (some (a : Int)) (some ((a : Int) + 1)) = S (sg z a) := by
  unfold cutS
  rw [show ((a : Int) + 1) = ((a + 1 : Nat) : Int) by omega, HT.sIx_nat, HT.sIx_nat, S_cps, S_length]
  show S _ = S _
  congr 1
  unfold sg
  by_cases h : a < z.length
  · rw [Nat.min_eq_left (by omega), Nat.min_eq_left (by omega), show a + 1 - a = 1 by omega]
  · rw [List.drop_eq_nil_of_le (show z.length ≤ a by omega), List.drop_eq_nil_of_le (by omega)]
    simp
/-- the class, and the global names -/
structure RTxt (K : PySem.W.Frag) (mg : Str → Option Value) (C : Addr) : Prop where
  cl : Cls K C
  nT : NoAttr K C "text"
  nA : NoAttr K C "at"
  nP : NoAttr K C "parts"
  nB : NoAttr K C "is_bounded"
  mgC : mg "Reader" = some (.ref C)
  mParts : ∃ t, mg "MAX_PARTS" = some (.int 2000 t)
  mDepth : ∃ t, mg "MAX_DEPTH" = some (.int 30 t)
  mMore : ∃ t, mg "MORE_DEPTH" = some (.int 4 t)
  mDigs : ∃ t, mg "MAX_DIGITS" = some (.int 100 t)
  mDig : ∃ t, mg "DIGITS" = some (.str (S [48, 49, 50, 51, 52, 53, 54, 55, 56, 57]) t)
  mSig : ∃ t, mg "SIGNS" = some (.str (S sgnList) t)
structure MM (K : PySem.W.Frag) (C : Addr) (x qual : Str) (st : Stmt) (ps : List Str) (f : Addr) (fd : FuncData) : Prop where
  F : Fun K x qual st f fd
  m : Meth K C x f
  b : Binds K fd ps []
theorem mem_esc {c : Nat} : inV (V.str (S [c])) [V.str (Str.ofString "\""), V.str (Str.ofString "\\")] = decide (c = 34 ∨ c = 92) := by
  simp only [inV, List.any, eqV, ofs_q, ofs_b, Bool.or_false]
  by_cases h1 : c = 34
  · subst h1; decide
  · by_cases h2 : c = 92
    · subst h2; decide
    · have n1 : (S [34] == S [c]) = false := by rw [beq_eq_false_iff_ne]; intro z; have := S_inj z; simp at this; omega
      have n2 : (S [92] == S [c]) = false := by rw [beq_eq_false_iff_ne]; intro z; have := S_inj z; simp at this; omega
      rw [n1, n2, decide_eq_false (by omega)]; rfl
theorem flat_one : ∀ s : Cs, (s.map fun c => [c]).flatten = s
  | [] => rfl
  | c :: s => by simp [flat_one s]
theorem vS_inj {a b : Cs} (h : V.str (S a) = V.str (S b)) : a = b := S_inj (V.str.inj h)
/-- WRITTEN, as the top has made it -/
structure WTxt (K : PySem.W.Frag) (w : World) (mg : Str → Option Value) (d tY tN : Addr) : Prop where
  mgW : mg "WRITTEN" = some (.ref d)
  D : ∃ es n, KDict K w d es n
  y : PySem.W.nsIn K d (S [121]) = some (some (.ref tY))
  n : PySem.W.nsIn K d (S [110]) = some (some (.ref tN))
  no : ∀ c, c ≠ 121 → c ≠ 110 → PySem.W.nsIn K d (S [c]) = some none
  tY : ∀ H, SqT K H tY [.str (S [121, 101, 115]), .bl true]
  tN : ∀ H, SqT K H tN [.str (S [110, 111]), .bl false]
def wd (b : Bool) : Cs := if b then [121, 101, 115] else [110, 111]
theorem drop_at {z : Cs} {a i : Nat} {l r : Cs} (h : z.drop a = l ++ r) (hi : i ≤ l.length) : z.drop (a + i) = l.drop i ++ r := by
  rw [← List.drop_drop, h, List.drop_append_of_le_length hi]
theorem ip_str {X : Cx} : PIp X .Add rAddS := fun pins s σ H x y v u Q I rx ry h => iop_add_str pins s σ H x y v u Q I rx ry h
def digL : Cs := [48, 49, 50, 51, 52, 53, 54, 55, 56, 57]
theorem mem_dig {c : Nat} : c ∈ digL ↔ isDig c := by
  simp [digL, isDig]
  omega
theorem ofs_0 : Str.ofString "0" = S [48] := by decide +kernel
/-- what a number's or None's text is read as -/
inductive LeafV : PyData → V → Prop where
  | non : LeafV .none .non
  | int (i : Int) : LeafV (.int i) (.int i)
theorem LeafV.dp {K : PySem.W.Frag} {H : Hp} {t : PyData} {v : V} (h : LeafV t v) : Dp K H v t := by
  cases h with
  | non => exact .non
  | int i => exact .int i
theorem dg_int {m : Nat} (h : m < 10 ^ 100) : PySem.intText? (S (decD m)) = some (m : Int) := by
  have hl := decD_len 100 m h (by decide)
  have := PySem.intText_digits (x := S (decD m)) (by rw [S_cps]; exact decD_digits m) (by rw [S_cps]; exact decD_ne m) (by rw [S_length]; omega)
  rw [this, S_cps, decD_val]
theorem txtAll_ne {ts : List PyData} (h : ts ≠ []) (g : goodAll ts) : ∃ c r, txtAll ts = c :: r ∧ c ≠ 41 := by
  cases ts with
  | nil => exact absurd rfl h
  | cons t ts =>
    simp only [goodAll] at g
    obtain ⟨c, r, e, hc⟩ := txt_head t g.1
    refine ⟨c, r ++ txtMore ts, by simp only [txtAll, e, List.cons_append], ?_⟩
    unfold isDig at hc
    omega
theorem stop_more (ts : List PyData) (rest : Cs) : Stop (txtMore ts ++ 41 :: rest) := by
  intro c r e
  unfold isDig
  cases ts with
  | nil => simp [txtMore] at e; omega
  | cons t ts => simp [txtMore] at e; omega
theorem cntAll_app : ∀ a b : List PyData, cntAll (a ++ b) = cntAll a + cntAll b
  | [], b => by simp [cntAll]
  | x :: a, b => by simp [cntAll, cntAll_app a b]; omega
theorem cntAll_pos {ts : List PyData} (h : ts ≠ []) : 1 ≤ cntAll ts := by
  cases ts with
  | nil => exact absurd rfl h
  | cons t ts => have := cnt_pos t; simp only [cntAll]; omega
theorem goodAll_app : ∀ {a b : List PyData}, goodAll (a ++ b) → goodAll a ∧ goodAll b
  | [], b, h => ⟨by simp [goodAll], by simpa using h⟩
  | x :: a, b, h => by
    simp only [List.cons_append, goodAll] at h ⊢
    have := goodAll_app h.2
    exact ⟨⟨h.1, this.1⟩, this.2⟩
theorem hgtAll_app (a b : List PyData) : hgtAll b ≤ hgtAll (a ++ b) := by
  induction a with
  | nil => exact Nat.le_refl _
  | cons x a ih => simp only [List.cons_append, hgtAll]; omega
theorem len_lt : ∀ ts : List PyData, goodAll ts → ts.length ≤ (txtMore ts).length
  | [], _ => Nat.zero_le _
  | t :: ts, g => by
    simp only [goodAll] at g
    have := len_lt ts g.2
    simp only [txtMore, List.length_cons, List.length_append]
    omega
theorem nsg {c d : Nat} (h : c ≠ d) : ¬ (V.str (S [c]) = V.str (S [d])) := fun e => by have := vS_inj e; simp at this; omega
end DS
set_option Elab.async false
set_option linter.all false
set_option maxRecDepth 100000
set_option maxHeartbeats 4000000
/-! ### NoText: an own error over ValueError, whose __init__ says super().__init__(index); self.index = index -/
namespace DS
open PySem PySem.W PySem.Calls PyProof.Rows PySem.HandSPX
def nA : Arguments := { posonlyargs := [], args := [{ arg := "self", annotation := none, pos := ⟨4, 17, 4, 21⟩ }, { arg := "index", annotation := none, pos := ⟨4, 23, 4, 28⟩ }], vararg := none, kwonlyargs := [], kw_defaults := [], kwarg := none, defaults := [] }
def nB : List Stmt :=
  [.Expr (.Call (.Attribute (.Call (.Name "super" ⟨5, 8, 5, 13⟩) [] [] ⟨5, 8, 5, 15⟩) "__init__" ⟨5, 8, 5, 24⟩) [.Name "index" ⟨5, 25, 5, 30⟩] [] ⟨5, 8, 5, 31⟩) ⟨5, 8, 5, 31⟩, .Assign [.Attribute (.Name "self" ⟨6, 8, 6, 12⟩) "index" ⟨6, 8, 6, 18⟩] (.Name "index" ⟨6, 21, 6, 26⟩) ⟨6, 8, 6, 26⟩]
def nS : Scope := { kind := .function, names := [(PySem.Str.ofString "self", .local), (PySem.Str.ofString "index", .local), (PySem.Str.ofString "__class__", .free), (PySem.Str.ofString "super", .globalImplicit)], isGenerator := false, isCoroutine := false, more := [] }
/-- what the written part says of NoText, at C, and of its __init__, at fI -/
structure NoTx (prog : Program) (K : Frag) (mg : Str → Option Value) (C fI : Addr) : Prop where
  gC : mg "NoText" = some (.ref C)
  cls : ∃ nm q N bs bm sn sub ab col dd k0 k1 k2 k3 k5, K.lookup C = some (excClassObj nm q C N bs bm true sn sub ab col dd k0 k1 k2 k3 k5 "ValueError.__new__") ∧ refsVE bm = true
  sa : findIn K (.ref C) "__setattr__" = some (some (.builtin "object.__setattr__"))
  ga : findIn K (.ref C) "__getattribute__" = some (some (.builtin "BaseException.__getattribute__"))
  gg : findIn K (.ref C) "__getattr__" = some none
  noN : findIn K (.ref C) "index" = some none
  iC : findIn K (.ref C) "__init__" = some (some (.ref fI))
  tC : typeIn K (.ref fI) = some (.type "function")
  kC : keepIn K (.ref C) = true
  exC : subIn K (.ref C) (.type "BaseException") = some true
  veC : subIn K (.ref C) (.type "ValueError") = some true
  tyC : typeIn K (.ref C) = some (.type "type")
  hdC : hasDictIn K C = true
  te : exmOne K (.ref C) (.ref C) = some true
  mro : mroIn K C (.ref C) = some true
  along : ks_superIn K C C "__init__" = some (some (.builtin "ValueError.__init__"))
  third : nsIn K cStatics "thirdparty.any" = some none
  sup : mg "super" = none
  top : (prog.main.scope.names.lookup ("super" : Str)).isSome = false
  fn : ∃ (oc : Value) (od : Option Addr) (doc pm : Value) (an : Option Addr) (cda cc : Addr) (ct : Value) (osl : Array (Option Value)) (ccl cl : Value) (cdd cld : Option Addr) (vs : Array Value) (ccs csl : Array (Option Value)) (file : Str) (tf : Tok),
    K.lookup fI = some ⟨oc, od, .func (ksFn "__init__" "NoText.__init__" nA nB nS .none .none doc pm an (.ref cda) ct cc), osl⟩ ∧ codeIn K (.ref cda) "NoText.__init__" = true ∧
    K.lookup cda = some ⟨ccl, cdd, .fields vs, ccs⟩ ∧ vs[2]? = some (.str file tf) ∧ ((prog.main.file : Str) == file) = true ∧ K.lookup cc = some ⟨cl, cld, .cell (some (.ref C)), csl⟩
/-- what __init__ leaves of a fresh error at x -/
structure NInit (h h' : Heap) (x C dx : Addr) (v : Value) : Prop where
  keep : ∀ b o, b ≠ x → h.get? b = some o → h'.get? b = some o
  obj : ∃ t1, h'.get? x = some { cls := .ref C, dict := some dx, data := .fields #[.ref t1, .none, .none, .none, .bool false, .none] }
  dbig : h.objs.size ≤ dx
  dne : dx ≠ x
  ns : h'.Ns1 dx (fun y => if y = "index" then some v else none)
section
variable {prog : Program} {w : World} {A : Around} {E : Value → Shared → Prop} {R : Result → Shared → Prop} {s : Shared} {K : Frag} {mg : Str → Option Value} {C fI : Addr}
/-- the bound ValueError.__init__ called: the error's args are laid anew -/
theorem call_mw {h : Heap} {g : Array GenState} {d : Drawn} {t : Nat} {os : OsState} {u e t0 : Addr} {rest : List Value} {Q : Value → Shared → Prop} (T : NoTx prog K mg C fI) (X : K.In h)
    (he : h.get? e = some (excO C t0)) (hu : h.get? u = some (kxs_mw "ValueError.__init__" e)) (hz : rest.length ≤ sizeLine)
    (hq : ∀ h' t1, (∀ b o, b ≠ e → h.get? b = some o → h'.get? b = some o) → h'.get? e = some (excO C t1) → Q .none ⟨h', g, d, t, os⟩) :
    wpAny (model prog w) A (call (.ref u) rest) Q E ⟨h, g, d, t, os⟩ := by
  obtain ⟨nm, q, N, bs, bm, sn, sub, ab, col, dd, k0, k1, k2, k3, k5, hC, hbm⟩ := T.cls
  refine wpAny_call (codeAny_of_tree (show wpAny _ A.in1 (callAny (.ref u) ⟨rest, []⟩) _ _ _ from ?_))
  simp only [callAny]
  refine wpAny_bind (wpAny_load hu ?_)
  simp only [kxs_mw, show (Value.type "method-wrapper" == Value.type "method" || Value.type "method-wrapper" == Value.type "builtin_function_or_method" || Value.type "method-wrapper" == Value.type "method-wrapper") = true by decide, if_true]
  refine KFB.if_so (by decide) (wpAny_bind (check_bound_init F.excBase_ValueError.toExcCallFacts (X _ _ hC) he rfl (wpAny_bind (wpAny_pure (wpAny_pure ⟨plainId_quiet F.excBase_ValueError.init.plain _, codeAny_builtin F.excBase_ValueError.initEntry ?_⟩)))))
  exact exc_init_tree (cls := .ref C) (t0 := t0) (dv := none) (c2 := .none) (c3 := .none) (b4 := .bool false) he hz fun h' k e' _ => hq h' _ k e'
theorem nt_init (T : NoTx prog K mg C fI) {mb : Str → Option Value} {x t0 : Addr} {v : Value} (X : K.In s.heap) (hlim : s.heap.NoLimit) (gns : s.heap.Ns mainGlobals mg) (bns : s.heap.Ns builtinsNs mb) (bb : ∀ x : Str, x ≠ "__name__" → mb x = bootBuiltins x)
    (hx : s.heap.get? x = some (excO C t0)) (hnx : K.lookup x = none) (hroom : A.depth < recursionLimit) (hq : ∀ h' tk dx, NInit s.heap h' x C dx v → R (.ok (.ret .none)) { s with heap := h', toks := tk }) :
    codeAny (model prog w) A (.call (.ref fI) ⟨[.ref x, v], []⟩) R s := by
  obtain ⟨oc, od, doc, pm, an, cda, cc, ct, osl, ccl, cl, cdd, cld, vs, ccs, csl, file, tf, hf, hcode, hcda, hvs, hfile, hcell⟩ := T.fn
  obtain ⟨nm, q, N, bs, bm, sn, sub, ab, col, dd, k0, k1, k2, k3, k5, hC, hbm⟩ := T.cls
  have hcl : clsIn K C = some { name := nm, bases := bs, mro := .ref C :: bm, ns := N, qualname := q, hasDict := true, slotNames := sn, subclasses := sub, abstract := ab, collection := col, hasDel := false } := by unfold clsIn; rw [hC] <;> rfl
  refine ks_codeAny_call_defAt (binds := [("self", .ref x), ("index", v)]) hroom (X _ _ hf) rfl hlim (codeRec_of X hcode) rfl (BindsTo.of_eq (by first | rfl | with_unfolding_all rfl)) (show ∀ x ∈ nS.names, x.2 ≠ .cell by decide +kernel) (fun y hy => ?_) fun h1 hn k1' => ?_
  · simp only [List.mem_cons, List.not_mem_nil, or_false] at hy
    rcases hy with rfl | rfl <;> rfl
  have X1 : K.In h1 := X.keeps k1'
  have hx1 : h1.get? x = some (excO C t0) := k1' _ _ hx
  have hxL : s.heap.objs.size ≠ x := Nat.ne_of_gt (Heap.lt_size hx)
  show _root_.PySem.wpAt _ _ _ (execs nB _) _ _ _
  refine ks_wpAt_execs_cons (ks_wpAt_Expr_any (ks_wpAt_MethodCall ?_))
  have oD : h1.get? C = some _ := X1 _ _ hC
  have I1 : InstAt h1 x (excO C t0) C none := ⟨hx1, rfl, rfl, trivial⟩
  refine ks_wpAt_super_base (cc := cda) (f := fI) rfl rfl (by decide +kernel) rfl (X1 _ _ hf) rfl (ar := { arg := "self", annotation := none, pos := ⟨4, 17, 4, 21⟩ }) rfl rfl (X1 _ _ hcda) rfl hvs hfile T.top ?_
  refine ks_loadName_global rfl rfl (loadGlobal_builtin (gns.keeps k1') T.sup (bns.keeps k1') ((bb _ (by decide +kernel)).trans (by decide +kernel)) ⟨rfl, ?_⟩)
  refine wpAny_loadName_free rfl rfl rfl ⟨_, X1 _ _ hcell, rfl⟩ ?_
  refine wpAny_loadName_local rfl rfl hn (v := .ref x) (by first | rfl | kernel_rfl) ?_
  refine ks_wpAny_isType_cls oD rfl ⟨rfl, ?_⟩
  refine ks_wpAny_call_super oD rfl hx1 rfl (fun c e => nomatch e) (looks_mroIn X1 T.mro) fun h2 hso k2' => ?_
  have X2 : K.In h2 := X1.keeps k2'
  have hx2 := k2' _ _ hx1
  have al := T.along
  unfold ks_superIn at al
  rw [hcl] at al
  have I2 : InstAt h2 x (excO C t0) C none := ⟨hx2, rfl, rfl, trivial⟩
  refine kxs_getMethod kxs_ValueError hso (looks_opaque X2 T.third) (l₀ := .ref C :: bm) ((looks_clsIn X2 hcl).andThen .now) rfl X2 al (I2.type.andThen (looks_subIn X2 T.veC)) (ks_ne X2 I2 hcl) (by decide +kernel) ?_
  -- the call of what is bound
  have n2 := hn.keeps k2'
  have k3' : ∀ b o, h2.get? b = some o → (h2.push (kxs_mw "ValueError.__init__" x)).get? b = some o := fun b o e => Heap.get?_push_of_some _ e
  refine kxs_callWith (i := "ValueError.__init__") (x := x) rfl (evalArgs_plain (Calls.spliced_cons ?_))
  refine wpAny_Name (wpAny_loadName_local rfl rfl (n2.keeps k3') (v := v) (by first | rfl | kernel_rfl) ?_) (by decide +kernel)
  refine Calls.spliced_nil ⟨Heap.get?_push_at rfl rfl, ?_⟩
  refine call_mw T (X2.keeps k3') (k3' _ _ hx2) (Heap.get?_push_at rfl rfl) (by rw [sizeLine_eq]; exact (by decide : 1 ≤ 16777216)) fun h4 t1 k4 hx4 => ?_
  have old4 : ∀ b o, b ≠ x → s.heap.get? b = some o → h4.get? b = some o := fun b o hb e => k4 b o hb (k3' b o (k2' b o (k1' b o e)))
  have X4 : K.In h4 := fun b o e => old4 b o (fun z => by rw [z, hnx] at e; cases e) (X b o e)
  obtain ⟨oL, es, ep, eL, rL⟩ := n2.keeps k3'
  have n4 : h4.Ns s.heap.objs.size _ := ⟨oL, es, ep, k4 _ _ hxL eL, rL⟩
  have zL : s.heap.objs.size < h4.objs.size := n4.lt
  -- self.index = index
  refine ks_wpAt_execs_cons (ks_wpAt_Assign_Attr (wpAt_of_wpAny ?_))
  refine wpAny_Name (wpAny_loadName_local rfl rfl n4 (v := v) (by first | rfl | kernel_rfl) ?_) (by decide +kernel)
  refine wpAny_Name (wpAny_loadName_local rfl rfl n4 (v := .ref x) (by first | rfl | kernel_rfl) ?_) (by decide +kernel)
  refine set_plain X4 (ox := excO C t1) (od := none) ⟨hx4, rfl, rfl, trivial⟩ T.sa ?_
  refine exc_osa X4 hx4 hcl (show refsVE (.ref C :: bm) = true from hbm) rfl T.noN fun h5 tk5 dx k5 dn dne hx5 hn5 => ?_
  show _root_.PySem.wpAt _ _ _ (execs _ _) _ _ _
  refine wpAt_of_wpAny (wpAny_execs_nil ?_)
  exact hq h5 tk5 dx ⟨fun b o hb e => k5 b o hb (old4 b o hb e), ⟨t1, hx5⟩, Nat.le_of_lt (Nat.lt_of_lt_of_le zL dn), dne, hn5⟩
/-- a made NoText -/
structure NMade (h h' : Heap) (e C d : Addr) (v : Value) : Prop where
  keep : ∀ b o, h.get? b = some o → h'.get? b = some o
  new : h.objs.size ≤ e
  obj : ∃ oe vs, h'.get? e = some oe ∧ oe.cls = .ref C ∧ oe.dict = some d ∧ oe.data = .fields vs ∧ vs[1]? = some .none
  dbig : h.objs.size ≤ d
  dne : d ≠ e
  ns : h'.Ns1 d (fun y => if y = "index" then some v else none)
theorem nt_made (T : NoTx prog K mg C fI) {mb : Str → Option Value} {v : Value} (X : K.In s.heap) (hlim : s.heap.NoLimit) (gns : s.heap.Ns mainGlobals mg) (bns : s.heap.Ns builtinsNs mb) (bb : ∀ x : Str, x ≠ "__name__" → mb x = bootBuiltins x)
    (hroom : A.depth + 1 < recursionLimit) (hq : ∀ h' tk e d, NMade s.heap h' e C d v → R (.ok (.ret (.ref e))) { s with heap := h', toks := tk }) :
    codeAny (model prog w) A (.call (.ref C) ⟨[v], []⟩) R s := by
  obtain ⟨nm, q, N, bs, bm, sn, sub, ab, col, dd, k0, k1, k2, k3, k5, hC, hbm⟩ := T.cls
  obtain ⟨hp, g, dr, tk, os⟩ := s
  have up : ∀ b o, hp.get? b = some o → ((hp.push (kdv_tup [v])).push (excO C hp.objs.size)).get? b = some o := fun b o e => Heap.get?_push_of_some _ (Heap.get?_push_of_some _ e)
  have at1 : ((hp.push (kdv_tup [v])).push (excO C hp.objs.size)).get? (hp.objs.size + 1) = some (excO C hp.objs.size) := by heap_get
  have nK : K.lookup (hp.objs.size + 1) = none := by
    cases e : K.lookup (hp.objs.size + 1) with
    | none => rfl
    | some o => exact absurd (Nat.lt_of_succ_lt (Heap.lt_size (show hp.get? (hp.objs.size + 1) = some o from X _ _ e))) (Nat.lt_irrefl _)
  refine call_own F.excBase_ValueError (fun Y => refsVE_contains Y bm hbm) (X _ _ hC) (looks_findIn X T.iC) (fun self => bind_fn X self T.tC) (by rw [sizeLine_eq]; exact (by decide : 1 ≤ 16777216)) ?_
  refine nt_init (s := ⟨(hp.push (kdv_tup [v])).push (excO C hp.objs.size), g, dr, tk, os⟩) T (X.keeps up) (hlim.keeps up) (gns.keeps up) (bns.keeps up) bb at1 nK (show A.depth + 1 < recursionLimit from hroom) fun h' tk' dx I => ?_
  have old : ∀ b o, hp.get? b = some o → h'.get? b = some o := fun b o e => I.keep b o (Nat.ne_of_lt (Nat.lt_succ_of_lt (Heap.lt_size e))) (up b o e)
  have z : hp.objs.size + 1 + 1 ≤ dx := by
    have := I.dbig
    rw [Heap.size_push, Heap.size_push] at this
    exact this
  obtain ⟨t1, ho⟩ := I.obj
  exact ⟨rfl, hq h' tk' (hp.objs.size + 1) dx ⟨old, Nat.le_succ _, ⟨_, _, ho, rfl, rfl, rfl, rfl⟩, Nat.le_trans (Nat.le_trans (Nat.le_succ _) (Nat.le_succ _)) z, I.dne, I.ns⟩⟩
end
end DS
set_option Elab.async false
set_option linter.all false
set_option maxRecDepth 100000
set_option maxHeartbeats 4000000
namespace DS
open PySem PySem.Spec PyProof.Rows L2
theorem relO_nt {v : V} {v' : Value} (r : RelV v v') (f : Str) : RelO (List.lookup f [(("index" : Str), v)]) (if f = "index" then some v' else none) := by
  by_cases hw : f = "index"
  · subst hw
    rw [if_pos rfl]
    have q : List.lookup ("index" : Str) [(("index" : Str), v)] = some v := by simp [List.lookup]
    rw [q]
    exact r
  · rw [if_neg hw]
    have qw : (f == ("index" : Str)) = false := by simpa using hw
    have q2 : List.lookup f [(("index" : Str), v)] = none := by simp [List.lookup, qw]
    rw [q2]
    trivial
section
variable {X : Cx} {C fI : Addr}
/-- NoText(e) -/
def tMkNt (C : Addr) (ta : TA) : L2.St → Hp → XK → Prop := fun σ H Q => ta σ H fun vs H1 => ∃ v, vs = [v] ∧ ∀ d, H1 d = none → Q (.ref C) (some d) (upd H1 d (.xd [(("index" : Str), v)]))
theorem pmk_nt {a : Expr} {ta : TA} {p pos : Pos} {k : Nat} (T : NoTx X.prog X.K X.mg C fI) (hr : Room k X.A) (ha : PA X [a] ta) (hg : Gl X "NoText" := by rfl)
    (he : starEach (a :: []) X.env = (false, eval a X.env) :: starEach [] X.env := by rfl) (hpl : (backTo pos (starEach [] X.env)).any (·.1) = false := by rfl) :
    PMk X (.Call (.Name "NoText" p) [a] [] pos) (tMkNt C ta) := by
  intro pins s σ H Q I h
  refine wpAny_Call_Name_kw (ld_glob I hg T.gC ?_)
  refine PySem.W.callWith_K (h₀ := X.base) I.ok.mod.kin T.kC (thn (ha.run pos pins s σ H _ I h) fun us s1 hh => ?_) he hpl
  obtain ⟨vs, H1, I1, r1, v, ev, q1⟩ := hh
  subst ev
  refine ⟨I1.kIn, ?_⟩
  cases r1 with
  | cons rv rn =>
    rename_i v' us'
    cases rn
    show wpAny _ _ (call (.ref C) [v']) _ _ _
    have hlim := I1.nolimit
    obtain ⟨mb, bns, bb⟩ := I1.ok.mod.blt
    have gns := I1.ok.mod.glob.keeps I1.bk
    have bns' := bns.keeps I1.bk
    obtain ⟨hp, g, dr, tk, os⟩ := s1
    refine wpAny_call (nt_made T I1.kIn hlim gns bns' bb (by have := hr.dp; omega) fun h' tk' e d M => ?_)
    show MkP X pins σ Q (.ref e) ⟨h', g, dr, tk', os⟩
    obtain ⟨oe, fv, hoe, hc, hd, hdat, h1⟩ := M.obj
    have hns := M.ns
    obtain ⟨G', g1, g2⟩ := restrict h' fun b => decide (b ≠ e)
    have gk : ∀ b, b ≠ e → G'.get? b = h'.get? b := fun b hb => g1 b (decide_eq_true hb)
    have ge : G'.get? e = none := g2 e (by simp)
    have old : ∀ b o, hp.get? b = some o → G'.get? b = some o := fun b o q => (gk b (Nat.ne_of_lt (Nat.lt_of_lt_of_le (Heap.lt_size q) M.new))).trans (M.keep b o q)
    have ob : ObjOk X.prog X.w (upd H1 d (.xd [(("index" : Str), v)])) G' d (.xd [(("index" : Str), v)]) :=
      ⟨_, hns.at (fun o q => (gk d M.dne).trans q), fun f => relO_nt rv f⟩
    have J : Inv X pins σ (upd H1 d (.xd [(("index" : Str), v)])) ⟨G', g, dr, tk', os⟩ := I1.laid (t' := tk') old M.dbig ob
    refine ⟨e, oe, fv, ⟨G', g, dr, tk', os⟩, _, .ref C, some d, rfl, J, fun b o q => ?_, ge, hoe, ⟨hc, hd⟩, hdat, h1, ?_, rfl, I1.bare, raises_own T.exC T.tyC, q1 d (I1.hok.fresh M.dbig)⟩
    · by_cases hb : b = e
      · have q' : G'.get? b = some o := q
        rw [hb, ge] at q'; cases q'
      · exact (gk b hb).symm.trans q
    · rw [upd_ne (Ne.symm M.dne)]
      exact I1.hok.fresh M.new
/-- raise NoText(e) -/
def tRaiseNt (C : Addr) (W : WX) (ta : TA) : TS := fun _ σ H => tMkNt C ta σ H fun cls d H' => W cls d σ H'
theorem ps_raiseNt {a : Expr} {ta : TA} {W : WX} {p pos pos2 : Pos} {k : Nat} (hc : X.calm = true) (T : NoTx X.prog X.K X.mg C fI) (hr : Room k X.A) (tk : Takes X W) (ha : PA X [a] ta) (hg : Gl X "NoText" := by rfl)
    (he : starEach (a :: []) X.env = (false, eval a X.env) :: starEach [] X.env := by rfl) (hpl : (backTo pos (starEach [] X.env)).any (·.1) = false := by rfl) :
    PS X (.Raise (some (.Call (.Name "NoText" p) [a] [] pos)) none pos2) (tRaiseNt C W ta) := ps_raise hc tk (pmk_nt T hr ha hg he hpl)
/-- e.index, e the exception that the suite holds (at a; its class cls, its dict d) -/
def tIdxNt (C : Addr) (a : Addr) (cls : Value) (d : Option Addr) (te : TE) : TE := fun σ H Q => te σ H fun x H1 => x = .ref a ∧ cls = .ref C ∧ ∃ (dd : Addr) (v : V), d = some dd ∧ H1 dd = some (.xd [(("index" : Str), v)]) ∧ Q v H1
theorem pe_idxNt {a : Addr} {oe : Obj} {cls : Value} {d : Option Addr} {pn : List (Addr × Obj)} {e : Expr} {te : TE} {pos : Pos} (T : NoTx X.prog X.K X.mg C fI) (hz : Zc cls d oe) (hf : ∃ vs, oe.data = .fields vs) (he : PE (X.suite a ((a, oe) :: pn)) e te)
    (hb : attributeBase e "index" X.env (eval e X.env) = eval e X.env := by rfl) :
    PE (X.suite a ((a, oe) :: pn)) (.Attribute e "index" pos) (tIdxNt C a cls d te) := by
  refine ⟨fun pins s σ H Q I h => ?_⟩
  refine attr_of hb (thn (he.run pins s σ H _ I h) fun u s1 hh => ?_)
  obtain ⟨x, H1, I1, rx, ex, ec, dd, v, ed, ea, q⟩ := hh
  subst ex
  obtain rfl : u = Value.ref a := rx
  subst ec
  subst ed
  obtain ⟨ha, _⟩ := I1.pin (a, oe) (List.mem_append_left _ List.mem_cons_self)
  obtain ⟨vs, hd⟩ := hf
  have hx : ObjOk X.prog X.w H1 s1.heap dd (.xd [(("index" : Str), v)]) := I1.hok dd _ ea
  obtain ⟨mA, hns, hr⟩ := hx
  obtain ⟨od, ho, hl⟩ := lookIn_ns hns
  have l : List.lookup ("index" : Str) [(("index" : Str), v)] = some v := by simp [List.lookup]
  obtain ⟨u, hu, ru⟩ := RelO.some_of (v := v) (o := mA "index") (by rw [← l]; exact hr "index")
  have J : PySem.W.InstAt s1.heap a oe C (some od) := ⟨ha, hz.1, by unfold PySem.W.notCls; rw [hd] <;> rfl, by rw [hz.2]; exact ho⟩
  exact HandSPX.exc_get I1.kIn J T.ga T.gg T.exC (PySem.W.findObj_own T.hdC T.noN rfl (by rw [hl, hu])) (handed_of ru) ⟨v, H1, I1.tok _, ru, q⟩
/-- isinstance(e, ValueError), e the exception that the suite holds, with its own dict -/
def rIsNt (K : PySem.W.Frag) (D a : Addr) (cls : Value) (d : Option Addr) : List V → Hp → VK → Prop := fun xs H Q => ∃ (c : V) (cv : Value) (b : Bool) (dd : Addr) (v : V), xs = [.ref a, c] ∧ cls = .ref D ∧ d = some dd ∧ H dd = some (.xd [(("index" : Str), v)]) ∧ (∀ u, RelV c u → u = cv) ∧ PySem.W.kitOne K (.ref D) cv = some b ∧ Q (.bl b) H
theorem call_isNt {a D : Addr} {oe : Obj} {cls : Value} {d : Option Addr} {pn : List (Addr × Obj)} (C : ExcC X.K D) (hz : Zc cls d oe) (hf : ∃ vs, oe.data = .fields vs) : CallR (X.suite a ((a, oe) :: pn)) (.builtin "isinstance") (rIsNt X.K D a cls d) := by
  intro pins s σ H xs us Q I r h
  obtain ⟨c, cv, b, dd, v, rfl, ec, ed, ea, hcv, e, q⟩ := h
  subst ec
  subst ed
  cases r with
  | cons rx rr =>
    cases rr with
    | cons rt rr =>
      cases rr
      cases rx
      have ec := hcv _ rt
      subst ec
      obtain ⟨hget, _⟩ := I.pin (a, oe) (List.mem_append.mpr (.inl List.mem_cons_self))
      obtain ⟨vs, hv⟩ := hf
      have hx : ObjOk X.prog X.w H s.heap dd (.xd [(("index" : Str), v)]) := I.hok dd _ ea
      obtain ⟨mA, hns, _⟩ := hx
      obtain ⟨od, ho, hl⟩ := lookIn_ns hns
      have J : PySem.W.InstAt s.heap a oe D (some od) := ⟨hget, hz.1, by unfold PySem.W.notCls; rw [hv] <;> rfl, by rw [hz.2]; exact ho⟩
      have hcl : (PySem.W.clsIn X.K D).isSome = true := by
        obtain ⟨cd, hc, _⟩ := PySem.W.any_some C.hd
        rw [hc]; rfl
      exact PySem.W.kia_one (PySem.W.kitx_exc hcl C.hg C.hk C.hs C.ha C.hn C.ht C.hm) I.kIn J e (fun z => nomatch z) fun tk => ⟨.bl b, H, I.kept (t' := tk) fun _ _ z => z, rfl, q⟩
end
end DS
set_option Elab.async false
set_option linter.all false
set_option maxRecDepth 100000
set_option maxHeartbeats 4000000
namespace DS
open PySem L2
def top (i : Nat) : Stmt := PySem.Challenge.pw_deedstore_k02_bounds_of_trees.main.body.getD i (.Pass ⟨0, 0, 0, 0⟩)
abbrev rdS (j : Nat) : Stmt := inClass (top 12) j
abbrev sRW : Stmt := top 13
abbrev sRT : Stmt := top 14
abbrev sWS : Stmt := top 10
abbrev sWT : Stmt := top 11
end DS
set_option Elab.async false
set_option linter.all false
set_option maxRecDepth 100000
set_option maxHeartbeats 4000000
namespace DS
open PySem L2
/-- an error with that index leaves; all but p is as it was -/
def Er (CN : Addr) (E : XK) (p : Addr) (H : Hp) (i : Nat) : Prop := ∀ d H', Sb p H H' → H' d = some (.xd [(("index" : Str), .int (i : Int))]) → E (.ref CN) (some d) H'
theorem Er.mono {CN : Addr} {E : XK} {p : Addr} {H H1 : Hp} {i : Nat} (e : Er CN E p H i) (s : Sb p H H1) : Er CN E p H1 i := fun d H' b h => e d H' (s.trans b) h
theorem Er.out {CN : Addr} {E : XK} {p : Addr} {H : Hp} {i : Nat} (e : Er CN E p H i) {d : Addr} (h : H d = none) : E (.ref CN) (some d) (upd H d (.xd [(("index" : Str), .int (i : Int))])) := e d _ (Same.sb (same_new h _)) upd_same
/-- of a result: what is asked where it is one, and where it is an error -/
def Res {α : Type} (f : α → Prop) (e : Nat → Prop) : Except Nat α → Prop
  | .ok x => f x
  | .error i => e i
/-- `in` a text, of at most one sign; of no sign nothing is told -/
def rInG : R2 := fun x y H Q => ∃ s z : Cs, x = .str (S s) ∧ y = .str (S z) ∧ ∀ b, (∀ c, s = [c] → b = decide (c ∈ z)) → Q (.bl b) H
theorem op_in_sg {X : Cx} : OpR X (compareOp .In) rInG := by
  intro pins s σ H x y v u Q I rx ry h
  obtain ⟨i, j, rfl, rfl, q⟩ := h
  refine op_in_str pins s σ H _ _ v u Q I rx ry ⟨S i, S j, rfl, rfl, q _ fun c e => ?_⟩
  subst e
  exact PySem.StrLaws.found_one (S j) c
section
variable {P : Program} {w : World} {K : PySem.W.Frag} {mg : Str → Option Value} {base : Heap} {C CN fI : Addr}
theorem scSign : FnScope ["self"] ["self"] (defScope (rdS 1)) := ⟨rfl, rfl, rfl, by decide +kernel, rfl, by decide +kernel, by decide +kernel⟩
def spSign (C : Addr) : Sp := fun vs H Q _ => ∃ p z a n, vs = [.ref p] ∧ RdAt C H p z a n ∧ z.length ≤ 1000000 ∧ Q (.str (S (sg z a))) H
theorem ok_sign {f : Addr} {fd : FuncData} {k : Nat} (T : RTxt K mg C) (F : Fun K "sign" "Reader.sign" (rdS 1) f fd) : FnOk P w K mg base CX0 (k + 1) f fd ["self"] (spSign C) := by
  refine F.ok scSign (fun vs H Q E h => ?_) (fun cdv A outer s H vs Q E hr h => ?_)
  · obtain ⟨p, z, a, n, rfl, _⟩ := h
    rfl
  · obtain ⟨p, z, a, n, rfl, ⟨dx, hp⟩, hz, q⟩ := h
    refine ⟨_, pss_one (ps_ret (pe_slice sl_str (pe_fld (pv 0) rfl) (po_some (pe_fld (pv 0) rfl)) (po_some (pe_op op_add (pe_fld (pv 0) rfl) pe_int)))), ?_⟩
    refine ⟨_, rfl, p, C, dx, _, _, rfl, hp, T.cl, T.nT, fl_text _ _ _, _, rfl, p, C, dx, _, _, rfl, hp, T.cl, T.nA, fl_at _ _ _, _, rfl, _, rfl, p, C, dx, _, _, rfl, hp, T.cl, T.nA, fl_at _ _ _, _, _, rfl, rfl, _, rfl, _, rfl, ?_, ?_⟩
    · rw [S_length]; exact small (by omega)
    · rw [cut_sg]; exact q
/-! need -/
theorem scNeed : FnScope ["self", "fits"] ["self", "fits"] (defScope (rdS 2)) := ⟨rfl, rfl, rfl, by decide +kernel, rfl, by decide +kernel, by decide +kernel⟩
def spNeed (C CN : Addr) : Sp := fun vs H Q E => ∃ p z a n b, vs = [.ref p, .bl b] ∧ RdAt C H p z a n ∧ z.length ≤ 1000000 ∧ (b = true → a < z.length → Q .non H) ∧ (¬ (b = true ∧ a < z.length) → Er CN E p H a)
theorem ok_need {f : Addr} {fd : FuncData} {k : Nat} (B : Bn mg) (T : RTxt K mg C) (N : NoTx P K mg CN fI) (F : Fun K "need" "Reader.need" (rdS 2) f fd) : FnOk P w K mg base (L2.CX P w) (k + 3) f fd ["self", "fits"] (spNeed C CN) := by
  refine F.okX scNeed (fun vs H Q E h => ?_) (fun cdv A outer s H vs Q E hr h => ?_)
  · obtain ⟨p, z, a, n, b, rfl, _⟩ := h
    rfl
  · obtain ⟨p, z, a, n, b, rfl, ⟨dx, hp⟩, hz, q, e⟩ := h
    refine ⟨_, pss_one (ps_if (PW.pt (pw_or (pt_not (pt_val (pv 1))) (pw_or1 (pt_cmpR op_ge (pe_fld (pv 0) rfl) (pe_callB call_len_str (by rfl) B.len PySem.boot_len (pa_cons (pe_fld (pv 0) rfl) pa_nil)) (nomark _)))))
      (pss_one (ps_raiseNt rfl N hr (takes_of rfl rfl rfl rfl) (by exact (pa_cons (pe_fld (pv 0) rfl) pa_nil)))) pss_nil), ?_⟩
    cases b with
    | false =>
      refine ⟨_, rfl, _, rfl, iteT ?_⟩
      exact ⟨_, rfl, p, C, dx, _, _, rfl, hp, T.cl, T.nA, fl_at _ _ _, _, rfl, fun d hd => (e (by simp)).out hd⟩
    | true =>
      refine ⟨_, rfl, _, rfl, iteF ?_⟩
      refine ⟨_, rfl, p, C, dx, _, _, rfl, hp, T.cl, T.nA, fl_at _ _ _, _, rfl, p, C, dx, _, _, rfl, hp, T.cl, T.nT, fl_text _ _ _, _, rfl, ?_, _, _, rfl, rfl, _, rfl, ?_⟩
      · rw [S_length]; exact small (by omega)
      · refine ite2 (fun h => ?_) (fun h => ?_)
        · have := of_decide_eq_true h
          rw [S_length] at this
          exact ⟨_, rfl, p, C, dx, _, _, rfl, hp, T.cl, T.nA, fl_at _ _ _, _, rfl, fun d hd => (e (by omega)).out hd⟩
        · have := of_decide_eq_false (Bool.eq_false_iff.mpr h)
          rw [S_length] at this
          exact q rfl (by omega)
/-! has_room -/
theorem scRoom : FnScope ["self"] ["self"] (defScope (rdS 3)) := ⟨rfl, rfl, rfl, by decide +kernel, rfl, by decide +kernel, by decide +kernel⟩
def spRoom (C : Addr) : Sp := fun vs H Q _ => ∃ p z a n, vs = [.ref p] ∧ RdAt C H p z a n ∧ Q (.bl (decide ((n : Int) < 2000))) H
theorem ok_room {f : Addr} {fd : FuncData} {k : Nat} (T : RTxt K mg C) (F : Fun K "has_room" "Reader.has_room" (rdS 3) f fd) : FnOk P w K mg base CX0 (k + 1) f fd ["self"] (spRoom C) := by
  refine F.ok scRoom (fun vs H Q E h => ?_) (fun cdv A outer s H vs Q E hr h => ?_)
  · obtain ⟨p, z, a, n, rfl, _⟩ := h
    rfl
  · obtain ⟨p, z, a, n, rfl, ⟨dx, hp⟩, q⟩ := h
    obtain ⟨tP, mP⟩ := T.mParts
    refine ⟨_, pss_one (ps_ret (pe_or (pe_not (pe_fld (pv 0) rfl)) (pe_one (pe_cmpR op_lt (pe_fld (pv 0) rfl) (pe_glob (v := .int 2000) rfl mP ⟨_, rfl⟩) (nomark _))))), ?_⟩
    refine ⟨_, rfl, p, C, dx, _, _, rfl, hp, T.cl, T.nB, fl_bd _ _ _, _, rfl, _, rfl, iteF ?_⟩
    exact ⟨_, rfl, p, C, dx, _, _, rfl, hp, T.cl, T.nP, fl_parts _ _ _, _, _, rfl, rfl, q⟩
/-! step -/
theorem scStep : FnScope ["self"] ["self"] (defScope (rdS 4)) := ⟨rfl, rfl, rfl, by decide +kernel, rfl, by decide +kernel, by decide +kernel⟩
def spStep (C CN : Addr) : Sp := fun vs H Q E => ∃ p z a n, vs = [.ref p] ∧ RdAt C H p z a n ∧ z.length ≤ 1000000 ∧ (z.length ≤ a → Er CN E p H a) ∧ ∀ c r, z.drop a = c :: r → ∀ H', Sb p H H' → RdAt C H' p z (a + 1) n → Q (.str (S [c])) H'
theorem ok_step {f fN : Addr} {fd fdN : FuncData} {k : Nat} (B : Bn mg) (T : RTxt K mg C) (N : NoTx P K mg CN fI) (F : Fun K "step" "Reader.step" (rdS 4) f fd) (MN : MM K C "need" "Reader.need" (rdS 2) ["self", "fits"] fN fdN) :
    FnOk P w K mg base (L2.CX P w) (k + 4) f fd ["self"] (spStep C CN) := by
  have GN : FnOk P w K mg base (L2.CX P w) (k + 3) fN fdN ["self", "fits"] (spNeed C CN) := ok_need B T N MN.F
  refine F.okX scStep (fun vs H Q E h => ?_) (fun cdv A outer s H vs Q E hr h => ?_)
  · obtain ⟨p, z, a, n, rfl, _⟩ := h
    rfl
  · obtain ⟨p, z, a, n, rfl, ⟨dx, hp⟩, hz, er, q⟩ := h
    refine ⟨_, pss_cons (ps_expr (pe_meth (pv 0) T.cl MN.m GN hr MN.b .nil (passes_call (takes_of rfl rfl rfl rfl) (fun _ _ _ _ h => h)) (pa_cons pe_bl pa_nil))) (pss_cons (ps_fldaug (pv 0) pe_int in_add)
      (pss_one (ps_ret (pe_ix ix_str (pe_fld (pv 0) rfl) (pe_op op_sub (pe_fld (pv 0) rfl) pe_int) (fun _ _ => rfl))))), ?_⟩
    refine ⟨_, rfl, p, dx, _, rfl, hp, by rfl, p, z, a, n, true, rfl, ⟨dx, hp⟩, hz, fun _ hlt => ?_, fun hn => er (by simpa using hn)⟩
    obtain ⟨c, r, hd⟩ : ∃ c r, z.drop a = c :: r := ⟨_, _, List.drop_eq_getElem_cons hlt⟩
    refine ⟨_, rfl, p, C, dx, _, _, rfl, hp, T.cl, T.nA, fl_at _ _ _, _, _, rfl, rfl, dx, _, hp, (by show 4 < 1000; decide), ?_⟩
    rw [show ((a : Int) + 1) = ((a + 1 : Nat) : Int) by omega, fl_putAt]
    refine ⟨_, rfl, p, C, dx, _, _, rfl, upd_same, T.cl, T.nT, fl_text _ _ _, _, rfl, p, C, dx, _, _, rfl, upd_same, T.cl, T.nA, fl_at _ _ _, _, _, rfl, rfl, S z, _, c, rfl, rfl, ?_, ?_, ?_⟩
    · rw [S_length]; exact small (by omega)
    · rw [show (((a + 1 : Nat) : Int) - 1) = (a : Int) by omega]
      refine atI_nat ?_
      rw [S_cps, ← List.head?_drop, hd]; rfl
    · exact q c r hd _ (sb_upd _) ⟨dx, upd_same⟩
end
end DS
set_option Elab.async false
set_option linter.all false
set_option maxRecDepth 100000
set_option maxHeartbeats 4000000
namespace DS
open PySem L2
/-- the reader's small methods, at a level -/
structure Smalls (P : Program) (w : World) (K : PySem.W.Frag) (mg : Str → Option Value) (base : Heap) (C CN fG fN fR fS : Addr) (fdG fdN fdR fdS : FuncData) : Prop where
  G : MM K C "sign" "Reader.sign" (rdS 1) ["self"] fG fdG
  N : MM K C "need" "Reader.need" (rdS 2) ["self", "fits"] fN fdN
  R : MM K C "has_room" "Reader.has_room" (rdS 3) ["self"] fR fdR
  S : MM K C "step" "Reader.step" (rdS 4) ["self"] fS fdS
  oG : FnOk P w K mg base CX0 1 fG fdG ["self"] (spSign C)
  oN : FnOk P w K mg base (L2.CX P w) 3 fN fdN ["self", "fits"] (spNeed C CN)
  oR : FnOk P w K mg base CX0 1 fR fdR ["self"] (spRoom C)
  oS : FnOk P w K mg base (L2.CX P w) 4 fS fdS ["self"] (spStep C CN)
theorem drop_lt {z : Cs} {a : Nat} (h : a < z.length) : ∃ c r, z.drop a = c :: r := ⟨_, _, List.drop_eq_getElem_cons h⟩
theorem mem_none : inV (V.str (S [])) [V.str (Str.ofString "\""), V.str (Str.ofString "\\")] = false := by
  simp only [inV, List.any, eqV, ofs_q, ofs_b, Bool.or_false]
  decide
theorem mem_esc' {c : Nat} : inV (V.str (S [c])) [V.str (S [34]), V.str (S [92])] = decide (c = 34 ∨ c = 92) := by rw [← ofs_q, ← ofs_b]; exact mem_esc
/-- where the loop of read_string stands -/
def StrI (C p l : Addr) (z : Cs) (n : Nat) (H : Hp) (r : Except Nat (Cs × Nat)) (m : Nat) (σ : L2.St) (H2 : Hp) : Prop :=
  ∃ (acc : Cs) (a2 : Nat) (y : Option V), σ = [some (.ref p), some (.ref l), y] ∧ m + a2 = z.length ∧ acc.length ≤ a2 ∧ Sb p H H2 ∧ RdAt C H2 p z a2 n ∧ H2 l = some (.lst (acc.map fun c => V.str (S [c]))) ∧ strM (z.drop a2) a2 acc = r
section
variable {P : Program} {w : World} {K : PySem.W.Frag} {mg : Str → Option Value} {base : Heap} {C CN fG fN fR fS : Addr} {fdG fdN fdR fdS : FuncData}
theorem scStr : FnScope ["self", "found", "sign"] ["self"] (defScope (rdS 7)) := ⟨rfl, rfl, rfl, by decide +kernel, rfl, by decide +kernel, by decide +kernel⟩
def spStr (C CN : Addr) : Sp := fun vs H Q E => ∃ p z a n r0, vs = [.ref p] ∧ RdAt C H p z a n ∧ z.length ≤ 1000000 ∧ z.drop a = 34 :: r0 ∧
  Res (fun x => ∀ H', Sb p H H' → RdAt C H' p z x.2 n → Q (.str (S x.1)) H') (Er CN E p H) (strM r0 (a + 1) [])
theorem ok_str {f : Addr} {fd : FuncData} {k : Nat} (T : RTxt K mg C) (M : Smalls P w K mg base C CN fG fN fR fS fdG fdN fdR fdS) (F : Fun K "read_string" "Reader.read_string" (rdS 7) f fd) :
    FnOk P w K mg base (L2.CX P w) (k + 5) f fd ["self"] (spStr C CN) := by
  refine F.okX scStr (fun vs H Q E h => ?_) (fun cdv A outer s H vs Q E hr h => ?_)
  · obtain ⟨p, z, a, n, r0, rfl, _⟩ := h
    rfl
  · obtain ⟨p, z, a, n, r0, rfl, ⟨dx, hp⟩, hz, hd, q⟩ := h
    obtain ⟨tS, mS⟩ := T.mSig
    have hr1 : Room 1 _ := hr.mono (show 1 ≤ k + 4 by omega)
    have hr3 : Room 3 _ := hr.mono (show 3 ≤ k + 4 by omega)
    have hr4 : Room 4 _ := hr.mono (show 4 ≤ k + 4 by omega)
    refine ⟨_, pss_cons (ps_expr (pe_meth0 (pv 0) T.cl M.S.m M.oS hr4 M.S.b .nil (passes_call (takes_of rfl rfl rfl rfl) (fun _ _ _ _ h => h))))
      (pss_cons (ps_set (i := 1) scStr.nd rfl (Or.inl rfl) (pe_lst pa_nil))
      (pss_cons (ps_whileW (passes_of rfl) (ptw_cmp op_ne (pew_named (i := 2) scStr.nd rfl (Or.inl rfl) (pew_of (pe_meth0 (pv 0) T.cl M.G.m M.oG hr1 M.G.b .nil pass0))) pe_str (nomark _))
        (pss_cons (ps_expr (pe_meth (pv 0) T.cl M.N.m M.oN hr3 M.N.b .nil (passes_call (takes_of rfl rfl rfl rfl) (fun _ _ _ _ h => h)) (pa_cons (pe_cmpR op_in_sg (pv 2) (pe_glob (v := .str (S sgnList)) rfl mS ⟨_, rfl⟩) rfl) pa_nil)))
        (pss_cons (ps_expr (pe_meth0 (pv 0) T.cl M.S.m M.oS hr4 M.S.b .nil (passes_call (takes_of rfl rfl rfl rfl) (fun _ _ _ _ h => h))))
        (pss_cons (ps_if (pt_cmpR op_eq (pv 2) pe_str (nomark _))
          (pss_cons (ps_set (i := 2) scStr.nd rfl (Or.inl rfl) (pe_meth0 (pv 0) T.cl M.G.m M.oG hr1 M.G.b .nil pass0))
          (pss_cons (ps_expr (pe_meth (pv 0) T.cl M.N.m M.oN hr3 M.N.b .nil (passes_call (takes_of rfl rfl rfl rfl) (fun _ _ _ _ h => h)) (pa_cons (pe_cmpR (show OpR _ (compareOp .In) (rIn K false) from op_in_seq) (pv 2) (pe_tup (pa_cons pe_str (pa_cons pe_str pa_nil))) (by rfl)) pa_nil)))
          (pss_one (ps_expr (pe_meth0 (pv 0) T.cl M.S.m M.oS hr4 M.S.b .nil (passes_call (takes_of rfl rfl rfl rfl) (fun _ _ _ _ h => h))))))) pss_nil)
        (pss_one (ps_expr (pe_bm PySem.F.plainAttrs_list PySem.F.slot_list_append PySem.F.type_list_append mt_append (pv 1) (pa_cons (pv 2) pa_nil))))))) pss_nil)
      (pss_cons (ps_expr (pe_meth0 (pv 0) T.cl M.S.m M.oS hr4 M.S.b .nil (passes_call (takes_of rfl rfl rfl rfl) (fun _ _ _ _ h => h))))
      (pss_one (ps_ret (pe_join pe_str (pv 1))))))), ?_⟩
    have hla := drop_len hd
    rw [List.length_cons] at hla
    -- self.step(); found = []
    refine ⟨_, rfl, p, dx, _, rfl, hp, by rfl, p, z, a, n, rfl, ⟨dx, hp⟩, hz, fun h => by omega, fun c r e H1 b1 R1 => ?_⟩
    refine ⟨Nat.zero_le _, fun l hl => ?_⟩
    have hd1 := drop_more hd
    have nlp : l ≠ p := fun e => R1.ne (e ▸ hl)
    have hlH : H l = none := sb_free b1 hp hl R1.ne
    -- the loop
    refine ⟨StrI C p l z n H (strM r0 (a + 1) []), ⟨z.length - (a + 1), [], a + 1, none, rfl, by omega, Nat.zero_le _, b1.trans (Same.sb (same_new hl _)), ?_, by rw [upd_same]; rfl, by rw [hd1]⟩, ?_⟩
    · obtain ⟨dx1, h1⟩ := R1
      exact ⟨dx1, by rw [upd_ne nlp.symm]; exact h1⟩
    rintro m σ H2 ⟨acc, a2, y, rfl, hm, hacc, b2, R2, hl2, er⟩
    obtain ⟨dx2, hp2⟩ := id R2
    refine ⟨_, rfl, p, dx2, _, rfl, hp2, by rfl, p, z, _, n, rfl, R2, hz, rfl, _, rfl, ?_⟩
    rw [ofs_q]
    have fin : ∀ (H4 : Hp) (c a4 : Nat), Sb p H H4 → RdAt C H4 p z a4 n → H4 l = some (.lst (acc.map fun c => V.str (S [c]))) → a2 < a4 → a4 ≤ z.length → strM (z.drop a4) a4 (acc ++ [c]) = strM r0 (a + 1) [] →
        ∃ m', m' < m ∧ StrI C p l z n H (strM r0 (a + 1) []) m' [some (V.ref p), some (V.ref l), some (V.str (S [c]))] (upd H4 l (.lst (acc.map (fun c => V.str (S [c])) ++ [V.str (S [c])]))) := by
      intro H4 c a4 b4 R4 hl4 lt le e4
      refine ⟨z.length - a4, by omega, acc ++ [c], a4, _, rfl, by omega, by rw [List.length_append, List.length_singleton]; omega, ?_, ?_, by rw [upd_same]; simp, e4⟩
      · intro b o e n
        rw [upd_ne (ne_of_none e hlH)]
        exact b4 b o e n
      · obtain ⟨dx4, h4⟩ := R4
        exact ⟨dx4, by rw [upd_ne nlp.symm]; exact h4⟩
    have hsz : (acc.map fun c => V.str (S [c])).length < sizeLine := small' (by rw [List.length_map]; omega)
    cases hz2 : z.drop a2 with
    | nil =>
      have e0 : sg z a2 = [] := sg_nil hz2
      have hle : z.length ≤ a2 := by have := congrArg List.length hz2; rw [List.length_drop] at this; simp at this; omega
      rw [hz2, strM_nil] at er
      rw [e0]
      refine iteT ⟨fun σ' H' => ∃ m', m' < m ∧ StrI C p l z n H (strM r0 (a + 1) []) m' σ' H', fun σ' H' h => h, ?_⟩
      refine ⟨_, rfl, p, dx2, _, rfl, hp2, by rfl, _, rfl, _, _, rfl, rfl, fun b _ => ?_⟩
      refine ⟨p, z, a2, n, b, rfl, R2, hz, fun _ h => absurd h (by omega), fun _ => ?_⟩
      rw [← er] at q
      exact Er.mono q b2
    | cons c r =>
      have e0 : sg z a2 = [c] := sg_some hz2
      have hlt : a2 < z.length := lt_of_drop hz2
      rw [hz2, strM_cons] at er
      rw [e0]
      by_cases h34 : c = 34
      · subst h34
        rw [if_pos rfl] at er
        rw [decide_eq_true rfl]
        refine iteF ?_
        refine ⟨_, rfl, p, dx2, _, rfl, hp2, by rfl, p, z, a2, n, rfl, R2, hz, fun h => by omega, fun c' r' e' H3 b3 R3 => ?_⟩
        have hl3 := b3 l _ hl2 nlp
        have em : acc.map (fun c => V.str (S [c])) = ((acc.map fun c => [c]).map S).map V.str := by simp
        rw [em] at hl3
        refine ⟨⟨_, rfl⟩, _, rfl, _, l, (acc.map fun c => [c]).map S, rfl, rfl, .inl (SqL.of hl3), ?_, ?_⟩
        · rw [sum_lens, ofs_e, S_length, flat_one]
          show acc.length + _ * 0 ≤ _
          omega
        · rw [ofs_e, join_empty, flat_one]
          rw [← er] at q
          exact q H3 (b2.trans b3) R3
      · rw [if_neg h34] at er
        have nq : ¬ (V.str (S [c]) = V.str (S [34])) := fun e => by have := vS_inj e; simp at this; omega
        rw [decide_eq_false nq]
        refine iteT ⟨fun σ' H' => ∃ m', m' < m ∧ StrI C p l z n H (strM r0 (a + 1) []) m' σ' H', fun σ' H' h => h, ?_⟩
        refine ⟨_, rfl, p, dx2, _, rfl, hp2, by rfl, _, rfl, _, _, rfl, rfl, fun b hb => ?_⟩
        have hb' := hb c rfl
        by_cases hs : c ∈ sgnList
        · rw [if_pos hs] at er
          rw [decide_eq_true hs] at hb'
          subst hb'
          refine ⟨p, z, a2, n, true, rfl, R2, hz, fun _ _ => ?_, fun h => absurd ⟨rfl, hlt⟩ h⟩
          refine ⟨_, rfl, p, dx2, _, rfl, hp2, by rfl, p, z, a2, n, rfl, R2, hz, fun h => by omega, fun c' r' e' H3 b3 R3 => ?_⟩
          have hl3 := b3 l _ hl2 nlp
          have hd3 := drop_more hz2
          obtain ⟨dx3, hp3⟩ := id R3
          refine ⟨_, rfl, rfl, _, rfl, ?_⟩
          rw [ofs_b]
          by_cases h92 : c = 92
          · subst h92
            rw [if_pos rfl] at er
            rw [decide_eq_true rfl]
            refine iteT ?_
            refine ⟨_, rfl, p, dx3, _, rfl, hp3, by rfl, p, z, _, n, rfl, R3, hz, ?_⟩
            refine ⟨_, rfl, p, dx3, _, rfl, hp3, by rfl, _, rfl, by show 2 ≤ sizeLine; decide, fun t ht => ?_⟩
            have ntp : p ≠ t := fun e => R3.ne (e ▸ ht)
            have hp3' : (upd H3 t (.tup [.str (Str.ofString "\""), .str (Str.ofString "\\")])) p = some (.ins C dx3 (flds z (a2 + 1) n)) := by rw [upd_ne ntp]; exact hp3
            refine ⟨t, _, rfl, .inr (SqT.of upd_same), rfl, rfl, p, z, _, n, _, rfl, ⟨dx3, hp3'⟩, hz, fun hb2 hlt2 => ?_, fun hb2 => ?_⟩
            · obtain ⟨c2, r2, hz3⟩ := drop_lt hlt2
              rw [sg_some hz3] at hb2 ⊢
              have hc2 : c2 = 34 ∨ c2 = 92 := by
                have hb3 : inV (V.str (S [c2])) [V.str (S [34]), V.str (S [92])] = true := hb2
                rw [mem_esc'] at hb3
                exact of_decide_eq_true hb3
              have er2 : strM r2 (a2 + 2) (acc ++ [c2]) = strM r0 (a + 1) [] := by
                rw [hd3] at hz3
                rw [hz3] at er
                simp only at er
                rw [if_pos hc2] at er
                exact er
              refine ⟨_, rfl, p, dx3, _, rfl, hp3', by rfl, p, z, _, n, rfl, ⟨dx3, hp3'⟩, hz, fun h => by omega, fun c4 r4 e4 H4 b4 R4 => ?_⟩
              have hl4 := b4 l _ (by rw [upd_ne (ne_of_none hl3 ht)]; exact hl3) nlp
              refine ⟨_, rfl, .inl ⟨rfl, _, SqL.of hl4⟩, _, rfl, l, _, _, rfl, rfl, hl4, hsz, ?_⟩
              refine fin H4 c2 (a2 + 2) ((b2.trans b3).trans ((Same.sb (same_new ht _)).trans b4)) R4 hl4 (by omega) (by omega) ?_
              rw [show a2 + 2 = a2 + 1 + 1 by omega, drop_more hz3]
              exact er2
            · have : strM r0 (a + 1) [] = .error (a2 + 1) := by
                cases hz3 : z.drop (a2 + 1) with
                | nil =>
                  rw [hd3] at hz3
                  rw [hz3] at er
                  exact er.symm
                | cons c2 r2 =>
                  have nc : ¬ (c2 = 34 ∨ c2 = 92) := fun hc => hb2 ⟨by
                    rw [sg_some hz3]
                    show inV (V.str (S [c2])) [V.str (S [34]), V.str (S [92])] = true
                    rw [mem_esc', decide_eq_true hc], lt_of_drop hz3⟩
                  rw [hd3] at hz3
                  rw [hz3] at er
                  simp only at er
                  rw [if_neg nc] at er
                  exact er.symm
              rw [this] at q
              exact Er.mono q ((b2.trans b3).trans (Same.sb (same_new ht _)))
          · rw [if_neg h92] at er
            have nb : ¬ (V.str (S [c]) = V.str (S [92])) := fun e => by have := vS_inj e; simp at this; omega
            rw [decide_eq_false nb]
            refine iteF ?_
            refine ⟨_, rfl, .inl ⟨rfl, _, SqL.of hl3⟩, _, rfl, l, _, _, rfl, rfl, hl3, hsz, ?_⟩
            refine fin H3 c (a2 + 1) (b2.trans b3) R3 hl3 (by omega) (by omega) ?_
            rw [hd3]
            exact er
        · rw [if_neg hs] at er
          rw [decide_eq_false hs] at hb'
          subst hb'
          refine ⟨p, z, a2, n, false, rfl, R2, hz, fun h _ => Bool.noConfusion h, fun _ => ?_⟩
          rw [← er] at q
          exact Er.mono q b2
end
end DS
set_option Elab.async false
set_option linter.all false
set_option maxRecDepth 100000
set_option maxHeartbeats 4000000
namespace DS
open PySem L2 PySem.NumText
theorem digM_ok : ∀ (r f : Cs) (a : Nat) (f' : Cs) (a' : Nat), AllDigits f → f.length ≤ 100 → f ≠ [] → digM f r a = .ok (f', a') → AllDigits f' ∧ f'.length ≤ 100 ∧ f' ≠ [] := by
  intro r
  induction r with
  | nil => intro f a f' a' h1 h2 h3 h; simp only [digM] at h; cases h; exact ⟨h1, h2, h3⟩
  | cons c r ih =>
    intro f a f' a' h1 h2 h3 h
    simp only [digM] at h
    by_cases hc : isDig c
    · rw [if_pos hc] at h
      by_cases hf : f ≠ [48] ∧ f.length < 100
      · rw [if_pos hf] at h
        refine ih (f ++ [c]) (a + 1) f' a' ?_ ?_ (by simp) h
        · intro x hx
          rcases List.mem_append.mp hx with hx | hx
          · exact h1 x hx
          · simp at hx; subst hx; exact hc
        · rw [List.length_append, List.length_singleton]; omega
      · rw [if_neg hf] at h; cases h
    · rw [if_neg hc] at h; cases h; exact ⟨h1, h2, h3⟩
section
variable {P : Program} {w : World} {K : PySem.W.Frag} {mg : Str → Option Value} {base : Heap} {C CN fG fN fR fS : Addr} {fdG fdN fdR fdS : FuncData}
/-! read_written -/
theorem scWr : FnScope ["self", "sign", "word", "value", "one"] ["self", "sign"] (defScope (rdS 8)) := ⟨rfl, rfl, rfl, by decide +kernel, rfl, by decide +kernel, by decide +kernel⟩
def spWr (C CN : Addr) : Sp := fun vs H Q E => ∃ p z a n b, vs = [.ref p, .str (S [if b then 121 else 110])] ∧ RdAt C H p z a n ∧ z.length ≤ 1000000 ∧
  Res (fun a' => ∀ H', Sb p H H' → RdAt C H' p z a' n → Q (.bl b) H') (Er CN E p H) (wrdM (wd b) (z.drop a) a)
theorem ok_wr {f d tY tN : Addr} {fd : FuncData} {k : Nat} (T : RTxt K mg C) (Wt : WTxt K w mg d tY tN) (M : Smalls P w K mg base C CN fG fN fR fS fdG fdN fdR fdS) (F : Fun K "read_written" "Reader.read_written" (rdS 8) f fd) :
    FnOk P w K mg base (L2.CX P w) (k + 5) f fd ["self", "sign"] (spWr C CN) := by
  refine F.okX scWr (fun vs H Q E h => ?_) (fun cdv A outer s H vs Q E hr h => ?_)
  · obtain ⟨p, z, a, n, b, rfl, _⟩ := h
    rfl
  · obtain ⟨p, z, a, n, b, rfl, ⟨dx, hp⟩, hz, q⟩ := h
    have hr1 : Room 1 _ := hr.mono (show 1 ≤ k + 4 by omega)
    have hr3 : Room 3 _ := hr.mono (show 3 ≤ k + 4 by omega)
    have hr4 : Room 4 _ := hr.mono (show 4 ≤ k + 4 by omega)
    refine ⟨_, pss_cons (ps_asg (pe_ix ix_kdict (pe_glob (v := .ref d) rfl Wt.mgW rfl) (pv 1) (fun _ _ => rfl)) (pg_tup (by rfl) (pgs_cons (pg_name (i := 2) scWr.nd rfl (Or.inl rfl)) (pgs_cons (pg_name (i := 3) scWr.nd rfl (Or.inl rfl)) pgs_nil))))
      (pss_cons (ps_for (passes_of rfl) rfl (pi_str (pv 2)) (pg_name (i := 4) scWr.nd rfl (Or.inl rfl))
        (pss_cons (ps_expr (pe_meth (pv 0) T.cl M.N.m M.oN hr3 M.N.b .nil (passes_call (takes_of rfl rfl rfl rfl) (fun _ _ _ _ h => h)) (pa_cons (pe_cmpR op_eq (pe_meth0 (pv 0) T.cl M.G.m M.oG hr1 M.G.b .nil pass0) (pv 4) (nomark _)) pa_nil)))
        (pss_one (ps_expr (pe_meth0 (pv 0) T.cl M.S.m M.oS hr4 M.S.b .nil (passes_call (takes_of rfl rfl rfl rfl) (fun _ _ _ _ h => h)))))))
      (pss_one (ps_ret (pv 3)))), ?_⟩
    obtain ⟨es, nn, KD⟩ := Wt.D
    have key : ∃ tp, KDct K w d (S [if b then 121 else 110]) (.ref tp) ∧ SqT K H tp [.str (S (wd b)), .bl b] := by
      cases b with
      | true => exact ⟨tY, ⟨es, nn, _, KD.at_, KD.lit, Wt.y, rfl⟩, Wt.tY H⟩
      | false => exact ⟨tN, ⟨es, nn, _, KD.at_, KD.lit, Wt.n, rfl⟩, Wt.tN H⟩
    obtain ⟨tp, kd, hT⟩ := key
    refine ⟨_, rfl, d, _, _, rfl, rfl, kd, tp, _, rfl, hT, rfl, _, _, rfl, _, [], rfl, rfl, ?_⟩
    refine ⟨_, rfl, _, rfl, for_it (walk_str (z := S (wd b))) (fun i σ H2 => ∃ y, σ = [some (.ref p), some (.str (S [if b then 121 else 110])), some (.str (S (wd b))), some (.bl b), y] ∧ Sb p H H2 ∧ RdAt C H2 p z (a + i) n ∧
        wrdM ((wd b).drop i) (z.drop (a + i)) (a + i) = wrdM (wd b) (z.drop a) a)
      ⟨none, rfl, Sb.refl _ _, ⟨dx, hp⟩, rfl⟩ (fun _ _ _ _ _ => trivial) ?_ ?_⟩
    · rintro i x σ H2 H3 hi ⟨y, rfl, b2, R2, ew⟩ ⟨rfl, c, hc, rfl⟩
      obtain ⟨dx2, hp2⟩ := id R2
      have hi' : i < (wd b).length := by simpa [S] using hi
      have ec : (wd b)[i]? = some c := by simpa [S] using hc
      have edc : (wd b).drop i = c :: (wd b).drop (i + 1) := by
        rw [List.drop_eq_getElem_cons hi']
        rw [List.getElem?_eq_getElem hi'] at ec
        rw [Option.some.inj ec]
      rw [edc] at ew
      refine ⟨_, rfl, p, dx2, _, rfl, hp2, by rfl, _, rfl, p, dx2, _, rfl, hp2, by rfl, p, z, _, n, rfl, R2, hz, ?_⟩
      refine ⟨_, rfl, rfl, p, z, _, n, _, rfl, R2, hz, fun hb hlt => ?_, fun hb => ?_⟩
      · obtain ⟨c2, r2, hz2⟩ := drop_lt hlt
        rw [sg_some hz2] at hb
        have hc2 : c2 = c := by have := vS_inj (of_decide_eq_true hb); simpa using this
        subst hc2
        rw [hz2, wrdM, if_pos rfl] at ew
        refine ⟨_, rfl, p, dx2, _, rfl, hp2, by rfl, p, z, _, n, rfl, R2, hz, fun h => by omega, fun c4 r4 e4 H4 b4 R4 => ?_⟩
        refine ⟨_, rfl, b2.trans b4, R4, ?_⟩
        rw [show a + (i + 1) = a + i + 1 by omega, drop_more hz2]
        exact ew
      · have e2 : wrdM (wd b) (z.drop a) a = .error (a + i) := by
          rw [← ew]
          cases hz2 : z.drop (a + i) with
          | nil => rfl
          | cons c2 r2 =>
            have nc : c2 ≠ c := fun e => hb ⟨by rw [sg_some hz2, e]; exact decide_eq_true rfl, lt_of_drop hz2⟩
            rw [wrdM, if_neg nc]
        rw [e2] at q
        exact Er.mono q b2
    · rintro σ H2 ⟨y, rfl, b2, R2, ew⟩
      have el : (S (wd b)).cps.size = (wd b).length := by simp [S]
      rw [el] at R2 ew
      rw [List.drop_length, wrdM] at ew
      rw [← ew] at q
      exact ⟨_, rfl, q H2 b2 R2⟩
/-! read_digits -/
theorem scDg : FnScope ["self", "found"] ["self"] (defScope (rdS 10)) := ⟨rfl, rfl, rfl, by decide +kernel, rfl, by decide +kernel, by decide +kernel⟩
def spDg (C CN : Addr) : Sp := fun vs H Q E => ∃ p z a n c r, vs = [.ref p] ∧ RdAt C H p z a n ∧ z.length ≤ 1000000 ∧ z.drop a = c :: r ∧ isDig c ∧
  Res (fun x => ∀ H', Sb p H H' → RdAt C H' p z x.2 n → Q (.str (S x.1)) H') (Er CN E p H) (digM [c] r (a + 1))
theorem ok_dg {f : Addr} {fd : FuncData} {k : Nat} (B : Bn mg) (T : RTxt K mg C) (M : Smalls P w K mg base C CN fG fN fR fS fdG fdN fdR fdS) (F : Fun K "read_digits" "Reader.read_digits" (rdS 10) f fd) :
    FnOk P w K mg base (L2.CX P w) (k + 5) f fd ["self"] (spDg C CN) := by
  refine F.okX scDg (fun vs H Q E h => ?_) (fun cdv A outer s H vs Q E hr h => ?_)
  · obtain ⟨p, z, a, n, c, r, rfl, _⟩ := h
    rfl
  · obtain ⟨p, z, a, n, c0, r0, rfl, ⟨dx, hp⟩, hz, hd, hc0, q⟩ := h
    have hr1 : Room 1 _ := hr.mono (show 1 ≤ k + 4 by omega)
    have hr3 : Room 3 _ := hr.mono (show 3 ≤ k + 4 by omega)
    have hr4 : Room 4 _ := hr.mono (show 4 ≤ k + 4 by omega)
    obtain ⟨tD, mD⟩ := T.mDig
    obtain ⟨tM, mM⟩ := T.mDigs
    refine ⟨_, pss_cons (ps_set (i := 1) scDg.nd rfl (Or.inl rfl) (pe_meth0 (pv 0) T.cl M.S.m M.oS hr4 M.S.b .nil (passes_call (takes_of rfl rfl rfl rfl) (fun _ _ _ _ h => h))))
      (pss_cons (ps_while (passes_of rfl) (PW.pt (pw_and (pt_cmpR op_ne (pe_meth0 (pv 0) T.cl M.G.m M.oG hr1 M.G.b .nil pass0) pe_str (nomark _)) (pw_and1 (pt_cmpR op_in_sign (pe_meth0 (pv 0) T.cl M.G.m M.oG hr1 M.G.b .nil pass0) (pe_glob (v := .str (S digL)) rfl mD ⟨_, rfl⟩) rfl))))
        (pss_cons (ps_expr (pe_meth (pv 0) T.cl M.N.m M.oN hr3 M.N.b .nil (passes_call (takes_of rfl rfl rfl rfl) (fun _ _ _ _ h => h)) (pa_cons (pe_and (pe_cmpR op_ne (pv 1) pe_str (nomark _)) (pe_one (pe_cmpR op_lt (pe_callB call_len_str (by rfl) B.len PySem.boot_len (pa_cons (pv 1) pa_nil)) (pe_glob (v := .int 100) rfl mM ⟨_, rfl⟩) (nomark _)))) pa_nil)))
        (pss_one (ps_aug (i := 1) scDg.nd rfl (Or.inl rfl) (pe_meth0 (pv 0) T.cl M.S.m M.oS hr4 M.S.b .nil (passes_call (takes_of rfl rfl rfl rfl) (fun _ _ _ _ h => h))) ip_str))))
      (pss_one (ps_ret (pv 1)))), ?_⟩
    have hla := drop_len hd
    rw [List.length_cons] at hla
    refine ⟨_, rfl, p, dx, _, rfl, hp, by rfl, p, z, a, n, rfl, ⟨dx, hp⟩, hz, fun h => by omega, fun c r e H1 b1 R1 => ?_⟩
    have hd1 := drop_more hd
    rw [hd] at e
    obtain ⟨rfl, rfl⟩ := List.cons.inj e
    refine ⟨fun m σ H2 => ∃ f a2, σ = [some (.ref p), some (.str (S f))] ∧ m + a2 = z.length ∧ f.length ≤ 100 ∧ Sb p H H2 ∧ RdAt C H2 p z a2 n ∧ digM f (z.drop a2) a2 = digM [c0] r0 (a + 1),
      ⟨z.length - (a + 1), [c0], a + 1, rfl, by omega, by simp, b1, R1, by rw [hd1]⟩, ?_⟩
    rintro m σ H2 ⟨fd, a2, rfl, hm, hfl, b2, R2, ew⟩
    obtain ⟨dx2, hp2⟩ := id R2
    refine ⟨_, rfl, p, dx2, _, rfl, hp2, by rfl, p, z, _, n, rfl, R2, hz, rfl, _, rfl, ?_⟩
    rw [ofs_e]
    cases hz2 : z.drop a2 with
    | nil =>
      rw [hz2, digM] at ew
      rw [sg_nil hz2]
      refine iteF ?_
      show if (!decide (V.str (S []) = V.str (S []))) = true then _ else _
      rw [decide_eq_true rfl]
      rw [← ew] at q
      exact iteF ⟨_, rfl, q H2 b2 R2⟩
    | cons c r =>
      rw [hz2, digM] at ew
      rw [sg_some hz2]
      have nb : ¬ (V.str (S [c]) = V.str (S [])) := fun e => by have := vS_inj e; simp at this
      rw [decide_eq_false nb]
      refine iteT ?_
      refine ⟨_, rfl, p, dx2, _, rfl, hp2, by rfl, p, z, _, n, rfl, R2, hz, ?_⟩
      rw [sg_some hz2]
      refine ⟨c, _, rfl, rfl, _, rfl, ?_⟩
      show if decide (c ∈ digL) = true then _ else _
      by_cases hc : isDig c
      · rw [if_pos hc] at ew
        rw [decide_eq_true (mem_dig.mpr hc)]
        refine iteT ⟨fun σ' H' => ∃ m', m' < m ∧ ∃ f a2, σ' = [some (.ref p), some (.str (S f))] ∧ m' + a2 = z.length ∧ f.length ≤ 100 ∧ Sb p H H' ∧ RdAt C H' p z a2 n ∧ digM f (z.drop a2) a2 = digM [c0] r0 (a + 1), fun σ' H' h => h, ?_⟩
        have hlt := lt_of_drop hz2
        refine ⟨_, rfl, p, dx2, _, rfl, hp2, by rfl, _, rfl, rfl, _, rfl, ?_⟩
        rw [ofs_0]
        by_cases h48 : fd = [48]
        · rw [if_neg (fun h => h.1 h48)] at ew
          rw [h48, decide_eq_true rfl]
          refine iteF ?_
          refine ⟨p, z, _, n, false, rfl, R2, hz, fun h _ => Bool.noConfusion h, fun _ => ?_⟩
          rw [← ew] at q
          exact Er.mono q b2
        · have n0 : ¬ (V.str (S fd) = V.str (S [48])) := fun e => h48 (vS_inj e)
          rw [decide_eq_false n0]
          refine iteT ⟨_, rfl, _, rfl, ?_, _, _, rfl, rfl, p, z, _, n, _, rfl, R2, hz, fun hb _ => ?_, fun hb => ?_⟩
          · rw [S_length]; exact small (by omega)
          · have hl : fd.length < 100 := by have := of_decide_eq_true hb; rw [S_length] at this; omega
            rw [if_pos ⟨h48, hl⟩] at ew
            refine ⟨_, rfl, _, rfl, p, dx2, _, rfl, hp2, by rfl, p, z, _, n, rfl, R2, hz, fun h => by omega, fun c4 r4 e4 H3 b3 R3 => ?_⟩
            rw [hz2] at e4
            obtain ⟨rfl, rfl⟩ := List.cons.inj e4
            refine ⟨_, _, rfl, rfl, by rw [S_length, S_length]; exact small (by simp only [List.length_cons, List.length_nil]; omega), ?_⟩
            refine ⟨z.length - (a2 + 1), by omega, fd ++ [c], a2 + 1, by rw [S_append]; rfl, by omega, by rw [List.length_append, List.length_singleton]; omega, b2.trans b3, R3, ?_⟩
            rw [drop_more hz2]
            exact ew
          · have hl : ¬ fd.length < 100 := fun h => hb ⟨decide_eq_true (by rw [S_length]; omega), hlt⟩
            rw [if_neg (fun h => hl h.2)] at ew
            rw [← ew] at q
            exact Er.mono q b2
      · rw [if_neg hc] at ew
        rw [decide_eq_false (fun h => hc (mem_dig.mp h))]
        rw [← ew] at q
        exact iteF ⟨_, rfl, q H2 b2 R2⟩
end
end DS
set_option Elab.async false
set_option linter.all false
set_option maxRecDepth 100000
set_option maxHeartbeats 4000000
namespace DS
open PySem L2 PySem.NumText
theorem dg_val {f : Cs} (h : AllDigits f) (hl : f.length ≤ 100) (hn : f ≠ []) : PySem.intText? (S f) = some (digitsVal f : Int) := by
  have := PySem.intText_digits (x := S f) (by rw [S_cps]; exact h) (by rw [S_cps]; exact hn) (by rw [S_length]; omega)
  rw [this, S_cps]
section
variable {P : Program} {w : World} {K : PySem.W.Frag} {mg : Str → Option Value} {base : Heap} {C CN fG fN fR fS : Addr} {fdG fdN fdR fdS : FuncData}
/-! read_number -/
theorem scNm : FnScope ["self", "is_negative", "digits"] ["self"] (defScope (rdS 9)) := ⟨rfl, rfl, rfl, by decide +kernel, rfl, by decide +kernel, by decide +kernel⟩
def spNm (C CN : Addr) : Sp := fun vs H Q E => ∃ p z a n c r, vs = [.ref p] ∧ RdAt C H p z a n ∧ z.length ≤ 1000000 ∧ z.drop a = c :: r ∧
  Res (fun x => ∀ H' v, LeafV x.1 v → Sb p H H' → RdAt C H' p z x.2 n → Q v H') (Er CN E p H) (numM (c :: r) a)
theorem ok_nm {f fD : Addr} {fd fdD : FuncData} {k : Nat} (B : Bn mg) (T : RTxt K mg C) (M : Smalls P w K mg base C CN fG fN fR fS fdG fdN fdR fdS) (MD : MM K C "read_digits" "Reader.read_digits" (rdS 10) ["self"] fD fdD) (F : Fun K "read_number" "Reader.read_number" (rdS 9) f fd) :
    FnOk P w K mg base (L2.CX P w) (k + 6) f fd ["self"] (spNm C CN) := by
  have GD : FnOk P w K mg base (L2.CX P w) 5 fD fdD ["self"] (spDg C CN) := ok_dg (k := 0) B T M MD.F
  refine F.okX scNm (fun vs H Q E h => ?_) (fun cdv A outer s H vs Q E hr h => ?_)
  · obtain ⟨p, z, a, n, c, r, rfl, _⟩ := h
    rfl
  · obtain ⟨p, z, a, n, c, r, rfl, R, hz, hd, q⟩ := h
    have hr1 : Room 1 _ := hr.mono (show 1 ≤ k + 5 by omega)
    have hr3 : Room 3 _ := hr.mono (show 3 ≤ k + 5 by omega)
    have hr4 : Room 4 _ := hr.mono (show 4 ≤ k + 5 by omega)
    have hr5 : Room 5 _ := hr.mono (show 5 ≤ k + 5 by omega)
    obtain ⟨tD, mD⟩ := T.mDig
    obtain ⟨dx, hp⟩ := id R
    rw [numM_cons] at q
    -- the digits, from a state behind the sign
    obtain ⟨tl, dtl, tail⟩ : ∃ tl : TS, PSs (cxOf (L2.CX P w) P w K mg base ["self", "is_negative", "digits"] "Reader.read_number" (defScope (rdS 9)) f cdv A outer s H E) ((defBody (rdS 9)).drop 2) tl ∧
        ∀ (H1 : Hp) (a1 c1 : Nat) (r1 : Cs) (ng : Bool), Sb p H H1 → RdAt C H1 p z a1 n → z.drop a1 = c1 :: r1 → (¬ isDig c1 → Er CN E p H a1) →
          (isDig c1 → Res (fun x => ∀ H' v, LeafV (.int (if ng then -(digitsVal x.1 : Int) else digitsVal x.1)) v → Sb p H H' → RdAt C H' p z x.2 n → Q v H') (Er CN E p H) (digM [c1] r1 (a1 + 1))) →
          tl { nx := fun _ H' => Q .non H', rt := Q } [some (.ref p), some (.bl ng), none] H1 := by
      refine ⟨_, pss_cons (ps_expr (pe_meth (pv 0) T.cl M.N.m M.oN hr3 M.N.b .nil (passes_call (takes_of rfl rfl rfl rfl) (fun _ _ _ _ h => h)) (pa_cons (pe_cmpR op_in_sign (pe_meth0 (pv 0) T.cl M.G.m M.oG hr1 M.G.b .nil pass0) (pe_glob (v := .str (S digL)) rfl mD ⟨_, rfl⟩) rfl) pa_nil)))
        (pss_cons (ps_set (i := 2) scNm.nd rfl (Or.inl rfl) (pe_meth0 (pv 0) T.cl MD.m GD hr5 MD.b .nil (passes_call (takes_of rfl rfl rfl rfl) (fun _ _ _ _ h => h))))
        (pss_one (ps_ret (pe_ifExp (pt_val (pv 1)) (pe_un un_neg (pe_callTy call_int_str (by rfl) B.int PyProof.Rows.boot_int (pa_cons (pv 2) pa_nil))) (pe_callTy call_int_str (by rfl) B.int PyProof.Rows.boot_int (pa_cons (pv 2) pa_nil)))))), ?_⟩
      intro H1 a1 c1 r1 ng b1 R1 hd1 er q1
      obtain ⟨dx1, hp1⟩ := id R1
      refine ⟨_, rfl, p, dx1, _, rfl, hp1, by rfl, _, rfl, p, dx1, _, rfl, hp1, by rfl, p, z, _, n, rfl, R1, hz, ?_⟩
      rw [sg_some hd1]
      refine ⟨c1, _, rfl, rfl, p, z, _, n, _, rfl, R1, hz, fun hb hlt => ?_, fun hb => Er.mono (er fun hc => hb ⟨decide_eq_true (mem_dig.mpr hc), lt_of_drop hd1⟩) b1⟩
      have hc1 : isDig c1 := mem_dig.mp (of_decide_eq_true hb)
      have q2 := q1 hc1
      refine ⟨_, rfl, p, dx1, _, rfl, hp1, by rfl, p, z, _, n, c1, r1, rfl, R1, hz, hd1, hc1, ?_⟩
      cases e : digM [c1] r1 (a1 + 1) with
      | error i =>
        rw [e] at q2
        exact Er.mono q2 b1
      | ok x =>
        obtain ⟨fs, a2⟩ := x
        rw [e] at q2
        obtain ⟨g1, g2, g3⟩ := digM_ok r1 [c1] (a1 + 1) fs a2 (by intro x hx; simp at hx; subst hx; exact hc1) (by simp) (by simp) e
        intro H2 b2 R2
        have hle : (S fs).length ≤ 640 := by rw [S_length]; omega
        cases ng with
        | true =>
          refine ⟨_, rfl, _, rfl, iteT ?_⟩
          exact ⟨_, rfl, _, _, rfl, dg_val g1 g2 g3, hle, _, rfl, q2 H2 _ (.int _) (b1.trans b2) R2⟩
        | false =>
          refine ⟨_, rfl, _, rfl, iteF ?_⟩
          exact ⟨_, rfl, _, _, rfl, dg_val g1 g2 g3, hle, q2 H2 _ (.int _) (b1.trans b2) R2⟩
    refine ⟨_, pss_cons (ps_set (i := 1) scNm.nd rfl (Or.inl rfl) (pe_cmpR op_eq (pe_meth0 (pv 0) T.cl M.G.m M.oG hr1 M.G.b .nil pass0) pe_str (nomark _)))
      (pss_cons (ps_if (pt_val (pv 1))
        (pss_cons (ps_expr (pe_meth0 (pv 0) T.cl M.S.m M.oS hr4 M.S.b .nil (passes_call (takes_of rfl rfl rfl rfl) (fun _ _ _ _ h => h))))
        (pss_cons (ps_if (PW.pt (pw_or (pt_cmpR op_eq (pe_meth0 (pv 0) T.cl M.G.m M.oG hr1 M.G.b .nil pass0) pe_str (nomark _)) (pw_or1 (pt_cmpR op_notIn_sign (pe_meth0 (pv 0) T.cl M.G.m M.oG hr1 M.G.b .nil pass0) (pe_glob (v := .str (S digL)) rfl mD ⟨_, rfl⟩) rfl)))) (pss_one (ps_ret pe_non)) pss_nil)
        (pss_one (ps_expr (pe_meth (pv 0) T.cl M.N.m M.oN hr3 M.N.b .nil (passes_call (takes_of rfl rfl rfl rfl) (fun _ _ _ _ h => h)) (pa_cons (pe_cmpR op_ne (pe_meth0 (pv 0) T.cl M.G.m M.oG hr1 M.G.b .nil pass0) pe_str (nomark _)) pa_nil)))))) pss_nil)
      dtl), ?_⟩
    refine ⟨_, rfl, p, dx, _, rfl, hp, by rfl, p, z, _, n, rfl, R, hz, rfl, ?_⟩
    rw [sg_some hd, ofs_mi]
    have hlt := lt_of_drop hd
    by_cases h45 : c = 45
    · subst h45
      rw [if_pos rfl] at q
      rw [decide_eq_true rfl]
      refine ⟨_, rfl, _, rfl, iteT ?_⟩
      refine ⟨_, rfl, p, dx, _, rfl, hp, by rfl, p, z, _, n, rfl, R, hz, fun h => by omega, fun c4 r4 e4 H1 b1 R1 => ?_⟩
      obtain ⟨dx1, hp1⟩ := id R1
      have hd1 := drop_more hd
      refine ⟨_, rfl, p, dx1, _, rfl, hp1, by rfl, p, z, _, n, rfl, R1, hz, rfl, _, rfl, ?_⟩
      rw [ofs_e]
      cases r with
      | nil =>
        rw [sg_nil hd1, decide_eq_true rfl]
        exact iteT (iteT (q H1 _ .non b1 R1))
      | cons c1 r1 =>
        simp only at q
        rw [sg_some hd1]
        have nb : ¬ (V.str (S [c1]) = V.str (S [])) := fun e => by have := vS_inj e; simp at this
        rw [decide_eq_false nb]
        refine iteF ?_
        refine ⟨_, rfl, p, dx1, _, rfl, hp1, by rfl, p, z, _, n, rfl, R1, hz, ?_⟩
        rw [sg_some hd1]
        refine ⟨c1, _, rfl, rfl, _, rfl, ?_⟩
        show if (!decide (c1 ∈ digL)) = true then _ else _
        by_cases hc : isDig c1
        · rw [if_pos hc] at q
          rw [decide_eq_true (mem_dig.mpr hc)]
          refine iteF ?_
          refine ⟨_, rfl, p, dx1, _, rfl, hp1, by rfl, _, rfl, p, dx1, _, rfl, hp1, by rfl, p, z, _, n, rfl, R1, hz, ?_⟩
          rw [sg_some hd1, ofs_0]
          by_cases h48 : c1 = 48
          · subst h48
            rw [if_pos rfl] at q
            refine ⟨rfl, p, z, _, n, _, rfl, R1, hz, fun h _ => ?_, fun _ => Er.mono q b1⟩
            rw [decide_eq_true rfl] at h
            exact Bool.noConfusion h
          · rw [if_neg h48] at q
            have nn : ¬ (V.str (S [c1]) = V.str (S [48])) := fun e => by have := vS_inj e; simp at this; exact h48 this
            refine ⟨rfl, p, z, _, n, _, rfl, R1, hz, fun _ _ => ?_, fun h => absurd ⟨by rw [decide_eq_false nn]; rfl, lt_of_drop hd1⟩ h⟩
            refine tail H1 (a + 1) c1 r1 true b1 R1 hd1 (fun h => absurd hc h) fun _ => ?_
            cases e : digM [c1] r1 (a + 2) with
            | error i =>
              rw [e] at q
              exact q
            | ok x =>
              rw [e] at q
              exact q
        · rw [if_neg hc] at q
          rw [decide_eq_false (fun h => hc (mem_dig.mp h))]
          exact iteT (q H1 _ .non b1 R1)
    · rw [if_neg h45] at q
      have nb : ¬ (V.str (S [c]) = V.str (S [45])) := fun e => by have := vS_inj e; simp at this; omega
      rw [decide_eq_false nb]
      refine ⟨_, rfl, _, rfl, iteF ?_⟩
      refine tail H a c r false (Sb.refl _ _) R hd (fun hc => ?_) fun hc => ?_
      · rw [if_neg hc] at q
        exact q
      · rw [if_pos hc] at q
        cases e : digM [c] r (a + 1) with
        | error i => rw [e] at q; exact q
        | ok x => rw [e] at q; exact q
end
end DS
set_option Elab.async false
set_option linter.all false
set_option maxRecDepth 100000
set_option maxHeartbeats 4000000
namespace DS
open PySem L2 PySem.NumText
/-! ### read and read_tuple -/
abbrev Rd := Except Nat (PyData × Nat × Nat)
def spRead (K : PySem.W.Frag) (C CN : Addr) (m : Nat) : Sp := fun vs H Q E => ∃ (p : Addr) (z : Cs) (a n d f : Nat) (r : Rd), vs = [.ref p, .int ((d : Nat) : Int)] ∧ RdAt C H p z a n ∧ z.length ≤ 1000000 ∧ a ≤ z.length ∧ d ≤ 30 ∧ 31 ≤ d + m ∧
  readM z f d a n = some r ∧ Res (fun x => ∀ H' v, Sb p H H' → RdAt C H' p z x.2.1 x.2.2 → Dp K H' v x.1 → Q v H') (Er CN E p H) r
def spTup (K : PySem.W.Frag) (C CN : Addr) (m : Nat) : Sp := fun vs H Q E => ∃ (p : Addr) (z : Cs) (a n d f : Nat) (r : Rd) (r0 : Cs), vs = [.ref p, .int ((d : Nat) : Int)] ∧ RdAt C H p z a n ∧ z.length ≤ 1000000 ∧ z.drop a = 40 :: r0 ∧ d ≤ 30 ∧ 31 ≤ d + m ∧ n ≤ 2000 ∧
  (∀ r', r0 = 41 :: r' → r = .ok (.tuple [], a + 2, n)) ∧ ((∀ r', r0 ≠ 41 :: r') → tupM z f d (a + 1) n [] = some r) ∧
  Res (fun x => ∀ H' v, Sb p H H' → RdAt C H' p z x.2.1 x.2.2 → Dp K H' v x.1 → Q v H') (Er CN E p H) r
theorem goodAll_sn : ∀ {a : List PyData} {x : PyData}, goodAll a → good x → goodAll (a ++ [x])
  | [], x, _, h => by simp [goodAll, h]
  | y :: a, x, g, h => by simp only [List.cons_append, goodAll] at g ⊢; exact ⟨g.1, goodAll_sn g.2 h⟩
/-- where the loop of read_tuple stands -/
def TupI (K : PySem.W.Frag) (C p l : Addr) (z : Cs) (d : Nat) (H : Hp) (r : Rd) (m : Nat) (σ : L2.St) (H2 : Hp) : Prop :=
  ∃ (acc : List PyData) (vs1 : List V) (a2 n2 : Nat), σ = [some (.ref p), some (.int (d : Nat)), some (.ref l)] ∧ Sb p H H2 ∧ RdAt C H2 p z a2 n2 ∧ a2 ≤ z.length ∧ H2 l = some (.lst vs1) ∧ DpAll K H2 vs1 acc ∧ goodAll acc ∧ acc.length ≤ n2 ∧ n2 ≤ 2000 ∧ tupM z m d a2 n2 acc = some r
section
variable {P : Program} {w : World} {K : PySem.W.Frag} {mg : Str → Option Value} {base : Heap} {C CN fG fN fR fS : Addr} {fdG fdN fdR fdS : FuncData}
theorem scTp : FnScope ["self", "depth", "found"] ["self", "depth"] (defScope (rdS 6)) := ⟨rfl, rfl, rfl, by decide +kernel, rfl, by decide +kernel, by decide +kernel⟩
theorem ok_tup {f fA : Addr} {fd fdA : FuncData} {k m : Nat} (B : Bn mg) (T : RTxt K mg C) (M : Smalls P w K mg base C CN fG fN fR fS fdG fdN fdR fdS) (MA : MM K C "read" "Reader.read" (rdS 5) ["self", "depth"] fA fdA)
    (GA : FnOk P w K mg base (L2.CX P w) (k + 4) fA fdA ["self", "depth"] (spRead K C CN m)) (F : Fun K "read_tuple" "Reader.read_tuple" (rdS 6) f fd) :
    FnOk P w K mg base (L2.CX P w) (k + 5) f fd ["self", "depth"] (spTup K C CN m) := by
  refine F.okX scTp (fun vs H Q E h => ?_) (fun cdv A outer s H vs Q E hr h => ?_)
  · obtain ⟨p, z, a, n, d, f, r, r0, rfl, _⟩ := h
    rfl
  · obtain ⟨p, z, a, n, d, fu, r, r0, rfl, ⟨dx, hp⟩, hz, hd, hd30, hm, hn, hnil, htup, q⟩ := h
    have hr1 : Room 1 _ := hr.mono (show 1 ≤ k + 4 by omega)
    have hr3 : Room 3 _ := hr.mono (show 3 ≤ k + 4 by omega)
    have hr4 : Room 4 _ := hr.mono (show 4 ≤ k + 4 by omega)
    refine ⟨_, pss_cons (ps_expr (pe_meth0 (pv 0) T.cl M.S.m M.oS hr4 M.S.b .nil (passes_call (takes_of rfl rfl rfl rfl) (fun _ _ _ _ h => h))))
      (pss_cons (ps_set (i := 2) scTp.nd rfl (Or.inl rfl) (pe_lst pa_nil))
      (pss_cons (ps_if (pt_cmpR op_eq (pe_meth0 (pv 0) T.cl M.G.m M.oG hr1 M.G.b .nil pass0) pe_str (nomark _))
        (pss_cons (ps_expr (pe_meth0 (pv 0) T.cl M.S.m M.oS hr4 M.S.b .nil (passes_call (takes_of rfl rfl rfl rfl) (fun _ _ _ _ h => h)))) (pss_one (ps_ret (pe_tup pa_nil)))) pss_nil)
      (pss_one (ps_while (passes_of rfl) (pt_val pe_bl)
        (pss_cons (ps_expr (pe_bm PySem.F.plainAttrs_list PySem.F.slot_list_append PySem.F.type_list_append mt_append (pv 2) (pa_cons (pe_meth (pv 0) T.cl MA.m GA hr MA.b .nil (passes_call (takes_of rfl rfl rfl rfl) (fun _ _ _ _ h => h)) (pa_cons (pv 1) pa_nil)) pa_nil)))
        (pss_cons (ps_expr (pe_meth (pv 0) T.cl M.N.m M.oN hr3 M.N.b .nil (passes_call (takes_of rfl rfl rfl rfl) (fun _ _ _ _ h => h)) (pa_cons
          (pe_or (pe_cmpR op_eq (pe_meth0 (pv 0) T.cl M.G.m M.oG hr1 M.G.b .nil pass0) pe_str (nomark _)) (pe_one (pe_and (pe_cmpR op_eq (pe_meth0 (pv 0) T.cl M.G.m M.oG hr1 M.G.b .nil pass0) pe_str (nomark _)) (pe_one (pe_meth0 (pv 0) T.cl M.R.m M.oR hr1 M.R.b .nil pass0))))) pa_nil)))
        (pss_one (ps_if (pt_cmpR op_eq (pe_meth0 (pv 0) T.cl M.S.m M.oS hr4 M.S.b .nil (passes_call (takes_of rfl rfl rfl rfl) (fun _ _ _ _ h => h))) pe_str (nomark _))
          (pss_one (ps_ret (pe_callTy call_tuple_of (by rfl) B.tup PyProof.Rows.boot_tuple (pa_cons (pv 2) pa_nil)))) pss_nil)))))))), ?_⟩
    have hla := drop_len hd
    rw [List.length_cons] at hla
    refine ⟨_, rfl, p, dx, _, rfl, hp, by rfl, p, z, a, n, rfl, ⟨dx, hp⟩, hz, fun h => by omega, fun c4 r4 e4 H1 b1 R1 => ?_⟩
    refine ⟨Nat.zero_le _, fun l hl => ?_⟩
    have hd1 := drop_more hd
    have nlp : l ≠ p := fun e => R1.ne (e ▸ hl)
    have hlH : H l = none := sb_free b1 hp hl R1.ne
    obtain ⟨dx1, hp1⟩ := id R1
    have hp1' : (upd H1 l (.lst [])) p = some (.ins C dx1 (flds z (a + 1) n)) := by rw [upd_ne nlp.symm]; exact hp1
    have b1' : Sb p H (upd H1 l (.lst [])) := b1.trans (Same.sb (same_new hl _))
    refine ⟨_, rfl, p, dx1, _, rfl, hp1', by rfl, p, z, _, n, rfl, ⟨dx1, hp1'⟩, hz, rfl, _, rfl, ?_⟩
    rw [ofs_cl]
    by_cases h41 : ∃ r', r0 = 41 :: r'
    · obtain ⟨r', rfl⟩ := h41
      rw [sg_some hd1, decide_eq_true rfl]
      have er := hnil r' rfl
      subst er
      refine iteT ?_
      have := lt_of_drop hd1
      refine ⟨_, rfl, p, dx1, _, rfl, hp1', by rfl, p, z, _, n, rfl, ⟨dx1, hp1'⟩, hz, fun h => by omega, fun c5 r5 e5 H2 b2 R2 => ?_⟩
      refine ⟨Nat.zero_le _, fun e he => ?_⟩
      have nep : e ≠ p := fun x => R2.ne (x ▸ he)
      refine q _ _ ((b1'.trans b2).trans (Same.sb (same_new he _))) ?_ (.tup (SqT.of upd_same) .nil)
      obtain ⟨dx2, hp2⟩ := R2
      exact ⟨dx2, by rw [upd_ne nep.symm]; exact hp2⟩
    · have no41 : ∀ r', r0 ≠ 41 :: r' := fun r' e => h41 ⟨r', e⟩
      have nsg1 : ¬ (V.str (S (sg z (a + 1))) = V.str (S [41])) := fun e => by
        have e := vS_inj e
        unfold sg at e
        rw [hd1] at e
        cases r0 with
        | nil => simp at e
        | cons x y => simp at e; exact no41 y (by rw [e])
      rw [decide_eq_false nsg1]
      refine iteF ?_
      refine ⟨TupI K C p l z d H r, ⟨fu, [], [], a + 1, n, rfl, b1', ⟨dx1, hp1'⟩, by omega, upd_same, .nil, by simp [goodAll], Nat.zero_le _, hn, htup no41⟩, ?_⟩
      rintro f2 σ H2 ⟨acc, vs1, a2, n2, rfl, b2, R2, ha2, hl2, hD, hga, hal, hn2, et⟩
      obtain ⟨dx2, hp2⟩ := id R2
      refine ⟨true, rfl, iteT ?_⟩
      refine ⟨fun σ' H' => ∃ m', m' < f2 ∧ TupI K C p l z d H r m' σ' H', fun σ' H' h => h, ?_⟩
      cases f2 with
      | zero => simp [tupM] at et
      | succ f3 =>
        unfold tupM at et
        cases err : readM z f3 d a2 n2 with
        | none => rw [err] at et; simp at et
        | some rr =>
          rw [err] at et
          have ok := readM_run z f3 d a2 n2 rr ha2 err
          refine ⟨_, rfl, .inl ⟨rfl, _, SqL.of hl2⟩, _, rfl, p, dx2, _, rfl, hp2, by rfl, _, rfl, p, z, a2, n2, d, f3, rr, rfl, R2, hz, ha2, hd30, hm, err, ?_⟩
          match rr, ok, et with
          | .error i, _, et =>
            simp only at et
            obtain rfl := Option.some.inj et
            exact Er.mono q b2
          | .ok (t, a', n'), ok, et =>
            obtain ⟨mm, g1, g2, g3, g4, g5, g6, _, _⟩ := ok
            simp only at et
            intro H3 v b3 R3 hv
            have hcp := cnt_pos t
            have ha' : a' ≤ z.length := by
              have := congrArg List.length g5
              rw [List.length_drop, List.length_append, List.length_drop] at this
              omega
            have hl3 := b3 l _ hl2 nlp
            have hL := dp_len hD
            have hsz : vs1.length < sizeLine := small' (by omega)
            refine ⟨l, _, _, rfl, rfl, hl3, hsz, ?_⟩
            obtain ⟨dx3, hp3⟩ := id R3
            have hp4 : (upd H3 l (.lst (vs1 ++ [v]))) p = some (.ins C dx3 (flds z a' n')) := by rw [upd_ne nlp.symm]; exact hp3
            have R4 : RdAt C (upd H3 l (.lst (vs1 ++ [v]))) p z a' n' := ⟨dx3, hp4⟩
            have nT : ∀ xs, H3 l ≠ some (.tup xs) := fun xs e => by rw [hl3] at e; cases e
            have nF : ∀ o xs, H3 l ≠ some (.frz o (.tup xs)) := fun o xs e => by rw [hl3] at e; cases e
            have D3 : DpAll K H3 vs1 acc := dp_sbAll b3 R2.noT R2.noF acc vs1 hga hD
            have D4 : DpAll K (upd H3 l (.lst (vs1 ++ [v]))) (vs1 ++ [v]) (acc ++ [t]) := dp_snoc (dp_sbAll (sb_upd _) nT nF acc vs1 hga D3) (dp_sb (sb_upd _) nT nF t v g1 hv)
            have hga' := goodAll_sn hga g1
            have b4 : Sb p H (upd H3 l (.lst (vs1 ++ [v]))) := fun b o e hb => by
              rw [upd_ne (ne_of_none e hlH)]
              exact (b2.trans b3) b o e hb
            -- self.need(..)
            refine ⟨_, rfl, p, dx3, _, rfl, hp4, by rfl, _, rfl, p, dx3, _, rfl, hp4, by rfl, p, z, _, _, rfl, R4, hz, rfl, _, rfl, ?_⟩
            by_cases k41 : ∃ r', z.drop a' = 41 :: r'
            · obtain ⟨r', hd5⟩ := k41
              rw [hd5] at et
              simp only at et
              obtain rfl := Option.some.inj et
              rw [sg_some hd5, decide_eq_true rfl]
              have hlt := lt_of_drop hd5
              refine iteT ?_
              refine ⟨p, z, _, _, true, rfl, R4, hz, fun _ _ => ?_, fun h => absurd ⟨rfl, hlt⟩ h⟩
              refine ⟨_, rfl, p, dx3, _, rfl, hp4, by rfl, p, z, _, _, rfl, R4, hz, fun h => by omega, fun c5 r5 e5 H5 b5 R5 => ?_⟩
              rw [hd5] at e5
              obtain ⟨rfl, rfl⟩ := List.cons.inj e5
              refine ⟨rfl, _, rfl, ?_⟩
              rw [decide_eq_true rfl]
              refine iteT ?_
              have hl5 := b5 l _ upd_same nlp
              refine ⟨_, rfl, l, _, rfl, .inl ⟨SqL.of hl5, fun e he => ?_⟩⟩
              have nep : e ≠ p := fun x => R5.ne (x ▸ he)
              have D5 := dp_sbAll b5 R4.noT R4.noF (acc ++ [t]) _ hga' D4
              have D6 := dp_sameAll (same_new he (.tup (vs1 ++ [v]))) (acc ++ [t]) _ D5
              refine q _ _ ((b4.trans b5).trans (Same.sb (same_new he _))) ?_ (.tup (SqT.of upd_same) D6)
              obtain ⟨dx5, hp5⟩ := R5
              exact ⟨dx5, by rw [upd_ne nep.symm, hp5]⟩
            · have m41 : ∀ r', z.drop a' ≠ 41 :: r' := fun r' e => k41 ⟨r', e⟩
              have nq1 : ¬ (V.str (S (sg z a')) = V.str (S [41])) := fun e => by
                have e := vS_inj e
                unfold sg at e
                cases ez : z.drop a' with
                | nil => rw [ez] at e; simp at e
                | cons x y => rw [ez] at e; simp at e; exact m41 y (by rw [ez, e])
              rw [decide_eq_false nq1]
              refine iteF ?_
              refine ⟨_, rfl, p, dx3, _, rfl, hp4, by rfl, p, z, _, _, rfl, R4, hz, ?_⟩
              refine ⟨rfl, _, rfl, ?_⟩
              rw [ofs_sp]
              by_cases k32 : ∃ r', z.drop a' = 32 :: r'
              · obtain ⟨r', hd5⟩ := k32
                rw [hd5] at et
                simp only at et
                rw [sg_some hd5, decide_eq_true rfl]
                have hlt := lt_of_drop hd5
                refine iteT ?_
                refine ⟨_, rfl, p, dx3, _, rfl, hp4, by rfl, p, z, _, _, rfl, R4, ?_⟩
                refine ⟨p, z, _, _, _, rfl, R4, hz, fun hb _ => ?_, fun hb => ?_⟩
                · have hn' : n' < 2000 := by have := of_decide_eq_true hb; omega
                  rw [if_pos hn'] at et
                  refine ⟨_, rfl, p, dx3, _, rfl, hp4, by rfl, p, z, _, _, rfl, R4, hz, fun h => by omega, fun c5 r5 e5 H5 b5 R5 => ?_⟩
                  rw [hd5] at e5
                  obtain ⟨rfl, rfl⟩ := List.cons.inj e5
                  refine ⟨rfl, _, rfl, ?_⟩
                  have nq2 : ¬ (V.str (S [32]) = V.str (S [41])) := by decide
                  rw [decide_eq_false nq2]
                  refine iteF ?_
                  have hl5 := b5 l _ upd_same nlp
                  exact ⟨f3, by omega, acc ++ [t], vs1 ++ [v], a' + 1, n', rfl, b4.trans b5, R5, by omega, hl5, dp_sbAll b5 R4.noT R4.noF (acc ++ [t]) _ hga' D4, hga', by rw [List.length_append, List.length_singleton]; omega, g4, et⟩
                · have hn' : ¬ n' < 2000 := fun h => hb ⟨decide_eq_true (by omega), hlt⟩
                  rw [if_neg hn'] at et
                  obtain rfl := Option.some.inj et
                  exact Er.mono q b4
              · have m32 : ∀ r', z.drop a' ≠ 32 :: r' := fun r' e => k32 ⟨r', e⟩
                have nq2 : ¬ (V.str (S (sg z a')) = V.str (S [32])) := fun e => by
                  have e := vS_inj e
                  unfold sg at e
                  cases ez : z.drop a' with
                  | nil => rw [ez] at e; simp at e
                  | cons x y => rw [ez] at e; simp at e; exact m32 y (by rw [ez, e])
                rw [decide_eq_false nq2]
                refine iteF ?_
                refine ⟨p, z, _, _, false, rfl, R4, hz, fun h _ => Bool.noConfusion h, fun _ => ?_⟩
                have er : r = .error a' := by
                  split at et
                  · rename_i r' e; exact absurd e (m41 r')
                  · rename_i r' e; exact absurd e (m32 r')
                  · exact (Option.some.inj et).symm
                rw [er] at q
                exact Er.mono q b4
end
end DS
set_option Elab.async false
set_option linter.all false
set_option maxRecDepth 100000
set_option maxHeartbeats 4000000
namespace DS
open PySem L2 PySem.NumText
theorem wd_t : wd true = [121, 101, 115] := rfl
theorem wd_f : wd false = [110, 111] := rfl
/-- an error with that index leaves; all is as it was -/
def ErS (CN : Addr) (E : XK) (H : Hp) (i : Nat) : Prop := ∀ d H', Same H H' → H' d = some (.xd [(("index" : Str), .int (i : Int))]) → E (.ref CN) (some d) H'
section
variable {P : Program} {w : World} {K : PySem.W.Frag} {mg : Str → Option Value} {base : Heap} {C CN fX fG fN fR fS : Addr} {fdG fdN fdR fdS : FuncData}
theorem scRd : FnScope ["self", "depth", "sign"] ["self", "depth"] (defScope (rdS 5)) := ⟨rfl, rfl, rfl, by decide +kernel, rfl, by decide +kernel, by decide +kernel⟩
theorem ok_read {f fT fQ fW fM d tY tN : Addr} {fd fdT fdQ fdW fdM : FuncData} {k m : Nat} (T : RTxt K mg C) (Wt : WTxt K w mg d tY tN) (M : Smalls P w K mg base C CN fG fN fR fS fdG fdN fdR fdS)
    (MT : MM K C "read_tuple" "Reader.read_tuple" (rdS 6) ["self", "depth"] fT fdT) (GT : FnOk P w K mg base (L2.CX P w) (k + 6) fT fdT ["self", "depth"] (spTup K C CN m))
    (MQ : MM K C "read_string" "Reader.read_string" (rdS 7) ["self"] fQ fdQ) (GQ : FnOk P w K mg base (L2.CX P w) 5 fQ fdQ ["self"] (spStr C CN))
    (MW : MM K C "read_written" "Reader.read_written" (rdS 8) ["self", "sign"] fW fdW) (GW : FnOk P w K mg base (L2.CX P w) 5 fW fdW ["self", "sign"] (spWr C CN))
    (MM_ : MM K C "read_number" "Reader.read_number" (rdS 9) ["self"] fM fdM) (GM : FnOk P w K mg base (L2.CX P w) 6 fM fdM ["self"] (spNm C CN))
    (F : Fun K "read" "Reader.read" (rdS 5) f fd) : FnOk P w K mg base (L2.CX P w) (k + 7) f fd ["self", "depth"] (spRead K C CN (m + 1)) := by
  refine F.okX scRd (fun vs H Q E h => ?_) (fun cdv A outer s H vs Q E hr h => ?_)
  · obtain ⟨p, z, a, n, d, f, r, rfl, _⟩ := h
    rfl
  · obtain ⟨p, z, a, n, dd, fu, r, rfl, R, hz, ha, hd30, hm, er, q⟩ := h
    have hr1 : Room 1 _ := hr.mono (show 1 ≤ k + 6 by omega)
    have hr3 : Room 3 _ := hr.mono (show 3 ≤ k + 6 by omega)
    have hr5 : Room 5 _ := hr.mono (show 5 ≤ k + 6 by omega)
    have hr6 : Room 6 _ := hr.mono (show 6 ≤ k + 6 by omega)
    obtain ⟨tD, mD⟩ := T.mDepth
    obtain ⟨tM, mM⟩ := T.mMore
    obtain ⟨es, nn, KD⟩ := Wt.D
    refine ⟨_, pss_cons (ps_expr (pe_meth (pv 0) T.cl M.N.m M.oN hr3 M.N.b .nil (passes_call (takes_of rfl rfl rfl rfl) (fun _ _ _ _ h => h)) (pa_cons (pe_cmpR op_lt (pv 1) (pe_ifExp (pt_val (pe_fld (pv 0) rfl)) (pe_glob (v := .int 30) rfl mD ⟨_, rfl⟩) (pe_op op_add (pe_glob (v := .int 30) rfl mD ⟨_, rfl⟩) (pe_glob (v := .int 4) rfl mM ⟨_, rfl⟩))) (nomark _)) pa_nil)))
      (pss_cons (ps_expr (pe_meth (pv 0) T.cl M.N.m M.oN hr3 M.N.b .nil (passes_call (takes_of rfl rfl rfl rfl) (fun _ _ _ _ h => h)) (pa_cons (pe_meth0 (pv 0) T.cl M.R.m M.oR hr1 M.R.b .nil pass0) pa_nil)))
      (pss_cons (ps_fldaug (pv 0) pe_int in_add)
      (pss_cons (ps_set (i := 2) scRd.nd rfl (Or.inl rfl) (pe_meth0 (pv 0) T.cl M.G.m M.oG hr1 M.G.b .nil pass0))
      (pss_cons (ps_if (pt_cmpR op_eq (pv 2) pe_str (nomark _)) (pss_one (ps_ret (pe_meth (pv 0) T.cl MT.m GT hr MT.b .nil (passes_call (takes_of rfl rfl rfl rfl) (fun _ _ _ _ h => h)) (pa_cons (pe_op op_add (pv 1) pe_int) pa_nil)))) pss_nil)
      (pss_cons (ps_if (pt_cmpR op_eq (pv 2) pe_str (nomark _)) (pss_one (ps_ret (pe_meth0 (pv 0) T.cl MQ.m GQ hr5 MQ.b .nil (passes_call (takes_of rfl rfl rfl rfl) (fun _ _ _ _ h => h))))) pss_nil)
      (pss_cons (ps_if (PW.pt (pw_and (pt_cmpR (op_in_kd KD) (pv 2) (pe_glob (v := .ref d) rfl Wt.mgW rfl) (by rfl)) (pw_and1 (pt_cmpR op_ne (pv 2) pe_str (nomark _))))) (pss_one (ps_ret (pe_meth (pv 0) T.cl MW.m GW hr5 MW.b .nil (passes_call (takes_of rfl rfl rfl rfl) (fun _ _ _ _ h => h)) (pa_cons (pv 2) pa_nil)))) pss_nil)
      (pss_one (ps_ret (pe_meth0 (pv 0) T.cl MM_.m GM hr6 MM_.b .nil (passes_call (takes_of rfl rfl rfl rfl) (fun _ _ _ _ h => h)))))))))))
      , ?_⟩
    obtain ⟨dx, hp⟩ := id R
    cases fu with
    | zero => simp [readM] at er
    | succ f1 =>
    unfold readM at er
    have erA : ¬ (dd < 30 ∧ n < 2000 ∧ a < z.length) → r = .error a := fun h => by
      by_cases h1 : dd < 30 ∧ n < 2000
      · rw [if_pos h1] at er
        have : z.drop a = [] := List.drop_eq_nil_of_le (by omega)
        rw [this] at er
        exact (Option.some.inj er).symm
      · rw [if_neg h1] at er
        exact (Option.some.inj er).symm
    refine ⟨_, rfl, p, dx, _, rfl, hp, by rfl, _, rfl, _, rfl, p, C, dx, _, _, rfl, hp, T.cl, T.nB, fl_bd _ _ _, _, rfl, ?_⟩
    refine iteT ⟨_, _, rfl, rfl, p, z, _, n, _, rfl, R, hz, fun hb hlt => ?_, fun hb => ?_⟩
    case refine_2 =>
      rw [erA (fun h => hb ⟨decide_eq_true (by omega), h.2.2⟩)] at q
      exact q
    have hdd : dd < 30 := by have := of_decide_eq_true hb; omega
    refine ⟨_, rfl, p, dx, _, rfl, hp, by rfl, _, rfl, p, dx, _, rfl, hp, by rfl, p, z, _, n, rfl, R, p, z, _, n, _, rfl, R, hz, fun hb2 _ => ?_, fun hb2 => ?_⟩
    case refine_2 =>
      rw [erA (fun h => hb2 ⟨decide_eq_true (by omega), h.2.2⟩)] at q
      exact q
    have hn : n < 2000 := by have := of_decide_eq_true hb2; omega
    rw [if_pos ⟨hdd, hn⟩] at er
    refine ⟨_, rfl, p, C, dx, _, _, rfl, hp, T.cl, T.nP, fl_parts _ _ _, _, _, rfl, rfl, dx, _, hp, (by show 4 < 1000; decide), ?_⟩
    rw [show ((n : Int) + 1) = ((n + 1 : Nat) : Int) by omega, fl_putParts]
    have b1 : Sb p H (upd H p (.ins C dx (flds z a (n + 1)))) := sb_upd _
    generalize hH1 : upd H p (.ins C dx (flds z a (n + 1))) = H1 at b1
    have hp1 : H1 p = some (.ins C dx (flds z a (n + 1))) := by rw [← hH1]; exact upd_same
    have R1 : RdAt C H1 p z a (n + 1) := ⟨dx, hp1⟩
    obtain ⟨c0, r0, hd0⟩ := drop_lt hlt
    rw [hd0] at er
    simp only at er
    refine ⟨_, rfl, p, dx, _, rfl, hp1, by rfl, p, z, _, _, rfl, R1, hz, ?_⟩
    rw [sg_some hd0]
    refine ⟨_, rfl, rfl, _, rfl, ?_⟩
    rw [ofs_op]
    by_cases h40 : c0 = 40
    · subst h40
      rw [if_pos rfl] at er
      rw [decide_eq_true rfl]
      refine iteT ?_
      refine ⟨_, rfl, p, dx, _, rfl, hp1, by rfl, _, rfl, _, _, rfl, rfl, p, z, a, n + 1, dd + 1, f1, r, r0, rfl, R1, hz, hd0, by omega, by omega, by omega, fun r' e => ?_, fun e => ?_, ?_⟩
      · subst e
        exact (Option.some.inj er).symm
      · split at er
        · rename_i x; exact absurd rfl (e x)
        · exact er
      · match r, q with
        | .ok x, q => exact fun H2 v b2 R2 hv => q H2 v (b1.trans b2) R2 hv
        | .error i, q => exact Er.mono q b1
    · rw [if_neg h40] at er
      rw [decide_eq_false (nsg h40)]
      refine iteF ⟨_, rfl, rfl, _, rfl, ?_⟩
      rw [ofs_q]
      by_cases h34 : c0 = 34
      · subst h34
        rw [if_pos rfl] at er
        obtain rfl := Option.some.inj er
        rw [decide_eq_true rfl]
        refine iteT ?_
        refine ⟨_, rfl, p, dx, _, rfl, hp1, by rfl, p, z, a, n + 1, r0, rfl, R1, hz, hd0, ?_⟩
        cases e : strM r0 (a + 1) [] with
        | ok x => rw [e] at q; exact fun H2 b2 R2 => q H2 _ (b1.trans b2) R2 (.str _)
        | error i => rw [e] at q; exact Er.mono q b1
      · rw [if_neg h34] at er
        rw [decide_eq_false (nsg h34)]
        have nb : ¬ (V.str (S [c0]) = V.str (S [])) := fun e => by have := vS_inj e; simp at this
        have wcase : ∀ b : Bool, c0 = (if b then 121 else 110) → r = (match wrdM (wd b) (c0 :: r0) a with | .ok a' => .ok (.bool b, a', n + 1) | .error i => .error i) →
            Res (fun a' => ∀ H', Sb p H1 H' → RdAt C H' p z a' (n + 1) → Q (.bl b) H') (Er CN E p H1) (wrdM (wd b) (z.drop a) a) := by
          intro b ec e
          rw [hd0]
          cases ew : wrdM (wd b) (c0 :: r0) a with
          | ok x => rw [ew] at e; subst e; exact fun H2 b2 R2 => q H2 _ (b1.trans b2) R2 (.bl b)
          | error i => rw [ew] at e; subst e; exact Er.mono q b1
        by_cases h121 : c0 = 121
        · rw [if_pos h121] at er
          refine iteF ⟨_, rfl, _, _, rfl, rfl, by rw [h121]; exact Wt.y, _, rfl, ?_⟩
          refine iteT ⟨_, rfl, rfl, _, rfl, ?_⟩
          rw [ofs_e, decide_eq_false nb]
          refine iteT ?_
          exact ⟨_, rfl, p, dx, _, rfl, hp1, by rfl, _, rfl, p, z, a, n + 1, true, by rw [h121]; rfl, R1, hz, wcase true h121 (Option.some.inj er).symm⟩
        · rw [if_neg h121] at er
          by_cases h110 : c0 = 110
          · rw [if_pos h110] at er
            refine iteF ⟨_, rfl, _, _, rfl, rfl, by rw [h110]; exact Wt.n, _, rfl, ?_⟩
            refine iteT ⟨_, rfl, rfl, _, rfl, ?_⟩
            rw [ofs_e, decide_eq_false nb]
            refine iteT ?_
            exact ⟨_, rfl, p, dx, _, rfl, hp1, by rfl, _, rfl, p, z, a, n + 1, false, by rw [h110]; rfl, R1, hz, wcase false h110 (Option.some.inj er).symm⟩
          · rw [if_neg h110] at er
            obtain rfl := Option.some.inj er
            refine iteF ⟨_, rfl, _, _, rfl, rfl, Wt.no c0 h121 h110, _, rfl, ?_⟩
            refine iteF ?_
            refine iteF ?_
            refine ⟨_, rfl, p, dx, _, rfl, hp1, by rfl, p, z, a, n + 1, c0, r0, rfl, R1, hz, hd0, ?_⟩
            cases e : numM (c0 :: r0) a with
            | ok x => rw [e] at q; exact fun H2 v lv b2 R2 => q H2 v (b1.trans b2) R2 lv.dp
            | error i => rw [e] at q; exact Er.mono q b1
/-- all methods of the reader -/
structure Meths (K : PySem.W.Frag) (C fG fN fR fS fA fT fQ fW fM fD : Addr) (fdG fdN fdR fdS fdA fdT fdQ fdW fdM fdD : FuncData) : Prop where
  G : MM K C "sign" "Reader.sign" (rdS 1) ["self"] fG fdG
  N : MM K C "need" "Reader.need" (rdS 2) ["self", "fits"] fN fdN
  R : MM K C "has_room" "Reader.has_room" (rdS 3) ["self"] fR fdR
  S : MM K C "step" "Reader.step" (rdS 4) ["self"] fS fdS
  A : MM K C "read" "Reader.read" (rdS 5) ["self", "depth"] fA fdA
  T : MM K C "read_tuple" "Reader.read_tuple" (rdS 6) ["self", "depth"] fT fdT
  Q : MM K C "read_string" "Reader.read_string" (rdS 7) ["self"] fQ fdQ
  W : MM K C "read_written" "Reader.read_written" (rdS 8) ["self", "sign"] fW fdW
  M : MM K C "read_number" "Reader.read_number" (rdS 9) ["self"] fM fdM
  D : MM K C "read_digits" "Reader.read_digits" (rdS 10) ["self"] fD fdD
variable {fA fT fQ fW fM fD d tY tN : Addr} {fdA fdT fdQ fdW fdM fdD : FuncData}
theorem smalls (B : Bn mg) (T : RTxt K mg C) (N : NoTx P K mg CN fX) (M : Meths K C fG fN fR fS fA fT fQ fW fM fD fdG fdN fdR fdS fdA fdT fdQ fdW fdM fdD) : Smalls P w K mg base C CN fG fN fR fS fdG fdN fdR fdS :=
  ⟨M.G, M.N, M.R, M.S, ok_sign T M.G.F, ok_need (k := 0) B T N M.N.F, ok_room T M.R.F, ok_step (k := 0) B T N M.S.F M.N⟩
/-- read at any depth -/
theorem read_all (B : Bn mg) (T : RTxt K mg C) (N : NoTx P K mg CN fX) (Wt : WTxt K w mg d tY tN) (M : Meths K C fG fN fR fS fA fT fQ fW fM fD fdG fdN fdR fdS fdA fdT fdQ fdW fdM fdD) :
    ∀ m : Nat, FnOk P w K mg base (L2.CX P w) (2 * m + 5) fA fdA ["self", "depth"] (spRead K C CN m)
  | 0 => by
    have no : ∀ vs H Q E, ¬ spRead K C CN 0 vs H Q E := fun vs H Q E h => by
      obtain ⟨p, z, a, n, d, f, r, _, _, _, _, h1, h2, _⟩ := h
      omega
    exact ⟨fun vs H Q E h => absurd h (no vs H Q E), fun A outer s H args us vs Q E _ _ _ _ h => absurd h (no vs H Q E)⟩
  | m + 1 => by
    have Sm : Smalls P w K mg base C CN fG fN fR fS fdG fdN fdR fdS := smalls B T N M
    have ih := read_all B T N Wt M m
    have GT : FnOk P w K mg base (L2.CX P w) (2 * m + 6) fT fdT ["self", "depth"] (spTup K C CN m) := ok_tup (k := 2 * m + 1) B T Sm M.A ih M.T.F
    exact ok_read (k := 2 * m) T Wt Sm M.T GT M.Q (ok_str (k := 0) T Sm M.Q.F) M.W (ok_wr (k := 0) T Wt Sm M.W.F) M.M (ok_nm (k := 0) B T Sm M.D M.M.F) M.A.F
/-! ### __init__, read_with, read_tree -/
theorem scIn : FnScope ["self", "text", "is_bounded"] ["self", "text", "is_bounded"] (defScope (rdS 0)) := ⟨rfl, rfl, rfl, by decide +kernel, rfl, by decide +kernel, by decide +kernel⟩
def spIn (C : Addr) : Sp := fun vs H Q _ => ∃ p dx z, vs = [.ref p, .str (S z), .bl true] ∧ H p = some (.ins C dx []) ∧ Q .non (upd H p (.ins C dx (flds z 0 0)))
theorem ok_in {f : Addr} {fd : FuncData} {k : Nat} (T : RTxt K mg C) (F : Fun K "__init__" "Reader.__init__" (rdS 0) f fd) : FnOk P w K mg base CX0 (k + 1) f fd ["self", "text", "is_bounded"] (spIn C) := by
  refine F.ok scIn (fun vs H Q E h => ?_) (fun cdv A outer s H vs Q E hr h => ?_)
  · obtain ⟨p, dx, z, rfl, _⟩ := h
    rfl
  · obtain ⟨p, dx, z, rfl, hp, q⟩ := h
    refine ⟨_, pss_cons (ps_fld (pv 0) (pv 1) rfl) (pss_cons (ps_fld (pv 0) pe_int rfl) (pss_cons (ps_fld (pv 0) pe_int rfl) (pss_one (ps_fld (pv 0) (pv 2) rfl)))), ?_⟩
    refine ⟨_, rfl, _, rfl, p, C, dx, _, rfl, hp, T.cl, T.nT, (by show 0 < 1000; decide), ?_⟩
    refine ⟨_, rfl, p, C, dx, _, rfl, upd_same, T.cl, T.nA, (by show 1 < 1000; decide), ?_⟩
    refine ⟨_, rfl, p, C, dx, _, rfl, upd_same, T.cl, T.nP, (by show 2 < 1000; decide), ?_⟩
    refine ⟨_, rfl, _, rfl, p, C, dx, _, rfl, upd_same, T.cl, T.nB, (by show 3 < 1000; decide), ?_⟩
    rw [upd_upd, upd_upd, upd_upd, fl_init]
    exact q
/-- read_with(text, True), read_tree(text): a new tree, or the error with the index -/
def spRT (K : PySem.W.Frag) (CN : Addr) : Sp := fun vs H Q E => (∃ z : Cs, vs = [.str (S z)] ∧ z.length ≤ 1000000 ∧ Res (fun t => ∀ H' v, Same H H' → Dp K H' v t → Q v H') (ErS CN E H) (toldM z)) ∨
  (∃ (v : V) (Ty : String), vs = [v] ∧ TyX K H v (.type Ty) ∧ kitB Ty "str" = some false ∧ ErS CN E H 0)
def spRW (K : PySem.W.Frag) (CN : Addr) : Sp := fun vs H Q E => ∃ x, vs = [x, .bl true] ∧ spRT K CN [x] H Q E
theorem scRW : FnScope ["text", "is_bounded", "reader", "tree"] ["text", "is_bounded"] (defScope sRW) := ⟨rfl, rfl, rfl, by decide +kernel, rfl, by decide +kernel, by decide +kernel⟩
theorem ok_rw {f fI : Addr} {fd fdI : FuncData} (B : Bn mg) (T : RTxt K mg C) (N : NoTx P K mg CN fX) (Wt : WTxt K w mg d tY tN) (M : Meths K C fG fN fR fS fA fT fQ fW fM fD fdG fdN fdR fdS fdA fdT fdQ fdW fdM fdD)
    (Mi : Mk K C fI) (FI : Fun K "__init__" "Reader.__init__" (rdS 0) fI fdI) (bI : Binds K fdI ["self", "text", "is_bounded"] []) (F : Fun K "read_with" "read_with" sRW f fd) :
    FnOk P w K mg base (L2.CX P w) 68 f fd ["text", "is_bounded"] (spRW K CN) := by
  have GI : FnOk P w K mg base CX0 1 fI fdI ["self", "text", "is_bounded"] (spIn C) := ok_in T FI
  have GA : FnOk P w K mg base (L2.CX P w) 67 fA fdA ["self", "depth"] (spRead K C CN 31) := read_all B T N Wt M 31
  refine F.okX scRW (fun vs H Q E h => ?_) (fun cdv A outer s H vs Q E hr h => ?_)
  · obtain ⟨x, rfl, _⟩ := h
    rfl
  · obtain ⟨x, rfl, h⟩ := h
    have hr2 : Room 2 _ := hr.mono (by decide)
    refine ⟨_, pss_cons (ps_if (pt_not (pt_val (pe_callB call_isi (by rfl) B.isi boot_isi (pa_cons (pv 0) (pa_cons (pe_bltn (v := .ty "str") (by rfl) B.str PyProof.Rows.boot_str rfl) pa_nil))))) (pss_one (ps_raiseNt rfl N hr2 (takes_of rfl rfl rfl rfl) (by exact (pa_cons pe_int pa_nil)))) pss_nil)
      (pss_cons (ps_set (i := 2) scRW.nd rfl (Or.inl rfl) (pe_make Mi GI hr2 (by rfl) T.mgC bI .nil pass0 (pa_cons (pv 0) (pa_cons (pv 1) pa_nil))))
      (pss_cons (ps_set (i := 3) scRW.nd rfl (Or.inl rfl) (pe_meth (pv 2) T.cl M.A.m GA hr M.A.b .nil (passes_call (takes_of rfl rfl rfl rfl) (fun _ _ _ _ h => h)) (pa_cons pe_int pa_nil)))
      (pss_cons (ps_if (pt_cmpR op_lt (pe_fld (pv 2) rfl) (pe_callB call_len_str (by rfl) B.len PySem.boot_len (pa_cons (pv 0) pa_nil)) (nomark _)) (pss_one (ps_raiseNt rfl N hr2 (takes_of rfl rfl rfl rfl) (by exact (pa_cons (pe_fld (pv 2) rfl) pa_nil)))) pss_nil)
      (pss_one (ps_ret (pv 3)))))), ?_⟩
    rcases h with ⟨z, ex, hl, q⟩ | ⟨v, Ty, ex, hty, hk, e⟩
    · obtain rfl : x = .str (S z) := by simpa using ex
      obtain ⟨r, er⟩ := readM_some z (2 * z.length + 1) 0 0 0 (by omega) (by omega)
      unfold toldM at q
      rw [er] at q
      refine ⟨_, rfl, _, _, _, _, true, rfl, .ty _, .base (.str _), kit_ty k_str_str, _, rfl, iteF ?_⟩
      refine ⟨_, rfl, _, rfl, fun x dx nx ndx nex => ?_⟩
      refine ⟨x, dx, z, rfl, upd_same, rfl, ?_⟩
      rw [upd_upd]
      have s0 : Same H (upd (upd H dx (.own x)) x (.ins C dx (flds z 0 0))) := fun b o e => by
        rw [upd_ne (ne_of_none e nx), upd_ne (ne_of_none e ndx)]
        exact e
      refine ⟨_, rfl, x, dx, _, rfl, upd_same, by rfl, x, z, 0, 0, 0, _, r, rfl, ⟨dx, upd_same⟩, hl, Nat.zero_le _, by omega, by omega, er, ?_⟩
      match r, q with
      | .error i, q => exact fun d H' b h => q d H' (fun b' o e => b b' o (s0 b' o e) (ne_of_none e nx)) h
      | .ok (t, a', n'), q =>
        intro H2 v b2 R2 hv
        obtain ⟨dx2, hp2⟩ := R2
        have s2 : Same H H2 := fun b o e => b2 b o (s0 b o e) (ne_of_none e nx)
        refine ⟨_, rfl, x, C, dx2, _, _, rfl, hp2, T.cl, T.nA, fl_at _ _ _, _, rfl, _, rfl, ?_, _, _, rfl, rfl, _, rfl, ?_⟩
        · rw [S_length]; exact small (by omega)
        simp only at q
        refine ite2 (fun e => ?_) (fun e => ?_)
        · have h1 := of_decide_eq_true e
          rw [S_length] at h1
          have h3 : ((a' : Nat) : Int) < (z.length : Int) := h1
          rw [if_pos (show a' < z.length by omega)] at q
          refine ⟨_, rfl, x, C, dx2, _, _, rfl, hp2, T.cl, T.nA, fl_at _ _ _, _, rfl, fun d hd => ?_⟩
          exact q d _ (s2.trans (same_new hd _)) upd_same
        · have h1 := of_decide_eq_false (Bool.eq_false_iff.mpr e)
          rw [S_length] at h1
          have h3 : ¬ ((a' : Nat) : Int) < (z.length : Int) := h1
          rw [if_neg (show ¬ a' < z.length by omega)] at q
          exact ⟨_, rfl, q H2 v s2 hv⟩
    · obtain rfl : x = v := by simpa using ex
      refine ⟨_, rfl, _, _, _, _, false, rfl, .ty _, hty, kit_ty hk, _, rfl, iteT ?_⟩
      exact ⟨_, rfl, fun d hd => e d _ (same_new hd _) upd_same⟩
theorem scRT : FnScope ["text"] ["text"] (defScope sRT) := ⟨rfl, rfl, rfl, by decide +kernel, rfl, by decide +kernel, by decide +kernel⟩
theorem ok_rt {f fW' : Addr} {fd fdW' : FuncData} (FW : Fun K "read_with" "read_with" sRW fW' fdW') (bW : Binds K fdW' ["text", "is_bounded"] []) (mW : mg "read_with" = some (.ref fW')) (GW : FnOk P w K mg base (L2.CX P w) 68 fW' fdW' ["text", "is_bounded"] (spRW K CN))
    (F : Fun K "read_tree" "read_tree" sRT f fd) : FnOk P w K mg base (L2.CX P w) 69 f fd ["text"] (spRT K CN) := by
  refine F.okX scRT (fun vs H Q E h => ?_) (fun cdv A outer s H vs Q E hr h => ?_)
  · rcases h with ⟨z, rfl, _⟩ | ⟨v, Ty, rfl, _⟩ <;> rfl
  · obtain ⟨x, rfl⟩ : ∃ x, vs = [x] := by rcases h with ⟨z, rfl, _⟩ | ⟨v, Ty, rfl, _⟩ <;> exact ⟨_, rfl⟩
    refine ⟨_, pss_one (ps_ret (pe_call GW hr rfl mW FW.kp bW .nil (passes_call (takes_of rfl rfl rfl rfl) (fun _ _ _ _ h => h)) (pa_cons (pv 0) (pa_cons pe_bl pa_nil)))), ?_⟩
    exact ⟨_, rfl, _, rfl, h⟩
end
end DS
set_option Elab.async false
set_option linter.all false
set_option maxRecDepth 100000
set_option maxHeartbeats 4000000
namespace DS
open PySem L2
abbrev sBehind : Stmt := top 17
abbrev sBegins : Stmt := top 18
abbrev sFits : Stmt := top 19
abbrev sWrong : Stmt := top 20
/-! ### the automaton's dict -/
def hereK (m : Str) (o n : Int) (r : V) : List (Key × V) := [(Sum.inr "mode", .str m), (Sum.inr "open", .int o), (Sum.inr "parts", .int n), (Sum.inr "rest", r)]
def mdS : Md → Str
  | .part => "part" | .first => "first" | .fin => "end" | .minus => "minus" | .digits _ => "digits" | .str => "string" | .esc => "escape" | .word _ => "word"
def RestOk : Md → V → Prop
  | .digits k, r => r = .int k
  | .word w, r => r = .str (S w) ∧ w ≠ [] ∧ w.length ≤ 2
  | _, _ => True
def HereAt (H : Hp) (h : Addr) (s : As) : Prop := ∃ r, H h = some (.dK (hereK (mdS s.m) s.o s.n r)) ∧ RestOk s.m r
section
variable {H : Hp} {h : Addr} {m : Str} {o n : Int} {r : V}
theorem g_mode (e : H h = some (.dK (hereK m o n r))) : DGet H h (.str "mode") (some (.str m)) := DGet.k (k := Sum.inr "mode") e
theorem g_open (e : H h = some (.dK (hereK m o n r))) : DGet H h (.str "open") (some (.int o)) := DGet.k (k := Sum.inr "open") e
theorem g_parts (e : H h = some (.dK (hereK m o n r))) : DGet H h (.str "parts") (some (.int n)) := DGet.k (k := Sum.inr "parts") e
theorem g_rest (e : H h = some (.dK (hereK m o n r))) : DGet H h (.str "rest") (some r) := DGet.k (k := Sum.inr "rest") e
theorem p_mode {m' : Str} (e : H h = some (.dK (hereK m o n r))) : DPut H h (.str "mode") (.str m') (upd H h (.dK (hereK m' o n r))) := DPut.k (k := Sum.inr "mode") e (small' (by show 4 < _; decide))
theorem p_open {o' : Int} (e : H h = some (.dK (hereK m o n r))) : DPut H h (.str "open") (.int o') (upd H h (.dK (hereK m o' n r))) := DPut.k (k := Sum.inr "open") e (small' (by show 4 < _; decide))
theorem p_parts {n' : Int} (e : H h = some (.dK (hereK m o n r))) : DPut H h (.str "parts") (.int n') (upd H h (.dK (hereK m o n' r))) := DPut.k (k := Sum.inr "parts") e (small' (by show 4 < _; decide))
theorem p_rest {r' : V} (e : H h = some (.dK (hereK m o n r))) : DPut H h (.str "rest") r' (upd H h (.dK (hereK m o n r'))) := DPut.k (k := Sum.inr "rest") e (small' (by show 4 < _; decide))
end
/-- told by a step of the automaton -/
def Step (Q : VK) (h : Addr) (H : Hp) : Option As → Prop
  | none => ∀ H', Sb h H H' → Q (.bl false) H'
  | some s' => ∀ H', Sb h H H' → HereAt H' h s' → Q (.bl true) H'
def spAuto (g : As → Nat → Option As) : Sp := fun vs H Q _ => ∃ h s c, vs = [.ref h, .str (S [c])] ∧ HereAt H h s ∧ Step Q h H (g s c)
section
variable {P : Program} {w : World} {K : PySem.W.Frag} {mg : Str → Option Value} {base : Heap}
theorem scBehind : FnScope ["_law_here", "_law_sign"] ["_law_here", "_law_sign"] (defScope sBehind) := ⟨rfl, rfl, rfl, by decide +kernel, rfl, by decide +kernel, by decide +kernel⟩
theorem ok_behind {f : Addr} {fd : FuncData} {k : Nat} (F : Fun K "_law_behind" "_law_behind" sBehind f fd) : FnOk P w K mg base CX0 (k + 1) f fd ["_law_here", "_law_sign"] (spAuto behind) := by
  refine F.ok scBehind (fun vs H Q E h => ?_) (fun cdv A outer s H vs Q E hr h => ?_)
  · obtain ⟨h, s, c, rfl, _⟩ := h
    rfl
  · obtain ⟨h, ⟨m, o, n⟩, c, rfl, ⟨r, eh, ro⟩, q⟩ := h
    have hu := hu_of hr
    obtain ⟨tl, dtl, tail⟩ : ∃ tl : TS, PSs (cxOf CX0 P w K mg base ["_law_here", "_law_sign"] "_law_behind" (defScope sBehind) f cdv A outer s H E).nox ((defBody sBehind).drop 1) tl ∧
        (¬ (c = 32 ∧ o > 0 ∧ n < 2000) → tl { nx := fun _ H' => Q .non H', rt := Q } [some (.ref h), some (.str (S [c]))] H) := by
      refine ⟨_, pss_cons (ps_asg (pe_tup (pa_cons (pe_op op_sub (pe_dget hu (pv 0) pe_str (fun _ _ => rfl)) pe_int) (pa_cons pe_str pa_nil))) (pg_tup (by rfl) (pgs_cons (pg_sub (pv 0) pe_str (set_dict hu)) (pgs_cons (pg_sub (pv 0) pe_str (set_dict hu)) pgs_nil))))
        (pss_one (ps_ret (pe_and (pe_cmpR op_eq (pv 1) pe_str (nomark _)) (pe_one (pe_cmpR op_ge (pe_dget hu (pv 0) pe_str (fun _ _ => rfl)) pe_int (nomark _)))))), fun no => ?_⟩
      refine ⟨_, rfl, h, _, rfl, g_open eh, _, _, rfl, rfl, by show 2 ≤ sizeLine; decide, fun t ht => ?_⟩
      have nth : h ≠ t := ne_of_none eh ht
      have eh1 : (upd H t (.tup [.int (o - 1), .str "end"])) h = some (.dK (hereK (mdS m) o n r)) := by rw [upd_ne nth]; exact eh
      refine ⟨t, _, rfl, SqT.of upd_same, rfl, _, _, rfl, ⟨_, rfl, h, _, rfl, p_open eh1, ?_⟩⟩
      refine ⟨_, [], rfl, ⟨_, rfl, h, _, rfl, p_mode upd_same, ?_⟩⟩
      refine ⟨rfl, _, rfl, rfl, _, rfl, ?_⟩
      rw [ofs_cl]
      have eh2 : (upd (upd (upd H t (.tup [.int (o - 1), .str "end"])) h (.dK (hereK (mdS m) (o - 1) n r))) h (.dK (hereK "end" (o - 1) n r))) h = some (.dK (hereK "end" (o - 1) n r)) := upd_same
      have b2 : Sb h H (upd (upd (upd H t (.tup [.int (o - 1), .str "end"])) h (.dK (hereK (mdS m) (o - 1) n r))) h (.dK (hereK "end" (o - 1) n r))) := ((Same.sb (same_new ht _)).trans (sb_upd _)).trans (sb_upd _)
      unfold behind at q
      rw [if_neg no] at q
      by_cases h41 : c = 41
      · subst h41
        rw [decide_eq_true rfl]
        refine iteT ⟨_, rfl, h, _, rfl, g_open eh2, _, _, rfl, rfl, ?_⟩
        by_cases ho : o - 1 ≥ 0
        · rw [if_pos ⟨rfl, ho⟩] at q
          show Q (V.bl (decide ((0 : Int) ≤ o - 1))) _
          rw [decide_eq_true (show (0 : Int) ≤ o - 1 from ho)]
          exact q _ b2 ⟨r, upd_same, trivial⟩
        · rw [if_neg (fun z => ho z.2)] at q
          show Q (V.bl (decide ((0 : Int) ≤ o - 1))) _
          rw [decide_eq_false (show ¬ (0 : Int) ≤ o - 1 from ho)]
          exact q _ b2
      · rw [if_neg (fun z => h41 z.1)] at q
        rw [decide_eq_false (nsg h41)]
        exact iteF (q _ b2)
    refine ⟨_, pss_cons (ps_if (PW.pt (pw_and (pt_cmpR op_eq (pv 1) pe_str (nomark _)) (pw_and (pt_cmpR op_gt (pe_dget hu (pv 0) pe_str (fun _ _ => rfl)) pe_int (nomark _)) (pw_and1 (pt_cmpR op_lt (pe_dget hu (pv 0) pe_str (fun _ _ => rfl)) pe_int (nomark _))))))
        (pss_cons (ps_dput hu (pv 0) pe_str pe_str rfl) (pss_one (ps_ret pe_bl))) pss_nil) dtl, ?_⟩
    refine ⟨_, rfl, rfl, _, rfl, ?_⟩
    rw [ofs_sp]
    by_cases h32 : c = 32
    · subst h32
      rw [decide_eq_true rfl]
      refine iteT ⟨_, rfl, h, _, rfl, g_open eh, _, _, rfl, rfl, _, rfl, ?_⟩
      refine ite2 (fun e1 => ?_) (fun e1 => iteF (tail fun z => e1 (decide_eq_true z.2.1)))
      refine ⟨_, rfl, h, _, rfl, g_parts eh, _, _, rfl, rfl, _, rfl, ?_⟩
      refine ite2 (fun e2 => ?_) (fun e2 => tail fun z => e2 (decide_eq_true z.2.2))
      have q' : behind ⟨m, o, n⟩ 32 = some ⟨.part, o, n⟩ := by unfold behind; rw [if_pos ⟨rfl, of_decide_eq_true e1, of_decide_eq_true e2⟩]
      rw [q'] at q
      refine ⟨_, rfl, h, _, rfl, p_mode eh, ?_⟩
      exact q _ (sb_upd _) ⟨r, upd_same, trivial⟩
    · rw [decide_eq_false (nsg h32)]
      exact iteF (iteF (tail fun z => h32 z.1))
end
end DS
set_option Elab.async false
set_option linter.all false
set_option maxRecDepth 100000
set_option maxHeartbeats 4000000
namespace DS
open PySem L2
theorem mem_two {a b c : Nat} : inV (V.str (S [c])) [V.str (S [a]), V.str (S [b])] = decide (c = a ∨ c = b) := by
  simp only [inV, List.any, eqV, Bool.or_false]
  by_cases h1 : c = a
  · subst h1; simp
  · have n1 : (S [a] == S [c]) = false := by rw [beq_eq_false_iff_ne]; intro z; have := S_inj z; simp at this; omega
    rw [n1]
    by_cases h2 : c = b
    · subst h2; simp
    · have n2 : (S [b] == S [c]) = false := by rw [beq_eq_false_iff_ne]; intro z; have := S_inj z; simp at this; omega
      rw [n2, decide_eq_false (by omega)]; rfl
theorem ofs_y : Str.ofString "y" = S [121] := by decide +kernel
theorem ofs_n : Str.ofString "n" = S [110] := by decide +kernel
theorem ofs_es : Str.ofString "es" = S [101, 115] := by decide +kernel
theorem ofs_o : Str.ofString "o" = S [111] := by decide +kernel
theorem cps_19 : (Str.ofString "123456789").cps.toList = [49, 50, 51, 52, 53, 54, 55, 56, 57] := by decide +kernel
theorem mem_19 {c : Nat} : c ∈ (Str.ofString "123456789").cps.toList ↔ (49 ≤ c ∧ c ≤ 57) := by
  rw [cps_19]; simp; omega
theorem cps_bg : (Str.ofString "(-0123456789\"yn").cps.toList = [40, 45, 48, 49, 50, 51, 52, 53, 54, 55, 56, 57, 34, 121, 110] := by decide +kernel
def bgL : Cs := [40, 45, 48, 49, 50, 51, 52, 53, 54, 55, 56, 57, 34, 121, 110]
/-- how begins changes the dict -/
def m1 (c : Nat) : Str := if c = 40 then "first" else if c = 45 then "minus" else "end"
def f3 (c : Nat) (m : Str) : Str := if c = 34 then "string" else m
def f4 (c : Nat) (m : Str) : Str := if c = 121 ∨ c = 110 then "word" else m
def g4 (c : Nat) (r : V) : V := if c = 121 then .str (S [101, 115]) else if c = 110 then .str (S [111]) else r
def f5 (c : Nat) (m : Str) : Str := if 49 ≤ c ∧ c ≤ 57 then "digits" else m
def g5 (c : Nat) (r : V) : V := if 49 ≤ c ∧ c ≤ 57 then .int 99 else r
def kv3 : List (Key × V) := [(Sum.inr "(", .str "first"), (Sum.inr "-", .str "minus"), (Sum.inr "0", .str "end")]
theorem ofs_ob : Str.ofString "(" = S [40] := ofs_op
theorem kv3_get (c : Nat) : (valV kv3 (Sum.inr (S [c]))).getD (.str "end") = .str (m1 c) := by
  unfold kv3 m1
  by_cases h40 : c = 40
  · subst h40; rfl
  · rw [valV_neg (fun e => h40 (by have := S_inj ((ofs_op.symm.trans (Sum.inr.inj e))); simpa using this.symm))]
    by_cases h45 : c = 45
    · subst h45; rfl
    · rw [valV_neg (fun e => h45 (by have := S_inj ((ofs_mi.symm.trans (Sum.inr.inj e))); simpa using this.symm))]
      rw [if_neg h40, if_neg h45]
      by_cases h48 : c = 48
      · subst h48; rfl
      · rw [valV_neg (fun e => h48 (by have := S_inj ((ofs_0.symm.trans (Sum.inr.inj e))); simpa using this.symm))]
        rfl
def kv2 : List (Key × V) := [(Sum.inr "y", .str "es"), (Sum.inr "n", .str "o")]
theorem begins_of {m : Md} {o n : Int} {c : Nat} {r : V} (ho : ¬ (o > 29 ∨ n > 1999)) :
    begins ⟨m, o, n⟩ c = none ∧ c ∉ bgL ∨ ∃ s', begins ⟨m, o, n⟩ c = some s' ∧ c ∈ bgL ∧ s'.o = o + (if c = 40 then 1 else 0) ∧ s'.n = n + 1 ∧ mdS s'.m = f5 c (f4 c (f3 c (m1 c))) ∧ RestOk s'.m (g5 c (g4 c r)) := by
  unfold begins
  simp only [if_neg ho]
  by_cases h40 : c = 40
  · subst h40; exact .inr ⟨_, rfl, by decide, rfl, rfl, rfl, trivial⟩
  · rw [if_neg h40]
    by_cases h45 : c = 45
    · subst h45; exact .inr ⟨_, rfl, by decide, by simp, rfl, rfl, trivial⟩
    · rw [if_neg h45]
      by_cases h48 : c = 48
      · subst h48; exact .inr ⟨_, rfl, by decide, by simp, rfl, rfl, trivial⟩
      · rw [if_neg h48]
        by_cases h34 : c = 34
        · subst h34; exact .inr ⟨_, rfl, by decide, by simp, rfl, rfl, trivial⟩
        · rw [if_neg h34]
          by_cases h121 : c = 121
          · subst h121; exact .inr ⟨_, rfl, by decide, by simp, rfl, rfl, rfl, by simp, by simp⟩
          · rw [if_neg h121]
            by_cases h110 : c = 110
            · subst h110; exact .inr ⟨_, rfl, by decide, by simp, rfl, rfl, rfl, by simp, by simp⟩
            · rw [if_neg h110]
              by_cases hd : isDig c
              · rw [if_pos hd]
                have h9 : 49 ≤ c ∧ c ≤ 57 := by unfold isDig at hd; omega
                refine .inr ⟨_, rfl, by unfold bgL; simp; omega, by rw [if_neg h40]; simp, rfl, by unfold f5; rw [if_pos h9]; rfl, ?_⟩
                unfold g5
                rw [if_pos h9]; rfl
              · rw [if_neg hd]
                unfold isDig at hd
                exact .inl ⟨rfl, by unfold bgL; simp; omega⟩
section
variable {P : Program} {w : World} {K : PySem.W.Frag} {mg : Str → Option Value} {base : Heap}
theorem scBegins : FnScope ["_law_here", "_law_sign"] ["_law_here", "_law_sign"] (defScope sBegins) := ⟨rfl, rfl, rfl, by decide +kernel, rfl, by decide +kernel, by decide +kernel⟩
theorem ok_begins {f : Addr} {fd : FuncData} {k : Nat} (B : Bn mg) (F : Fun K "_law_begins" "_law_begins" sBegins f fd) : FnOk P w K mg base CX0 (k + 1) f fd ["_law_here", "_law_sign"] (spAuto begins) := by
  refine F.ok scBegins (fun vs H Q E h => ?_) (fun cdv A outer s H vs Q E hr h => ?_)
  · obtain ⟨h, s, c, rfl, _⟩ := h
    rfl
  · obtain ⟨h, ⟨m, o, n⟩, c, rfl, ⟨r, eh, ro⟩, q⟩ := h
    have hu := hu_of hr
    -- if sign in '123456789' ..; return ..
    obtain ⟨t5, d5, tail5⟩ : ∃ tl : TS, PSs (cxOf CX0 P w K mg base ["_law_here", "_law_sign"] "_law_begins" (defScope sBegins) f cdv A outer s H E).nox ((defBody sBegins).drop 5) tl ∧
        ∀ (H1 : Hp) (ma : Str) (oa na : Int) (ra : V), H1 h = some (.dK (hereK ma oa na ra)) → Sb h H H1 → (∀ H', Sb h H H' → H' h = some (.dK (hereK (f5 c ma) oa na (g5 c ra))) → Q (.bl (decide (c ∈ bgL))) H') →
          tl { nx := fun _ H' => Q .non H', rt := Q } [some (.ref h), some (.str (S [c]))] H1 := by
      refine ⟨_, pss_cons (ps_if (pt_cmpR op_in_sign (pv 1) pe_str rfl) (pss_one (ps_asg (pe_tup (pa_cons pe_str (pa_cons pe_int pa_nil))) (pg_tup (by rfl) (pgs_cons (pg_sub (pv 0) pe_str (set_dict hu)) (pgs_cons (pg_sub (pv 0) pe_str (set_dict hu)) pgs_nil))))) pss_nil)
        (pss_one (ps_ret (pe_cmpR op_in_sign (pv 1) pe_str rfl))), ?_⟩
      intro H1 ma oa na ra e1 b1 fin
      refine ⟨_, rfl, c, _, rfl, rfl, _, rfl, ?_⟩
      show if decide (c ∈ (Str.ofString "123456789").cps.toList) = true then _ else _
      by_cases h9 : 49 ≤ c ∧ c ≤ 57
      · rw [decide_eq_true (mem_19.mpr h9)]
        refine iteT ⟨by show 2 ≤ sizeLine; decide, fun t ht => ?_⟩
        have nth : h ≠ t := ne_of_none e1 ht
        have e2 : (upd H1 t (.tup [.str "digits", .int 99])) h = some (.dK (hereK ma oa na ra)) := by rw [upd_ne nth]; exact e1
        refine ⟨t, _, rfl, SqT.of upd_same, rfl, _, _, rfl, ⟨_, rfl, h, _, rfl, p_mode e2, ?_⟩⟩
        refine ⟨_, [], rfl, ⟨_, rfl, h, _, rfl, p_rest upd_same, ?_⟩⟩
        refine ⟨rfl, _, rfl, c, _, rfl, rfl, ?_⟩
        rw [cps_bg]
        refine fin _ (((b1.trans (Same.sb (same_new ht _))).trans (sb_upd _)).trans (sb_upd _)) ?_
        rw [upd_same]; unfold f5 g5; rw [if_pos h9, if_pos h9]
      · rw [decide_eq_false (fun z => h9 (mem_19.mp z))]
        refine iteF ⟨_, rfl, c, _, rfl, rfl, ?_⟩
        rw [cps_bg]
        refine fin _ b1 ?_
        rw [e1]; unfold f5 g5; rw [if_neg h9, if_neg h9]
    -- if sign == '"' ..; if sign in ('y', 'n') ..
    obtain ⟨t4, d4, tail4⟩ : ∃ tl : TS, PSs (cxOf CX0 P w K mg base ["_law_here", "_law_sign"] "_law_begins" (defScope sBegins) f cdv A outer s H E).nox ((defBody sBegins).drop 4) tl ∧
        ∀ (H1 : Hp) (ma : Str) (oa na : Int) (ra : V), H1 h = some (.dK (hereK ma oa na ra)) → Sb h H H1 → (∀ H', Sb h H H' → H' h = some (.dK (hereK (f5 c (f4 c ma)) oa na (g5 c (g4 c ra)))) → Q (.bl (decide (c ∈ bgL))) H') →
          tl { nx := fun _ H' => Q .non H', rt := Q } [some (.ref h), some (.str (S [c]))] H1 := by
      refine ⟨_, pss_cons (ps_if (pt_cmpR (show OpR _ (compareOp .In) (rIn K false) from op_in_seq) (pv 1) (pe_tup (pa_cons pe_str (pa_cons pe_str pa_nil))) (by rfl)) (pss_one (ps_asg (pe_tup (pa_cons pe_str (pa_cons (pe_dget hu (pe_disp (pps_cons pe_str pe_str (pps_cons pe_str pe_str pps_nil)) (by rfl) (by rfl) (fun z => by cases z) (by decide)) (pv 1) (fun _ _ => rfl)) pa_nil)))
        (pg_tup (by rfl) (pgs_cons (pg_sub (pv 0) pe_str (set_dict hu)) (pgs_cons (pg_sub (pv 0) pe_str (set_dict hu)) pgs_nil))))) pss_nil) d5, ?_⟩
      intro H1 ma oa na ra e1 b1 fin
      refine ⟨_, rfl, by show 2 ≤ sizeLine; decide, fun t ht => ?_⟩
      have nth : h ≠ t := ne_of_none e1 ht
      have e2 : (upd H1 t (.tup [.str (Str.ofString "y"), .str (Str.ofString "n")])) h = some (.dK (hereK ma oa na ra)) := by rw [upd_ne nth]; exact e1
      refine ⟨t, _, rfl, .inr (SqT.of upd_same), rfl, rfl, _, rfl, ?_⟩
      show if inV (V.str (S [c])) [V.str (Str.ofString "y"), V.str (Str.ofString "n")] = true then _ else _
      rw [ofs_y, ofs_n, mem_two]
      by_cases hy : c = 121 ∨ c = 110
      · rw [decide_eq_true hy]
        refine iteT ?_
        intro p hp
        have nhp : h ≠ p := ne_of_none e2 hp
        have hv : ∃ v, valV kv2 (Sum.inr (S [c])) = some v ∧ v = g4 c ra := by
          rcases hy with rfl | rfl
          · exact ⟨.str (Str.ofString "es"), rfl, by rw [ofs_es]; rfl⟩
          · exact ⟨.str (Str.ofString "o"), rfl, by rw [ofs_o]; rfl⟩
        obtain ⟨v, hv, ev⟩ := hv
        refine ⟨upd_same, kv2, by rw [← ofs_y, ← ofs_n]; rfl, by show 2 ≤ 15; decide, ?_⟩
        have e3 : (upd (upd (upd H1 t (.tup [.str (S [121]), .str (S [110])])) p (.dK [])) p (.dK kv2)) h = some (.dK (hereK ma oa na ra)) := by rw [upd_ne nhp, upd_ne nhp, upd_ne nth]; exact e1
        have b3 : Sb h H (upd (upd (upd H1 t (.tup [.str (S [121]), .str (S [110])])) p (.dK [])) p (.dK kv2)) := fun b o e hb => by
          have e1' := b1 b o e hb
          have nb : b ≠ t := ne_of_none e1' ht
          have e2' : (upd H1 t (.tup [.str (S [121]), .str (S [110])])) b = some o := by rw [upd_ne nb]; exact e1'
          have np : b ≠ p := ne_of_none e2' hp
          rw [upd_ne np, upd_ne np]; exact e2'
        refine ⟨_, rfl, p, v, rfl, by have := DGet.k (k := Sum.inr (S [c])) (upd_same (H := upd (upd H1 t (.tup [.str (S [121]), .str (S [110])])) p (.dK [])) (a := p) (o := .dK kv2)); rw [hv] at this; exact this, ?_⟩
        refine ⟨by show 2 ≤ sizeLine; decide, fun t2 ht2 => ?_⟩
        have n2 : h ≠ t2 := ne_of_none e3 ht2
        have e4 : (upd (upd (upd (upd H1 t (.tup [.str (S [121]), .str (S [110])])) p (.dK [])) p (.dK kv2)) t2 (.tup [.str (Str.ofString "word"), v])) h = some (.dK (hereK ma oa na ra)) := by rw [upd_ne n2]; exact e3
        refine ⟨t2, _, rfl, SqT.of upd_same, rfl, _, _, rfl, ⟨_, rfl, h, _, rfl, p_mode e4, ?_⟩⟩
        refine ⟨_, [], rfl, ⟨_, rfl, h, _, rfl, p_rest upd_same, ?_⟩⟩
        refine ⟨rfl, tail5 _ "word" oa na v upd_same (((b3.trans (Same.sb (same_new ht2 _))).trans (sb_upd _)).trans (sb_upd _)) fun H' b' e' => fin H' b' ?_⟩
        rw [e', ← ev]; unfold f4; rw [if_pos hy]
      · rw [decide_eq_false hy]
        refine iteF (tail5 _ ma oa na ra e2 (b1.trans (Same.sb (same_new ht _))) fun H' b' e' => fin H' b' ?_)
        have : ¬ c = 121 ∧ ¬ c = 110 := by omega
        rw [e']; unfold f4 g4; rw [if_neg hy, if_neg this.1, if_neg this.2]
    obtain ⟨t2, d2, tail2⟩ : ∃ tl : TS, PSs (cxOf CX0 P w K mg base ["_law_here", "_law_sign"] "_law_begins" (defScope sBegins) f cdv A outer s H E).nox ((defBody sBegins).drop 2) tl ∧
        ∀ (H1 : Hp) (ma : Str) (oa na : Int) (ra : V), H1 h = some (.dK (hereK ma oa na ra)) → Sb h H H1 → (∀ H', Sb h H H' → H' h = some (.dK (hereK (f5 c (f4 c (f3 c ma))) (oa + (if c = 40 then 1 else 0)) na (g5 c (g4 c ra)))) → Q (.bl (decide (c ∈ bgL))) H') →
          tl { nx := fun _ H' => Q .non H', rt := Q } [some (.ref h), some (.str (S [c]))] H1 := by
      refine ⟨_, pss_cons (ps_dput hu (pv 0) pe_str (pe_op op_add (pe_dget hu (pv 0) pe_str (fun _ _ => rfl)) (pe_callTy call_int1 (by rfl) B.int PyProof.Rows.boot_int (pa_cons (pe_cmpR op_eq (pv 1) pe_str (nomark _)) pa_nil))) rfl)
        (pss_cons (ps_if (pt_cmpR op_eq (pv 1) pe_str (nomark _)) (pss_one (ps_dput hu (pv 0) pe_str pe_str rfl)) pss_nil) d4), ?_⟩
      intro H1 ma oa na ra e1 b1 fin
      refine ⟨_, rfl, h, _, rfl, g_open e1, _, rfl, rfl, .inr ⟨_, rfl, _, _, rfl, rfl, _, rfl, h, _, rfl, p_open e1, ?_⟩⟩
      refine ⟨_, rfl, rfl, _, rfl, ?_⟩
      rw [ofs_q]
      have eo : oa + (if decide (V.str (S [c]) = V.str (Str.ofString "(")) then 1 else 0) = oa + (if c = 40 then 1 else 0) := by
        rw [ofs_op]
        by_cases h40 : c = 40
        · subst h40; rfl
        · rw [decide_eq_false (nsg h40), if_neg h40]; rfl
      by_cases h34 : c = 34
      · subst h34
        rw [decide_eq_true rfl]
        refine iteT ⟨_, rfl, h, _, rfl, p_mode upd_same, ?_⟩
        refine tail4 _ "string" _ na ra upd_same ((b1.trans (sb_upd _)).trans (sb_upd _)) fun H' b' e' => fin H' b' ?_
        rw [e', ← eo]; rfl
      · rw [decide_eq_false (nsg h34)]
        refine iteF (tail4 _ ma _ na ra upd_same (b1.trans (sb_upd _)) fun H' b' e' => fin H' b' ?_)
        rw [e', ← eo]; unfold f3; rw [if_neg h34]
    refine ⟨_, pss_cons (ps_if (PW.pt (pw_or (pt_cmpR op_gt (pe_dget hu (pv 0) pe_str (fun _ _ => rfl)) pe_int (nomark _)) (pw_or1 (pt_cmpR op_gt (pe_dget hu (pv 0) pe_str (fun _ _ => rfl)) pe_int (nomark _))))) (pss_one (ps_ret pe_bl)) pss_nil)
      (pss_cons (ps_asg (pe_tup (pa_cons (pe_op op_add (pe_dget hu (pv 0) pe_str (fun _ _ => rfl)) pe_int) (pa_cons (pe_dget2 hu (pe_disp (pps_cons pe_str pe_str (pps_cons pe_str pe_str (pps_cons pe_str pe_str pps_nil))) (by rfl) (by rfl) (fun z => by cases z) (by decide)) (pv 1) pe_str ⟨rfl, rfl, rfl, rfl⟩) pa_nil)))
        (pg_tup (by rfl) (pgs_cons (pg_sub (pv 0) pe_str (set_dict hu)) (pgs_cons (pg_sub (pv 0) pe_str (set_dict hu)) pgs_nil)))) d2), ?_⟩
    refine ⟨_, rfl, h, _, rfl, g_open eh, _, _, rfl, rfl, _, rfl, ?_⟩
    have no : (o > 29 ∨ n > 1999) → Q (.bl false) H := fun z => by
      have : begins ⟨m, o, n⟩ c = none := by unfold begins; rw [if_pos z]
      rw [this] at q
      exact q H (Sb.refl _ _)
    refine ite2 (fun e1 => iteT (no (.inl (of_decide_eq_true e1)))) (fun e1 => ?_)
    refine ⟨_, rfl, h, _, rfl, g_parts eh, _, _, rfl, rfl, _, rfl, ?_⟩
    refine ite2 (fun e2 => no (.inr (of_decide_eq_true e2))) (fun e2 => ?_)
    have ho : ¬ (o > 29 ∨ n > 1999) := fun z => z.elim (fun z => e1 (decide_eq_true z)) (fun z => e2 (decide_eq_true z))
    refine ⟨_, rfl, h, _, rfl, g_parts eh, _, _, rfl, rfl, fun p hp => ?_⟩
    have nhp : h ≠ p := ne_of_none eh hp
    refine ⟨upd_same, kv3, rfl, by show 3 ≤ 15; decide, ?_⟩
    have e3 : (upd (upd H p (.dK [])) p (.dK kv3)) h = some (.dK (hereK (mdS m) o n r)) := by rw [upd_ne nhp, upd_ne nhp]; exact eh
    have b3 : Sb h H (upd (upd H p (.dK [])) p (.dK kv3)) := fun b o e hb => by
      have np : b ≠ p := ne_of_none e hp
      rw [upd_ne np, upd_ne np]; exact e
    refine ⟨p, rfl, .inl ⟨_, .inl upd_same⟩, _, rfl, _, DGet.k (k := Sum.inr (S [c])) (upd_same (H := upd H p (.dK [])) (a := p) (o := .dK kv3)), ?_⟩
    rw [kv3_get]
    refine ⟨by show 2 ≤ sizeLine; decide, fun t ht => ?_⟩
    have nht : h ≠ t := ne_of_none e3 ht
    have e4 : (upd (upd (upd H p (.dK [])) p (.dK kv3)) t (.tup [.int (n + 1), .str (m1 c)])) h = some (.dK (hereK (mdS m) o n r)) := by rw [upd_ne nht]; exact e3
    refine ⟨t, _, rfl, SqT.of upd_same, rfl, _, _, rfl, ⟨_, rfl, h, _, rfl, p_parts e4, ?_⟩⟩
    refine ⟨_, [], rfl, ⟨_, rfl, h, _, rfl, p_mode upd_same, ?_⟩⟩
    refine ⟨rfl, tail2 _ (m1 c) o (n + 1) r upd_same (((b3.trans (Same.sb (same_new ht _))).trans (sb_upd _)).trans (sb_upd _)) fun H' b' e' => ?_⟩
    rcases begins_of (m := m) (c := c) (r := r) ho with ⟨z1, z2⟩ | ⟨s', z1, z2, z3, z4, z5, z6⟩
    · rw [z1] at q
      rw [decide_eq_false z2]
      exact q H' b'
    · rw [z1] at q
      rw [decide_eq_true z2]
      exact q H' b' ⟨_, by rw [e', z3, z4, z5], z6⟩
end
end DS
set_option Elab.async false
set_option linter.all false
set_option maxRecDepth 100000
set_option maxHeartbeats 4000000
namespace DS
open PySem L2
theorem ifT {b : Bool} {A B : Prop} (e : b = true) (h : A) : if b = true then A else B := by subst e; exact iteT h
theorem ifF {b : Bool} {A B : Prop} (e : b = false) (h : B) : if b = true then A else B := by subst e; exact iteF h
theorem mdd {k : Int} {x : Str} (h : ¬ (V.str (Str.ofString "digits") = V.str x)) : decide (V.str (mdS (.digits k)) = V.str x) = false := decide_eq_false h
theorem mddT {k : Int} : decide (V.str (mdS (.digits k)) = V.str (Str.ofString "digits")) = true := decide_eq_true rfl
theorem mdw {k : Cs} {x : Str} (h : ¬ (V.str (Str.ofString "word") = V.str x)) : decide (V.str (mdS (.word k)) = V.str x) = false := decide_eq_false h
theorem mdwT {k : Cs} : decide (V.str (mdS (.word k)) = V.str (Str.ofString "word")) = true := decide_eq_true rfl
theorem sgn_lit : (Str.ofString " !\"#$&'()*+,-./0123456789:;<=>?@ABCDEFGHIJKLMNOPQRSTUVWXYZ[\\]^_`abcdefghijklmnopqrstuvwxyz{|}~").cps.toList = sgnList := by decide +kernel
theorem cps_qb : (Str.ofString "\"\\").cps.toList = [34, 92] := by decide +kernel
theorem cps_09 : (Str.ofString "0123456789").cps.toList = digL := by decide +kernel
theorem mem_qb {c : Nat} : c ∈ (Str.ofString "\"\\").cps.toList ↔ (c = 34 ∨ c = 92) := by rw [cps_qb]; simp
theorem mem_09 {c : Nat} : c ∈ (Str.ofString "0123456789").cps.toList ↔ isDig c := by rw [cps_09]; exact mem_dig
theorem at0 {c : Nat} {w : Cs} : atI (S (c :: w)).cps.toList 0 = some c := atI_nat (j := 0) (by rw [S_cps]; rfl)
theorem cut_tail (c : Nat) (w : Cs) : cutS (S (c :: w)) (some 1) none = S w := by
  unfold cutS
  rw [show (1 : Int) = ((1 : Nat) : Int) by rfl, HT.sIx_nat, S_cps, S_length]
  show S _ = S _
  congr 1
  simp only [List.length_cons, HT.sIx]
  rw [Nat.min_eq_left (by omega)]
  simp
section
variable {P : Program} {w : World} {K : PySem.W.Frag} {mg : Str → Option Value} {base : Heap}
theorem scFits : FnScope ["_law_here", "_law_sign", "_law_mode", "_law_signs", "_law_is_next"] ["_law_here", "_law_sign"] (defScope sFits) := ⟨rfl, rfl, rfl, by decide +kernel, rfl, by decide +kernel, by decide +kernel⟩
theorem ok_fits {f fB fH : Addr} {fd fdB fdH : FuncData} {k : Nat} (FB : Fun K "_law_begins" "_law_begins" sBegins fB fdB) (bB : Binds K fdB ["_law_here", "_law_sign"] []) (mB : mg "_law_begins" = some (.ref fB)) (GB : FnOk P w K mg base CX0 1 fB fdB ["_law_here", "_law_sign"] (spAuto begins))
    (FH : Fun K "_law_behind" "_law_behind" sBehind fH fdH) (bH : Binds K fdH ["_law_here", "_law_sign"] []) (mH : mg "_law_behind" = some (.ref fH)) (GH : FnOk P w K mg base CX0 1 fH fdH ["_law_here", "_law_sign"] (spAuto behind))
    (F : Fun K "_law_fits" "_law_fits" sFits f fd) : FnOk P w K mg base CX0 (k + 2) f fd ["_law_here", "_law_sign"] (spAuto fitsA) := by
  refine F.ok scFits (fun vs H Q E h => ?_) (fun cdv A outer s H vs Q E hr h => ?_)
  · obtain ⟨h, s, c, rfl, _⟩ := h
    rfl
  · obtain ⟨h, ⟨m, o, n⟩, c, rfl, ⟨r, eh, ro⟩, q⟩ := h
    have hu := hu_of hr
    have hr1 : Room 1 _ := hr.mono (show 1 ≤ k + 1 by omega)
    refine ⟨_, pss_cons (ps_set (i := 2) scFits.nd rfl (Or.inl rfl) (pe_dget hu (pv 0) pe_str (fun _ _ => rfl)))
      (pss_cons (ps_if (PW.pt (pw_or (pt_cmpR op_eq (pv 2) pe_str (nomark _)) (pw_or1 (pt_cmpR op_eq (pv 2) pe_str (nomark _)))))
        (pss_cons (ps_if (PW.pt (pw_and (pt_cmpR op_eq (pv 2) pe_str (nomark _)) (pw_and1 (pt_cmpR op_notIn_sign (pv 1) pe_str rfl)))) (pss_one (ps_ret pe_bl)) pss_nil)
        (pss_cons (ps_dput hu (pv 0) pe_str pe_str rfl)
        (pss_cons (ps_if (PW.pt (pw_and (pt_cmpR op_eq (pv 2) pe_str (nomark _)) (pw_and1 (pt_cmpR op_in_sign (pv 1) pe_str rfl)))) (pss_one (ps_dput hu (pv 0) pe_str (pe_ifExp (pt_cmpR op_eq (pv 1) pe_str (nomark _)) pe_str pe_str) rfl)) pss_nil)
        (pss_cons (ps_set (i := 3) scFits.nd rfl (Or.inl rfl) pe_str)
        (pss_one (ps_ret (pe_cmpR op_in_sign (pv 1) (pv 3) rfl))))))) pss_nil)
      (pss_cons (ps_if (pt_cmpR op_eq (pv 2) pe_str (nomark _))
        (pss_cons (ps_asg (pe_tup (pa_cons (pe_cmpR op_eq (pv 1) (pe_ix ix_str (pe_dget hu (pv 0) pe_str (fun _ _ => rfl)) pe_int (fun _ _ => rfl)) (nomark _)) (pa_cons (pe_slice sl_str (pe_dget hu (pv 0) pe_str (fun _ _ => rfl)) (po_some pe_int) po_none) pa_nil)))
          (pg_tup (by rfl) (pgs_cons (pg_name (i := 4) scFits.nd rfl (Or.inl rfl)) (pgs_cons (pg_sub (pv 0) pe_str (set_dict hu)) pgs_nil))))
        (pss_cons (ps_dput hu (pv 0) pe_str (pe_ifExp (pt_cmpR op_eq (pe_dget hu (pv 0) pe_str (fun _ _ => rfl)) pe_str (nomark _)) pe_str pe_str) rfl)
        (pss_one (ps_ret (pv 4))))) pss_nil)
      (pss_cons (ps_if (PW.pt (pw_or (pt_cmpR op_eq (pv 2) pe_str (nomark _)) (pw_or1 (PW.pt (pw_and (pt_cmpR op_eq (pv 2) pe_str (nomark _)) (pw_and1 (pt_cmpR op_ne (pv 1) pe_str (nomark _))))))))
        (pss_one (ps_ret (pe_call GB hr1 rfl mB FB.kp bB .nil pass0 (pa_cons (pv 0) (pa_cons (pv 1) pa_nil))))) pss_nil)
      (pss_cons (ps_if (PW.pt (pw_and (pt_cmpR op_eq (pv 2) pe_str (nomark _)) (pw_and1 (pt_cmpR op_in_sign (pv 1) pe_str rfl))))
        (pss_cons (ps_asg (pe_tup (pa_cons pe_str (pa_cons pe_int pa_nil))) (pg_tup (by rfl) (pgs_cons (pg_sub (pv 0) pe_str (set_dict hu)) (pgs_cons (pg_sub (pv 0) pe_str (set_dict hu)) pgs_nil)))) (pss_one (ps_ret pe_bl))) pss_nil)
      (pss_cons (ps_if (PW.pt (pw_and (pt_cmpR op_eq (pv 2) pe_str (nomark _)) (pw_and1 (pt_cmpR op_in_sign (pv 1) pe_str rfl))))
        (pss_cons (ps_dput hu (pv 0) pe_str (pe_op op_sub (pe_dget hu (pv 0) pe_str (fun _ _ => rfl)) pe_int) rfl) (pss_one (ps_ret (pe_cmpR op_ge (pe_dget hu (pv 0) pe_str (fun _ _ => rfl)) pe_int (nomark _))))) pss_nil)
      (pss_one (ps_ret (pe_call GH hr1 rfl mH FH.kp bH .nil pass0 (pa_cons (pv 0) (pa_cons (pv 1) pa_nil)))))))))), ?_⟩
    replace eh : H h = some (.dK (hereK (mdS m) o n r)) := eh
    replace ro : RestOk m r := ro
    refine ⟨_, rfl, h, _, rfl, g_mode eh, ?_⟩
    cases m with
    | part =>
      refine ⟨_, rfl, rfl, _, rfl, ifF (by decide +kernel) ⟨_, rfl, rfl, _, rfl, ifF (by decide +kernel) ?_⟩⟩
      refine ⟨_, rfl, rfl, _, rfl, ifF (by decide +kernel) ?_⟩
      refine ⟨_, rfl, rfl, _, rfl, ifT (by decide +kernel) (iteT ?_)⟩
      exact ⟨_, rfl, _, rfl, h, ⟨.part, o, n⟩, c, rfl, ⟨r, eh, trivial⟩, q⟩
    | first =>
      refine ⟨_, rfl, rfl, _, rfl, ifF (by decide +kernel) ⟨_, rfl, rfl, _, rfl, ifF (by decide +kernel) ?_⟩⟩
      refine ⟨_, rfl, rfl, _, rfl, ifF (by decide +kernel) ?_⟩
      refine ⟨_, rfl, rfl, _, rfl, ifF (by decide +kernel) ⟨_, rfl, rfl, _, rfl, ifT (by decide +kernel) ⟨_, rfl, rfl, _, rfl, ?_⟩⟩⟩
      rw [ofs_cl]
      by_cases h41 : c = 41
      · subst h41
        have e : fitsA ⟨.first, o, n⟩ 41 = behind ⟨.first, o, n⟩ 41 := by simp [fitsA]
        rw [e] at q
        refine ifF (by decide) ?_
        refine ⟨_, rfl, rfl, _, rfl, ifF (by decide +kernel) (iteF ?_)⟩
        refine ⟨_, rfl, rfl, _, rfl, ifF (by decide +kernel) (iteF ?_)⟩
        exact ⟨_, rfl, _, rfl, h, ⟨.first, o, n⟩, 41, rfl, ⟨r, eh, trivial⟩, q⟩
      · have e : fitsA ⟨.first, o, n⟩ c = begins ⟨.first, o, n⟩ c := by simp [fitsA, h41]
        rw [e] at q
        rw [decide_eq_false (nsg h41)]
        refine iteT ?_
        exact ⟨_, rfl, _, rfl, h, ⟨.first, o, n⟩, c, rfl, ⟨r, eh, trivial⟩, q⟩
    | fin =>
      refine ⟨_, rfl, rfl, _, rfl, ifF (by decide +kernel) ⟨_, rfl, rfl, _, rfl, ifF (by decide +kernel) ?_⟩⟩
      refine ⟨_, rfl, rfl, _, rfl, ifF (by decide +kernel) ?_⟩
      refine ⟨_, rfl, rfl, _, rfl, ifF (by decide +kernel) ⟨_, rfl, rfl, _, rfl, ifF (by decide +kernel) (iteF ?_)⟩⟩
      refine ⟨_, rfl, rfl, _, rfl, ifF (by decide +kernel) (iteF ?_)⟩
      refine ⟨_, rfl, rfl, _, rfl, ifF (by decide +kernel) (iteF ?_)⟩
      exact ⟨_, rfl, _, rfl, h, ⟨.fin, o, n⟩, c, rfl, ⟨r, eh, trivial⟩, q⟩
    | minus =>
      refine ⟨_, rfl, rfl, _, rfl, ifF (by decide +kernel) ⟨_, rfl, rfl, _, rfl, ifF (by decide +kernel) ?_⟩⟩
      refine ⟨_, rfl, rfl, _, rfl, ifF (by decide +kernel) ?_⟩
      refine ⟨_, rfl, rfl, _, rfl, ifF (by decide +kernel) ⟨_, rfl, rfl, _, rfl, ifF (by decide +kernel) (iteF ?_)⟩⟩
      refine ⟨_, rfl, rfl, _, rfl, ifT (by decide +kernel) ⟨_, rfl, c, _, rfl, rfl, _, rfl, ?_⟩⟩
      by_cases h9 : 49 ≤ c ∧ c ≤ 57
      · have e : fitsA ⟨.minus, o, n⟩ c = some ⟨.digits 99, o, n⟩ := by
          simp only [fitsA]
          rw [if_pos (by unfold isDig; omega)]
        rw [e] at q
        refine ifT (decide_eq_true (mem_19.mpr h9)) ⟨by show 2 ≤ sizeLine; decide, fun t ht => ?_⟩
        have nth : h ≠ t := ne_of_none eh ht
        have e2 : (upd H t (.tup [.str "digits", .int 99])) h = some (.dK (hereK (mdS .minus) o n r)) := by rw [upd_ne nth]; exact eh
        refine ⟨t, _, rfl, SqT.of upd_same, rfl, _, _, rfl, ⟨_, rfl, h, _, rfl, p_mode e2, ?_⟩⟩
        refine ⟨_, [], rfl, ⟨_, rfl, h, _, rfl, p_rest upd_same, ?_⟩⟩
        exact ⟨rfl, q _ (((Same.sb (same_new ht _)).trans (sb_upd _)).trans (sb_upd _)) ⟨_, upd_same, rfl⟩⟩
      · have e : fitsA ⟨.minus, o, n⟩ c = behind ⟨.minus, o, n⟩ c := by
          simp only [fitsA]
          rw [if_neg (by unfold isDig; omega)]
        rw [e] at q
        refine ifF (decide_eq_false (fun z => h9 (mem_19.mp z))) ?_
        refine ⟨_, rfl, rfl, _, rfl, ifF (by decide +kernel) (iteF ?_)⟩
        exact ⟨_, rfl, _, rfl, h, ⟨.minus, o, n⟩, c, rfl, ⟨r, eh, trivial⟩, q⟩
    | digits k =>
      refine ⟨_, rfl, rfl, _, rfl, ifF (mdd (by decide +kernel)) ⟨_, rfl, rfl, _, rfl, ifF (mdd (by decide +kernel)) ?_⟩⟩
      refine ⟨_, rfl, rfl, _, rfl, ifF (mdd (by decide +kernel)) ?_⟩
      refine ⟨_, rfl, rfl, _, rfl, ifF (mdd (by decide +kernel)) ⟨_, rfl, rfl, _, rfl, ifF (mdd (by decide +kernel)) (iteF ?_)⟩⟩
      refine ⟨_, rfl, rfl, _, rfl, ifF (mdd (by decide +kernel)) (iteF ?_)⟩
      refine ⟨_, rfl, rfl, _, rfl, ifT mddT ⟨_, rfl, c, _, rfl, rfl, _, rfl, ?_⟩⟩
      have er : r = .int k := ro
      subst er
      by_cases hd : isDig c
      · refine ifT (decide_eq_true (mem_09.mpr hd)) ?_
        refine ⟨_, rfl, h, _, rfl, g_rest eh, _, _, rfl, rfl, _, rfl, h, _, rfl, p_rest eh, ?_⟩
        refine ⟨_, rfl, h, _, rfl, g_rest upd_same, _, _, rfl, rfl, ?_⟩
        show Q (V.bl (decide ((0 : Int) ≤ k - 1))) _
        by_cases hk : k - 1 ≥ 0
        · have e : fitsA ⟨.digits k, o, n⟩ c = some ⟨.digits (k - 1), o, n⟩ := by simp only [fitsA]; rw [if_pos hd, if_pos hk]
          rw [e] at q
          rw [decide_eq_true (show (0 : Int) ≤ k - 1 from hk)]
          exact q _ (sb_upd _) ⟨_, upd_same, rfl⟩
        · have e : fitsA ⟨.digits k, o, n⟩ c = none := by simp only [fitsA]; rw [if_pos hd, if_neg hk]
          rw [e] at q
          rw [decide_eq_false (show ¬ (0 : Int) ≤ k - 1 from hk)]
          exact q _ (sb_upd _)
      · have e : fitsA ⟨.digits k, o, n⟩ c = behind ⟨.digits k, o, n⟩ c := by simp only [fitsA]; rw [if_neg hd]
        rw [e] at q
        refine ifF (decide_eq_false (fun z => hd (mem_09.mp z))) ?_
        exact ⟨_, rfl, _, rfl, h, ⟨.digits k, o, n⟩, c, rfl, ⟨_, eh, rfl⟩, q⟩
    | str =>
      refine ⟨_, rfl, rfl, _, rfl, ifT (by decide +kernel) (iteT ?_)⟩
      refine ⟨_, rfl, rfl, _, rfl, ifF (by decide +kernel) (iteF ?_)⟩
      refine ⟨_, rfl, h, _, rfl, p_mode eh, ?_⟩
      refine ⟨_, rfl, rfl, _, rfl, ifT (by decide +kernel) ⟨_, rfl, c, _, rfl, rfl, _, rfl, ?_⟩⟩
      by_cases hq : c = 34 ∨ c = 92
      · refine ifT (decide_eq_true (mem_qb.mpr hq)) ?_
        refine ⟨_, rfl, rfl, _, rfl, ?_⟩
        rw [ofs_q]
        have hs : c ∈ sgnList := by rcases hq with rfl | rfl <;> decide +kernel
        by_cases h34 : c = 34
        · subst h34
          have e : fitsA ⟨.str, o, n⟩ 34 = some ⟨.fin, o, n⟩ := rfl
          rw [e] at q
          refine ifT (by decide) ⟨_, rfl, h, _, rfl, p_mode upd_same, ?_⟩
          refine ⟨_, rfl, _, rfl, _, _, rfl, rfl, ?_⟩
          rw [sgn_lit, decide_eq_true hs]
          exact q _ ((sb_upd _).trans (sb_upd _)) ⟨_, upd_same, trivial⟩
        · have h92 : c = 92 := by omega
          subst h92
          have e : fitsA ⟨.str, o, n⟩ 92 = some ⟨.esc, o, n⟩ := rfl
          rw [e] at q
          refine ifF (by decide) ⟨_, rfl, h, _, rfl, p_mode upd_same, ?_⟩
          refine ⟨_, rfl, _, rfl, _, _, rfl, rfl, ?_⟩
          rw [sgn_lit, decide_eq_true hs]
          exact q _ ((sb_upd _).trans (sb_upd _)) ⟨_, upd_same, trivial⟩
      · refine ifF (decide_eq_false (fun z => hq (mem_qb.mp z))) ?_
        refine ⟨_, rfl, _, rfl, _, _, rfl, rfl, ?_⟩
        rw [sgn_lit]
        by_cases hs : c ∈ sgnList
        · have e : fitsA ⟨.str, o, n⟩ c = some ⟨.str, o, n⟩ := by simp only [fitsA]; rw [if_neg (by omega), if_neg (by omega), if_pos hs]
          rw [e] at q
          rw [decide_eq_true hs]
          exact q _ (sb_upd _) ⟨_, upd_same, trivial⟩
        · have e : fitsA ⟨.str, o, n⟩ c = none := by simp only [fitsA]; rw [if_neg (by omega), if_neg (by omega), if_neg hs]
          rw [e] at q
          rw [decide_eq_false hs]
          exact q _ (sb_upd _)
    | esc =>
      refine ⟨_, rfl, rfl, _, rfl, ifF (by decide +kernel) ⟨_, rfl, rfl, _, rfl, ifT (by decide +kernel) ?_⟩⟩
      refine ⟨_, rfl, rfl, _, rfl, ifT (by decide +kernel) ⟨_, rfl, c, _, rfl, rfl, _, rfl, ?_⟩⟩
      by_cases hq : c = 34 ∨ c = 92
      · have e : fitsA ⟨.esc, o, n⟩ c = some ⟨.str, o, n⟩ := by simp only [fitsA]; rw [if_pos hq]
        rw [e] at q
        have hs : c ∈ sgnList := by rcases hq with rfl | rfl <;> decide +kernel
        refine ifF (by rw [decide_eq_true (mem_qb.mpr hq)]; rfl) ?_
        refine ⟨_, rfl, h, _, rfl, p_mode eh, ?_⟩
        refine ⟨_, rfl, rfl, _, rfl, ifF (by decide +kernel) (iteF ?_)⟩
        refine ⟨_, rfl, _, rfl, _, _, rfl, rfl, ?_⟩
        rw [sgn_lit, decide_eq_true hs]
        exact q _ (sb_upd _) ⟨_, upd_same, trivial⟩
      · have e : fitsA ⟨.esc, o, n⟩ c = none := by simp only [fitsA]; rw [if_neg hq]
        rw [e] at q
        refine ifT (by rw [decide_eq_false (fun z => hq (mem_qb.mp z))]; rfl) ?_
        exact q _ (Sb.refl _ _)
    | word w =>
      refine ⟨_, rfl, rfl, _, rfl, ifF (mdw (by decide +kernel)) ⟨_, rfl, rfl, _, rfl, ifF (mdw (by decide +kernel)) ?_⟩⟩
      refine ⟨_, rfl, rfl, _, rfl, ifT mdwT ?_⟩
      obtain ⟨er, hw, hw2⟩ := (show r = .str (S w) ∧ w ≠ [] ∧ w.length ≤ 2 from ro)
      subst er
      obtain ⟨c1, w1, rfl⟩ : ∃ c1 w1, w = c1 :: w1 := by
        cases w with
        | nil => exact absurd rfl hw
        | cons x y => exact ⟨x, y, rfl⟩
      rw [List.length_cons] at hw2
      refine ⟨_, rfl, _, rfl, h, _, rfl, g_rest eh, S (c1 :: w1), _, c1, rfl, rfl, by rw [S_length, List.length_cons]; exact small (by omega), at0, rfl, ?_⟩
      refine ⟨_, rfl, h, _, rfl, g_rest eh, _, rfl, _, rfl, by rw [S_length, List.length_cons]; exact small (by omega), ?_⟩
      rw [cut_tail]
      refine ⟨by show 2 ≤ sizeLine; decide, fun t ht => ?_⟩
      have nth : h ≠ t := ne_of_none eh ht
      have e2 : (upd H t (.tup [.bl (decide (V.str (S [c]) = V.str (S [c1]))), .str (S w1)])) h = some (.dK (hereK (mdS (.word (c1 :: w1))) o n (.str (S (c1 :: w1))))) := by rw [upd_ne nth]; exact eh
      refine ⟨t, _, rfl, SqT.of upd_same, rfl, _, _, rfl, _, [], rfl, ⟨_, rfl, h, _, rfl, p_rest e2, ?_⟩⟩
      refine ⟨rfl, _, rfl, h, _, rfl, g_rest upd_same, rfl, _, rfl, ?_⟩
      rw [ofs_e]
      have fin : ∀ (mm : Str) (H' : Hp), Sb h H H' → H' h = some (.dK (hereK mm o n (.str (S w1)))) → mm = mdS (if w1 = [] then .fin else .word w1) → Q (.bl (decide (V.str (S [c]) = V.str (S [c1])))) H' := fun mm H' b' e' em => by
        by_cases hc : c = c1
        · subst hc
          have e : fitsA ⟨.word (c :: w1), o, n⟩ c = some ⟨if w1 = [] then .fin else .word w1, o, n⟩ := by by_cases hw : w1 = [] <;> simp [fitsA, hw]
          rw [e] at q
          rw [decide_eq_true rfl]
          refine q H' b' ⟨_, by rw [e', em], ?_⟩
          cases w1 with
          | nil => trivial
          | cons x y => exact ⟨rfl, by simp, by rw [List.length_cons] at hw2 ⊢; omega⟩
        · have e : fitsA ⟨.word (c1 :: w1), o, n⟩ c = none := by simp [fitsA, Ne.symm hc]
          rw [e] at q
          rw [decide_eq_false (nsg hc)]
          exact q H' b'
      cases w1 with
      | nil =>
        refine ifT (by decide) ⟨_, rfl, h, _, rfl, p_mode upd_same, ?_⟩
        exact ⟨_, rfl, fin "end" _ (((Same.sb (same_new ht _)).trans (sb_upd _)).trans (sb_upd _)) upd_same rfl⟩
      | cons x y =>
        have nb : ¬ (V.str (S (x :: y)) = V.str (S [])) := fun e => by have := vS_inj e; simp at this
        refine ifF (decide_eq_false nb) ⟨_, rfl, h, _, rfl, p_mode upd_same, ?_⟩
        exact ⟨_, rfl, fin "word" _ (((Same.sb (same_new ht _)).trans (sb_upd _)).trans (sb_upd _)) upd_same rfl⟩
end
end DS
set_option Elab.async false
set_option linter.all false
set_option maxRecDepth 100000
set_option maxHeartbeats 4000000
namespace DS
open PySem L2
def spWrong : Sp := fun vs H Q _ => ∃ z : Cs, vs = [.str (S z)] ∧ z.length ≤ 1000000 ∧ ∀ H', Same H H' → Q (.int (wrongA z)) H'
def accB : Md → Bool
  | .fin | .minus | .digits _ => true
  | _ => false
theorem acc_in (m : Md) : inV (V.str (mdS m)) [V.str (Str.ofString "end"), V.str (Str.ofString "minus"), V.str (Str.ofString "digits")] = accB m := by
  cases m with
  | digits k => exact (by decide +kernel : inV (V.str (Str.ofString "digits")) [V.str (Str.ofString "end"), V.str (Str.ofString "minus"), V.str (Str.ofString "digits")] = true)
  | word k => exact (by decide +kernel : inV (V.str (Str.ofString "word")) [V.str (Str.ofString "end"), V.str (Str.ofString "minus"), V.str (Str.ofString "digits")] = false)
  | _ => decide +kernel
theorem acc_eq (m : Md) (n : Int) : accept ⟨m, 0, n⟩ = accB m := by cases m <;> rfl
section
variable {P : Program} {w : World} {K : PySem.W.Frag} {mg : Str → Option Value} {base : Heap}
theorem scWrong : FnScope ["_law_text", "_law_here", "_law_at"] ["_law_text"] (defScope sWrong) := ⟨rfl, rfl, rfl, by decide +kernel, rfl, by decide +kernel, by decide +kernel⟩
theorem ok_wrong {f fF : Addr} {fd fdF : FuncData} {k : Nat} (B : Bn mg) (FF : Fun K "_law_fits" "_law_fits" sFits fF fdF) (bF : Binds K fdF ["_law_here", "_law_sign"] []) (mF : mg "_law_fits" = some (.ref fF)) (GF : FnOk P w K mg base CX0 2 fF fdF ["_law_here", "_law_sign"] (spAuto fitsA))
    (F : Fun K "_law_wrong_at" "_law_wrong_at" sWrong f fd) : FnOk P w K mg base CX0 (k + 3) f fd ["_law_text"] spWrong := by
  refine F.ok scWrong (fun vs H Q E h => ?_) (fun cdv A outer s H vs Q E hr h => ?_)
  · obtain ⟨z, rfl, _⟩ := h
    rfl
  · obtain ⟨z, rfl, hz, q⟩ := h
    have hu := hu_of hr
    have hr2 : Room 2 _ := hr.mono (show 2 ≤ k + 2 by omega)
    refine ⟨_, pss_cons (ps_set (i := 1) scWrong.nd rfl (Or.inl rfl) (pe_disp (pps_cons pe_str pe_str (pps_cons pe_str pe_int (pps_cons pe_str pe_int (pps_cons pe_str pe_str pps_nil)))) (by rfl) (by rfl) (fun z => by cases z) (by decide)))
      (pss_cons (ps_for PassesOwn.never rfl (pi_range1 (by rfl) B.range (pa_cons (pe_callB call_len_str (by rfl) B.len PySem.boot_len (pa_cons (pv 0) pa_nil)) pa_nil)) (pg_name (i := 2) scWrong.nd rfl (Or.inl rfl))
        (pss_one (ps_if (pt_not (pt_val (pe_call GF hr2 rfl mF FF.kp bF .nil pass0 (pa_cons (pv 1) (pa_cons (pe_ix ix_str (pv 0) (pv 2) (fun _ _ => rfl)) pa_nil))))) (pss_one (ps_ret (pv 2))) pss_nil)))
      (pss_one (ps_ret (pe_ifExp (PW.pt (pw_and (pt_cmpR op_eq (pe_dget hu (pv 1) pe_str (fun _ _ => rfl)) pe_int (nomark _)) (pw_and1 (pt_cmpR (show OpR _ (compareOp .In) (rIn K false) from op_in_seq) (pe_dget hu (pv 1) pe_str (fun _ _ => rfl)) (pe_tup (pa_cons pe_str (pa_cons pe_str (pa_cons pe_str pa_nil)))) (by rfl)))))
        (pe_un un_neg pe_int) (pe_callB call_len_str (by rfl) B.len PySem.boot_len (pa_cons (pv 0) pa_nil)))))), ?_⟩
    intro h hh
    have sz : (S z).length ≤ sizeLine := by rw [S_length]; exact small (by omega)
    have e1 : (upd (upd H h (.dK [])) h (.dK (hereK (mdS .part) 0 0 (.str "")))) h = some (.dK (hereK (mdS .part) 0 0 (.str ""))) := upd_same
    refine ⟨upd_same, hereK (mdS .part) 0 0 (.str ""), rfl, by show 4 ≤ 15; decide, ?_⟩
    have s1 : Same H (upd (upd H h (.dK [])) h (.dK (hereK (mdS .part) 0 0 (.str "")))) := fun b o e => by
      have nb := ne_of_none e hh
      rw [upd_ne nb, upd_ne nb]; exact e
    refine ⟨_, rfl, _, rfl, sz, _, rfl, by omega, by rw [S_length]; omega, ?_⟩
    rw [S_length]
    refine for_it (walk_range (lo := 0) (n := ((z.length : Nat) : Int).toNat)) (fun i σ H' => ∃ y st, σ = [some (.str (S z)), some (.ref h), y] ∧ Same H H' ∧ HereAt H' h st ∧ runA st (z.drop i) i = runA ⟨.part, 0, 0⟩ z 0)
      ⟨none, ⟨.part, 0, 0⟩, rfl, s1, ⟨_, e1, trivial⟩, rfl⟩ (fun _ _ _ _ _ => trivial) ?_ ?_
    · rintro i x σ H1 H2 hi ⟨y, st, rfl, sm, hA, er⟩ ⟨rfl, rfl⟩
      have hi' : i < z.length := by omega
      obtain ⟨c, r, hd⟩ := drop_lt hi'
      rw [hd] at er
      refine ⟨_, rfl, _, rfl, _, rfl, S z, _, c, rfl, rfl, sz, ?_, ?_⟩
      · rw [show (0 : Int) + (i : Int) = ((i : Nat) : Int) by omega]
        refine atI_nat ?_
        rw [S_cps, ← List.head?_drop, hd]; rfl
      refine ⟨h, st, c, rfl, hA, ?_⟩
      cases ef : fitsA st c with
      | none =>
        intro H3 b3
        have ev : wrongA z = (i : Int) := by
          unfold wrongA
          rw [← er]
          simp only [runA, ef]
          rfl
        refine ⟨_, rfl, iteT ⟨_, rfl, ?_⟩⟩
        have := q H3 (fun b o e => b3 b o (sm b o e) (ne_of_none e hh))
        rw [ev] at this
        show Q (V.int (0 + (i : Int))) H3
        rw [show (0 : Int) + (i : Int) = (i : Int) by omega]
        exact this
      | some s' =>
        intro H3 b3 hA3
        refine ⟨_, rfl, iteF ?_⟩
        refine ⟨_, s', rfl, fun b o e => b3 b o (sm b o e) (ne_of_none e hh), hA3, ?_⟩
        rw [drop_more hd, ← er]
        simp only [runA, ef]
    · rintro σ H1 ⟨y, ⟨m, o, n⟩, rfl, sm, ⟨r, eA, ro⟩, er⟩
      have eA' : H1 h = some (.dK (hereK (mdS m) o n r)) := eA
      rw [show ((z.length : Nat) : Int).toNat = z.length by omega, List.drop_length] at er
      have ev : wrongA z = if accept ⟨m, o, n⟩ then -1 else (z.length : Int) := by
        unfold wrongA
        rw [← er]
        rfl
      have fin : ∀ H', Same H H' → Q (.int (if accept ⟨m, o, n⟩ then -1 else (z.length : Int))) H' := fun H' s' => by
        have := q H' s'
        rw [ev] at this
        exact this
      refine ⟨_, rfl, h, _, rfl, g_open eA', rfl, _, rfl, ?_⟩
      have enl : ∀ H', Same H H' → Q (.int (z.length : Int)) H' → Q (.int ((S z).length : Int)) H' := fun H' _ t => by rw [S_length]; exact t
      by_cases ho : o = 0
      · subst ho
        refine ifT (by decide) ⟨_, rfl, h, _, rfl, g_mode eA', by show 3 ≤ sizeLine; decide, fun t ht => ?_⟩
        refine ⟨t, _, rfl, .inr (SqT.of upd_same), rfl, rfl, _, rfl, ?_⟩
        show if inV (V.str (mdS m)) [V.str (Str.ofString "end"), V.str (Str.ofString "minus"), V.str (Str.ofString "digits")] = true then _ else _
        rw [acc_in]
        have ea := acc_eq m n
        have s2 : Same H (upd H1 t (.tup [.str (Str.ofString "end"), .str (Str.ofString "minus"), .str (Str.ofString "digits")])) := sm.trans (same_new ht _)
        have f2 := fin _ s2
        rw [ea] at f2
        cases hb : accB m with
        | true => rw [hb] at f2; exact iteT ⟨_, rfl, f2⟩
        | false => rw [hb] at f2; exact iteF ⟨_, rfl, _, rfl, sz, by rw [S_length]; exact f2⟩
      · have ea : accept ⟨m, o, n⟩ = false := by simp [accept, ho]
        have f2 := fin H1 sm
        rw [ea] at f2
        refine ifF (decide_eq_false fun e => ho (V.int.inj e)) (iteF ?_)
        exact ⟨_, rfl, _, rfl, sz, by rw [S_length]; exact f2⟩
end
end DS
set_option Elab.async false
set_option linter.all false
set_option maxRecDepth 100000
set_option maxHeartbeats 4000000
namespace DS
open PySem L2 PySem.NumText
abbrev sPen : Stmt := top 23
abbrev sDraw : Stmt := top 24
abbrev sPick : Stmt := top 25
/-! ### the pen -/
def penK (c : Addr) (a r : Int) : List (Key × V) := [(Sum.inr "cells", .ref c), (Sum.inr "at", .int a), (Sum.inr "rest", .int r)]
structure PenAt (H : Hp) (d c : Addr) (ns : List Int) (a : Nat) (r : Int) : Prop where
  dict : H d = some (.dK (penK c a r))
  cells : H c = some (.lst (ns.map V.int))
  len : ns.length ≤ 63
theorem pen_ne {H : Hp} {d c : Addr} {ns : List Int} {a : Nat} {r : Int} (p : PenAt H d c ns a r) : c ≠ d := fun e => by
  have := p.dict; rw [← e, p.cells] at this; cases this
theorem get_cells {H : Hp} {d c : Addr} {a r : Int} (h : H d = some (.dK (penK c a r))) : DGet H d (.str "cells") (some (.ref c)) := DGet.k (k := Sum.inr "cells") h
theorem get_at {H : Hp} {d c : Addr} {a r : Int} (h : H d = some (.dK (penK c a r))) : DGet H d (.str "at") (some (.int a)) := DGet.k (k := Sum.inr "at") h
theorem get_rest {H : Hp} {d c : Addr} {a r : Int} (h : H d = some (.dK (penK c a r))) : DGet H d (.str "rest") (some (.int r)) := DGet.k (k := Sum.inr "rest") h
theorem put_at {H : Hp} {d c : Addr} {a r a' : Int} (h : H d = some (.dK (penK c a r))) : DPut H d (.str "at") (.int a') (upd H d (.dK (penK c a' r))) := DPut.k (k := Sum.inr "at") h (small' (by show 3 < _; decide))
theorem put_rest {H : Hp} {d c : Addr} {a r r' : Int} (h : H d = some (.dK (penK c a r))) : DPut H d (.str "rest") (.int r') (upd H d (.dK (penK c a r'))) := DPut.k (k := Sum.inr "rest") h (small' (by show 3 < _; decide))
theorem pen_upd {H : Hp} {d c : Addr} {ns : List Int} {a a' : Nat} {r r' : Int} (p : PenAt H d c ns a r) : PenAt (upd H d (.dK (penK c a' r'))) d c ns a' r' :=
  ⟨upd_same, by rw [upd_ne (pen_ne p)]; exact p.cells, p.len⟩
theorem dp_ints {K : PySem.W.Frag} {H : Hp} : ∀ ns : List Int, DpAll K H (ns.map V.int) (ns.map PyData.int)
  | [] => .nil
  | n :: ns => .cons (.int n) (dp_ints ns)
theorem lay_ints : ∀ ns : List Int, PyData.canLayAll0 (ns.map PyData.int) = true ∧ PyData.depthAll (ns.map PyData.int) = 0
  | [] => ⟨rfl, rfl⟩
  | n :: ns => by have := lay_ints ns; simp [PyData.canLayAll0, PyData.canLay0, PyData.depthAll, PyData.depth, this.1, this.2]
theorem shaped_ints (ns : List Int) : SeqAt.shaped (.list (ns.map PyData.int)) = true := by
  have := lay_ints ns
  simp [SeqAt.shaped, PyData.canLay0, PyData.depth, this.1, this.2]
theorem fm0 {a b : Int} (h : 0 < b) : 0 ≤ a.fmod b := Int.fmod_nonneg_of_pos a h
theorem fm1 {a b : Int} (h : 0 < b) : a.fmod b < b := Int.fmod_lt_of_pos a h
theorem fmB {a b : Int} (h : 0 < b) (h2 : b < 2 ^ 64) : -(2 ^ 64) < a.fmod b ∧ a.fmod b < 2 ^ 64 := by
  have h3 := fm0 (a := a) h
  have h4 := fm1 (a := a) h
  omega
theorem nz {n : Int} (h : n ≠ 0) : n ≠ 0 := h
theorem boot_abs' : bootBuiltins "abs" = some (.builtin "abs") := by decide +kernel
section
variable {P : Program} {w : World} {K : PySem.W.Frag} {mg : Str → Option Value} {base : Heap}
theorem scDraw : FnScope ["_law_pen_here", "_law_many", "_law_digit", "_law_at", "_law_cell", "_law_mixed"] ["_law_pen_here", "_law_many"] (defScope sDraw) := ⟨rfl, rfl, rfl, by decide +kernel, rfl, by decide +kernel, by decide +kernel⟩
def spDraw : Sp := fun vs H Q _ => ∃ d c ns a r m, vs = [.ref d, .int m] ∧ PenAt H d c ns a r ∧ a ≤ 2 ^ 30 ∧ 0 < m ∧ m < 2 ^ 30 ∧
  ∀ i a' r' H', 0 ≤ i → i < m → a' ≤ a + 1 → Sb d H H' → PenAt H' d c ns a' r' → Q (.int i) H'
theorem ok_draw {f : Addr} {fd : FuncData} {k : Nat} (B : Bn mg) (F : Fun K "_law_draw" "_law_draw" sDraw f fd) : FnOk P w K mg base CX0 (k + 1) f fd ["_law_pen_here", "_law_many"] spDraw := by
  refine F.ok scDraw (fun vs H Q E h => ?_) (fun cdv A outer s H vs Q E hr h => ?_)
  · obtain ⟨d, c, ns, a, r, m, rfl, _⟩ := h
    rfl
  · obtain ⟨d, c, ns, a, r, m, rfl, hp, ha, hm0, hm1, q⟩ := h
    have hu := hu_of hr
    have cm : m ≠ 0 ∧ m.natAbs < 1073741824 := by omega
    -- the mixture
    obtain ⟨mx, dmx, mixed⟩ : ∃ tl : TS, PSs (cxOf CX0 P w K mg base ["_law_pen_here", "_law_many", "_law_digit", "_law_at", "_law_cell", "_law_mixed"] "_law_draw" (defScope sDraw) f cdv A outer s H E).nox ((defBody sDraw).drop 6) tl ∧
        ∀ (H1 : Hp) (cell : Int), Sb d H H1 → PenAt H1 d c ns (a + 1) r →
          tl { nx := fun _ H' => Q .non H', rt := Q } [some (.ref d), some (.int m), none, some (.int (a : Nat)), some (.int cell), none] H1 := by
      refine ⟨_, pss_cons (ps_set (i := 5) scDraw.nd rfl (Or.inl rfl) (pe_op op_add (pe_op op_mul (pe_op op_modN (pe_callTy call_int1 (by rfl) B.int PyProof.Rows.boot_int (pa_cons (pv 4) pa_nil)) pe_int) pe_int) (pe_op op_mul (pe_op op_mul pe_int (pv 3)) (pv 3))))
        (pss_cons (ps_set (i := 5) scDraw.nd rfl (Or.inl rfl) (pe_op op_modN (pe_callTy call_int1 (by rfl) B.int PyProof.Rows.boot_int (pa_cons (pe_op op_add (pe_op op_add (pv 5) (pe_op op_mul pe_int (pv 3))) pe_int) pa_nil)) pe_int))
        (pss_cons (ps_set (i := 5) scDraw.nd rfl (Or.inl rfl) (pe_op op_modN (pe_callTy call_int1 (by rfl) B.int PyProof.Rows.boot_int (pa_cons (pe_op op_add (pe_op op_add (pe_op op_add (pe_op op_mul (pv 5) (pv 5)) (pe_op op_mul pe_int (pv 5))) (pe_op op_mul pe_int (pv 3))) pe_int) pa_nil)) pe_int))
        (pss_one (ps_ret (pe_op op_modN (pe_callTy call_int1 (by rfl) B.int PyProof.Rows.boot_int (pa_cons (pe_op op_fdivN (pe_op op_modN (pe_callTy call_int1 (by rfl) B.int PyProof.Rows.boot_int (pa_cons (pe_op op_mul (pv 5) (pe_op op_add (pv 5) pe_int)) pa_nil)) pe_int) pe_int) pa_nil)) (pv 1)))))), ?_⟩
      intro H1 cell b1 p1
      have c128 : (128 : Int) ≠ 0 ∧ (128 : Int).natAbs < 1073741824 := by decide
      refine ⟨_, rfl, .inl ⟨_, rfl, _, _, rfl, rfl, nz (n := 4294967231) (by decide), _, _, rfl, rfl, .inl (fmB (b := 4294967231) (by decide) (by decide)), _, rfl, _, _, rfl, rfl, .inl (by decide), _, rfl, _, _, rfl, rfl, .inl (by omega), _, _, rfl, rfl, ?_⟩⟩
      refine ⟨_, rfl, _, rfl, _, _, rfl, rfl, .inl (by decide), _, _, rfl, rfl, _, _, rfl, rfl, .inl ⟨_, rfl, _, _, rfl, rfl, nz (n := 4294967197) (by decide), ?_⟩⟩
      refine ⟨_, rfl, _, rfl, _, _, rfl, rfl, .inl (fmB (b := 4294967197) (by decide) (by decide)), _, rfl, _, _, rfl, rfl, .inl (by decide), _, _, rfl, rfl, _, rfl, _, _, rfl, rfl, .inl (by decide), _, _, rfl, rfl, _, _, rfl, rfl, .inl ⟨_, rfl, _, _, rfl, rfl, nz (n := 4294967189) (by decide), ?_⟩⟩
      refine ⟨_, rfl, _, rfl, _, _, rfl, rfl, _, _, rfl, rfl, .inl (fmB (b := 4294967189) (by decide) (by decide)), .inl ⟨_, rfl, _, _, rfl, rfl, nz (n := 4294967161) (by decide), _, _, rfl, rfl, c128, .inl ⟨_, rfl, _, rfl, _, _, rfl, rfl, cm.1, ?_⟩⟩⟩
      exact q _ _ _ H1 (fm0 hm0) (fm1 hm0) (Nat.le_refl _) b1 p1
    -- behind the choice of the cell
    obtain ⟨tl, dtl, tail⟩ : ∃ tl : TS, PSs (cxOf CX0 P w K mg base ["_law_pen_here", "_law_many", "_law_digit", "_law_at", "_law_cell", "_law_mixed"] "_law_draw" (defScope sDraw) f cdv A outer s H E).nox ((defBody sDraw).drop 5) tl ∧
        ∀ (H1 : Hp) (cell : Int), Sb d H H1 → PenAt H1 d c ns (a + 1) r →
          tl { nx := fun _ H' => Q .non H', rt := Q } [some (.ref d), some (.int m), none, some (.int (a : Nat)), some (.int cell), none] H1 := by
      refine ⟨_, pss_cons (ps_if (PW.pt (pw_and (pt_cmpR op_lt (pv 3) (pe_callB call_len (by rfl) B.len PySem.boot_len (pa_cons (pe_dget hu (pv 0) pe_str (fun _ _ => rfl)) pa_nil)) (nomark _))
            (pw_and1 (pt_cmpR op_ge (pe_callB call_abs (by rfl) B.abs boot_abs' (pa_cons (pv 4) pa_nil)) (pe_op op_pow pe_int pe_int) (nomark _)))))
          (pss_cons (ps_dput hu (pv 0) pe_str (pe_op op_fdivN (pe_op op_sub (pe_callB call_abs (by rfl) B.abs boot_abs' (pa_cons (pv 4) pa_nil)) (pe_op op_pow pe_int pe_int)) (pv 1)) rfl)
          (pss_one (ps_ret (pe_op op_modN (pe_op op_sub (pe_callB call_abs (by rfl) B.abs boot_abs' (pa_cons (pv 4) pa_nil)) (pe_op op_pow pe_int pe_int)) (pv 1))))) pss_nil) dmx, ?_⟩
      intro H1 cell b1 p1
      have hp18 : (0 : Int) ≤ 18 ∧ (18 : Int) ≤ 1000000 ∧ (10 : Int).natAbs < 2 ^ 64 := by decide
      refine ⟨_, rfl, _, rfl, d, _, rfl, get_cells p1.dict, _, _, rfl, .inl ⟨_, SqL.of p1.cells, rfl⟩, _, _, rfl, rfl, _, rfl, ?_⟩
      refine ite2 (fun _ => ?_) (fun _ => iteF (mixed H1 cell b1 p1))
      refine ⟨_, rfl, _, rfl, _, _, rfl, rfl, hp18, _, _, rfl, rfl, _, rfl, ?_⟩
      refine ite2 (fun _ => ?_) (fun _ => mixed H1 cell b1 p1)
      refine ⟨_, rfl, _, rfl, _, _, rfl, rfl, hp18, _, _, rfl, rfl, _, rfl, _, _, rfl, rfl, cm, _, rfl, d, _, rfl, put_rest p1.dict, ?_⟩
      refine ⟨_, rfl, _, rfl, _, _, rfl, rfl, hp18, _, _, rfl, rfl, _, rfl, _, _, rfl, rfl, cm.1, ?_⟩
      exact q _ (a + 1) _ _ (fm0 hm0) (fm1 hm0) (Nat.le_refl _) (b1.trans (sb_upd _)) (pen_upd p1)
    refine ⟨_, pss_cons (ps_if (pt_cmpR op_gt (pe_dget hu (pv 0) pe_str (fun _ _ => rfl)) pe_int (nomark _))
          (pss_cons (ps_set (i := 2) scDraw.nd rfl (Or.inl rfl) (pe_op op_modN (pe_callTy call_int1 (by rfl) B.int PyProof.Rows.boot_int (pa_cons (pe_dget hu (pv 0) pe_str (fun _ _ => rfl)) pa_nil)) (pv 1)))
          (pss_cons (ps_dput hu (pv 0) pe_str (pe_op op_fdivN (pe_dget hu (pv 0) pe_str (fun _ _ => rfl)) (pv 1)) rfl)
          (pss_one (ps_ret (pv 2))))) pss_nil)
      (pss_cons (ps_set (i := 3) scDraw.nd rfl (Or.inl rfl) (pe_dget hu (pv 0) pe_str (fun _ _ => rfl)))
      (pss_cons (ps_dput hu (pv 0) pe_str (pe_op op_add (pv 3) pe_int) rfl)
      (pss_cons (ps_set (i := 4) scDraw.nd rfl (Or.inl rfl) (pe_op op_add (pe_op op_mul pe_int (pv 3)) pe_int))
      (pss_cons (ps_if (pt_cmpR (op_neD hr.units) (pe_dget hu (pv 0) pe_str (fun _ _ => rfl)) (pe_lst pa_nil) (nomark _))
          (pss_one (ps_set (i := 4) scDraw.nd rfl (Or.inl rfl) (pe_ix ix_list (pe_dget hu (pv 0) pe_str (fun _ _ => rfl)) (pe_op op_modN (pe_callTy call_int1 (by rfl) B.int PyProof.Rows.boot_int (pa_cons (pv 3) pa_nil)) (pe_callB call_len (by rfl) B.len PySem.boot_len (pa_cons (pe_dget hu (pv 0) pe_str (fun _ _ => rfl)) pa_nil))) (fun _ _ => rfl)))) pss_nil) dtl)))), ?_⟩
    refine ⟨_, rfl, d, _, rfl, get_rest hp.dict, _, _, rfl, rfl, _, rfl, ?_⟩
    refine ite2 (fun _ => ?_) (fun _ => ?_)
    · refine ⟨_, rfl, d, _, rfl, get_rest hp.dict, .inl ⟨_, rfl, _, rfl, _, _, rfl, rfl, cm.1, ?_⟩⟩
      refine ⟨_, rfl, d, _, rfl, get_rest hp.dict, _, rfl, _, _, rfl, rfl, cm, _, rfl, d, _, rfl, put_rest hp.dict, ?_⟩
      exact ⟨_, rfl, q _ a _ _ (fm0 hm0) (fm1 hm0) (Nat.le_succ _) (sb_upd _) (pen_upd hp)⟩
    · refine ⟨_, rfl, d, _, rfl, get_at hp.dict, ?_⟩
      refine ⟨_, rfl, _, _, rfl, rfl, _, rfl, d, _, rfl, put_at hp.dict, ?_⟩
      have p1 : PenAt (upd H d (.dK (penK c (((a : Nat) : Int) + 1) r))) d c ns (a + 1) r := by
        have := pen_upd (a' := a + 1) (r' := r) hp
        rw [show ((a + 1 : Nat) : Int) = ((a : Nat) : Int) + 1 by omega] at this
        exact this
      have b1 : Sb d H (upd H d (.dK (penK c (((a : Nat) : Int) + 1) r))) := sb_upd _
      generalize upd H d (.dK (penK c (((a : Nat) : Int) + 1) r)) = H1 at p1 b1
      refine ⟨_, rfl, _, _, rfl, rfl, .inl (by decide), _, _, rfl, rfl, ?_⟩
      refine ⟨_, rfl, d, _, rfl, get_cells p1.dict, Nat.zero_le _, fun l hl => ?_⟩
      have nlc : c ≠ l := ne_of_none p1.cells hl
      have nld : d ≠ l := ne_of_none p1.dict hl
      have p2 : PenAt (upd H1 l (.lst [])) d c ns (a + 1) r := ⟨by rw [upd_ne nld]; exact p1.dict, by rw [upd_ne nlc]; exact p1.cells, p1.len⟩
      have b2 : Sb d H (upd H1 l (.lst [])) := b1.trans (Same.sb (same_new hl _))
      generalize hH2 : upd H1 l (.lst []) = H2 at p2 b2
      refine ⟨.list (ns.map .int), .list [], .lst (SqL.of p2.cells) (dp_ints ns), .lst (SqL.of (by rw [← hH2]; exact upd_same)) .nil, shaped_ints ns, rfl, _, rfl, ?_⟩
      refine ite2 (fun e => ?_) (fun _ => tail H2 _ b2 p2)
      have hne : 0 < ns.length := by
        cases ns with
        | nil => exact absurd e (by decide)
        | cons n ns => simp
      have hl0 : (0 : Int) < ((ns.map V.int).length : Nat) := by rw [List.length_map]; omega
      have i0 := fm0 (a := ((a : Nat) : Int)) hl0
      have i1 := fm1 (a := ((a : Nat) : Int)) hl0
      obtain ⟨j, hj⟩ : ∃ j : Nat, ((a : Nat) : Int).fmod (((ns.map V.int).length : Nat) : Int) = (j : Int) := ⟨_, (Int.toNat_of_nonneg i0).symm⟩
      have hjl : j < ns.length := by rw [hj, List.length_map] at i1; omega
      refine ⟨_, rfl, d, _, rfl, get_cells p2.dict, _, rfl, .inl ⟨_, rfl, _, rfl, d, _, rfl, get_cells p2.dict, _, _, rfl, .inl ⟨_, SqL.of p2.cells, rfl⟩, _, _, rfl, rfl, by omega, c, _, _, .int ns[j], rfl, rfl, SqL.of p2.cells, ?_, ?_⟩⟩
      · rw [hj]
        exact atI_nat (by rw [List.getElem?_map, List.getElem?_eq_getElem hjl] <;> rfl)
      · exact tail H2 _ b2 p2
end
end DS
set_option Elab.async false
set_option linter.all false
set_option maxRecDepth 100000
set_option maxHeartbeats 4000000
namespace DS
open PySem L2 PySem.NumText
variable {P : Program} {w : World} {K : PySem.W.Frag} {mg : Str → Option Value} {base : Heap}

theorem pen_same {H H' : Hp} {d c : Addr} {ns : List Int} {a : Nat} {r : Int} (p : PenAt H d c ns a r) (s : Same H H') : PenAt H' d c ns a r := ⟨s _ _ p.dict, s _ _ p.cells, p.len⟩
theorem pen_put {H : Hp} {d c D : Addr} {ns : List Int} {a : Nat} {r : Int} {o : HO} (p : PenAt H d c ns a r) (h1 : d ≠ D) (h2 : c ≠ D) : PenAt (upd H D o) d c ns a r := ⟨by rw [upd_ne h1]; exact p.dict, by rw [upd_ne h2]; exact p.cells, p.len⟩
theorem PenAt.noT {H : Hp} {d c : Addr} {ns : List Int} {a : Nat} {r : Int} (p : PenAt H d c ns a r) : ∀ xs, H d ≠ some (.tup xs) := fun xs e => by rw [p.dict] at e; cases e
theorem PenAt.noF {H : Hp} {d c : Addr} {ns : List Int} {a : Nat} {r : Int} (p : PenAt H d c ns a r) : ∀ o xs, H d ≠ some (.frz o (.tup xs)) := fun o xs e => by rw [p.dict] at e; cases e
theorem cut63 (xs : List V) (h : xs.length ≤ 63) : cutV xs none (some 63) = xs := by
  unfold cutV
  rw [HT.sIx_none, show HT.sIx xs.length xs.length (some 63) = min 63 xs.length from HT.sIx_nat xs.length xs.length 63, Nat.min_eq_right h]
  simp
theorem scPen : FnScope ["_law_script"] ["_law_script"] (defScope sPen) := ⟨rfl, rfl, rfl, by decide +kernel, rfl, by decide +kernel, by decide +kernel⟩
def spPen (K : PySem.W.Frag) : Sp := fun vs H Q _ => ∃ l ns, vs = [.ref l] ∧ SqL K H l (ns.map V.int) ∧ ns.length ≤ 63 ∧ ∀ d c H', Same H H' → PenAt H' d c ns 0 0 → Q (.ref d) H'
theorem ok_pen {f : Addr} {fd : FuncData} {k : Nat} (B : Bn mg) (F : Fun K "_law_pen" "_law_pen" sPen f fd) : FnOk P w K mg base CX0 (k + 1) f fd ["_law_script"] (spPen K) := by
  refine F.ok scPen (fun vs H Q E h => ?_) (fun cdv A outer s H vs Q E hr h => ?_)
  · obtain ⟨l, ns, rfl, _⟩ := h
    rfl
  · obtain ⟨l, ns, rfl, hl, h63, q⟩ := h
    refine ⟨_, pss_one (ps_ret (pe_disp (pps_cons pe_str (pe_callTy call_list_of (by rfl) B.list PyProof.Rows.boot_list (pa_cons (pe_slice sl_list (pv 0) po_none (po_some pe_int)) pa_nil)) (pps_cons pe_str pe_int (pps_cons pe_str pe_int pps_nil))) (by rfl) (by rfl) (fun z => by cases z) (by decide))), ?_⟩
    intro d hd
    have s1 : Same H (upd H d (.dK [])) := same_new hd _
    refine ⟨_, rfl, _, rfl, l, _, rfl, s1.seq hl, fun p hp => ?_⟩
    rw [cut63 _ (by simpa using h63)]
    have s2 := s1.trans (same_new hp (.lst (ns.map V.int)))
    refine ⟨p, _, rfl, .inl (SqL.of upd_same), fun c hc => ?_⟩
    have s3 := s2.trans (same_new hc (.lst (ns.map V.int)))
    have ndp : d ≠ p := ne_of_none upd_same hp
    have ndc : d ≠ c := ne_of_none (show (upd (upd H d (.dK [])) p (.lst (ns.map V.int))) d = some (.dK []) by rw [upd_ne ndp]; exact upd_same) hc
    refine ⟨by rw [upd_ne ndc, upd_ne ndp]; exact upd_same, penK c 0 0, rfl, by show 3 ≤ 15; decide, ?_⟩
    refine q d c _ (same_put s3 hd _) ⟨upd_same, by rw [upd_ne ndc.symm]; exact upd_same, h63⟩
theorem scPick : FnScope ["_law_pen_here", "_law_items"] ["_law_pen_here", "_law_items"] (defScope sPick) := ⟨rfl, rfl, rfl, by decide +kernel, rfl, by decide +kernel, by decide +kernel⟩
def spPick : Sp := fun vs H Q _ => ∃ d c ns a r it, vs = [.ref d, it] ∧ PenAt H d c ns a r ∧ a ≤ 2 ^ 30 ∧
  ((∃ z : Cs, it = .str (S z) ∧ z ≠ [] ∧ z.length ≤ 1000 ∧ ∀ ch ∈ z, ∀ a' r' H', a' ≤ a + 1 → Sb d H H' → PenAt H' d c ns a' r' → Q (.str (S [ch])) H') ∨
   (∃ l xs, it = .ref l ∧ H l = some (.lst xs) ∧ xs ≠ [] ∧ xs.length ≤ 1000 ∧ ∀ x ∈ xs, ∀ a' r' H', a' ≤ a + 1 → Sb d H H' → PenAt H' d c ns a' r' → Q x H'))
theorem ok_pick {f fD : Addr} {fd fdD : FuncData} {k : Nat} (B : Bn mg) (FD : Fun K "_law_draw" "_law_draw" sDraw fD fdD) (bD : Binds K fdD ["_law_pen_here", "_law_many"] []) (mD : mg "_law_draw" = some (.ref fD)) (F : Fun K "_law_pick" "_law_pick" sPick f fd) :
    FnOk P w K mg base CX0 (k + 2) f fd ["_law_pen_here", "_law_items"] spPick := by
  have GD : FnOk P w K mg base CX0 1 fD fdD ["_law_pen_here", "_law_many"] spDraw := ok_draw B FD
  refine F.ok scPick (fun vs H Q E h => ?_) (fun cdv A outer s H vs Q E hr h => ?_)
  · obtain ⟨d, c, ns, a, r, it, rfl, _⟩ := h
    rfl
  · obtain ⟨d, c, ns, a, r, it, rfl, hp, ha, h⟩ := h
    refine ⟨_, pss_one (ps_ret (pe_ix ix_seq (pv 1) (pe_call GD (hr.mono (by omega)) rfl mD FD.kp bD .nil pass0 (pa_cons (pv 0) (pa_cons (pe_callB call_len (by rfl) B.len PySem.boot_len (pa_cons (pv 1) pa_nil)) pa_nil))) (fun _ _ => rfl))), ?_⟩
    rcases h with ⟨z, rfl, hne, hlen, q⟩ | ⟨l, xs, rfl, hl, hne, hlen, q⟩
    · have hpos : 0 < z.length := List.length_pos_iff.mpr hne
      refine ⟨_, rfl, _, rfl, _, rfl, _, _, rfl, ⟨by rw [S_length]; exact small (by omega), rfl⟩, d, c, ns, a, r, _, rfl, hp, ha, by rw [S_length]; omega, by rw [S_length]; omega, fun i a' r' H' i0 i1 ha' b' p' => ?_⟩
      rw [S_length] at i1
      obtain ⟨j, rfl⟩ := Int.eq_ofNat_of_zero_le i0
      have hj : j < z.length := by omega
      refine .inr (.inr ⟨S z, _, z[j], rfl, rfl, by rw [S_length]; exact small (by omega), ?_, ?_⟩)
      · exact atI_nat (by rw [S_cps]; exact List.getElem?_eq_getElem hj)
      · exact q z[j] (List.getElem_mem hj) a' r' H' ha' b' p'
    · have hpos : 0 < xs.length := List.length_pos_iff.mpr hne
      refine ⟨_, rfl, _, rfl, _, rfl, _, _, rfl, .inl ⟨_, SqL.of hl, rfl⟩, d, c, ns, a, r, _, rfl, hp, ha, by omega, by omega, fun i a' r' H' i0 i1 ha' b' p' => ?_⟩
      obtain ⟨j, rfl⟩ := Int.eq_ofNat_of_zero_le i0
      have hj : j < xs.length := by omega
      have nld : l ≠ d := ne_of hl hp.dict (by intro e; cases e)
      refine .inl ⟨l, xs, _, xs[j], rfl, rfl, SqL.of (b' l _ hl nld), atI_nat (List.getElem?_eq_getElem hj), ?_⟩
      exact q xs[j] (List.getElem_mem hj) a' r' H' ha' b' p'
end DS
set_option Elab.async false
set_option linter.all false
set_option maxRecDepth 100000
set_option maxHeartbeats 4000000
namespace DS
open PySem L2 PySem.NumText
variable {P : Program} {w : World} {K : PySem.W.Frag} {mg : Str → Option Value} {base : Heap}

abbrev sWritten : Stmt := top 16
def sub (y : Nat) (z : Cs) (l : Cs) : Cs := (l.map fun c => if c = y then z else [c]).flatten
theorem replL_one (y : Nat) (z : Cs) : ∀ l : Cs, PySem.StrLaws.replL [y] z l = sub y z l
  | [] => by rw [PySem.StrLaws.replL_nil]; rfl
  | c :: l => by
    by_cases h : c = y
    · subst h
      rw [PySem.StrLaws.replL_hit (by simp) (by simp)]
      simp [sub, replL_one c z l]
    · rw [PySem.StrLaws.replL_miss (by simpa using h), replL_one y z l]
      simp [sub, h]
theorem repl_S (x : Cs) (y : Nat) (z : Cs) : Txt.replace (S x) (S [y]) (S z) = S (sub y z x) := by
  rw [← S_eta (Txt.replace (S x) (S [y]) (S z)), PySem.StrLaws.replace_list (by rw [S_length]; simp)]
  simp only [S_cps]
  rw [replL_one]
theorem sub_sub : ∀ l : Cs, sub 34 [92, 34] (sub 92 [92, 92] l) = escT l
  | [] => rfl
  | c :: l => by
    have ih := sub_sub l
    have e : ∀ a b : Cs, sub 34 [92, 34] (a ++ b) = sub 34 [92, 34] a ++ sub 34 [92, 34] b := fun a b => by simp [sub]
    have h1 : sub 92 [92, 92] (c :: l) = (if c = 92 then [92, 92] else [c]) ++ sub 92 [92, 92] l := rfl
    rw [h1, e, ih, escT_cons]
    congr 1
    unfold esc1
    by_cases h92 : c = 92
    · subst h92; rfl
    · by_cases h34 : c = 34
      · subst h34; rfl
      · simp [sub, h92, h34]
theorem sub_len (y : Nat) (z : Cs) (hz : z.length ≤ 2) : ∀ l : Cs, (sub y z l).length ≤ 2 * l.length
  | [] => by simp [sub]
  | c :: l => by
    have := sub_len y z hz l
    have h1 : sub y z (c :: l) = (if c = y then z else [c]) ++ sub y z l := rfl
    rw [h1, List.length_append, List.length_cons]
    split <;> simp <;> omega
theorem ofs_bb : Str.ofString "\\\\" = S [92, 92] := by decide +kernel
theorem ofs_bq : Str.ofString "\\\"" = S [92, 34] := by decide +kernel
/-- a def that begins with a token out -/
theorem okT {x qual : Str} {st : Stmt} {f : Addr} {fd : FuncData} {N ps : List Str} {k : Nat} {sp : Sp} (F : Fun K x qual st f fd) (Sc : FnScope N ps (defScope st)) (hnc : ∀ y ∈ (defScope st).names, y.2 ≠ .cell) (hps : 1 ≤ ps.length)
    (len : ∀ vs H Q E, sp vs H Q E → vs.length = ps.length)
    (hbody : ∀ (cdv : Value) (A : Around) (outer : List Env) (s : Shared) (H : Hp) (vs : List V) (Q : VK) (E : XK), Room k (A.deeper (PyProof.Rows.envOfC qual (defScope st) s.heap.objs.size f cdv)) → sp vs H Q E →
      ∃ t, PSsT (cxOf CX0 P w K mg base N qual (defScope st) f cdv A outer s H E) (defBody st) t ∧ t { nx := fun _ H' => Q .non H', rt := Q } (L2.start N vs) H) : FnOk P w K mg base CX0 (k + 1) f fd ps sp := by
  obtain ⟨oc, od, kV, doc, pm, an, cdv, ct, osl, rfl, lk, hcd⟩ := F.ex
  exact fn_ofT lk hcd Sc hnc hps len fun A outer s H vs Q E hr hsp => hbody cdv A outer s H vs Q E hr hsp
theorem scWritten : FnScope ["_law_tree", "_law_part"] ["_law_tree"] (defScope sWritten) := ⟨rfl, rfl, rfl, by decide +kernel, rfl, by decide +kernel, by decide +kernel⟩
theorem written_step {f : Addr} {fd : FuncData} {n : Nat} (B : Bn mg) (F : Fun K "_law_written" "_law_written" sWritten f fd) (mT : mg "_law_written" = some (.ref f)) (bT : Binds K fd ["_law_tree"] [])
    (G : FnOk P w K mg base CX0 (n + 1) f fd ["_law_tree"] (spWT K n)) : FnOk P w K mg base CX0 (n + 2) f fd ["_law_tree"] (spWT K (n + 1)) := by
  refine okT F scWritten (by decide +kernel) (by decide) (fun vs H Q E h => ?_) (fun cdv A outer s H vs Q E hr h => ?_)
  · obtain ⟨v, t, rfl, _⟩ := h
    rfl
  · obtain ⟨v, t, rfl, hd, hg, hh, hl, q⟩ := h
    refine ⟨_, psst_cons (PST.of (ps_if (pt_val (pe_callB call_isi (by rfl) B.isi boot_isi (pa_cons (pv 0) (pa_cons (pe_bltn (v := .ty "tuple") (by rfl) B.tup PyProof.Rows.boot_tuple rfl) pa_nil))))
          (pss_one (ps_ret (pe_op op_add_str (pe_op op_add_str pe_str (pe_join pe_str
            (pe_lc (own := [("_law_part", 1)]) (g := gName 1) (tt := tYes) rfl scWritten.nd (pi_tup (pv 0)) (blkOk_by (N := ["_law_tree", "_law_part"]) (sc := defScope sWritten) (by decide +kernel))
              (fun _ _ _ _ _ => pg_name (i := 1) scWritten.nd rfl (Or.inl rfl)) (fun _ _ _ _ _ => pts_nil)
              (fun _ _ _ _ _ => pe_call G hr rfl mT F.kp bT .nil pass0 (pa_cons (pv 1) pa_nil))))) pe_str))) pss_nil))
      (psst_cons (CwR.pst_if (pt_val (pe_callB call_isi (by rfl) B.isi boot_isi (pa_cons (pv 0) (pa_cons (pe_bltn (v := .ty "str") (by rfl) B.str PyProof.Rows.boot_str rfl) pa_nil))))
          (CwR.psst_one (CwR.pst_ret (CwR.pet_op op_add_str (CwR.pet_op op_add_str (CwR.PET.of pe_str) (CwR.pet_replT (CwR.pet_replC (pv 0) (by decide +kernel)) (by decide +kernel))) (CwR.PET.of pe_str)))) CwR.psst_nil)
      (PSsT.of (pss_cons (ps_if (PW.pt (pw_or (pt_val (pe_callB call_isi (by rfl) B.isi boot_isi (pa_cons (pv 0) (pa_cons (pe_bltn (v := .ty "bool") (by rfl) B.bl PyProof.Rows.boot_bool rfl) pa_nil)))) (pw_or1 (pt_cmp (pc_isN (pv 0))))))
          (pss_one (ps_ret (pe_ifExp (pt_cmp (pc_isN (pv 0))) pe_str (pe_ifExp (pt_truth (pv 0) (by intro _; rfl)) pe_str pe_str)))) pss_nil)
      (pss_one (ps_ret (pe_callTy call_str_int (by rfl) B.str PyProof.Rows.boot_str (pa_cons (pv 0) pa_nil))))))), ?_⟩
    have hty := dp_ty hg hd
    cases t with
    | tuple ds =>
      cases hd with
      | @tup a xs _ hs ha =>
      refine ⟨_, rfl, _, _, _, _, true, rfl, .ty _, hty, kit_ty k_tuple_tuple, _, rfl, iteT ?_⟩
      refine ⟨⟨_, rfl⟩, _, rfl, a, rfl, ⟨_, hs⟩, fun D hD => ?_⟩
      have hL := dp_len ha
      simp only [txt, List.length_cons, List.length_append] at hl
      simp only [hgt] at hh
      have hga : goodAll ds := by simpa [good] using hg
      have hge := txtAll_ge ds
      refine lc_it (walk_tup (a := a) (xs := xs)) (fun i H' => Same H H' ∧ H' D = some (.lst (((ds.take i).map txt).map fun c => V.str (S c)))) ⟨same_new hD _, by rw [upd_same]; rfl⟩ (fun i H' _ p => sqT_same p.1 hs) ?_ ?_
      · rintro i x H1 H2 hi ⟨sm, hd⟩ ⟨rfl, hx⟩
        obtain ⟨d, ed, dd⟩ := dp_get ha hx
        have et : ((ds.take (i + 1)).map txt).map (fun c => V.str (S c)) = ((ds.take i).map txt).map (fun c => V.str (S c)) ++ [V.str (S (txt d))] := by
          rw [List.take_add_one, ed]; simp
        have hz := txtAll_len ed
        refine ⟨rfl, ?_⟩
        refine ⟨_, rfl, x, d, rfl, dp_same sm d x dd, good_get hga ed, by have := hgt_get ed; omega, by omega, fun H3 sm3 => ?_⟩
        refine ⟨_, sm3 _ _ hd, small' (by simp; omega), same_put (sm.trans sm3) hD _, ?_⟩
        rw [upd_same, et]
      · rintro H1 ⟨sm, hd⟩
        rw [hL, List.take_length] at hd
        have em : (ds.map txt).map (fun c => V.str (S c)) = ((ds.map txt).map S).map V.str := by simp
        rw [em] at hd
        refine ⟨_, D, (ds.map txt).map S, rfl, rfl, .inl (SqL.of hd), ?_, ?_⟩
        · rw [sum_lens, ofs_sp, S_length]
          simp only [List.length_map, List.length_cons, List.length_nil]
          omega
        rw [ofs_sp, glue_cps, glu_all, ofs_op, ofs_cl]
        refine ⟨_, _, rfl, rfl, ?_, _, _, rfl, rfl, ?_, ?_⟩
        · rw [S_length, S_length]; exact small (by show 1 + _ ≤ _; omega)
        · rw [S_append, S_length, S_length]; exact small (by show (txtAll ds).length + 1 + 1 ≤ _; omega)
        · rw [S_append, S_append]
          exact q H1 sm
    | str z =>
      cases hd
      refine ⟨_, rfl, _, _, _, _, false, rfl, .ty _, hty, kit_ty k_str_tuple, _, rfl, iteF ?_⟩
      refine ⟨_, rfl, _, _, _, _, true, rfl, .ty _, hty, kit_ty k_str_str, _, rfl, iteT ?_⟩
      simp only [txt, List.length_cons, List.length_append] at hl
      have h1 := escT_ge z.cps.toList
      have h2 := sub_len 92 [92, 92] (by simp) z.cps.toList
      have h3 := escT_len z.cps.toList
      obtain ⟨l, rfl⟩ : ∃ l, z = S l := ⟨z.cps.toList, (S_eta z).symm⟩
      rw [S_cps] at h1 h2 h3 hl
      refine ⟨_, rfl, S l, rfl, ?_, ?_⟩
      · rw [ofs_bb, S_length, S_length]; simp only [List.length_cons, List.length_nil]; omega
      rw [ofs_b, ofs_bb, repl_S]
      refine ⟨_, rfl, ?_, ?_⟩
      · rw [ofs_bq, S_length, S_length]; simp only [List.length_cons, List.length_nil]; omega
      rw [ofs_q, ofs_bq, repl_S, sub_sub]
      refine ⟨_, _, rfl, rfl, ?_, _, _, rfl, rfl, ?_, ?_⟩
      · rw [S_length, S_length]; exact small (by show 1 + _ ≤ _; omega)
      · rw [S_append, S_length, S_length]; exact small (by show (escT l).length + 1 + 1 ≤ _; omega)
      · rw [S_append, S_append]
        have := q H (Same.refl H)
        rw [show txt (PyData.str (S l)) = 34 :: (escT l ++ [34]) by simp only [txt, S_cps]] at this
        exact this
    | none =>
      cases hd
      refine ⟨_, rfl, _, _, _, _, false, rfl, .ty _, hty, kit_ty k_NoneType_tuple, _, rfl, iteF ?_⟩
      refine ⟨_, rfl, _, _, _, _, false, rfl, .ty _, hty, kit_ty k_NoneType_str, _, rfl, iteF ?_⟩
      refine ⟨_, rfl, _, _, _, _, false, rfl, .ty _, hty, kit_ty (show kitB "NoneType" "bool" = some false by decide +kernel), _, rfl, iteF ?_⟩
      refine ⟨_, rfl, _, rfl, iteT ?_⟩
      refine ⟨_, rfl, _, rfl, iteT ?_⟩
      have := q H (Same.refl H)
      rw [show txt PyData.none = [45] from rfl, ← ofs_mi] at this
      exact this
    | bool b =>
      cases hd
      refine ⟨_, rfl, _, _, _, _, false, rfl, .ty _, hty, kit_ty k_bool_tuple, _, rfl, iteF ?_⟩
      refine ⟨_, rfl, _, _, _, _, false, rfl, .ty _, hty, kit_ty k_bool_str, _, rfl, iteF ?_⟩
      refine ⟨_, rfl, _, _, _, _, true, rfl, .ty _, hty, kit_ty k_bool_bool, _, rfl, iteT ?_⟩
      refine iteT ?_
      refine ⟨_, rfl, _, rfl, iteF ?_⟩
      refine ⟨_, rfl, b, rfl, ?_⟩
      have := q H (Same.refl H)
      cases b with
      | true =>
        refine iteT ?_
        rw [show txt (PyData.bool true) = [121, 101, 115] from rfl, ← ofs_yes] at this
        exact this
      | false =>
        refine iteF ?_
        rw [show txt (PyData.bool false) = [110, 111] from rfl, ← ofs_no] at this
        exact this
    | int i =>
      cases hd
      refine ⟨_, rfl, _, _, _, _, false, rfl, .ty _, hty, kit_ty k_int_tuple, _, rfl, iteF ?_⟩
      refine ⟨_, rfl, _, _, _, _, false, rfl, .ty _, hty, kit_ty k_int_str, _, rfl, iteF ?_⟩
      refine ⟨_, rfl, _, _, _, _, false, rfl, .ty _, hty, kit_ty k_int_bool, _, rfl, iteF ?_⟩
      refine ⟨_, rfl, _, rfl, iteF ?_⟩
      refine ⟨_, rfl, i, rfl, good_log (by simpa [good] using hg), ?_⟩
      have := q H (Same.refl H)
      rw [show txt (PyData.int i) = numT i from rfl, ← toString_int] at this
      exact this
    | list ds => simp [good] at hg
    | dict ds => simp [good] at hg
theorem ok_written {f : Addr} {fd : FuncData} (B : Bn mg) (F : Fun K "_law_written" "_law_written" sWritten f fd) (mT : mg "_law_written" = some (.ref f)) (bT : Binds K fd ["_law_tree"] []) : ∀ n : Nat, FnOk P w K mg base CX0 (n + 1) f fd ["_law_tree"] (spWT K n)
  | 0 => by
    have no : ∀ vs H Q E, ¬ spWT K 0 vs H Q E := fun vs H Q E h => by
      obtain ⟨v, t, _, _, _, h1, _⟩ := h
      have := hgt_pos t
      omega
    exact ⟨fun vs H Q E h => absurd h (no vs H Q E), fun A outer s H args us vs Q E _ _ _ _ h => absurd h (no vs H Q E)⟩
  | n + 1 => written_step B F mT bT (ok_written B F mT bT n)
end DS
set_option Elab.async false
set_option linter.all false
set_option maxRecDepth 100000
set_option maxHeartbeats 4000000
namespace DS
open PySem L2 PySem.NumText
variable {P : Program} {w : World} {K : PySem.W.Frag} {mg : Str → Option Value} {base : Heap}

theorem scWS : FnScope ["text", "signs", "sign"] ["text"] (defScope sWS) := ⟨rfl, rfl, rfl, by decide +kernel, rfl, by decide +kernel, by decide +kernel⟩
/-- a new thing is laid, all that stood stands -/
def spWS : Sp := fun vs H Q _ => ∃ l : Cs, vs = [.str (S l)] ∧ l.length ≤ 1000000 ∧ ∀ H', Same H H' → Q (.str (S (34 :: (escT l ++ [34])))) H'
theorem ok_ws {f : Addr} {fd : FuncData} {k : Nat} (F : Fun K "write_string" "write_string" sWS f fd) : FnOk P w K mg base CX0 (k + 1) f fd ["text"] spWS := by
  refine F.ok scWS (fun vs H Q E h => ?_) (fun cdv A outer s H vs Q E hr h => ?_)
  · obtain ⟨l, rfl, _⟩ := h
    rfl
  · obtain ⟨l, rfl, hl, q⟩ := h
    refine ⟨_, pss_cons (ps_setLc (i := 1) (own := [("sign", 2)]) (g := gName 2) (tt := tYes) rfl scWS.nd rfl rfl (sw_true rfl rfl rfl (by decide +kernel)) (pi_str (pv 0)) (blkOk_by (N := ["text", "signs", "sign"]) (sc := defScope sWS) (by decide +kernel))
        (fun _ _ _ _ _ => pg_name (i := 2) scWS.nd rfl (Or.inl rfl)) (fun _ _ _ _ _ => pts_nil)
        (fun _ _ _ _ _ => pe_ifExp (pt_cmpR (show OpR _ (compareOp .In) (rIn K false) from op_in_seq) (pv 2) (pe_tup (pa_cons pe_str (pa_cons pe_str pa_nil))) (by rfl)) (pe_op op_add_str pe_str (pv 2)) (pv 2)))
      (pss_one (ps_ret (pe_op op_add_str (pe_op op_add_str pe_str (pe_join pe_str (pv 1))) pe_str))), ?_⟩
    refine ⟨_, rfl, _, rfl, fun D hD => ?_⟩
    refine lc_it (walk_str (z := S l)) (fun i H' => Same H H' ∧ H' D = some (.lst (((l.take i).map esc1).map fun c => V.str (S c)))) ⟨same_new hD _, by rw [upd_same]; rfl⟩ (fun _ _ _ _ => trivial) ?_ ?_
    · rintro i x H1 H2 hi ⟨sm, hd⟩ ⟨rfl, c, hc, rfl⟩
      have hi' : i < l.length := by simpa [S] using hi
      have ec : l[i]? = some c := by simpa [S] using hc
      have et : ((l.take (i + 1)).map esc1).map (fun c => V.str (S c)) = ((l.take i).map esc1).map (fun c => V.str (S c)) ++ [V.str (S (esc1 c))] := by
        rw [List.take_add_one, ec]; simp
      have hlen : (((l.take i).map esc1).map (fun c => V.str (S c))).length < sizeLine := small' (by simp; omega)
      refine ⟨rfl, ?_⟩
      refine ⟨_, rfl, by show 2 ≤ sizeLine; decide, fun p hp => ?_⟩
      refine ⟨p, _, rfl, .inr (SqT.of upd_same), rfl, rfl, _, rfl, ?_⟩
      have npD : D ≠ p := ne_of_none hd hp
      have e1 : inV (V.str ⟨#[c]⟩) [V.str (Str.ofString "\""), V.str (Str.ofString "\\")] = decide (c = 34 ∨ c = 92) := by
        simp only [inV, List.any, eqV, ofs_q, ofs_b, one_S, Bool.or_false]
        by_cases h1 : c = 34
        · subst h1; decide
        · by_cases h2 : c = 92
          · subst h2; decide
          · have n1 : (S [34] == S [c]) = false := by rw [beq_eq_false_iff_ne]; intro z; have := S_inj z; simp at this; omega
            have n2 : (S [92] == S [c]) = false := by rw [beq_eq_false_iff_ne]; intro z; have := S_inj z; simp at this; omega
            rw [n1, n2, decide_eq_false (by omega)]; rfl
      show if inV (V.str ⟨#[c]⟩) [V.str (Str.ofString "\""), V.str (Str.ofString "\\")] = true then _ else _
      rw [e1]
      by_cases hq : c = 34 ∨ c = 92
      · rw [decide_eq_true hq]
        refine iteT ⟨_, rfl, _, _, rfl, rfl, (by rw [ofs_b, one_S, S_length, S_length]; exact small (by show 1 + 1 ≤ _; decide)), ?_⟩
        refine ⟨_, by rw [upd_ne npD]; exact hd, hlen, ?_, ?_⟩
        · exact same_put (same_put sm (Same.free sm hp) _) hD _
        · rw [upd_same, et]
          have : Str.ofString "\\" ++ (⟨#[c]⟩ : Str) = S (esc1 c) := by rw [ofs_b, one_S, S_append]; unfold esc1; rw [if_pos hq]; rfl
          rw [this]
      · rw [decide_eq_false hq]
        refine iteF ⟨_, rfl, ?_⟩
        refine ⟨_, by rw [upd_ne npD]; exact hd, hlen, ?_, ?_⟩
        · exact same_put (same_put sm (Same.free sm hp) _) hD _
        · rw [upd_same, et]
          have : (⟨#[c]⟩ : Str) = S (esc1 c) := by rw [one_S]; unfold esc1; rw [if_neg hq]
          rw [this]
    · rintro H1 ⟨sm, hd⟩
      have el : (S l).cps.size = l.length := by simp [S]
      rw [el, List.take_length] at hd
      have em : (l.map esc1).map (fun c => V.str (S c)) = ((l.map esc1).map S).map V.str := by simp
      rw [em] at hd
      have le := escT_len l
      refine ⟨⟨_, rfl⟩, _, rfl, _, D, (l.map esc1).map S, rfl, rfl, .inl (SqL.of hd), ?_, ?_⟩
      · rw [sum_lens, ofs_e]
        show (escT l).length + _ * 0 ≤ _
        omega
      rw [ofs_e, join_empty, ofs_q]
      refine ⟨_, _, rfl, rfl, ?_, _, _, rfl, rfl, ?_, ?_⟩
      · rw [S_length, S_length]; exact small (by show 1 + (escT l).length ≤ _; omega)
      · rw [S_append, S_length, S_length]; exact small (by show (escT l).length + 1 + 1 ≤ _; omega)
      · rw [S_append, S_append]
        exact q H1 sm
theorem scWT : FnScope ["tree", "part"] ["tree"] (defScope sWT) := ⟨rfl, rfl, rfl, by decide +kernel, rfl, by decide +kernel, by decide +kernel⟩
theorem wt_step {f fs : Addr} {fd fds : FuncData} {n : Nat} (B : Bn mg) (F : Fun K "write_tree" "write_tree" sWT f fd) (mT : mg "write_tree" = some (.ref f)) (bT : Binds K fd ["tree"] [])
    (FS : Fun K "write_string" "write_string" sWS fs fds) (mS : mg "write_string" = some (.ref fs)) (bS : Binds K fds ["text"] [])
    (G : FnOk P w K mg base CX0 (n + 1) f fd ["tree"] (spWT K n)) : FnOk P w K mg base CX0 (n + 2) f fd ["tree"] (spWT K (n + 1)) := by
  have GS : FnOk P w K mg base CX0 1 fs fds ["text"] spWS := ok_ws FS
  refine F.ok scWT (fun vs H Q E h => ?_) (fun cdv A outer s H vs Q E hr h => ?_)
  · obtain ⟨v, t, rfl, _⟩ := h
    rfl
  · obtain ⟨v, t, rfl, hd, hg, hh, hl, q⟩ := h
    refine ⟨_, pss_cons (ps_if (pt_val (pe_callB call_isi (by rfl) B.isi boot_isi (pa_cons (pv 0) (pa_cons (pe_bltn (v := .ty "tuple") (by rfl) B.tup PyProof.Rows.boot_tuple rfl) pa_nil))))
          (pss_one (ps_ret (pe_op op_add_str (pe_op op_add_str pe_str (pe_join pe_str
            (pe_lc (own := [("part", 1)]) (g := gName 1) (tt := tYes) rfl scWT.nd (pi_tup (pv 0)) (blkOk_by (N := ["tree", "part"]) (sc := defScope sWT) (by decide +kernel))
              (fun _ _ _ _ _ => pg_name (i := 1) scWT.nd rfl (Or.inl rfl)) (fun _ _ _ _ _ => pts_nil)
              (fun _ _ _ _ _ => pe_call G hr rfl mT F.kp bT .nil pass0 (pa_cons (pv 1) pa_nil))))) pe_str))) pss_nil)
      (pss_cons (ps_if (pt_val (pe_callB call_isi (by rfl) B.isi boot_isi (pa_cons (pv 0) (pa_cons (pe_bltn (v := .ty "str") (by rfl) B.str PyProof.Rows.boot_str rfl) pa_nil))))
          (pss_one (ps_ret (pe_call GS (hr.mono (by omega)) rfl mS FS.kp bS .nil pass0 (pa_cons (pv 0) pa_nil)))) pss_nil)
      (pss_cons (ps_if (pt_cmp (pc_isN (pv 0))) (pss_one (ps_ret pe_str)) pss_nil)
      (pss_cons (ps_if (pt_val (pe_callB call_isi (by rfl) B.isi boot_isi (pa_cons (pv 0) (pa_cons (pe_bltn (v := .ty "bool") (by rfl) B.bl PyProof.Rows.boot_bool rfl) pa_nil))))
          (pss_one (ps_ret (pe_ifExp (pt_truth (pv 0) (by intro _; rfl)) pe_str pe_str))) pss_nil)
      (pss_one (ps_ret (pe_callTy call_str_int (by rfl) B.str PyProof.Rows.boot_str (pa_cons (pv 0) pa_nil))))))), ?_⟩
    have hty := dp_ty hg hd
    cases t with
    | tuple ds =>
      cases hd with
      | @tup a xs _ hs ha =>
      refine ⟨_, rfl, _, _, _, _, true, rfl, .ty _, hty, kit_ty k_tuple_tuple, _, rfl, iteT ?_⟩
      refine ⟨⟨_, rfl⟩, _, rfl, a, rfl, ⟨_, hs⟩, fun D hD => ?_⟩
      have hL := dp_len ha
      simp only [txt, List.length_cons, List.length_append] at hl
      simp only [hgt] at hh
      have hga : goodAll ds := by simpa [good] using hg
      have hge := txtAll_ge ds
      refine lc_it (walk_tup (a := a) (xs := xs)) (fun i H' => Same H H' ∧ H' D = some (.lst (((ds.take i).map txt).map fun c => V.str (S c)))) ⟨same_new hD _, by rw [upd_same]; rfl⟩ (fun i H' _ p => sqT_same p.1 hs) ?_ ?_
      · rintro i x H1 H2 hi ⟨sm, hd⟩ ⟨rfl, hx⟩
        obtain ⟨d, ed, dd⟩ := dp_get ha hx
        have et : ((ds.take (i + 1)).map txt).map (fun c => V.str (S c)) = ((ds.take i).map txt).map (fun c => V.str (S c)) ++ [V.str (S (txt d))] := by
          rw [List.take_add_one, ed]; simp
        have hz := txtAll_len ed
        refine ⟨rfl, ?_⟩
        refine ⟨_, rfl, x, d, rfl, dp_same sm d x dd, good_get hga ed, by have := hgt_get ed; omega, by omega, fun H3 sm3 => ?_⟩
        refine ⟨_, sm3 _ _ hd, small' (by simp; omega), same_put (sm.trans sm3) hD _, ?_⟩
        rw [upd_same, et]
      · rintro H1 ⟨sm, hd⟩
        rw [hL, List.take_length] at hd
        have em : (ds.map txt).map (fun c => V.str (S c)) = ((ds.map txt).map S).map V.str := by simp
        rw [em] at hd
        refine ⟨_, D, (ds.map txt).map S, rfl, rfl, .inl (SqL.of hd), ?_, ?_⟩
        · rw [sum_lens, ofs_sp, S_length]
          simp only [List.length_map, List.length_cons, List.length_nil]
          omega
        rw [ofs_sp, glue_cps, glu_all, ofs_op, ofs_cl]
        refine ⟨_, _, rfl, rfl, ?_, _, _, rfl, rfl, ?_, ?_⟩
        · rw [S_length, S_length]; exact small (by show 1 + _ ≤ _; omega)
        · rw [S_append, S_length, S_length]; exact small (by show (txtAll ds).length + 1 + 1 ≤ _; omega)
        · rw [S_append, S_append]
          exact q H1 sm
    | str z =>
      cases hd
      refine ⟨_, rfl, _, _, _, _, false, rfl, .ty _, hty, kit_ty k_str_tuple, _, rfl, iteF ?_⟩
      refine ⟨_, rfl, _, _, _, _, true, rfl, .ty _, hty, kit_ty k_str_str, _, rfl, iteT ?_⟩
      refine ⟨_, rfl, z.cps.toList, by rw [S_eta]; rfl, ?_, fun H' sm => q H' sm⟩
      simp only [txt, List.length_cons, List.length_append] at hl
      have := escT_ge z.cps.toList
      omega
    | none =>
      cases hd
      refine ⟨_, rfl, _, _, _, _, false, rfl, .ty _, hty, kit_ty k_NoneType_tuple, _, rfl, iteF ?_⟩
      refine ⟨_, rfl, _, _, _, _, false, rfl, .ty _, hty, kit_ty k_NoneType_str, _, rfl, iteF ?_⟩
      refine ⟨_, rfl, _, rfl, iteT ?_⟩
      have := q H (Same.refl H)
      rw [show txt PyData.none = [45] from rfl, ← ofs_mi] at this
      exact this
    | bool b =>
      cases hd
      refine ⟨_, rfl, _, _, _, _, false, rfl, .ty _, hty, kit_ty k_bool_tuple, _, rfl, iteF ?_⟩
      refine ⟨_, rfl, _, _, _, _, false, rfl, .ty _, hty, kit_ty k_bool_str, _, rfl, iteF ?_⟩
      refine ⟨_, rfl, _, rfl, iteF ?_⟩
      refine ⟨_, rfl, _, _, _, _, true, rfl, .ty _, hty, kit_ty k_bool_bool, _, rfl, iteT ?_⟩
      refine ⟨_, rfl, b, rfl, ?_⟩
      have := q H (Same.refl H)
      cases b with
      | true =>
        refine iteT ?_
        rw [show txt (PyData.bool true) = [121, 101, 115] from rfl, ← ofs_yes] at this
        exact this
      | false =>
        refine iteF ?_
        rw [show txt (PyData.bool false) = [110, 111] from rfl, ← ofs_no] at this
        exact this
    | int i =>
      cases hd
      refine ⟨_, rfl, _, _, _, _, false, rfl, .ty _, hty, kit_ty k_int_tuple, _, rfl, iteF ?_⟩
      refine ⟨_, rfl, _, _, _, _, false, rfl, .ty _, hty, kit_ty k_int_str, _, rfl, iteF ?_⟩
      refine ⟨_, rfl, _, rfl, iteF ?_⟩
      refine ⟨_, rfl, _, _, _, _, false, rfl, .ty _, hty, kit_ty k_int_bool, _, rfl, iteF ?_⟩
      refine ⟨_, rfl, i, rfl, good_log (by simpa [good] using hg), ?_⟩
      have := q H (Same.refl H)
      rw [show txt (PyData.int i) = numT i from rfl, ← toString_int] at this
      exact this
    | list ds => simp [good] at hg
    | dict ds => simp [good] at hg
/-- write_tree at any depth -/
theorem ok_wt {f fs : Addr} {fd fds : FuncData} (B : Bn mg) (F : Fun K "write_tree" "write_tree" sWT f fd) (mT : mg "write_tree" = some (.ref f)) (bT : Binds K fd ["tree"] [])
    (FS : Fun K "write_string" "write_string" sWS fs fds) (mS : mg "write_string" = some (.ref fs)) (bS : Binds K fds ["text"] []) :
    ∀ n : Nat, FnOk P w K mg base CX0 (n + 1) f fd ["tree"] (spWT K n)
  | 0 => by
    have no : ∀ vs H Q E, ¬ spWT K 0 vs H Q E := fun vs H Q E h => by
      obtain ⟨v, t, _, _, _, h1, _⟩ := h
      have := hgt_pos t
      omega
    exact ⟨fun vs H Q E h => absurd h (no vs H Q E), fun A outer s H args us vs Q E _ _ _ _ h => absurd h (no vs H Q E)⟩
  | n + 1 => wt_step B F mT bT FS mS bS (ok_wt B F mT bT FS mS bS n)
end DS
set_option Elab.async false
set_option linter.all false
set_option maxRecDepth 100000
set_option maxHeartbeats 4000000
namespace DS
open PySem L2
abbrev sTold : Stmt := top 21
abbrev sDue : Stmt := top 22
/-- what is told of a text -/
def dueL (z : Cs) : List V := if wrongA z < 0 then [.str "text", .str (S z)] else [.str "index", .str (Str.ofString (toString (wrongA z))), .bl true]
def due0 : List V := [.str "index", .str (Str.ofString (toString (0 : Int))), .bl true]
def spTD (K : PySem.W.Frag) : Sp := fun vs H Q _ => (∃ z : Cs, vs = [.str (S z)] ∧ z.length ≤ 1000000 ∧ ∀ H' q, Same H H' → H' q = some (.tup (dueL z)) → Q (.ref q) H') ∨
  (∃ (v : V) (Ty : String), vs = [v] ∧ TyX K H v (.type Ty) ∧ kitB Ty "str" = some false ∧ ∀ H' q, Same H H' → H' q = some (.tup due0) → Q (.ref q) H')
theorem boot_ve : bootBuiltins "ValueError" = some (.type "ValueError") := by decide +kernel
theorem boot_rp : bootBuiltins "repr" = some (.builtin "repr") := by decide +kernel
theorem log_small {i : Nat} (h : i ≤ 1000000) : ((i : Nat) : Int).natAbs.log2 < 1920 := by
  rw [Int.natAbs_natCast]
  by_cases h0 : i = 0
  · rw [h0]; decide
  · exact (Nat.log2_lt h0).mpr (Nat.lt_of_le_of_lt h (by decide +kernel))
section
variable {P : Program} {w : World} {K : PySem.W.Frag} {mg : Str → Option Value} {base : Heap} {CN fX : Addr}
theorem scTold : FnScope ["_law_value", "e"] ["_law_value"] (defScope sTold) := ⟨rfl, rfl, rfl, by decide +kernel, rfl, by decide +kernel, by decide +kernel⟩
theorem ok_told {f fW fR : Addr} {fd fdW fdR : FuncData} (B : Bn mg) (N : NoTx P K mg CN fX) (XC : ExcC K CN) (XV : PySem.W.kitOne K (.ref CN) (.type "ValueError") = some true) (mV : mg "ValueError" = none)
    (kW : PySem.W.keepIn K (.ref fW) = true) (bW : Binds K fdW ["_law_tree"] []) (mW : mg "_law_written" = some (.ref fW)) (GW : FnOk P w K mg base CX0 31 fW fdW ["_law_tree"] (spWT K 30))
    (kR : PySem.W.keepIn K (.ref fR) = true) (bR : Binds K fdR ["text"] []) (mR : mg "read_tree" = some (.ref fR)) (GR : FnOk P w K mg base (L2.CX P w) 69 fR fdR ["text"] (spRT K CN))
    (F : Fun K "_law_read_told" "_law_read_told" sTold f fd) : FnOk P w K mg base CX0 70 f fd ["_law_value"] (spTD K) := by
  refine F.ok scTold (fun vs H Q E h => ?_) (fun cdv A outer s H vs Q E hr h => ?_)
  · rcases h with ⟨z, rfl, _⟩ | ⟨v, Ty, rfl, _⟩ <;> rfl
  · have hr31 : Room 31 _ := hr.mono (by decide)
    refine ⟨_, pss_one (ps_try_as (i := 1) (tb := fun W => tRet (tTup (tCons (tC (.str "text")) (tCons (tCall (spWT K 30) [] E0 (tCons (tCallS (spRT K CN) (WE W) (tCons (tVar 0) tNil)) tNil)) tNil))))
      (Wout := fun _ _ _ _ => False) rfl rfl scTold.nd rfl rfl ⟨rfl, by decide, Or.inl N.gC⟩ takes0
      (fun W pn xe tk _ => pss_one (ps_ret (pe_tup (pa_cons pe_str (pa_cons (by exact (pe_call GW hr31 rfl mW kW bW .nil pass0 (by exact (pa_cons (by exact (pe_callS GR hr rfl mR kR bR (fun σ => passAt tk σ) (by exact (pa_cons (pv 0) pa_nil)))) pa_nil)))) pa_nil)))))
      (fun a oe cls d pn hz hf => pss_one (ps_ret (pe_tup (pa_cons pe_str (pa_cons (pe_callB SkE.call_repr_int (by rfl) B.repr boot_rp (pa_cons (pe_idxNt N hz hf (pv 1)) pa_nil)) (pa_cons (pe_callB (call_isNt XC hz hf) (by rfl) B.isi boot_isi (pa_cons (pv 1) (pa_cons (pe_bltn (v := .ty "ValueError") (by rfl) mV boot_ve rfl) pa_nil))) pa_nil))))))), ?_⟩
    rcases h with ⟨z, rfl, hz, q⟩ | ⟨v, Ty, rfl, hty, hk, q⟩
    · have tw := told_wrong z
      refine ⟨_, rfl, .inl ⟨z, rfl, hz, ?_⟩⟩
      cases e : toldM z with
      | ok t =>
        rw [e] at tw
        obtain ⟨g1, g2, g3, g4⟩ := tw
        intro H1 v s1 hv
        refine ⟨v, t, rfl, hv, g1, g2, by rw [g3]; exact hz, fun H2 s2 => ⟨by show 2 ≤ sizeLine; decide, fun p hp => ?_⟩⟩
        refine q _ p ((s1.trans s2).trans (same_new hp _)) ?_
        rw [upd_same, g3]
        unfold dueL
        rw [g4]; rfl
      | error i =>
        rw [e] at tw
        obtain ⟨g1, g2⟩ := tw
        intro d H1 s1 hx
        refine ⟨true, N.te, fun _ a0 ha0 => ?_, fun z => Bool.noConfusion z⟩
        refine ⟨_, rfl, rfl, rfl, d, _, rfl, hx, _, rfl, log_small (by omega), ?_⟩
        refine ⟨_, rfl, _, _, true, d, _, rfl, rfl, rfl, hx, fun u r => r, XV, ?_⟩
        refine ⟨by show 3 ≤ sizeLine; decide, fun p hp => ?_⟩
        refine q _ p (s1.trans (same_new hp _)) ?_
        rw [upd_same]
        unfold dueL
        rw [g1, if_neg (by omega)]
    · refine ⟨_, rfl, .inr ⟨v, Ty, rfl, hty, hk, ?_⟩⟩
      intro d H1 s1 hx
      refine ⟨true, N.te, fun _ a0 ha0 => ?_, fun z => Bool.noConfusion z⟩
      refine ⟨_, rfl, rfl, rfl, d, _, rfl, hx, _, rfl, log_small (i := 0) (by omega), ?_⟩
      refine ⟨_, rfl, _, _, true, d, _, rfl, rfl, rfl, hx, fun u r => r, XV, ?_⟩
      refine ⟨by show 3 ≤ sizeLine; decide, fun p hp => ?_⟩
      refine q _ p (s1.trans (same_new hp _)) ?_
      rw [upd_same]; rfl
theorem scDue : FnScope ["_law_value", "_law_at"] ["_law_value"] (defScope sDue) := ⟨rfl, rfl, rfl, by decide +kernel, rfl, by decide +kernel, by decide +kernel⟩
theorem ok_due {f fW : Addr} {fd fdW : FuncData} {k : Nat} (B : Bn mg) (kW : PySem.W.keepIn K (.ref fW) = true) (bW : Binds K fdW ["_law_text"] []) (mW : mg "_law_wrong_at" = some (.ref fW)) (GW : FnOk P w K mg base CX0 3 fW fdW ["_law_text"] spWrong)
    (F : Fun K "_law_read_due" "_law_read_due" sDue f fd) : FnOk P w K mg base CX0 (k + 4) f fd ["_law_value"] (spTD K) := by
  refine F.ok scDue (fun vs H Q E h => ?_) (fun cdv A outer s H vs Q E hr h => ?_)
  · rcases h with ⟨z, rfl, _⟩ | ⟨v, Ty, rfl, _⟩ <;> rfl
  · have hr3 : Room 3 _ := hr.mono (show 3 ≤ k + 3 by omega)
    refine ⟨_, pss_cons (ps_set (i := 1) scDue.nd rfl (Or.inl rfl) (pe_ifExp (pt_val (pe_callB call_isi (by rfl) B.isi boot_isi (pa_cons (pv 0) (pa_cons (pe_bltn (v := .ty "str") (by rfl) B.str PyProof.Rows.boot_str rfl) pa_nil)))) (pe_call GW hr3 rfl mW kW bW .nil pass0 (pa_cons (pv 0) pa_nil)) pe_int))
      (pss_one (ps_ret (pe_ifExp (pt_cmpR op_lt (pv 1) pe_int (nomark _)) (pe_tup (pa_cons pe_str (pa_cons (pv 0) pa_nil))) (pe_tup (pa_cons pe_str (pa_cons (pe_callB SkE.call_repr_int (by rfl) B.repr boot_rp (pa_cons (pv 1) pa_nil)) (pa_cons pe_bl pa_nil))))))), ?_⟩
    rcases h with ⟨z, rfl, hz, q⟩ | ⟨v, Ty, rfl, hty, hk, q⟩
    · have tw := told_wrong z
      refine ⟨_, rfl, _, _, _, _, true, rfl, .ty _, .base (.str _), kit_ty k_str_str, _, rfl, iteT ?_⟩
      refine ⟨_, rfl, z, rfl, hz, fun H1 s1 => ?_⟩
      refine ⟨_, rfl, _, _, rfl, rfl, _, rfl, ?_⟩
      by_cases hw : wrongA z < 0
      · refine ifT (decide_eq_true hw) ⟨_, rfl, by show 2 ≤ sizeLine; decide, fun p hp => ?_⟩
        refine q _ p (s1.trans (same_new hp _)) ?_
        rw [upd_same]; unfold dueL; rw [if_pos hw]
      · have hl : (wrongA z).natAbs.log2 < 1920 := by
          cases e : toldM z with
          | ok t => rw [e] at tw; rw [tw.2.2.2]; decide
          | error i => rw [e] at tw; rw [tw.1]; exact log_small (by omega)
        refine ifF (decide_eq_false hw) ⟨_, rfl, _, rfl, hl, by show 3 ≤ sizeLine; decide, fun p hp => ?_⟩
        refine q _ p (s1.trans (same_new hp _)) ?_
        rw [upd_same]; unfold dueL; rw [if_neg hw]
    · refine ⟨_, rfl, _, _, _, _, false, rfl, .ty _, hty, kit_ty hk, _, rfl, iteF ?_⟩
      refine ⟨_, rfl, _, _, rfl, rfl, _, rfl, ifF (by decide) ?_⟩
      refine ⟨_, rfl, _, rfl, by decide, by show 3 ≤ sizeLine; decide, fun p hp => ?_⟩
      refine q _ p (same_new hp _) ?_
      rw [upd_same]; rfl
end
end DS
set_option Elab.async false
set_option linter.all false
set_option maxRecDepth 100000
set_option maxHeartbeats 4000000
namespace DS
open PySem L2 PyProof.Rows
/-! ### the law's own def, called by the claim: here no repr is under way (the guards are empty) -/
theorem run_law {P : Program} {w : World} {K : PySem.W.Frag} {mg : Str → Option Value} {bs : Heap} {f a : Addr} {fd : FuncData} {N : List Str} {st : Stmt} {s : Shared} {H : Hp} {x y : Str} {lv : Nat}
    (F : Fun K x x st f fd) (Sc : FnScope N [y] (defScope st)) (room : Room (lv + 1) callerA) (e0 : Env0 P w K mg bs callerA [] s H) (bind : BindsTo s fd ⟨[.ref a], []⟩ [(y, .ref a)])
    (body : ∀ cdv : Value, Room lv (callerA.deeper (envOfC x (defScope st) s.heap.objs.size f cdv)) →
      ∃ t, PSs (cxOf CX0 P w K mg bs N x (defScope st) f cdv callerA [] s H E0).nox (defBody st) t ∧ t { nx := fun _ _ => False, rt := fun v _ => v = .bl true } (L2.start N [.ref a]) H) :
    codeAny (model P w) callerA (.call (.ref f) ⟨[.ref a], []⟩) (CR CX0 [] P w H s (fun v _ => v = .bl true) E0) s := by
  obtain ⟨oc, od, kV, doc, pm, an, cdv, ct, osl, rfl, lk, hcd⟩ := F.ex
  have kin : K.In s.heap := e0.mod.kin.keeps fun _ _ e => (e0.bs _ _ e).1
  have nol : s.heap.NoLimit := e0.mod.nolimit.keeps fun _ _ e => (e0.bs _ _ e).1
  have kinds : ∀ p ∈ [y].zip [Value.ref a], (defScope st).names.lookup p.1 = some .local ∨ ((defScope st).names.lookup p.1 = some .cell ∧ ((cellsFrom (s.heap.objs.size + 1) (defScope st).names []).lookup p.1).isSome = true) := by
    intro p hp
    obtain rfl : p = (y, Value.ref a) := by simpa using hp
    exact (Sc.par y (by simp)).imp id fun q => ⟨q, PySem.W.cellsFrom_some _ _ _ (.inl q)⟩
  refine codeAny_call_function room.depth (kin _ _ lk) rfl Sc.co Sc.gen rfl (PySem.W.codeRec_of kin hcd) (bind _ _ _ _ ?_)
  refine wpAny_newFunctionEnv_cells Sc.kind kinds ?_
  rintro env rfl s' ic
  refine ⟨nol.keeps ic.toInCall.keep, codeAny_func ?_⟩
  obtain ⟨t, dt, ht⟩ := body cdv (room.deeper _)
  have J0 : Inv (cxOf CX0 P w K mg bs N x (defScope st) f cdv callerA [] s H E0) [] (L2.start N [.ref a]) H s' := inv_start (us := [.ref a]) Sc room.hd e0 rfl (.cons rfl .nil) ic
  refine wpAny_mono (dt.nox.run [] s' (L2.start N [.ref a]) H _ J0 ht) (fun fl s2 z => ?_) fun _ _ z => z
  cases fl with
  | ret u =>
    obtain ⟨v, σ2, H2, J, rv, q⟩ := z
    exact ⟨v, H2, J.os, J.bare, J.base, J.hok, rv, q⟩
  | next => obtain ⟨_, _, _, q⟩ := z; exact q.elim
  | brk => obtain ⟨_, _, _, q⟩ := z; exact q.elim
  | cont => obtain ⟨_, _, _, q⟩ := z; exact q.elim
/-- the claim's call from the body's reading -/
theorem law_at {P : Program} {w : World} {K : PySem.W.Frag} {mg mb : Str → Option Value} {f a : Addr} {fd : FuncData} {N : List Str} {st : Stmt} {s : Shared} {us : List Value} {ns : List Int} {x y : Str} {lv : Nat}
    (F : Fun K x x st f fd) (Sc : FnScope N [y] (defScope st)) (room : Room (lv + 1) callerA) (bind : BindsTo s fd ⟨[.ref a], []⟩ [(y, .ref a)])
    (kin : K.In s.heap) (gns : s.heap.Ns mainGlobals mg) (bns : s.heap.Ns builtinsNs mb) (bb : ∀ x : Str, x ≠ "__name__" → mb x = bootBuiltins x) (nol : s.heap.NoLimit) (gens : s.gens = #[])
    (obj : s.heap.get? a = some { cls := .type "list", data := .seq us.toArray }) (hints : IntsAre us ns) (len : ns.length ≤ sizeLine)
    (body : ∀ (bs : Heap) (H : Hp) (cdv : Value), K.In bs → bs.Ns mainGlobals mg → SqL K H a (ns.map V.int) → Room lv (callerA.deeper (envOfC x (defScope st) s.heap.objs.size f cdv)) →
      ∃ t, PSs (cxOf CX0 P w K mg bs N x (defScope st) f cdv callerA [] s H E0).nox (defBody st) t ∧ t { nx := fun _ _ => False, rt := fun v _ => v = .bl true } (L2.start N [.ref a]) H) :
    codeAny (model P w) callerA (.call (.ref f) ⟨[.ref a], []⟩) (fun r s' => r = .ok (.ret (.bool true)) ∧ OldK s.heap s'.heap ∧ s'.os = s.os ∧ AllBare s'.gens) s := by
  have vals := vals_ints hints
  have ulen := hints.length
  -- H tracks the script (frozen), or nothing
  have main : ∀ H : Hp, (∀ b, H b = none ∨ (b = a ∧ K.lookup a = none ∧ ∃ o xs, H b = some (.frz o (.lst xs)))) → SqL K H a (ns.map V.int) → HOk P w H s.heap →
      codeAny (model P w) callerA (.call (.ref f) ⟨[.ref a], []⟩) (fun r s' => r = .ok (.ret (.bool true)) ∧ OldK s.heap s'.heap ∧ s'.os = s.os ∧ AllBare s'.gens) s := by
    intro H only hS hok
    have dicts : ∀ {b : Addr} {o : Obj} {es : Array DictEntry} {ep : Nat}, s.heap.get? b = some o → o.data = .dict es ep → H b = none := by
      intro b o es ep e de
      rcases only b with z | ⟨rfl, _⟩
      · exact z
      · rw [obj] at e
        obtain rfl := Option.some.inj e
        exact Data.noConfusion (show Data.seq us.toArray _ = Data.dict es ep from de)
    have ns' : ∀ {b : Addr} {m : Str → Option Value}, s.heap.Ns b m → (hidT s.heap H).Ns b m := by
      rintro b m ⟨o, es, ep, e, de, r⟩
      exact ⟨o, es, ep, hidT_get e (dicts e de), de, r⟩
    have kin' : K.In (hidT s.heap H) := by
      intro b o e
      refine hidT_get (kin b o e) ?_
      rcases only b with z | ⟨rfl, z, _⟩
      · exact z
      · rw [z] at e; cases e
    have md : Mod K mg (hidT s.heap H) := ⟨kin', ns' gns, ⟨mb, ns' bns, bb⟩, nol.imp fun mc h => ⟨ns' h.1, h.2⟩⟩
    have e0 : Env0 P w K mg (hidT s.heap H) callerA [] s H := ⟨rfl, md, fun _ _ e => of_hidT e, Nat.le_of_eq (hidT_size _ _), trivial, fun b hb => absurd (show b ∈ ([] : List Addr) from hb) (by simp), hok, .of_eq gens⟩
    refine codeAny_mono (run_law F Sc room e0 bind fun cdv hr => body _ H cdv kin' (ns' gns) hS hr) fun r s' z => ?_
    match r, z with
    | .error _, z => exact z.elim
    | .ok .next, z => exact z.elim
    | .ok .brk, z => exact z.elim
    | .ok .cont, z => exact z.elim
    | .ok (.ret u), z =>
      obtain ⟨v, H', hos, hbare, un, hok', rv, rfl⟩ := z
      cases (show u = Value.bool true from rv)
      refine ⟨rfl, OldK.of_keep fun b o e => ?_, hos, hbare⟩
      rcases only b with q | ⟨_, _, ob, xs, q⟩
      · exact un.keep b o e q (fun z => absurd (show b ∈ ([] : List Addr) from z) (by simp)) (by simp)
      · have z1 : s.heap.get? b = some ob := (hok b _ q).1
        have z2 : s'.heap.get? b = some ob := (hok' b _ (un.frzs b ob _ q)).1
        rw [z1] at e
        rw [z2, ← Option.some.inj e]
  cases hk : K.lookup a with
  | some o =>
    obtain rfl := Option.some.inj (obj.symm.trans (kin a o hk))
    exact main (fun _ => none) (fun _ => .inl rfl) (.inr ⟨_, us.toArray, _, hk, rfl, rfl, rfl, by rw [List.size_toArray, ulen]; exact len, by simpa using vals⟩) fun b o z => nomatch (show (none : Option HO) = some o from z)
  | none =>
    refine main (upd (fun _ => none) a (.frz { cls := .type "list", data := .seq us.toArray } (.lst (ns.map V.int)))) (fun b => ?_) (.inl (.inr ⟨_, upd_same⟩)) fun b o z => ?_
    · by_cases e : b = a
      · subst e; exact .inr ⟨rfl, hk, _, _, upd_same⟩
      · exact .inl (by rw [upd_ne e])
    · by_cases e : b = a
      · subst e
        rw [upd_same] at z
        obtain rfl := Option.some.inj z
        exact ⟨obj, by rw [List.length_map]; exact len, us, _, vals, obj⟩
      · rw [upd_ne e] at z; cases z
/-- the goal behind k_head -/
theorem walk_at {l : PySem.W.OpenLaw} {q : Program} {loose : List Str} {XP : (Str → Option Value) → Heap → Prop} {YP : World → Heap → Prop} {d : DefRec} {K : Params → PySem.W.Frag} {N : List Str} {st : Stmt} {y : Str} {lv : Nat}
    (hn : l.most = some 63) (hdf : d.params.defaults = []) (Sc : FnScope N [y] (defScope st)) (room : Room (lv + 1) callerA) (hY : ∀ (w : World) (h : Heap), YP w h → (K w.params).In h)
    (give : ∀ (w : World) (mg : Str → Option Value) (f : Addr) (h : Heap), (K w.params).In h → h.Ns mainGlobals mg → mg d.name = some (.ref f) →
      ∃ fd : FuncData, Fun (K w.params) d.name d.name st f fd ∧ (∀ (s : Shared) (u : Value), BindsTo s fd ⟨[u], []⟩ [(y, u)]) ∧
        ∀ (bs : Heap) (s : Shared) (H : Hp) (cdv : Value) (a : Addr) (ns : List Int), (K w.params).In bs → bs.Ns mainGlobals mg → ns.length ≤ 63 → SqL (K w.params) H a (ns.map V.int) → Room lv (callerA.deeper (envOfC d.name (defScope st) s.heap.objs.size f cdv)) →
          ∃ t, PSs (cxOf CX0 l.prog w (K w.params) mg bs N d.name (defScope st) f cdv callerA [] s H E0).nox (defBody st) t ∧ t { nx := fun _ _ => False, rt := fun v _ => v = .bl true } (L2.start N [.ref a]) H) :
    PySem.W.WalkO q loose XP YP l.row.toRowW d [] (fun f vs => PySem.call f vs) := by
  refine Att.attach_call hn hdf ?_
  intro w s₀ s mg mb f o pm cd doc a us ns G Y ho hd hcd hmg obj hints hlen gens
  have kin := hY w _ Y
  obtain ⟨fd, F, bind, body⟩ := give w mg f _ kin G.T.g hmg
  exact law_at F Sc room (bind s _) kin G.T.g G.T.b G.T.builtins G.T.nolimit gens obj hints (Nat.le_trans hlen (by decide)) fun bs H cdv h1 h2 h3 h4 => body bs s H cdv a ns h1 h2 hlen h3 h4
/-! ### repr of data -/
theorem call_reprD {X : Cx} (hg : X.A.guards = some []) {n : Nat} (hu : X.A.units + (n + 1) < cLine) :
    CallR X (.builtin "repr") (fun xs H Q => ∃ v d, xs = [v] ∧ Dp X.K H v d ∧ d.showable = true ∧ d.hasDict = false ∧ d.depth ≤ n ∧ d.shown.length ≤ sizeLine ∧ Q (.str d.shown) H) := by
  intro pins s σ H xs us Q I r h
  obtain ⟨v, d, rfl, hd, hs, hnd, hdep, hlen, q⟩ := h
  obtain ⟨u, rfl, rv⟩ := vals1 r
  have fin : ∀ h' t tk, (∀ b o, s.heap.get? b = some o → h'.get? b = some o) → EP X pins σ Q (.str d.shown t) { s with heap := h', toks := tk } := fun h' t tk k => ⟨.str d.shown, H, I.kept k, ⟨t, rfl⟩, q⟩
  have fin0 : ∀ t tk, EP X pins σ Q (.str d.shown t) { s with toks := tk } := fun t tk => fin s.heap t tk fun _ _ e => e
  obtain ⟨as, rd⟩ := Dp.reads I d v u hd rv
  cases hd with
  | non => cases (show u = Value.none from rv); exact PySem.P.repr_of_none (fin0 _ _)
  | bl b => cases (show u = Value.bool b from rv); exact PySem.P.repr_of_bool (by have := fin0 s.toks (s.toks + 1); simpa only [PyData.shown] using this)
  | int i =>
    obtain ⟨t, rfl⟩ := (show ∃ t, u = Value.int i t from rv)
    exact PySem.P.repr_of_int (by simpa [PyData.showable] using hs) (fin0 _ _)
  | str z =>
    obtain ⟨t, rfl⟩ := (show ∃ t, u = Value.str z t from rv)
    exact PySem.P.repr_of_str (fin0 _ _) (by simpa only [PyData.shown] using hlen)
  | @lst a xs ds h1 h2 =>
    cases (show u = Value.ref a from rv)
    exact repr_of_reads' rd hs (PyData.noDict_hsm hnd) hg (by omega) (fun _ _ e => e) fin hlen
  | @tup a xs ds h1 h2 =>
    cases (show u = Value.ref a from rv)
    exact repr_of_reads' rd hs (PyData.noDict_hsm hnd) hg (by omega) (fun _ _ e => e) fin hlen
end DS
set_option Elab.async false
set_option linter.all false
set_option maxRecDepth 100000
set_option maxHeartbeats 4000000
namespace DS
open PySem L2 PySem.NumText
variable {P : Program} {w : World} {K : PySem.W.Frag} {mg : Str → Option Value} {base : Heap}

/-- a text of at most n signs, all of them small -/
def OkZ (n : Nat) (z : Cs) : Prop := z.length ≤ n ∧ ∀ c ∈ z, c < 128
theorem OkZ.mono {n m : Nat} {z : Cs} (h : OkZ n z) (e : n ≤ m) : OkZ m z := ⟨Nat.le_trans h.1 e, h.2⟩
theorem OkZ.app {n m : Nat} {y z : Cs} (h : OkZ n y) (g : OkZ m z) : OkZ (n + m) (y ++ z) := ⟨by rw [List.length_append]; have := h.1; have := g.1; omega, fun c hc => by
  rcases List.mem_append.mp hc with hc | hc
  · exact h.2 c hc
  · exact g.2 c hc⟩
theorem cut_any (z : Cs) (lo hi : Option Int) {n : Nat} (h : OkZ n z) : ∃ l, cutS (S z) lo hi = S l ∧ OkZ n l := by
  unfold cutS
  refine ⟨_, rfl, ?_, ?_⟩
  · rw [S_cps, List.length_take, List.length_drop]
    have := h.1
    omega
  · intro c hc
    rw [S_cps] at hc
    exact h.2 c (List.mem_of_mem_drop (List.mem_of_mem_take hc))
theorem catZ {x y : Cs} {n m : Nat} (h : OkZ n x) (g : OkZ m y) (e : n + m ≤ 1000000) : (S x).length + (S y).length ≤ sizeLine := by
  rw [S_length, S_length]; exact small (by have := h.1; have := g.1; omega)
theorem sgn_128 : ∀ c ∈ sgnList, c < 128 := by decide +kernel
end DS
set_option Elab.async false
set_option linter.all false
set_option maxRecDepth 100000
set_option maxHeartbeats 4000000
namespace DS
open PySem L2 PySem.NumText
variable {P : Program} {w : World} {K : PySem.W.Frag} {mg : Str → Option Value} {base : Heap}

theorem numT_len {i : Int} (h : i.natAbs < 10 ^ 100) : (numT i).length ≤ 101 := by
  have := decD_len 100 i.natAbs h (by decide)
  unfold numT
  split <;> simp <;> omega
theorem boot_min' : bootBuiltins "min" = some (.builtin "min") := by decide +kernel
/-- a def of the top, called by its name -/
structure Df (P : Program) (w : World) (K : PySem.W.Frag) (mg : Str → Option Value) (bs : Heap) (k : Nat) (x : Str) (ps : List Str) (sp : Sp) : Prop where
  ex : ∃ (f : Addr) (fd : FuncData), mg x = some (.ref f) ∧ PySem.W.keepIn K (.ref f) = true ∧ Binds K fd ps [] ∧ FnOk P w K mg bs CX0 k f fd ps sp
end DS
set_option Elab.async false
set_option linter.all false
set_option maxRecDepth 100000
set_option maxHeartbeats 4000000
namespace DS
open PySem L2 PySem.NumText
variable {P : Program} {w : World} {K : PySem.W.Frag} {mg : Str → Option Value} {base : Heap}

theorem numT_128 (i : Int) : ∀ c ∈ numT i, c < 128 := by
  have hd : ∀ m : Nat, ∀ c ∈ decD m, c < 128 := fun m c hc => by have := decD_digits m c hc; omega
  intro c hc
  unfold numT at hc
  split at hc
  · rcases List.mem_cons.mp hc with rfl | hc
    · decide
    · exact hd _ c hc
  · exact hd _ c hc
theorem escT_128 : ∀ s : Cs, (∀ c ∈ s, c < 128) → ∀ c ∈ escT s, c < 128
  | [], _, c, hc => by simp [escT] at hc
  | x :: s, h, c, hc => by
    rw [escT_cons] at hc
    rcases List.mem_append.mp hc with hc | hc
    · have hx := h x (by simp)
      unfold esc1 at hc
      split at hc
      · simp at hc; omega
      · simp at hc; omega
    · exact escT_128 s (fun y hy => h y (by simp [hy])) c hc
mutual
theorem txt_128 : ∀ t : PyData, good t → ∀ c ∈ txt t, c < 128
  | .none, _, c, hc => by simp [txt] at hc; omega
  | .bool b, _, c, hc => by cases b <;> (simp [txt] at hc; omega)
  | .int i, _, c, hc => numT_128 i c hc
  | .str x, g, c, hc => by
    have h : ∀ c ∈ x.cps.toList, c < 128 := fun c hc => sgn_128 c ((by simpa [good] using g : ∀ c ∈ x.cps.toList, c ∈ sgnList) c hc)
    simp only [txt, List.mem_cons, List.mem_append, List.not_mem_nil, or_false] at hc
    rcases hc with rfl | hc | rfl
    · decide
    · exact escT_128 _ h c hc
    · decide
  | .tuple ts, g, c, hc => by
    simp only [txt, List.mem_cons, List.mem_append, List.not_mem_nil, or_false] at hc
    rcases hc with rfl | hc | rfl
    · decide
    · cases ts with
      | nil => simp [txtAll] at hc
      | cons t ts =>
        have g' : good t ∧ goodAll ts := by simpa [good, goodAll] using g
        simp only [txtAll, List.mem_append] at hc
        rcases hc with hc | hc
        · exact txt_128 t g'.1 c hc
        · exact txtMore_128 ts g'.2 c hc
    · decide
  | .list _, g, _, _ => by simp [good] at g
  | .dict _, g, _, _ => by simp [good] at g
theorem txtMore_128 : ∀ ts : List PyData, goodAll ts → ∀ c ∈ txtMore ts, c < 128
  | [], _, c, hc => by simp [txtMore] at hc
  | t :: ts, g, c, hc => by
    simp only [goodAll] at g
    simp only [txtMore, List.mem_cons, List.mem_append] at hc
    rcases hc with rfl | hc | hc
    · decide
    · exact txt_128 t g.1 c hc
    · exact txtMore_128 ts g.2 c hc
end
theorem strOk_S {z : Cs} (h : ∀ c ∈ z, c < 128) : PyData.strOk (S z) = true := by
  unfold PyData.strOk S
  rw [Array.all_eq_true']
  intro c hc
  have := h c (by simpa using hc)
  exact decide_eq_true (by omega)
def dueD (z : Cs) : List PyData := if wrongA z < 0 then [.str "text", .str (S z)] else [.str "index", .str (Str.ofString (toString (wrongA z))), .bool true]
def dueD0 : List PyData := [.str "index", .str (Str.ofString (toString (0 : Int))), .bool true]
theorem shaped_due {z : Cs} (h : ∀ c ∈ z, c < 128) : SeqAt.shaped (.tuple (dueD z)) = true := by
  have t1 : PyData.strOk "text" = true := by decide +kernel
  have t2 : PyData.strOk "index" = true := by decide +kernel
  unfold dueD SeqAt.shaped
  split
  · simp only [PyData.canLay0, PyData.canLayAll0, t1, strOk_S h, PyData.depth, PyData.depthAll, Bool.and_true, Bool.true_and]; rfl
  · rw [toString_int]
    simp only [PyData.canLay0, PyData.canLayAll0, t2, strOk_S (numT_128 _), PyData.depth, PyData.depthAll, Bool.and_true, Bool.true_and]; rfl
theorem shaped_due0 : SeqAt.shaped (.tuple dueD0) = true := by decide +kernel
theorem dp_due {K : PySem.W.Frag} {H : Hp} (z : Cs) : DpAll K H (dueL z) (dueD z) := by
  unfold dueL dueD
  split
  · exact .cons (.str _) (.cons (.str _) .nil)
  · exact .cons (.str _) (.cons (.str _) (.cons (.bl _) .nil))
theorem k_list_str : kitB "list" "str" = some false := by decide +kernel
theorem k_dict_str : kitB "dict" "str" = some false := by decide +kernel
theorem k_tuple_str : kitB "tuple" "str" = some false := by decide +kernel
end DS
set_option Elab.async false
set_option linter.all false
set_option maxRecDepth 100000
set_option maxHeartbeats 4000000
namespace DS
open PySem L2 PySem.NumText
/-! ### (None,) * 1999, written and read -/
def dW : Nat → Cs
  | 0 => [45, 41]
  | k + 1 => 45 :: 32 :: dW k
theorem dW_len : ∀ k, (dW k).length = 2 * k + 2
  | 0 => rfl
  | k + 1 => by simp only [dW, List.length_cons, dW_len k]; omega
theorem tup_dW (z : Cs) : ∀ (k f a n : Nat) (acc : List PyData), z.drop a = dW k → k + 2 ≤ f → n + k + 1 ≤ 2000 → tupM z f 1 a n acc = some (.ok (.tuple (acc ++ List.replicate (k + 1) .none), a + 2 * k + 2, n + k + 1))
  | k, 0, _, _, _, _, h, _ => by omega
  | k, 1, _, _, _, _, h, _ => by omega
  | 0, f + 2, a, n, acc, hz, h, hn => by
    have hz' : z.drop a = 45 :: [41] := hz
    have r1 : readM z (f + 1) 1 a n = some (.ok (.none, a + 1, n + 1)) := by
      unfold readM
      rw [if_pos ⟨by omega, by omega⟩, hz']
      simp [numM, isDig]
    have hz2 : z.drop (a + 1) = [41] := by rw [← List.drop_drop, hz']; rfl
    unfold tupM
    rw [r1]
    simp only [hz2]
    simp
  | k + 1, f + 2, a, n, acc, hz, h, hn => by
    have hz' : z.drop a = 45 :: 32 :: dW k := hz
    have r1 : readM z (f + 1) 1 a n = some (.ok (.none, a + 1, n + 1)) := by
      unfold readM
      rw [if_pos ⟨by omega, by omega⟩, hz']
      simp [numM, isDig]
    have hz2 : z.drop (a + 1) = 32 :: dW k := by rw [← List.drop_drop, hz']; rfl
    have hz3 : z.drop (a + 1 + 1) = dW k := by rw [← List.drop_drop, hz2]; rfl
    unfold tupM
    rw [r1]
    simp only [hz2]
    rw [if_pos (by omega), tup_dW z k (f + 1) (a + 1 + 1) (n + 1) _ hz3 (by omega) (by omega)]
    have e1 : acc ++ [PyData.none] ++ List.replicate (k + 1) PyData.none = acc ++ List.replicate (k + 1 + 1) PyData.none := by
      rw [List.append_assoc]; rfl
    rw [e1, show a + 1 + 1 + 2 * k + 2 = a + 2 * (k + 1) + 2 by omega, show n + 1 + k + 1 = n + (k + 1) + 1 by omega]
theorem txt_dW : ∀ k, txtMore (List.replicate (k + 1) PyData.none) ++ [41] = 32 :: dW k
  | 0 => rfl
  | k + 1 => by
    have := txt_dW k
    rw [List.replicate_succ, txtMore, List.cons_append, List.append_assoc, this]
    rfl
theorem txt_rep (k : Nat) : txt (.tuple (List.replicate (k + 1) PyData.none)) = 40 :: dW k := by
  have e := txt_dW k
  rw [List.replicate_succ, txtMore] at e
  simp only [txt, List.replicate_succ, txtAll]
  have e2 : txt PyData.none ++ (txtMore (List.replicate k PyData.none) ++ [41]) = dW k := by simpa using e
  rw [← e2]; simp; rfl
theorem told_rep (k : Nat) (h : k + 2 ≤ 2000) : toldM (txt (.tuple (List.replicate (k + 1) PyData.none))) = .ok (.tuple (List.replicate (k + 1) PyData.none)) := by
  rw [txt_rep]
  have hl : (40 :: dW k).length = 2 * k + 3 := by rw [List.length_cons, dW_len]
  have hd : ∀ r, dW k ≠ 41 :: r := by intro r; cases k <;> simp [dW]
  have t1 := tup_dW (40 :: dW k) k (2 * (40 :: dW k).length) 1 1 [] rfl (by omega) (by omega)
  have r1 : readM (40 :: dW k) (2 * (40 :: dW k).length + 1) 0 0 0 = some (.ok (.tuple (List.replicate (k + 1) PyData.none), 2 * k + 3, k + 2)) := by
    unfold readM
    rw [if_pos ⟨by omega, by omega⟩]
    simp only [List.drop_zero, if_true]
    refine t1.trans ?_
    rw [List.nil_append, show 1 + 2 * k + 2 = 2 * k + 3 by omega, show 1 + k + 1 = k + 2 by omega]
  unfold toldM
  rw [r1]
  simp only
  rw [if_neg (by omega)]
/-! ### rules -/
theorem foldl_rp (z : Cs) : ∀ (n : Nat) (acc : Cs), (List.replicate n z.toArray).foldl (· ++ ·) acc.toArray = (acc ++ (List.replicate n z).flatten).toArray
  | 0, acc => by simp
  | n + 1, acc => by
    rw [List.replicate_succ, List.foldl_cons, List.append_toArray, foldl_rp z n, List.replicate_succ, List.flatten_cons, List.append_assoc]
theorem mul_S (z : Cs) (n : Nat) : Txt.mul (S z) (n : Int) = S (List.replicate n z).flatten := by
  unfold Txt.mul
  by_cases h0 : (n : Int) < 1
  · have : n = 0 := by omega
    subst this
    rw [if_pos (by decide)]; rfl
  · rw [if_neg h0]
    by_cases h1 : (((n : Int) == 1) || (S z).length == 0) = true
    · rw [if_pos h1]
      simp only [Bool.or_eq_true, beq_iff_eq, S_length] at h1
      rcases h1 with h1 | h1
      · have : n = 1 := by omega
        subst this; simp
      · have : z = [] := List.eq_nil_of_length_eq_zero h1
        subst this
        congr 1
        induction n with
        | zero => rfl
        | succ n ih => simp
    · rw [if_neg h1]
      have := foldl_rp z n []
      rw [List.nil_append] at this
      show (⟨(List.replicate n z.toArray).foldl (· ++ ·) #[]⟩ : Str) = ⟨_⟩
      rw [← this]
def rMulS : R2 := fun x y H Q => ∃ (z : Cs) (n : Nat), x = .str (S z) ∧ y = .int (n : Int) ∧ z.length ≤ 10 ∧ n ≤ 100000 ∧ Q (.str (S (List.replicate n z).flatten)) H
theorem op_mulS {X : Cx} : OpR X (binaryOp .Mult) rMulS := by
  intro pins s σ H x y v u Q I rx ry h
  obtain ⟨z, n, rfl, rfl, hz, hn, q⟩ := h
  obtain ⟨t, rfl⟩ := rx
  obtain ⟨t2, rfl⟩ := ry
  have ok : MulOk (S z) (n : Int) := by
    refine ⟨by rw [decide_eq_false (by omega), decide_eq_false (by omega)] <;> rfl, fun h1 _ h2 => ?_, fun h1 _ => ?_⟩
    · have : ((S z).length : Int) ≤ 10 := by rw [S_length]; omega
      have h3 : (10 : Int) ≤ (2 ^ 63 - 1) / (n : Int) := by
        rw [Int.le_ediv_iff_mul_le (by omega)]; omega
      omega
    · unfold Builtin.Str.tooLong
      rw [sizeLine_eq, S_length, Int.toNat_natCast]
      have : z.length * n ≤ 10 * 100000 := Nat.mul_le_mul hz hn
      exact decide_eq_false (by omega)
  refine SB.mul ok fun t' k => ?_
  rw [mul_S]
  exact ⟨.str _, H, I.tok k, ⟨_, rfl⟩, q⟩
theorem OkZ.rep {z : Cs} {m : Nat} (h : OkZ m z) (n : Nat) : OkZ (n * m) (List.replicate n z).flatten := by
  refine ⟨?_, fun c hc => ?_⟩
  · have := h.1
    rw [List.length_flatten, List.map_replicate, List.sum_replicate_nat]
    exact Nat.mul_le_mul_left _ this
  · obtain ⟨l, hl, hc⟩ := List.mem_flatten.mp hc
    exact h.2 c (by rw [(List.mem_replicate.mp hl).2] at hc; exact hc)
/-- (v,) * k -/
def rRepT1 (K : PySem.W.Frag) : R2 := fun x y H Q => ∃ l k v, x = .ref l ∧ y = .int k ∧ SqT K H l [v] ∧ 2 ≤ k ∧ k ≤ 100000 ∧ ∀ p, H p = none → Q (.ref p) (upd H p (.tup (List.replicate k.toNat v)))
theorem flat_one' {α : Type} (v : α) : ∀ n : Nat, (List.replicate n [v]).flatten = List.replicate n v
  | 0 => rfl
  | n + 1 => by rw [List.replicate_succ, List.flatten_cons, flat_one' v n]; rfl
open PySem.Spec PyProof.Rows in
theorem op_repT1 {X : Cx} : OpR X (binaryOp .Mult) (rRepT1 X.K) := by
  intro pins s σ H x y v u Q I rx ry h
  obtain ⟨l, k, e, rfl, rfl, hT, h1, h2, q⟩ := h
  cases rx
  obtain ⟨t, rfl⟩ := ry
  obtain ⟨its, r, ⟨⟨cls, dd, data, sl⟩, ho, hc, n, hd⟩, hs⟩ := I.tuple hT
  simp only at hc hd
  subst hc hd
  have hle : its.length = 1 := r.length.symm
  have hn : its ≠ [] := fun e => by rw [e] at hle; simp at hle
  have hi : its.toArray.isEmpty = false := by
    cases its with
    | nil => exact absurd rfl hn
    | cons a b => rfl
  have hsz0 : its.toArray.size = 1 := by rw [List.size_toArray, hle]
  have hm : ((its.toArray.size : Nat) : Int) * k ≤ 100000 := by rw [hsz0]; omega
  have flen : (List.replicate k.toNat its).flatten.length ≤ sizeLine := by
    rw [PyProof.Rows.lm_len_rep_flat, hle, sizeLine_eq]; omega
  have c0 : (decide (k < -(2 ^ 63)) || decide (k ≥ 2 ^ 63)) = false := by
    rw [decide_eq_false (by omega), decide_eq_false (by omega)] <;> rfl
  have c1 : (its.toArray.isEmpty || k == 1) = false := by
    rw [hi, Bool.false_or]
    exact beq_eq_false_iff_ne.mpr (by omega)
  have c2 : (decide (k ≤ 0) || its.toArray.isEmpty) = false := by
    rw [hi, Bool.or_false]
    exact decide_eq_false (by omega)
  have c4 : Builtin.Tuple.tupleTooMany (((its.toArray.size : Nat) : Int) * k) = false := by
    unfold Builtin.Tuple.tupleTooMany
    rw [sizeLine_eq]
    exact decide_eq_false (by omega)
  refine wpAny_binaryOp_repeat_ref (T := "tuple") (U := "int") (by decide) ⟨_, ho, rfl⟩ (fun s' => typeIs_int s' k t) noFill_tuple_mul F.fills_int_mul F.slot_int_rmul repeat_tuple F.slot_int_index.lookup
    (call_meets F.slot_int_rmul (typeIs_int s k t) F.entry_int_rmul (F.args_int_rmul_2 _ _) (int_rmul_tuple k t l its.toArray n dd sl)
      ⟨ho, rfl, ⟨_, ho, rfl⟩, call_meets F.slot_tuple_mul ⟨_, ho, rfl⟩ F.entry_tuple_mul (F.args_tuple_mul_2 _ _) (tuple_mulW l its.toArray n dd sl k t c0 c1 c2 (by omega) c4 (by rw [size_rep, List.size_toArray]; exact flen)) ⟨ho, ?_⟩⟩)
  rw [size_rep]
  have q' := q s.heap.objs.size (I.hok.fresh (Nat.le_refl _))
  rw [← flat_one'] at q'
  refine ⟨.ref s.heap.objs.size, _, I.laid (t' := s.toks) (o := .tup (List.replicate k.toNat [e]).flatten) (fun b ob q => Heap.get?_push_of_some _ q) (Nat.le_refl _) ?_, rfl, q'⟩
  exact ⟨by rw [PyProof.Rows.lm_len_rep_flat, sizeLine_eq]; show k.toNat * 1 ≤ _; omega, _, r.rep k.toNat, IsTup.new _ _⟩
end DS
set_option Elab.async false
set_option linter.all false
set_option maxRecDepth 100000
set_option maxHeartbeats 4000000
namespace DS
open PySem L2 PySem.NumText
abbrev sParts : Stmt := top 26
theorem glu_len (sep : Nat) : ∀ l : List Cs, (gluS [sep] l).length ≤ l.flatten.length + l.length
  | [] => by simp [gluS]
  | [x] => by simp [gluS]
  | x :: y :: r => by
    have := glu_len sep (y :: r)
    simp only [gluS, List.length_append, List.flatten_cons, List.length_cons, List.length_nil] at this ⊢
    omega
theorem glu_mem (sep : Nat) : ∀ (l : List Cs) (c : Nat), c ∈ gluS [sep] l → c = sep ∨ ∃ x ∈ l, c ∈ x
  | [], c, h => by simp [gluS] at h
  | [x], c, h => .inr ⟨x, by simp, by simpa [gluS] using h⟩
  | x :: y :: r, c, h => by
    simp only [gluS, List.mem_append, List.mem_cons, List.not_mem_nil, or_false] at h
    rcases h with h | h | h
    · exact .inr ⟨x, by simp, h⟩
    · exact .inl h
    · rcases glu_mem sep (y :: r) c h with h | ⟨u, hu, hc⟩
      · exact .inl h
      · exact .inr ⟨u, by simp only [List.mem_cons] at hu ⊢; exact .inr hu, hc⟩
theorem join_ok {l : List Cs} {N : Nat} (h : l.flatten.length + l.length ≤ N) (hc : ∀ x ∈ l, ∀ c ∈ x, c < 128) : OkZ N (gluS [32] l) :=
  ⟨Nat.le_trans (glu_len 32 l) h, fun c h => by
    rcases glu_mem 32 l c h with rfl | ⟨x, hx, hc'⟩
    · decide
    · exact hc x hx c hc'⟩
theorem join_sz {l : List Cs} {N : Nat} (hb : l.flatten.length + l.length ≤ N) (hN : N ≤ 1000000) : ((l.map S).map (·.length)).sum + (l.map S).length * (Str.ofString " ").length ≤ 16777216 := by
  rw [sum_lens, ofs_sp, S_length, List.length_map]
  show l.flatten.length + l.length * 1 ≤ _
  omega
theorem mapSS (l : List Cs) : l.map (fun c => V.str (S c)) = (l.map S).map V.str := by simp
def partL : List Str := ["-", "7", "\"\"", "()", "yes"]
theorem part_ok : ∀ x ∈ partL, x.cps.toList.length ≤ 3 ∧ ∀ c ∈ x.cps.toList, c < 128 := by decide +kernel
def spParts : Sp := fun vs H Q _ => ∃ (d c : Addr) (ns : List Int) (a : Nat) (r : Int) (m : Nat), vs = [.ref d, .int (m : Int)] ∧ PenAt H d c ns a r ∧ a + 2 ≤ 2 ^ 30 ∧ 1 ≤ m ∧ m ≤ 2002 ∧
  ∀ z a' r' H', OkZ 10100 z → a' ≤ a + 2 → Sb d H H' → PenAt H' d c ns a' r' → Q (.str (S z)) H'
theorem flat_rep {α : Type} (n : Nat) (z : List α) : (List.replicate n z).flatten.length = n * z.length := by
  rw [List.length_flatten, List.map_replicate, List.sum_replicate_nat]
section
variable {P : Program} {w : World} {K : PySem.W.Frag} {mg : Str → Option Value} {base : Heap}
theorem scParts : FnScope ["_law_pen_here", "_law_many", "_law_size", "_law_part", "_law_found", "_law_left", "_law_here"] ["_law_pen_here", "_law_many"] (defScope sParts) := ⟨rfl, rfl, rfl, by decide +kernel, rfl, by decide +kernel, by decide +kernel⟩
theorem ok_parts {f fP : Addr} {fd fdP : FuncData} {k : Nat} (B : Bn mg) (kP : PySem.W.keepIn K (.ref fP) = true) (bP : Binds K fdP ["_law_pen_here", "_law_items"] []) (mP : mg "_law_pick" = some (.ref fP)) (GP : FnOk P w K mg base CX0 2 fP fdP ["_law_pen_here", "_law_items"] spPick)
    (F : Fun K "_law_parts_text" "_law_parts_text" sParts f fd) : FnOk P w K mg base CX0 (k + 3) f fd ["_law_pen_here", "_law_many"] spParts := by
  refine F.ok scParts (fun vs H Q E h => ?_) (fun cdv A outer s H vs Q E hr h => ?_)
  · obtain ⟨d, c, ns, a, r, m, rfl, _⟩ := h
    rfl
  · obtain ⟨d, c, ns, a, r, m, rfl, hp, ha, hm1, hm2, q⟩ := h
    have hr2 : Room 2 _ := hr.mono (show 2 ≤ k + 2 by omega)
    refine ⟨_, pss_cons (ps_par (i := 2) (j := 3) (by rfl) scParts.nd rfl rfl (by decide) rfl rfl (pa_cons (pe_call GP hr2 rfl mP kP bP .nil pass0 (pa_cons (pv 0) (pa_cons (pe_lst (pa_cons pe_int (pa_cons pe_int (pa_cons pe_int (pa_cons pe_int pa_nil))))) pa_nil)))
          (pa_cons (pe_call GP hr2 rfl mP kP bP .nil pass0 (pa_cons (pv 0) (pa_cons (pe_lst (pa_cons pe_str (pa_cons pe_str (pa_cons pe_str (pa_cons pe_str (pa_cons pe_str pa_nil)))))) pa_nil))) pa_nil)) (by rfl))
      (pss_cons (ps_par (i := 4) (j := 5) (by rfl) scParts.nd rfl rfl (by decide) rfl rfl (pa_cons (pe_lst pa_nil) (pa_cons (pe_op op_sub (pv 1) pe_int) pa_nil)) (by rfl))
      (pss_cons (ps_while PassesOwn.never (pt_cmpR op_gt (pv 5) pe_int (nomark _))
        (pss_cons (ps_set (i := 6) scParts.nd rfl (Or.inl rfl) (pe_callB (call_min2 rfl) (by rfl) B.min boot_min' (pa_cons (pv 2) (pa_cons (pe_op op_sub (pv 5) pe_int) pa_nil))))
        (pss_cons (ps_expr (pe_bm PySem.F.plainAttrs_list PySem.F.slot_list_append PySem.F.type_list_append mt_append (pv 4) (pa_cons
            (pe_ifExp (pt_cmpR op_gt (pv 6) pe_int (nomark _)) (pe_op op_add_str (pe_op op_add_str pe_str (pe_join pe_str (pe_op op_rep (pe_lst (pa_cons (pv 3) pa_nil)) (pv 6)))) pe_str) (pv 3)) pa_nil)))
        (pss_one (ps_set (i := 5) scParts.nd rfl (Or.inl rfl) (pe_op op_sub (pe_op op_sub (pv 5) (pv 6)) pe_int))))))
      (pss_one (ps_ret (pe_op op_add_str (pe_op op_add_str pe_str (pe_join pe_str (pv 4))) pe_str))))), ?_⟩
    refine ⟨_, rfl, by show 4 ≤ sizeLine; decide, fun l1 hl1 => ?_⟩
    have s1 := same_new hl1 (.lst [.int 1, .int 3, .int 40, .int 2000])
    refine ⟨d, c, ns, a, r, _, rfl, pen_same hp s1, by omega, .inr ⟨l1, _, rfl, upd_same, by simp, by show 4 ≤ 1000; decide, fun x hx a1 r1 H1 ha1 q1 p1 => ?_⟩⟩
    have hxn : ∃ n : Nat, x = .int (n : Int) ∧ 1 ≤ n ∧ n ≤ 2000 := by
      simp only [List.mem_cons, List.not_mem_nil, or_false] at hx
      rcases hx with rfl | rfl | rfl | rfl
      · exact ⟨1, rfl, by decide, by decide⟩
      · exact ⟨3, rfl, by decide, by decide⟩
      · exact ⟨40, rfl, by decide, by decide⟩
      · exact ⟨2000, rfl, by decide, by decide⟩
    obtain ⟨sz, rfl, hs1, hs2⟩ := hxn
    refine ⟨_, rfl, by show 5 ≤ sizeLine; decide, fun l2 hl2 => ?_⟩
    have s2 := same_new hl2 (.lst (partL.map V.str))
    refine ⟨d, c, ns, a1, r1, _, rfl, pen_same p1 s2, by omega, .inr ⟨l2, partL.map V.str, rfl, upd_same, by simp [partL], by show 5 ≤ 1000; decide, fun x hx a2 r2 H2 ha2 q2 p2 => ?_⟩⟩
    obtain ⟨y, hy, rfl⟩ := List.mem_map.mp hx
    have oky := part_ok y hy
    have ey : y = S y.cps.toList := (S_eta y).symm
    rw [ey]
    generalize y.cps.toList = zp at oky
    refine ⟨_, _, rfl, ?_⟩
    refine ⟨by show 0 ≤ sizeLine; decide, fun l hl => ?_⟩
    refine ⟨_, rfl, _, _, rfl, rfl, _, _, rfl, ?_⟩
    have s3 := same_new hl (.lst [])
    have nl : l ≠ d := (ne_of_none p2.dict hl).symm
    have sb2 : Sb d H H2 := ((Same.sb s1).trans q1).trans ((Same.sb s2).trans q2)
    have fl : H l = none := sb_free sb2 hp.dict hl (by rw [p2.dict]; simp)
    have ncl : c ≠ l := ne_of_none p2.cells hl
    refine while_by (fun σ H' => ∃ (L : List Cs) (left : Nat) (y6 : Option V), σ = [some (.ref d), some (.int (m : Int)), some (.int (sz : Int)), some (.str (S zp)), some (.ref l), some (.int (left : Int)), y6] ∧
        H' l = some (.lst (L.map fun c => V.str (S c))) ∧ (∀ x ∈ L, ∀ c ∈ x, c < 128) ∧ L.flatten.length + L.length + 5 * left ≤ 5 * (m - 1) ∧ Sb d H H' ∧ PenAt H' d c ns a2 r2)
      (fun σ H' => match σ with | [_, _, _, _, _, some (.int i), _] => i.toNat | _ => 0)
      ⟨[], m - 1, none, by rw [show ((m - 1 : Nat) : Int) = (m : Int) - 1 by omega]; rfl, upd_same, by simp, by simp, sb2.trans (Same.sb s3), pen_same p2 s3⟩ ?_ ?_
    · rintro σ H3 ⟨L, left, y6, rfl, hL, hc, hb, sb3, p3⟩
      refine ⟨_, rfl, _, _, rfl, rfl, _, rfl, ite2 (fun h0 => ?_) (fun h0 => ?_)⟩
      · have hleft : 1 ≤ left := by have := of_decide_eq_true h0; omega
        refine ⟨_, rfl, _, rfl, _, _, rfl, rfl, _, _, rfl, ?_⟩
        obtain ⟨here, eh, hh1, hh2⟩ : ∃ here : Nat, (if (left : Int) - 1 < (sz : Int) then (left : Int) - 1 else (sz : Int)) = (here : Int) ∧ here ≤ left - 1 ∧ here ≤ 2001 := by
          split
          · exact ⟨left - 1, by omega, by omega, by omega⟩
          · exact ⟨sz, rfl, by omega, by omega⟩
        rw [eh]
        have put : ∀ (z : Cs) (H4 : Hp), (∀ c ∈ z, c < 128) → z.length + 1 ≤ 5 * (here + 1) → Sb d H H4 → PenAt H4 d c ns a2 r2 →
            ∃ (L' : List Cs) (left' : Nat) (y6 : Option V), [some (.ref d), some (.int (m : Int)), some (.int (sz : Int)), some (.str (S zp)), some (.ref l), some (.int ((left : Int) - (here : Int) - 1)), some (.int (here : Int))] = ([some (.ref d), some (.int (m : Int)), some (.int (sz : Int)), some (.str (S zp)), some (.ref l), some (.int (left' : Int)), y6] : L2.St) ∧
              (upd H4 l (.lst (L.map (fun c => V.str (S c)) ++ [V.str (S z)]))) l = some (.lst (L'.map fun c => V.str (S c))) ∧ (∀ x ∈ L', ∀ c ∈ x, c < 128) ∧ L'.flatten.length + L'.length + 5 * left' ≤ 5 * (m - 1) ∧ Sb d H (upd H4 l (.lst (L.map (fun c => V.str (S c)) ++ [V.str (S z)]))) ∧ PenAt (upd H4 l (.lst (L.map (fun c => V.str (S c)) ++ [V.str (S z)]))) d c ns a2 r2 := by
          intro z H4 hz hzl sb4 p4
          refine ⟨L ++ [z], left - here - 1, some (.int (here : Int)), ?_, by rw [upd_same]; simp, ?_, ?_, ?_, ?_⟩
          · rw [show ((left - here - 1 : Nat) : Int) = (left : Int) - (here : Int) - 1 by omega]
          · intro x hx
            rcases List.mem_append.mp hx with hx | hx
            · exact hc x hx
            · simp at hx; subst hx; exact hz
          · simp only [List.flatten_append, List.flatten_cons, List.flatten_nil, List.append_nil, List.length_append, List.length_cons, List.length_nil]
            omega
          · exact fun b u hb n => by rw [upd_ne (ne_of_none hb fl)]; exact sb4 b u hb n
          · exact pen_put p4 nl.symm ncl
        have ms : ((left : Int) - (here : Int) - 1).toNat < (left : Int).toNat := by omega
        refine ⟨_, rfl, .inl ⟨rfl, _, SqL.of hL⟩, ?_⟩
        refine ⟨_, rfl, _, _, rfl, rfl, _, rfl, ite2 (fun h1 => ?_) (fun h1 => ?_)⟩
        · have hpos : 1 ≤ here := by have := of_decide_eq_true h1; omega
          refine ⟨⟨_, rfl⟩, _, rfl, by show 1 ≤ sizeLine; decide, fun l4 hl4 => ?_⟩
          have s4 := same_new hl4 (.lst [.str (S zp)])
          refine ⟨_, rfl, l4, _, [.str (S zp)], rfl, rfl, upd_same, by omega, by omega, by rw [Int.toNat_natCast]; exact small (by simp; omega), fun l5 hl5 => ?_⟩
          rw [Int.toNat_natCast, flat_one']
          have s5 := s4.trans (same_new hl5 (.lst (List.replicate here (.str (S zp)))))
          have er : List.replicate here (V.str (S zp)) = (List.replicate here zp).map (fun c => V.str (S c)) := by rw [List.map_replicate]
          have hz3 := oky.1
          have hmul : here * zp.length ≤ here * 3 := Nat.mul_le_mul_left _ hz3
          have okJ : OkZ (4 * here) (gluS [32] (List.replicate here zp)) := join_ok (by rw [flat_rep, List.length_replicate]; omega) fun x hx => by rw [(List.mem_replicate.mp hx).2]; exact oky.2
          have h5 : (upd (upd H3 l4 (.lst [.str (S zp)])) l5 (.lst (List.replicate here (.str (S zp))))) l5 = some (.lst (((List.replicate here zp).map S).map V.str)) := by rw [upd_same, er, mapSS]
          refine ⟨_, l5, (List.replicate here zp).map S, rfl, rfl, .inl (SqL.of h5), join_sz (N := 4 * here) (by rw [flat_rep, List.length_replicate]; omega) (by omega), ?_⟩
          rw [ofs_sp, glue_cps]
          have okO : OkZ 1 [40] := ⟨by decide, by decide⟩
          have okC : OkZ 1 [41] := ⟨by decide, by decide⟩
          rw [ofs_op, ofs_cl]
          refine ⟨_, _, rfl, rfl, catZ okO okJ (by omega), ?_⟩
          rw [S_append]
          refine ⟨_, _, rfl, rfl, catZ (okO.app okJ) okC (by omega), ?_⟩
          rw [S_append]
          have okA := (okO.app okJ).app okC
          refine ⟨l, _, _, rfl, rfl, s5 _ _ hL, by rw [List.length_map]; exact small' (by omega), ?_⟩
          refine ⟨_, rfl, _, rfl, _, _, rfl, rfl, _, _, rfl, rfl, ⟨put _ _ okA.2 (by have := okA.1; omega) (sb3.trans (Same.sb s5)) (pen_same p3 s5), ms⟩⟩
        · refine ⟨_, rfl, ?_⟩
          refine ⟨l, _, _, rfl, rfl, hL, by rw [List.length_map]; exact small' (by omega), ?_⟩
          refine ⟨_, rfl, _, rfl, _, _, rfl, rfl, _, _, rfl, rfl, ⟨put _ _ oky.2 (by have := oky.1; omega) sb3 p3, ms⟩⟩
      · have hL' := hL
        rw [mapSS] at hL'
        refine ⟨⟨_, rfl⟩, _, rfl, _, l, L.map S, rfl, rfl, .inl (SqL.of hL'), join_sz (N := 10010) (by omega) (by omega), ?_⟩
        rw [ofs_sp, glue_cps]
        have okJ : OkZ 10010 (gluS [32] L) := join_ok (by omega) hc
        have okO : OkZ 1 [40] := ⟨by decide, by decide⟩
        have okC : OkZ 1 [41] := ⟨by decide, by decide⟩
        rw [ofs_op, ofs_cl]
        refine ⟨_, _, rfl, rfl, catZ okO okJ (by omega), ?_⟩
        rw [S_append]
        refine ⟨_, _, rfl, rfl, catZ (okO.app okJ) okC (by omega), ?_⟩
        rw [S_append]
        exact q _ a2 r2 H3 (((okO.app okJ).app okC).mono (by omega)) (by omega) sb3 p3
    · rintro σ H3 Q1 Q2 hm ⟨v, e, i, j, e1, e2, u, e3, h⟩
      exact ⟨v, e, i, j, e1, e2, u, e3, hm _ _ h⟩
end
end DS
set_option Elab.async false
set_option linter.all false
set_option maxRecDepth 100000
set_option maxHeartbeats 4000000
namespace DS
open PySem L2
abbrev sLaw : Stmt := top 27
abbrev lawN : List Str := ["_law_script", "_law_pen_here", "_law_turn", "_law_deep", "_law_part", "_law_digits", "_law_sign", "_law_some", "_law_flat", "_law_value", "_law_wide"]
theorem passN {P : Program} {w : World} {X : Cx} : Passes (L2.CX P w) X E0 := fun _ _ _ _ _ _ _ h => by
  obtain ⟨_, _, _, _, _, _, _, _, _, _, _, _, hE⟩ := h
  exact hE.elim
def pkA : List Str := ["", "1", "-", "\"a\"", "no", "(", "()", "1 2", " "]
def pkB : List Str := ["", "-"]
def pkC : List Str := ["", " ", " (", " ()", " ())", "))", ")("]
theorem pk_ok : ∀ x ∈ pkA ++ pkB ++ pkC, x.cps.toList.length ≤ 4 ∧ ∀ c ∈ x.cps.toList, c < 128 := by decide +kernel
theorem pk_S {x : Str} (h : x ∈ pkA ++ pkB ++ pkC) : ∃ z, x = S z ∧ OkZ 4 z := ⟨x.cps.toList, (S_eta x).symm, pk_ok x h⟩
theorem ofs_9 : Str.ofString "9" = S [57] := by decide +kernel
theorem ofs_a' : Str.ofString "a" = S [97] := by decide +kernel
theorem ofs_7 : Str.ofString "7" = S [55] := by decide +kernel
theorem ofs_1 : Str.ofString "1" = S [49] := by decide +kernel
theorem ofs_o1 : Str.ofString "(1 " = S [40, 49, 32] := by decide +kernel
theorem ok1 {c : Nat} (h : c < 128) : OkZ 1 [c] := ⟨by simp, fun x hx => by simp at hx; subst hx; exact h⟩
/-- a sign, its repetitions -/
abbrev rp (c n : Nat) : Cs := (List.replicate n [c]).flatten
theorem rp_ok {c n : Nat} (hc : c < 128) : OkZ n (rp c n) := by have := (ok1 hc).rep n; rw [Nat.mul_one] at this; exact this
theorem len1 (c : Nat) : ([c] : Cs).length ≤ 10 := by simp
theorem vcat {x y : Cs} {v : V} (h : v = .str (S (x ++ y))) : v = .str (S (x ++ y)) := h
section
variable {P : Program} {w : World} {K : PySem.W.Frag} {mg : Str → Option Value} {base : Heap}
theorem scLaw : FnScope lawN ["_law_script"] (defScope sLaw) := ⟨rfl, rfl, rfl, by decide +kernel, rfl, by decide +kernel, by decide +kernel⟩
theorem law_body {f : Addr} {cdv : Value} {s : Shared} {H : Hp} {a : Addr} {ns : List Int} {CN fR : Addr} {fdR : FuncData} (B : Bn mg)
    (DPen : Df P w K mg base 1 "_law_pen" ["_law_script"] (spPen K)) (DPick : Df P w K mg base 2 "_law_pick" ["_law_pen_here", "_law_items"] spPick) (DDraw : Df P w K mg base 1 "_law_draw" ["_law_pen_here", "_law_many"] spDraw)
    (DParts : Df P w K mg base 3 "_law_parts_text" ["_law_pen_here", "_law_many"] spParts) (DWT : Df P w K mg base 31 "write_tree" ["tree"] (spWT K 30))
    (DTold : Df P w K mg base 70 "_law_read_told" ["_law_value"] (spTD K)) (DDue : Df P w K mg base 4 "_law_read_due" ["_law_value"] (spTD K))
    (kR : PySem.W.keepIn K (.ref fR) = true) (bR : Binds K fdR ["text"] []) (mR : mg "read_tree" = some (.ref fR)) (GR : FnOk P w K mg base (L2.CX P w) 69 fR fdR ["text"] (spRT K CN))
    (h63 : ns.length ≤ 63) (hS : SqL K H a (ns.map V.int)) (hr : Room 70 (callerA.deeper (PyProof.Rows.envOfC "law" (defScope sLaw) s.heap.objs.size f cdv))) :
    ∃ t, PSs (cxOf CX0 P w K mg base lawN "law" (defScope sLaw) f cdv callerA [] s H E0).nox (defBody sLaw) t ∧
      t { nx := fun _ _ => False, rt := fun v _ => v = .bl true } (L2.start lawN [.ref a]) H := by
  obtain ⟨f1, fd1, m1, k1, b1, G1⟩ := DPen.ex
  obtain ⟨f2, fd2, m2, k2, b2, G2⟩ := DPick.ex
  obtain ⟨f3, fd3, m3, k3, b3, G3⟩ := DDraw.ex
  obtain ⟨f4, fd4, m4, k4, b4, G4⟩ := DParts.ex
  obtain ⟨f5, fd5, m5, k5, b5, G5⟩ := DWT.ex
  obtain ⟨f9, fd9, m9, k9, b9, G9⟩ := DTold.ex
  obtain ⟨f10, fd10, m10, k10, b10, G10⟩ := DDue.ex
  have hu := hr.units
  have r1 : Room 1 _ := hr.mono (by decide)
  have r2 : Room 2 _ := hr.mono (by decide)
  have r3 : Room 3 _ := hr.mono (by decide)
  have r4 : Room 4 _ := hr.mono (by decide)
  have r31 : Room 31 _ := hr.mono (by decide)
  have r69 : Room 69 _ := hr.mono (by decide)
  refine ⟨_, pss_cons (ps_set (i := 1) scLaw.nd rfl (Or.inl rfl) (pe_call G1 r1 rfl m1 k1 b1 .nil pass0 (pa_cons (pv 0) pa_nil)))
    (pss_cons (ps_for PassesOwn.never rfl (pi_range1 (by rfl) B.range (pa_cons (pe_op op_add pe_int (pe_callB (call_min2 rfl) (by rfl) B.min boot_min' (pa_cons pe_int (pa_cons (pe_callB call_len (by rfl) B.len PySem.boot_len (pa_cons (pv 0) pa_nil)) pa_nil)))) pa_nil)) (pg_name (i := 2) scLaw.nd rfl (Or.inl rfl))
      (pss_cons (ps_par (i := 3) (j := 4) (by rfl) scLaw.nd rfl rfl (by decide) rfl rfl (pa_cons (pe_op op_add pe_int (pe_call G3 r1 rfl m3 k3 b3 .nil pass0 (pa_cons (pv 1) (pa_cons pe_int pa_nil))))
          (pa_cons (pe_call G2 r2 rfl m2 k2 b2 .nil pass0 (pa_cons (pv 1) (pa_cons (pe_lst (pa_cons pe_str (pa_cons pe_str (pa_cons pe_str (pa_cons pe_str (pa_cons pe_str (pa_cons pe_str (pa_cons pe_str (pa_cons pe_str (pa_cons pe_str pa_nil)))))))))) pa_nil))) pa_nil)) (by rfl))
      (pss_cons (ps_set (i := 5) scLaw.nd rfl (Or.inl rfl) (pe_call G2 r2 rfl m2 k2 b2 .nil pass0 (pa_cons (pv 1) (pa_cons (pe_lst (pa_cons pe_int (pa_cons pe_int (pa_cons pe_int (pa_cons pe_int (pa_cons pe_int (pa_cons pe_int pa_nil))))))) pa_nil))))
      (pss_cons (ps_set (i := 6) scLaw.nd rfl (Or.inl rfl) (pe_call G2 r2 rfl m2 k2 b2 .nil pass0 (pa_cons (pv 1) (pa_cons (pe_lst (pa_cons pe_str (pa_cons pe_str pa_nil))) pa_nil))))
      (pss_cons (ps_set (i := 7) scLaw.nd rfl (Or.inl rfl) (pe_lst (pa_cons (pe_op op_add_str (pe_op op_add_str (pe_op op_mulS pe_str (pv 3)) (pv 4)) (pe_op op_mulS pe_str (pv 3)))
          (pa_cons (pe_op op_add_str (pe_op op_mulS pe_str pe_int) (pe_op op_mulS pe_str pe_int)) (pa_cons (pe_op op_add_str (pe_op op_add_str (pe_op op_mulS pe_str pe_int) pe_str) (pe_op op_mulS pe_str pe_int)) (pa_cons (pe_op op_mulS pe_str pe_int) pa_nil))))))
      (pss_cons (ps_expr (pe_bm PySem.F.plainAttrs_list PySem.F.slot_list_append PySem.F.type_list_append mt_append (pv 7) (pa_cons (pe_op op_add_str (pe_op op_add_str (pe_op op_mulS pe_str pe_int) (pv 4)) (pe_op op_mulS pe_str pe_int)) pa_nil)))
      (pss_cons (ps_set (i := 7) scLaw.nd rfl (Or.inl rfl) (pe_op op_cat (pv 7) (pe_lst (pa_cons (pe_op op_add_str (pv 6) (pe_op op_mulS pe_str (pv 5)))
          (pa_cons (pe_op op_add_str (pe_op op_add_str (pe_op op_add_str (pe_op op_add_str pe_str (pv 6)) pe_str) (pe_op op_mulS pe_str (pe_op op_sub (pv 5) pe_int))) pe_str) (pa_cons (pe_op op_add_str (pv 6) (pe_op op_mulS pe_str (pv 5))) pa_nil))))))
      (pss_cons (ps_set (i := 7) scLaw.nd rfl (Or.inl rfl) (pe_op op_cat (pv 7) (pe_lst (pa_cons (pe_call G4 r3 rfl m4 k4 b4 .nil pass0 (pa_cons (pv 1) (pa_cons (pe_op op_add pe_int (pe_call G3 r1 rfl m3 k3 b3 .nil pass0 (pa_cons (pv 1) (pa_cons pe_int pa_nil)))) pa_nil)))
          (pa_cons (pe_op op_add_str (pe_op op_add_str pe_str (pe_op op_mulS pe_str (pv 5))) pe_str) pa_nil)))))
      (pss_cons (ps_set (i := 8) scLaw.nd rfl (Or.inl rfl) (pe_op op_add_str pe_str (pe_join pe_str (pe_op op_rep (pe_lst (pa_cons pe_str pa_nil)) (pe_op op_add pe_int (pe_call G3 r1 rfl m3 k3 b3 .nil pass0 (pa_cons (pv 1) (pa_cons pe_int pa_nil))))))))
      (pss_cons (ps_set (i := 7) scLaw.nd rfl (Or.inl rfl) (pe_op op_cat (pv 7) (pe_lst (pa_cons (pe_op op_add_str (pv 8) pe_str)
          (pa_cons (pe_op op_add_str (pv 8) (pe_call G2 r2 rfl m2 k2 b2 .nil pass0 (pa_cons (pv 1) (pa_cons (pe_lst (pa_cons pe_str (pa_cons pe_str (pa_cons pe_str (pa_cons pe_str (pa_cons pe_str (pa_cons pe_str (pa_cons pe_str pa_nil)))))))) pa_nil)))) pa_nil)))))
      (pss_one (ps_for PassesOwn.never rfl (pi_list (pe_op op_cat (pv 7) (pe_lst (pa_cons (pe_slice sl_str (pe_ix ix_list (pv 7) (pe_call G3 r1 rfl m3 k3 b3 .nil pass0 (pa_cons (pv 1) (pa_cons pe_int pa_nil))) (fun _ _ => rfl)) po_none (po_some (pe_un un_neg pe_int))) pa_nil)))) (pg_name (i := 9) scLaw.nd rfl (Or.inl rfl))
        (pss_one (ps_if (pt_cmpR (op_neD hu) (pe_call G9 hr rfl m9 k9 b9 .nil pass0 (pa_cons (pv 9) pa_nil)) (pe_call G10 r4 rfl m10 k10 b10 .nil pass0 (pa_cons (pv 9) pa_nil)) (nomark _)) (pss_one (ps_ret pe_bl)) pss_nil))))))))))))))
    (pss_cons (ps_set (i := 10) scLaw.nd rfl (Or.inl rfl) (pe_op op_repT1 (pe_tup (pa_cons pe_non pa_nil)) pe_int))
    (pss_one (ps_ret (pe_cmpR (op_eqD hu) (pe_call GR r69 rfl mR kR bR .nil passN (pa_cons (pe_call G5 r31 rfl m5 k5 b5 .nil pass0 (pa_cons (pv 10) pa_nil)) pa_nil)) (pv 10) (nomark _)))))), ?_⟩
  refine ⟨_, rfl, a, ns, rfl, hS, h63, fun d c H1 sm1 p1 => ?_⟩
  have hS1 := sm1.seq hS
  -- the number of turns
  refine ⟨_, rfl, _, _, rfl, .inl ⟨_, hS1, rfl⟩, _, _, rfl, _, _, rfl, rfl, _, rfl, ?_, ?_, ?_⟩
  · split <;> omega
  · split <;> omega
  generalize hN : (1 + (if (((ns.map V.int).length : Nat) : Int) < 1 then (((ns.map V.int).length : Nat) : Int) else 1)).toNat = N
  have hN2 : N ≤ 2 := by rw [← hN]; split <;> omega
  refine for_it (walk_range (lo := 0) (n := N)) (fun i σ H' => ∃ a' r' y2 y3 y4 y5 y6 y7 y8 y9, σ = [some (.ref a), some (.ref d), y2, y3, y4, y5, y6, y7, y8, y9, none] ∧ a' ≤ i * 100 ∧ PenAt H' d c ns a' r')
    ⟨0, 0, none, none, none, none, none, none, none, none, rfl, by omega, p1⟩ (fun _ _ _ _ _ => trivial) ?_ ?_
  · rintro i x σ H2 H3 hi ⟨a2, r2', y2, y3, y4, y5, y6, y7, y8, y9, rfl, ha2, p2⟩ ⟨rfl, rfl⟩
    have hi1 : i ≤ 1 := by omega
    -- deep, part
    refine ⟨_, rfl, d, c, ns, a2, r2', _, rfl, p2, by omega, by decide, by decide, fun j a3 r3' H3 j0 j1 ha3 q3 p3 => ?_⟩
    obtain ⟨jn, rfl⟩ := Int.eq_ofNat_of_zero_le j0
    refine ⟨_, _, rfl, rfl, ?_⟩
    refine ⟨_, rfl, by show 9 ≤ sizeLine; decide, fun l1 hl1 => ?_⟩
    have s1 := same_new hl1 (.lst (pkA.map V.str))
    refine ⟨d, c, ns, a3, r3', _, rfl, pen_same p3 s1, by omega, .inr ⟨l1, pkA.map V.str, rfl, upd_same, by simp [pkA], by show 9 ≤ 1000; decide, fun x hx a4 r4' H4 ha4 q4 p4 => ?_⟩⟩
    obtain ⟨xs, hxs, rfl⟩ := List.mem_map.mp hx
    obtain ⟨zp, rfl, okp⟩ := pk_S (x := xs) (by simp [hxs])
    refine ⟨_, _, rfl, ?_⟩
    have edeep : V.int ((28 : Int) + (jn : Int)) = V.int ((28 + jn : Nat) : Int) := by congr 1
    have hdeep : 28 + jn ≤ 31 := by omega
    -- digits
    refine ⟨_, rfl, by show 6 ≤ sizeLine; decide, fun l2 hl2 => ?_⟩
    have s2 := same_new hl2 (.lst [.int 99, .int 100, .int 101, .int 102, .int 4000, .int 5000])
    refine ⟨d, c, ns, a4, r4', _, rfl, pen_same p4 s2, by omega, .inr ⟨l2, _, rfl, upd_same, by simp, by show 6 ≤ 1000; decide, fun x hx a5 r5' H5 ha5 q5 p5 => ?_⟩⟩
    obtain ⟨dg, rfl, hdg1, hdg2⟩ : ∃ n : Nat, x = .int (n : Int) ∧ 99 ≤ n ∧ n ≤ 5000 := by
      simp only [List.mem_cons, List.not_mem_nil, or_false] at hx
      rcases hx with rfl | rfl | rfl | rfl | rfl | rfl
      · exact ⟨99, rfl, by decide, by decide⟩
      · exact ⟨100, rfl, by decide, by decide⟩
      · exact ⟨101, rfl, by decide, by decide⟩
      · exact ⟨102, rfl, by decide, by decide⟩
      · exact ⟨4000, rfl, by decide, by decide⟩
      · exact ⟨5000, rfl, by decide, by decide⟩
    -- sign
    refine ⟨_, rfl, by show 2 ≤ sizeLine; decide, fun l3 hl3 => ?_⟩
    have s3 := same_new hl3 (.lst (pkB.map V.str))
    refine ⟨d, c, ns, a5, r5', _, rfl, pen_same p5 s3, by omega, .inr ⟨l3, pkB.map V.str, rfl, upd_same, by simp [pkB], by show 2 ≤ 1000; decide, fun x hx a6 r6' H6 ha6 q6 p6 => ?_⟩⟩
    obtain ⟨xs2, hxs2, rfl⟩ := List.mem_map.mp hx
    obtain ⟨zs, rfl, oks⟩ := pk_S (x := xs2) (by simp [hxs2])
    -- some
    have c40 : (40 : Nat) < 128 := by decide
    have c41 : (41 : Nat) < 128 := by decide
    have c48 : (48 : Nat) < 128 := by decide
    have c57 : (57 : Nat) < 128 := by decide
    have c97 : (97 : Nat) < 128 := by decide
    have oA1 : OkZ (28 + jn) (rp 40 (28 + jn)) := rp_ok c40
    have oA2 : OkZ (28 + jn) (rp 41 (28 + jn)) := rp_ok c41
    refine ⟨_, rfl, ?_⟩
    rw [ofs_op]
    refine ⟨[40], _, rfl, edeep, len1 _, by omega, ?_⟩
    refine ⟨_, rfl, _, _, rfl, rfl, catZ oA1 okp (by omega), ?_⟩
    rw [S_append]
    refine ⟨_, rfl, ?_⟩
    rw [ofs_cl]
    refine ⟨[41], _, rfl, edeep, len1 _, by omega, ?_⟩
    refine ⟨_, _, rfl, rfl, catZ (oA1.app okp) oA2 (by omega), ?_⟩
    rw [S_append]
    have oT1 := (oA1.app okp).app oA2
    generalize rp 40 (28 + jn) ++ zp ++ rp 41 (28 + jn) = t1 at oT1
    -- '(' * 30 + ')' * 30
    have oB1 : OkZ 30 (rp 40 30) := rp_ok c40
    have oB2 : OkZ 30 (rp 41 30) := rp_ok c41
    have oC1 : OkZ 29 (rp 40 29) := rp_ok c40
    have oC2 : OkZ 29 (rp 41 29) := rp_ok c41
    have oD : OkZ 31 (rp 40 31) := rp_ok c40
    have o7 : OkZ 1 [55] := ok1 (by decide)
    refine ⟨[40], 30, rfl, rfl, len1 _, by decide, ?_⟩
    refine ⟨[41], 30, rfl, rfl, len1 _, by decide, ?_⟩
    refine ⟨_, _, rfl, rfl, catZ oB1 oB2 (by omega), ?_⟩
    refine ⟨[40], 29, rfl, rfl, len1 _, by decide, ?_⟩
    rw [ofs_7]
    refine ⟨_, _, rfl, rfl, catZ oC1 o7 (by omega), ?_⟩
    refine ⟨[41], 29, rfl, rfl, len1 _, by decide, ?_⟩
    rw [S_append]
    refine ⟨_, _, rfl, rfl, catZ (oC1.app o7) oC2 (by omega), ?_⟩
    rw [S_append, S_append]
    refine ⟨[40], 31, rfl, rfl, len1 _, by decide, ?_⟩
    have oT2 := oB1.app oB2
    have oT3 := (oC1.app o7).app oC2
    refine ⟨by show 4 ≤ sizeLine; decide, fun m1 hm1 => ?_⟩
    obtain ⟨t2, ht2⟩ : ∃ t2, t2 = rp 40 30 ++ rp 41 30 := ⟨_, rfl⟩
    obtain ⟨t3, ht3⟩ : ∃ t3, t3 = rp 40 29 ++ [55] ++ rp 41 29 := ⟨_, rfl⟩
    obtain ⟨t4, ht4⟩ : ∃ t4, t4 = rp 40 31 := ⟨_, rfl⟩
    rw [← ht2] at oT2
    rw [← ht3] at oT3
    rw [← ht4] at oD
    have hM1 : (upd H6 m1 (.lst [V.str (S t1), V.str (S (rp 40 30 ++ rp 41 30)), V.str (S (rp 40 29 ++ [55] ++ rp 41 29)), V.str (S (rp 40 31))])) m1 = some (.lst ([t1, t2, t3, t4].map fun c => V.str (S c))) := by rw [upd_same, ht2, ht3, ht4]; rfl
    have sM1 := same_new hm1 (.lst [V.str (S t1), V.str (S (rp 40 30 ++ rp 41 30)), V.str (S (rp 40 29 ++ [55] ++ rp 41 29)), V.str (S (rp 40 31))])
    have p7 := pen_same p6 sM1
    have nm1 : m1 ≠ d := (ne_of_none p6.dict hm1).symm
    have cm1 : c ≠ m1 := ne_of_none p6.cells hm1
    have hT1 : ∀ z ∈ [t1, t2, t3, t4], OkZ 20000 z := by
      intro z hz
      simp only [List.mem_cons, List.not_mem_nil, or_false] at hz
      rcases hz with rfl | rfl | rfl | rfl
      · exact oT1.mono (by omega)
      · exact oT2.mono (by omega)
      · exact oT3.mono (by omega)
      · exact oD.mono (by omega)
    generalize upd H6 m1 (.lst [V.str (S t1), V.str (S (rp 40 30 ++ rp 41 30)), V.str (S (rp 40 29 ++ [55] ++ rp 41 29)), V.str (S (rp 40 31))]) = H7 at hM1 sM1 p7
    generalize hT1e : [t1, t2, t3, t4] = T1 at hM1 hT1
    have lT1 : T1.length = 4 := by rw [← hT1e]; rfl
    -- some.append
    have oE1 : OkZ 1200 (rp 40 1200) := rp_ok c40
    have oE2 : OkZ 1200 (rp 41 1200) := rp_ok c41
    refine ⟨_, rfl, .inl ⟨rfl, _, SqL.of hM1⟩, [40], 1200, rfl, rfl, len1 _, by decide, ?_⟩
    refine ⟨_, rfl, _, _, rfl, rfl, catZ oE1 okp (by omega), ?_⟩
    rw [S_append]
    refine ⟨[41], 1200, rfl, rfl, len1 _, by decide, ?_⟩
    refine ⟨_, _, rfl, rfl, catZ (oE1.app okp) oE2 (by omega), ?_⟩
    rw [S_append]
    have oT5 := (oE1.app okp).app oE2
    generalize rp 40 1200 ++ zp ++ rp 41 1200 = t5 at oT5
    refine ⟨m1, _, _, rfl, rfl, hM1, by rw [List.length_map, lT1]; decide, ?_⟩
    have hM2 : (upd H7 m1 (.lst (T1.map (fun c => V.str (S c)) ++ [V.str (S t5)]))) m1 = some (.lst ((T1 ++ [t5]).map fun c => V.str (S c))) := by rw [upd_same]; simp
    have p8 : PenAt (upd H7 m1 (.lst (T1.map (fun c => V.str (S c)) ++ [V.str (S t5)]))) d c ns a6 r6' := pen_put p7 nm1.symm cm1
    generalize upd H7 m1 (.lst (T1.map (fun c => V.str (S c)) ++ [V.str (S t5)])) = H8 at hM2 p8
    have hT2 : ∀ z ∈ T1 ++ [t5], OkZ 20000 z := by
      intro z hz
      rcases List.mem_append.mp hz with hz | hz
      · exact hT1 z hz
      · simp at hz; subst hz; exact oT5.mono (by omega)
    have lT2 : (T1 ++ [t5]).length = 5 := by rw [List.length_append, lT1]; rfl
    generalize T1 ++ [t5] = T2 at hM2 hT2 lT2
    -- some + [..]
    have oG1 : OkZ dg (rp 57 dg) := rp_ok c57
    have oG2 : OkZ (dg - 1) (rp 48 (dg - 1)) := rp_ok c48
    have oG3 : OkZ dg (rp 48 dg) := rp_ok c48
    have o3 : OkZ 3 [40, 49, 32] := ⟨by decide, by decide⟩
    have o1' : OkZ 1 [49] := ok1 (by decide)
    have oCl : OkZ 1 [41] := ok1 (by decide)
    have edg1 : V.int ((dg : Int) - 1) = V.int ((dg - 1 : Nat) : Int) := by congr 1; omega
    rw [ofs_9, ofs_o1, ofs_1, ofs_0]
    refine ⟨_, rfl, _, rfl, _, rfl, [57], dg, rfl, rfl, len1 _, by omega, ?_⟩
    refine ⟨_, _, rfl, rfl, catZ oks oG1 (by omega), ?_⟩
    rw [S_append]
    refine ⟨_, rfl, _, _, rfl, rfl, catZ o3 oks (by omega), ?_⟩
    rw [S_append]
    refine ⟨_, _, rfl, rfl, catZ (o3.app oks) o1' (by omega), ?_⟩
    rw [S_append]
    refine ⟨_, rfl, _, _, rfl, rfl, [48], dg - 1, rfl, edg1, len1 _, by omega, ?_⟩
    refine ⟨_, _, rfl, rfl, catZ ((o3.app oks).app o1') oG2 (by omega), ?_⟩
    rw [S_append]
    refine ⟨_, _, rfl, rfl, catZ (((o3.app oks).app o1').app oG2) oCl (by omega), ?_⟩
    rw [S_append]
    refine ⟨_, rfl, _, rfl, [48], dg, rfl, rfl, len1 _, by omega, ?_⟩
    refine ⟨_, _, rfl, rfl, catZ oks oG3 (by omega), ?_⟩
    rw [S_append]
    have oU1 := (oks.app oG1).mono (show 4 + dg ≤ 20000 by omega)
    have oU2 := ((((o3.app oks).app o1').app oG2).app oCl).mono (show 3 + 4 + 1 + (dg - 1) + 1 ≤ 20000 by omega)
    have oU3 := (oks.app oG3).mono (show 4 + dg ≤ 20000 by omega)
    generalize zs ++ rp 57 dg = u1 at oU1
    generalize [40, 49, 32] ++ zs ++ [49] ++ rp 48 (dg - 1) ++ [41] = u2 at oU2
    generalize zs ++ rp 48 dg = u3 at oU3
    refine ⟨by show 3 ≤ sizeLine; decide, fun m2 hm2 => ?_⟩
    have sM2 := same_new hm2 (.lst [V.str (S u1), V.str (S u2), V.str (S u3)])
    refine ⟨m1, m2, _, _, rfl, rfl, sM2 _ _ hM2, upd_same, by rw [List.length_map, lT2]; show 5 + 3 ≤ sizeLine; decide, fun m3 hm3 => ?_⟩
    obtain ⟨T3, hT3e⟩ : ∃ T3, T3 = T2 ++ [u1, u2, u3] := ⟨_, rfl⟩
    have eT3 : T2.map (fun c => V.str (S c)) ++ [V.str (S u1), V.str (S u2), V.str (S u3)] = T3.map (fun c => V.str (S c)) := by rw [hT3e]; simp
    rw [eT3]
    have hT3 : ∀ z ∈ T3, OkZ 20000 z := by
      intro z hz
      rw [hT3e] at hz
      rcases List.mem_append.mp hz with hz | hz
      · exact hT2 z hz
      · simp only [List.mem_cons, List.not_mem_nil, or_false] at hz
        rcases hz with rfl | rfl | rfl
        · exact oU1
        · exact oU2
        · exact oU3
    have lT3 : T3.length = 8 := by rw [hT3e, List.length_append, lT2]; rfl
    have p9 := pen_same (pen_same p8 sM2) (same_new hm3 (.lst (T3.map fun c => V.str (S c))))
    have nm3 : m3 ≠ d := (ne_of_none (pen_same p8 sM2).dict hm3).symm
    have hM3 : (upd (upd H8 m2 (.lst [V.str (S u1), V.str (S u2), V.str (S u3)])) m3 (.lst (T3.map fun c => V.str (S c)))) m3 = some (.lst (T3.map fun c => V.str (S c))) := upd_same
    generalize (upd (upd H8 m2 (.lst [V.str (S u1), V.str (S u2), V.str (S u3)])) m3 (.lst (T3.map fun c => V.str (S c)))) = H9 at p9 hM3
    -- some + [parts_text(..), ..]
    refine ⟨_, rfl, _, rfl, _, rfl, d, c, ns, a6, r6', _, rfl, p9, by omega, by decide, by decide, fun jj a10 r10' H10 k0 k1 ha10 q10 p10 => ?_⟩
    obtain ⟨j2, rfl⟩ := Int.eq_ofNat_of_zero_le k0
    refine ⟨_, _, rfl, rfl, ?_⟩
    have em : V.int ((1999 : Int) + (j2 : Int)) = V.int ((1999 + j2 : Nat) : Int) := by congr 1
    refine ⟨d, c, ns, a10, r10', 1999 + j2, congrArg (fun x => [V.ref d, x]) em, p10, by omega, by omega, by omega, fun v1 a11 r11' H11 oV1 ha11 q11 p11 => ?_⟩
    have oQ : OkZ 1 [34] := ok1 (by decide)
    have oAa : OkZ dg (rp 97 dg) := rp_ok c97
    rw [ofs_q, ofs_a']
    refine ⟨_, rfl, [97], dg, rfl, rfl, len1 _, by omega, ?_⟩
    refine ⟨_, _, rfl, rfl, catZ oQ oAa (by omega), ?_⟩
    rw [S_append]
    refine ⟨_, _, rfl, rfl, catZ (oQ.app oAa) oQ (by omega), ?_⟩
    rw [S_append]
    have oV2 := ((oQ.app oAa).app oQ).mono (show 1 + dg + 1 ≤ 20000 by omega)
    generalize [34] ++ rp 97 dg ++ [34] = v2 at oV2
    have hM3' : H11 m3 = some (.lst (T3.map fun c => V.str (S c))) := q11 _ _ (q10 _ _ hM3 nm3) nm3
    refine ⟨by show 2 ≤ sizeLine; decide, fun m4 hm4 => ?_⟩
    have sM4 := same_new hm4 (.lst [V.str (S v1), V.str (S v2)])
    refine ⟨m3, m4, _, _, rfl, rfl, sM4 _ _ hM3', upd_same, by rw [List.length_map, lT3]; show 8 + 2 ≤ sizeLine; decide, fun m5 hm5 => ?_⟩
    obtain ⟨T4, hT4e⟩ : ∃ T4, T4 = T3 ++ [v1, v2] := ⟨_, rfl⟩
    have eT4 : T3.map (fun c => V.str (S c)) ++ [V.str (S v1), V.str (S v2)] = T4.map (fun c => V.str (S c)) := by rw [hT4e]; simp
    rw [eT4]
    have hT4 : ∀ z ∈ T4, OkZ 20000 z := by
      intro z hz
      rw [hT4e] at hz
      rcases List.mem_append.mp hz with hz | hz
      · exact hT3 z hz
      · simp only [List.mem_cons, List.not_mem_nil, or_false] at hz
        rcases hz with rfl | rfl
        · exact oV1.mono (by omega)
        · exact oV2
    have lT4 : T4.length = 10 := by rw [hT4e, List.length_append, lT3]; rfl
    have p12 := pen_same (pen_same p11 sM4) (same_new hm5 (.lst (T4.map fun c => V.str (S c))))
    have nm5 : m5 ≠ d := (ne_of_none (pen_same p11 sM4).dict hm5).symm
    have hM5 : (upd (upd H11 m4 (.lst [V.str (S v1), V.str (S v2)])) m5 (.lst (T4.map fun c => V.str (S c)))) m5 = some (.lst (T4.map fun c => V.str (S c))) := upd_same
    generalize (upd (upd H11 m4 (.lst [V.str (S v1), V.str (S v2)])) m5 (.lst (T4.map fun c => V.str (S c)))) = H12 at p12 hM5
    -- flat
    rw [ofs_mi]
    refine ⟨⟨_, rfl⟩, by show 1 ≤ sizeLine; decide, fun m6 hm6 => ?_⟩
    have sM6 := same_new hm6 (.lst [V.str (S [45])])
    have p13 := pen_same p12 sM6
    refine ⟨_, rfl, d, c, ns, a11, r11', _, rfl, p13, by omega, by decide, by decide, fun jj a14 r14' H14 k0 k1 ha14 q14 p14 => ?_⟩
    obtain ⟨j3, rfl⟩ := Int.eq_ofNat_of_zero_le k0
    refine ⟨_, _, rfl, rfl, ?_⟩
    have nm6 : m6 ≠ d := (ne_of_none p12.dict hm6).symm
    have hM6 : H14 m6 = some (.lst [V.str (S [45])]) := q14 _ _ upd_same nm6
    have hM5' : H14 m5 = some (.lst (T4.map fun c => V.str (S c))) := q14 _ _ (sM6 _ _ hM5) nm5
    have eN : ((1998 : Int) + (j3 : Int)).toNat = 1998 + j3 := by omega
    refine ⟨m6, _, _, rfl, rfl, hM6, by omega, by omega, by rw [eN]; exact small (by simp; omega), fun m7 hm7 => ?_⟩
    rw [eN, flat_one']
    have sM7 := same_new hm7 (.lst (List.replicate (1998 + j3) (V.str (S [45]))))
    have h7 : (upd H14 m7 (.lst (List.replicate (1998 + j3) (V.str (S [45]))))) m7 = some (.lst (((List.replicate (1998 + j3) ([45] : Cs)).map S).map V.str)) := by rw [upd_same, ← mapSS, List.map_replicate]
    have o45 : OkZ 4010 (gluS [32] (List.replicate (1998 + j3) [45])) := join_ok (by rw [flat_rep, List.length_replicate]; simp; omega) fun x hx => by rw [(List.mem_replicate.mp hx).2]; decide
    refine ⟨_, m7, (List.replicate (1998 + j3) ([45] : Cs)).map S, rfl, rfl, .inl (SqL.of h7), join_sz (N := 4010) (by rw [flat_rep, List.length_replicate]; simp; omega) (by omega), ?_⟩
    rw [ofs_sp, glue_cps]
    have oOp : OkZ 1 [40] := ok1 (by decide)
    refine ⟨_, _, rfl, rfl, catZ oOp o45 (by omega), ?_⟩
    rw [S_append]
    have oF := oOp.app o45
    generalize [40] ++ gluS [32] (List.replicate (1998 + j3) [45]) = fl at oF
    have p15 := pen_same p14 sM7
    have hM5'' := sM7 _ _ hM5'
    generalize upd H14 m7 (.lst (List.replicate (1998 + j3) (V.str (S [45])))) = H15 at p15 hM5''
    -- some + [flat + ')', flat + pick(..)]
    refine ⟨_, rfl, _, rfl, _, _, rfl, rfl, catZ oF oCl (by omega), ?_⟩
    rw [S_append]
    refine ⟨_, rfl, _, rfl, by show 7 ≤ sizeLine; decide, fun m8 hm8 => ?_⟩
    have sM8 := same_new hm8 (.lst (pkC.map V.str))
    rw [← ofs_sp]
    refine ⟨d, c, ns, a14, r14', _, rfl, pen_same p15 sM8, by omega, .inr ⟨m8, pkC.map V.str, rfl, upd_same, by simp [pkC], by show 7 ≤ 1000; decide, fun x hx a16 r16' H16 ha16 q16 p16 => ?_⟩⟩
    obtain ⟨xs3, hxs3, rfl⟩ := List.mem_map.mp hx
    obtain ⟨zc, rfl, okc⟩ := pk_S (x := xs3) (by simp [hxs3])
    refine ⟨_, _, rfl, rfl, catZ oF okc (by omega), ?_⟩
    rw [S_append]
    have oW1 := (oF.app oCl).mono (show 1 + 4010 + 1 ≤ 20000 by omega)
    have oW2 := (oF.app okc).mono (show 1 + 4010 + 4 ≤ 20000 by omega)
    generalize fl ++ [41] = w1 at oW1
    generalize fl ++ zc = w2 at oW2
    refine ⟨by show 2 ≤ sizeLine; decide, fun m9 hm9 => ?_⟩
    have sM9 := same_new hm9 (.lst [V.str (S w1), V.str (S w2)])
    have hM5a : H16 m5 = some (.lst (T4.map fun c => V.str (S c))) := q16 _ _ (sM8 _ _ hM5'') nm5
    refine ⟨m5, m9, _, _, rfl, rfl, sM9 _ _ hM5a, upd_same, by rw [List.length_map, lT4]; show 10 + 2 ≤ sizeLine; decide, fun m10 hm10 => ?_⟩
    obtain ⟨T5, hT5e⟩ : ∃ T5, T5 = T4 ++ [w1, w2] := ⟨_, rfl⟩
    have eT5 : T4.map (fun c => V.str (S c)) ++ [V.str (S w1), V.str (S w2)] = T5.map (fun c => V.str (S c)) := by rw [hT5e]; simp
    rw [eT5]
    have hT5 : ∀ z ∈ T5, OkZ 20000 z := by
      intro z hz
      rw [hT5e] at hz
      rcases List.mem_append.mp hz with hz | hz
      · exact hT4 z hz
      · simp only [List.mem_cons, List.not_mem_nil, or_false] at hz
        rcases hz with rfl | rfl
        · exact oW1
        · exact oW2
    have lT5 : T5.length = 12 := by rw [hT5e, List.length_append, lT4]; rfl
    have p17 := pen_same (pen_same p16 sM9) (same_new hm10 (.lst (T5.map fun c => V.str (S c))))
    have nm10 : m10 ≠ d := (ne_of_none (pen_same p16 sM9).dict hm10).symm
    have hM10 : (upd (upd H16 m9 (.lst [V.str (S w1), V.str (S w2)])) m10 (.lst (T5.map fun c => V.str (S c)))) m10 = some (.lst (T5.map fun c => V.str (S c))) := upd_same
    generalize (upd (upd H16 m9 (.lst [V.str (S w1), V.str (S w2)])) m10 (.lst (T5.map fun c => V.str (S c)))) = H17 at p17 hM10
    -- the values
    refine ⟨_, rfl, _, rfl, _, rfl, d, c, ns, a16, r16', _, rfl, p17, by omega, by decide, by decide, fun jj a18 r18' H18 k0 k1 ha18 q18 p18 => ?_⟩
    obtain ⟨j4, rfl⟩ := Int.eq_ofNat_of_zero_le k0
    have hM18 : H18 m10 = some (.lst (T5.map fun c => V.str (S c))) := q18 _ _ hM10 nm10
    obtain ⟨zv, hzv⟩ : ∃ z, T5[j4]? = some z := by
      have : j4 < T5.length := by omega
      exact ⟨_, List.getElem?_eq_getElem this⟩
    have okv := hT5 zv (List.mem_of_getElem? hzv)
    refine ⟨m10, _, _, _, rfl, rfl, SqL.of hM18, atI_nat (by rw [List.getElem?_map, hzv]; rfl), ?_⟩
    refine ⟨_, rfl, _, rfl, _, rfl, by rw [S_length]; exact small (by have := okv.1; omega), ?_⟩
    obtain ⟨l, e, okl⟩ := cut_any zv none (some (-1)) okv
    rw [e]
    refine ⟨by show 1 ≤ sizeLine; decide, fun m11 hm11 => ?_⟩
    have sM11 := same_new hm11 (.lst [V.str (S l)])
    refine ⟨m10, m11, _, _, rfl, rfl, sM11 _ _ hM18, upd_same, by rw [List.length_map, lT5]; show 12 + 1 ≤ sizeLine; decide, fun m12 hm12 => ?_⟩
    have sM12 := sM11.trans (same_new hm12 (.lst (T5.map (fun c => V.str (S c)) ++ [V.str (S l)])))
    obtain ⟨T6, hT6e⟩ : ∃ T6, T6 = T5 ++ [l] := ⟨_, rfl⟩
    have eT6 : T5.map (fun c => V.str (S c)) ++ [V.str (S l)] = T6.map (fun c => V.str (S c)) := by rw [hT6e]; simp
    have hT6 : ∀ z ∈ T6, OkZ 20000 z := by
      intro z hz
      rw [hT6e] at hz
      rcases List.mem_append.mp hz with hz | hz
      · exact hT5 z hz
      · simp at hz; subst hz; exact okl
    rw [eT6] at sM12 ⊢
    refine ⟨m12, rfl, ⟨_, SqL.of upd_same⟩, for_list (K := K) (a := m12) (xs := T6.map fun c => V.str (S c))
      (fun k σ H' => ∃ y, σ = [some (.ref a), some (.ref d), some (.int (0 + (i : Int))), some (.int ((28 : Int) + (jn : Int))), some (.str (S zp)), some (.int (dg : Int)), some (.str (S zs)), some (.ref m10), some (.str (S fl)), y, none] ∧
        Same H18 H' ∧ H' m12 = some (.lst (T6.map fun c => V.str (S c))))
      ⟨_, rfl, sM12, upd_same⟩ (fun k σ H' _ h => by obtain ⟨y, _, _, h7⟩ := h; exact SqL.of h7) ?_ ?_⟩
    · rintro k x σ H19 hk ⟨y, rfl, u1, u7⟩
      obtain ⟨zz, hzz, rfl⟩ := List.mem_map.mp (List.mem_of_getElem? hk)
      have ok := hT6 zz hzz
      have sh := shaped_due ok.2
      refine ⟨_, rfl, .inl ⟨zz, rfl, by have := ok.1; omega, fun H15 q1 s15 h15 => ?_⟩⟩
      refine ⟨_, rfl, .inl ⟨zz, rfl, by have := ok.1; omega, fun H16 q2 s16 h16 => ?_⟩⟩
      refine ⟨.tuple (dueD zz), .tuple (dueD zz), .tup (SqT.of (s16 _ _ h15)) (dp_due zz), .tup (SqT.of h16) (dp_due zz), sh, sh, _, rfl, ?_⟩
      have ev : PyData.eqv (.tuple (dueD zz)) (.tuple (dueD zz)) = true := SeqAt.eqv_refl _ (by have := sh; unfold SeqAt.shaped at this; rw [Bool.and_eq_true] at this; exact this.1)
      rw [ev]
      refine iteF ?_
      exact ⟨_, rfl, (u1.trans s15).trans s16, s16 _ _ (s15 _ _ u7)⟩
    · rintro σ H19 ⟨y, rfl, u1, u7⟩
      exact ⟨a18, r18', _, _, _, _, _, _, _, _, rfl, by omega, pen_same p18 u1⟩
  · rintro σ H2 ⟨a2, r2', y2, y3, y4, y5, y6, y7, y8, y9, rfl, ha2, p2⟩
    refine ⟨by show 1 ≤ sizeLine; decide, fun t1 ht1 => ?_⟩
    refine ⟨t1, 1999, .non, rfl, rfl, SqT.of upd_same, by decide, by decide, fun t2 ht2 => ?_⟩
    have eR : List.replicate (1999 : Int).toNat V.non = List.replicate (1998 + 1) V.non := rfl
    rw [eR]
    have hW : (upd (upd H2 t1 (.tup [.non])) t2 (.tup (List.replicate (1998 + 1) V.non))) t2 = some (.tup (List.replicate (1998 + 1) V.non)) := upd_same
    generalize (upd (upd H2 t1 (.tup [.non])) t2 (.tup (List.replicate (1998 + 1) V.non))) = H3 at hW
    have dpr : ∀ (H' : Hp) (n : Nat), DpAll K H' (List.replicate n V.non) (List.replicate n PyData.none) := by
      intro H' n
      induction n with
      | zero => exact .nil
      | succ n ih => exact .cons .non ih
    have gdr : ∀ n : Nat, goodAll (List.replicate n PyData.none) ∧ hgtAll (List.replicate n PyData.none) ≤ 1 := by
      intro n
      induction n with
      | zero => simp [goodAll, hgtAll]
      | succ n ih => rw [List.replicate_succ]; simp only [goodAll, hgtAll, good, hgt]; exact ⟨⟨trivial, ih.1⟩, by have := ih.2; omega⟩
    have lay : ∀ n : Nat, PyData.canLayAll0 (List.replicate n PyData.none) = true ∧ PyData.depthAll (List.replicate n PyData.none) = 0 := by
      intro n
      induction n with
      | zero => exact ⟨rfl, rfl⟩
      | succ n ih => rw [List.replicate_succ]; simp [PyData.canLayAll0, PyData.depthAll, PyData.canLay0, PyData.depth, ih.1, ih.2]
    have sh0 : ∀ n : Nat, SeqAt.shaped (.tuple (List.replicate n PyData.none)) = true := by
      intro n
      simp [SeqAt.shaped, PyData.canLay0, PyData.depth, (lay n).1, (lay n).2]
    have sh := sh0 (1998 + 1)
    have gd : good (.tuple (List.replicate (1998 + 1) PyData.none)) := by simpa only [good] using (gdr (1998 + 1)).1
    have tl : (txt (.tuple (List.replicate (1998 + 1) PyData.none))).length ≤ 1000000 := by rw [txt_rep, List.length_cons, dW_len]; omega
    have told := told_rep 1998 (by decide)
    have hD : Dp K H3 (.ref t2) (.tuple (List.replicate (1998 + 1) PyData.none)) := .tup (SqT.of hW) (dpr _ _)
    refine ⟨_, rfl, .ref t2, .tuple (List.replicate (1998 + 1) PyData.none), rfl, hD, gd, by simp only [hgt]; have := (gdr (1998 + 1)).2; omega, tl, fun H4 s4 => ?_⟩
    refine .inl ⟨_, rfl, tl, ?_⟩
    rw [told]
    intro H5 v s5 hv
    refine ⟨_, rfl, _, _, hv, .tup (SqT.of (s5 _ _ (s4 _ _ hW))) (dpr _ _), sh, sh, ?_⟩
    have ev : PyData.eqv (.tuple (List.replicate (1998 + 1) PyData.none)) (.tuple (List.replicate (1998 + 1) PyData.none)) = true := SeqAt.eqv_refl _ (by have := sh; unfold SeqAt.shaped at this; rw [Bool.and_eq_true] at this; exact this.1)
    rw [ev]
end
end DS
set_option Elab.async false
set_option linter.all false
set_option maxRecDepth 100000
set_option maxHeartbeats 4000000
namespace DS
open PySem L2
theorem sgn_ofs : Str.ofString " !\"#$&'()*+,-./0123456789:;<=>?@ABCDEFGHIJKLMNOPQRSTUVWXYZ[\\]^_`abcdefghijklmnopqrstuvwxyz{|}~" = S sgnList := by decide +kernel
theorem dig_ofs : Str.ofString "0123456789" = S [48, 49, 50, 51, 52, 53, 54, 55, 56, 57] := by decide +kernel
theorem isStr_S {c : Nat} {z : Cs} {t : Tok} : (Value.str (S z) t).isStr (S [c]) = decide (z = [c]) := by
  show (S z == S [c]) = _
  by_cases h : z = [c]
  · subst h; rw [decide_eq_true rfl]; exact beq_self_eq_true _
  · rw [decide_eq_false h, beq_eq_false_iff_ne]; exact fun e => h (S_inj e)
theorem wtxt {K : PySem.W.Frag} {w : World} {mg : Str → Option Value} {dW tY tN : Addr} {h1 h2 : Int} {u1 u2 u3 u4 : Tok} {nW nY nN : Nat} {odY odN : Option Addr} {slY slN : Array (Option Value)} (mW : mg "WRITTEN" = some (.ref dW))
    (lW : K.lookup dW = some ⟨.type "dict", none, .dict #[⟨h1, .str (Str.ofString "y") u1, .ref tY⟩, ⟨h2, .str (Str.ofString "n") u2, .ref tN⟩] nW, #[]⟩)
    (lY : K.lookup tY = some ⟨.type "tuple", odY, .seq #[.str (Str.ofString "yes") u3, .bool true] nY, slY⟩) (lN : K.lookup tN = some ⟨.type "tuple", odN, .seq #[.str (Str.ofString "no") u4, .bool false] nN, slN⟩)
    (w1 : h1 = PyData.keyHash w.params (Str.ofString "y")) (w2 : h2 = PyData.keyHash w.params (Str.ofString "n")) (w3 : (dW == sysModules) = false) : WTxt K w mg dW tY tN := by
  have ns : ∀ c : Nat, PySem.W.nsIn K dW (S [c]) = if c = 121 then some (some (.ref tY)) else if c = 110 then some (some (.ref tN)) else some none := by
    intro c
    unfold PySem.W.nsIn
    rw [lW]
    show (match List.find? (fun e : DictEntry => e.key.isStr (S [c])) [⟨h1, .str (Str.ofString "y") u1, .ref tY⟩, ⟨h2, .str (Str.ofString "n") u2, .ref tN⟩] with
      | some e => some (some e.val)
      | none => if _ then none else some none) = _
    rw [ofs_y, ofs_n]
    simp only [List.find?, isStr_S]
    by_cases e1 : c = 121
    · subst e1; rfl
    · by_cases e2 : c = 110
      · subst e2; rfl
      · have q1 : decide (([121] : Cs) = [c]) = false := decide_eq_false (by simpa using fun e => e1 e.symm)
        have q2 : decide (([110] : Cs) = [c]) = false := decide_eq_false (by simpa using fun e => e2 e.symm)
        rw [q1, q2, if_neg e1, if_neg e2]
        rfl
  refine ⟨mW, ⟨_, nW, ⟨lW, ⟨⟨_, _, rfl, w1⟩, ⟨_, _, rfl, w2⟩, trivial⟩, w3⟩⟩, ns 121, ns 110, fun c h1 h2 => by rw [ns c, if_neg h1, if_neg h2], fun H => ?_, fun H => ?_⟩
  · refine .inr ⟨_, _, _, lY, rfl, rfl, by show 2 ≤ sizeLine; decide, ?_⟩
    rw [← ofs_yes]
    exact .cons ⟨_, rfl⟩ (.cons rfl .nil)
  · refine .inr ⟨_, _, _, lN, rfl, rfl, by show 2 ≤ sizeLine; decide, ?_⟩
    rw [← ofs_no]
    exact .cons ⟨_, rfl⟩ (.cons rfl .nil)


theorem all_mk {P : Program} {w : World} {K : PySem.W.Frag} {h : Heap} {mg : Str → Option Value} {fa C dW tY tN f1 f2 f3 f4 f5 f6 f7 f8 f9 f10 f11 f12 f13 f14 f15 f16 f17 f18 f19 f20 f21 f22 f23 f24 f25 f26 f27 CN fI cda cc : Addr} (X : K.In h) (G : h.Ns mainGlobals mg) (hfa : mg "law" = some (.ref fa))
    {od1 an1 od2 an2 od3 an3 od4 an4 od5 an5 od6 an6 od7 an7 od8 an8 od9 an9 od10 an10 od11 an11 od12 an12 od13 an13 od14 an14 od15 an15 od16 an16 od17 an17 od18 an18 od19 an19 od20 an20 od21 an21 od22 an22 od23 an23 od24 an24 od25 an25 od26 an26 od27 an27 odI anI cdd cld dd odY odN : Option Addr} {sl1 sl2 sl3 sl4 sl5 sl6 sl7 sl8 sl9 sl10 sl11 sl12 sl13 sl14 sl15 sl16 sl17 sl18 sl19 sl20 sl21 sl22 sl23 sl24 sl25 sl26 sl27 slI ccs csl slY slN : Array (Option Value)} {oc1 kV1 dc1 pm1 cd1 ct1 oc2 kV2 dc2 pm2 cd2 ct2 oc3 kV3 dc3 pm3 cd3 ct3 oc4 kV4 dc4 pm4 cd4 ct4 oc5 kV5 dc5 pm5 cd5 ct5 oc6 kV6 dc6 pm6 cd6 ct6 oc7 kV7 dc7 pm7 cd7 ct7 oc8 kV8 dc8 pm8 cd8 ct8 oc9 kV9 dc9 pm9 cd9 ct9 oc10 kV10 dc10 pm10 cd10 ct10 oc11 kV11 dc11 pm11 cd11 ct11 oc12 kV12 dc12 pm12 cd12 ct12 oc13 kV13 dc13 pm13 cd13 ct13 oc14 kV14 dc14 pm14 cd14 ct14 oc15 kV15 dc15 pm15 cd15 ct15 oc16 kV16 dc16 pm16 cd16 ct16 oc17 kV17 dc17 pm17 cd17 ct17 oc18 kV18 dc18 pm18 cd18 ct18 oc19 kV19 dc19 pm19 cd19 ct19 oc20 kV20 dc20 pm20 cd20 ct20 oc21 kV21 dc21 pm21 cd21 ct21 oc22 kV22 dc22 pm22 cd22 ct22 oc23 kV23 dc23 pm23 cd23 ct23 oc24 kV24 dc24 pm24 cd24 ct24 oc25 kV25 dc25 pm25 cd25 ct25 oc26 kV26 dc26 pm26 cd26 ct26 oc27 kV27 dc27 pm27 cd27 ct27 ocI dcI pmI ctI ccl cl : Value} {t1 t2 t3 t4 t5 t6 u1 u2 u3 u4 tf : Tok} {h1 h2 : Int} {nW nY nN : Nat}
    {nm q : Str} {Nn : Addr} {bs : List Value} {sn : List Str} {sub : List Value} {ab : Bool} {col : Option Bool} {m0 m1 m2 m3 m5 : Option Value} {vs : Array Value} {file : Str}
    (aC : PySem.W.nsIn K mainGlobals "Reader" = some (some (.ref C)))
    (a1 : PySem.W.nsIn K mainGlobals "read_with" = some (some (.ref f1)))
    (l1 : K.lookup f1 = some ⟨oc1, od1, .func (PySem.W.fnOf "read_with" "read_with" (defArgs sRW) (defBody sRW) (defScope sRW) .none kV1 dc1 pm1 an1 cd1 ct1), sl1⟩)
    (c1 : PySem.W.codeIn K cd1 "read_with" = true)
    (k1 : PySem.W.keepIn K (.ref f1) = true)
    (a2 : PySem.W.nsIn K mainGlobals "read_tree" = some (some (.ref f2)))
    (l2 : K.lookup f2 = some ⟨oc2, od2, .func (PySem.W.fnOf "read_tree" "read_tree" (defArgs sRT) (defBody sRT) (defScope sRT) .none kV2 dc2 pm2 an2 cd2 ct2), sl2⟩)
    (c2 : PySem.W.codeIn K cd2 "read_tree" = true)
    (k2 : PySem.W.keepIn K (.ref f2) = true)
    (a3 : PySem.W.nsIn K mainGlobals "write_string" = some (some (.ref f3)))
    (l3 : K.lookup f3 = some ⟨oc3, od3, .func (PySem.W.fnOf "write_string" "write_string" (defArgs sWS) (defBody sWS) (defScope sWS) .none kV3 dc3 pm3 an3 cd3 ct3), sl3⟩)
    (c3 : PySem.W.codeIn K cd3 "write_string" = true)
    (k3 : PySem.W.keepIn K (.ref f3) = true)
    (a4 : PySem.W.nsIn K mainGlobals "write_tree" = some (some (.ref f4)))
    (l4 : K.lookup f4 = some ⟨oc4, od4, .func (PySem.W.fnOf "write_tree" "write_tree" (defArgs sWT) (defBody sWT) (defScope sWT) .none kV4 dc4 pm4 an4 cd4 ct4), sl4⟩)
    (c4 : PySem.W.codeIn K cd4 "write_tree" = true)
    (k4 : PySem.W.keepIn K (.ref f4) = true)
    (a5 : PySem.W.nsIn K mainGlobals "_law_written" = some (some (.ref f5)))
    (l5 : K.lookup f5 = some ⟨oc5, od5, .func (PySem.W.fnOf "_law_written" "_law_written" (defArgs sWritten) (defBody sWritten) (defScope sWritten) .none kV5 dc5 pm5 an5 cd5 ct5), sl5⟩)
    (c5 : PySem.W.codeIn K cd5 "_law_written" = true)
    (k5 : PySem.W.keepIn K (.ref f5) = true)
    (a6 : PySem.W.nsIn K mainGlobals "_law_behind" = some (some (.ref f6)))
    (l6 : K.lookup f6 = some ⟨oc6, od6, .func (PySem.W.fnOf "_law_behind" "_law_behind" (defArgs sBehind) (defBody sBehind) (defScope sBehind) .none kV6 dc6 pm6 an6 cd6 ct6), sl6⟩)
    (c6 : PySem.W.codeIn K cd6 "_law_behind" = true)
    (k6 : PySem.W.keepIn K (.ref f6) = true)
    (a7 : PySem.W.nsIn K mainGlobals "_law_begins" = some (some (.ref f7)))
    (l7 : K.lookup f7 = some ⟨oc7, od7, .func (PySem.W.fnOf "_law_begins" "_law_begins" (defArgs sBegins) (defBody sBegins) (defScope sBegins) .none kV7 dc7 pm7 an7 cd7 ct7), sl7⟩)
    (c7 : PySem.W.codeIn K cd7 "_law_begins" = true)
    (k7 : PySem.W.keepIn K (.ref f7) = true)
    (a8 : PySem.W.nsIn K mainGlobals "_law_fits" = some (some (.ref f8)))
    (l8 : K.lookup f8 = some ⟨oc8, od8, .func (PySem.W.fnOf "_law_fits" "_law_fits" (defArgs sFits) (defBody sFits) (defScope sFits) .none kV8 dc8 pm8 an8 cd8 ct8), sl8⟩)
    (c8 : PySem.W.codeIn K cd8 "_law_fits" = true)
    (k8 : PySem.W.keepIn K (.ref f8) = true)
    (a9 : PySem.W.nsIn K mainGlobals "_law_wrong_at" = some (some (.ref f9)))
    (l9 : K.lookup f9 = some ⟨oc9, od9, .func (PySem.W.fnOf "_law_wrong_at" "_law_wrong_at" (defArgs sWrong) (defBody sWrong) (defScope sWrong) .none kV9 dc9 pm9 an9 cd9 ct9), sl9⟩)
    (c9 : PySem.W.codeIn K cd9 "_law_wrong_at" = true)
    (k9 : PySem.W.keepIn K (.ref f9) = true)
    (a10 : PySem.W.nsIn K mainGlobals "_law_read_told" = some (some (.ref f10)))
    (l10 : K.lookup f10 = some ⟨oc10, od10, .func (PySem.W.fnOf "_law_read_told" "_law_read_told" (defArgs sTold) (defBody sTold) (defScope sTold) .none kV10 dc10 pm10 an10 cd10 ct10), sl10⟩)
    (c10 : PySem.W.codeIn K cd10 "_law_read_told" = true)
    (k10 : PySem.W.keepIn K (.ref f10) = true)
    (a11 : PySem.W.nsIn K mainGlobals "_law_read_due" = some (some (.ref f11)))
    (l11 : K.lookup f11 = some ⟨oc11, od11, .func (PySem.W.fnOf "_law_read_due" "_law_read_due" (defArgs sDue) (defBody sDue) (defScope sDue) .none kV11 dc11 pm11 an11 cd11 ct11), sl11⟩)
    (c11 : PySem.W.codeIn K cd11 "_law_read_due" = true)
    (k11 : PySem.W.keepIn K (.ref f11) = true)
    (a12 : PySem.W.nsIn K mainGlobals "_law_pen" = some (some (.ref f12)))
    (l12 : K.lookup f12 = some ⟨oc12, od12, .func (PySem.W.fnOf "_law_pen" "_law_pen" (defArgs sPen) (defBody sPen) (defScope sPen) .none kV12 dc12 pm12 an12 cd12 ct12), sl12⟩)
    (c12 : PySem.W.codeIn K cd12 "_law_pen" = true)
    (k12 : PySem.W.keepIn K (.ref f12) = true)
    (a13 : PySem.W.nsIn K mainGlobals "_law_draw" = some (some (.ref f13)))
    (l13 : K.lookup f13 = some ⟨oc13, od13, .func (PySem.W.fnOf "_law_draw" "_law_draw" (defArgs sDraw) (defBody sDraw) (defScope sDraw) .none kV13 dc13 pm13 an13 cd13 ct13), sl13⟩)
    (c13 : PySem.W.codeIn K cd13 "_law_draw" = true)
    (k13 : PySem.W.keepIn K (.ref f13) = true)
    (a14 : PySem.W.nsIn K mainGlobals "_law_pick" = some (some (.ref f14)))
    (l14 : K.lookup f14 = some ⟨oc14, od14, .func (PySem.W.fnOf "_law_pick" "_law_pick" (defArgs sPick) (defBody sPick) (defScope sPick) .none kV14 dc14 pm14 an14 cd14 ct14), sl14⟩)
    (c14 : PySem.W.codeIn K cd14 "_law_pick" = true)
    (k14 : PySem.W.keepIn K (.ref f14) = true)
    (a15 : PySem.W.nsIn K mainGlobals "_law_parts_text" = some (some (.ref f15)))
    (l15 : K.lookup f15 = some ⟨oc15, od15, .func (PySem.W.fnOf "_law_parts_text" "_law_parts_text" (defArgs sParts) (defBody sParts) (defScope sParts) .none kV15 dc15 pm15 an15 cd15 ct15), sl15⟩)
    (c15 : PySem.W.codeIn K cd15 "_law_parts_text" = true)
    (k15 : PySem.W.keepIn K (.ref f15) = true)
    (a16 : PySem.W.nsIn K mainGlobals "law" = some (some (.ref f16)))
    (l16 : K.lookup f16 = some ⟨oc16, od16, .func (PySem.W.fnOf "law" "law" (defArgs sLaw) (defBody sLaw) (defScope sLaw) .none kV16 dc16 pm16 an16 cd16 ct16), sl16⟩)
    (c16 : PySem.W.codeIn K cd16 "law" = true)
    (k16 : PySem.W.keepIn K (.ref f16) = true)
    (a17 : PySem.W.findIn K (.ref C) "__init__" = some (some (.ref f17)))
    (i17 : PySem.W.isFn K (.ref f17) = true)
    (l17 : K.lookup f17 = some ⟨oc17, od17, .func (PySem.W.fnOf "__init__" "Reader.__init__" (defArgs (rdS 0)) (defBody (rdS 0)) (defScope (rdS 0)) .none kV17 dc17 pm17 an17 cd17 ct17), sl17⟩)
    (c17 : PySem.W.codeIn K cd17 "Reader.__init__" = true)
    (k17 : PySem.W.keepIn K (.ref f17) = true)
    (a18 : PySem.W.findIn K (.ref C) "sign" = some (some (.ref f18)))
    (i18 : PySem.W.isFn K (.ref f18) = true)
    (l18 : K.lookup f18 = some ⟨oc18, od18, .func (PySem.W.fnOf "sign" "Reader.sign" (defArgs (rdS 1)) (defBody (rdS 1)) (defScope (rdS 1)) .none kV18 dc18 pm18 an18 cd18 ct18), sl18⟩)
    (c18 : PySem.W.codeIn K cd18 "Reader.sign" = true)
    (k18 : PySem.W.keepIn K (.ref f18) = true)
    (a19 : PySem.W.findIn K (.ref C) "need" = some (some (.ref f19)))
    (i19 : PySem.W.isFn K (.ref f19) = true)
    (l19 : K.lookup f19 = some ⟨oc19, od19, .func (PySem.W.fnOf "need" "Reader.need" (defArgs (rdS 2)) (defBody (rdS 2)) (defScope (rdS 2)) .none kV19 dc19 pm19 an19 cd19 ct19), sl19⟩)
    (c19 : PySem.W.codeIn K cd19 "Reader.need" = true)
    (k19 : PySem.W.keepIn K (.ref f19) = true)
    (a20 : PySem.W.findIn K (.ref C) "has_room" = some (some (.ref f20)))
    (i20 : PySem.W.isFn K (.ref f20) = true)
    (l20 : K.lookup f20 = some ⟨oc20, od20, .func (PySem.W.fnOf "has_room" "Reader.has_room" (defArgs (rdS 3)) (defBody (rdS 3)) (defScope (rdS 3)) .none kV20 dc20 pm20 an20 cd20 ct20), sl20⟩)
    (c20 : PySem.W.codeIn K cd20 "Reader.has_room" = true)
    (k20 : PySem.W.keepIn K (.ref f20) = true)
    (a21 : PySem.W.findIn K (.ref C) "step" = some (some (.ref f21)))
    (i21 : PySem.W.isFn K (.ref f21) = true)
    (l21 : K.lookup f21 = some ⟨oc21, od21, .func (PySem.W.fnOf "step" "Reader.step" (defArgs (rdS 4)) (defBody (rdS 4)) (defScope (rdS 4)) .none kV21 dc21 pm21 an21 cd21 ct21), sl21⟩)
    (c21 : PySem.W.codeIn K cd21 "Reader.step" = true)
    (k21 : PySem.W.keepIn K (.ref f21) = true)
    (a22 : PySem.W.findIn K (.ref C) "read" = some (some (.ref f22)))
    (i22 : PySem.W.isFn K (.ref f22) = true)
    (l22 : K.lookup f22 = some ⟨oc22, od22, .func (PySem.W.fnOf "read" "Reader.read" (defArgs (rdS 5)) (defBody (rdS 5)) (defScope (rdS 5)) .none kV22 dc22 pm22 an22 cd22 ct22), sl22⟩)
    (c22 : PySem.W.codeIn K cd22 "Reader.read" = true)
    (k22 : PySem.W.keepIn K (.ref f22) = true)
    (a23 : PySem.W.findIn K (.ref C) "read_tuple" = some (some (.ref f23)))
    (i23 : PySem.W.isFn K (.ref f23) = true)
    (l23 : K.lookup f23 = some ⟨oc23, od23, .func (PySem.W.fnOf "read_tuple" "Reader.read_tuple" (defArgs (rdS 6)) (defBody (rdS 6)) (defScope (rdS 6)) .none kV23 dc23 pm23 an23 cd23 ct23), sl23⟩)
    (c23 : PySem.W.codeIn K cd23 "Reader.read_tuple" = true)
    (k23 : PySem.W.keepIn K (.ref f23) = true)
    (a24 : PySem.W.findIn K (.ref C) "read_string" = some (some (.ref f24)))
    (i24 : PySem.W.isFn K (.ref f24) = true)
    (l24 : K.lookup f24 = some ⟨oc24, od24, .func (PySem.W.fnOf "read_string" "Reader.read_string" (defArgs (rdS 7)) (defBody (rdS 7)) (defScope (rdS 7)) .none kV24 dc24 pm24 an24 cd24 ct24), sl24⟩)
    (c24 : PySem.W.codeIn K cd24 "Reader.read_string" = true)
    (k24 : PySem.W.keepIn K (.ref f24) = true)
    (a25 : PySem.W.findIn K (.ref C) "read_written" = some (some (.ref f25)))
    (i25 : PySem.W.isFn K (.ref f25) = true)
    (l25 : K.lookup f25 = some ⟨oc25, od25, .func (PySem.W.fnOf "read_written" "Reader.read_written" (defArgs (rdS 8)) (defBody (rdS 8)) (defScope (rdS 8)) .none kV25 dc25 pm25 an25 cd25 ct25), sl25⟩)
    (c25 : PySem.W.codeIn K cd25 "Reader.read_written" = true)
    (k25 : PySem.W.keepIn K (.ref f25) = true)
    (a26 : PySem.W.findIn K (.ref C) "read_number" = some (some (.ref f26)))
    (i26 : PySem.W.isFn K (.ref f26) = true)
    (l26 : K.lookup f26 = some ⟨oc26, od26, .func (PySem.W.fnOf "read_number" "Reader.read_number" (defArgs (rdS 9)) (defBody (rdS 9)) (defScope (rdS 9)) .none kV26 dc26 pm26 an26 cd26 ct26), sl26⟩)
    (c26 : PySem.W.codeIn K cd26 "Reader.read_number" = true)
    (k26 : PySem.W.keepIn K (.ref f26) = true)
    (a27 : PySem.W.findIn K (.ref C) "read_digits" = some (some (.ref f27)))
    (i27 : PySem.W.isFn K (.ref f27) = true)
    (l27 : K.lookup f27 = some ⟨oc27, od27, .func (PySem.W.fnOf "read_digits" "Reader.read_digits" (defArgs (rdS 10)) (defBody (rdS 10)) (defScope (rdS 10)) .none kV27 dc27 pm27 an27 cd27 ct27), sl27⟩)
    (c27 : PySem.W.codeIn K cd27 "Reader.read_digits" = true)
    (k27 : PySem.W.keepIn K (.ref f27) = true)
    (pg : PySem.W.plainGet K C Str.empty = true)
    (hd : PySem.W.hasDictIn K C = true)
    (po : PySem.W.plainOver K C = true)
    (sa : PySem.W.findIn K (.ref C) "__setattr__" = some (some (.builtin "object.__setattr__")))
    (mk : PySem.W.makesIn K C = true)
    (kc : PySem.W.keepIn K (.ref C) = true)
    (nT : PySem.W.findIn K (.ref C) "text" = some none)
    (nA' : PySem.W.findIn K (.ref C) "at" = some none)
    (nP : PySem.W.findIn K (.ref C) "parts" = some none)
    (nB' : PySem.W.findIn K (.ref C) "is_bounded" = some none)
    (g1 : PySem.W.nsIn K mainGlobals "MAX_PARTS" = some (some (.int 2000 t1)))
    (g2 : PySem.W.nsIn K mainGlobals "MAX_DEPTH" = some (some (.int 30 t2)))
    (g3 : PySem.W.nsIn K mainGlobals "MORE_DEPTH" = some (some (.int 4 t3)))
    (g4 : PySem.W.nsIn K mainGlobals "MAX_DIGITS" = some (some (.int 100 t4)))
    (g5 : PySem.W.nsIn K mainGlobals "DIGITS" = some (some (.str (Str.ofString "0123456789") t5)))
    (g6 : PySem.W.nsIn K mainGlobals "SIGNS" = some (some (.str (Str.ofString " !\"#$&'()*+,-./0123456789:;<=>?@ABCDEFGHIJKLMNOPQRSTUVWXYZ[\\]^_`abcdefghijklmnopqrstuvwxyz{|}~") t6)))
    (aW : PySem.W.nsIn K mainGlobals "WRITTEN" = some (some (.ref dW)))
    (lW : K.lookup dW = some ⟨.type "dict", none, .dict #[⟨h1, .str (Str.ofString "y") u1, .ref tY⟩, ⟨h2, .str (Str.ofString "n") u2, .ref tN⟩] nW, #[]⟩)
    (lY : K.lookup tY = some ⟨.type "tuple", odY, .seq #[.str (Str.ofString "yes") u3, .bool true] nY, slY⟩)
    (lN : K.lookup tN = some ⟨.type "tuple", odN, .seq #[.str (Str.ofString "no") u4, .bool false] nN, slN⟩)
    (xA : PySem.W.nsIn K mainGlobals "NoText" = some (some (.ref CN)))
    (xL : K.lookup CN = some (excClassObj nm q CN Nn bs [.type "ValueError", .type "Exception", .type "BaseException", .type "object"] true sn sub ab col dd m0 m1 m2 m3 m5 "ValueError.__new__"))
    (x1 : PySem.W.findIn K (.ref CN) "__setattr__" = some (some (.builtin "object.__setattr__")))
    (x2 : PySem.W.findIn K (.ref CN) "__getattribute__" = some (some (.builtin "BaseException.__getattribute__")))
    (x3 : PySem.W.findIn K (.ref CN) "__getattr__" = some none)
    (x4 : PySem.W.findIn K (.ref CN) "index" = some none)
    (x5 : PySem.W.findIn K (.ref CN) "__init__" = some (some (.ref fI)))
    (x6 : PySem.W.typeIn K (.ref fI) = some (.type "function"))
    (x7 : PySem.W.keepIn K (.ref CN) = true)
    (x8 : PySem.W.subIn K (.ref CN) (.type "BaseException") = some true)
    (x9 : PySem.W.subIn K (.ref CN) (.type "ValueError") = some true)
    (x10 : PySem.W.typeIn K (.ref CN) = some (.type "type"))
    (x11 : PySem.W.hasDictIn K CN = true)
    (x12 : PySem.W.exmOne K (.ref CN) (.ref CN) = some true)
    (x13 : PySem.W.mroIn K CN (.ref CN) = some true)
    (x14 : PySem.W.ks_superIn K CN CN "__init__" = some (some (.builtin "ValueError.__init__")))
    (x15 : PySem.W.nsIn K cStatics "thirdparty.any" = some none)
    (x16 : PySem.W.nsIn K mainGlobals "super" = some none)
    (x17 : K.lookup fI = some ⟨ocI, odI, .func (PySem.W.ksFn "__init__" "NoText.__init__" nA nB nS .none .none dcI pmI anI (.ref cda) ctI cc), slI⟩)
    (x18 : PySem.W.codeIn K (.ref cda) "NoText.__init__" = true)
    (x19 : K.lookup cda = some ⟨ccl, cdd, .fields vs, ccs⟩)
    (x20 : K.lookup cc = some ⟨cl, cld, .cell (some (.ref CN)), csl⟩)
    (x21 : PySem.W.findIn K (.ref CN) "__class__" = some (some (.builtin "object.__class__")))
    (x22 : PySem.W.specialIn K (.builtin "object.__class__") "__get__" = some (some (.builtin "getset_descriptor.__get__")))
    (x23 : PySem.W.takesIn K (.builtin "object.__class__") = some true)
    (x24 : PySem.W.mroIn K CN (.type "object") = some true)
    (x25 : PySem.W.kitOne K (.ref CN) (.type "ValueError") = some true)
    (x26 : PySem.W.nsIn K mainGlobals "ValueError" = some none)
    (v1 : vs[2]? = some (.str file tf))
    (v2 : ((P.main.file : Str) == file) = true)
    (v3 : (P.main.scope.names.lookup ("super" : Str)).isSome = false)
    (w1 : h1 = PyData.keyHash w.params (Str.ofString "y"))
    (w2 : h2 = PyData.keyHash w.params (Str.ofString "n"))
    (w3 : (dW == sysModules) = false)
    (z1 : PySem.W.nsIn K mainGlobals "isinstance" = some none)
    (z2 : PySem.W.nsIn K mainGlobals "tuple" = some none)
    (z3 : PySem.W.nsIn K mainGlobals "str" = some none)
    (z4 : PySem.W.nsIn K mainGlobals "bool" = some none)
    (z5 : PySem.W.nsIn K mainGlobals "len" = some none)
    (z6 : PySem.W.nsIn K mainGlobals "int" = some none)
    (z7 : PySem.W.nsIn K mainGlobals "range" = some none)
    (z8 : PySem.W.nsIn K mainGlobals "repr" = some none)
    (z9 : PySem.W.nsIn K mainGlobals "list" = some none)
    (z10 : PySem.W.nsIn K mainGlobals "abs" = some none)
    (z11 : PySem.W.nsIn K mainGlobals "min" = some none) :
    ∃ fd : FuncData, Fun K "law" "law" sLaw fa fd ∧ (∀ (s : Shared) (u : Value), BindsTo s fd ⟨[u], []⟩ [("_law_script", u)]) ∧
      ∀ (bs : Heap) (s : Shared) (H : Hp) (cdv : Value) (a : Addr) (ns : List Int), K.In bs → bs.Ns mainGlobals mg → ns.length ≤ 63 → SqL K H a (ns.map V.int) → Room 70 (callerA.deeper (PyProof.Rows.envOfC "law" (defScope sLaw) s.heap.objs.size fa cdv)) →
        ∃ t, PSs (cxOf CX0 P w K mg bs lawN "law" (defScope sLaw) fa cdv callerA [] s H E0).nox (defBody sLaw) t ∧
          t { nx := fun _ _ => False, rt := fun v _ => v = .bl true } (L2.start lawN [.ref a]) H := by
  have e := hfa.symm.trans (PySem.W.mg_of X G a16)
  cases e
  have B : Bn mg := ⟨PySem.W.mg_none_of X G z1, PySem.W.mg_none_of X G z2, PySem.W.mg_none_of X G z3, PySem.W.mg_none_of X G z4, PySem.W.mg_none_of X G z5, PySem.W.mg_none_of X G z6, PySem.W.mg_none_of X G z7, PySem.W.mg_none_of X G z8, PySem.W.mg_none_of X G z9, PySem.W.mg_none_of X G z10, PySem.W.mg_none_of X G z11⟩
  have T : RTxt K mg C := ⟨⟨pg, hd, po, sa⟩, nT, nA', nP, nB', PySem.W.mg_of X G aC, ⟨t1, PySem.W.mg_of X G g1⟩, ⟨t2, PySem.W.mg_of X G g2⟩, ⟨t3, PySem.W.mg_of X G g3⟩, ⟨t4, PySem.W.mg_of X G g4⟩, ⟨t5, by rw [← dig_ofs]; exact PySem.W.mg_of X G g5⟩, ⟨t6, by rw [← sgn_ofs]; exact PySem.W.mg_of X G g6⟩⟩
  have Wt : WTxt K w mg dW tY tN := wtxt (PySem.W.mg_of X G aW) lW lY lN w1 w2 w3
  have N : NoTx P K mg CN fI :=
    { gC := PySem.W.mg_of X G xA, cls := ⟨nm, q, Nn, bs, _, sn, sub, ab, col, dd, m0, m1, m2, m3, m5, xL, by decide +kernel⟩, sa := x1, ga := x2, gg := x3, noN := x4, iC := x5, tC := x6, kC := x7, exC := x8, veC := x9, tyC := x10, hdC := x11, te := x12, mro := x13, along := x14,
      third := x15, sup := PySem.W.mg_none_of X G x16, top := v3, fn := ⟨ocI, odI, dcI, pmI, anI, cda, cc, ctI, slI, ccl, cl, cdd, cld, vs, ccs, csl, file, tf, x17, x18, x19, v1, v2, x20⟩ }
  have XC : ExcC K CN := ⟨x2, x3, x8, x11, x21, x22, x23, x24⟩
  have F1 := fun_mk (st := sRW) l1 c1 k1
  have b1 := F1.binds (ps := ["text", "is_bounded"]) fun _ _ _ _ _ _ us hl => match us, hl with | [_, _], _ => rfl
  have m1 := PySem.W.mg_of X G a1
  have F2 := fun_mk (st := sRT) l2 c2 k2
  have b2 := F2.binds (ps := ["text"]) fun _ _ _ _ _ _ us hl => match us, hl with | [_], _ => rfl
  have m2 := PySem.W.mg_of X G a2
  have F3 := fun_mk (st := sWS) l3 c3 k3
  have b3 := F3.binds (ps := ["text"]) fun _ _ _ _ _ _ us hl => match us, hl with | [_], _ => rfl
  have m3 := PySem.W.mg_of X G a3
  have F4 := fun_mk (st := sWT) l4 c4 k4
  have b4 := F4.binds (ps := ["tree"]) fun _ _ _ _ _ _ us hl => match us, hl with | [_], _ => rfl
  have m4 := PySem.W.mg_of X G a4
  have F5 := fun_mk (st := sWritten) l5 c5 k5
  have b5 := F5.binds (ps := ["_law_tree"]) fun _ _ _ _ _ _ us hl => match us, hl with | [_], _ => rfl
  have m5 := PySem.W.mg_of X G a5
  have F6 := fun_mk (st := sBehind) l6 c6 k6
  have b6 := F6.binds (ps := ["_law_here", "_law_sign"]) fun _ _ _ _ _ _ us hl => match us, hl with | [_, _], _ => rfl
  have m6 := PySem.W.mg_of X G a6
  have F7 := fun_mk (st := sBegins) l7 c7 k7
  have b7 := F7.binds (ps := ["_law_here", "_law_sign"]) fun _ _ _ _ _ _ us hl => match us, hl with | [_, _], _ => rfl
  have m7 := PySem.W.mg_of X G a7
  have F8 := fun_mk (st := sFits) l8 c8 k8
  have b8 := F8.binds (ps := ["_law_here", "_law_sign"]) fun _ _ _ _ _ _ us hl => match us, hl with | [_, _], _ => rfl
  have m8 := PySem.W.mg_of X G a8
  have F9 := fun_mk (st := sWrong) l9 c9 k9
  have b9 := F9.binds (ps := ["_law_text"]) fun _ _ _ _ _ _ us hl => match us, hl with | [_], _ => rfl
  have m9 := PySem.W.mg_of X G a9
  have F10 := fun_mk (st := sTold) l10 c10 k10
  have b10 := F10.binds (ps := ["_law_value"]) fun _ _ _ _ _ _ us hl => match us, hl with | [_], _ => rfl
  have m10 := PySem.W.mg_of X G a10
  have F11 := fun_mk (st := sDue) l11 c11 k11
  have b11 := F11.binds (ps := ["_law_value"]) fun _ _ _ _ _ _ us hl => match us, hl with | [_], _ => rfl
  have m11 := PySem.W.mg_of X G a11
  have F12 := fun_mk (st := sPen) l12 c12 k12
  have b12 := F12.binds (ps := ["_law_script"]) fun _ _ _ _ _ _ us hl => match us, hl with | [_], _ => rfl
  have m12 := PySem.W.mg_of X G a12
  have F13 := fun_mk (st := sDraw) l13 c13 k13
  have b13 := F13.binds (ps := ["_law_pen_here", "_law_many"]) fun _ _ _ _ _ _ us hl => match us, hl with | [_, _], _ => rfl
  have m13 := PySem.W.mg_of X G a13
  have F14 := fun_mk (st := sPick) l14 c14 k14
  have b14 := F14.binds (ps := ["_law_pen_here", "_law_items"]) fun _ _ _ _ _ _ us hl => match us, hl with | [_, _], _ => rfl
  have m14 := PySem.W.mg_of X G a14
  have F15 := fun_mk (st := sParts) l15 c15 k15
  have b15 := F15.binds (ps := ["_law_pen_here", "_law_many"]) fun _ _ _ _ _ _ us hl => match us, hl with | [_, _], _ => rfl
  have m15 := PySem.W.mg_of X G a15
  have F16 := fun_mk (st := sLaw) l16 c16 k16
  have b16 := F16.binds (ps := ["_law_script"]) fun _ _ _ _ _ _ us hl => match us, hl with | [_], _ => rfl
  have m16 := PySem.W.mg_of X G a16
  have F17 := fun_mk (st := rdS 0) l17 c17 k17
  have b17 := F17.binds (ps := ["self", "text", "is_bounded"]) fun _ _ _ _ _ _ us hl => match us, hl with | [_, _, _], _ => rfl
  have F18 := fun_mk (st := rdS 1) l18 c18 k18
  have b18 := F18.binds (ps := ["self"]) fun _ _ _ _ _ _ us hl => match us, hl with | [_], _ => rfl
  have F19 := fun_mk (st := rdS 2) l19 c19 k19
  have b19 := F19.binds (ps := ["self", "fits"]) fun _ _ _ _ _ _ us hl => match us, hl with | [_, _], _ => rfl
  have F20 := fun_mk (st := rdS 3) l20 c20 k20
  have b20 := F20.binds (ps := ["self"]) fun _ _ _ _ _ _ us hl => match us, hl with | [_], _ => rfl
  have F21 := fun_mk (st := rdS 4) l21 c21 k21
  have b21 := F21.binds (ps := ["self"]) fun _ _ _ _ _ _ us hl => match us, hl with | [_], _ => rfl
  have F22 := fun_mk (st := rdS 5) l22 c22 k22
  have b22 := F22.binds (ps := ["self", "depth"]) fun _ _ _ _ _ _ us hl => match us, hl with | [_, _], _ => rfl
  have F23 := fun_mk (st := rdS 6) l23 c23 k23
  have b23 := F23.binds (ps := ["self", "depth"]) fun _ _ _ _ _ _ us hl => match us, hl with | [_, _], _ => rfl
  have F24 := fun_mk (st := rdS 7) l24 c24 k24
  have b24 := F24.binds (ps := ["self"]) fun _ _ _ _ _ _ us hl => match us, hl with | [_], _ => rfl
  have F25 := fun_mk (st := rdS 8) l25 c25 k25
  have b25 := F25.binds (ps := ["self", "sign"]) fun _ _ _ _ _ _ us hl => match us, hl with | [_, _], _ => rfl
  have F26 := fun_mk (st := rdS 9) l26 c26 k26
  have b26 := F26.binds (ps := ["self"]) fun _ _ _ _ _ _ us hl => match us, hl with | [_], _ => rfl
  have F27 := fun_mk (st := rdS 10) l27 c27 k27
  have b27 := F27.binds (ps := ["self"]) fun _ _ _ _ _ _ us hl => match us, hl with | [_], _ => rfl
  have M : Meths K C f18 f19 f20 f21 f22 f23 f24 f25 f26 f27 _ _ _ _ _ _ _ _ _ _ := ⟨⟨F18, ⟨a18, i18, k18⟩, b18⟩, ⟨F19, ⟨a19, i19, k19⟩, b19⟩, ⟨F20, ⟨a20, i20, k20⟩, b20⟩, ⟨F21, ⟨a21, i21, k21⟩, b21⟩, ⟨F22, ⟨a22, i22, k22⟩, b22⟩, ⟨F23, ⟨a23, i23, k23⟩, b23⟩, ⟨F24, ⟨a24, i24, k24⟩, b24⟩, ⟨F25, ⟨a25, i25, k25⟩, b25⟩, ⟨F26, ⟨a26, i26, k26⟩, b26⟩, ⟨F27, ⟨a27, i27, k27⟩, b27⟩⟩
  refine ⟨_, F16, fun s u => .of_eq rfl, fun bs s H cdv a ns _ _ h63 hS hr => ?_⟩
  have gDraw : FnOk P w K mg bs CX0 1 f13 _ ["_law_pen_here", "_law_many"] spDraw := ok_draw B F13
  have gPick : FnOk P w K mg bs CX0 2 f14 _ ["_law_pen_here", "_law_items"] spPick := ok_pick (k := 0) B F13 b13 m13 F14
  have gRW : FnOk P w K mg bs (L2.CX P w) 68 f1 _ ["text", "is_bounded"] (spRW K CN) := ok_rw B T N Wt M ⟨mk, a17, i17, kc⟩ F17 b17 F1
  have gRT : FnOk P w K mg bs (L2.CX P w) 69 f2 _ ["text"] (spRT K CN) := ok_rt F1 b1 m1 gRW F2
  have gWr : FnOk P w K mg bs CX0 31 f5 _ ["_law_tree"] (spWT K 30) := ok_written B F5 m5 b5 30
  have gBeh : FnOk P w K mg bs CX0 1 f6 _ ["_law_here", "_law_sign"] (spAuto behind) := ok_behind (k := 0) F6
  have gBeg : FnOk P w K mg bs CX0 1 f7 _ ["_law_here", "_law_sign"] (spAuto begins) := ok_begins (k := 0) B F7
  have gFit : FnOk P w K mg bs CX0 2 f8 _ ["_law_here", "_law_sign"] (spAuto fitsA) := ok_fits (k := 0) F7 b7 m7 gBeg F6 b6 m6 gBeh F8
  have gWro : FnOk P w K mg bs CX0 3 f9 _ ["_law_text"] spWrong := ok_wrong (k := 0) B F8 b8 m8 gFit F9
  exact law_body B ⟨⟨f12, _, m12, k12, b12, ok_pen (k := 0) B F12⟩⟩ ⟨⟨f14, _, m14, k14, b14, gPick⟩⟩ ⟨⟨f13, _, m13, k13, b13, gDraw⟩⟩ ⟨⟨f15, _, m15, k15, b15, ok_parts (k := 0) B k14 b14 m14 gPick F15⟩⟩ ⟨⟨f4, _, m4, k4, b4, ok_wt B F4 m4 b4 F3 m3 b3 30⟩⟩ ⟨⟨f10, _, m10, k10, b10, ok_told B N XC x25 (PySem.W.mg_none_of X G x26) k5 b5 m5 gWr k2 b2 m2 gRT F10⟩⟩ ⟨⟨f11, _, m11, k11, b11, ok_due (k := 0) B k9 b9 m9 gWro F11⟩⟩ k2 b2 m2 gRT h63 hS hr
end DS
open PySem PySem.W PyProof.Rows
set_option Elab.async false
set_option maxRecDepth 100000 in
set_option maxHeartbeats 0 in
theorem PySem.Challenge.cw_deedstore_k02_bounds_of_trees_holds : PySem.Challenge.rw_deedstore_k02_bounds_of_trees.Holds := by
  w_on; o_law; k_head; (case hw => w_witness2)
  k_fill
  refine DS.walk_at (l := PySem.Challenge.rw_deedstore_k02_bounds_of_trees) (st := DS.sLaw) (lv := 70) rfl rfl DS.scLaw ⟨rfl, by decide, by decide⟩ (fun w h Y => PySem.W.kIn_of Y) ?F
  case F =>
    intro w mg fa h KX G hmg
    refine' DS.all_mk KX G hmg ?aC ?a1 ?l1 ?c1 ?k1 ?a2 ?l2 ?c2 ?k2 ?a3 ?l3 ?c3 ?k3 ?a4 ?l4 ?c4 ?k4 ?a5 ?l5 ?c5 ?k5 ?a6 ?l6 ?c6 ?k6 ?a7 ?l7 ?c7 ?k7 ?a8 ?l8 ?c8 ?k8 ?a9 ?l9 ?c9 ?k9 ?a10 ?l10 ?c10 ?k10 ?a11 ?l11 ?c11 ?k11 ?a12 ?l12 ?c12 ?k12 ?a13 ?l13 ?c13 ?k13 ?a14 ?l14 ?c14 ?k14 ?a15 ?l15 ?c15 ?k15 ?a16 ?l16 ?c16 ?k16 ?a17 ?i17 ?l17 ?c17 ?k17 ?a18 ?i18 ?l18 ?c18 ?k18 ?a19 ?i19 ?l19 ?c19 ?k19 ?a20 ?i20 ?l20 ?c20 ?k20 ?a21 ?i21 ?l21 ?c21 ?k21 ?a22 ?i22 ?l22 ?c22 ?k22 ?a23 ?i23 ?l23 ?c23 ?k23 ?a24 ?i24 ?l24 ?c24 ?k24 ?a25 ?i25 ?l25 ?c25 ?k25 ?a26 ?i26 ?l26 ?c26 ?k26 ?a27 ?i27 ?l27 ?c27 ?k27 ?pg ?hd ?po ?sa ?mk ?kc ?nT ?nAq ?nP ?nBq ?g1 ?g2 ?g3 ?g4 ?g5 ?g6 ?aW ?lW ?lY ?lN ?xA ?xL ?x1 ?x2 ?x3 ?x4 ?x5 ?x6 ?x7 ?x8 ?x9 ?x10 ?x11 ?x12 ?x13 ?x14 ?x15 ?x16 ?x17 ?x18 ?x19 ?x20 ?x21 ?x22 ?x23 ?x24 ?x25 ?x26 ?v1 ?v2 ?v3 ?w1 ?w2 ?w3 ?z1 ?z2 ?z3 ?z4 ?z5 ?z6 ?z7 ?z8 ?z9 ?z10 ?z11
    (case aC => first | k_is | rfl)
    (case a1 => first | k_is | rfl)
    (case l1 => first | k_is | rfl)
    (case c1 => first | k_is | rfl)
    (case k1 => first | k_is | rfl)
    (case a2 => first | k_is | rfl)
    (case l2 => first | k_is | rfl)
    (case c2 => first | k_is | rfl)
    (case k2 => first | k_is | rfl)
    (case a3 => first | k_is | rfl)
    (case l3 => first | k_is | rfl)
    (case c3 => first | k_is | rfl)
    (case k3 => first | k_is | rfl)
    (case a4 => first | k_is | rfl)
    (case l4 => first | k_is | rfl)
    (case c4 => first | k_is | rfl)
    (case k4 => first | k_is | rfl)
    (case a5 => first | k_is | rfl)
    (case l5 => first | k_is | rfl)
    (case c5 => first | k_is | rfl)
    (case k5 => first | k_is | rfl)
    (case a6 => first | k_is | rfl)
    (case l6 => first | k_is | rfl)
    (case c6 => first | k_is | rfl)
    (case k6 => first | k_is | rfl)
    (case a7 => first | k_is | rfl)
    (case l7 => first | k_is | rfl)
    (case c7 => first | k_is | rfl)
    (case k7 => first | k_is | rfl)
    (case a8 => first | k_is | rfl)
    (case l8 => first | k_is | rfl)
    (case c8 => first | k_is | rfl)
    (case k8 => first | k_is | rfl)
    (case a9 => first | k_is | rfl)
    (case l9 => first | k_is | rfl)
    (case c9 => first | k_is | rfl)
    (case k9 => first | k_is | rfl)
    (case a10 => first | k_is | rfl)
    (case l10 => first | k_is | rfl)
    (case c10 => first | k_is | rfl)
    (case k10 => first | k_is | rfl)
    (case a11 => first | k_is | rfl)
    (case l11 => first | k_is | rfl)
    (case c11 => first | k_is | rfl)
    (case k11 => first | k_is | rfl)
    (case a12 => first | k_is | rfl)
    (case l12 => first | k_is | rfl)
    (case c12 => first | k_is | rfl)
    (case k12 => first | k_is | rfl)
    (case a13 => first | k_is | rfl)
    (case l13 => first | k_is | rfl)
    (case c13 => first | k_is | rfl)
    (case k13 => first | k_is | rfl)
    (case a14 => first | k_is | rfl)
    (case l14 => first | k_is | rfl)
    (case c14 => first | k_is | rfl)
    (case k14 => first | k_is | rfl)
    (case a15 => first | k_is | rfl)
    (case l15 => first | k_is | rfl)
    (case c15 => first | k_is | rfl)
    (case k15 => first | k_is | rfl)
    (case a16 => first | k_is | rfl)
    (case l16 => first | k_is | rfl)
    (case c16 => first | k_is | rfl)
    (case k16 => first | k_is | rfl)
    (case a17 => first | k_is | rfl)
    (case i17 => first | k_is | rfl)
    (case l17 => first | k_is | rfl)
    (case c17 => first | k_is | rfl)
    (case k17 => first | k_is | rfl)
    (case a18 => first | k_is | rfl)
    (case i18 => first | k_is | rfl)
    (case l18 => first | k_is | rfl)
    (case c18 => first | k_is | rfl)
    (case k18 => first | k_is | rfl)
    (case a19 => first | k_is | rfl)
    (case i19 => first | k_is | rfl)
    (case l19 => first | k_is | rfl)
    (case c19 => first | k_is | rfl)
    (case k19 => first | k_is | rfl)
    (case a20 => first | k_is | rfl)
    (case i20 => first | k_is | rfl)
    (case l20 => first | k_is | rfl)
    (case c20 => first | k_is | rfl)
    (case k20 => first | k_is | rfl)
    (case a21 => first | k_is | rfl)
    (case i21 => first | k_is | rfl)
    (case l21 => first | k_is | rfl)
    (case c21 => first | k_is | rfl)
    (case k21 => first | k_is | rfl)
    (case a22 => first | k_is | rfl)
    (case i22 => first | k_is | rfl)
    (case l22 => first | k_is | rfl)
    (case c22 => first | k_is | rfl)
    (case k22 => first | k_is | rfl)
    (case a23 => first | k_is | rfl)
    (case i23 => first | k_is | rfl)
    (case l23 => first | k_is | rfl)
    (case c23 => first | k_is | rfl)
    (case k23 => first | k_is | rfl)
    (case a24 => first | k_is | rfl)
    (case i24 => first | k_is | rfl)
    (case l24 => first | k_is | rfl)
    (case c24 => first | k_is | rfl)
    (case k24 => first | k_is | rfl)
    (case a25 => first | k_is | rfl)
    (case i25 => first | k_is | rfl)
    (case l25 => first | k_is | rfl)
    (case c25 => first | k_is | rfl)
    (case k25 => first | k_is | rfl)
    (case a26 => first | k_is | rfl)
    (case i26 => first | k_is | rfl)
    (case l26 => first | k_is | rfl)
    (case c26 => first | k_is | rfl)
    (case k26 => first | k_is | rfl)
    (case a27 => first | k_is | rfl)
    (case i27 => first | k_is | rfl)
    (case l27 => first | k_is | rfl)
    (case c27 => first | k_is | rfl)
    (case k27 => first | k_is | rfl)
    (case pg => first | k_is | rfl)
    (case hd => first | k_is | rfl)
    (case po => first | k_is | rfl)
    (case sa => first | k_is | rfl)
    (case mk => first | k_is | rfl)
    (case kc => first | k_is | rfl)
    (case nT => first | k_is | rfl)
    (case nAq => first | k_is | rfl)
    (case nP => first | k_is | rfl)
    (case nBq => first | k_is | rfl)
    (case g1 => first | k_is | rfl)
    (case g2 => first | k_is | rfl)
    (case g3 => first | k_is | rfl)
    (case g4 => first | k_is | rfl)
    (case g5 => first | k_is | rfl)
    (case g6 => first | k_is | rfl)
    (case aW => first | k_is | rfl)
    (case lW => first | k_is | rfl)
    (case lY => first | k_is | rfl)
    (case lN => first | k_is | rfl)
    (case xA => first | k_is | rfl)
    (case xL => first | k_is | rfl)
    (case x1 => first | k_is | rfl)
    (case x2 => first | k_is | rfl)
    (case x3 => first | k_is | rfl)
    (case x4 => first | k_is | rfl)
    (case x5 => first | k_is | rfl)
    (case x6 => first | k_is | rfl)
    (case x7 => first | k_is | rfl)
    (case x8 => first | k_is | rfl)
    (case x9 => first | k_is | rfl)
    (case x10 => first | k_is | rfl)
    (case x11 => first | k_is | rfl)
    (case x12 => first | k_is | rfl)
    (case x13 => first | k_is | rfl)
    (case x14 => first | k_is | rfl)
    (case x15 => first | k_is | rfl)
    (case x16 => first | k_is | rfl)
    (case x17 => first | k_is | rfl)
    (case x18 => first | k_is | rfl)
    (case x19 => first | k_is | rfl)
    (case x20 => first | k_is | rfl)
    (case x21 => first | k_is | rfl)
    (case x22 => first | k_is | rfl)
    (case x23 => first | k_is | rfl)
    (case x24 => first | k_is | rfl)
    (case x25 => first | k_is | rfl)
    (case x26 => first | k_is | rfl)
    (case v1 => rfl)
    (case v2 => first | rfl | decide | decide +kernel)
    (case v3 => first | rfl | decide | decide +kernel)
    (case w1 => rfl)
    (case w2 => rfl)
    (case w3 => first | rfl | decide | decide +kernel)
    (case z1 => first | k_is | rfl)
    (case z2 => first | k_is | rfl)
    (case z3 => first | k_is | rfl)
    (case z4 => first | k_is | rfl)
    (case z5 => first | k_is | rfl)
    (case z6 => first | k_is | rfl)
    (case z7 => first | k_is | rfl)
    (case z8 => first | k_is | rfl)
    (case z9 => first | k_is | rfl)
    (case z10 => first | k_is | rfl)
    (case z11 => first | k_is | rfl)
