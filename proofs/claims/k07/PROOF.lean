import PyProof.Rows.All
import Wide.All
import OpenK.AllK
import Wide.FinOn
import KE.IntTextLaws
import KE.KIntText
import PyProof.ReprReads
import PyProof.StrLawsRepr
import HandS.ForMost
import HandS.Walk
import HandS.Flow
import HandS.IsInst
import HandS.Steps
import HandS.More
import HandS.Exc
import HandS.TryOnly
import HandS.ExcOwn
import HandS.WordsExc
import HandS.ExcInit
import HandS.ExcSuper
import HandS.ExcIs
import KE.KExcSuper
import KE.KExcIs
import KE.KExcInit
import HandS.ExcCtx
import HandS.RaiseFrom
import HandS.SuiteRaise
import KE.GoesRaise
import PyProof.RulesMatch
import KE.GoesEnum
import HandS.Zip
import HandS.Property
import HandS.Defaults
import HandS.TupAny
import HandS.New
import HandS.CallSlots
import HandS.Wide
import HandS.DictTup
import PyProof.DictUpdate
import HandS.Text
import HandS.Style
import PyProof.StrBlock2
import HandS.DictComp
import HandS.ForExc
import KE.KDictZip
import HandS.Deep
import PySem.Challenge.RW_deedstore_k07_kinds
set_option Elab.async false
set_option linter.all false
set_option maxRecDepth 100000
namespace DS
open PySem PySem.NumText

abbrev Cs := List Nat
/-- a text by its codes -/
def S (l : Cs) : Str := ⟨l.toArray⟩
theorem S_cps (l : Cs) : (S l).cps.toList = l := rfl
theorem S_length (l : Cs) : (S l).length = l.length := by show l.toArray.size = l.length; simp
theorem S_append (a b : Cs) : S a ++ S b = S (a ++ b) := by
  show (⟨a.toArray ++ b.toArray⟩ : Str) = ⟨(a ++ b).toArray⟩
  simp
theorem S_inj {a b : Cs} (h : S a = S b) : a = b := by
  have := congrArg (fun x : Str => x.cps.toList) h
  exact this
theorem S_eta (x : Str) : S x.cps.toList = x := by cases x; simp [S]

/-! ### decimal digits -/
def decD (m : Nat) : Cs := (Nat.toDigits 10 m).map Char.toNat
def numT (i : Int) : Cs := if i < 0 then 45 :: decD i.natAbs else decD i.natAbs
def isDig (c : Nat) : Prop := 48 ≤ c ∧ c ≤ 57

theorem decD_small {m : Nat} (h : m < 10) : decD m = [48 + m] := by
  match m, h with
  | 0, _ => rfl | 1, _ => rfl | 2, _ => rfl | 3, _ => rfl | 4, _ => rfl
  | 5, _ => rfl | 6, _ => rfl | 7, _ => rfl | 8, _ => rfl | 9, _ => rfl
theorem decD_step {m : Nat} (h : 10 ≤ m) : decD m = decD (m / 10) ++ [48 + m % 10] := by
  unfold decD
  rw [Nat.toDigits_of_base_le (by decide) h, List.map_append]
  congr 1
  have := decD_small (m := m % 10) (by omega)
  unfold decD at this
  rw [Nat.toDigits_of_lt_base (by omega)] at this
  simpa using this

theorem decD_ne (m : Nat) : decD m ≠ [] := by
  by_cases h : m < 10
  · rw [decD_small h]; simp
  · rw [decD_step (by omega)]; simp
theorem decD_digits : ∀ m : Nat, AllDigits (decD m) := by
  intro m
  induction m using Nat.strongRecOn with
  | _ m ih =>
    by_cases h : m < 10
    · rw [decD_small h]; intro c hc; simp at hc; omega
    · rw [decD_step (by omega)]
      intro c hc
      rcases List.mem_append.mp hc with hc | hc
      · exact ih (m / 10) (by omega) c hc
      · simp at hc; omega
theorem digitsVal_snoc (l : Cs) (c : Nat) : digitsVal (l ++ [c]) = digitsVal l * 10 + (c - 48) := by
  unfold digitsVal; rw [List.foldl_append]; rfl
theorem decD_val : ∀ m : Nat, digitsVal (decD m) = m := by
  intro m
  induction m using Nat.strongRecOn with
  | _ m ih =>
    by_cases h : m < 10
    · rw [decD_small h]; unfold digitsVal; simp
    · rw [decD_step (by omega), digitsVal_snoc, ih (m / 10) (by omega)]; omega
theorem decD_len : ∀ (k m : Nat), m < 10 ^ k → 0 < k → (decD m).length ≤ k := by
  intro k
  induction k with
  | zero => intro m _ h; omega
  | succ k ih =>
    intro m hm _
    by_cases h : m < 10
    · rw [decD_small h]; simp
    · rw [decD_step (by omega), List.length_append]
      have hk : 0 < k := by
        cases k with
        | zero => simp at hm; omega
        | succ k => omega
      have := ih (m / 10) (by rw [Nat.pow_succ] at hm; omega) hk
      simp; omega
/-- the first digit is no 0 but of 0 itself -/
theorem decD_head : ∀ m : Nat, 0 < m → (decD m).head? ≠ some 48 := by
  intro m
  induction m using Nat.strongRecOn with
  | _ m ih =>
    intro h0
    by_cases h : m < 10
    · rw [decD_small h]; simp; omega
    · rw [decD_step (by omega)]
      have := ih (m / 10) (by omega) (by omega)
      have hne := decD_ne (m / 10)
      cases e : decD (m / 10) with
      | nil => exact absurd e hne
      | cons a l => rw [e] at this; simpa using this
theorem toString_nat (m : Nat) : (Str.ofString (toString ((m : Nat) : Int))) = S (decD m) := by
  rw [← S_eta (Str.ofString _)]
  congr 1
  exact PySem.W.KIN.signs_num m

theorem toString_neg (m : Nat) (h : 0 < m) : (Str.ofString (toString (-(m : Int)))) = S (45 :: decD m) := by
  have e : toString (-(m : Int)) = "-" ++ toString ((m : Nat) : Int) := by
    obtain ⟨k, rfl⟩ : ∃ k, m = k + 1 := ⟨m - 1, by omega⟩
    show Int.repr (Int.negSucc k) = "-" ++ Int.repr (Int.ofNat (k + 1))
    rfl
  rw [e, Str.ofString_eq_toList, String.toList_append, List.map_append]
  have := congrArg (fun x : Str => x.cps.toList) (toString_nat m)
  rw [Str.ofString_eq_toList] at this
  simp only [S] at this ⊢
  congr 1
  simp at this
  simp [this]
theorem toString_int (i : Int) : (Str.ofString (toString i)) = S (numT i) := by
  unfold numT
  by_cases h : i < 0
  · rw [if_pos h]
    have e : i = -((i.natAbs : Nat) : Int) := by omega
    conv => lhs; rw [e]
    exact toString_neg _ (by omega)
  · rw [if_neg h]
    have e : i = ((i.natAbs : Nat) : Int) := by omega
    conv => lhs; rw [e]
    exact toString_nat _

/-! ### the text of a tree -/
def esc1 (c : Nat) : Cs := if c = 34 ∨ c = 92 then [92, c] else [c]
def escT (s : Cs) : Cs := (s.map esc1).flatten
theorem esc1_len (c : Nat) : (esc1 c).length ≤ 2 := by unfold esc1; split <;> simp
theorem escT_len (l : Cs) : (escT l).length ≤ 2 * l.length := by
  induction l with
  | nil => simp [escT]
  | cons c l ih =>
    have h := esc1_len c
    simp only [escT, List.map_cons, List.flatten_cons, List.length_append, List.length_cons] at ih ⊢
    omega
theorem escT_cons (c : Nat) (l : Cs) : escT (c :: l) = esc1 c ++ escT l := rfl
mutual
def txt : PyData → Cs
  | .none => [45]
  | .bool b => if b then [121, 101, 115] else [110, 111]
  | .int i => numT i
  | .str x => 34 :: (escT x.cps.toList ++ [34])
  | .tuple xs => 40 :: (txtAll xs ++ [41])
  | .list _ => []
  | .dict _ => []
def txtAll : List PyData → Cs
  | [] => []
  | x :: xs => txt x ++ txtMore xs
def txtMore : List PyData → Cs
  | [] => []
  | x :: xs => 32 :: (txt x ++ txtMore xs)
end
/-! how many parts, how deep -/
mutual
def cnt : PyData → Nat
  | .tuple xs => 1 + cntAll xs
  | _ => 1
def cntAll : List PyData → Nat
  | [] => 0
  | x :: xs => cnt x + cntAll xs
end
mutual
def hgt : PyData → Nat
  | .tuple xs => 1 + hgtAll xs
  | _ => 1
def hgtAll : List PyData → Nat
  | [] => 0
  | x :: xs => max (hgt x) (hgtAll xs)
end
def sgnList : Cs := (" !\"#$&'()*+,-./0123456789:;<=>?@ABCDEFGHIJKLMNOPQRSTUVWXYZ[\\]^_`abcdefghijklmnopqrstuvwxyz{|}~").toList.map Char.toNat
/-! a tree -/
mutual
def good : PyData → Prop
  | .none => True
  | .bool _ => True
  | .int i => i.natAbs < 10 ^ 100
  | .str x => ∀ c ∈ x.cps.toList, c ∈ sgnList
  | .tuple xs => goodAll xs
  | .list _ => False
  | .dict _ => False
def goodAll : List PyData → Prop
  | [] => True
  | x :: xs => good x ∧ goodAll xs
end
theorem cnt_pos (t : PyData) : 1 ≤ cnt t := by cases t <;> simp [cnt]
theorem hgt_pos (t : PyData) : 1 ≤ hgt t := by cases t <;> simp [hgt]
theorem sgn_q : 34 ∈ sgnList := by decide +kernel
theorem sgn_b : 92 ∈ sgnList := by decide +kernel
/-- a text does not begin with a bracket that closes, nor with a blank -/
theorem txt_head : ∀ t : PyData, good t → ∃ c r, txt t = c :: r ∧ (c = 40 ∨ c = 34 ∨ c = 121 ∨ c = 110 ∨ c = 45 ∨ isDig c)
  | .none, _ => ⟨45, [], rfl, by simp⟩
  | .bool true, _ => ⟨121, [101, 115], rfl, by simp⟩
  | .bool false, _ => ⟨110, [111], rfl, by simp⟩
  | .str x, _ => ⟨34, _, rfl, by simp⟩
  | .tuple xs, _ => ⟨40, _, rfl, by simp⟩
  | .int i, _ => by
    simp only [txt, numT]
    split
    · exact ⟨45, _, rfl, by simp⟩
    · have h := decD_digits i.natAbs
      cases e : decD i.natAbs with
      | nil => exact absurd e (decD_ne _)
      | cons c r => rw [e] at h; exact ⟨c, r, rfl, by simp [isDig]; exact .inr (.inr (.inr (.inr (.inr h.head))))⟩
  | .list _, h => by simp [good] at h
  | .dict _, h => by simp [good] at h
end DS
set_option Elab.async false
set_option linter.all false
set_option maxRecDepth 100000
set_option maxHeartbeats 4000000
namespace DS
open PySem L2 PySem.NumText
theorem ofs_q : Str.ofString "\"" = S [34] := by decide +kernel
theorem ofs_b : Str.ofString "\\" = S [92] := by decide +kernel
theorem ofs_e : Str.ofString "" = S [] := by decide +kernel
theorem one_S (c : Nat) : (⟨#[c]⟩ : Str) = S [c] := rfl
def gluS (sep : Cs) : List Cs → Cs
  | [] => []
  | [x] => x
  | x :: y :: r => x ++ (sep ++ gluS sep (y :: r))
theorem glue_cps (sep : Cs) (l : List Cs) : Txt.join (S sep) (l.map S) = S (gluS sep l) := by
  show Builtin.Str.glued (S sep) (l.map S) = _
  rw [PySem.StrLaws.glued_eq_join]
  induction l with
  | nil => rfl
  | cons x r ih =>
    cases r with
    | nil => rfl
    | cons y r =>
      simp only [List.map_cons] at ih ⊢
      show S x ++ S sep ++ Str.join (S sep) (S y :: r.map S) = _
      rw [ih, S_append, S_append]
      simp [gluS]
theorem glu_nil : ∀ l : List Cs, gluS [] l = l.flatten
  | [] => rfl
  | [x] => by simp [gluS]
  | x :: y :: r => by simp [gluS, glu_nil (y :: r)]
theorem join_empty (l : List Cs) : Txt.join (S []) (l.map S) = S l.flatten := by rw [glue_cps, glu_nil]
theorem same_new {H : Hp} {p : Addr} (h : H p = none) (o : HO) : Same H (upd H p o) := fun b u q => by rw [upd_ne (ne_of_none q h)]; exact q
theorem same_put {H H' : Hp} {p : Addr} (s : Same H H') (h : H p = none) (o : HO) : Same H (upd H' p o) := fun b u q => by rw [upd_ne (ne_of_none q h)]; exact s b u q
theorem small {n : Nat} (h : n ≤ 16777216) : n ≤ sizeLine := Nat.le_trans h (by decide)
theorem small' {n : Nat} (h : n < 16777216) : n < sizeLine := Nat.lt_of_lt_of_le h (by decide)
theorem sum_lens : ∀ l : List Cs, ((l.map S).map (·.length)).sum = l.flatten.length
  | [] => rfl
  | x :: r => by
    have := sum_lens r
    simp only [List.map_cons, List.sum_cons, List.flatten_cons, List.length_append, S_length] at this ⊢
    omega
theorem sqT_same {K : PySem.W.Frag} {H H' : Hp} {a : Addr} {xs : List V} (e : Same H H') (h : SqT K H a xs) : SqT K H' a xs := by
  rcases h with (h | ⟨o, h⟩) | h
  · exact .inl (.inl (e _ _ h))
  · exact .inl (.inr ⟨o, e _ _ h⟩)
  · exact .inr h
mutual
theorem dp_same {K : PySem.W.Frag} {H H' : Hp} (e : Same H H') : ∀ (d : PyData) (v : V), Dp K H v d → Dp K H' v d
  | .none, _, h => by cases h; exact .non
  | .bool b, _, h => by cases h; exact .bl b
  | .int i, _, h => by cases h; exact .int i
  | .str x, _, h => by cases h; exact .str x
  | .list ds, _, h => by
    cases h with
    | lst hs ha => exact .lst (e.seq hs) (dp_sameAll e ds _ ha)
  | .tuple ds, _, h => by
    cases h with
    | tup hs ha => exact .tup (sqT_same e hs) (dp_sameAll e ds _ ha)
  | .dict _, _, h => by cases h
theorem dp_sameAll {K : PySem.W.Frag} {H H' : Hp} (e : Same H H') : ∀ (ds : List PyData) (vs : List V), DpAll K H vs ds → DpAll K H' vs ds
  | [], _, h => by cases h; exact .nil
  | d :: ds, _, h => by
    cases h with
    | cons h1 h2 => exact .cons (dp_same e d _ h1) (dp_sameAll e ds _ h2)
end
theorem dp_len {K : PySem.W.Frag} {H : Hp} : ∀ {vs : List V} {ds : List PyData}, DpAll K H vs ds → vs.length = ds.length
  | _, _, .nil => rfl
  | _, _, .cons _ h => by simp [dp_len h]
theorem dp_get {K : PySem.W.Frag} {H : Hp} : ∀ {vs : List V} {ds : List PyData} {i : Nat} {x : V}, DpAll K H vs ds → vs[i]? = some x → ∃ d, ds[i]? = some d ∧ Dp K H x d
  | _, _, _, _, .nil, h => by simp at h
  | _, _, 0, _, .cons h1 _, h => by simp at h; subst h; exact ⟨_, rfl, h1⟩
  | _, _, i + 1, x, .cons _ h2, h => by simpa using dp_get (i := i) h2 (by simpa using h)
theorem dp_snoc {K : PySem.W.Frag} {H : Hp} : ∀ {vs : List V} {ds : List PyData} {x : V} {d : PyData}, DpAll K H vs ds → Dp K H x d → DpAll K H (vs ++ [x]) (ds ++ [d])
  | _, _, _, _, .nil, h => .cons h .nil
  | _, _, _, _, .cons h1 h2, h => .cons h1 (dp_snoc h2 h)
/-- its class -/
def tyN : PyData → String
  | .none => "NoneType" | .bool _ => "bool" | .int _ => "int" | .str _ => "str" | .list _ => "list" | .tuple _ => "tuple" | .dict _ => "dict"
theorem ty_sqT {K : PySem.W.Frag} {H : Hp} {a : Addr} {xs : List V} (h : SqT K H a xs) : TyX K H (.ref a) (.type "tuple") := by
  rcases h with (h | ⟨o, h⟩) | ⟨o, its, n, h1, h2, _⟩
  · exact .base (.tup h)
  · exact .fTuple h
  · exact .kTuple h1 h2
theorem dp_ty {K : PySem.W.Frag} {H : Hp} : ∀ {d : PyData} {v : V}, good d → Dp K H v d → TyX K H v (.type (tyN d))
  | .none, _, _, h => by cases h; exact .base .non
  | .bool b, _, _, h => by cases h; exact .base (.bl b)
  | .int i, _, _, h => by cases h; exact .base (.int i)
  | .str x, _, _, h => by cases h; exact .base (.str x)
  | .list ds, _, g, _ => by simp [good] at g
  | .dict _, _, g, _ => by simp [good] at g
  | .tuple ds, _, _, h => by
    cases h with
    | tup hs ha => exact ty_sqT hs
theorem good_get : ∀ {ds : List PyData} {i : Nat} {d : PyData}, goodAll ds → ds[i]? = some d → good d
  | [], _, _, _, h => by simp at h
  | d :: ds, 0, e, g, h => by simp at h; subst h; simp [goodAll] at g; exact g.1
  | d :: ds, i + 1, e, g, h => by simp [goodAll] at g; exact good_get g.2 (by simpa using h)
theorem hgt_get : ∀ {ds : List PyData} {i : Nat} {d : PyData}, ds[i]? = some d → hgt d ≤ hgtAll ds
  | [], _, _, h => by simp at h
  | d :: ds, 0, e, h => by simp at h; subst h; simp only [hgtAll]; omega
  | d :: ds, i + 1, e, h => by have := hgt_get (ds := ds) (i := i) (by simpa using h); simp only [hgtAll]; omega
theorem txtMore_len : ∀ {ds : List PyData} {i : Nat} {d : PyData}, ds[i]? = some d → (txt d).length ≤ (txtMore ds).length
  | [], _, _, h => by simp at h
  | d :: ds, 0, e, h => by simp at h; subst h; simp only [txtMore, List.length_cons, List.length_append]; omega
  | d :: ds, i + 1, e, h => by have := txtMore_len (ds := ds) (i := i) (by simpa using h); simp only [txtMore, List.length_cons, List.length_append]; omega
theorem txtAll_len {ds : List PyData} {i : Nat} {d : PyData} (h : ds[i]? = some d) : (txt d).length ≤ (txtAll ds).length := by
  cases ds with
  | nil => simp at h
  | cons x xs =>
    cases i with
    | zero => simp at h; subst h; simp only [txtAll, List.length_append]; omega
    | succ i => have := txtMore_len (ds := xs) (i := i) (by simpa using h); simp only [txtAll, List.length_append]; omega
theorem glu_more : ∀ (x : PyData) (xs : List PyData), gluS [32] ((x :: xs).map txt) = txt x ++ txtMore xs
  | x, [] => by simp [gluS, txtMore]
  | x, y :: r => by
    have := glu_more y r
    simp only [List.map_cons] at this ⊢
    simp [gluS, this, txtMore]
theorem glu_all : ∀ xs : List PyData, gluS [32] (xs.map txt) = txtAll xs
  | [] => rfl
  | x :: xs => by rw [glu_more]; rfl
theorem txtMore_ge : ∀ ds : List PyData, (ds.map txt).flatten.length + ds.length = (txtMore ds).length
  | [] => rfl
  | d :: ds => by
    have := txtMore_ge ds
    simp only [List.map_cons, List.flatten_cons, List.length_append, List.length_cons, txtMore]
    omega
theorem txtAll_ge : ∀ ds : List PyData, (ds.map txt).flatten.length + ds.length ≤ (txtAll ds).length + 1
  | [] => by simp
  | d :: ds => by
    have := txtMore_ge ds
    simp only [List.map_cons, List.flatten_cons, List.length_append, List.length_cons, txtAll]
    omega
theorem escT_ge : ∀ l : Cs, l.length ≤ (escT l).length
  | [] => by simp [escT]
  | c :: l => by
    have := escT_ge l
    have h : 1 ≤ (esc1 c).length := by unfold esc1; split <;> simp
    rw [escT_cons, List.length_append, List.length_cons]
    omega
theorem good_log {i : Int} (h : i.natAbs < 10 ^ 100) : i.natAbs.log2 < 1920 := by
  by_cases h0 : i.natAbs = 0
  · rw [h0]; decide
  · exact (Nat.log2_lt h0).mpr (Nat.lt_of_lt_of_le h (by decide +kernel))
/-- built-in names that the text does not bind -/
structure Bn (mg : Str → Option Value) : Prop where
  isi : mg "isinstance" = none
  tup : mg "tuple" = none
  str : mg "str" = none
  bl : mg "bool" = none
  len : mg "len" = none
  int : mg "int" = none
  range : mg "range" = none
  repr : mg "repr" = none
  list : mg "list" = none
  abs : mg "abs" = none
  min : mg "min" = none
theorem boot_isi : bootBuiltins "isinstance" = some (.builtin "isinstance") := by decide +kernel
theorem ofs_op : Str.ofString "(" = S [40] := by decide +kernel
theorem ofs_cl : Str.ofString ")" = S [41] := by decide +kernel
theorem ofs_sp : Str.ofString " " = S [32] := by decide +kernel
theorem ofs_mi : Str.ofString "-" = S [45] := by decide +kernel
theorem ofs_yes : Str.ofString "yes" = S [121, 101, 115] := by decide +kernel
theorem ofs_no : Str.ofString "no" = S [110, 111] := by decide +kernel
theorem k_NoneType_str : kitB "NoneType" "str" = some false := by decide +kernel
theorem k_NoneType_tuple : kitB "NoneType" "tuple" = some false := by decide +kernel
theorem k_bool_bool : kitB "bool" "bool" = some true := by decide +kernel
theorem k_bool_str : kitB "bool" "str" = some false := by decide +kernel
theorem k_bool_tuple : kitB "bool" "tuple" = some false := by decide +kernel
theorem k_int_bool : kitB "int" "bool" = some false := by decide +kernel
theorem k_int_str : kitB "int" "str" = some false := by decide +kernel
theorem k_int_tuple : kitB "int" "tuple" = some false := by decide +kernel
theorem k_str_str : kitB "str" "str" = some true := by decide +kernel
theorem k_str_tuple : kitB "str" "tuple" = some false := by decide +kernel
theorem k_tuple_tuple : kitB "tuple" "tuple" = some true := by decide +kernel
def spWT (K : PySem.W.Frag) (n : Nat) : Sp := fun vs H Q _ => ∃ v t, vs = [v] ∧ Dp K H v t ∧ good t ∧ hgt t ≤ n ∧ (txt t).length ≤ 1000000 ∧ ∀ H', Same H H' → Q (.str (S (txt t))) H'
/-- all but p is as it was -/
def Sb (p : Addr) (H H' : Hp) : Prop := ∀ b o, H b = some o → b ≠ p → H' b = some o
theorem Sb.refl (p : Addr) (H : Hp) : Sb p H H := fun _ _ h _ => h
theorem Sb.trans {p : Addr} {H H1 H2 : Hp} (a : Sb p H H1) (b : Sb p H1 H2) : Sb p H H2 := fun c o h n => b c o (a c o h n) n
theorem Same.sb {p : Addr} {H H' : Hp} (s : Same H H') : Sb p H H' := fun b o h _ => s b o h
theorem sb_upd {p : Addr} {H : Hp} (o : HO) : Sb p H (upd H p o) := fun b u h n => by rw [upd_ne n]; exact h
theorem sb_free {p q : Addr} {H H' : Hp} {o : HO} (s : Sb p H H') (hp : H p = some o) (h : H' q = none) (hp' : H' p ≠ none) : H q = none := by
  cases e : H q with
  | none => rfl
  | some u =>
    by_cases n : q = p
    · subst n; exact absurd h hp'
    · rw [s q u e n] at h; cases h
theorem sqT_sb {K : PySem.W.Frag} {p : Addr} {H H' : Hp} {a : Addr} {xs : List V} (s : Sb p H H') (hp : ∀ xs, H p ≠ some (.tup xs)) (hp2 : ∀ o xs, H p ≠ some (.frz o (.tup xs))) (h : SqT K H a xs) : SqT K H' a xs := by
  rcases h with (h | ⟨o, h⟩) | h
  · exact .inl (.inl (s _ _ h fun e => hp xs (e ▸ h)))
  · exact .inl (.inr ⟨o, s _ _ h fun e => hp2 o xs (e ▸ h)⟩)
  · exact .inr h
mutual
theorem dp_sb {K : PySem.W.Frag} {p : Addr} {H H' : Hp} (s : Sb p H H') (hp : ∀ xs, H p ≠ some (.tup xs)) (hp2 : ∀ o xs, H p ≠ some (.frz o (.tup xs))) : ∀ (d : PyData) (v : V), good d → Dp K H v d → Dp K H' v d
  | .none, _, _, h => by cases h; exact .non
  | .bool b, _, _, h => by cases h; exact .bl b
  | .int i, _, _, h => by cases h; exact .int i
  | .str x, _, _, h => by cases h; exact .str x
  | .list ds, _, g, h => by simp [good] at g
  | .tuple ds, _, g, h => by
    cases h with
    | tup hs ha => exact .tup (sqT_sb s hp hp2 hs) (dp_sbAll s hp hp2 ds _ (by simpa [good] using g) ha)
  | .dict _, _, _, h => by cases h
theorem dp_sbAll {K : PySem.W.Frag} {p : Addr} {H H' : Hp} (s : Sb p H H') (hp : ∀ xs, H p ≠ some (.tup xs)) (hp2 : ∀ o xs, H p ≠ some (.frz o (.tup xs))) : ∀ (ds : List PyData) (vs : List V), goodAll ds → DpAll K H vs ds → DpAll K H' vs ds
  | [], _, _, h => by cases h; exact .nil
  | d :: ds, _, g, h => by
    simp only [goodAll] at g
    cases h with
    | cons h1 h2 => exact .cons (dp_sb s hp hp2 d _ g.1 h1) (dp_sbAll s hp hp2 ds _ g.2 h2)
end
def flds (z : Cs) (a n : Nat) : List (Str × V) := [("text", .str (S z)), ("at", .int a), ("parts", .int n), ("is_bounded", .bl true)]
theorem fl_text (z : Cs) (a n : Nat) : (flds z a n).lookup ("text" : Str) = some (.str (S z)) := by rfl
theorem fl_at (z : Cs) (a n : Nat) : (flds z a n).lookup ("at" : Str) = some (.int a) := by rfl
theorem fl_parts (z : Cs) (a n : Nat) : (flds z a n).lookup ("parts" : Str) = some (.int n) := by rfl
theorem fl_bd (z : Cs) (a n : Nat) : (flds z a n).lookup ("is_bounded" : Str) = some (.bl true) := by rfl
theorem fl_no (z : Cs) (a n : Nat) {m : Str} (h1 : (m == "text") = false) (h2 : (m == "at") = false) (h3 : (m == "parts") = false) (h4 : (m == "is_bounded") = false) : (flds z a n).lookup m = none := by
  simp only [flds, List.lookup, h1, h2, h3, h4]
theorem fl_putAt (z : Cs) (a a' n : Nat) : putF "at" (.int (a' : Nat)) (flds z a n) = flds z a' n := by rfl
theorem fl_putParts (z : Cs) (a n n' : Nat) : putF "parts" (.int (n' : Nat)) (flds z a n) = flds z a n' := by rfl
theorem fl_init (z : Cs) : putF "is_bounded" (.bl true) (putF "parts" (.int 0) (putF "at" (.int 0) (putF "text" (.str (S z)) []))) = flds z 0 0 := by rfl
/-- a Reader stands at p -/
def RdAt (C : Addr) (H : Hp) (p : Addr) (z : Cs) (a n : Nat) : Prop := ∃ dx, H p = some (.ins C dx (flds z a n))
theorem RdAt.noT {C : Addr} {H : Hp} {p : Addr} {z : Cs} {a n : Nat} (R : RdAt C H p z a n) : ∀ xs, H p ≠ some (.tup xs) := fun xs e => by
  obtain ⟨dx, h⟩ := R; rw [h] at e; cases e
theorem RdAt.noF {C : Addr} {H : Hp} {p : Addr} {z : Cs} {a n : Nat} (R : RdAt C H p z a n) : ∀ o xs, H p ≠ some (.frz o (.tup xs)) := fun o xs e => by
  obtain ⟨dx, h⟩ := R; rw [h] at e; cases e
theorem RdAt.ne {C : Addr} {H : Hp} {p : Addr} {z : Cs} {a n : Nat} (R : RdAt C H p z a n) : H p ≠ none := by
  obtain ⟨dx, h⟩ := R; rw [h]; simp
/-- the sign at a -/
def sg (z : Cs) (a : Nat) : Cs := (z.drop a).take 1
theorem sg_some {z : Cs} {a c : Nat} {r : Cs} (h : z.drop a = c :: r) : sg z a = [c] := by unfold sg; rw [h]; rfl
theorem sg_nil {z : Cs} {a : Nat} (h : z.drop a = []) : sg z a = [] := by unfold sg; rw [h]; rfl
theorem lt_of_drop {z : Cs} {a c : Nat} {r : Cs} (h : z.drop a = c :: r) : a < z.length := by
  have := congrArg List.length h
  rw [List.length_drop, List.length_cons] at this
  omega
theorem drop_more {z : Cs} {a c : Nat} {r : Cs} (h : z.drop a = c :: r) : z.drop (a + 1) = r := by
  rw [← List.drop_drop, h]; rfl
theorem drop_app {z : Cs} {a : Nat} {l r : Cs} (h : z.drop a = l ++ r) : z.drop (a + l.length) = r := by
  rw [← List.drop_drop, h]; simp
theorem cut_sg (z : Cs) (a : Nat) : cutS (S z) (some (a : Int)) (some ((a : Int) + 1)) = S (sg z a) := by
  unfold cutS
  rw [show ((a : Int) + 1) = ((a + 1 : Nat) : Int) by omega, HT.sIx_nat, HT.sIx_nat, S_cps, S_length]
  show S _ = S _
  congr 1
  unfold sg
  by_cases h : a < z.length
  · rw [Nat.min_eq_left (by omega), Nat.min_eq_left (by omega), show a + 1 - a = 1 by omega]
  · rw [List.drop_eq_nil_of_le (show z.length ≤ a by omega), List.drop_eq_nil_of_le (by omega)]
    simp
/-- the class, and the global names -/
structure RTxt (K : PySem.W.Frag) (mg : Str → Option Value) (C : Addr) : Prop where
  cl : Cls K C
  nT : NoAttr K C "text"
  nA : NoAttr K C "at"
  nP : NoAttr K C "parts"
  nB : NoAttr K C "is_bounded"
  mgC : mg "Reader" = some (.ref C)
  mParts : ∃ t, mg "MAX_PARTS" = some (.int 2000 t)
  mDepth : ∃ t, mg "MAX_DEPTH" = some (.int 30 t)
  mMore : ∃ t, mg "MORE_DEPTH" = some (.int 4 t)
  mDigs : ∃ t, mg "MAX_DIGITS" = some (.int 100 t)
  mDig : ∃ t, mg "DIGITS" = some (.str (S [48, 49, 50, 51, 52, 53, 54, 55, 56, 57]) t)
  mSig : ∃ t, mg "SIGNS" = some (.str (S sgnList) t)
structure MM (K : PySem.W.Frag) (C : Addr) (x qual : Str) (st : Stmt) (ps : List Str) (f : Addr) (fd : FuncData) : Prop where
  F : Fun K x qual st f fd
  m : Meth K C x f
  b : Binds K fd ps []
theorem mem_esc {c : Nat} : inV (V.str (S [c])) [V.str (Str.ofString "\""), V.str (Str.ofString "\\")] = decide (c = 34 ∨ c = 92) := by
  simp only [inV, List.any, eqV, ofs_q, ofs_b, Bool.or_false]
  by_cases h1 : c = 34
  · subst h1; decide
  · by_cases h2 : c = 92
    · subst h2; decide
    · have n1 : (S [34] == S [c]) = false := by rw [beq_eq_false_iff_ne]; intro z; have := S_inj z; simp at this; omega
      have n2 : (S [92] == S [c]) = false := by rw [beq_eq_false_iff_ne]; intro z; have := S_inj z; simp at this; omega
      rw [n1, n2, decide_eq_false (by omega)]; rfl
theorem flat_one : ∀ s : Cs, (s.map fun c => [c]).flatten = s
  | [] => rfl
  | c :: s => by simp [flat_one s]
theorem vS_inj {a b : Cs} (h : V.str (S a) = V.str (S b)) : a = b := S_inj (V.str.inj h)
/-- WRITTEN, as the top has made it -/
structure WTxt (K : PySem.W.Frag) (w : World) (mg : Str → Option Value) (d tY tN : Addr) : Prop where
  mgW : mg "WRITTEN" = some (.ref d)
  D : ∃ es n, KDict K w d es n
  y : PySem.W.nsIn K d (S [121]) = some (some (.ref tY))
  n : PySem.W.nsIn K d (S [110]) = some (some (.ref tN))
  no : ∀ c, c ≠ 121 → c ≠ 110 → PySem.W.nsIn K d (S [c]) = some none
  tY : ∀ H, SqT K H tY [.str (S [121, 101, 115]), .bl true]
  tN : ∀ H, SqT K H tN [.str (S [110, 111]), .bl false]
def wd (b : Bool) : Cs := if b then [121, 101, 115] else [110, 111]
theorem drop_at {z : Cs} {a i : Nat} {l r : Cs} (h : z.drop a = l ++ r) (hi : i ≤ l.length) : z.drop (a + i) = l.drop i ++ r := by
  rw [← List.drop_drop, h, List.drop_append_of_le_length hi]
theorem ip_str {X : Cx} : PIp X .Add rAddS := fun pins s σ H x y v u Q I rx ry h => iop_add_str pins s σ H x y v u Q I rx ry h
def digL : Cs := [48, 49, 50, 51, 52, 53, 54, 55, 56, 57]
theorem mem_dig {c : Nat} : c ∈ digL ↔ isDig c := by
  simp [digL, isDig]
  omega
theorem ofs_0 : Str.ofString "0" = S [48] := by decide +kernel
/-- what a number's or None's text is read as -/
inductive LeafV : PyData → V → Prop where
  | non : LeafV .none .non
  | int (i : Int) : LeafV (.int i) (.int i)
theorem LeafV.dp {K : PySem.W.Frag} {H : Hp} {t : PyData} {v : V} (h : LeafV t v) : Dp K H v t := by
  cases h with
  | non => exact .non
  | int i => exact .int i
theorem dg_int {m : Nat} (h : m < 10 ^ 100) : PySem.intText? (S (decD m)) = some (m : Int) := by
  have hl := decD_len 100 m h (by decide)
  have := PySem.intText_digits (x := S (decD m)) (by rw [S_cps]; exact decD_digits m) (by rw [S_cps]; exact decD_ne m) (by rw [S_length]; omega)
  rw [this, S_cps, decD_val]
theorem txtAll_ne {ts : List PyData} (h : ts ≠ []) (g : goodAll ts) : ∃ c r, txtAll ts = c :: r ∧ c ≠ 41 := by
  cases ts with
  | nil => exact absurd rfl h
  | cons t ts =>
    simp only [goodAll] at g
    obtain ⟨c, r, e, hc⟩ := txt_head t g.1
    refine ⟨c, r ++ txtMore ts, by simp only [txtAll, e, List.cons_append], ?_⟩
    unfold isDig at hc
    omega
theorem cntAll_app : ∀ a b : List PyData, cntAll (a ++ b) = cntAll a + cntAll b
  | [], b => by simp [cntAll]
  | x :: a, b => by simp [cntAll, cntAll_app a b]; omega
theorem cntAll_pos {ts : List PyData} (h : ts ≠ []) : 1 ≤ cntAll ts := by
  cases ts with
  | nil => exact absurd rfl h
  | cons t ts => have := cnt_pos t; simp only [cntAll]; omega
theorem goodAll_app : ∀ {a b : List PyData}, goodAll (a ++ b) → goodAll a ∧ goodAll b
  | [], b, h => ⟨by simp [goodAll], by simpa using h⟩
  | x :: a, b, h => by
    simp only [List.cons_append, goodAll] at h ⊢
    have := goodAll_app h.2
    exact ⟨⟨h.1, this.1⟩, this.2⟩
theorem hgtAll_app (a b : List PyData) : hgtAll b ≤ hgtAll (a ++ b) := by
  induction a with
  | nil => exact Nat.le_refl _
  | cons x a ih => simp only [List.cons_append, hgtAll]; omega
theorem len_lt : ∀ ts : List PyData, goodAll ts → ts.length ≤ (txtMore ts).length
  | [], _ => Nat.zero_le _
  | t :: ts, g => by
    simp only [goodAll] at g
    have := len_lt ts g.2
    simp only [txtMore, List.length_cons, List.length_append]
    omega
theorem nsg {c d : Nat} (h : c ≠ d) : ¬ (V.str (S [c]) = V.str (S [d])) := fun e => by have := vS_inj e; simp at this; omega
end DS
set_option Elab.async false
set_option linter.all false
set_option maxRecDepth 100000
set_option maxHeartbeats 2000000
/-! ### k07: kinds of expressions, without any program -/
namespace DS
open PySem
def lettersC : Cs := [97, 98, 99, 100, 101, 102, 103, 104, 105, 106, 107, 108, 109, 110, 111, 112, 113, 114, 115, 116, 117, 118, 119, 120, 121, 122]
def isWordC (z : Cs) : Bool := decide (1 ≤ z.length ∧ z.length ≤ 8) && z.all fun c => decide (c ∈ lettersC)
def isWordM : PyData → Bool
  | .str x => isWordC x.cps.toList
  | _ => false
/-- the kind of a value, or None -/
def kvM : PyData → Option Str
  | .bool _ => some "truth"
  | .int i => if -(10 ^ 30) ≤ i ∧ i ≤ 10 ^ 30 then some "int" else none
  | .str x => if x.cps.toList.length ≤ 40 then some "text" else none
  | _ => none
def isValM (d : PyData) : Bool := match d with
  | .none => true
  | d => (kvM d).isSome
def opsL : List Str := ["+", "-", "*", "div", "mod", "join", "=", "<", "and", "or"]
def kindsL : List Str := ["int", "text", "truth"]
def arithL : List Str := ["+", "-", "*", "div", "mod"]
def oneOfM (l : List Str) : PyData → Bool
  | .str x => decide (x ∈ l)
  | _ => false
def idxM : PyData → Bool
  | .int i => decide (0 ≤ i)
  | _ => false
def isTupM : PyData → Bool
  | .tuple _ => true
  | _ => false
def exprs : List (Str × List Str) := [("value", ["content"]), ("var", ["word"]), ("col", ["word"]), ("field", ["word", "word"]), ("op", ["operator", "expression", "expression"]), ("not", ["expression"]), ("null", ["expression"]),
  ("case", ["expression", "expression", "expression"]), ("count", ["word", "expression"]), ("sum", ["word", "expression", "expression"]), ("least", ["word", "expression", "expression"]), ("most", ["word", "expression", "expression"]),
  ("number", ["word"]), ("call", ["word", "expressions"]), ("word", []), ("told", ["index", "kind"])]
/-- a part of a sort other than an expression -/
def simpleM (sort : Str) (d : PyData) : Bool :=
  if sort = "word" then isWordM d else if sort = "content" then isValM d else if sort = "operator" then oneOfM opsL d else if sort = "kind" then oneOfM kindsL d else idxM d
def partM (sort : Str) (d : PyData) : Bool := if sort = "expression" then true else if sort = "expressions" then isTupM d else simpleM sort d
def partsOkM : List Str → List PyData → Bool
  | s :: ss, d :: ds => partM s d && partsOkM ss ds
  | _, _ => true
/-- the form of an expression itself -/
def formM : PyData → Bool
  | .tuple (.str h :: rest) => match exprs.lookup h with
    | some sorts => decide (rest.length = sorts.length) && partsOkM sorts rest
    | none => false
  | _ => false
def argM (t : PyData) (i : Nat) : PyData := match t with
  | .tuple ds => ds.getD i .none
  | _ => .none
def headM : PyData → Str
  | .tuple (.str h :: _) => h
  | _ => ""
def strM1 : PyData → Str
  | .str x => x
  | _ => ""
abbrev Kinds := List (Str × Str)
/-- what is wrong with an expression itself -/
def nodeM (cols vars : Kinds) (t : PyData) : Option Str :=
  if formM t = false then some "form"
  else if headM t = "word" ∨ headM t = "told" then some "handler"
  else if headM t = "var" then (if (vars.lookup (strM1 (argM t 1))).isSome then none else some "name")
  else if headM t = "col" then (if (cols.lookup (strM1 (argM t 1))).isSome then none else some "name")
  else if headM t ∈ (["field", "count", "sum", "least", "most", "number", "call"] : List Str) then some "name"
  else none
def partsM (t : PyData) : List (Nat × PyData) :=
  if headM t = "op" then [(2, argM t 2), (3, argM t 3)]
  else if headM t = "not" ∨ headM t = "null" then [(1, argM t 1)]
  else if headM t = "case" then [(1, argM t 1), (2, argM t 2), (3, argM t 3)]
  else []
def oneK (k : Option Str) (l : List Str) : List Str := match k with
  | none => l
  | some x => [x]
def opKind (o : Str) : Str := if o ∈ arithL then "int" else if o = "join" then "text" else "truth"
/-- the kinds that the parts may have -/
def wantM (t : PyData) (ks : List (Option Str)) : List (List Str) :=
  if headM t = "op" then
    let o := strM1 (argM t 1)
    if o = "=" then [kindsL, oneK (ks.getD 0 none) kindsL]
    else if o = "<" then [["int", "text"], oneK (ks.getD 0 none) ["int", "text"]]
    else [[opKind o], [opKind o]]
  else if headM t = "case" then [["truth"], kindsL, oneK (ks.getD 1 none) kindsL]
  else if headM t = "null" then [kindsL]
  else ks.map fun _ => ["truth"]
def fitM (k : Option Str) (l : List Str) : Bool := match k with
  | none => true
  | some x => decide (x ∈ l)
/-- the first part that has another kind -/
def badM : List (Nat × PyData) → List (Option Str) → List (List Str) → Option Nat
  | (i, _) :: ps, k :: ks, l :: ls => if fitM k l then badM ps ks ls else some i
  | _, _, _ => none
def ownM (cols vars : Kinds) (t : PyData) (ks : List (Option Str)) : Option Str :=
  if headM t = "value" then kvM (argM t 1)
  else if headM t = "var" then vars.lookup (strM1 (argM t 1))
  else if headM t = "col" then cols.lookup (strM1 (argM t 1))
  else if headM t = "op" then some (opKind (strM1 (argM t 1)))
  else if headM t = "case" then (match ks.getD 1 none with | none => ks.getD 2 none | some x => some x)
  else some "truth"
abbrev Res7 := Except (Str × List Nat) (Option Str)
def kidsM (f : PyData → List Nat → Res7) (p : List Nat) : List (Nat × PyData) → Except (Str × List Nat) (List (Option Str))
  | [] => .ok []
  | (i, x) :: r => match f x (p ++ [i]) with
    | .error e => .error e
    | .ok k => match kidsM f p r with
      | .error e => .error e
      | .ok ks => .ok (k :: ks)
/-- what look tells -/
def lookM (cols vars : Kinds) : Nat → PyData → List Nat → Res7
  | 0, _, p => .error ("form", p)
  | m + 1, t, p => match nodeM cols vars t with
    | some w => .error (w, p)
    | none => match kidsM (lookM cols vars m) p (partsM t) with
      | .error e => .error e
      | .ok ks => match badM (partsM t) ks (wantM t ks) with
        | some i => .error ("kind", p ++ [i])
        | none => .ok (ownM cols vars t ks)
/-- as kind_of tells it -/
def saidM (w : Str) : Str := if w = "handler" then "form" else w
/-! ### trees that the law draws -/
inductive Gen (cols vars : Kinds) : Str → PyData → Prop where
  | val {k : Str} {d : PyData} (h : d = .none ∨ kvM d = some k) (g : good d) : Gen cols vars k (.tuple [.str "value", d])
  | col {k w : Str} (h : cols.lookup w = some k) (hw : isWordC w.cps.toList = true) : Gen cols vars k (.tuple [.str "col", .str w])
  | var {k w : Str} (h : vars.lookup w = some k) (hw : isWordC w.cps.toList = true) : Gen cols vars k (.tuple [.str "var", .str w])
  | arith {o : Str} {a b : PyData} (ho : o ∈ arithL) (ha : Gen cols vars "int" a) (hb : Gen cols vars "int" b) : Gen cols vars "int" (.tuple [.str "op", .str o, a, b])
  | join {a b : PyData} (ha : Gen cols vars "text" a) (hb : Gen cols vars "text" b) : Gen cols vars "text" (.tuple [.str "op", .str "join", a, b])
  | eq {k : Str} {a b : PyData} (hk : k ∈ kindsL) (ha : Gen cols vars k a) (hb : Gen cols vars k b) : Gen cols vars "truth" (.tuple [.str "op", .str "=", a, b])
  | lt {k : Str} {a b : PyData} (hk : k = "int" ∨ k = "text") (ha : Gen cols vars k a) (hb : Gen cols vars k b) : Gen cols vars "truth" (.tuple [.str "op", .str "<", a, b])
  | both {o : Str} {a b : PyData} (ho : o = "and" ∨ o = "or") (ha : Gen cols vars "truth" a) (hb : Gen cols vars "truth" b) : Gen cols vars "truth" (.tuple [.str "op", .str o, a, b])
  | null {k : Str} {a : PyData} (hk : k ∈ kindsL) (ha : Gen cols vars k a) : Gen cols vars "truth" (.tuple [.str "null", a])
  | not {a : PyData} (ha : Gen cols vars "truth" a) : Gen cols vars "truth" (.tuple [.str "not", a])
  | case {k : Str} {c a b : PyData} (hk : k ∈ kindsL) (hc : Gen cols vars "truth" c) (ha : Gen cols vars k a) (hb : Gen cols vars k b) : Gen cols vars k (.tuple [.str "case", c, a, b])
def OkK (r : Res7) (k : Str) : Prop := r = .ok none ∨ r = .ok (some k)
theorem OkK.get {r : Res7} {k : Str} (h : OkK r k) : ∃ x, r = .ok x ∧ (x = none ∨ x = some k) := by
  rcases h with h | h
  · exact ⟨none, h, .inl rfl⟩
  · exact ⟨some k, h, .inr rfl⟩
theorem fit_of {k : Str} {x : Option Str} {l : List Str} (h : x = none ∨ x = some k) (hl : k ∈ l) : fitM x l = true := by
  rcases h with rfl | rfl
  · rfl
  · exact decide_eq_true hl
theorem fit_one {k : Str} {x y : Option Str} {l : List Str} (hx : x = none ∨ x = some k) (hy : y = none ∨ y = some k) (hl : k ∈ l) : fitM y (oneK x l) = true := by
  rcases hx with rfl | rfl
  · exact fit_of hy hl
  · exact fit_of hy (by simp [oneK])
theorem hgtT (ds : List PyData) : hgt (.tuple ds) = 1 + hgtAll ds := by simp [hgt]
theorem look_succ (cols vars : Kinds) (m : Nat) (t : PyData) (p : List Nat) (h : nodeM cols vars t = none) : lookM cols vars (m + 1) t p = (match kidsM (lookM cols vars m) p (partsM t) with
      | .error e => .error e
      | .ok ks => match badM (partsM t) ks (wantM t ks) with
        | some i => .error ("kind", p ++ [i])
        | none => .ok (ownM cols vars t ks)) := by
  rw [lookM, h]
theorem lk_value : exprs.lookup ("value" : Str) = some (["content"] : List Str) := by decide +kernel
theorem lk_var : exprs.lookup ("var" : Str) = some (["word"] : List Str) := by decide +kernel
theorem lk_col : exprs.lookup ("col" : Str) = some (["word"] : List Str) := by decide +kernel
theorem lk_op : exprs.lookup ("op" : Str) = some (["operator", "expression", "expression"] : List Str) := by decide +kernel
theorem lk_not : exprs.lookup ("not" : Str) = some (["expression"] : List Str) := by decide +kernel
theorem lk_null : exprs.lookup ("null" : Str) = some (["expression"] : List Str) := by decide +kernel
theorem lk_case : exprs.lookup ("case" : Str) = some (["expression", "expression", "expression"] : List Str) := by decide +kernel
theorem pt_expr (d : PyData) : partM "expression" d = true := rfl
theorem pt_word (d : PyData) : partM "word" d = isWordM d := by unfold partM; rw [if_neg (by decide), if_neg (by decide)]; rfl
theorem pt_cont (d : PyData) : partM "content" d = isValM d := by unfold partM simpleM; rw [if_neg (by decide), if_neg (by decide), if_neg (by decide), if_pos rfl]
theorem pt_oper (d : PyData) : partM "operator" d = oneOfM opsL d := by unfold partM simpleM; rw [if_neg (by decide), if_neg (by decide), if_neg (by decide), if_neg (by decide), if_pos rfl]
theorem node_value (cols vars : Kinds) {d : PyData} (h : isValM d = true) : nodeM cols vars (.tuple [.str "value", d]) = none := by
  have f : formM (.tuple [.str "value", d]) = true := by simp only [formM, lk_value, partsOkM, pt_cont, h]; rfl
  unfold nodeM
  rw [f]
  rfl
theorem node_var (cols vars : Kinds) {w k : Str} (h : isWordC w.cps.toList = true) (hk : vars.lookup w = some k) : nodeM cols vars (.tuple [.str "var", .str w]) = none := by
  have f : formM (.tuple [.str "var", .str w]) = true := by simp only [formM, lk_var, partsOkM, pt_word, isWordM, h]; rfl
  unfold nodeM
  rw [f]
  show (if (List.lookup w vars).isSome = true then none else _) = none
  rw [hk]; rfl
theorem node_col (cols vars : Kinds) {w k : Str} (h : isWordC w.cps.toList = true) (hk : cols.lookup w = some k) : nodeM cols vars (.tuple [.str "col", .str w]) = none := by
  have f : formM (.tuple [.str "col", .str w]) = true := by simp only [formM, lk_col, partsOkM, pt_word, isWordM, h]; rfl
  unfold nodeM
  rw [f]
  show (if (List.lookup w cols).isSome = true then none else _) = none
  rw [hk]; rfl
theorem node_op (cols vars : Kinds) {o : Str} {a b : PyData} (h : o ∈ opsL) : nodeM cols vars (.tuple [.str "op", .str o, a, b]) = none := by
  have f : formM (.tuple [.str "op", .str o, a, b]) = true := by simp only [formM, lk_op, partsOkM, pt_oper, pt_expr, oneOfM, decide_eq_true h]; rfl
  unfold nodeM
  rw [f]; rfl
theorem node_not (cols vars : Kinds) {a : PyData} : nodeM cols vars (.tuple [.str "not", a]) = none := by
  have f : formM (.tuple [.str "not", a]) = true := by simp only [formM, lk_not, partsOkM, pt_expr]; rfl
  unfold nodeM
  rw [f]; rfl
theorem node_null (cols vars : Kinds) {a : PyData} : nodeM cols vars (.tuple [.str "null", a]) = none := by
  have f : formM (.tuple [.str "null", a]) = true := by simp only [formM, lk_null, partsOkM, pt_expr]; rfl
  unfold nodeM
  rw [f]; rfl
theorem node_case (cols vars : Kinds) {c a b : PyData} : nodeM cols vars (.tuple [.str "case", c, a, b]) = none := by
  have f : formM (.tuple [.str "case", c, a, b]) = true := by simp only [formM, lk_case, partsOkM, pt_expr]; rfl
  unfold nodeM
  rw [f]; rfl
theorem two_ok {cols vars : Kinds} {m : Nat} {p : List Nat} {a b : PyData} {k1 k2 : Str} {i j : Nat} (ha : OkK (lookM cols vars m a (p ++ [i])) k1) (hb : OkK (lookM cols vars m b (p ++ [j])) k2) :
    ∃ x y, kidsM (lookM cols vars m) p [(i, a), (j, b)] = .ok [x, y] ∧ (x = none ∨ x = some k1) ∧ (y = none ∨ y = some k2) := by
  obtain ⟨x, ex, hx⟩ := ha.get
  obtain ⟨y, ey, hy⟩ := hb.get
  exact ⟨x, y, by simp only [kidsM, ex, ey], hx, hy⟩
theorem op_ok {cols vars : Kinds} {m : Nat} {p : List Nat} {o k1 k2 : Str} {a b : PyData} (ho : o ∈ opsL) (ha : OkK (lookM cols vars m a (p ++ [2])) k1) (hb : OkK (lookM cols vars m b (p ++ [3])) k2)
    (hw : ∀ x y : Option Str, (x = none ∨ x = some k1) → (y = none ∨ y = some k2) → badM [(2, a), (3, b)] [x, y] (wantM (.tuple [.str "op", .str o, a, b]) [x, y]) = none) :
    lookM cols vars (m + 1) (.tuple [.str "op", .str o, a, b]) p = .ok (some (opKind o)) := by
  obtain ⟨x, y, e, hx, hy⟩ := two_ok ha hb
  rw [look_succ _ _ _ _ _ (node_op cols vars ho)]
  have ep : partsM (.tuple [.str "op", .str o, a, b]) = [(2, a), (3, b)] := rfl
  rw [ep, e]
  simp only
  rw [hw x y hx hy]
  rfl
theorem want_op {o : Str} {a b : PyData} {ks : List (Option Str)} (h1 : o ≠ "=") (h2 : o ≠ "<") : wantM (.tuple [.str "op", .str o, a, b]) ks = [[opKind o], [opKind o]] := by
  show (if o = "=" then _ else if o = "<" then _ else _) = _
  rw [if_neg h1, if_neg h2]; rfl
theorem bad2 {a b : PyData} {x y : Option Str} {l1 l2 : List Str} (h1 : fitM x l1 = true) (h2 : fitM y l2 = true) : badM [(2, a), (3, b)] [x, y] [l1, l2] = none := by
  simp only [badM, h1, h2, if_true]
theorem gen_ok {cols vars : Kinds} {k : Str} {t : PyData} (G : Gen cols vars k t) : ∀ (m : Nat) (p : List Nat), hgt t ≤ m → OkK (lookM cols vars m t p) k := by
  induction G with
  | @val k d h g =>
    intro m p hm
    cases m with
    | zero => have := hgt_pos (.tuple [.str "value", d]); omega
    | succ m =>
      have hv : isValM d = true := by
        rcases h with rfl | h
        · rfl
        · cases d <;> simp_all [isValM, kvM]
      rw [look_succ _ _ _ _ _ (node_value cols vars hv)]
      show OkK (.ok (kvM d)) k
      rcases h with rfl | h
      · exact .inl rfl
      · rw [h]; exact .inr rfl
  | @col k w h hw =>
    intro m p hm
    cases m with
    | zero => have := hgt_pos (.tuple [.str "col", .str w]); omega
    | succ m =>
      rw [look_succ _ _ _ _ _ (node_col cols vars hw h)]
      exact .inr (show (Except.ok (cols.lookup w) : Res7) = .ok (some k) by rw [h])
  | @var k w h hw =>
    intro m p hm
    cases m with
    | zero => have := hgt_pos (.tuple [.str "var", .str w]); omega
    | succ m =>
      rw [look_succ _ _ _ _ _ (node_var cols vars hw h)]
      exact .inr (show (Except.ok (vars.lookup w) : Res7) = .ok (some k) by rw [h])
  | @arith o a b ho ha hb iha ihb =>
    intro m p hm
    simp only [hgt, hgtAll] at hm
    cases m with
    | zero => omega
    | succ m =>
      have e : opKind o = "int" := if_pos ho
      have n1 : ∀ x ∈ arithL, x ∈ opsL ∧ x ≠ "=" ∧ x ≠ "<" := by decide
      obtain ⟨o1, o2, o3⟩ := n1 o ho
      refine .inr ?_
      rw [op_ok o1 (iha m _ (by omega)) (ihb m _ (by omega)) fun x y hx hy => by rw [want_op o2 o3, e]; exact bad2 (fit_of hx (by simp)) (fit_of hy (by simp)), e]
  | @join a b ha hb iha ihb =>
    intro m p hm
    simp only [hgt, hgtAll] at hm
    cases m with
    | zero => omega
    | succ m =>
      have e : opKind "join" = "text" := by decide
      refine .inr ?_
      rw [op_ok (by decide) (iha m _ (by omega)) (ihb m _ (by omega)) fun x y hx hy => by rw [want_op (by decide) (by decide), e]; exact bad2 (fit_of hx (by simp)) (fit_of hy (by simp)), e]
  | @eq k a b hk ha hb iha ihb =>
    intro m p hm
    simp only [hgt, hgtAll] at hm
    cases m with
    | zero => omega
    | succ m =>
      refine .inr ?_
      rw [op_ok (by decide) (iha m _ (by omega)) (ihb m _ (by omega)) fun x y hx hy => bad2 (fit_of hx hk) (fit_one hx hy hk)]
      rfl
  | @lt k a b hk ha hb iha ihb =>
    intro m p hm
    simp only [hgt, hgtAll] at hm
    cases m with
    | zero => omega
    | succ m =>
      have hk' : k ∈ (["int", "text"] : List Str) := by rcases hk with rfl | rfl <;> simp
      refine .inr ?_
      rw [op_ok (by decide) (iha m _ (by omega)) (ihb m _ (by omega)) fun x y hx hy => bad2 (fit_of hx hk') (fit_one hx hy hk')]
      rfl
  | @both o a b ho ha hb iha ihb =>
    intro m p hm
    simp only [hgt, hgtAll] at hm
    cases m with
    | zero => omega
    | succ m =>
      have n1 : o ∈ opsL ∧ o ≠ "=" ∧ o ≠ "<" ∧ opKind o = "truth" := by rcases ho with rfl | rfl <;> decide
      obtain ⟨o1, o2, o3, e⟩ := n1
      refine .inr ?_
      rw [op_ok o1 (iha m _ (by omega)) (ihb m _ (by omega)) fun x y hx hy => by rw [want_op o2 o3, e]; exact bad2 (fit_of hx (by simp)) (fit_of hy (by simp)), e]
  | @null k a hk ha iha =>
    intro m p hm
    simp only [hgt, hgtAll] at hm
    cases m with
    | zero => omega
    | succ m =>
      obtain ⟨x, ex, hx⟩ := (iha m (p ++ [1]) (by omega)).get
      rw [look_succ _ _ _ _ _ (node_null cols vars)]
      have ep : partsM (.tuple [.str "null", a]) = [(1, a)] := rfl
      have ew : wantM (.tuple [.str "null", a]) [x] = [kindsL] := rfl
      have eb : badM [(1, a)] [x] [kindsL] = none := by simp only [badM, fit_of hx hk, if_true]
      rw [ep]
      simp only [kidsM, ex, ew, eb]
      exact .inr rfl
  | @not a ha iha =>
    intro m p hm
    simp only [hgt, hgtAll] at hm
    cases m with
    | zero => omega
    | succ m =>
      obtain ⟨x, ex, hx⟩ := (iha m (p ++ [1]) (by omega)).get
      rw [look_succ _ _ _ _ _ (node_not cols vars)]
      have ep : partsM (.tuple [.str "not", a]) = [(1, a)] := rfl
      have ew : wantM (.tuple [.str "not", a]) [x] = ([["truth"]] : List (List Str)) := rfl
      have eb : badM [(1, a)] [x] ([["truth"]] : List (List Str)) = none := by simp only [badM, fit_of hx (show ("truth" : Str) ∈ (["truth"] : List Str) by simp), if_true]
      rw [ep]
      simp only [kidsM, ex, ew, eb]
      exact .inr rfl
  | @case k c a b hk hc ha hb ihc iha ihb =>
    intro m p hm
    simp only [hgt, hgtAll] at hm
    cases m with
    | zero => omega
    | succ m =>
      obtain ⟨z, ez, hz⟩ := (ihc m (p ++ [1]) (by omega)).get
      obtain ⟨x, ex, hx⟩ := (iha m (p ++ [2]) (by omega)).get
      obtain ⟨y, ey, hy⟩ := (ihb m (p ++ [3]) (by omega)).get
      rw [look_succ _ _ _ _ _ (node_case cols vars)]
      have ep : partsM (.tuple [.str "case", c, a, b]) = [(1, c), (2, a), (3, b)] := rfl
      have ew : wantM (.tuple [.str "case", c, a, b]) [z, x, y] = ([["truth"], kindsL, oneK x kindsL] : List (List Str)) := rfl
      have eb : badM [(1, c), (2, a), (3, b)] [z, x, y] ([["truth"], kindsL, oneK x kindsL] : List (List Str)) = none := by
        simp only [badM, fit_of hz (show ("truth" : Str) ∈ (["truth"] : List Str) by simp), fit_of hx hk, fit_one hx hy hk, if_true]
      rw [ep]
      simp only [kidsM, ez, ex, ey, ew, eb]
      rcases hx with rfl | rfl
      · rcases hy with rfl | rfl
        · exact .inl rfl
        · exact .inr rfl
      · exact .inr rfl
end DS
set_option Elab.async false
set_option linter.all false
set_option maxRecDepth 100000
set_option maxHeartbeats 4000000
/-! ### own errors over a built-in one, whose __init__ says super().__init__(..) and stores its arguments -/
namespace DS
open PySem PySem.W PySem.Calls PyProof.Rows PySem.HandSPX
/-- a built-in error class -/
structure ExB (B newId initId : String) (bm : List Value) : Prop where
  kxs : KxsFacts B initId
  fb : ExcBaseFacts B newId initId bm
  st : StoreFacts B bm "object.__setattr__" "object"
  obj : bm.contains (.type "object") = true
abbrev bmV : List Value := [.type "ValueError", .type "Exception", .type "BaseException", .type "object"]
abbrev bmE : List Value := [.type "Exception", .type "BaseException", .type "object"]
abbrev bmL : List Value := [.type "LookupError", .type "Exception", .type "BaseException", .type "object"]
abbrev bmR : List Value := [.type "RuntimeError", .type "Exception", .type "BaseException", .type "object"]
theorem exB_V : ExB "ValueError" "ValueError.__new__" "ValueError.__init__" bmV := ⟨kxs_ValueError, F.excBase_ValueError, F.store_ValueError, by decide +kernel⟩
theorem exB_E : ExB "Exception" "Exception.__new__" "Exception.__init__" bmE := ⟨kxs_Exception, F.excBase_Exception, F.store_Exception, by decide +kernel⟩
theorem exB_L : ExB "LookupError" "LookupError.__new__" "LookupError.__init__" bmL := ⟨kxs_LookupError, F.excBase_LookupError, F.store_LookupError, by decide +kernel⟩
theorem exB_R : ExB "RuntimeError" "RuntimeError.__new__" "RuntimeError.__init__" bmR := ⟨kxs_RuntimeError, F.excBase_RuntimeError, F.store_RuntimeError, by decide +kernel⟩
section
open Builtin Builtin.ObjectAttr
variable {prog : Program} {w : World} {A : Around} {E : Value → Shared → Prop} {R : Result → Shared → Prop} {hp : Heap} {g : Array GenState} {d : Drawn} {t : Nat} {os : OsState} {B nI iI : String} {bm : List Value}
/-- a store into an error's own dict -/
theorem exs_to (XB : ExB B nI iI bm) {K : Frag} {f : Str} {tk : Tok} {v : Value} {x C : Addr} {ob : Obj} {od : Option Obj} {cd : ClassData} (X : K.In hp) (J : InstAt hp x ob C od) (hcd : clsIn K C = some cd) (hm : cd.mro = .ref C :: bm) (hf : findIn K (.ref C) f = some none)
    (hq : wpAny (model prog w) A.in1 (storeInOwnDict (.ref x) (.ref C) (.str f tk) f v false) (fun fin s' => match fin with | .done y => R (.ok y) s' | .again c' => c'.quiet = true ∧ codeAny (model prog w) A c' R s') (fun e s' => R (.error e) s') ⟨hp, g, d, t, os⟩) :
    codeAny (model prog w) A (.call (.builtin "object.__setattr__") ⟨[.ref x, .str f tk, v], []⟩) R ⟨hp, g, d, t, os⟩ := by
  have S0 := F.store_object
  have top : (Value.ref C :: bm).contains (.type "object") = true := by rw [List.contains_cons, XB.obj, Bool.or_true]
  have isO : mroIn K C (.type "object") = some true := by
    unfold mroIn
    rw [hcd]
    simp only [Option.bind_some, hm, List.isEmpty_cons, Bool.false_eq_true, if_false, top]
  have Lo : Looks (model prog w) hp (isInstance (.ref x) (.type "object")) true := J.type.andThen (looks_mroIn X isO)
  have Lm : Looks (model prog w) hp (mroOf (.ref C)) cd.mro := (looks_clsIn X hcd).andThen .now
  have free : refuseLoop (.ref x) "__setattr__" cd.mro = pure () := by rw [hm, refuseLoop_ref, XB.st.passes]
  have Lt : Looks (model prog w) hp (storeTaker? none) none := .now
  refine codeAny_call_builtin S0.slot.plain S0.entry ?_
  refine @check_slot (model prog w) _ _ ⟨hp, g, d, t, os⟩ "object.__setattr__" "object" "__setattr__" (.ref x) [.str f tk, v] [] _ S0.kind S0.split Lo (S0.args (.ref x) (.str f tk) v) ?_
  rw [osa_eq, refuse_eq]
  refine wpAny_bind (wpAny_bind (J.type.at (wpAny_bind (Lm.at ?_))))
  rw [free]
  exact wpAny_pure (wpAny_bind (J.type.at (wpAny_bind ((looks_findIn X hf).at (wpAny_bind (Lt.at hq))))))
theorem exs_new (XB : ExB B nI iI bm) {K : Frag} {f : Str} {tk : Tok} {v : Value} {x C : Addr} {fv : Array Value} {cd : ClassData} (X : K.In hp) (hx : hp.get? x = some { cls := .ref C, data := .fields fv }) (hcd : clsIn K C = some cd) (hm : cd.mro = .ref C :: bm) (hh : cd.hasDict = true) (hf : findIn K (.ref C) f = some none)
    (hq : ∀ h' tk' dx, (∀ b o, b ≠ x → hp.get? b = some o → h'.get? b = some o) → hp.objs.size ≤ dx → dx ≠ x → h'.get? x = some { cls := .ref C, dict := some dx, data := .fields fv } → h'.Ns1 dx (fun y => if y = f then some v else none) → R (.ok (.ret .none)) ⟨h', g, d, tk', os⟩) :
    codeAny (model prog w) A (.call (.builtin "object.__setattr__") ⟨[.ref x, .str f tk, v], []⟩) R ⟨hp, g, d, t, os⟩ := by
  have J : InstAt hp x { cls := .ref C, data := .fields fv } C none := ⟨hx, rfl, rfl, trivial⟩
  have apart : x ≠ hp.objs.size := Nat.ne_of_lt (Heap.lt_size hx)
  refine exs_to XB X J hcd hm hf ?_
  have Lc : Looks (model prog w) hp (classData C) cd := looks_clsIn X hcd
  cases cd
  dsimp only at hh
  subst hh
  unfold storeInOwnDict ownDictForStores
  repeat (first | with_reducible refine HandSPX.store_in_new ?_ ?_ | with_reducible refine wpAny_loadPart_at hx ?_ | with_reducible refine Lc.at ?_ | wp_step)
  · exact ⟨_, #[], _, (Heap.get?_update_ne _ _ _ _ (Ne.symm apart)).trans (Heap.get?_push_at rfl rfl), rfl, fun e he => absurd he (by simp), fun _ => rfl⟩
  · intro h' tk' hn sb
    have hx2 : (hp.push { cls := .type "dict", data := .dict #[] }).get? x = some { cls := .ref C, data := .fields fv } := Heap.get?_push_of_some _ hx
    refine hq h' tk' hp.objs.size (fun b o hb ho => ?_) (Nat.le_refl _) apart.symm ((sb.2 x apart).trans (Heap.get?_update_self _ hx2 rfl)) hn
    rw [sb.2 b (Nat.ne_of_lt (Heap.lt_size ho)), Heap.get?_update_ne _ _ _ _ hb]
    exact Heap.get?_push_of_some _ ho
theorem exs_more (XB : ExB B nI iI bm) {K : Frag} {f : Str} {tk : Tok} {v : Value} {x C dx : Addr} {fv : Array Value} {cd : ClassData} {m0 : Str → Option Value} {nl : List Str} (X : K.In hp) (hx : hp.get? x = some { cls := .ref C, dict := some dx, data := .fields fv }) (hns : hp.Ns1 dx m0) (hw : Within m0 nl) (hz : nl.length ≤ 1000)
    (hcd : clsIn K C = some cd) (hm : cd.mro = .ref C :: bm) (hh : cd.hasDict = true) (hf : findIn K (.ref C) f = some none)
    (hq : ∀ h' tk', (∀ b o, b ≠ dx → hp.get? b = some o → h'.get? b = some o) → h'.Ns1 dx (fun y => if y = f then some v else m0 y) → R (.ok (.ret .none)) ⟨h', g, d, tk', os⟩) :
    codeAny (model prog w) A (.call (.builtin "object.__setattr__") ⟨[.ref x, .str f tk, v], []⟩) R ⟨hp, g, d, t, os⟩ := by
  obtain ⟨oD, _, _, hoD, _, _⟩ := hns.count hw
  have J : InstAt hp x { cls := .ref C, dict := some dx, data := .fields fv } C (some oD) := ⟨hx, rfl, rfl, hoD⟩
  refine exs_to XB X J hcd hm hf ?_
  have Lc : Looks (model prog w) hp (classData C) cd := looks_clsIn X hcd
  cases cd
  dsimp only at hh
  subst hh
  unfold storeInOwnDict ownDictForStores
  repeat (first | with_reducible refine OEX.store_in_old hns hw hz ?_ | with_reducible refine wpAny_loadPart_at hx ?_ | with_reducible refine Lc.at ?_ | wp_step)
  exact fun h' tk' hn sb => hq h' tk' (fun b o hb ho => (sb.2 b hb).trans ho) hn
end
/-- what the written part says of such a class, at C, its __init__ at fI -/
structure ExTx (prog : Program) (K : Frag) (mg : Str → Option Value) (nm : Str) (B nI iI : String) (bm : List Value) (C fI : Addr) (fs : List Str) : Prop where
  gC : mg nm = some (.ref C)
  cls : ∃ nm' q N bs sn sub ab col dd k0 k1 k2 k3 k5, K.lookup C = some (excClassObj nm' q C N bs bm true sn sub ab col dd k0 k1 k2 k3 k5 nI)
  sa : findIn K (.ref C) "__setattr__" = some (some (.builtin "object.__setattr__"))
  ga : findIn K (.ref C) "__getattribute__" = some (some (.builtin "BaseException.__getattribute__"))
  gg : findIn K (.ref C) "__getattr__" = some none
  noN : ∀ f ∈ fs, findIn K (.ref C) f = some none
  iC : findIn K (.ref C) "__init__" = some (some (.ref fI))
  tC : typeIn K (.ref fI) = some (.type "function")
  kC : keepIn K (.ref C) = true
  exC : subIn K (.ref C) (.type "BaseException") = some true
  veC : subIn K (.ref C) (.type B) = some true
  tyC : typeIn K (.ref C) = some (.type "type")
  hdC : hasDictIn K C = true
  te : exmOne K (.ref C) (.ref C) = some true
  mro : mroIn K C (.ref C) = some true
  along : ks_superIn K C C "__init__" = some (some (.builtin iI))
  third : nsIn K cStatics "thirdparty.any" = some none
  sup : mg "super" = none
  top : (prog.main.scope.names.lookup ("super" : Str)).isSome = false
def mOf (L : List (Str × Value)) : Str → Option Value := fun y => L.lookup y
theorem mOf_cons (f : Str) (v : Value) (L : List (Str × Value)) : (fun y => if y = f then some v else mOf L y) = mOf ((f, v) :: L) := by
  funext y
  unfold mOf
  rw [List.lookup_cons]
  by_cases h : y = f
  · subst h; simp
  · have : (y == f) = false := by simpa using h
    rw [if_neg h, this]
theorem mOf_one (f : Str) (v : Value) : (fun y => if y = f then some v else none) = mOf [(f, v)] := mOf_cons f v []
theorem within_mOf : ∀ L : List (Str × Value), Within (mOf L) (L.map (·.1))
  | [] => Within.nil
  | (f, v) :: L => by rw [← mOf_cons]; exact Within.cons f v (within_mOf L)
/-- what __init__ leaves of a fresh error at x -/
structure ExInit (h h' : Heap) (x C dx : Addr) (L : List (Str × Value)) : Prop where
  keep : ∀ b o, b ≠ x → h.get? b = some o → h'.get? b = some o
  obj : ∃ t1, h'.get? x = some { cls := .ref C, dict := some dx, data := .fields #[.ref t1, .none, .none, .none, .bool false, .none] }
  dbig : h.objs.size ≤ dx
  dne : dx ≠ x
  ns : h'.Ns1 dx (mOf L)
def InitOk (prog : Program) (w : World) (K : Frag) (mg : Str → Option Value) (C fI : Addr) (vs : List Value) (L : List (Str × Value)) : Prop :=
  ∀ {A : Around} {R : Result → Shared → Prop} {s : Shared} {mb : Str → Option Value} {x t0 : Addr}, K.In s.heap → s.heap.NoLimit → s.heap.Ns mainGlobals mg → s.heap.Ns builtinsNs mb → (∀ x : Str, x ≠ "__name__" → mb x = bootBuiltins x) →
    s.heap.get? x = some (excO C t0) → K.lookup x = none → A.depth < recursionLimit → (∀ h' tk dx, ExInit s.heap h' x C dx L → R (.ok (.ret .none)) { s with heap := h', toks := tk }) →
    codeAny (model prog w) A (.call (.ref fI) ⟨.ref x :: vs, []⟩) R s
section
variable {prog : Program} {w : World} {A : Around} {E : Value → Shared → Prop} {R : Result → Shared → Prop} {s : Shared} {K : Frag} {mg : Str → Option Value} {C fI : Addr} {nm : Str} {B nI iI : String} {bm : List Value} {fs : List Str}
/-- the bound built-in __init__, called -/
theorem ex_base (XB : ExB B nI iI bm) {h : Heap} {g : Array GenState} {d : Drawn} {t : Nat} {os : OsState} {u e t0 : Addr} {rest : List Value} {Q : Value → Shared → Prop} (T : ExTx prog K mg nm B nI iI bm C fI fs) (X : K.In h)
    (he : h.get? e = some (excO C t0)) (hu : h.get? u = some (kxs_mw iI e)) (hz : rest.length ≤ sizeLine)
    (hq : ∀ h' t1, (∀ b o, b ≠ e → h.get? b = some o → h'.get? b = some o) → h'.get? e = some (excO C t1) → Q .none ⟨h', g, d, t, os⟩) :
    wpAny (model prog w) A (call (.ref u) rest) Q E ⟨h, g, d, t, os⟩ := by
  obtain ⟨nm', q, N, bs, sn, sub, ab, col, dd, k0, k1, k2, k3, k5, hC⟩ := T.cls
  refine wpAny_call (codeAny_of_tree (show wpAny _ A.in1 (callAny (.ref u) ⟨rest, []⟩) _ _ _ from ?_))
  simp only [callAny]
  refine wpAny_bind (wpAny_load hu ?_)
  simp only [kxs_mw, show (Value.type "method-wrapper" == Value.type "method" || Value.type "method-wrapper" == Value.type "builtin_function_or_method" || Value.type "method-wrapper" == Value.type "method-wrapper") = true by decide, if_true]
  refine KFB.if_so (by decide) (wpAny_bind (check_bound_init XB.fb.toExcCallFacts (X _ _ hC) he rfl (wpAny_bind (wpAny_pure (wpAny_pure ⟨plainId_quiet XB.fb.init.plain _, codeAny_builtin XB.fb.initEntry ?_⟩)))))
  exact exc_init_tree (cls := .ref C) (t0 := t0) (dv := none) (c2 := .none) (c3 := .none) (b4 := .bool false) he hz fun h' k e' _ => hq h' _ k e'
/-- a made error -/
structure ExMade (h h' : Heap) (e C d : Addr) (L : List (Str × Value)) : Prop where
  keep : ∀ b o, h.get? b = some o → h'.get? b = some o
  new : h.objs.size ≤ e
  obj : ∃ t1 : Addr, h'.get? e = some ({ cls := .ref C, dict := some d, data := .fields #[.ref t1, .none, .none, .none, .bool false, .none] } : Obj)
  dbig : h.objs.size ≤ d
  dne : d ≠ e
  ns : h'.Ns1 d (mOf L)
theorem ex_made (XB : ExB B nI iI bm) (T : ExTx prog K mg nm B nI iI bm C fI fs) {vs : List Value} {L : List (Str × Value)} (init : InitOk prog w K mg C fI vs L) (hvs : vs.length ≤ 100) {mb : Str → Option Value} (X : K.In s.heap) (hlim : s.heap.NoLimit) (gns : s.heap.Ns mainGlobals mg) (bns : s.heap.Ns builtinsNs mb)
    (bb : ∀ x : Str, x ≠ "__name__" → mb x = bootBuiltins x) (hroom : A.depth + 1 < recursionLimit) (hq : ∀ h' tk e d, ExMade s.heap h' e C d L → R (.ok (.ret (.ref e))) { s with heap := h', toks := tk }) :
    codeAny (model prog w) A (.call (.ref C) ⟨vs, []⟩) R s := by
  obtain ⟨nm', q, N, bs, sn, sub, ab, col, dd, k0, k1, k2, k3, k5, hC⟩ := T.cls
  obtain ⟨hp, g, dr, tk, os⟩ := s
  have up : ∀ b o, hp.get? b = some o → ((hp.push (kdv_tup vs)).push (excO C hp.objs.size)).get? b = some o := fun b o e => Heap.get?_push_of_some _ (Heap.get?_push_of_some _ e)
  have at1 : ((hp.push (kdv_tup vs)).push (excO C hp.objs.size)).get? (hp.objs.size + 1) = some (excO C hp.objs.size) := by heap_get
  have nK : K.lookup (hp.objs.size + 1) = none := by
    cases e : K.lookup (hp.objs.size + 1) with
    | none => rfl
    | some o => exact absurd (Nat.lt_of_succ_lt (Heap.lt_size (show hp.get? (hp.objs.size + 1) = some o from X _ _ e))) (Nat.lt_irrefl _)
  refine call_own XB.fb (fun Y => rfl) (X _ _ hC) (looks_findIn X T.iC) (fun self => bind_fn X self T.tC) (by rw [sizeLine_eq]; omega) ?_
  refine init (s := ⟨(hp.push (kdv_tup vs)).push (excO C hp.objs.size), g, dr, tk, os⟩) (X.keeps up) (hlim.keeps up) (gns.keeps up) (bns.keeps up) bb at1 nK (show A.depth + 1 < recursionLimit from hroom) fun h' tk' dx I => ?_
  have z : hp.objs.size + 1 + 1 ≤ dx := by
    have := I.dbig
    rw [Heap.size_push, Heap.size_push] at this
    exact this
  obtain ⟨t1, ho⟩ := I.obj
  refine ⟨rfl, hq h' tk' (hp.objs.size + 1) dx ⟨fun b o e => I.keep b o (Nat.ne_of_lt (Nat.lt_succ_of_lt (Heap.lt_size e))) (up b o e), Nat.le_succ _, ⟨t1, ho⟩, Nat.le_trans (Nat.le_trans (Nat.le_succ _) (Nat.le_succ _)) z, I.dne, I.ns⟩⟩
end
end DS
set_option Elab.async false
set_option linter.all false
set_option maxRecDepth 100000
set_option maxHeartbeats 4000000
namespace DS
open PySem PySem.Spec PyProof.Rows L2
/-- the fields out of the arguments, the last stored first -/
def lay (sel : List (Str × Nat)) (us : List Value) : List (Str × Value) := sel.map fun p => (p.1, us.getD p.2 .none)
def layV (sel : List (Str × Nat)) (vs : List V) : List (Str × V) := sel.map fun p => (p.1, vs.getD p.2 .non)
theorem vals_getD : ∀ {vs : List V} {us : List Value} (i : Nat), Vals vs us → i < vs.length → RelV (vs.getD i .non) (us.getD i .none)
  | _, _, _, .nil, h => by simp at h
  | _, _, 0, .cons r _, _ => r
  | _, _, i + 1, .cons _ rs, h => vals_getD i rs (by simpa using h)
theorem relO_lay {vs : List V} {us : List Value} (r : Vals vs us) : ∀ (sel : List (Str × Nat)), (∀ p ∈ sel, p.2 < vs.length) → ∀ f : Str, RelO ((layV sel vs).lookup f) (mOf (lay sel us) f)
  | [], _, f => trivial
  | (g, i) :: sel, h, f => by
    have ih := relO_lay r sel (fun p hp => h p (List.mem_cons_of_mem _ hp)) f
    show RelO (List.lookup f ((g, vs.getD i .non) :: layV sel vs)) (List.lookup f ((g, us.getD i .none) :: lay sel us))
    rw [List.lookup_cons, List.lookup_cons]
    cases f == g with
    | true => exact vals_getD i r (h (g, i) List.mem_cons_self)
    | false => exact ih
/-- an own error class that takes n arguments -/
structure ExOk (P : Program) (w : World) (K : PySem.W.Frag) (mg : Str → Option Value) (nm : Str) (C : Addr) (n : Nat) (sel : List (Str × Nat)) : Prop where
  ex : ∃ B nI iI bm fI, ExB B nI iI bm ∧ ExTx P K mg nm B nI iI bm C fI (sel.map (·.1)) ∧ ∀ vs : List Value, vs.length = n → InitOk P w K mg C fI vs (lay sel vs)
  bd : ∀ p ∈ sel, p.2 < n
  small : n ≤ 100
section
variable {X : Cx} {C : Addr} {nm : Str} {n : Nat} {sel : List (Str × Nat)}
/-- Name(..) -/
def tMkE (C : Addr) (n : Nat) (sel : List (Str × Nat)) (ta : TA) : L2.St → Hp → XK → Prop := fun σ H Q => ta σ H fun vs H1 => vs.length = n ∧ ∀ d, H1 d = none → Q (.ref C) (some d) (upd H1 d (.xd (layV sel vs)))
theorem pmk5E {e : Expr} {es : List Expr} {ta : TA} {p pos : Pos} (T : ExOk X.prog X.w X.K X.mg nm C n sel) (hroom : X.A.depth + 1 < recursionLimit) (ha : PA X (e :: es) ta) (hg : Gl X nm := by rfl) (hdb : (nm == ("__debug__" : Str)) = false := by decide)
    (he : starEach (e :: es) X.env = (false, eval e X.env) :: starEach es X.env := by rfl) (hpl : (backTo pos (starEach es X.env)).any (·.1) = false := by rfl) :
    L2H.PMk5 X (.Call (.Name nm p) (e :: es) [] pos) (tMkE C n sel ta) := by
  obtain ⟨B, nI, iI, bm, fI, XB, TX, ini⟩ := T.ex
  intro pins s σ H Q I h
  refine wpAny_Call_Name_kw (ld_glob I hg TX.gC ?_ hdb)
  refine PySem.W.callWith_K (h₀ := X.base) I.ok.mod.kin TX.kC (thn (ha.run pos pins s σ H _ I h) fun us s1 hh => ?_) he hpl
  obtain ⟨vs, H1, I1, r1, hn, q1⟩ := hh
  refine ⟨I1.kIn, ?_⟩
  show wpAny _ _ (call (.ref C) us) _ _ _
  have hu : us.length = n := by rw [← r1.length]; exact hn
  have hlim := I1.nolimit
  obtain ⟨mb, bns, bb⟩ := I1.ok.mod.blt
  have gns := I1.ok.mod.glob.keeps I1.bk
  have bns' := bns.keeps I1.bk
  obtain ⟨hp, g, dr, tk, os⟩ := s1
  refine wpAny_call (ex_made XB TX (ini us hu) (by rw [hu]; exact T.small) I1.kIn hlim gns bns' bb hroom fun h' tk' e d M => ?_)
  show L2N.MkP X pins σ Q (.ref e) ⟨h', g, dr, tk', os⟩ ∧ _
  obtain ⟨t1, hoe⟩ := M.obj
  have hns := M.ns
  obtain ⟨G', g1, g2⟩ := restrict h' fun b => decide (b ≠ e)
  have gk : ∀ b, b ≠ e → G'.get? b = h'.get? b := fun b hb => g1 b (decide_eq_true hb)
  have ge : G'.get? e = none := g2 e (by simp)
  have old : ∀ b o, hp.get? b = some o → G'.get? b = some o := fun b o q => (gk b (Nat.ne_of_lt (Nat.lt_of_lt_of_le (Heap.lt_size q) M.new))).trans (M.keep b o q)
  have bdv : ∀ p ∈ sel, p.2 < vs.length := fun p hp => by rw [hn]; exact T.bd p hp
  have ob : ObjOk X.prog X.w (upd H1 d (.xd (layV sel vs))) G' d (.xd (layV sel vs)) := ⟨_, hns.at (fun o q => (gk d M.dne).trans q), fun f => relO_lay r1 sel bdv f⟩
  have J : Inv X pins σ (upd H1 d (.xd (layV sel vs))) ⟨G', g, dr, tk', os⟩ := I1.laid (t' := tk') old M.dbig ob
  refine ⟨⟨e, _, _, ⟨G', g, dr, tk', os⟩, _, .ref C, some d, rfl, J, fun b o q => ?_, ge, hoe, ⟨rfl, rfl, fun fv q => by cases q; rfl⟩, rfl, rfl, ?_, rfl, I1.bare, raises_own TX.exC TX.tyC, q1 d (I1.hok.fresh M.dbig)⟩, ?_⟩
  · by_cases hb : b = e
    · have q' : G'.get? b = some o := q
      rw [hb, ge] at q'; cases q'
    · exact (gk b hb).symm.trans q
  · rw [upd_ne (Ne.symm M.dne)]
    exact I1.hok.fresh M.new
  · intro a oe fv ea eo ed
    cases ea
    rw [show (⟨h', g, dr, tk', os⟩ : Shared).heap.get? e = _ from hoe] at eo
    cases eo
    cases ed
    show 4 < 6
    decide
/-- where the context is of no matter -/
theorem pmk_zc {e : Expr} {t : L2.St → Hp → XK → Prop} (h : L2H.PMk5 X e t) : PMk X e t := fun pins s σ H Q I q => thn (h pins s σ H Q I q) fun u s' x => by
  obtain ⟨⟨a, oe, vs, sI, H', cls, d, q1, q2, q3, q4, q5, q6, q7⟩, _⟩ := x
  exact ⟨a, oe, vs, sI, H', cls, d, q1, q2, q3, q4, q5, q6.zc, q7⟩
/-- raise Name(..) -/
def tRaiseE (C : Addr) (n : Nat) (sel : List (Str × Nat)) (W : WX) (ta : TA) : TS := fun _ σ H => tMkE C n sel ta σ H fun cls d H' => W cls d σ H'
theorem ps_raiseE {e : Expr} {es : List Expr} {ta : TA} {W : WX} {p pos pos2 : Pos} {k : Nat} (hc : X.calm = true) (T : ExOk X.prog X.w X.K X.mg nm C n sel) (hr : Room k X.A) (tk : Takes X W) (ha : PA X (e :: es) ta) (hg : Gl X nm := by rfl) (hdb : (nm == ("__debug__" : Str)) = false := by decide)
    (he : starEach (e :: es) X.env = (false, eval e X.env) :: starEach es X.env := by rfl) (hpl : (backTo pos (starEach es X.env)).any (·.1) = false := by rfl) :
    PS X (.Raise (some (.Call (.Name nm p) (e :: es) [] pos)) none pos2) (tRaiseE C n sel W ta) := ps_raise hc tk (pmk_zc (pmk5E T (by have := hr.dp; omega) ha hg hdb he hpl))
/-- the same, where its context is told -/
theorem ps_raiseEN {e : Expr} {es : List Expr} {ta : TA} {W : WX} {p pos pos2 : Pos} {k : Nat} (hc : X.calm = true) (T : ExOk X.prog X.w X.K X.mg nm C n sel) (hr : Room k X.A) (tk : L2N.Takes X W) (ha : PA X (e :: es) ta) (hg : Gl X nm := by rfl) (hdb : (nm == ("__debug__" : Str)) = false := by decide)
    (he : starEach (e :: es) X.env = (false, eval e X.env) :: starEach es X.env := by rfl) (hpl : (backTo pos (starEach es X.env)).any (·.1) = false := by rfl) :
    PS X (.Raise (some (.Call (.Name nm p) (e :: es) [] pos)) none pos2) (tRaiseE C n sel W ta) := L2N.ps_raise hc tk (L2H.PMk5.pmk (pmk5E T (by have := hr.dp; omega) ha hg hdb he hpl))
/-- e.f, e the exception that the suite holds (at a; its class cls, its dict d) -/
def tFldE (C : Addr) (f : Str) (a : Addr) (cls : Value) (d : Option Addr) (te : TE) : TE := fun σ H Q => te σ H fun x H1 => x = .ref a ∧ cls = .ref C ∧ ∃ (dd : Addr) (fs : List (Str × V)) (v : V), d = some dd ∧ H1 dd = some (.xd fs) ∧ fs.lookup f = some v ∧ Q v H1
theorem pe_fldE {a : Addr} {oe : Obj} {cls : Value} {d : Option Addr} {pn : List (Addr × Obj)} {e : Expr} {f : Str} {te : TE} {pos : Pos} (T : ExOk X.prog X.w X.K X.mg nm C n sel) (hf0 : f ∈ sel.map (·.1)) (hz : Zc cls d oe) (hf : ∃ vs, oe.data = .fields vs) (he : PE (X.suite a ((a, oe) :: pn)) e te)
    (hb : attributeBase e f X.env (eval e X.env) = eval e X.env := by rfl) :
    PE (X.suite a ((a, oe) :: pn)) (.Attribute e f pos) (tFldE C f a cls d te) := by
  obtain ⟨B, nI, iI, bm, fI, XB, TX, ini⟩ := T.ex
  refine ⟨fun pins s σ H Q I h => ?_⟩
  refine attr_of hb (thn (he.run pins s σ H _ I h) fun u s1 hh => ?_)
  obtain ⟨x, H1, I1, rx, ex, ec, dd, fs, v, ed, ea, el, q⟩ := hh
  subst ex
  obtain rfl : u = Value.ref a := rx
  subst ec
  subst ed
  obtain ⟨ha, _⟩ := I1.pin (a, oe) (List.mem_append_left _ List.mem_cons_self)
  obtain ⟨vs, hd⟩ := hf
  have hx : ObjOk X.prog X.w H1 s1.heap dd (.xd fs) := I1.hok dd _ ea
  obtain ⟨mA, hns, hr⟩ := hx
  obtain ⟨od, ho, hl⟩ := lookIn_ns hns
  obtain ⟨u, hu, ru⟩ := RelO.some_of (v := v) (o := mA f) (by rw [← el]; exact hr f)
  have J : PySem.W.InstAt s1.heap a oe C (some od) := ⟨ha, hz.1, by unfold PySem.W.notCls; rw [hd] <;> rfl, by rw [hz.2]; exact ho⟩
  exact HandSPX.exc_get I1.kIn J TX.ga TX.gg TX.exC (PySem.W.findObj_own TX.hdC (TX.noN f hf0) rfl (by rw [hl, hu])) (handed_of ru) ⟨v, H1, I1.tok _, ru, q⟩
/-- isinstance(e, c), e the exception that the suite holds -/
def rIsX (K : PySem.W.Frag) (D a : Addr) (cls : Value) (d : Option Addr) : List V → Hp → VK → Prop := fun xs H Q => ∃ (c : V) (cv : Value) (b : Bool) (dd : Addr) (fs : List (Str × V)), xs = [.ref a, c] ∧ cls = .ref D ∧ d = some dd ∧ H dd = some (.xd fs) ∧ (∀ u, RelV c u → u = cv) ∧ PySem.W.kitOne K (.ref D) cv = some b ∧ Q (.bl b) H
theorem call_isX {a D : Addr} {oe : Obj} {cls : Value} {d : Option Addr} {pn : List (Addr × Obj)} (C : ExcC X.K D) (hz : Zc cls d oe) (hf : ∃ vs, oe.data = .fields vs) : CallR (X.suite a ((a, oe) :: pn)) (.builtin "isinstance") (rIsX X.K D a cls d) := by
  intro pins s σ H xs us Q I r h
  obtain ⟨c, cv, b, dd, fs, rfl, ec, ed, ea, hcv, e, q⟩ := h
  subst ec
  subst ed
  obtain ⟨u1, u2, rfl, rx, rt⟩ := vals2 r
  obtain rfl : u1 = Value.ref a := rx
  have ec := hcv _ rt
  subst ec
  obtain ⟨hget, _⟩ := I.pin (a, oe) (List.mem_append.mpr (.inl List.mem_cons_self))
  obtain ⟨vs, hv⟩ := hf
  have hx : ObjOk X.prog X.w H s.heap dd (.xd fs) := I.hok dd _ ea
  obtain ⟨mA, hns, _⟩ := hx
  obtain ⟨od, ho, hl⟩ := lookIn_ns hns
  have J : PySem.W.InstAt s.heap a oe D (some od) := ⟨hget, hz.1, by unfold PySem.W.notCls; rw [hv] <;> rfl, by rw [hz.2]; exact ho⟩
  have hcl : (PySem.W.clsIn X.K D).isSome = true := by
    obtain ⟨cd, hc, _⟩ := PySem.W.any_some C.hd
    rw [hc]; rfl
  exact PySem.W.kia_one (PySem.W.kitx_exc hcl C.hg C.hk C.hs C.ha C.hn C.ht C.hm) I.kIn J e (fun z => nomatch z) fun tk => ⟨.bl b, H, I.kept (t' := tk) fun _ _ z => z, rfl, q⟩
end
end DS
set_option Elab.async false
set_option linter.all false
set_option maxRecDepth 100000
set_option maxHeartbeats 4000000
namespace DS
open PySem L2
def top (i : Nat) : Stmt := PySem.Challenge.pw_deedstore_k07_kinds.main.body.getD i (.Pass ⟨0, 0, 0, 0⟩)
end DS
set_option Elab.async false
set_option linter.all false
set_option maxRecDepth 100000
set_option maxHeartbeats 4000000
namespace DS
open PySem PySem.W PySem.Calls PyProof.Rows PySem.HandSPX
open L2 (inClass)
/-! ### BadTree(ValueError) -/
abbrev xBadTree : Stmt := inClass (top 1) 0
structure FnBadTree (prog : Program) (K : Frag) (C fI : Addr) : Prop where
  fn : ∃ (oc : Value) (od : Option Addr) (doc pm : Value) (an : Option Addr) (cda cc : Addr) (ct : Value) (osl : Array (Option Value)) (ccl cl : Value) (cdd cld : Option Addr) (cv : Array Value) (ccs csl : Array (Option Value)) (file : Str) (tf : Tok),
    K.lookup fI = some ⟨oc, od, .func (ksFn "__init__" "BadTree.__init__" (L2.defArgs xBadTree) (L2.defBody xBadTree) (L2.defScope xBadTree) .none .none doc pm an (.ref cda) ct cc), osl⟩ ∧ codeIn K (.ref cda) "BadTree.__init__" = true ∧
    K.lookup cda = some ⟨ccl, cdd, .fields cv, ccs⟩ ∧ cv[2]? = some (.str file tf) ∧ ((prog.main.file : Str) == file) = true ∧ K.lookup cc = some ⟨cl, cld, .cell (some (.ref C)), csl⟩
theorem init_BadTree {prog : Program} {w : World} {K : Frag} {mg : Str → Option Value} {C fI : Addr} (T : ExTx prog K mg "BadTree" "ValueError" "ValueError.__new__" "ValueError.__init__" bmV C fI ["word", "path"]) (Fn : FnBadTree prog K C fI) (vs : List Value) (hvs : vs.length = 2) : InitOk prog w K mg C fI vs (lay [("word", 1), ("path", 0)] vs) := by
  match vs, hvs with
  | [v1, v2], _ =>
  intro A R s mb x t0 X hlim gns bns bb hx hnx hroom hq
  obtain ⟨oc, od, doc, pm, an, cda, cc, ct, osl, ccl, cl, cdd, cld, cv, ccs, csl, file, tf, hf, hcode, hcda, hvs, hfile, hcell⟩ := Fn.fn
  obtain ⟨nm', q, N, bs, sn, sub, ab, col, dd, k0, k1, k2, k3, k5, hC⟩ := T.cls
  have hcl : clsIn K C = some { name := nm', bases := bs, mro := .ref C :: bmV, ns := N, qualname := q, hasDict := true, slotNames := sn, subclasses := sub, abstract := ab, collection := col, hasDel := false } := by unfold clsIn; rw [hC] <;> rfl
  refine ks_codeAny_call_defAt (binds := [("self", .ref x), ("path", v1), ("word", v2)]) hroom (X _ _ hf) rfl hlim (codeRec_of X hcode) rfl (BindsTo.of_eq (by first | rfl | with_unfolding_all rfl)) (show ∀ x ∈ (L2.defScope xBadTree).names, x.2 ≠ .cell by decide +kernel) (fun y hy => ?_) fun h1 hn k1' => ?_
  · simp only [List.mem_cons, List.not_mem_nil, or_false] at hy
    rcases hy with rfl | rfl | rfl <;> rfl
  have X1 : K.In h1 := X.keeps k1'
  have hx1 : h1.get? x = some (excO C t0) := k1' _ _ hx
  have hxL : s.heap.objs.size ≠ x := Nat.ne_of_gt (Heap.lt_size hx)
  show _root_.PySem.wpAt _ _ _ (execs (L2.defBody xBadTree) _) _ _ _
  refine ks_wpAt_execs_cons (ks_wpAt_Expr_any (ks_wpAt_MethodCall ?_))
  have oD : h1.get? C = some _ := X1 _ _ hC
  refine ks_wpAt_super_base (cc := cda) (f := fI) rfl rfl (by decide +kernel) rfl (X1 _ _ hf) rfl (ar := (L2.defArgs xBadTree).args.getD 0 ⟨"self", none, ⟨0, 0, 0, 0⟩⟩) rfl rfl (X1 _ _ hcda) rfl hvs hfile T.top ?_
  refine ks_loadName_global rfl rfl (loadGlobal_builtin (gns.keeps k1') T.sup (bns.keeps k1') ((bb _ (by decide +kernel)).trans (by decide +kernel)) ⟨rfl, ?_⟩)
  refine wpAny_loadName_free rfl rfl rfl ⟨_, X1 _ _ hcell, rfl⟩ ?_
  refine wpAny_loadName_local rfl rfl hn (v := .ref x) (by first | rfl | kernel_rfl) ?_
  refine ks_wpAny_isType_cls oD rfl ⟨rfl, ?_⟩
  refine ks_wpAny_call_super oD rfl hx1 rfl (fun c e => nomatch e) (looks_mroIn X1 T.mro) fun h2 hso k2' => ?_
  have X2 : K.In h2 := X1.keeps k2'
  have hx2 := k2' _ _ hx1
  have al := T.along
  unfold ks_superIn at al
  rw [hcl] at al
  have I2 : InstAt h2 x (excO C t0) C none := ⟨hx2, rfl, rfl, trivial⟩
  refine kxs_getMethod exB_V.kxs hso (looks_opaque X2 T.third) (l₀ := .ref C :: bmV) ((looks_clsIn X2 hcl).andThen .now) rfl X2 al (I2.type.andThen (looks_subIn X2 T.veC)) (ks_ne X2 I2 hcl) (by decide +kernel) ?_
  have n2 := hn.keeps k2'
  have k3' : ∀ b o, h2.get? b = some o → (h2.push (kxs_mw "ValueError.__init__" x)).get? b = some o := fun b o e => Heap.get?_push_of_some _ e
  refine kxs_callWith (i := "ValueError.__init__") (x := x) rfl (evalArgs_plain ?_)
  refine Calls.spliced_cons (wpAny_Name (wpAny_loadName_local rfl rfl (n2.keeps k3') (v := v1) (by first | rfl | kernel_rfl) ?_) (by decide +kernel))
  refine Calls.spliced_cons (wpAny_Name (wpAny_loadName_local rfl rfl (n2.keeps k3') (v := v2) (by first | rfl | kernel_rfl) ?_) (by decide +kernel))
  refine Calls.spliced_nil ⟨Heap.get?_push_at rfl rfl, ?_⟩
  refine ex_base exB_V T (X2.keeps k3') (k3' _ _ hx2) (Heap.get?_push_at rfl rfl) (by rw [sizeLine_eq]; exact (by decide : 2 ≤ 16777216)) fun h4 t1 k4 hx4 => ?_
  have old4 : ∀ b o, b ≠ x → s.heap.get? b = some o → h4.get? b = some o := fun b o hb e => k4 b o hb (k3' b o (k2' b o (k1' b o e)))
  have X4 : K.In h4 := fun b o e => old4 b o (fun z => by rw [z, hnx] at e; cases e) (X b o e)
  obtain ⟨oL, es, ep, eL, rL⟩ := n2.keeps k3'
  have n4 : h4.Ns s.heap.objs.size _ := ⟨oL, es, ep, k4 _ _ hxL eL, rL⟩
  have zL : s.heap.objs.size < h4.objs.size := n4.lt
  refine ks_wpAt_execs_cons (ks_wpAt_Assign_Attr (wpAt_of_wpAny ?_))
  refine wpAny_Name (wpAny_loadName_local rfl rfl n4 (v := v1) (by first | rfl | kernel_rfl) ?_) (by decide +kernel)
  refine wpAny_Name (wpAny_loadName_local rfl rfl n4 (v := .ref x) (by first | rfl | kernel_rfl) ?_) (by decide +kernel)
  refine set_plain X4 (ox := excO C t1) (od := none) ⟨hx4, rfl, rfl, trivial⟩ T.sa ?_
  refine exs_new exB_V X4 hx4 hcl rfl rfl (T.noN "path" (by simp)) fun h5 tk5 dx k5 dn dne hx5 hn5 => ?_
  rw [mOf_one] at hn5
  have old5 : ∀ b o, b ≠ x → s.heap.get? b = some o → h5.get? b = some o := fun b o hb e => k5 b o hb (old4 b o hb e)
  have X5 : K.In h5 := fun b o e => old5 b o (fun z => by rw [z, hnx] at e; cases e) (X b o e)
  have big : s.heap.objs.size < dx := Nat.lt_of_lt_of_le zL dn
  obtain ⟨oM4, es4, ep4, eM4, rM4⟩ := n4
  have n5 : h5.Ns s.heap.objs.size _ := ⟨oM4, es4, ep4, k5 _ _ hxL eM4, rM4⟩
  refine ks_wpAt_execs_cons (ks_wpAt_Assign_Attr (wpAt_of_wpAny ?_))
  refine wpAny_Name (wpAny_loadName_local rfl rfl n5 (v := v2) (by first | rfl | kernel_rfl) ?_) (by decide +kernel)
  refine wpAny_Name (wpAny_loadName_local rfl rfl n5 (v := .ref x) (by first | rfl | kernel_rfl) ?_) (by decide +kernel)
  obtain ⟨oD1, _, _, hoD1, _, _⟩ := hn5.count (within_mOf _)
  refine set_plain X5 (ox := { cls := .ref C, dict := some dx, data := .fields #[.ref t1, .none, .none, .none, .bool false, .none] }) (od := some oD1) ⟨hx5, rfl, rfl, hoD1⟩ T.sa ?_
  refine exs_more exB_V X5 hx5 hn5 (within_mOf _) (by simp) hcl rfl rfl (T.noN "word" (by simp)) fun h6 tk6 k6 hn6 => ?_
  rw [mOf_cons] at hn6
  have old6 : ∀ b o, b ≠ x → s.heap.get? b = some o → h6.get? b = some o := fun b o hb e => k6 b o (Nat.ne_of_lt (Nat.lt_trans (Heap.lt_size e) big)) (old5 b o hb e)
  have X6 : K.In h6 := fun b o e => old6 b o (fun z => by rw [z, hnx] at e; cases e) (X b o e)
  have hx6 := k6 _ _ (Ne.symm dne) hx5
  show _root_.PySem.wpAt _ _ _ (execs _ _) _ _ _
  refine wpAt_of_wpAny (wpAny_execs_nil ?_)
  exact hq h6 tk6 dx ⟨old6, ⟨t1, hx6⟩, Nat.le_of_lt big, dne, hn6⟩
theorem exOk_BadTree {prog : Program} {w : World} {K : Frag} {mg : Str → Option Value} {C fI : Addr} (T : ExTx prog K mg "BadTree" "ValueError" "ValueError.__new__" "ValueError.__init__" bmV C fI ["word", "path"]) (Fn : FnBadTree prog K C fI) : ExOk prog w K mg "BadTree" C 2 [("word", 1), ("path", 0)] :=
  ⟨⟨_, _, _, _, fI, exB_V, T, init_BadTree T Fn⟩, by decide, by decide⟩
/-! ### Wrong(Exception) -/
abbrev xWrong : Stmt := inClass (top 43) 0
structure FnWrong (prog : Program) (K : Frag) (C fI : Addr) : Prop where
  fn : ∃ (oc : Value) (od : Option Addr) (doc pm : Value) (an : Option Addr) (cda cc : Addr) (ct : Value) (osl : Array (Option Value)) (ccl cl : Value) (cdd cld : Option Addr) (cv : Array Value) (ccs csl : Array (Option Value)) (file : Str) (tf : Tok),
    K.lookup fI = some ⟨oc, od, .func (ksFn "__init__" "Wrong.__init__" (L2.defArgs xWrong) (L2.defBody xWrong) (L2.defScope xWrong) .none .none doc pm an (.ref cda) ct cc), osl⟩ ∧ codeIn K (.ref cda) "Wrong.__init__" = true ∧
    K.lookup cda = some ⟨ccl, cdd, .fields cv, ccs⟩ ∧ cv[2]? = some (.str file tf) ∧ ((prog.main.file : Str) == file) = true ∧ K.lookup cc = some ⟨cl, cld, .cell (some (.ref C)), csl⟩
theorem init_Wrong {prog : Program} {w : World} {K : Frag} {mg : Str → Option Value} {C fI : Addr} (T : ExTx prog K mg "Wrong" "Exception" "Exception.__new__" "Exception.__init__" bmE C fI ["word", "reason", "path"]) (Fn : FnWrong prog K C fI) (vs : List Value) (hvs : vs.length = 3) : InitOk prog w K mg C fI vs (lay [("word", 2), ("reason", 1), ("path", 0)] vs) := by
  match vs, hvs with
  | [v1, v2, v3], _ =>
  intro A R s mb x t0 X hlim gns bns bb hx hnx hroom hq
  obtain ⟨oc, od, doc, pm, an, cda, cc, ct, osl, ccl, cl, cdd, cld, cv, ccs, csl, file, tf, hf, hcode, hcda, hvs, hfile, hcell⟩ := Fn.fn
  obtain ⟨nm', q, N, bs, sn, sub, ab, col, dd, k0, k1, k2, k3, k5, hC⟩ := T.cls
  have hcl : clsIn K C = some { name := nm', bases := bs, mro := .ref C :: bmE, ns := N, qualname := q, hasDict := true, slotNames := sn, subclasses := sub, abstract := ab, collection := col, hasDel := false } := by unfold clsIn; rw [hC] <;> rfl
  refine ks_codeAny_call_defAt (binds := [("self", .ref x), ("path", v1), ("reason", v2), ("word", v3)]) hroom (X _ _ hf) rfl hlim (codeRec_of X hcode) rfl (BindsTo.of_eq (by first | rfl | with_unfolding_all rfl)) (show ∀ x ∈ (L2.defScope xWrong).names, x.2 ≠ .cell by decide +kernel) (fun y hy => ?_) fun h1 hn k1' => ?_
  · simp only [List.mem_cons, List.not_mem_nil, or_false] at hy
    rcases hy with rfl | rfl | rfl | rfl <;> rfl
  have X1 : K.In h1 := X.keeps k1'
  have hx1 : h1.get? x = some (excO C t0) := k1' _ _ hx
  have hxL : s.heap.objs.size ≠ x := Nat.ne_of_gt (Heap.lt_size hx)
  show _root_.PySem.wpAt _ _ _ (execs (L2.defBody xWrong) _) _ _ _
  refine ks_wpAt_execs_cons (ks_wpAt_Expr_any (ks_wpAt_MethodCall ?_))
  have oD : h1.get? C = some _ := X1 _ _ hC
  refine ks_wpAt_super_base (cc := cda) (f := fI) rfl rfl (by decide +kernel) rfl (X1 _ _ hf) rfl (ar := (L2.defArgs xWrong).args.getD 0 ⟨"self", none, ⟨0, 0, 0, 0⟩⟩) rfl rfl (X1 _ _ hcda) rfl hvs hfile T.top ?_
  refine ks_loadName_global rfl rfl (loadGlobal_builtin (gns.keeps k1') T.sup (bns.keeps k1') ((bb _ (by decide +kernel)).trans (by decide +kernel)) ⟨rfl, ?_⟩)
  refine wpAny_loadName_free rfl rfl rfl ⟨_, X1 _ _ hcell, rfl⟩ ?_
  refine wpAny_loadName_local rfl rfl hn (v := .ref x) (by first | rfl | kernel_rfl) ?_
  refine ks_wpAny_isType_cls oD rfl ⟨rfl, ?_⟩
  refine ks_wpAny_call_super oD rfl hx1 rfl (fun c e => nomatch e) (looks_mroIn X1 T.mro) fun h2 hso k2' => ?_
  have X2 : K.In h2 := X1.keeps k2'
  have hx2 := k2' _ _ hx1
  have al := T.along
  unfold ks_superIn at al
  rw [hcl] at al
  have I2 : InstAt h2 x (excO C t0) C none := ⟨hx2, rfl, rfl, trivial⟩
  refine kxs_getMethod exB_E.kxs hso (looks_opaque X2 T.third) (l₀ := .ref C :: bmE) ((looks_clsIn X2 hcl).andThen .now) rfl X2 al (I2.type.andThen (looks_subIn X2 T.veC)) (ks_ne X2 I2 hcl) (by decide +kernel) ?_
  have n2 := hn.keeps k2'
  have k3' : ∀ b o, h2.get? b = some o → (h2.push (kxs_mw "Exception.__init__" x)).get? b = some o := fun b o e => Heap.get?_push_of_some _ e
  refine kxs_callWith (i := "Exception.__init__") (x := x) rfl (evalArgs_plain ?_)
  refine Calls.spliced_cons (wpAny_Name (wpAny_loadName_local rfl rfl (n2.keeps k3') (v := v1) (by first | rfl | kernel_rfl) ?_) (by decide +kernel))
  refine Calls.spliced_cons (wpAny_Name (wpAny_loadName_local rfl rfl (n2.keeps k3') (v := v2) (by first | rfl | kernel_rfl) ?_) (by decide +kernel))
  refine Calls.spliced_cons (wpAny_Name (wpAny_loadName_local rfl rfl (n2.keeps k3') (v := v3) (by first | rfl | kernel_rfl) ?_) (by decide +kernel))
  refine Calls.spliced_nil ⟨Heap.get?_push_at rfl rfl, ?_⟩
  refine ex_base exB_E T (X2.keeps k3') (k3' _ _ hx2) (Heap.get?_push_at rfl rfl) (by rw [sizeLine_eq]; exact (by decide : 3 ≤ 16777216)) fun h4 t1 k4 hx4 => ?_
  have old4 : ∀ b o, b ≠ x → s.heap.get? b = some o → h4.get? b = some o := fun b o hb e => k4 b o hb (k3' b o (k2' b o (k1' b o e)))
  have X4 : K.In h4 := fun b o e => old4 b o (fun z => by rw [z, hnx] at e; cases e) (X b o e)
  obtain ⟨oL, es, ep, eL, rL⟩ := n2.keeps k3'
  have n4 : h4.Ns s.heap.objs.size _ := ⟨oL, es, ep, k4 _ _ hxL eL, rL⟩
  have zL : s.heap.objs.size < h4.objs.size := n4.lt
  refine ks_wpAt_execs_cons (ks_wpAt_Assign_Attr (wpAt_of_wpAny ?_))
  refine wpAny_Name (wpAny_loadName_local rfl rfl n4 (v := v1) (by first | rfl | kernel_rfl) ?_) (by decide +kernel)
  refine wpAny_Name (wpAny_loadName_local rfl rfl n4 (v := .ref x) (by first | rfl | kernel_rfl) ?_) (by decide +kernel)
  refine set_plain X4 (ox := excO C t1) (od := none) ⟨hx4, rfl, rfl, trivial⟩ T.sa ?_
  refine exs_new exB_E X4 hx4 hcl rfl rfl (T.noN "path" (by simp)) fun h5 tk5 dx k5 dn dne hx5 hn5 => ?_
  rw [mOf_one] at hn5
  have old5 : ∀ b o, b ≠ x → s.heap.get? b = some o → h5.get? b = some o := fun b o hb e => k5 b o hb (old4 b o hb e)
  have X5 : K.In h5 := fun b o e => old5 b o (fun z => by rw [z, hnx] at e; cases e) (X b o e)
  have big : s.heap.objs.size < dx := Nat.lt_of_lt_of_le zL dn
  obtain ⟨oM4, es4, ep4, eM4, rM4⟩ := n4
  have n5 : h5.Ns s.heap.objs.size _ := ⟨oM4, es4, ep4, k5 _ _ hxL eM4, rM4⟩
  refine ks_wpAt_execs_cons (ks_wpAt_Assign_Attr (wpAt_of_wpAny ?_))
  refine wpAny_Name (wpAny_loadName_local rfl rfl n5 (v := v2) (by first | rfl | kernel_rfl) ?_) (by decide +kernel)
  refine wpAny_Name (wpAny_loadName_local rfl rfl n5 (v := .ref x) (by first | rfl | kernel_rfl) ?_) (by decide +kernel)
  obtain ⟨oD1, _, _, hoD1, _, _⟩ := hn5.count (within_mOf _)
  refine set_plain X5 (ox := { cls := .ref C, dict := some dx, data := .fields #[.ref t1, .none, .none, .none, .bool false, .none] }) (od := some oD1) ⟨hx5, rfl, rfl, hoD1⟩ T.sa ?_
  refine exs_more exB_E X5 hx5 hn5 (within_mOf _) (by simp) hcl rfl rfl (T.noN "reason" (by simp)) fun h6 tk6 k6 hn6 => ?_
  rw [mOf_cons] at hn6
  have old6 : ∀ b o, b ≠ x → s.heap.get? b = some o → h6.get? b = some o := fun b o hb e => k6 b o (Nat.ne_of_lt (Nat.lt_trans (Heap.lt_size e) big)) (old5 b o hb e)
  have X6 : K.In h6 := fun b o e => old6 b o (fun z => by rw [z, hnx] at e; cases e) (X b o e)
  have hx6 := k6 _ _ (Ne.symm dne) hx5
  obtain ⟨oM5, es5, ep5, eM5, rM5⟩ := n5
  have n6 : h6.Ns s.heap.objs.size _ := ⟨oM5, es5, ep5, k6 _ _ (Nat.ne_of_lt big) eM5, rM5⟩
  refine ks_wpAt_execs_cons (ks_wpAt_Assign_Attr (wpAt_of_wpAny ?_))
  refine wpAny_Name (wpAny_loadName_local rfl rfl n6 (v := v3) (by first | rfl | kernel_rfl) ?_) (by decide +kernel)
  refine wpAny_Name (wpAny_loadName_local rfl rfl n6 (v := .ref x) (by first | rfl | kernel_rfl) ?_) (by decide +kernel)
  obtain ⟨oD2, _, _, hoD2, _, _⟩ := hn6.count (within_mOf _)
  refine set_plain X6 (ox := { cls := .ref C, dict := some dx, data := .fields #[.ref t1, .none, .none, .none, .bool false, .none] }) (od := some oD2) ⟨hx6, rfl, rfl, hoD2⟩ T.sa ?_
  refine exs_more exB_E X6 hx6 hn6 (within_mOf _) (by simp) hcl rfl rfl (T.noN "word" (by simp)) fun h7 tk7 k7 hn7 => ?_
  rw [mOf_cons] at hn7
  have old7 : ∀ b o, b ≠ x → s.heap.get? b = some o → h7.get? b = some o := fun b o hb e => k7 b o (Nat.ne_of_lt (Nat.lt_trans (Heap.lt_size e) big)) (old6 b o hb e)
  have X7 : K.In h7 := fun b o e => old7 b o (fun z => by rw [z, hnx] at e; cases e) (X b o e)
  have hx7 := k7 _ _ (Ne.symm dne) hx6
  show _root_.PySem.wpAt _ _ _ (execs _ _) _ _ _
  refine wpAt_of_wpAny (wpAny_execs_nil ?_)
  exact hq h7 tk7 dx ⟨old7, ⟨t1, hx7⟩, Nat.le_of_lt big, dne, hn7⟩
theorem exOk_Wrong {prog : Program} {w : World} {K : Frag} {mg : Str → Option Value} {C fI : Addr} (T : ExTx prog K mg "Wrong" "Exception" "Exception.__new__" "Exception.__init__" bmE C fI ["word", "reason", "path"]) (Fn : FnWrong prog K C fI) : ExOk prog w K mg "Wrong" C 3 [("word", 2), ("reason", 1), ("path", 0)] :=
  ⟨⟨_, _, _, _, fI, exB_E, T, init_Wrong T Fn⟩, by decide, by decide⟩
end DS
set_option Elab.async false
set_option linter.all false
set_option maxRecDepth 100000
set_option maxHeartbeats 4000000
/-! ### an exception that leaves the element of a list comprehension -/
namespace DS
open PySem PySem.Spec PyProof.Rows L2
section
variable {X : Cx} {pins : List (Addr × Obj)} {σ : L2.St} {H0 : Hp} {t0 : Shared} {scope : Scope} {ce : Env} {fp : List Addr} {E : XK}
/-- what a callee of the element lets out, behind the block -/
theorem comp_air (hs : X.stack = X.env :: X.outer) (hf : X.env.frame = some X.env.locals) (I0 : Inv X pins σ H0 t0) (hL : ce.locals = t0.heap.objs.size) (hcf : ce.frame = X.env.frame)
    (hfp : ∀ b ∈ fp, (b ∈ X.ex ∨ X.s_0.heap.objs.size ≤ b) ∧ b ≠ X.env.locals ∧ (∀ x c, X.env.cells.lookup x = some c → c ≠ b) ∧ ∀ p ∈ X.pn ++ pins, p.1 ≠ b)
    (tk : Takes X fun cls d _ H => E cls d H) {pi : List (Addr × Obj)} {τ : L2.St} {H1 : Hp} {t1 t2 : Shared} {u : Value} (IY : Inv (X.blk t0 H0 scope ce fp) pi τ H1 t1) (c : L2.CX X.prog X.w X.stack H1 t1 E u t2) :
    notedBy (model X.prog X.w) X.A ce (CompFails (model X.prog X.w) X.A X.xe ce) u t2 := by
  obtain ⟨a, B, H2, cls, d, eu, fl, hok, ub, na, hos, ag, hE⟩ := c
  subst eu
  show wpAny _ X.A (noteFrame (.ref a) ce) _ _ t2
  rw [noteFrame_env _ hcf]
  have hfr : X.A.frames = some (X.env :: X.outer) := by rw [I0.ok.frames, hs]
  have fl' := fl
  rw [hs] at fl'
  refine HandSPX.looks_onZ Zc.steady hfr hf fl' fun g1 held up1 => ?_
  -- the block's own dict
  have old : ∀ b ∈ frs X.stack, b ≠ ce.locals := fun b hb z => by
    obtain ⟨_, o, e, _⟩ := I0.stack.mem hb
    have := Heap.lt_size e
    rw [z, hL] at this
    exact absurd this (Nat.lt_irrefl _)
  have nC : ce.locals ∉ frs X.stack := fun h => old _ h rfl
  obtain ⟨m, ⟨oL, es, ep, e0, de, r⟩, _⟩ := IY.loc
  have eB : B.get? ce.locals = some oL := ub.keep _ _ e0 IY.free nC
  have nH2 : H2 ce.locals = none := ub.free _ _ e0 IY.free
  refine ⟨m, ⟨oL, es, ep, held.1 _ _ eB, de, r⟩, fun g2 m2 hn2 sb => ?_⟩
  have ne : a ≠ ce.locals := fun z => by have := fl.2.1; rw [z, eB] at this; cases this
  -- the ground without that dict
  obtain ⟨B', b1, b2⟩ := restrict B fun b => decide (b ≠ ce.locals)
  have bT : ∀ b, b ≠ ce.locals → B'.get? b = B.get? b := fun b hb => b1 b (decide_eq_true hb)
  have bF : B'.get? ce.locals = none := b2 _ (by simp)
  have bO : ∀ b o, B'.get? b = some o → B.get? b = some o ∧ b ≠ ce.locals := fun b o e => by
    have hb : b ≠ ce.locals := fun z => by rw [z, bF] at e; cases e
    exact ⟨by rw [← bT b hb]; exact e, hb⟩
  have frB : ∀ b ∈ frs X.stack, B'.get? b = none := fun b hb => by
    rw [bT b (old b hb)]
    exact (fl.2.2.1.mem hb).1
  have held2 : HandSPX.HeldZ B' (X.env :: X.outer) a (Zc cls d) X.env.locals g2 := by
    obtain ⟨k1, k2, k3, oe, vs, T, oT, ts, q1, q2, q3, q4, q5, q6, q7, q8, q9⟩ := held
    have nT : T ≠ ce.locals := fun z => by rw [z, eB] at q5; cases q5
    refine ⟨fun b o e => (sb.2 b (bO b o e).2).trans (k1 b o (bO b o e).1), by rw [bT a ne]; exact k2, funFrames_none (Heap.FunFrames.sameBut sb hn2 k3) (by rw [← hs]; exact frB), oe, vs, T, oT, ts, (sb.2 a ne).trans q1, q2, q3, q4, by rw [bT T nT]; exact q5, q6, (sb.2 T nT).trans q7, q8, q9⟩
  unfold PySem.passOn
  obtain ⟨oe, vs, T, oT, ts, q1, q2, q3, q4, q5⟩ := held2.2.2.2
  refine wpAny_bind (wpAny_field q1 q3 q4 ?_)
  rw [if_neg (show ¬ ((Value.ref T == Value.none) = true) by simp), hcf, hf]
  refine wpAny_bind (HandSPX.setFlight_onZ held2 fun g3 held3 up3 => wpAny_throw ?_)
  -- the state without the exception
  obtain ⟨G, r1, r2⟩ := restrict g3 fun b => (B'.get? b).isSome || decide (b ∈ frs X.stack)
  have gB : ∀ b o, B'.get? b = some o → G.get? b = some o := fun b o e => (r1 b (by simp [e])).trans (held3.1 b o e)
  have gF : ∀ b ∈ frs X.stack, G.get? b = g3.get? b := fun b hb => r1 b (by simp [hb])
  have gO : ∀ b o, G.get? b = some o → g3.get? b = some o ∧ ((B'.get? b).isSome = true ∨ b ∈ frs X.stack) := fun b o e => by
    cases q : ((B'.get? b).isSome || decide (b ∈ frs X.stack)) with
    | true => exact ⟨(r1 b q).symm.trans e, by simpa using q⟩
    | false => rw [r2 b q] at e; cases e
  have frG : ∀ b ∈ frs X.stack, ∀ o, t0.heap.get? b = some o → ∃ sl, G.get? b = some { o with slots := sl } := fun b hb o e => by
    obtain ⟨_, o', e', nf⟩ := I0.stack.mem hb
    rw [e] at e'
    cases e'
    have nx : b ∉ fp := fun h => (IY.ok.exfs b h) hb
    obtain ⟨s1, z1⟩ := IY.base.slot b o e (I0.stkFree b hb) hb nx
    obtain ⟨s2, z2⟩ := ub.slot b _ z1 hb
    obtain ⟨s3, z3⟩ := up1 b _ z2 nf
    have z4 := (sb.2 b (old b hb)).trans z3
    obtain ⟨s5, z5⟩ := up3 b _ z4 nf
    exact ⟨s5, (gF b hb).trans z5⟩
  have lt0 : ∀ b o, t0.heap.get? b = some o → b ≠ ce.locals := fun b o e z => by
    have := Heap.lt_size e
    rw [z, hL] at this
    exact absurd this (Nat.lt_irrefl _)
  have un : Un (frs X.stack) fp H0 H2 t0.heap G := by
    refine ⟨fun b o e n hb hx => gB b o ?_, fun b o e n hb hx => frG b hb o e, fun b o e n hx => ?_, fun b o e hx => ?_, fun b xs e => ub.tups b xs (IY.base.tups b xs e), fun b o v e => ub.frzs b o v (IY.base.frzs b o v e), fun b ps e => ?_⟩
    · rw [bT b (lt0 b o e)]
      exact ub.keep b o (IY.base.keep b o e n hb hx) (IY.base.free b o e n hx) hb
    · obtain ⟨o', e'⟩ := IY.base.there b o e hx
      exact ub.free b o' e' (IY.base.free b o e n hx)
    · by_cases hb : b ∈ frs X.stack
      · obtain ⟨sl, z⟩ := frG b hb o e
        exact ⟨_, z⟩
      · obtain ⟨o1, z1⟩ := IY.base.there b o e hx
        obtain ⟨o2, z2⟩ := ub.there b o1 z1 hb
        exact ⟨o2, gB b o2 (by rw [bT b (lt0 b o e)]; exact z2)⟩
    · obtain ⟨m1, z1⟩ := IY.base.tbls b ps e
      obtain ⟨m2, z2⟩ := ub.tbls b _ z1
      exact ⟨m1 ++ m2, by rw [z2, Array.append_assoc]⟩
  have hokG : HOk X.prog X.w H2 G := fun b o q => by
    refine (hok b o q).stay (fun x v hx e => gB x v ?_) (fun _ z => z) fun _ _ z => z
    have hxC : x ≠ ce.locals := fun z => by
      rcases hx with hx | hx
      · rw [← hx, z, nH2] at q; cases q
      · rw [z, nH2] at hx; cases hx
    rw [bT x hxC]; exact e
  have osY : t1.os = t0.os := IY.os
  have IX : Inv X pins σ H2 { t0 with heap := G, gens := t2.gens, drawn := t2.drawn, toks := t2.toks } := I0.call' (ch := fp) rfl un hokG ag hfp
  refine tk _ _ ⟨a, B', _, pins, σ, H2, cls, d, rfl, IX, fun b o e hb => ?_, Heap.UpToSlots.of_keeps fun b o e => (gO b o e).1, .inr (.inr (by rw [hs]; exact held3)), na, hos.trans osY, ag, hE⟩
  obtain ⟨z1, z2⟩ := gO b o e
  rcases z2 with z2 | z2
  · obtain ⟨o', z3⟩ := Option.isSome_iff_exists.mp z2
    have z4 := held3.1 b o' z3
    rw [z1] at z4
    cases z4
    exact z3
  · exact absurd z2 hb
/-- `[elt for target in iter if ..]` whose element calls what may raise -/
theorem lcX_core {H : Hp} {s : Shared} {Q : VK} {elt tg iter : Expr} {ifs : List Expr} {own : List (Str × Nat)} {pos pos' : Pos} {wi : TI} {g : TG} {tt : TT} {te : TE} {use : Option (Value → Sem Unit)} {Qf : Value → Shared → Prop}
    (hs : X.stack = X.env :: X.outer) (hf : X.env.frame = some X.env.locals) (tk : Takes X fun cls d _ H => E cls d H) (hc : X.calm = true) (hN : X.N.Nodup) (I : Inv X pins σ H s) (hi : PI X tg iter wi) (ok : BlkOk X.N X.env.scope scope own)
    (hg : ∀ (s : Shared) (H : Hp) (C : Addr) (cl : List (Str × Addr)) (fp : List Addr), PG (X.blk s H scope (compEnvC scope cl C X.env) fp) tg g)
    (ht : ∀ (s : Shared) (H : Hp) (C : Addr) (cl : List (Str × Addr)) (fp : List Addr), PTs (X.blk s H scope (compEnvC scope cl C X.env) fp) ifs tt)
    (he : ∀ (s : Shared) (H : Hp) (C : Addr) (cl : List (Str × Addr)) (fp : List Addr) (xe : Value → Shared → Prop), Passes (L2.CX X.prog X.w) ((X.blk s H scope (compEnvC scope cl C X.env) fp).wish xe) E → PE ((X.blk s H scope (compEnvC scope cl C X.env) fp).wish xe) elt te)
    (hset : ∀ x, foldedSetIterable iter X.env x = pure x) (h : tLc wi g tt te (own.map (·.2)) σ H Q)
    (hend : ∀ D (ce : Env) s' m H', Inv X pins σ H' s' → Q (.ref D) H' → s'.heap.Ns ce.locals m → FpOk X pins H' ce.locals → compEnds (model X.prog X.w) X.A X.xe use Qf (.ref D) ce (.ok .next) s') :
    wpAny (model X.prog X.w) X.A (comprehension (.ListComp elt [⟨tg, iter, ifs, 0⟩] scope pos) scope X.env pos' (newList []) false (eval iter X.env) use) Qf X.xe s := by
  have frees : ∀ y ∈ scope.names, y.2 = .free → ∃ c, X.env.cells.lookup y.1 = some c := by
    intro y hy hy2
    exact I.ok.has y.1 ((ok.free y hy hy2).elim .inl .inr)
  refine comprehension_at (use := use) rfl hset (closure_ok frees) ok.kind (fun y hy hy2 => (ok.uniq y hy).trans (congrArg some hy2)) (thn (hi.run pins s σ H _ I h) fun _ sA hA => thn hA fun _ sB hB => ?_)
  obtain ⟨it, fp, tn, J, HB, e, IB, T, stB, fB, q⟩ := hB
  subst e
  refine wpAny_newObj_type (newEnv_comp ?_) (by show 0 ≤ sizeLine; decide)
  generalize eD : sB.heap.objs.size = D
  obtain ⟨W, ⟨w0m, w0⟩, turn⟩ := q D (IB.hok.fresh (Nat.le_of_eq eD))
  generalize eC : ({ sB with heap := sB.heap.push { cls := .type "list", data := .seq ([] : List Value).toArray } } : Shared) = sC
  have heapC : sC.heap = sB.heap.push { cls := .type "list", data := .seq ([] : List Value).toArray } := by rw [← eC]
  have stays : ∀ b o, sB.heap.get? b = some o → sC.heap.get? b = some o := fun b o z => by rw [heapC]; exact Heap.get?_push_of_some _ z
  have IC : Inv X pins σ (upd HB D (.lst [])) sC := by
    rw [← eC]
    refine IB.laid (t' := sB.toks) (fun b o z => Heap.get?_push_of_some _ z) (Nat.le_of_eq eD) ⟨Nat.zero_le _, [], 0, .nil, ?_⟩
    rw [← eD]
    exact Heap.get?_push_size _ rfl
  have fpC : ∀ b ∈ fp, FpOk X pins (upd HB D (.lst [])) b ∧ b < sC.heap.objs.size := by
    intro b hb
    obtain ⟨ob, z, _⟩ := T.obj _ _ stB b hb
    have lt := Heap.lt_size z
    have nD : b ≠ D := by rw [← eD]; exact Nat.ne_of_lt lt
    exact ⟨⟨by rw [upd_ne nD]; exact (fB b hb).1, (fB b hb).2⟩, by rw [heapC, Heap.size_push]; exact Nat.lt_succ_of_lt lt⟩
  have stC : tn 0 sC.heap := T.keep _ _ _ stB fun b _ o z => stays b o z
  have ID := block_start IC ok hN fpC
  generalize eH : upd HB D (.lst []) = HC at IC ID w0 fpC
  have pg := hg sC HC sC.heap.objs.size (cellsFrom (sC.heap.objs.size + 1) scope.names (cloFrom X.env.cells scope.names [])) fp
  have pt := ht sC HC sC.heap.objs.size (cellsFrom (sC.heap.objs.size + 1) scope.names (cloFrom X.env.cells scope.names [])) fp
  have pe := he sC HC sC.heap.objs.size (cellsFrom (sC.heap.objs.size + 1) scope.names (cloFrom X.env.cells scope.names [])) fp
  show codeAny _ _ (.compStart _ 0 (.ref it) (.ref D) (compEnvC scope (cellsFrom (sC.heap.objs.size + 1) scope.names (cloFrom X.env.cells scope.names [])) sC.heap.objs.size X.env)) (compEnds (model X.prog X.w) X.A X.xe use Qf (.ref D) (compEnvC scope (cellsFrom (sC.heap.objs.size + 1) scope.names (cloFrom X.env.cells scope.names [])) sC.heap.objs.size X.env)) { sC with heap := pushCells (sC.heap.push { cls := .type "dict", data := .dict #[] }) scope.names }
  generalize eE : compEnvC scope (cellsFrom (sC.heap.objs.size + 1) scope.names (cloFrom X.env.cells scope.names [])) sC.heap.objs.size X.env = ce at ID pg pt pe ⊢
  have cL : ce.locals = sC.heap.objs.size := by rw [← eE]; rfl
  have cF : ce.frame = X.env.frame := by rw [← eE]; rfl
  generalize eS : ({ sC with heap := pushCells (sC.heap.push { cls := .type "dict", data := .dict #[] }) scope.names } : Shared) = sD at ID ⊢
  have stD : tn 0 sD.heap := T.keep _ _ _ stC fun b _ o z => by rw [← eS]; exact pushCells_keeps _ _ _ _ (Heap.get?_push_of_some _ z)
  have ch : ∀ b ∈ fp, (b ∈ X.ex ∨ X.s_0.heap.objs.size ≤ b) ∧ b ≠ X.env.locals ∧ (∀ x c, X.env.cells.lookup x = some c → c ≠ b) ∧ ∀ p ∈ X.pn ++ pins, p.1 ≠ b := fun b hb =>
    let z := (fpC b hb).1.2
    ⟨z.2.2.1, z.1, z.2.2.2.1, z.2.2.2.2⟩
  have mine : ∀ {τ : L2.St} {H' : Hp} {s' : Shared}, Inv (X.blk sC HC scope ce fp) [] τ H' s' → (∀ b ∈ fp, H' b = none) → ∀ b ∈ fp, FpOk (X.blk sC HC scope ce fp) [] H' b := by
    intro τ H' s' I' hn b hb
    exact ⟨hn b hb, (I'.ok.exf b hb).1, I'.ok.exfs b hb, .inl hb, fun x c z => (I'.ok.exf b hb).2 x c z, fun p hp => by simp at hp⟩
  have err : ∀ (u : Value) (s' : Shared), notedBy (model X.prog X.w) X.A ce (CompFails (model X.prog X.w) X.A X.xe ce) u s' → notedBy (model X.prog X.w) X.A ce (fun u s' => compEnds (model X.prog X.w) X.A X.xe use Qf (.ref D) ce (.error u) s') u s' := by
    intro u s' z
    have e : (fun u s' => compEnds (model X.prog X.w) X.A X.xe use Qf (.ref D) ce (.error u) s') = CompFails (model X.prog X.w) X.A X.xe ce := by
      funext u s'
      cases use <;> rfl
    rw [e]; exact z
  have pe' := pe (notedBy (model X.prog X.w) X.A ce (CompFails (model X.prog X.w) X.A X.xe ce)) fun pi τ H' s' u s'' I' c => comp_air hs hf IC cL cF ch tk I'.unwish c
  have loop : codeAny (model X.prog X.w) X.A (.compLoop (.ListComp elt [⟨tg, iter, ifs, 0⟩] scope pos) 0 (.ref it) (.ref D) ce) (compEnds (model X.prog X.w) X.A X.xe use Qf (.ref D) ce) sD := by
    refine compLoop_any (fun n s' => ∃ i H', Inv (X.blk sC HC scope ce fp) [] (wipe σ (own.map (·.2))) H' s' ∧ tn i s'.heap ∧ (∀ b ∈ fp, H' b = none) ∧ W i n H') ?_ w0m ⟨0, HC, ID, stD, fun b hb => (fpC b hb).1.1, w0⟩
    rintro n sE ⟨i, HE, IE, stE, nE, wE⟩
    rcases turn i n HE wE with ⟨stop, qq⟩ | ⟨go, Nx, hNx, step⟩
    · have td := T.done (X.blk sC HC scope ce fp) rfl rfl rfl hc i [] sE _ HE (fun _ _ => False) IE (mine IE nE) stE stop
      refine thnF td fun r sF ⟨er, IF⟩ => ?_
      subst er
      have back : Inv X pins σ HE sF := IC.call' (ch := fp) IF.os IF.base IF.hok IF.bare ch
      obtain ⟨m, hn, _⟩ := IF.loc
      refine hend D ce sF m HE back qq hn ?_
      have nL : HE sC.heap.objs.size = none := by rw [← cL]; exact IF.free
      rw [cL]
      exact IC.fpOk (Nat.le_refl _) nL
    · have ti := T.item (X.blk sC HC scope ce fp) rfl rfl rfl hc i [] sE _ HE (fun _ _ => False) IE (mine IE nE) stE go
      refine thnF ti fun r sF ⟨u, er, hF⟩ => ?_
      subst er
      refine thnF hF fun _ sG ⟨x, HG, IG, rG, yG, stG, nG⟩ => ?_
      have IG' := IG.pinned (mine IG nG) (T.obj _ _ stG)
      refine thnF (pg.run _ sG _ HG x u _ IG' rG (step x HG yG)) fun _ sK ⟨τ, HK, IK, hw, qK⟩ => ?_
      refine thnF (pt.run _ sK τ HK _ IK qK) fun b sM ⟨HM, IM, qM⟩ => ?_
      have close : ∀ {s' : Shared} {H' : Hp}, Inv (X.blk sC HC scope ce fp) ([] ++ pinsAt fp sG.heap) τ H' s' → Nx H' → ∃ m, m < n ∧ ∃ i H', Inv (X.blk sC HC scope ce fp) [] (wipe σ (own.map (·.2))) H' s' ∧ tn i s'.heap ∧ (∀ b ∈ fp, H' b = none) ∧ W i m H' := by
        intro s' H' I' nx
        obtain ⟨m', lt, w'⟩ := hNx H' nx
        have at' : ∀ b ∈ fp, ∀ o, sG.heap.get? b = some o → s'.heap.get? b = some o ∧ H' b = none := by
          intro b hb o z
          have p := I'.pin (b, o) (List.mem_append_right _ (List.mem_append_right _ (mem_pinsAt hb z)))
          exact ⟨p.1, p.2.1⟩
        have len : (wipe σ (own.map (·.2))).length = τ.length := by rw [← hw, wipe_length]
        refine ⟨m', lt, i + 1, H', (I'.unpinned (pins := [])).weak len (fun j v z => ?_), T.keep _ _ _ stG fun b hb o z => (at' b hb o z).1, fun b hb => ?_, w'⟩
        · rw [← hw] at z
          exact (wipe_some z).1
        · obtain ⟨o, z, _⟩ := T.obj _ _ stG b hb
          exact (at' b hb o z).2
      cases b with
      | false =>
        simp only [Bool.false_eq_true, if_false] at qM ⊢
        exact close IM qM
      | true =>
        simp only [if_true] at qM ⊢
        refine wpAny_mono (pe'.run _ sM τ HM _ (IM.wish _) qM) (fun z sN hz => ?_) fun u s' z => err u s' z
        obtain ⟨yv, HN, IN, rN, acc, hD, hz, nx⟩ := hz
        exact app_ok (X := X.blk sC HC scope ce fp) IN.unwish hD hz rN fun sP IP => close IP nx
  exact codeAny_compStart_list loop (T.self X.A 0 _ _ _ stD loop)
/-- as a value -/
theorem pe_lcX {elt tg iter : Expr} {ifs : List Expr} {own : List (Str × Nat)} {pos : Pos} {wi : TI} {g : TG} {tt : TT} {te : TE} (hs : X.stack = X.env :: X.outer) (hf : X.env.frame = some X.env.locals) (tk : Takes X fun cls d _ H => E cls d H) (hc : X.calm = true) (hN : X.N.Nodup) (hi : PI X tg iter wi) (ok : BlkOk X.N X.env.scope scope own)
    (hg : ∀ (s : Shared) (H : Hp) (C : Addr) (cl : List (Str × Addr)) (fp : List Addr), PG (X.blk s H scope (compEnvC scope cl C X.env) fp) tg g)
    (ht : ∀ (s : Shared) (H : Hp) (C : Addr) (cl : List (Str × Addr)) (fp : List Addr), PTs (X.blk s H scope (compEnvC scope cl C X.env) fp) ifs tt)
    (he : ∀ (s : Shared) (H : Hp) (C : Addr) (cl : List (Str × Addr)) (fp : List Addr) (xe : Value → Shared → Prop), Passes (L2.CX X.prog X.w) ((X.blk s H scope (compEnvC scope cl C X.env) fp).wish xe) E → PE ((X.blk s H scope (compEnvC scope cl C X.env) fp).wish xe) elt te)
    (hset : ∀ x, foldedSetIterable iter X.env x = pure x := by intro _; rfl) :
    PE X (.ListComp elt [⟨tg, iter, ifs, 0⟩] scope pos) (tLc wi g tt te (own.map (·.2))) := by
  refine ⟨fun pins s σ H Q I h => ?_⟩
  rw [eval_ListComp]
  refine lcX_core hs hf tk hc hN I hi ok hg ht he hset h fun D ce s' m H' I' q hn fo => ⟨m, hn, fun h2 sb => ?_⟩
  obtain ⟨f0, f1, _, f3, f4, f5⟩ := fo
  exact ⟨.ref D, H', I'.turned (t' := s'.toks) (fun b o hb z => (sb.2 b hb).trans z) f0 f1 f3 f4 f5, rfl, q⟩
/-- stored under a local name, on one line -/
theorem ps_setLcX {i : Nat} {y : Str} {py : Pos} {elt tg iter : Expr} {ifs : List Expr} {own : List (Str × Nat)} {pos spos : Pos} {wi : TI} {g : TG} {tt : TT} {te : TE} (hs : X.stack = X.env :: X.outer) (hf : X.env.frame = some X.env.locals) (tk : Takes X fun cls d _ H => E cls d H) (hc : X.calm = true) (hN : X.N.Nodup) (hy : X.N[i]? = some y) (hyl : X.env.scope.names.lookup y = some .local)
    (hsw : swapsWith (.ListComp elt [⟨tg, iter, ifs, 0⟩] scope pos) (some (.Name y py)) spos.line X.env = pure true) (hi : PI X tg iter wi) (ok : BlkOk X.N X.env.scope scope own)
    (hg : ∀ (s : Shared) (H : Hp) (C : Addr) (cl : List (Str × Addr)) (fp : List Addr), PG (X.blk s H scope (compEnvC scope cl C X.env) fp) tg g)
    (ht : ∀ (s : Shared) (H : Hp) (C : Addr) (cl : List (Str × Addr)) (fp : List Addr), PTs (X.blk s H scope (compEnvC scope cl C X.env) fp) ifs tt)
    (he : ∀ (s : Shared) (H : Hp) (C : Addr) (cl : List (Str × Addr)) (fp : List Addr) (xe : Value → Shared → Prop), Passes (L2.CX X.prog X.w) ((X.blk s H scope (compEnvC scope cl C X.env) fp).wish xe) E → PE ((X.blk s H scope (compEnvC scope cl C X.env) fp).wish xe) elt te)
    (hset : ∀ x, foldedSetIterable iter X.env x = pure x := by intro _; rfl) :
    PS X (.Assign [.Name y py] (.ListComp elt [⟨tg, iter, ifs, 0⟩] scope pos) spos) (tAsg (tLc wi g tt te (own.map (·.2))) (gName i)) := by
  refine ⟨fun pins s σ H D I h => ?_⟩
  rw [exec_Assign_Name_used _ _ _ _ hsw]
  refine wpAny_bind (wpAny_standAt (wpAny_bind ?_))
  have h : tLc wi g tt te (own.map (·.2)) σ H (fun x H1 => gName i x σ H1 D.nx) := h
  show wpAny _ X.A (comprehension _ scope X.env (firstIterPos _ pos) (newList []) false (eval iter X.env) (some (assign (.Name y py) X.env)) >>= fun _ => _) _ _ s
  refine wpAny_bind (thn (lcX_core (Qf := fun _ s' => SP X pins D .next s') hs hf tk hc hN I hi ok hg ht he hset h fun L ce s' m H' I' q hn fo => ?_) fun _ s' z => wpAny_pure (wpAny_pure z))
  show wpAny _ _ (assign (.Name y py) X.env (.ref L)) _ _ _
  refine wpAny_assign_Name (store_ok2 (v := V.ref L) I' hN hy (.inl hyl) rfl (fun s2 I2 st => ?_) (.inr hyl))
  obtain ⟨a, sb, ha⟩ := st
  obtain ⟨f0, f1, _, f3, f4, f5⟩ := fo
  have apart : ce.locals ≠ a := ha.elim (fun z => by rw [z]; exact f1) fun z q => f4 y a z q.symm
  refine ⟨m, hn.sameBut sb apart, fun h3 sb3 => ?_⟩
  exact ⟨_, H', I2.turned (t' := s2.toks) (fun b o hb z => (sb3.2 b hb).trans z) f0 f1 f3 f4 f5, q⟩
end
end DS
set_option Elab.async false
set_option linter.all false
set_option maxRecDepth 100000
set_option maxHeartbeats 4000000
/-! ### an exception that leaves the element of a list comprehension -/
namespace DS
open PySem PySem.Spec PyProof.Rows L2
section
variable {X : Cx} {pins : List (Addr × Obj)} {σ : L2.St} {H0 : Hp} {t0 : Shared} {scope : Scope} {ce : Env} {fp : List Addr} {E : XK}
/-- what a callee of the element lets out, behind the block -/
theorem comp_airN (hs : X.stack = X.env :: X.outer) (hf : X.env.frame = some X.env.locals) (I0 : Inv X pins σ H0 t0) (hL : ce.locals = t0.heap.objs.size) (hcf : ce.frame = X.env.frame)
    (hfp : ∀ b ∈ fp, (b ∈ X.ex ∨ X.s_0.heap.objs.size ≤ b) ∧ b ≠ X.env.locals ∧ (∀ x c, X.env.cells.lookup x = some c → c ≠ b) ∧ ∀ p ∈ X.pn ++ pins, p.1 ≠ b)
    (tk : L2N.Takes X fun cls d _ H => E cls d H) {pi : List (Addr × Obj)} {τ : L2.St} {H1 : Hp} {t1 t2 : Shared} {u : Value} (IY : Inv (X.blk t0 H0 scope ce fp) pi τ H1 t1) (c : L2N.CX X.prog X.w X.stack H1 t1 E u t2) :
    notedBy (model X.prog X.w) X.A ce (CompFails (model X.prog X.w) X.A X.xe ce) u t2 := by
  obtain ⟨a, B, H2, cls, d, eu, fl, hok, ub, na, hos, ag, hE⟩ := c
  subst eu
  show wpAny _ X.A (noteFrame (.ref a) ce) _ _ t2
  rw [noteFrame_env _ hcf]
  have hfr : X.A.frames = some (X.env :: X.outer) := by rw [I0.ok.frames, hs]
  have fl' := fl
  rw [hs] at fl'
  refine PySem.PXN.looks_onZ L2N.Zn.steady hfr hf fl' fun g1 held up1 => ?_
  -- the block's own dict
  have old : ∀ b ∈ frs X.stack, b ≠ ce.locals := fun b hb z => by
    obtain ⟨_, o, e, _⟩ := I0.stack.mem hb
    have := Heap.lt_size e
    rw [z, hL] at this
    exact absurd this (Nat.lt_irrefl _)
  have nC : ce.locals ∉ frs X.stack := fun h => old _ h rfl
  obtain ⟨m, ⟨oL, es, ep, e0, de, r⟩, _⟩ := IY.loc
  have eB : B.get? ce.locals = some oL := ub.keep _ _ e0 IY.free nC
  have nH2 : H2 ce.locals = none := ub.free _ _ e0 IY.free
  refine ⟨m, ⟨oL, es, ep, held.1 _ _ eB, de, r⟩, fun g2 m2 hn2 sb => ?_⟩
  have ne : a ≠ ce.locals := fun z => by have := fl.2.1; rw [z, eB] at this; cases this
  -- the ground without that dict
  obtain ⟨B', b1, b2⟩ := restrict B fun b => decide (b ≠ ce.locals)
  have bT : ∀ b, b ≠ ce.locals → B'.get? b = B.get? b := fun b hb => b1 b (decide_eq_true hb)
  have bF : B'.get? ce.locals = none := b2 _ (by simp)
  have bO : ∀ b o, B'.get? b = some o → B.get? b = some o ∧ b ≠ ce.locals := fun b o e => by
    have hb : b ≠ ce.locals := fun z => by rw [z, bF] at e; cases e
    exact ⟨by rw [← bT b hb]; exact e, hb⟩
  have frB : ∀ b ∈ frs X.stack, B'.get? b = none := fun b hb => by
    rw [bT b (old b hb)]
    exact (fl.2.2.1.mem hb).1
  have held2 : HandSPX.HeldZ B' (X.env :: X.outer) a (L2N.Zn cls d) X.env.locals g2 := by
    obtain ⟨k1, k2, k3, oe, vs, T, oT, ts, q1, q2, q3, q4, q5, q6, q7, q8, q9⟩ := held
    have nT : T ≠ ce.locals := fun z => by rw [z, eB] at q5; cases q5
    refine ⟨fun b o e => (sb.2 b (bO b o e).2).trans (k1 b o (bO b o e).1), by rw [bT a ne]; exact k2, funFrames_none (Heap.FunFrames.sameBut sb hn2 k3) (by rw [← hs]; exact frB), oe, vs, T, oT, ts, (sb.2 a ne).trans q1, q2, q3, q4, by rw [bT T nT]; exact q5, q6, (sb.2 T nT).trans q7, q8, q9⟩
  unfold PySem.passOn
  obtain ⟨oe, vs, T, oT, ts, q1, q2, q3, q4, q5⟩ := held2.2.2.2
  refine wpAny_bind (wpAny_field q1 q3 q4 ?_)
  rw [if_neg (show ¬ ((Value.ref T == Value.none) = true) by simp), hcf, hf]
  refine wpAny_bind (HandSPX.setFlight_onZ held2 fun g3 held3 up3 => wpAny_throw ?_)
  -- the state without the exception
  obtain ⟨G, r1, r2⟩ := restrict g3 fun b => (B'.get? b).isSome || decide (b ∈ frs X.stack)
  have gB : ∀ b o, B'.get? b = some o → G.get? b = some o := fun b o e => (r1 b (by simp [e])).trans (held3.1 b o e)
  have gF : ∀ b ∈ frs X.stack, G.get? b = g3.get? b := fun b hb => r1 b (by simp [hb])
  have gO : ∀ b o, G.get? b = some o → g3.get? b = some o ∧ ((B'.get? b).isSome = true ∨ b ∈ frs X.stack) := fun b o e => by
    cases q : ((B'.get? b).isSome || decide (b ∈ frs X.stack)) with
    | true => exact ⟨(r1 b q).symm.trans e, by simpa using q⟩
    | false => rw [r2 b q] at e; cases e
  have frG : ∀ b ∈ frs X.stack, ∀ o, t0.heap.get? b = some o → ∃ sl, G.get? b = some { o with slots := sl } := fun b hb o e => by
    obtain ⟨_, o', e', nf⟩ := I0.stack.mem hb
    rw [e] at e'
    cases e'
    have nx : b ∉ fp := fun h => (IY.ok.exfs b h) hb
    obtain ⟨s1, z1⟩ := IY.base.slot b o e (I0.stkFree b hb) hb nx
    obtain ⟨s2, z2⟩ := ub.slot b _ z1 hb
    obtain ⟨s3, z3⟩ := up1 b _ z2 nf
    have z4 := (sb.2 b (old b hb)).trans z3
    obtain ⟨s5, z5⟩ := up3 b _ z4 nf
    exact ⟨s5, (gF b hb).trans z5⟩
  have lt0 : ∀ b o, t0.heap.get? b = some o → b ≠ ce.locals := fun b o e z => by
    have := Heap.lt_size e
    rw [z, hL] at this
    exact absurd this (Nat.lt_irrefl _)
  have un : Un (frs X.stack) fp H0 H2 t0.heap G := by
    refine ⟨fun b o e n hb hx => gB b o ?_, fun b o e n hb hx => frG b hb o e, fun b o e n hx => ?_, fun b o e hx => ?_, fun b xs e => ub.tups b xs (IY.base.tups b xs e), fun b o v e => ub.frzs b o v (IY.base.frzs b o v e), fun b ps e => ?_⟩
    · rw [bT b (lt0 b o e)]
      exact ub.keep b o (IY.base.keep b o e n hb hx) (IY.base.free b o e n hx) hb
    · obtain ⟨o', e'⟩ := IY.base.there b o e hx
      exact ub.free b o' e' (IY.base.free b o e n hx)
    · by_cases hb : b ∈ frs X.stack
      · obtain ⟨sl, z⟩ := frG b hb o e
        exact ⟨_, z⟩
      · obtain ⟨o1, z1⟩ := IY.base.there b o e hx
        obtain ⟨o2, z2⟩ := ub.there b o1 z1 hb
        exact ⟨o2, gB b o2 (by rw [bT b (lt0 b o e)]; exact z2)⟩
    · obtain ⟨m1, z1⟩ := IY.base.tbls b ps e
      obtain ⟨m2, z2⟩ := ub.tbls b _ z1
      exact ⟨m1 ++ m2, by rw [z2, Array.append_assoc]⟩
  have hokG : HOk X.prog X.w H2 G := fun b o q => by
    refine (hok b o q).stay (fun x v hx e => gB x v ?_) (fun _ z => z) fun _ _ z => z
    have hxC : x ≠ ce.locals := fun z => by
      rcases hx with hx | hx
      · rw [← hx, z, nH2] at q; cases q
      · rw [z, nH2] at hx; cases hx
    rw [bT x hxC]; exact e
  have osY : t1.os = t0.os := IY.os
  have IX : Inv X pins σ H2 { t0 with heap := G, gens := t2.gens, drawn := t2.drawn, toks := t2.toks } := I0.call' (ch := fp) rfl un hokG ag hfp
  refine tk _ _ ⟨a, B', _, pins, σ, H2, cls, d, rfl, IX, fun b o e hb => ?_, Heap.UpToSlots.of_keeps fun b o e => (gO b o e).1, .inr (.inr (by rw [hs]; exact held3)), na, hos.trans osY, ag, hE⟩
  obtain ⟨z1, z2⟩ := gO b o e
  rcases z2 with z2 | z2
  · obtain ⟨o', z3⟩ := Option.isSome_iff_exists.mp z2
    have z4 := held3.1 b o' z3
    rw [z1] at z4
    cases z4
    exact z3
  · exact absurd z2 hb
/-- `[elt for target in iter if ..]` whose element calls what may raise -/
theorem lcN_core {H : Hp} {s : Shared} {Q : VK} {elt tg iter : Expr} {ifs : List Expr} {own : List (Str × Nat)} {pos pos' : Pos} {wi : TI} {g : TG} {tt : TT} {te : TE} {use : Option (Value → Sem Unit)} {Qf : Value → Shared → Prop}
    (hs : X.stack = X.env :: X.outer) (hf : X.env.frame = some X.env.locals) (tk : L2N.Takes X fun cls d _ H => E cls d H) (hc : X.calm = true) (hN : X.N.Nodup) (I : Inv X pins σ H s) (hi : PI X tg iter wi) (ok : BlkOk X.N X.env.scope scope own)
    (hg : ∀ (s : Shared) (H : Hp) (C : Addr) (cl : List (Str × Addr)) (fp : List Addr), PG (X.blk s H scope (compEnvC scope cl C X.env) fp) tg g)
    (ht : ∀ (s : Shared) (H : Hp) (C : Addr) (cl : List (Str × Addr)) (fp : List Addr), PTs (X.blk s H scope (compEnvC scope cl C X.env) fp) ifs tt)
    (he : ∀ (s : Shared) (H : Hp) (C : Addr) (cl : List (Str × Addr)) (fp : List Addr) (xe : Value → Shared → Prop), Passes (L2N.CX X.prog X.w) ((X.blk s H scope (compEnvC scope cl C X.env) fp).wish xe) E → PE ((X.blk s H scope (compEnvC scope cl C X.env) fp).wish xe) elt te)
    (hset : ∀ x, foldedSetIterable iter X.env x = pure x) (h : tLc wi g tt te (own.map (·.2)) σ H Q)
    (hend : ∀ D (ce : Env) s' m H', Inv X pins σ H' s' → Q (.ref D) H' → s'.heap.Ns ce.locals m → FpOk X pins H' ce.locals → compEnds (model X.prog X.w) X.A X.xe use Qf (.ref D) ce (.ok .next) s') :
    wpAny (model X.prog X.w) X.A (comprehension (.ListComp elt [⟨tg, iter, ifs, 0⟩] scope pos) scope X.env pos' (newList []) false (eval iter X.env) use) Qf X.xe s := by
  have frees : ∀ y ∈ scope.names, y.2 = .free → ∃ c, X.env.cells.lookup y.1 = some c := by
    intro y hy hy2
    exact I.ok.has y.1 ((ok.free y hy hy2).elim .inl .inr)
  refine comprehension_at (use := use) rfl hset (closure_ok frees) ok.kind (fun y hy hy2 => (ok.uniq y hy).trans (congrArg some hy2)) (thn (hi.run pins s σ H _ I h) fun _ sA hA => thn hA fun _ sB hB => ?_)
  obtain ⟨it, fp, tn, J, HB, e, IB, T, stB, fB, q⟩ := hB
  subst e
  refine wpAny_newObj_type (newEnv_comp ?_) (by show 0 ≤ sizeLine; decide)
  generalize eD : sB.heap.objs.size = D
  obtain ⟨W, ⟨w0m, w0⟩, turn⟩ := q D (IB.hok.fresh (Nat.le_of_eq eD))
  generalize eC : ({ sB with heap := sB.heap.push { cls := .type "list", data := .seq ([] : List Value).toArray } } : Shared) = sC
  have heapC : sC.heap = sB.heap.push { cls := .type "list", data := .seq ([] : List Value).toArray } := by rw [← eC]
  have stays : ∀ b o, sB.heap.get? b = some o → sC.heap.get? b = some o := fun b o z => by rw [heapC]; exact Heap.get?_push_of_some _ z
  have IC : Inv X pins σ (upd HB D (.lst [])) sC := by
    rw [← eC]
    refine IB.laid (t' := sB.toks) (fun b o z => Heap.get?_push_of_some _ z) (Nat.le_of_eq eD) ⟨Nat.zero_le _, [], 0, .nil, ?_⟩
    rw [← eD]
    exact Heap.get?_push_size _ rfl
  have fpC : ∀ b ∈ fp, FpOk X pins (upd HB D (.lst [])) b ∧ b < sC.heap.objs.size := by
    intro b hb
    obtain ⟨ob, z, _⟩ := T.obj _ _ stB b hb
    have lt := Heap.lt_size z
    have nD : b ≠ D := by rw [← eD]; exact Nat.ne_of_lt lt
    exact ⟨⟨by rw [upd_ne nD]; exact (fB b hb).1, (fB b hb).2⟩, by rw [heapC, Heap.size_push]; exact Nat.lt_succ_of_lt lt⟩
  have stC : tn 0 sC.heap := T.keep _ _ _ stB fun b _ o z => stays b o z
  have ID := block_start IC ok hN fpC
  generalize eH : upd HB D (.lst []) = HC at IC ID w0 fpC
  have pg := hg sC HC sC.heap.objs.size (cellsFrom (sC.heap.objs.size + 1) scope.names (cloFrom X.env.cells scope.names [])) fp
  have pt := ht sC HC sC.heap.objs.size (cellsFrom (sC.heap.objs.size + 1) scope.names (cloFrom X.env.cells scope.names [])) fp
  have pe := he sC HC sC.heap.objs.size (cellsFrom (sC.heap.objs.size + 1) scope.names (cloFrom X.env.cells scope.names [])) fp
  show codeAny _ _ (.compStart _ 0 (.ref it) (.ref D) (compEnvC scope (cellsFrom (sC.heap.objs.size + 1) scope.names (cloFrom X.env.cells scope.names [])) sC.heap.objs.size X.env)) (compEnds (model X.prog X.w) X.A X.xe use Qf (.ref D) (compEnvC scope (cellsFrom (sC.heap.objs.size + 1) scope.names (cloFrom X.env.cells scope.names [])) sC.heap.objs.size X.env)) { sC with heap := pushCells (sC.heap.push { cls := .type "dict", data := .dict #[] }) scope.names }
  generalize eE : compEnvC scope (cellsFrom (sC.heap.objs.size + 1) scope.names (cloFrom X.env.cells scope.names [])) sC.heap.objs.size X.env = ce at ID pg pt pe ⊢
  have cL : ce.locals = sC.heap.objs.size := by rw [← eE]; rfl
  have cF : ce.frame = X.env.frame := by rw [← eE]; rfl
  generalize eS : ({ sC with heap := pushCells (sC.heap.push { cls := .type "dict", data := .dict #[] }) scope.names } : Shared) = sD at ID ⊢
  have stD : tn 0 sD.heap := T.keep _ _ _ stC fun b _ o z => by rw [← eS]; exact pushCells_keeps _ _ _ _ (Heap.get?_push_of_some _ z)
  have ch : ∀ b ∈ fp, (b ∈ X.ex ∨ X.s_0.heap.objs.size ≤ b) ∧ b ≠ X.env.locals ∧ (∀ x c, X.env.cells.lookup x = some c → c ≠ b) ∧ ∀ p ∈ X.pn ++ pins, p.1 ≠ b := fun b hb =>
    let z := (fpC b hb).1.2
    ⟨z.2.2.1, z.1, z.2.2.2.1, z.2.2.2.2⟩
  have mine : ∀ {τ : L2.St} {H' : Hp} {s' : Shared}, Inv (X.blk sC HC scope ce fp) [] τ H' s' → (∀ b ∈ fp, H' b = none) → ∀ b ∈ fp, FpOk (X.blk sC HC scope ce fp) [] H' b := by
    intro τ H' s' I' hn b hb
    exact ⟨hn b hb, (I'.ok.exf b hb).1, I'.ok.exfs b hb, .inl hb, fun x c z => (I'.ok.exf b hb).2 x c z, fun p hp => by simp at hp⟩
  have err : ∀ (u : Value) (s' : Shared), notedBy (model X.prog X.w) X.A ce (CompFails (model X.prog X.w) X.A X.xe ce) u s' → notedBy (model X.prog X.w) X.A ce (fun u s' => compEnds (model X.prog X.w) X.A X.xe use Qf (.ref D) ce (.error u) s') u s' := by
    intro u s' z
    have e : (fun u s' => compEnds (model X.prog X.w) X.A X.xe use Qf (.ref D) ce (.error u) s') = CompFails (model X.prog X.w) X.A X.xe ce := by
      funext u s'
      cases use <;> rfl
    rw [e]; exact z
  have pe' := pe (notedBy (model X.prog X.w) X.A ce (CompFails (model X.prog X.w) X.A X.xe ce)) fun pi τ H' s' u s'' I' c => comp_airN hs hf IC cL cF ch tk I'.unwish c
  have loop : codeAny (model X.prog X.w) X.A (.compLoop (.ListComp elt [⟨tg, iter, ifs, 0⟩] scope pos) 0 (.ref it) (.ref D) ce) (compEnds (model X.prog X.w) X.A X.xe use Qf (.ref D) ce) sD := by
    refine compLoop_any (fun n s' => ∃ i H', Inv (X.blk sC HC scope ce fp) [] (wipe σ (own.map (·.2))) H' s' ∧ tn i s'.heap ∧ (∀ b ∈ fp, H' b = none) ∧ W i n H') ?_ w0m ⟨0, HC, ID, stD, fun b hb => (fpC b hb).1.1, w0⟩
    rintro n sE ⟨i, HE, IE, stE, nE, wE⟩
    rcases turn i n HE wE with ⟨stop, qq⟩ | ⟨go, Nx, hNx, step⟩
    · have td := T.done (X.blk sC HC scope ce fp) rfl rfl rfl hc i [] sE _ HE (fun _ _ => False) IE (mine IE nE) stE stop
      refine thnF td fun r sF ⟨er, IF⟩ => ?_
      subst er
      have back : Inv X pins σ HE sF := IC.call' (ch := fp) IF.os IF.base IF.hok IF.bare ch
      obtain ⟨m, hn, _⟩ := IF.loc
      refine hend D ce sF m HE back qq hn ?_
      have nL : HE sC.heap.objs.size = none := by rw [← cL]; exact IF.free
      rw [cL]
      exact IC.fpOk (Nat.le_refl _) nL
    · have ti := T.item (X.blk sC HC scope ce fp) rfl rfl rfl hc i [] sE _ HE (fun _ _ => False) IE (mine IE nE) stE go
      refine thnF ti fun r sF ⟨u, er, hF⟩ => ?_
      subst er
      refine thnF hF fun _ sG ⟨x, HG, IG, rG, yG, stG, nG⟩ => ?_
      have IG' := IG.pinned (mine IG nG) (T.obj _ _ stG)
      refine thnF (pg.run _ sG _ HG x u _ IG' rG (step x HG yG)) fun _ sK ⟨τ, HK, IK, hw, qK⟩ => ?_
      refine thnF (pt.run _ sK τ HK _ IK qK) fun b sM ⟨HM, IM, qM⟩ => ?_
      have close : ∀ {s' : Shared} {H' : Hp}, Inv (X.blk sC HC scope ce fp) ([] ++ pinsAt fp sG.heap) τ H' s' → Nx H' → ∃ m, m < n ∧ ∃ i H', Inv (X.blk sC HC scope ce fp) [] (wipe σ (own.map (·.2))) H' s' ∧ tn i s'.heap ∧ (∀ b ∈ fp, H' b = none) ∧ W i m H' := by
        intro s' H' I' nx
        obtain ⟨m', lt, w'⟩ := hNx H' nx
        have at' : ∀ b ∈ fp, ∀ o, sG.heap.get? b = some o → s'.heap.get? b = some o ∧ H' b = none := by
          intro b hb o z
          have p := I'.pin (b, o) (List.mem_append_right _ (List.mem_append_right _ (mem_pinsAt hb z)))
          exact ⟨p.1, p.2.1⟩
        have len : (wipe σ (own.map (·.2))).length = τ.length := by rw [← hw, wipe_length]
        refine ⟨m', lt, i + 1, H', (I'.unpinned (pins := [])).weak len (fun j v z => ?_), T.keep _ _ _ stG fun b hb o z => (at' b hb o z).1, fun b hb => ?_, w'⟩
        · rw [← hw] at z
          exact (wipe_some z).1
        · obtain ⟨o, z, _⟩ := T.obj _ _ stG b hb
          exact (at' b hb o z).2
      cases b with
      | false =>
        simp only [Bool.false_eq_true, if_false] at qM ⊢
        exact close IM qM
      | true =>
        simp only [if_true] at qM ⊢
        refine wpAny_mono (pe'.run _ sM τ HM _ (IM.wish _) qM) (fun z sN hz => ?_) fun u s' z => err u s' z
        obtain ⟨yv, HN, IN, rN, acc, hD, hz, nx⟩ := hz
        exact app_ok (X := X.blk sC HC scope ce fp) IN.unwish hD hz rN fun sP IP => close IP nx
  exact codeAny_compStart_list loop (T.self X.A 0 _ _ _ stD loop)
/-- as a value -/
theorem pe_lcN {elt tg iter : Expr} {ifs : List Expr} {own : List (Str × Nat)} {pos : Pos} {wi : TI} {g : TG} {tt : TT} {te : TE} (hs : X.stack = X.env :: X.outer) (hf : X.env.frame = some X.env.locals) (tk : L2N.Takes X fun cls d _ H => E cls d H) (hc : X.calm = true) (hN : X.N.Nodup) (hi : PI X tg iter wi) (ok : BlkOk X.N X.env.scope scope own)
    (hg : ∀ (s : Shared) (H : Hp) (C : Addr) (cl : List (Str × Addr)) (fp : List Addr), PG (X.blk s H scope (compEnvC scope cl C X.env) fp) tg g)
    (ht : ∀ (s : Shared) (H : Hp) (C : Addr) (cl : List (Str × Addr)) (fp : List Addr), PTs (X.blk s H scope (compEnvC scope cl C X.env) fp) ifs tt)
    (he : ∀ (s : Shared) (H : Hp) (C : Addr) (cl : List (Str × Addr)) (fp : List Addr) (xe : Value → Shared → Prop), Passes (L2N.CX X.prog X.w) ((X.blk s H scope (compEnvC scope cl C X.env) fp).wish xe) E → PE ((X.blk s H scope (compEnvC scope cl C X.env) fp).wish xe) elt te)
    (hset : ∀ x, foldedSetIterable iter X.env x = pure x := by intro _; rfl) :
    PE X (.ListComp elt [⟨tg, iter, ifs, 0⟩] scope pos) (tLc wi g tt te (own.map (·.2))) := by
  refine ⟨fun pins s σ H Q I h => ?_⟩
  rw [eval_ListComp]
  refine lcN_core hs hf tk hc hN I hi ok hg ht he hset h fun D ce s' m H' I' q hn fo => ⟨m, hn, fun h2 sb => ?_⟩
  obtain ⟨f0, f1, _, f3, f4, f5⟩ := fo
  exact ⟨.ref D, H', I'.turned (t' := s'.toks) (fun b o hb z => (sb.2 b hb).trans z) f0 f1 f3 f4 f5, rfl, q⟩
/-- stored under a local name, on one line -/
theorem ps_setLcN {i : Nat} {y : Str} {py : Pos} {elt tg iter : Expr} {ifs : List Expr} {own : List (Str × Nat)} {pos spos : Pos} {wi : TI} {g : TG} {tt : TT} {te : TE} (hs : X.stack = X.env :: X.outer) (hf : X.env.frame = some X.env.locals) (tk : L2N.Takes X fun cls d _ H => E cls d H) (hc : X.calm = true) (hN : X.N.Nodup) (hy : X.N[i]? = some y) (hyl : X.env.scope.names.lookup y = some .local)
    (hsw : swapsWith (.ListComp elt [⟨tg, iter, ifs, 0⟩] scope pos) (some (.Name y py)) spos.line X.env = pure true) (hi : PI X tg iter wi) (ok : BlkOk X.N X.env.scope scope own)
    (hg : ∀ (s : Shared) (H : Hp) (C : Addr) (cl : List (Str × Addr)) (fp : List Addr), PG (X.blk s H scope (compEnvC scope cl C X.env) fp) tg g)
    (ht : ∀ (s : Shared) (H : Hp) (C : Addr) (cl : List (Str × Addr)) (fp : List Addr), PTs (X.blk s H scope (compEnvC scope cl C X.env) fp) ifs tt)
    (he : ∀ (s : Shared) (H : Hp) (C : Addr) (cl : List (Str × Addr)) (fp : List Addr) (xe : Value → Shared → Prop), Passes (L2N.CX X.prog X.w) ((X.blk s H scope (compEnvC scope cl C X.env) fp).wish xe) E → PE ((X.blk s H scope (compEnvC scope cl C X.env) fp).wish xe) elt te)
    (hset : ∀ x, foldedSetIterable iter X.env x = pure x := by intro _; rfl) :
    PS X (.Assign [.Name y py] (.ListComp elt [⟨tg, iter, ifs, 0⟩] scope pos) spos) (tAsg (tLc wi g tt te (own.map (·.2))) (gName i)) := by
  refine ⟨fun pins s σ H D I h => ?_⟩
  rw [exec_Assign_Name_used _ _ _ _ hsw]
  refine wpAny_bind (wpAny_standAt (wpAny_bind ?_))
  have h : tLc wi g tt te (own.map (·.2)) σ H (fun x H1 => gName i x σ H1 D.nx) := h
  show wpAny _ X.A (comprehension _ scope X.env (firstIterPos _ pos) (newList []) false (eval iter X.env) (some (assign (.Name y py) X.env)) >>= fun _ => _) _ _ s
  refine wpAny_bind (thn (lcN_core (Qf := fun _ s' => SP X pins D .next s') hs hf tk hc hN I hi ok hg ht he hset h fun L ce s' m H' I' q hn fo => ?_) fun _ s' z => wpAny_pure (wpAny_pure z))
  show wpAny _ _ (assign (.Name y py) X.env (.ref L)) _ _ _
  refine wpAny_assign_Name (store_ok2 (v := V.ref L) I' hN hy (.inl hyl) rfl (fun s2 I2 st => ?_) (.inr hyl))
  obtain ⟨a, sb, ha⟩ := st
  obtain ⟨f0, f1, _, f3, f4, f5⟩ := fo
  have apart : ce.locals ≠ a := ha.elim (fun z => by rw [z]; exact f1) fun z q => f4 y a z q.symm
  refine ⟨m, hn.sameBut sb apart, fun h3 sb3 => ?_⟩
  exact ⟨_, H', I2.turned (t' := s2.toks) (fun b o hb z => (sb3.2 b hb).trans z) f0 f1 f3 f4 f5, q⟩
end
end DS
set_option Elab.async false
set_option linter.all false
set_option maxRecDepth 100000
set_option maxHeartbeats 4000000
/-! ### match of a text against written texts -/
namespace DS
open PySem PySem.Spec PyProof.Rows L2
section
variable {X : Cx}
/-- a pattern of written texts: f tells which texts it takes -/
def PPat (X : Cx) (p : Pattern) (f : Str → Bool) : Prop := ∀ (pins : List (Addr × Obj)) (s : Shared) (σ : L2.St) (H : Hp) (x : Str) (t : Tok) (Q : Option (List (Str × Value)) → Shared → Prop),
  Inv X pins σ H s → (∀ s', Inv X pins σ H s' → Q (if f x = true then some [] else none) s') → wpAny (model X.prog X.w) X.A (matchPattern p X.env (.str x t)) Q X.xe s
theorem pp_any {pos : Pos} : PPat X (.MatchAs none none pos) fun _ => true := fun pins s σ H x t Q I q => wpAny_matchPattern_Capture (q s I)
theorem pp_str {c : Str} {k : Nat} {p1 p2 : Pos} : PPat X (.MatchValue (.Constant (.str c) k p1) p2) fun x => decide (x = c) := by
  intro pins s σ H x t Q I q
  refine wpAny_matchPattern_Value (thn ((pe_str (X := X) (x := c) (j := k) (pos := p1)).run pins s σ H (fun v H1 => v = .str c ∧ H1 = H) I ⟨rfl, rfl⟩) fun u s1 h1 => ?_)
  obtain ⟨v, H1, I1, r1, hv, hH⟩ := h1
  subst hv
  rw [hH] at I1
  refine thn (op_eq pins s1 σ H (.str x) (.str c) _ _ (fun v H2 => v = .bl (decide (V.str x = V.str c)) ∧ H2 = H) I1 ⟨_, rfl⟩ r1 ?_) fun b s2 h2 => ?_
  · exact ⟨rfl, rfl, rfl⟩
  · obtain ⟨v, H2, I2, r2, hv, hH⟩ := h2
    subst hv
    rw [hH] at I2
    cases (show b = Value.bool _ from r2)
    refine wpAny_truthy_bool ?_
    have e : decide (V.str x = V.str c) = decide (x = c) := by simp
    rw [e]
    have z := q s2 I2
    cases hd : decide (x = c) with
    | true => simp only [hd, if_true] at z ⊢; exact z
    | false => simp only [hd, Bool.false_eq_true, if_false] at z ⊢; exact z
/-- one of several -/
def PPats (X : Cx) (ps : List Pattern) (f : Str → Bool) : Prop := ∀ (pins : List (Addr × Obj)) (s : Shared) (σ : L2.St) (H : Hp) (x : Str) (t : Tok) (Q : Option (List (Str × Value)) → Shared → Prop),
  Inv X pins σ H s → (∀ s', Inv X pins σ H s' → Q (if f x = true then some [] else none) s') → wpAny (model X.prog X.w) X.A (matchFirst ps X.env (.str x t)) Q X.xe s
theorem pps_nil : PPats X [] fun _ => false := fun pins s σ H x t Q I q => wpAny_matchFirst_nil (q s I)
theorem pps_cons {p : Pattern} {ps : List Pattern} {f g : Str → Bool} (h : PPat X p f) (hs : PPats X ps g) : PPats X (p :: ps) fun x => f x || g x := by
  intro pins s σ H x t Q I q
  refine wpAny_matchFirst_cons (h pins s σ H x t _ I fun s' I' => ?_)
  cases e : f x with
  | true =>
    have z := q s' I'
    simp only [e, Bool.true_or, if_true] at z ⊢
    exact z
  | false =>
    simp only [Bool.false_eq_true, if_false]
    refine hs pins s' σ H x t _ I' fun s2 I2 => ?_
    have z := q s2 I2
    simp only [e, Bool.false_or] at z
    exact z
theorem pp_or {ps : List Pattern} {pos : Pos} {f : Str → Bool} (h : PPats X ps f) : PPat X (.MatchOr ps pos) f := by
  intro pins s σ H x t Q I q
  refine wpAny_matchPattern_Or (h pins s σ H x t _ I fun s' I' => ?_)
  have z := q s' I'
  cases e : f x with
  | true =>
    simp only [e, if_true] at z ⊢
    have e2 : ∀ l : List Str, l.filterMap (fun n => (List.lookup n ([] : List (Str × Value))).map (n, ·)) = [] := fun l => by
      induction l with
      | nil => rfl
      | cons a l ih => simp
    rw [e2]; exact z
  | false => simp only [e, Bool.false_eq_true, if_false] at z ⊢; exact z
/-- the cases of a match -/
structure PCases (X : Cx) (cs : List MatchCase) (t : Str → TS) : Prop where
  run : ∀ (pins : List (Addr × Obj)) (s : Shared) (σ : L2.St) (H : Hp) (D : Ends) (x : Str) (k : Tok) (first : Bool), Inv X pins σ H s → t x D σ H → wpAny (model X.prog X.w) X.A (matchCases cs X.env (.str x k) first) (SP X pins D) X.xe s
theorem pcs_nil : PCases X [] fun _ D σ H => D.nx σ H := ⟨fun pins s σ H D x k first I h => wpAny_matchCases_nil ⟨σ, H, I, h⟩⟩
theorem pcs_cons {p : Pattern} {body : List Stmt} {cs : List MatchCase} {f : Str → Bool} {tb : TS} {t : Str → TS} (hp : PPat X p f) (hb : PSs X body tb) (hs : PCases X cs t) :
    PCases X (⟨p, none, body⟩ :: cs) fun x D σ H => if f x = true then tb D σ H else t x D σ H := by
  refine ⟨fun pins s σ H D x k first I h => wpAny_matchCases_cons (hp pins s σ H x k _ I fun s' I' => ?_)⟩
  cases e : f x with
  | true =>
    simp only [e, if_true] at h ⊢
    exact wpAny_assignInOrder_none (hb.run pins s' σ H D I' h)
  | false =>
    simp only [e, Bool.false_eq_true, if_false] at h ⊢
    exact hs.run pins s' σ H D x k false I' h
/-- match e: .. where e is a text -/
def tMatch (te : TE) (tm : Str → TS) : TS := fun D σ H => te σ H fun v H1 => ∃ x, v = .str x ∧ tm x D σ H1
theorem ps_match {e : Expr} {cs : List MatchCase} {te : TE} {tm : Str → TS} {pos : Pos} (he : PE X e te) (hm : PCases X cs tm) : PS X (.Match e cs pos) (tMatch te tm) := by
  refine ⟨fun pins s σ H D I h => wpAny_Match (thn (he.run pins s σ H _ I h) fun u s1 h1 => ?_)⟩
  obtain ⟨v, H1, I1, r1, x, rfl, q⟩ := h1
  obtain ⟨k, rfl⟩ := (show ∃ k, u = Value.str x k from r1)
  exact hm.run pins s1 σ H1 D x k true I1 q
end
end DS
set_option Elab.async false
set_option linter.all false
set_option maxRecDepth 100000
set_option maxHeartbeats 4000000
/-! ### a dict with text keys that the top has written -/
namespace DS
open PySem PySem.Spec PyProof.Rows L2
/-- at d the written part has a dict of these keys and values -/
structure KDt (K : PySem.W.Frag) (w : World) (d : Addr) (kvs : List (Str × Tok × Value)) : Prop where
  at_ : ∃ n, K.lookup d = some ⟨.type "dict", none, .dict (kvs.map fun p => (⟨PyData.keyHash w.params p.1, .str p.1 p.2.1, p.2.2⟩ : DictEntry)).toArray n, #[]⟩
  nd : (kvs.map (·.1)).Nodup
  low : (d == sysModules) = false
  len : kvs.length ≤ 1000
theorem KDt.of {P : Program} {K : PySem.W.Frag} {w : World} {d : Addr} {kvs : List (Str × Tok × Value)} (D : KDt K w d kvs) {h : Heap} (X : K.In h) : h.DictOf (mixKind P w) d (kvs.map fun p => ((Sum.inr p.1 : Key), p.2.2)) := by
  obtain ⟨n, e⟩ := D.at_
  refine ⟨_, _, _, X _ _ e, ⟨rfl, rfl, rfl⟩, rfl, fun e he => ?_, ?_, ?_⟩
  · simp only [List.mem_toArray, List.mem_map] at he
    obtain ⟨p, _, rfl⟩ := he
    exact ⟨Sum.inr p.1, keyIs_str p.1 p.2.1, rfl⟩
  · show Pairs (mixKind P w) (kvs.map fun p => (⟨PyData.keyHash w.params p.1, .str p.1 p.2.1, p.2.2⟩ : DictEntry)) _
    clear e D
    induction kvs with
    | nil => exact .nil
    | cons p r ih => exact .cons (keyIs_str p.1 p.2.1) rfl ih
  · have e2 : ((kvs.map fun p => ((Sum.inr p.1 : Key), p.2.2)).map (·.1)) = (kvs.map (·.1)).map (Sum.inr : Str → Key) := by simp [List.map_map, Function.comp_def]
    rw [e2]
    exact List.Pairwise.map _ (fun a b h q => h (Sum.inr.inj q)) D.nd
section
variable {X : Cx} {d : Addr} {kvs : List (Str × Tok × Value)}
/-- dict(d), d such a dict: the values as they are read -/
theorem call_dictK (D : KDt X.K X.w d kvs) (vs : List V) (hv : Paired RelV vs (kvs.map (·.2.2))) : CallR X (.type "dict") (fun xs H Q => xs = [.ref d] ∧ ∀ p, H p = none → Q (.ref p) (upd H p (.dK (List.zipWith (fun (q : Str × Tok × Value) v => ((Sum.inr q.1 : Key), v)) kvs vs)))) := by
  intro pins s σ H xs us Q I r q
  obtain ⟨ex, q⟩ := q
  subst ex
  obtain ⟨u, eu, rx⟩ := vals1 r
  subst eu
  cases rx
  have dd : s.heap.DictOf (mixKind X.prog X.w) d (kvs.map fun p => ((Sum.inr p.1 : Key), p.2.2)) := D.of I.kIn
  refine kt_call_dict D.low dd (by rw [List.length_map, sizeLine_eq]; have := D.len; omega) fun h' d' hs => ?_
  have hm : (s.heap.objs.size == sysModules) = false := beq_eq_false_iff_ne.mpr (Nat.ne_of_gt I.big)
  have rel : KV (List.zipWith (fun (q : Str × Tok × Value) v => ((Sum.inr q.1 : Key), v)) kvs vs) (kvs.map fun p => ((Sum.inr p.1 : Key), p.2.2)) := by
    clear dd d' hs D q
    induction kvs generalizing vs with
    | nil => cases vs with
      | nil => exact .nil
      | cons v vs => cases hv
    | cons p r ih => cases vs with
      | nil => cases hv
      | cons v vs => cases hv with
        | cons h1 h2 => exact .cons ⟨rfl, h1⟩ (ih vs h2)
  have z : (List.zipWith (fun (q : Str × Tok × Value) v => ((Sum.inr q.1 : Key), v)) kvs vs).length ≤ sizeLine := by rw [rel.length, List.length_map, sizeLine_eq]; have := D.len; omega
  exact ⟨.ref s.heap.objs.size, upd H s.heap.objs.size (.dK _), I.laid (t' := s.toks) (fun b u e => (hs.2 b (Nat.ne_of_lt (Heap.lt_size e))).trans (Heap.get?_push_of_some _ e)) (Nat.le_refl _)
    (show ObjOk X.prog X.w _ _ _ (.dK _) from ⟨z, hm, _, rel, d'⟩), rfl, q _ (I.hok.fresh (Nat.le_refl _))⟩
end
end DS
set_option Elab.async false
set_option linter.all false
set_option maxRecDepth 100000
set_option maxHeartbeats 4000000
/-! ### for i, x in enumerate(t, k), t a tuple -/
namespace DS
open PySem PySem.Spec PyProof.Rows L2
def ItnT (K : PySem.W.Frag) (a : Addr) (k : Int) : It :=
  ⟨fun i H => ∃ (xs : List V) (x : V), SqT K H a xs ∧ xs[i]? = some x, fun i H v H' => ∃ T x, v = .ref T ∧ H T = none ∧ H' = upd H T (.tup [.int (k + (i : Int)), x]) ∧ ∀ xs, SqT K H a xs → xs[i]? = some x, fun i H => ∃ xs : List V, SqT K H a xs ∧ xs.length = i⟩
theorem turn_enumT {P : Program} {w : World} {K : PySem.W.Frag} {elts : List Expr} {kk : Nat} {tpos : Pos} (a e it : Addr) (k : Int) :
    Turn P w K (.Tuple elts kk tpos) (ItnT K a k) [e, it] e (fun i h => (∃ old, IsEnum h e it (k + (i : Int)) old) ∧ h.IsTupleIter it a i ∧ e ≠ it) where
  mem := by simp
  obj := by
    intro i h st b hb
    obtain ⟨⟨old, he⟩, ⟨o, ho, hc, hd⟩, _⟩ := st
    rcases List.mem_cons.mp hb with z | z
    · rw [z]; exact ⟨_, he, fun v q => nomatch q⟩
    · rw [List.mem_singleton.mp z]
      exact ⟨o, ho, fun v q => by rw [hd] at q; cases q⟩
  keep := by
    intro i h h' st kp
    obtain ⟨⟨old, he⟩, hi, hne⟩ := st
    exact ⟨⟨old, kp e (by simp) _ he⟩, hi.at fun o q => kp it (by simp) o q, hne⟩
  item := by
    intro X hP hw hK hc i pins s σ H E I hf st hg
    subst hP hw hK
    obtain ⟨⟨old, he⟩, hit, hne⟩ := st
    obtain ⟨xs, x, hq, hx⟩ := hg
    obtain ⟨its, rv, pt, hz⟩ := I.tuple hq
    obtain ⟨u, hu, ru⟩ := rv.get hx
    have apart : a ≠ it := by
      obtain ⟨o, ho, hcl, _⟩ := pt
      obtain ⟨o', ho', hcl', _⟩ := hit
      intro z
      rw [z, ho'] at ho
      cases ho
      rw [hcl] at hcl'
      exact absurd (Value.type.inj hcl') (by decide)
    have apart2 : e ≠ a := by
      obtain ⟨o, ho, hcl, _⟩ := pt
      intro z
      rw [← z, show s.heap.get? e = some _ from he] at ho
      cases ho
      exact absurd (Value.type.inj hcl) (by decide)
    have D := Draws.tuple (prog := X.prog) (w := X.w) (A := X.A.in1) (I.ok.hd hc) it a apart its.toArray
    have lt : i < its.toArray.size := by
      have := (List.getElem?_eq_some_iff.mp hu).1
      simpa using this
    have hel : e < s.heap.objs.size := Heap.lt_size he
    have hil : it < s.heap.objs.size := by obtain ⟨_, q, _⟩ := hit; exact Heap.lt_size q
    refine wpAny_pyNext_enum_itemC D he ⟨hit, pt⟩ lt hne (by simp [hne, apart2]) fun y h1 tk hy ho hst hT hsz hk => ?_
    obtain rfl : y = u := by
      have e1 : its.toArray[i]? = some y := hy
      rw [List.getElem?_toArray, hu] at e1
      exact (Option.some.inj e1).symm
    refine ⟨_, rfl, wpAny_letOwnedTupleGo_enum (s := { s with heap := h1, toks := tk + 1 }) ho fun h2 he2 sb => ?_⟩
    have hT2 : h2.get? s.heap.objs.size = some { cls := .type "tuple", data := .seq #[.int (k + (i : Int)) tk, y] } := (sb.2 _ (Nat.ne_of_gt hel)).trans hT
    have new : ObjOk X.prog X.w (upd H s.heap.objs.size (.tup [.int (k + (i : Int)), x])) h2 s.heap.objs.size (.tup [.int (k + (i : Int)), x]) :=
      ⟨by show 2 ≤ sizeLine; decide, [.int (k + (i : Int)) tk, y], .cons ⟨_, rfl⟩ (.cons ru .nil), ⟨_, hT2, rfl, _, rfl⟩⟩
    have I1 : Inv X pins σ (upd H s.heap.objs.size (.tup [.int (k + (i : Int)), x])) { s with heap := h2, toks := tk + 1 } :=
      I.turnedNew (ch := [e, it]) (fun b ob hb q => (sb.2 b (fun z => hb (by simp [z]))).trans (hk b ob (fun z => hb (by simp [z])) (fun z => hb (by simp [z])) q)) hf (Nat.le_refl _) new
    refine ⟨.ref s.heap.objs.size, _, I1, rfl, ⟨_, x, rfl, I.hok.fresh (Nat.le_refl _), rfl, fun ys hy => by rw [I.tuple_inj hy hq]; exact hx⟩, ⟨⟨y, ?_⟩, hst.1.at fun o q => (sb.2 it (Ne.symm hne)).trans q, hne⟩, fun b hb => ?_⟩
    · rw [show k + ((i + 1 : Nat) : Int) = k + (i : Int) + 1 by omega]; exact he2
    · have lt' : b < s.heap.objs.size := by
        rcases List.mem_cons.mp hb with z | z
        · rw [z]; exact hel
        · rw [List.mem_singleton.mp z]; exact hil
      rw [upd_ne (Nat.ne_of_lt lt')]
      exact (hf b hb).1
  done := by
    intro X hP hw hK hc i pins s σ H E I hf st hg
    subst hP hw hK
    obtain ⟨⟨old, he⟩, hit, hne⟩ := st
    obtain ⟨xs, hq, hx⟩ := hg
    obtain ⟨its, rv, pt, hz⟩ := I.tuple hq
    have apart : a ≠ it := by
      obtain ⟨o, ho, hcl, _⟩ := pt
      obtain ⟨o', ho', hcl', _⟩ := hit
      intro z
      rw [z, ho'] at ho
      cases ho
      rw [hcl] at hcl'
      exact absurd (Value.type.inj hcl') (by decide)
    have D := Draws.tuple (prog := X.prog) (w := X.w) (A := X.A.in1) (I.ok.hd hc) it a apart its.toArray
    obtain ⟨f0, f1, f2, f3, f4, f5⟩ := hf it (by simp)
    have hl : i = its.toArray.size := by rw [List.size_toArray, ← rv.length, hx]
    rw [hl] at hit
    exact wpAny_pyNext_enum_endD D he ⟨hit, pt⟩ fun h' eb => ⟨rfl, I.turned (t' := s.toks) (fun b o hb q => eb b o hb q) f0 f1 f3 f4 f5⟩
  self := fun A i s Q E st h => let ⟨⟨_, he⟩, _⟩ := st; wpAny_pyIter_enum he h
def iEnumT (K : PySem.W.Frag) (ta : TA) : TI := fun σ H R => ta σ H fun vs H1 => ∃ a k xs, vs = [.ref a, .int k] ∧ -(2 ^ 62) ≤ k ∧ k < 2 ^ 62 ∧ SqT K H1 a xs ∧ R (ItnT K a k) H1
theorem pi_enumT {X : Cx} {e e2 : Expr} {ta : TA} {p pos tpos : Pos} {elts : List Expr} {kk : Nat} (hg : Gl X "enumerate") (hm : X.mg "enumerate" = none) (ha : PA X [e, e2] ta)
    (hs : starEach [e, e2] X.env = (false, eval e X.env) :: starEach [e2] X.env := by rfl) (hpl : (backTo pos (starEach [e2] X.env)).any (·.1) = false := by rfl) :
    PI X (.Tuple elts kk tpos) (.Call (.Name "enumerate" p) [e, e2] [] pos) (iEnumT X.K ta) := by
  refine ⟨fun pins s σ H R I h => ?_⟩
  refine Call_ (ld_blt I hg hm boot_enumerate (PyProof.Rows.callWith_type1 (thn (ha.run pos pins s σ H _ I h) fun us s1 hh => ?_) hs hpl))
  obtain ⟨vs, H1, I1, r1, a, k, xs, ex, k0, k1, hq, q⟩ := hh
  subst ex
  obtain ⟨u1, u2, rfl, rx, ⟨t, rfl⟩⟩ := vals2 r1
  obtain rfl : u1 = Value.ref a := rx
  obtain ⟨its, rv, pt, hz⟩ := I1.tuple hq
  refine enum_begins (begins_tuple a its.toArray) pt (by omega) (by omega) fun h' he hit hsz hk => wpAny_pyIter_enum he ?_
  have I2 : Inv X pins σ H1 { s1 with heap := h' } := I1.kept (t' := s1.toks) hk
  refine ⟨s1.heap.objs.size + 1, [s1.heap.objs.size + 1, s1.heap.objs.size], _, _, H1, rfl, I2, turn_enumT a (s1.heap.objs.size + 1) s1.heap.objs.size k, ⟨⟨.none, by rw [show k + ((0 : Nat) : Int) = k by omega]; exact he⟩, ⟨_, hit, rfl, rfl⟩, Nat.succ_ne_self _⟩, fun b hb => ?_, q⟩
  have le : s1.heap.objs.size ≤ b := by
    rcases List.mem_cons.mp hb with z | z
    · rw [z]; exact Nat.le_add_right _ _
    · rw [List.mem_singleton.mp z]; exact Nat.le_refl _
  exact I1.fpOk le (I1.hok.fresh le)
theorem walk_enumT {K : PySem.W.Frag} {a : Addr} {k : Int} {xs : List V} : Walk (ItnT K a k) xs.length (fun H => SqT K H a xs) (YPair (fun i => some (.int (k + (i : Int)))) (fun i => xs[i]?)) := by
  refine ⟨fun i _ hi q => ⟨xs, xs[i], q, by simp [hi]⟩, fun _ q => ⟨xs, q, rfl⟩, fun i H v H' _ q y => ?_⟩
  obtain ⟨T, x, h1, h2, h3, h4⟩ := y
  exact ⟨T, .int (k + (i : Int)), x, h1, h2, h3, rfl, h4 xs q⟩
end DS
set_option Elab.async false
set_option linter.all false
set_option maxRecDepth 100000
set_option maxHeartbeats 4000000
/-! ### try .. except X as n, whose suite raises -/
namespace DS
open PySem PySem.Spec PyProof.Rows L2 L2H HotX
section
variable {X : Cx} {pins : List (Addr × Obj)} {σ : L2.St} {H : Hp} {sI : Shared}
/-- the state without the exception, once the clause's name is gone -/
theorem name_gone {i : Nat} {n : Str} {B g : Heap} {m : Str → Option Value} {v : Option Value} {gs : Array GenState} {dr : Drawn} {tk : Nat} (I : Inv X pins σ H sI) (hs : X.stack = X.env :: X.outer) (hf : X.env.frame = some X.env.locals) (hN : X.N.Nodup) (hi : X.N[i]? = some n)
    (nb : ∀ b o, sI.heap.get? b = some o → b ∉ frs X.stack → B.get? b = some o) (st : B.StaysIn g) (fr : ∀ b ∈ frs X.stack, b ≠ X.env.locals → ∀ o, sI.heap.get? b = some o → ∃ sl, g.get? b = some { o with slots := sl })
    (hlk : ∀ (j : Nat) (y : Str) (u : V), X.N[j]? = some y → σ[j]? = some (some u) → Vis X.env.scope y → ∃ z, RelV u z ∧ Look X.env sI.heap m y z) (hn : g.Ns X.env.locals (fun y => if y = n then v else m y)) (ag : AllBare gs) :
    ∃ G : Heap, (∀ b o, G.get? b = some o → g.get? b = some o ∧ ((B.get? b).isSome = true ∨ b ∈ frs X.stack)) ∧ Inv X pins (σ.set i none) H { sI with heap := G, gens := gs, drawn := dr, toks := tk } := by
  obtain ⟨G, r1, r2⟩ := restrict g fun b => (B.get? b).isSome || decide (b ∈ frs X.stack)
  have gB : ∀ b o, B.get? b = some o → G.get? b = some o := fun b o e => (r1 b (by simp [e])).trans (st b o e)
  have gF : ∀ b ∈ frs X.stack, G.get? b = g.get? b := fun b hb => r1 b (by simp [hb])
  have inL : X.env.locals ∈ frs X.stack := by
    rw [hs]
    exact List.mem_filterMap.mpr ⟨X.env, List.mem_cons_self, hf⟩
  have dom : ∀ b o, sI.heap.get? b = some o → b ∉ frs X.stack → G.get? b = some o := fun b o e hb => gB b o (nb b o e hb)
  have frG : ∀ b ∈ frs X.stack, b ≠ X.env.locals → ∀ o, sI.heap.get? b = some o → ∃ sl, G.get? b = some { o with slots := sl } := fun b hb hne o e => by
    obtain ⟨sl, z⟩ := fr b hb hne o e
    exact ⟨sl, (gF b hb).trans z⟩
  have young : ∀ b o, X.s_0.heap.get? b = some o → b ≠ X.env.locals := fun b o e => Nat.ne_of_lt (Nat.lt_of_lt_of_le (Heap.lt_size e) I.ok.above)
  have notF : ∀ b o, X.s_0.heap.get? b = some o → b ∉ X.fs → b ∉ frs X.stack := fun b o e hb hm => by
    rcases List.mem_cons.mp (I.stkSub b hm) with z | z
    · exact young b o e z
    · exact hb z
  have cellG : ∀ c u, c ≠ X.env.locals → sI.heap.IsCell c u → G.IsCell c u := fun c u hne z => by
    obtain ⟨o, e, d⟩ := z
    by_cases hb : c ∈ frs X.stack
    · obtain ⟨sl, q⟩ := frG c hb hne o e
      exact ⟨_, q, d⟩
    · exact ⟨o, dom c o e hb, d⟩
  refine ⟨G, fun b o e => ?_, I.ok, I.os, ag, ⟨fun b o e n0 hb hx => ?_, fun b o e n0 hb hx => ?_, I.base.free, fun b o e hx => ?_, I.base.tups, I.base.frzs, I.base.tbls⟩, ⟨fun y => if y = n then v else m y, ?_, fun j y u e1 e2 e3 => ?_⟩, fun y c e => ?_, I.free, I.freeC, fun p hp => ?_, ?_, by simpa using I.len⟩
  · cases q : ((B.get? b).isSome || decide (b ∈ frs X.stack)) with
    | true => exact ⟨(r1 b q).symm.trans e, by simpa using q⟩
    | false => rw [r2 b q] at e; cases e
  · exact dom b o (I.base.keep b o e n0 hb hx) (notF b o e hb)
  · obtain ⟨sl, z⟩ := I.base.slot b o e n0 hb hx
    have hb' : b ∈ frs X.stack := by
      rw [hs]
      obtain ⟨x, hx1, hx2⟩ := List.mem_filterMap.mp hb
      exact List.mem_filterMap.mpr ⟨x, List.mem_cons_of_mem _ hx1, hx2⟩
    obtain ⟨sl2, z2⟩ := frG b hb' (young b o e) _ z
    exact ⟨sl2, z2⟩
  · obtain ⟨o', z⟩ := I.base.there b o e hx
    by_cases hb : b ∈ frs X.stack
    · obtain ⟨sl, q⟩ := frG b hb (young b o e) o' z
      exact ⟨_, q⟩
    · exact ⟨o', dom b o' z hb⟩
  · obtain ⟨oL, es, ep, z, d, r⟩ := hn
    exact ⟨oL, es, ep, (gF _ inL).trans z, d, r⟩
  · by_cases hj : j = i
    · subst hj
      by_cases lt : j < σ.length
      · rw [List.getElem?_set_self lt] at e2; cases e2
      · rw [List.getElem?_eq_none (by simpa using lt)] at e2; cases e2
    · rw [List.getElem?_set_ne (Ne.symm hj)] at e2
      obtain ⟨z, r, q⟩ := hlk j y u e1 e2 e3
      refine ⟨z, r, q.elim (fun w1 => .inl ⟨w1.1, ?_⟩) fun w1 => .inr ?_⟩
      · have other : y ≠ n := fun e => hj (nodup_ix hN e1 (e ▸ hi))
        exact (if_neg other).trans w1.2
      · obtain ⟨k, c, e, q⟩ := w1
        exact ⟨k, c, e, cellG c _ (I.cne y c e) q⟩
  · obtain ⟨u, z⟩ := I.cell y c e
    exact ⟨u, cellG c u (I.cne y c e) z⟩
  · obtain ⟨z1, z2, z3, z4, z5⟩ := I.pin p hp
    refine ⟨dom _ _ z1 fun hm => ?_, z2, z3, z4, z5⟩
    rcases List.mem_cons.mp (I.stkSub _ hm) with q | q
    · exact z3 q
    · exact z4 q
  · exact (I.inGround nb).kept gB
/-- what the suite raises, out of the clause -/
theorem suite_air {A' : Around} {RE E1 : Value → Shared → Prop} {i : Nat} {n what : _} {pos : Pos} {Wout : WX} {u : Value} {s : Shared} (hs : X.stack = X.env :: X.outer) (hf : X.env.frame = some X.env.locals) (hN : X.N.Nodup) (hi : X.N[i]? = some n) (hln : X.env.kindOf n = some .local) (hfr : A'.frames = some (X.env :: X.outer))
    (tk : L2.Takes X Wout) (hR : ∀ e s', X.xe e s' → RE e s')
    (x2 : ∃ (a : Addr) (B : Heap) (sI : Shared) (σ : L2.St) (H : Hp) (cls : Value) (d : Option Addr), u = .ref a ∧ Inv X pins σ H sI ∧ (∀ b o, sI.heap.get? b = some o → b ∉ frs X.stack → B.get? b = some o) ∧ sI.heap.UpToSlots s.heap ∧
      Sky B X.stack a (Zc cls d) X.env.locals s.heap ∧ H a = none ∧ s.os = sI.os ∧ AllBare s.gens ∧ Wout cls d (σ.set i none) H) :
    wpAny (model X.prog X.w) A' (noteFrame u X.env) (fun _ s1 => wpAny (model X.prog X.w) A' (do bindName X.env n .none; unbindBehindTheSuite X.env n pos) (fun _ s2 => wpAny (model X.prog X.w) A' (PySem.passOn what u X.env : Sem Flow) (fun _ _ => False) RE s2) E1 s1) RE s := by
  obtain ⟨a, B, sI, σ, H, cls, d, eu, I, nb, up, sky, na, hos, ag, w⟩ := x2
  subst eu
  rw [hs] at sky
  have go : ∀ g1, HandSPX.HeldZ B (X.env :: X.outer) a (Zc cls d) X.env.locals g1 → s.heap.UpToSlots g1 →
      wpAny (model X.prog X.w) A' (do bindName X.env n .none; unbindBehindTheSuite X.env n pos) (fun _ s2 => wpAny (model X.prog X.w) A' (PySem.passOn what (.ref a) X.env : Sem Flow) (fun _ _ => False) RE s2) E1 { s with heap := g1 } := by
    intro g1 held up1
    obtain ⟨m, hn, hlk⟩ := I.loc
    have up' := up.trans up1
    have hn1 : g1.Ns X.env.locals m := hn.upToSlots up'
    have plain : (X.env.scope.kind == .class || (X.env.scope.kind == .module && X.env.locals != X.env.globals)) = false := by rw [I.ok.kind]; rfl
    refine wpAny_nameGoes_keeps (s := { s with heap := g1 }) hln hn1 plain fun g2 v hn2 sb => ?_
    have inL : X.env.locals ∈ frs (X.env :: X.outer) := List.mem_filterMap.mpr ⟨X.env, List.mem_cons_self, hf⟩
    obtain ⟨k1, k2, k3, oe, vs, T, oT, ts, q1, q2, q3, q4, q5, q6, q7, q8, q9⟩ := held
    have noL : B.get? X.env.locals = none := (k3.mem inL).1
    obtain ⟨oL, esL, epL, zL, dL, _⟩ := hn1
    have aL : a ≠ X.env.locals := fun z => by rw [z, zL] at q1; cases q1; rw [dL] at q3; cases q3
    have tL : T ≠ X.env.locals := fun z => by rw [z, zL] at q7; cases q7; rw [dL] at q8; cases q8
    have held2 : HandSPX.HeldZ B (X.env :: X.outer) a (Zc cls d) X.env.locals g2 := ⟨fun b o e => (sb.2 b fun z => by rw [z, noL] at e; cases e).trans (k1 b o e), k2, Heap.FunFrames.sameBut sb hn2 k3, oe, vs, T, oT, ts, (sb.2 a aL).trans q1, q2, q3, q4, q5, q6, (sb.2 T tL).trans q7, q8, q9⟩
    unfold PySem.passOn
    refine wpAny_bind (wpAny_field ((sb.2 a aL).trans q1) q3 q4 ?_)
    rw [if_neg (show ¬ ((Value.ref T == Value.none) = true) by simp), hf]
    have fin : wpAny (model X.prog X.w) A' (setFlight (.ref a) (some X.env.locals)) (fun _ s4 => wpAny (model X.prog X.w) A' (throw (.ref a) : Sem Flow) (fun _ _ => False) RE s4) RE { s with heap := g2, toks := s.toks + 1 } := by
      refine HandSPX.setFlight_onZ held2 fun g3 held3 up3 => wpAny_throw (hR _ _ (tk _ _ ?_))
      have inS : X.env.locals ∈ frs X.stack := by rw [hs]; exact inL
      have frm : ∀ b ∈ frs X.stack, b ≠ X.env.locals → ∀ o, sI.heap.get? b = some o → ∃ sl, g3.get? b = some { o with slots := sl } := fun b hb hne o e => by
        obtain ⟨_, o', e', nf⟩ := I.stack.mem hb
        rw [e] at e'
        cases e'
        obtain ⟨s1, z1⟩ := up' b o e nf
        obtain ⟨s2, z2⟩ := up3 b _ ((sb.2 b hne).trans z1) nf
        exact ⟨s2, z2⟩
      have hn3 : g3.Ns X.env.locals (fun y => if y = n then v else m y) := hn2.upToSlots up3
      obtain ⟨G, gO, IG⟩ := name_gone (gs := s.gens) (dr := s.drawn) (tk := s.toks) I hs hf hN hi nb held3.1 frm hlk hn3 ag
      refine ⟨a, B, _, pins, σ.set i none, H, cls, d, rfl, IG, fun b o e hb => ?_, Heap.UpToSlots.of_keeps fun b o e => (gO b o e).1, .inr (.inr (by rw [hs]; exact held3)), na, hos, ag, w⟩
      obtain ⟨z1, z2⟩ := gO b o e
      rcases z2 with z2 | z2
      · obtain ⟨o', z3⟩ := Option.isSome_iff_exists.mp z2
        have z4 := held3.1 b o' z3
        rw [z1] at z4
        cases z4
        exact z3
      · exact absurd z2 hb
    first
      | exact wpAny_bind (wpAny_pure (wpAny_bind fin))
      | exact wpAny_bind fin
  rcases sky with ⟨hB, hn, hl, oe, vs, he, hz, hd, h1⟩ | fl | hh
  · exact HandSPX.look_newZ Zc.steady hfr hl hf he hB hn hd h1 hz go
  · exact HandSPX.looks_onZ Zc.steady hfr hf fl go
  · exact HandSPX.againZ hf hh.2.2.2 (go s.heap hh (Heap.UpToSlots.refl _))
end
section
variable {X : Cx} {x n : Str} {c : Value} {i : Nat} {body suite : List Stmt} {b₀ : Stmt} {np pos pos' : Pos} {tb : WX → TS} {ts : Addr → Value → Option Addr → TS} {Wout : WX}
theorem ps_try_asX (hs : X.stack = X.env :: X.outer) (hf : X.env.frame = some X.env.locals) (hN : X.N.Nodup) (hi : X.N[i]? = some n) (hln : X.env.kindOf n = some .local) (hc : Names X x c) (hpa : ∀ hd : Option Value, PassesOwnAt (model X.prog X.w) (X.A.mark hd) X.A X.env X.xe) (tk : L2.Takes X Wout)
    (hb : ∀ (W : WX) (pn : List (Addr × Obj)) (xe : Value → Shared → Prop), L2N.Takes (X.tr pn xe) W → PassesOwn (model X.prog X.w) X.A X.env xe → PSs (X.tr pn xe) body (tb W))
    (hsu : ∀ (a : Addr) (oe : Obj) (cls : Value) (d : Option Addr) (pn : List (Addr × Obj)) (xe : Value → Shared → Prop), L2N.Zn cls d oe → (∃ vs, oe.data = .fields vs) → L2.Takes ((suiteX X a ((a, oe) :: pn)).wish xe) (fun cls d σ H => Wout cls d (σ.set i none) H) → HotC ((suiteX X a ((a, oe) :: pn)).wish xe) →
      PSs ((suiteX X a ((a, oe) :: pn)).wish xe) (b₀ :: suite) (ts a cls d)) :
    PS X (.Try body [.ExceptHandler (some (.Name x np)) (some n) (b₀ :: suite) pos'] [] [] pos) (fun D σ H => tb (wAs X.K c i ts Wout D) D σ H) := by
  refine ⟨fun pins s σ H D I h => ?_⟩
  have ok := I.ok
  have frm : X.A.frames = some (X.env :: X.outer) := by rw [ok.frames, hs]
  refine wpAny_Try_except ?_
  have start := (hb (wAs X.K c i ts Wout D) (X.pn ++ pins) (fun e s₁ => wpAny (model X.prog X.w) X.A (noteFrame e X.env) (fun _ s₂ => wpAny (model X.prog X.w) X.A (setFlight e none) (fun _ s₃ =>
    wpAny (model X.prog X.w) X.A (handleBy e X.env [.ExceptHandler (some (.Name x np)) (some n) (b₀ :: suite) pos']) (SP X pins D) X.xe s₃) X.xe s₂) X.xe s₁) (fun u t1 air => ?_) PassesOwn.looking).run [] s σ H D (I.toTry _) h
  · refine wpAny_mono start (fun fl t1 sp => ?_) fun _ _ z => z
    cases fl with
    | next => obtain ⟨τ, G, J, q⟩ := sp; exact wpAny_execs_nil ⟨τ, G, J.ofTry ok, q⟩
    | brk => obtain ⟨τ, G, J, q⟩ := sp; exact ⟨τ, G, J.ofTry ok, q⟩
    | cont => obtain ⟨τ, G, J, q⟩ := sp; exact ⟨τ, G, J.ofTry ok, q⟩
    | ret v => obtain ⟨y, τ, G, J, r, q⟩ := sp; exact ⟨y, τ, G, J.ofTry ok, r, q⟩
  · obtain ⟨a, B, sI, pn0, τ, G, cls, d, eu, J0, nb, up, sky, na, hos, ag, b, named, yes, no⟩ := air
    subst eu
    have J : Inv X pins τ G sI := J0.ofTry ok
    have sky1 : Sky B (X.env :: X.outer) a (L2N.Zn cls d) X.env.locals t1.heap := by rw [← hs]; exact sky
    show wpAny (model X.prog X.w) X.A (noteFrame (.ref a) X.env) _ _ t1
    refine L2N.Sky.land L2N.Zn.steady frm hf sky1 fun g1 fl1 up1 => ?_
    have J1 : Inv X pins τ G { t1 with heap := g1 } := J.landed nb fl1.1 (up.trans up1) hos ag
    obtain ⟨o1, v1, e1, z1, d1⟩ := fl1.there
    have apart : a ∉ frs (X.env :: X.outer) := fun hm => by
      obtain ⟨_, o', e', nf⟩ := fl1.2.2.1.mem hm
      rw [e1] at e'
      cases e'
      exact nf _ d1
    have nL : a ≠ X.env.locals := fun z => apart (List.mem_filterMap.mpr ⟨X.env, List.mem_cons_self, by rw [hf, z]⟩)
    have nF : a ∉ X.fs := fun hm => by
      obtain ⟨y, hy, q⟩ := List.mem_filterMap.mp hm
      exact apart (List.mem_filterMap.mpr ⟨y, List.mem_cons_of_mem _ hy, q⟩)
    have S1 := J1.suite e1 d1 na nL nF
    refine wpAny_handleBy_cons (codeAny_handlers_test ?_) (by intro q; cases q)
    have Lt : PySem.W.Looks (model X.prog X.w) g1 (typeOf (.ref a)) cls := fun A Q E s k q => wpAny_typeOf_ref (k _ _ e1) (by rw [z1.1]; exact q)
    have Lm := PySem.W.exm_one (M := model X.prog X.w) J1.kIn Lt named
    have look : ∀ {Q : Value → Shared → Prop} {E : Value → Shared → Prop}, Q c { t1 with heap := g1 } → wpAny (model X.prog X.w) (X.A.mark (some (.ref a))) (eval (.Name x np) X.env) Q E { t1 with heap := g1 } := by
      intro Q E q
      obtain ⟨hg, hdb, hm | ⟨hm, hv, hnn⟩⟩ := hc
      · exact ld_glob (X := X.suite a ((a, o1) :: (X.pn ++ pins))) S1 hg hm q hdb
      · exact ld_blt (X := X.suite a ((a, o1) :: (X.pn ++ pins))) S1 hg hm hv q hnn hdb
    refine look (Lm.here ?_)
    cases b with
    | true =>
      refine codeAny_handlers_suite_as ?_
      refine HandSPX.lands_againZ fl1 fun g2 fl2 up2 => ?_
      have J2 : Inv X pins τ G { t1 with heap := g2 } := J.landed nb fl2.1 ((up.trans up1).trans up2) hos ag
      obtain ⟨o2, v2, e2, z2, d2⟩ := fl2.there
      have S2 := J2.suite e2 d2 na nL nF
      refine store_ok (X := X.suite a ((a, o2) :: (X.pn ++ pins))) (v := .ref a) S2 hN hi (.inl hln) rfl (fun t2 S3 => ?_) (.inr hln)
      have frm' : (X.A.mark (some (.ref a))).frames = some (X.env :: X.outer) := frm
      have hot : ∀ xe : Value → Shared → Prop, HotC ((suiteX X a ((a, o2) :: (X.pn ++ pins))).wish xe) := fun xe => ⟨(a, o2), ⟨rfl, v2, d2, z2.2.2 v2 d2⟩, List.mem_cons_self⟩
      have run := fun (xe : Value → Shared → Prop) (tkx : L2.Takes ((suiteX X a ((a, o2) :: (X.pn ++ pins))).wish xe) fun cls d σ H => Wout cls d (σ.set i none) H) => (hsu a o2 cls d (X.pn ++ pins) xe z2 ⟨_, d2⟩ tkx (hot xe)).run [] t2 _ G _ ((suiteX_of S3).wish _) (yes rfl a na)
      refine wpAny_mono (run _ (fun u3 s3 air3 => ?_)) (fun fl t3 sp => ?_) fun _ _ z => z
      rotate_left
      · skip
        have last : ∀ {τ3 : L2.St} {G3 : Hp} {Q : Shared → Prop}, Inv (suiteX X a ((a, o2) :: (X.pn ++ pins))) [] τ3 G3 t3 → (∀ t4, Inv X pins (τ3.set i none) G3 t4 → Q t4) →
            wpAny (model X.prog X.w) X.A (do bindName X.env n .none; unbindBehindTheSuite X.env n pos') (fun _ t4 => Q t4) X.xe t3 := fun {τ3 G3 Q} S4 hq => gone_ok (unsuiteX S4 ok) hN hi hln hq
        cases fl with
        | next => obtain ⟨τ3, G3, S4, q⟩ := sp; exact last S4.unwish fun t4 J4 => ⟨_, _, J4, q⟩
        | brk => obtain ⟨τ3, G3, S4, q⟩ := sp; exact last S4.unwish fun t4 J4 => ⟨_, _, J4, q⟩
        | cont => obtain ⟨τ3, G3, S4, q⟩ := sp; exact last S4.unwish fun t4 J4 => ⟨_, _, J4, q⟩
        | ret v => obtain ⟨y, τ3, G3, S4, r, q⟩ := sp; exact last S4.unwish fun t4 J4 => ⟨_, _, _, J4, r, q⟩
      · obtain ⟨a3, B3, sI3, pn3, τ3, G3, cls3, d3, eu3, I3, nb3, up3, sky3, na3, os3, ag3, w3⟩ := air3
        exact suite_air hs hf hN hi hln frm' tk (fun e s' z => hpa (some (.ref a)) e s' z) ⟨a3, B3, sI3, τ3, G3, cls3, d3, eu3, unsuiteX I3.unwish ok, nb3, up3, sky3, na3, os3, ag3, w3⟩
    | false =>
      show wpAny _ X.A (handleBy (.ref a) X.env []) _ _ _
      refine wpAny_handleBy_nil ?_
      have fly : HandSPX.FlyingZ B (X.env :: X.outer) a (Zc cls d) g1 := flyingZ_imp (fun o z => z.zc) fl1
      obtain ⟨k1, k2, k3, oe, vs, T, oT, ts', he, hz, hd, h1, hr⟩ := id fly
      unfold PySem.passOn
      refine wpAny_bind (wpAny_field he hd h1 ?_)
      rw [if_neg (show ¬ ((Value.ref T == Value.none) = true) by simp)]
      have up4 : wpAny (model X.prog X.w) X.A (setFlight (.ref a) X.env.frame) (fun _ s4 => wpAny (model X.prog X.w) X.A (throw (.ref a) : Sem Flow) (SP X pins D) X.xe s4) X.xe { t1 with heap := g1 } := by
        rw [hf]
        refine HandSPX.setFlight_upZ fly fun g4 held4 up4 => wpAny_throw (tk _ _ ?_)
        exact ⟨a, B, sI, pins, τ, G, cls, d, rfl, J, nb, (up.trans up1).trans up4, .inr (.inr (by rw [hs]; exact held4)), na, hos, ag, no rfl⟩
      first
        | exact wpAny_bind (wpAny_pure (wpAny_bind up4))
        | exact wpAny_bind up4
end
end DS
set_option Elab.async false
set_option linter.all false
set_option maxRecDepth 100000
set_option maxHeartbeats 4000000
namespace DS
open PySem L2 PySem.NumText
abbrev sIsStr : Stmt := top 6
abbrev sParts : Stmt := top 7
abbrev sIsTree : Stmt := top 8
abbrev sKV : Stmt := top 12
abbrev sIsVal : Stmt := top 13
abbrev sIsWord : Stmt := top 23
abbrev sOneOf : Stmt := top 24
abbrev sPlain : Stmt := top 25
abbrev sIsTup : Stmt := top 27
/-- further built-in names that the text does not bind -/
structure Bn7 (mg : Str → Option Value) : Prop extends Bn mg where
  all : mg "all" = none
  sum : mg "sum" = none
  zip : mg "zip" = none
  enu : mg "enumerate" = none
  dict : mg "dict" = none
/-! ### data of short texts -/
mutual
def short : PyData → Prop
  | .str x => x.cps.toList.length ≤ 1000
  | .tuple ds => shortAll ds ∧ ds.length ≤ 10000
  | _ => True
def shortAll : List PyData → Prop
  | [] => True
  | d :: ds => short d ∧ shortAll ds
end
def isiB (T : String) (d : PyData) : Bool := (kitB (tyN d) T).getD false
theorem kit_str (d : PyData) : kitB (tyN d) "str" = some (isiB "str" d) := by cases d <;> (simp only [tyN, isiB]; decide +kernel)
theorem kit_tup (d : PyData) : kitB (tyN d) "tuple" = some (isiB "tuple" d) := by cases d <;> (simp only [tyN, isiB]; decide +kernel)
theorem kit_bool (d : PyData) : kitB (tyN d) "bool" = some (isiB "bool" d) := by cases d <;> (simp only [tyN, isiB]; decide +kernel)
theorem kit_int (d : PyData) : kitB (tyN d) "int" = some (isiB "int" d) := by cases d <;> (simp only [tyN, isiB]; decide +kernel)
theorem b_str_str (x : Str) : isiB "str" (.str x) = true := by simp only [isiB, tyN]; decide +kernel
theorem b_tup_tup (ds : List PyData) : isiB "tuple" (.tuple ds) = true := by simp only [isiB, tyN]; decide +kernel
theorem b_bool_bool (b : Bool) : isiB "bool" (.bool b) = true := by simp only [isiB, tyN]; decide +kernel
theorem b_int_int (i : Int) : isiB "int" (.int i) = true := by simp only [isiB, tyN]; decide +kernel
theorem b_bool_int (b : Bool) : isiB "int" (.bool b) = true := by simp only [isiB, tyN]; decide +kernel
theorem b_int_bool (i : Int) : isiB "bool" (.int i) = false := by simp only [isiB, tyN]; decide +kernel
theorem isi_str {d : PyData} : isiB "str" d = true ↔ ∃ x, d = .str x := by
  cases d <;> simp only [isiB, tyN] <;> first | (exact ⟨fun _ => ⟨_, rfl⟩, fun _ => by decide +kernel⟩) | (exact ⟨fun h => absurd h (by decide +kernel), fun ⟨x, h⟩ => by cases h⟩)
theorem isi_tup {d : PyData} : isiB "tuple" d = true ↔ ∃ x, d = .tuple x := by
  cases d <;> simp only [isiB, tyN] <;> first | (exact ⟨fun _ => ⟨_, rfl⟩, fun _ => by decide +kernel⟩) | (exact ⟨fun h => absurd h (by decide +kernel), fun ⟨x, h⟩ => by cases h⟩)
theorem boot_all : bootBuiltins "all" = some (.builtin "all") := by decide +kernel
theorem boot_sum' : bootBuiltins "sum" = some (.builtin "sum") := by decide +kernel
theorem ifT {b : Bool} {p q : Prop} (h : b = true) (x : p) : if b = true then p else q := by rw [if_pos h]; exact x
theorem ifF {b : Bool} {p q : Prop} (h : b = false) (x : q) : if b = true then p else q := by rw [h]; exact x
theorem kit2 {K : PySem.W.Frag} {a b c : String} {x y : Bool} (h1 : kitB a b = some x) (h2 : kitB a c = some y) : PySem.W.kitAny K (.type a) [.type b, .type c] = some (x || y) := by
  simp only [PySem.W.kitAny, kit_ty h1, kit_ty h2]
  cases x <;> cases y <;> rfl
/-- the signs of a text, each asked -/
def askL (z : Cs) (l : Cs) : List Bool := l.map fun c => decide (c ∈ z)
theorem askL_all {z l : Cs} : (askL z l).all id = l.all fun c => decide (c ∈ z) := by simp [askL, List.all_map, Function.comp_def]
section
variable {P : Program} {w : World} {K : PySem.W.Frag} {mg : Str → Option Value} {base : Heap}
theorem scIsStr : FnScope ["value", "sign"] ["value"] (defScope sIsStr) := ⟨rfl, rfl, rfl, by decide +kernel, rfl, by decide +kernel, by decide +kernel⟩
/-- a promise of a def over one datum, that hands back a value -/
def spD (K : PySem.W.Frag) (ok : PyData → Prop) (f : PyData → V) : Sp := fun vs H Q _ => ∃ v t, vs = [v] ∧ Dp K H v t ∧ good t ∧ short t ∧ ok t ∧ ∀ H', Same H H' → Q (f t) H'
theorem ok_isStr {f : Addr} {fd : FuncData} {k : Nat} (B : Bn7 mg) (mS : ∃ t, mg "SIGNS" = some (.str (S sgnList) t)) (F : Fun K "is_string" "is_string" sIsStr f fd) : FnOk P w K mg base CX0 (k + 1) f fd ["value"] (spD K (fun _ => True) fun t => .bl (isiB "str" t)) := by
  refine F.ok scIsStr (fun vs H Q E h => ?_) (fun cdv A outer s H vs Q E hr h => ?_)
  · obtain ⟨v, t, rfl, _⟩ := h
    rfl
  · obtain ⟨v, t, rfl, hd, hg, hs, _, q⟩ := h
    obtain ⟨tS, mS⟩ := mS
    have q : ∀ H', Same H H' → Q (.bl (isiB "str" t)) H' := q
    refine ⟨_, pss_one (ps_ret (pe_and (pe_callB call_isi (by rfl) B.isi boot_isi (pa_cons (pv 0) (pa_cons (pe_bltn (v := .ty "str") (by rfl) B.str PyProof.Rows.boot_str rfl) pa_nil)))
      (pe_one (pe_callB (cr_all rfl) (by rfl) B.all boot_all (pa_cons (pe_lc (own := [("sign", 1)]) (g := gName 1) (tt := tYes) rfl scIsStr.nd (pi_str (pv 0)) (blkOk_by (N := ["value", "sign"]) (sc := defScope sIsStr) (by decide +kernel))
        (fun _ _ _ _ _ => pg_name (i := 1) scIsStr.nd rfl (Or.inl rfl)) (fun _ _ _ _ _ => pts_nil)
        (fun _ _ _ _ _ => pe_cmpR op_in_sign (pv 1) (pe_glob (v := .str (S sgnList)) rfl mS ⟨_, rfl⟩) (by rfl))) pa_nil))))), ?_⟩
    have hty := dp_ty hg hd
    refine ⟨_, rfl, _, _, _, _, _, rfl, .ty _, hty, kit_ty (kit_str t), _, rfl, ?_⟩
    cases e : isiB "str" t with
    | false => exact iteF (by have := q H (Same.refl _); rw [e] at this; exact this)
    | true =>
      refine iteT ?_
      obtain ⟨x, rfl⟩ := isi_str.mp e
      cases hd
      have hs' : x.cps.toList.length ≤ 1000 := by simpa [short] using hs
      refine ⟨_, rfl, x, rfl, fun D hD => ?_⟩
      refine lc_it (walk_str (z := x)) (fun i H' => Same H H' ∧ H' D = some (.lst ((askL sgnList (x.cps.toList.take i)).map V.bl))) ⟨same_new hD _, by rw [upd_same]; rfl⟩ (fun _ _ _ _ => trivial) ?_ ?_
      · rintro i y H1 H2 hi ⟨sm, hd⟩ ⟨rfl, c, hc, rfl⟩
        have ec : x.cps.toList[i]? = some c := by rw [Array.getElem?_toList]; exact hc
        refine ⟨rfl, _, rfl, c, _, rfl, rfl, _, hd, small' (by rw [List.length_map]; unfold askL; rw [List.length_map, List.length_take]; omega), same_put sm hD _, ?_⟩
        rw [upd_same, List.take_add_one, ec, S_cps]
        simp [askL]
      · rintro H1 ⟨sm, hd⟩
        have el : x.cps.size = x.cps.toList.length := by simp
        rw [el, List.take_length] at hd
        refine ⟨D, askL sgnList x.cps.toList, rfl, SqL.of hd, ?_⟩
        have ha : (askL sgnList x.cps.toList).all id = true := by
          rw [askL_all, List.all_eq_true]
          intro c hc
          exact decide_eq_true ((by simpa [good] using hg : ∀ c ∈ x.cps.toList, c ∈ sgnList) c hc)
        rw [ha]
        have := q H1 sm
        rw [e] at this
        exact this
/-! ### parts_of -/
theorem scParts : FnScope ["value", "depth", "counts", "part"] ["value", "depth"] (defScope sParts) := ⟨rfl, rfl, rfl, by decide +kernel, rfl, by decide +kernel, by decide +kernel⟩
def spParts (K : PySem.W.Frag) (n : Nat) : Sp := fun vs H Q _ => ∃ v t d, vs = [v, .int ((d : Nat) : Int)] ∧ d ≤ n ∧ Dp K H v t ∧ good t ∧ short t ∧ hgt t ≤ d ∧ ∀ H', Same H H' → Q (.int (cnt t : Nat)) H'
theorem short_get : ∀ {ds : List PyData} {i : Nat} {d : PyData}, shortAll ds → ds[i]? = some d → short d
  | [], _, _, _, h => by simp at h
  | d :: ds, 0, e, g, h => by simp only [shortAll] at g; simp at h; subst h; exact g.1
  | d :: ds, i + 1, e, g, h => by simp only [shortAll] at g; exact short_get g.2 (by simpa using h)
theorem cnt_sum : ∀ ds : List PyData, (ds.map fun d => ((cnt d : Nat) : Int)).sum = ((cntAll ds : Nat) : Int)
  | [] => rfl
  | d :: ds => by simp only [List.map_cons, List.sum_cons, cnt_sum ds, cntAll]; omega
theorem parts_step {f fS : Addr} {fd fdS : FuncData} {n : Nat} (B : Bn7 mg) (mS : ∃ t, mg "SIGNS" = some (.str (S sgnList) t)) (F : Fun K "parts_of" "parts_of" sParts f fd) (mF : mg "parts_of" = some (.ref f)) (bF : Binds K fd ["value", "depth"] [])
    (FS : Fun K "is_string" "is_string" sIsStr fS fdS) (mI : mg "is_string" = some (.ref fS)) (bS : Binds K fdS ["value"] [])
    (G : FnOk P w K mg base CX0 (n + 2) f fd ["value", "depth"] (spParts K n)) : FnOk P w K mg base CX0 (n + 3) f fd ["value", "depth"] (spParts K (n + 1)) := by
  have GS : FnOk P w K mg base CX0 1 fS fdS ["value"] (spD K (fun _ => True) fun t => .bl (isiB "str" t)) := ok_isStr (k := 0) B mS FS
  refine F.ok scParts (fun vs H Q E h => ?_) (fun cdv A outer s H vs Q E hr h => ?_)
  · obtain ⟨v, t, d, rfl, _⟩ := h
    rfl
  · obtain ⟨v, t, d, rfl, hdn, hd, hg, hs, hh, q⟩ := h
    have hu : (A.deeper (PyProof.Rows.envOfC "parts_of" (defScope sParts) s.heap.objs.size f cdv)).units + 64 < cLine := hr.units
    have hp := hgt_pos t
    refine ⟨_, pss_cons (ps_if (pt_cmpR op_eq (pv 1) pe_int (nomark _)) (pss_one (ps_ret pe_non)) pss_nil)
      (pss_cons (ps_if (PW.pt (pw_or (pt_cmp (pc_isN (pv 0))) (pw_or1 (pt_val (pe_callB call_isiT (by rfl) B.isi boot_isi (pa_cons (pv 0) (pa_cons (pe_tup (pa_cons (pe_bltn (v := .ty "bool") (by rfl) B.bl PyProof.Rows.boot_bool rfl) (pa_cons (pe_bltn (v := .ty "int") (by rfl) B.int PyProof.Rows.boot_int rfl) pa_nil))) pa_nil))))))) (pss_one (ps_ret pe_int)) pss_nil)
      (pss_cons (ps_if (pt_val (pe_callB call_isi (by rfl) B.isi boot_isi (pa_cons (pv 0) (pa_cons (pe_bltn (v := .ty "str") (by rfl) B.str PyProof.Rows.boot_str rfl) pa_nil)))) (pss_one (ps_ret (pe_ifExp (pt_val (pe_call GS (hr.mono (by omega)) rfl mI FS.kp bS .nil pass0 (pa_cons (pv 0) pa_nil))) pe_int pe_non))) pss_nil)
      (pss_cons (ps_if (pt_not (pt_val (pe_callB call_isi (by rfl) B.isi boot_isi (pa_cons (pv 0) (pa_cons (pe_bltn (v := .ty "tuple") (by rfl) B.tup PyProof.Rows.boot_tuple rfl) pa_nil))))) (pss_one (ps_ret pe_non)) pss_nil)
      (pss_cons (ps_setLc (i := 2) (own := [("part", 3)]) (g := gName 3) (tt := tYes) rfl scParts.nd rfl rfl (sw_true rfl rfl rfl (by decide +kernel)) (pi_tup (pv 0)) (blkOk_by (N := ["value", "depth", "counts", "part"]) (sc := defScope sParts) (by decide +kernel))
        (fun _ _ _ _ _ => pg_name (i := 3) scParts.nd rfl (Or.inl rfl)) (fun _ _ _ _ _ => pts_nil)
        (fun _ _ _ _ _ => pe_call G hr rfl mF F.kp bF .nil pass0 (pa_cons (pv 3) (pa_cons (pe_op op_sub (pv 1) pe_int) pa_nil))))
      (pss_one (ps_ret (pe_ifExp (pt_cmpR (show OpR _ (compareOp .In) (rIn K false) from op_in_seq) pe_non (pv 2) (by rfl)) pe_non (pe_op op_add pe_int (pe_callB (cr_sum rfl) (by rfl) B.sum boot_sum' (pa_cons (pv 2) pa_nil)))))))))), ?_⟩
    have hty := dp_ty hg hd
    have d0 : ¬ (V.int ((d : Nat) : Int) = V.int 0) := fun z => by injection z with z; omega
    refine ⟨_, rfl, rfl, _, rfl, ?_⟩
    rw [decide_eq_false d0]
    refine iteF ?_
    have one : ∀ {H' : Hp}, cnt t = 1 → Same H H' → Q (.int 1) H' := fun {H'} e sm => by have := q H' sm; rw [e] at this; exact this
    have pair : ∀ {H' : Hp} {tp : Addr} {b : Bool}, PySem.W.kitAny K (.type (tyN t)) [.type "bool", .type "int"] = some b → True := fun _ => trivial
    cases t with
    | none =>
      cases hd
      exact ⟨_, rfl, _, rfl, iteT (iteT (one rfl (Same.refl _)))⟩
    | bool b =>
      cases hd
      refine ⟨_, rfl, _, rfl, iteF ?_⟩
      refine ⟨_, rfl, by show 2 ≤ sizeLine; decide, fun tp htp => ?_⟩
      refine ⟨_, tp, _, _, _, true, rfl, upd_same, .cons (.ty _) (.cons (.ty _) .nil), .base (.bl b), kit2 (x := true) (y := true) (by decide +kernel) (by decide +kernel), _, rfl, iteT (one rfl (same_new htp _))⟩
    | int i =>
      cases hd
      refine ⟨_, rfl, _, rfl, iteF ?_⟩
      refine ⟨_, rfl, by show 2 ≤ sizeLine; decide, fun tp htp => ?_⟩
      refine ⟨_, tp, _, _, _, true, rfl, upd_same, .cons (.ty _) (.cons (.ty _) .nil), .base (.int i), kit2 (x := false) (y := true) (by decide +kernel) (by decide +kernel), _, rfl, iteT (one rfl (same_new htp _))⟩
    | str x =>
      cases hd
      refine ⟨_, rfl, _, rfl, iteF ?_⟩
      refine ⟨_, rfl, by show 2 ≤ sizeLine; decide, fun tp htp => ?_⟩
      refine ⟨_, tp, _, _, _, false, rfl, upd_same, .cons (.ty _) (.cons (.ty _) .nil), .base (.str x), kit2 (x := false) (y := false) (by decide +kernel) (by decide +kernel), _, rfl, iteF ?_⟩
      refine ⟨_, rfl, _, _, _, _, true, rfl, .ty _, .base (.str x), kit_ty k_str_str, _, rfl, iteT ?_⟩
      refine ⟨_, rfl, _, .str x, rfl, .str x, hg, hs, trivial, fun H1 sm => ?_⟩
      exact ⟨_, rfl, ifT (b_str_str x) (one rfl ((same_new htp _).trans sm))⟩
    | tuple ds =>
      cases hd with
      | @tup a xs _ hsq ha =>
      have hga : goodAll ds := by simpa [good] using hg
      have hsa : shortAll ds ∧ ds.length ≤ 10000 := by simpa [short] using hs
      have hL := dp_len ha
      simp only [hgt] at hh
      refine ⟨_, rfl, _, rfl, iteF ?_⟩
      refine ⟨_, rfl, by show 2 ≤ sizeLine; decide, fun tp htp => ?_⟩
      have s0 := same_new htp (.tup [.ty "bool", .ty "int"])
      have sq0 := sqT_same s0 hsq
      refine ⟨_, tp, _, _, _, false, rfl, upd_same, .cons (.ty _) (.cons (.ty _) .nil), ty_sqT sq0, kit2 (x := false) (y := false) (by decide +kernel) (by decide +kernel), _, rfl, iteF ?_⟩
      refine ⟨_, rfl, _, _, _, _, false, rfl, .ty _, ty_sqT sq0, kit_ty (by decide +kernel), _, rfl, iteF ?_⟩
      refine ⟨_, rfl, _, _, _, _, true, rfl, .ty _, ty_sqT sq0, kit_ty k_tuple_tuple, _, rfl, iteF ?_⟩
      refine ⟨_, rfl, a, rfl, ⟨_, sq0⟩, fun D hD => ?_⟩
      refine lc_it (walk_tup (a := a) (xs := xs)) (fun i H' => Same H H' ∧ H' D = some (.lst ((ds.take i).map fun d => V.int ((cnt d : Nat) : Int)))) ⟨s0.trans (same_new hD _), by rw [upd_same]; rfl⟩ (fun i H' _ p => sqT_same p.1 hsq) ?_ ?_
      · rintro i x H1 H2 hi ⟨sm, hl⟩ ⟨rfl, hx⟩
        obtain ⟨d1, ed, dd⟩ := dp_get ha hx
        refine ⟨rfl, _, rfl, _, rfl, _, _, rfl, rfl, ?_⟩
        refine ⟨x, d1, d - 1, ?_, by omega, dp_same sm d1 x dd, good_get hga ed, short_get hsa.1 ed, by have := hgt_get ed; omega, fun H3 sm3 => ?_⟩
        · rw [show (((d - 1 : Nat)) : Int) = (d : Int) - 1 by omega]; rfl
        refine ⟨_, sm3 _ _ hl, small' (by rw [List.length_map, List.length_take]; omega), same_put (sm.trans sm3) (Same.free s0 hD) _, ?_⟩
        · rw [upd_same, List.take_add_one, ed]; simp
      · rintro H1 ⟨sm, hl⟩
        rw [hL, List.take_length] at hl
        have fl : (ds.map fun d => V.int ((cnt d : Nat) : Int)).all flatV = true := by simp [flatV]
        have ni : inV V.non (ds.map fun d => V.int ((cnt d : Nat) : Int)) = false := by simp [inV, eqV]
        refine ⟨_, rfl, D, _, rfl, .inl (SqL.of hl), rfl, fl, _, rfl, ?_⟩
        refine ifF ni ?_
        have em : (ds.map fun d => V.int ((cnt d : Nat) : Int)) = (ds.map fun d => ((cnt d : Nat) : Int)).map V.int := by simp
        rw [em] at hl
        refine ⟨_, rfl, D, _, rfl, SqL.of hl, _, _, rfl, rfl, ?_⟩
        rw [cnt_sum]
        have := q H1 sm
        simp only [cnt] at this
        rw [show (((1 + cntAll ds : Nat)) : Int) = 1 + (cntAll ds : Int) by omega] at this
        exact this
    | list ds => simp [good] at hg
    | dict ds => simp [good] at hg
end
end DS
set_option Elab.async false
set_option linter.all false
set_option maxRecDepth 100000
set_option maxHeartbeats 4000000
namespace DS
open PySem L2 PySem.NumText
/-- a def of the top that may be called by its name -/
structure Cal (P : Program) (w : World) (K : PySem.W.Frag) (mg : Str → Option Value) (bs : Heap) (CX : CXT) (k : Nat) (x : Str) (ps : List Str) (dvs : List V) (sp : Sp) : Prop where
  ex : ∃ (f : Addr) (fd : FuncData) (ds : List Value), mg x = some (.ref f) ∧ PySem.W.keepIn K (.ref f) = true ∧ Vals dvs ds ∧ Binds K fd ps ds ∧ FnOk P w K mg bs CX k f fd ps sp
/-- a kind, as a value -/
def kdV : Option Str → V
  | none => .non
  | some x => .str x
theorem kdV_inj {a b : Option Str} (h : kdV a = kdV b) : a = b := by
  cases a <;> cases b <;> simp_all [kdV]
section
variable {P : Program} {w : World} {K : PySem.W.Frag} {mg : Str → Option Value} {base : Heap}
theorem ok_parts {f fS : Addr} {fd fdS : FuncData} (B : Bn7 mg) (mS : ∃ t, mg "SIGNS" = some (.str (S sgnList) t)) (F : Fun K "parts_of" "parts_of" sParts f fd) (mF : mg "parts_of" = some (.ref f)) (bF : Binds K fd ["value", "depth"] [])
    (FS : Fun K "is_string" "is_string" sIsStr fS fdS) (mI : mg "is_string" = some (.ref fS)) (bS : Binds K fdS ["value"] []) : ∀ n : Nat, FnOk P w K mg base CX0 (n + 2) f fd ["value", "depth"] (spParts K n)
  | 0 => by
    have no : ∀ vs H Q E, ¬ spParts K 0 vs H Q E := fun vs H Q E h => by
      obtain ⟨v, t, d, _, h0, _, _, _, h1, _⟩ := h
      have := hgt_pos t
      omega
    exact ⟨fun vs H Q E h => absurd h (no vs H Q E), fun A outer s H args us vs Q E _ _ _ _ h => absurd h (no vs H Q E)⟩
  | n + 1 => parts_step B mS F mF bF FS mI bS (ok_parts B mS F mF bF FS mI bS n)
/-! ### is_tree -/
theorem scIsTree : FnScope ["value", "many"] ["value"] (defScope sIsTree) := ⟨rfl, rfl, rfl, by decide +kernel, rfl, by decide +kernel, by decide +kernel⟩
theorem ok_isTree {f : Addr} {fd : FuncData} {k : Nat} (m1 : ∃ t, mg "MAX_DEPTH" = some (.int 30 t)) (m2 : ∃ t, mg "MAX_PARTS" = some (.int 2000 t)) (D : Cal P w K mg base CX0 32 "parts_of" ["value", "depth"] [] (spParts K 30)) (F : Fun K "is_tree" "is_tree" sIsTree f fd) :
    FnOk P w K mg base CX0 (k + 33) f fd ["value"] (spD K (fun t => hgt t ≤ 30 ∧ cnt t ≤ 2000) fun _ => .bl true) := by
  obtain ⟨f1, fd1, ds1, e1, k1, v1, b1, G1⟩ := D.ex
  refine F.ok scIsTree (fun vs H Q E h => ?_) (fun cdv A outer s H vs Q E hr h => ?_)
  · obtain ⟨v, t, rfl, _⟩ := h
    rfl
  · obtain ⟨v, t, rfl, hd, hg, hs, ⟨hh, hc⟩, q⟩ := h
    obtain ⟨t1, m1⟩ := m1
    obtain ⟨t2, m2⟩ := m2
    refine ⟨_, pss_cons (ps_set (i := 1) scIsTree.nd rfl (Or.inl rfl) (pe_call G1 (hr.mono (by omega)) rfl e1 k1 b1 v1 pass0 (pa_cons (pv 0) (pa_cons (pe_glob (v := .int 30) rfl m1 ⟨_, rfl⟩) pa_nil))))
      (pss_one (ps_ret (pe_and (pe_cmp (pc_notN (pv 1))) (pe_one (pe_cmpR op_le (pv 1) (pe_glob (v := .int 2000) rfl m2 ⟨_, rfl⟩) (nomark _)))))), ?_⟩
    refine ⟨_, rfl, v, t, 30, rfl, by omega, hd, hg, hs, hh, fun H1 sm => ?_⟩
    refine ⟨_, rfl, _, rfl, iteT ⟨_, rfl, _, _, rfl, rfl, ?_⟩⟩
    have e : decide ((cnt t : Int) ≤ 2000) = true := decide_eq_true (by omega)
    show Q (.bl (decide ((cnt t : Int) ≤ 2000))) H1
    rw [e]
    exact q H1 sm
/-! ### kind_of_value, is_value -/
theorem scKV : FnScope ["value"] ["value"] (defScope sKV) := ⟨rfl, rfl, rfl, by decide +kernel, rfl, by decide +kernel, by decide +kernel⟩
theorem ok_kv {f : Addr} {fd : FuncData} {k : Nat} (B : Bn7 mg) (m1 : ∃ t, mg "GREATEST" = some (.int (10 ^ 30) t)) (m2 : ∃ t, mg "LONGEST" = some (.int 40 t)) (D : Cal P w K mg base CX0 1 "is_string" ["value"] [] (spD K (fun _ => True) fun t => .bl (isiB "str" t)))
    (F : Fun K "kind_of_value" "kind_of_value" sKV f fd) : FnOk P w K mg base CX0 (k + 2) f fd ["value"] (spD K (fun _ => True) fun t => kdV (kvM t)) := by
  obtain ⟨f1, fd1, ds1, e1, k1, v1, b1, G1⟩ := D.ex
  refine F.ok scKV (fun vs H Q E h => ?_) (fun cdv A outer s H vs Q E hr h => ?_)
  · obtain ⟨v, t, rfl, _⟩ := h
    rfl
  · obtain ⟨v, t, rfl, hd, hg, hs, _, q⟩ := h
    obtain ⟨t1, m1⟩ := m1
    obtain ⟨t2, m2⟩ := m2
    have q : ∀ H', Same H H' → Q (kdV (kvM t)) H' := q
    refine ⟨_, pss_cons (ps_if (pt_val (pe_callB call_isi (by rfl) B.isi boot_isi (pa_cons (pv 0) (pa_cons (pe_bltn (v := .ty "bool") (by rfl) B.bl PyProof.Rows.boot_bool rfl) pa_nil)))) (pss_one (ps_ret pe_str)) pss_nil)
      (pss_cons (ps_if (pt_val (pe_callB call_isi (by rfl) B.isi boot_isi (pa_cons (pv 0) (pa_cons (pe_bltn (v := .ty "int") (by rfl) B.int PyProof.Rows.boot_int rfl) pa_nil)))) (pss_one (ps_ret (pe_ifExp (pt_chain op_le op_le (pe_un un_neg (pe_glob (v := .int (10 ^ 30)) rfl m1 ⟨_, rfl⟩)) (pv 0) (pe_glob (v := .int (10 ^ 30)) rfl m1 ⟨_, rfl⟩)) pe_str pe_non))) pss_nil)
      (pss_one (ps_ret (pe_ifExp (PW.pt (pw_and (pt_val (pe_call G1 (hr.mono (by omega)) rfl e1 k1 b1 v1 pass0 (pa_cons (pv 0) pa_nil))) (pw_and1 (pt_cmpR op_le (pe_callB call_len_str (by rfl) B.len PySem.boot_len (pa_cons (pv 0) pa_nil)) (pe_glob (v := .int 40) rfl m2 ⟨_, rfl⟩) (nomark _))))) pe_str pe_non)))), ?_⟩
    have hty := dp_ty hg hd
    refine ⟨_, rfl, _, _, _, _, _, rfl, .ty _, hty, kit_ty (kit_bool t), _, rfl, ?_⟩
    cases t with
    | none =>
      cases hd
      refine ifF rfl ⟨_, rfl, _, _, _, _, _, rfl, .ty _, hty, kit_ty (kit_int .none), _, rfl, ifF rfl ?_⟩
      refine ⟨_, rfl, _, _, rfl, .non, hg, hs, trivial, fun H1 sm => ?_⟩
      refine ⟨_, rfl, ifF rfl ?_⟩
      exact q H1 sm
    | bool b => exact ifT rfl (q H (Same.refl _))
    | int i =>
      cases hd
      refine ifF rfl ⟨_, rfl, _, _, _, _, _, rfl, .ty _, hty, kit_ty (kit_int (.int i)), _, rfl, ifT rfl ?_⟩
      refine ⟨_, rfl, _, rfl, _, _, rfl, rfl, _, rfl, ?_⟩
      by_cases h1 : -(10 ^ 30 : Int) ≤ i
      · refine ifT (decide_eq_true h1) ⟨_, _, rfl, rfl, _, rfl, ?_⟩
        by_cases h2 : i ≤ (10 ^ 30 : Int)
        · refine ifT (decide_eq_true h2) ?_
          have := q H (Same.refl _)
          simp only [kvM, if_pos (And.intro h1 h2)] at this
          exact this
        · refine ifF (decide_eq_false h2) ?_
          have := q H (Same.refl _)
          simp only [kvM, if_neg (fun z : (-(10 ^ 30 : Int) ≤ i ∧ i ≤ (10 ^ 30 : Int)) => h2 z.2)] at this
          exact this
      · refine ifF (decide_eq_false h1) ?_
        refine ⟨_, rfl, iteF ?_⟩
        have := q H (Same.refl _)
        simp only [kvM, if_neg (fun z : (-(10 ^ 30 : Int) ≤ i ∧ i ≤ (10 ^ 30 : Int)) => h1 z.1)] at this
        exact this
    | str x =>
      cases hd
      refine ifF rfl ⟨_, rfl, _, _, _, _, _, rfl, .ty _, hty, kit_ty (kit_int (.str x)), _, rfl, ifF rfl ?_⟩
      refine ⟨_, rfl, _, _, rfl, .str x, hg, hs, trivial, fun H1 sm => ?_⟩
      refine ⟨_, rfl, ifT (b_str_str x) ?_⟩
      have hs' : x.cps.toList.length ≤ 1000 := by simpa [short] using hs
      have el : x.length = x.cps.toList.length := by simp [Str.length]
      refine ⟨_, rfl, _, rfl, by have := small' (n := x.length) (by omega); omega, _, _, rfl, rfl, _, rfl, ?_⟩
      by_cases h2 : x.cps.toList.length ≤ 40
      · refine ifT (decide_eq_true (by rw [el]; omega)) ?_
        have := q H1 sm
        simp only [kvM, if_pos h2] at this
        exact this
      · refine ifF (decide_eq_false (by rw [el]; omega)) ?_
        have := q H1 sm
        simp only [kvM, if_neg h2] at this
        exact this
    | tuple ds =>
      refine ifF rfl ⟨_, rfl, _, _, _, _, _, rfl, .ty _, hty, kit_ty (kit_int (.tuple ds)), _, rfl, ifF rfl ?_⟩
      refine ⟨_, rfl, _, _, rfl, hd, hg, hs, trivial, fun H1 sm => ?_⟩
      refine ⟨_, rfl, ifF rfl ?_⟩
      exact q H1 sm
    | list ds => simp [good] at hg
    | dict ds => simp [good] at hg
end
end DS
set_option Elab.async false
set_option linter.all false
set_option maxRecDepth 100000
set_option maxHeartbeats 4000000
namespace DS
open PySem L2 PySem.NumText
/-- a tuple that the top has written -/
def KSq (K : PySem.W.Frag) (a : Addr) (xs : List V) : Prop := ∃ (o : Obj) (its : Array Value) (n : Nat), K.lookup a = some o ∧ o.cls = .type "tuple" ∧ o.data = .seq its n ∧ its.size ≤ sizeLine ∧ Vals xs its.toList
theorem KSq.sq {K : PySem.W.Frag} {a : Addr} {xs : List V} (h : KSq K a xs) (H : Hp) : SqT K H a xs := .inr h
theorem flat_strs (l : List Str) : (l.map V.str).all flatV = true := by simp [flatV]
theorem in_strs (x : Str) (l : List Str) : inV (.str x) (l.map V.str) = decide (x ∈ l) := by
  induction l with
  | nil => rfl
  | cons y l ih =>
    show (eqV (.str y) (.str x) || inV (.str x) (l.map V.str)) = _
    rw [ih]
    show ((y == x) || decide (x ∈ l)) = decide (x ∈ y :: l)
    by_cases h : x = y
    · subst h; simp
    · have : (y == x) = false := beq_eq_false_iff_ne.mpr (fun e => h e.symm)
      rw [this]; simp [h]
section
variable {P : Program} {w : World} {K : PySem.W.Frag} {mg : Str → Option Value} {base : Heap}
/-! ### is_value -/
theorem scIsVal : FnScope ["value"] ["value"] (defScope sIsVal) := ⟨rfl, rfl, rfl, by decide +kernel, rfl, by decide +kernel, by decide +kernel⟩
theorem ok_isVal {f : Addr} {fd : FuncData} {k : Nat} (D : Cal P w K mg base CX0 2 "kind_of_value" ["value"] [] (spD K (fun _ => True) fun t => kdV (kvM t)))
    (F : Fun K "is_value" "is_value" sIsVal f fd) : FnOk P w K mg base CX0 (k + 3) f fd ["value"] (spD K (fun _ => True) fun t => .bl (isValM t)) := by
  obtain ⟨f1, fd1, ds1, e1, k1, v1, b1, G1⟩ := D.ex
  refine F.ok scIsVal (fun vs H Q E h => ?_) (fun cdv A outer s H vs Q E hr h => ?_)
  · obtain ⟨v, t, rfl, _⟩ := h
    rfl
  · obtain ⟨v, t, rfl, hd, hg, hs, _, q⟩ := h
    have q : ∀ H', Same H H' → Q (.bl (isValM t)) H' := q
    refine ⟨_, pss_one (ps_ret (pe_or (pe_cmp (pc_isN (pv 0))) (pe_one (pe_cmp (pc_notN (pe_call G1 (hr.mono (by omega)) rfl e1 k1 b1 v1 pass0 (pa_cons (pv 0) pa_nil))))))), ?_⟩
    refine ⟨_, rfl, _, rfl, ?_⟩
    by_cases hn : t = .none
    · subst hn
      cases hd
      exact iteT (q H (Same.refl _))
    · have hv : decide (v = V.non) = false := decide_eq_false fun e => by subst e; cases hd; exact hn rfl
      have ev : isValM t = (kvM t).isSome := by cases t <;> first | rfl | exact absurd rfl hn
      refine ifF hv ⟨_, rfl, v, t, rfl, hd, hg, hs, trivial, fun H1 sm => ?_⟩
      have := q H1 sm
      rw [ev] at this
      have e2 : (!decide (kdV (kvM t) = V.non)) = (kvM t).isSome := by cases kvM t <;> simp [kdV]
      show Q (.bl (!decide (kdV (kvM t) = V.non))) H1
      rw [e2]
      exact this
/-! ### is_word -/
theorem scIsWord : FnScope ["value", "letter"] ["value"] (defScope sIsWord) := ⟨rfl, rfl, rfl, by decide +kernel, rfl, by decide +kernel, by decide +kernel⟩
theorem ok_isWord {f : Addr} {fd : FuncData} {k : Nat} (B : Bn7 mg) (mL : ∃ t, mg "LETTERS" = some (.str (S lettersC) t)) (mM : ∃ t, mg "MOST_LETTERS" = some (.int 8 t)) (F : Fun K "is_word" "is_word" sIsWord f fd) :
    FnOk P w K mg base CX0 (k + 1) f fd ["value"] (spD K (fun _ => True) fun t => .bl (isWordM t)) := by
  refine F.ok scIsWord (fun vs H Q E h => ?_) (fun cdv A outer s H vs Q E hr h => ?_)
  · obtain ⟨v, t, rfl, _⟩ := h
    rfl
  · obtain ⟨v, t, rfl, hd, hg, hs, _, q⟩ := h
    obtain ⟨t1, mL⟩ := mL
    obtain ⟨t2, mM⟩ := mM
    have q : ∀ H', Same H H' → Q (.bl (isWordM t)) H' := q
    refine ⟨_, pss_cons (ps_if (PW.pt (pw_or (pt_not (pt_val (pe_callB call_isi (by rfl) B.isi boot_isi (pa_cons (pv 0) (pa_cons (pe_bltn (v := .ty "str") (by rfl) B.str PyProof.Rows.boot_str rfl) pa_nil)))))
        (pw_or1 (pt_not (pt_chain op_le op_le pe_int (pe_callB call_len_str (by rfl) B.len PySem.boot_len (pa_cons (pv 0) pa_nil)) (pe_glob (v := .int 8) rfl mM ⟨_, rfl⟩)))))) (pss_one (ps_ret pe_bl)) pss_nil)
      (pss_one (ps_ret (pe_callB (cr_all rfl) (by rfl) B.all boot_all (pa_cons (pe_lc (own := [("letter", 1)]) (g := gName 1) (tt := tYes) rfl scIsWord.nd (pi_str (pv 0)) (blkOk_by (N := ["value", "letter"]) (sc := defScope sIsWord) (by decide +kernel))
        (fun _ _ _ _ _ => pg_name (i := 1) scIsWord.nd rfl (Or.inl rfl)) (fun _ _ _ _ _ => pts_nil)
        (fun _ _ _ _ _ => pe_cmpR op_in_sign (pv 1) (pe_glob (v := .str (S lettersC)) rfl mL ⟨_, rfl⟩) (by rfl))) pa_nil)))), ?_⟩
    have hty := dp_ty hg hd
    refine ⟨_, rfl, _, _, _, _, _, rfl, .ty _, hty, kit_ty (kit_str t), _, rfl, ?_⟩
    cases e : isiB "str" t with
    | false =>
      refine iteT (iteT ?_)
      have := q H (Same.refl _)
      have ef : isWordM t = false := by
        cases t <;> first | rfl | (rw [b_str_str] at e; cases e)
      rw [ef] at this
      exact this
    | true =>
      refine iteF ?_
      obtain ⟨x, rfl⟩ := isi_str.mp e
      cases hd
      have hs' : x.cps.toList.length ≤ 1000 := by simpa [short] using hs
      have el : x.length = x.cps.toList.length := by simp [Str.length]
      have q : ∀ H', Same H H' → Q (.bl (isWordC x.cps.toList)) H' := q
      have small : x.length ≤ sizeLine := by have := small' (n := x.length) (by omega); omega
      have fin : ∀ {b : Bool} {H' : Hp}, Same H H' → isWordC x.cps.toList = b → Q (.bl b) H' := fun sm e => by have := q _ sm; rw [e] at this; exact this
      refine ⟨_, rfl, _, rfl, small, _, _, rfl, rfl, _, rfl, ?_⟩
      by_cases h1 : (1 : Int) ≤ (x.length : Int)
      · refine ifT (decide_eq_true h1) ⟨_, _, rfl, rfl, _, rfl, ?_⟩
        by_cases h2 : (x.length : Int) ≤ 8
        · rw [decide_eq_true h2]
          refine iteF ?_
          refine ⟨_, rfl, x, rfl, fun D hD => ?_⟩
          refine lc_it (walk_str (z := x)) (fun i H' => Same H H' ∧ H' D = some (.lst ((askL lettersC (x.cps.toList.take i)).map V.bl))) ⟨same_new hD _, by rw [upd_same]; rfl⟩ (fun _ _ _ _ => trivial) ?_ ?_
          · rintro i y H1 H2 hi ⟨sm, hd⟩ ⟨rfl, c, hc, rfl⟩
            have ec : x.cps.toList[i]? = some c := by rw [Array.getElem?_toList]; exact hc
            refine ⟨rfl, _, rfl, c, _, rfl, rfl, _, hd, small' (by rw [List.length_map]; unfold askL; rw [List.length_map, List.length_take]; omega), same_put sm hD _, ?_⟩
            rw [upd_same, List.take_add_one, ec, S_cps]
            simp [askL]
          · rintro H1 ⟨sm, hd⟩
            have ell : x.cps.size = x.cps.toList.length := by simp
            rw [ell, List.take_length] at hd
            refine ⟨D, askL lettersC x.cps.toList, rfl, SqL.of hd, ?_⟩
            refine fin sm ?_
            rw [askL_all]
            unfold isWordC
            rw [decide_eq_true (show 1 ≤ x.cps.toList.length ∧ x.cps.toList.length ≤ 8 by omega)]
            rfl
        · rw [decide_eq_false h2]
          exact iteT (fin (Same.refl _) (by unfold isWordC; rw [decide_eq_false (by omega)]; rfl))
      · refine ifF (decide_eq_false h1) ⟨_, rfl, iteT (fin (Same.refl _) (by unfold isWordC; rw [decide_eq_false (by omega)]; rfl))⟩
/-! ### is_one_of, is_plain -/
theorem scOneOf : FnScope ["value", "strings"] ["value", "strings"] (defScope sOneOf) := ⟨rfl, rfl, rfl, by decide +kernel, rfl, by decide +kernel, by decide +kernel⟩
def spOneOf (K : PySem.W.Frag) : Sp := fun vs H Q _ => ∃ v t a l, vs = [v, .ref a] ∧ Dp K H v t ∧ good t ∧ SqT K H a (l.map V.str) ∧ ∀ H', Same H H' → Q (.bl (oneOfM l t)) H'
theorem ok_oneOf {f : Addr} {fd : FuncData} {k : Nat} (B : Bn7 mg) (F : Fun K "is_one_of" "is_one_of" sOneOf f fd) : FnOk P w K mg base CX0 (k + 1) f fd ["value", "strings"] (spOneOf K) := by
  refine F.ok scOneOf (fun vs H Q E h => ?_) (fun cdv A outer s H vs Q E hr h => ?_)
  · obtain ⟨v, t, a, l, rfl, _⟩ := h
    rfl
  · obtain ⟨v, t, a, l, rfl, hd, hg, hsq, q⟩ := h
    refine ⟨_, pss_one (ps_ret (pe_and (pe_callB call_isi (by rfl) B.isi boot_isi (pa_cons (pv 0) (pa_cons (pe_bltn (v := .ty "str") (by rfl) B.str PyProof.Rows.boot_str rfl) pa_nil)))
      (pe_one (pe_cmpR (show OpR _ (compareOp .In) (rIn K false) from op_in_seq) (pv 0) (pv 1) (by rfl))))), ?_⟩
    have hty := dp_ty hg hd
    refine ⟨_, rfl, _, _, _, _, _, rfl, .ty _, hty, kit_ty (kit_str t), _, rfl, ?_⟩
    cases e : isiB "str" t with
    | false =>
      refine iteF ?_
      have := q H (Same.refl _)
      have ef : oneOfM l t = false := by
        cases t <;> first | rfl | (rw [b_str_str] at e; cases e)
      rw [ef] at this
      exact this
    | true =>
      refine iteT ?_
      obtain ⟨x, rfl⟩ := isi_str.mp e
      cases hd
      refine ⟨_, rfl, _, rfl, _, _, rfl, .inr hsq, rfl, flat_strs l, ?_⟩
      show Q (.bl (inV (.str x) (l.map V.str))) H
      rw [in_strs]
      exact q H (Same.refl _)
theorem scPlain : FnScope ["value"] ["value"] (defScope sPlain) := ⟨rfl, rfl, rfl, by decide +kernel, rfl, by decide +kernel, by decide +kernel⟩
theorem ok_plain {f : Addr} {fd : FuncData} {k : Nat} (mK : ∃ a, mg "KINDS" = some (.ref a) ∧ KSq K a (kindsL.map V.str)) (D : Cal P w K mg base CX0 1 "is_one_of" ["value", "strings"] [] (spOneOf K)) (F : Fun K "is_plain" "is_plain" sPlain f fd) :
    FnOk P w K mg base CX0 (k + 2) f fd ["value"] (spD K (fun _ => True) fun t => .bl (oneOfM kindsL t)) := by
  obtain ⟨f1, fd1, ds1, e1, k1, v1, b1, G1⟩ := D.ex
  refine F.ok scPlain (fun vs H Q E h => ?_) (fun cdv A outer s H vs Q E hr h => ?_)
  · obtain ⟨v, t, rfl, _⟩ := h
    rfl
  · obtain ⟨v, t, rfl, hd, hg, hs, _, q⟩ := h
    obtain ⟨a, mK, hK⟩ := mK
    refine ⟨_, pss_one (ps_ret (pe_call G1 (hr.mono (by omega)) rfl e1 k1 b1 v1 pass0 (pa_cons (pv 0) (pa_cons (pe_glob (v := .ref a) rfl mK rfl) pa_nil)))), ?_⟩
    exact ⟨_, rfl, v, t, a, kindsL, rfl, hd, hg, hK.sq H, fun H1 sm => q H1 sm⟩
/-! ### is_tuple -/
theorem scIsTup : FnScope ["value", "size"] ["value", "size"] (defScope sIsTup) := ⟨rfl, rfl, rfl, by decide +kernel, rfl, by decide +kernel, by decide +kernel⟩
def spIsTup (K : PySem.W.Frag) : Sp := fun vs H Q _ => ∃ v t, vs = [v, .non] ∧ Dp K H v t ∧ good t ∧ ∀ H', Same H H' → Q (.bl (isTupM t)) H'
theorem ok_isTup {f : Addr} {fd : FuncData} {k : Nat} {dvs : List V} {kws : List (Str × V)} (B : Bn7 mg) (F : FunD K "is_tuple" "is_tuple" (defArgs sIsTup) (defBody sIsTup) (defScope sIsTup) dvs kws f fd) : FnOk P w K mg base CX0 (k + 1) f fd ["value", "size"] (spIsTup K) := by
  refine F.ok scIsTup (fun vs H Q E h => ?_) (fun cdv A outer s H vs Q E hr h => ?_)
  · obtain ⟨v, t, rfl, _⟩ := h
    rfl
  · obtain ⟨v, t, rfl, hd, hg, q⟩ := h
    refine ⟨_, pss_one (ps_ret (pe_and (pe_callB call_isi (by rfl) B.isi boot_isi (pa_cons (pv 0) (pa_cons (pe_bltn (v := .ty "tuple") (by rfl) B.tup PyProof.Rows.boot_tuple rfl) pa_nil)))
      (pe_one (pe_or (pe_cmp (pc_isN (pv 1))) (pe_one (pe_cmpR op_eq (pe_callB call_len_seq (by rfl) B.len PySem.boot_len (pa_cons (pv 0) pa_nil)) (pv 1) (nomark _))))))), ?_⟩
    have hty := dp_ty hg hd
    refine ⟨_, rfl, _, _, _, _, _, rfl, .ty _, hty, kit_ty (kit_tup t), _, rfl, ?_⟩
    have ef : isiB "tuple" t = isTupM t := by cases t <;> rfl
    rw [ef]
    have := q H (Same.refl _)
    cases e : isTupM t with
    | false =>
      rw [e] at this
      exact iteF this
    | true =>
      rw [e] at this
      exact iteT ⟨_, rfl, _, rfl, iteT this⟩
end
end DS
set_option Elab.async false
set_option linter.all false
set_option maxRecDepth 100000
set_option maxHeartbeats 4000000
namespace DS
open PySem L2 PySem.NumText
abbrev sHeaded : Stmt := top 29
abbrev sSimple : Stmt := top 31
abbrev sPart : Stmt := top 32
abbrev sForm : Stmt := top 35
abbrev sPartsIn : Stmt := top 36
abbrev sHead : Stmt := top 46
theorem sgn128 : ∀ c ∈ sgnList, c < 128 := by decide +kernel
mutual
theorem lay_good : ∀ t : PyData, good t → t.canLay0 = true
  | .none, _ => rfl
  | .bool _, _ => rfl
  | .int _, _ => rfl
  | .str x, h => by
    have h' : ∀ c ∈ x.cps.toList, c ∈ sgnList := by simpa [good] using h
    show PyData.strOk x = true
    unfold PyData.strOk
    rw [Array.all_eq_true']
    intro c hc
    have := sgn128 c (h' c (by simpa using hc))
    exact decide_eq_true (by omega)
  | .tuple xs, h => by
    simp only [PyData.canLay0]
    exact lay_goodAll xs (by simpa [good] using h)
  | .list _, h => by simp [good] at h
  | .dict _, h => by simp [good] at h
theorem lay_goodAll : ∀ ts : List PyData, goodAll ts → PyData.canLayAll0 ts = true
  | [], _ => rfl
  | t :: ts, h => by
    simp only [goodAll] at h
    simp only [PyData.canLayAll0, lay_good t h.1, lay_goodAll ts h.2, Bool.and_self]
end
mutual
theorem depth_hgt : ∀ t : PyData, good t → t.depth ≤ hgt t
  | .none, _ => by simp [PyData.depth]
  | .bool _, _ => by simp [PyData.depth]
  | .int _, _ => by simp [PyData.depth]
  | .str _, _ => by simp [PyData.depth]
  | .tuple xs, h => by
    simp only [PyData.depth, hgt]
    have := depth_hgtAll xs (by simpa [good] using h)
    omega
  | .list _, h => by simp [good] at h
  | .dict _, h => by simp [good] at h
theorem depth_hgtAll : ∀ ts : List PyData, goodAll ts → PyData.depthAll ts ≤ hgtAll ts
  | [], _ => by simp [PyData.depthAll]
  | t :: ts, h => by
    simp only [goodAll] at h
    have h1 := depth_hgt t h.1
    have h2 := depth_hgtAll ts h.2
    simp only [PyData.depthAll, hgtAll]
    omega
end
theorem shaped_good {t : PyData} (h : good t) (hh : hgt t ≤ 60) : SeqAt.shaped t = true := by
  unfold SeqAt.shaped
  have := depth_hgt t h
  rw [lay_good t h, decide_eq_true (show t.depth ≤ 64 by omega)]
  rfl
theorem eqv_nil (ds : List PyData) : PyData.eqv (.tuple ds) (.tuple []) = decide (ds = []) := by
  cases ds with
  | nil => simp [PyData.eqv, PyData.eqvAll]
  | cons d ds => simp [PyData.eqv, PyData.eqvAll]
section
variable {X : Cx}
theorem pss_no {l : List Stmt} : PSs X l (fun _ _ _ => False) := ⟨fun _ _ _ _ _ _ h => h.elim⟩
theorem ps_no {l : Stmt} : PS X l (fun _ _ _ => False) := ⟨fun _ _ _ _ _ _ h => h.elim⟩
theorem pe_no {e : Expr} : PE X e (fun _ _ _ => False) := ⟨fun _ _ _ _ _ _ h => h.elim⟩
theorem pt_no {e : Expr} : PT X e (fun _ _ _ => False) := ⟨fun _ _ _ _ _ _ h => h.elim⟩
end
/-- the dict of the expressions, as the top has written it -/
structure Exs (K : PySem.W.Frag) (w : World) (mg : Str → Option Value) (d : Addr) (ets : List (Str × Addr)) : Prop where
  mgE : mg "EXPRESSIONS" = some (.ref d)
  dt : ∃ kvs : List (Str × Tok × Value), KDt K w d kvs ∧ kvs.map (fun p => (p.1, p.2.2)) = ets.map fun e => (e.1, Value.ref e.2)
  kd : ∀ e ∈ ets, KDct K w d e.1 (.ref e.2)
  sorts : Paired (fun (e : Str × Addr) (x : Str × List Str) => e.1 = x.1 ∧ KSq K e.2 (x.2.map V.str)) ets exprs
def exKV (ets : List (Str × Addr)) : List (Key × V) := ets.map fun e => (Sum.inr e.1, .ref e.2)
theorem look_mem {α : Type} {h : Str} {a : α} : ∀ {l : List (Str × α)}, l.lookup h = some a → (h, a) ∈ l
  | [], e => by simp at e
  | (x, y) :: l, e => by
    rw [List.lookup_cons] at e
    by_cases hx : h = x
    · subst hx; simp at e; subst e; simp
    · rw [beq_eq_false_iff_ne.mpr hx] at e
      exact List.mem_cons_of_mem _ (look_mem e)
theorem val_exKV (h : Str) : ∀ ets : List (Str × Addr), valV (exKV ets) (Sum.inr h) = (ets.lookup h).map V.ref
  | [] => rfl
  | (x, a) :: l => by
    rw [List.lookup_cons]
    by_cases hx : h = x
    · subst hx
      simp [valV, exKV]
    · have h2 : ¬ ((Sum.inr x : Key) = Sum.inr h) := fun e => hx (Sum.inr.inj e).symm
      rw [beq_eq_false_iff_ne.mpr hx]
      have := val_exKV h l
      rw [← this]
      simp [valV, exKV, h2]
theorem pair_look {K : PySem.W.Frag} {h : Str} : ∀ {ets : List (Str × Addr)} {l : List (Str × List Str)}, Paired (fun (e : Str × Addr) (x : Str × List Str) => e.1 = x.1 ∧ KSq K e.2 (x.2.map V.str)) ets l →
    (ets.lookup h = none ∧ l.lookup h = none) ∨ ∃ a so, ets.lookup h = some a ∧ l.lookup h = some so ∧ KSq K a (so.map V.str)
  | _, _, .nil => .inl ⟨rfl, rfl⟩
  | _, _, @Paired.cons _ _ _ (x, a) (y, so) l1 l2 ⟨e1, e2⟩ r => by
    have e1 : x = y := e1
    subst e1
    rw [List.lookup_cons, List.lookup_cons]
    by_cases hx : h = x
    · subst hx
      exact .inr ⟨a, so, by simp, by simp, e2⟩
    · rw [beq_eq_false_iff_ne.mpr hx]
      exact pair_look r
theorem zip_exKV : ∀ {kvs : List (Str × Tok × Value)} {ets : List (Str × Addr)}, kvs.map (fun p => (p.1, p.2.2)) = ets.map (fun e => (e.1, Value.ref e.2)) →
    List.zipWith (fun (q : Str × Tok × Value) v => ((Sum.inr q.1 : Key), v)) kvs (ets.map fun e => V.ref e.2) = exKV ets ∧ Paired RelV (ets.map fun e => V.ref e.2) (kvs.map (·.2.2))
  | [], [], _ => ⟨rfl, .nil⟩
  | [], _ :: _, h => by simp at h
  | _ :: _, [], h => by simp at h
  | p :: kvs, e :: ets, h => by
    simp only [List.map_cons, List.cons.injEq, Prod.mk.injEq] at h
    obtain ⟨⟨h1, h2⟩, h3⟩ := h
    obtain ⟨i1, i2⟩ := zip_exKV h3
    refine ⟨?_, ?_⟩
    · simp only [List.map_cons, List.zipWith_cons_cons, i1, exKV, h1]
    · simp only [List.map_cons]
      exact .cons (by rw [h2]; rfl) i2
/-- the head and how many parts -/
def headedM : PyData → Bool
  | .tuple (.str h :: rest) => match exprs.lookup h with
    | some so => decide (rest.length = so.length)
    | none => false
  | _ => false
section
variable {P : Program} {w : World} {K : PySem.W.Frag} {mg : Str → Option Value} {base : Heap}
/-! ### head_of -/
theorem scHead : FnScope ["e"] ["e"] (defScope sHead) := ⟨rfl, rfl, rfl, by decide +kernel, rfl, by decide +kernel, by decide +kernel⟩
theorem ok_head {f : Addr} {fd : FuncData} {k : Nat} (B : Bn7 mg) (F : Fun K "head_of" "head_of" sHead f fd) : FnOk P w K mg base CX0 (k + 1) f fd ["e"] (spD K (fun t => hgt t ≤ 60) fun t => .str (headM t)) := by
  refine F.ok scHead (fun vs H Q E h => ?_) (fun cdv A outer s H vs Q E hr h => ?_)
  · obtain ⟨v, t, rfl, _⟩ := h
    rfl
  · obtain ⟨v, t, rfl, hd, hg, hs, hh, q⟩ := h
    have hu : (A.deeper (PyProof.Rows.envOfC "head_of" (defScope sHead) s.heap.objs.size f cdv)).units + 64 < cLine := hr.units
    have q : ∀ H', Same H H' → Q (.str (headM t)) H' := q
    refine ⟨_, pss_one (ps_ret (pe_ifExp (PW.pt (pw_and (pt_val (pe_callB call_isi (by rfl) B.isi boot_isi (pa_cons (pv 0) (pa_cons (pe_bltn (v := .ty "tuple") (by rfl) B.tup PyProof.Rows.boot_tuple rfl) pa_nil))))
      (pw_and (pt_cmpR (op_neD hu) (pv 0) (pe_tup pa_nil) (nomark _)) (pw_and1 (pt_val (pe_callB call_isi (by rfl) B.isi boot_isi (pa_cons (pe_ix ix_tup (pv 0) pe_int (fun _ _ => rfl)) (pa_cons (pe_bltn (v := .ty "str") (by rfl) B.str PyProof.Rows.boot_str rfl) pa_nil))))))))
      (pe_ix ix_tup (pv 0) pe_int (fun _ _ => rfl)) pe_str)), ?_⟩
    have hty := dp_ty hg hd
    refine ⟨_, rfl, _, _, _, _, _, rfl, .ty _, hty, kit_ty (kit_tup t), _, rfl, ?_⟩
    cases t with
    | tuple ds =>
      cases hd with
      | @tup a xs _ hsq ha =>
      refine ifT rfl ⟨_, rfl, Nat.zero_le _, fun tp htp => ?_⟩
      have s0 := same_new htp (.tup [])
      refine ⟨.tuple ds, .tuple [], dp_same s0 _ _ (.tup hsq ha), .tup (SqT.of upd_same) .nil, shaped_good hg hh, rfl, _, rfl, ?_⟩
      rw [eqv_nil]
      cases ds with
      | nil => exact iteF (iteF (q _ s0))
      | cons d ds =>
        refine iteT ?_
        cases ha with
        | @cons x xs _ _ h1 h2 =>
        have hg1 : good d := by simp only [good, goodAll] at hg; exact hg.1
        have sq0 := sqT_same s0 hsq
        refine ⟨_, rfl, a, _, 0, x, rfl, rfl, sq0, atI_nat (j := 0) rfl, ?_⟩
        refine ⟨_, _, _, _, _, rfl, .ty _, dp_ty hg1 (dp_same s0 _ _ h1), kit_ty (kit_str d), _, rfl, ?_⟩
        cases e : isiB "str" d with
        | false =>
          refine iteF ?_
          have := q _ s0
          have ef : headM (.tuple (d :: ds)) = "" := by
            cases d <;> first | rfl | (rw [b_str_str] at e; cases e)
          rw [ef] at this
          exact this
        | true =>
          refine iteT ?_
          obtain ⟨z, rfl⟩ := isi_str.mp e
          cases h1
          exact ⟨_, rfl, a, _, 0, _, rfl, rfl, sq0, atI_nat (j := 0) rfl, q _ s0⟩
    | none => exact ifF rfl (iteF (q H (Same.refl _)))
    | bool b => exact ifF rfl (iteF (q H (Same.refl _)))
    | int i => exact ifF rfl (iteF (q H (Same.refl _)))
    | str x => exact ifF rfl (iteF (q H (Same.refl _)))
    | list ds => simp [good] at hg
    | dict ds => simp [good] at hg
/-! ### is_headed -/
theorem scHeaded : FnScope ["value", "shapes"] ["value", "shapes"] (defScope sHeaded) := ⟨rfl, rfl, rfl, by decide +kernel, rfl, by decide +kernel, by decide +kernel⟩
def spHeaded (K : PySem.W.Frag) (ets : List (Str × Addr)) : Sp := fun vs H Q _ => ∃ v t p, vs = [v, .ref p] ∧ Dp K H v t ∧ good t ∧ short t ∧ hgt t ≤ 60 ∧ H p = some (.dK (exKV ets)) ∧ ∀ H', Same H H' → Q (.bl (headedM t)) H'
theorem ok_headed {f d : Addr} {ets : List (Str × Addr)} {fd : FuncData} {k : Nat} (B : Bn7 mg) (X : Exs K w mg d ets) (D : Cal P w K mg base CX0 1 "is_tuple" ["value", "size"] [.non] (spIsTup K)) (F : Fun K "is_headed" "is_headed" sHeaded f fd) :
    FnOk P w K mg base CX0 (k + 2) f fd ["value", "shapes"] (spHeaded K ets) := by
  obtain ⟨f1, fd1, ds1, e1, k1, v1, b1, G1⟩ := D.ex
  refine F.ok scHeaded (fun vs H Q E h => ?_) (fun cdv A outer s H vs Q E hr h => ?_)
  · obtain ⟨v, t, p, rfl, _⟩ := h
    rfl
  · obtain ⟨v, t, p, rfl, hd, hg, hs, hh, hp, q⟩ := h
    have hu : (A.deeper (PyProof.Rows.envOfC "is_headed" (defScope sHeaded) s.heap.objs.size f cdv)).units + 64 < cLine := hr.units
    have hu1 : (A.deeper (PyProof.Rows.envOfC "is_headed" (defScope sHeaded) s.heap.objs.size f cdv)).units + 1 < cLine := by omega
    refine ⟨_, pss_cons (ps_if (PW.pt (pw_or (pt_not (pt_val (pe_call G1 (hr.mono (by omega)) rfl e1 k1 b1 v1 pass0 (pa_cons (pv 0) pa_nil))))
        (pw_or (pt_cmpR (op_eqD hu) (pv 0) (pe_tup pa_nil) (nomark _))
        (pw_or (pt_not (pt_val (pe_callB call_isi (by rfl) B.isi boot_isi (pa_cons (pe_ix ix_tup (pv 0) pe_int (fun _ _ => rfl)) (pa_cons (pe_bltn (v := .ty "str") (by rfl) B.str PyProof.Rows.boot_str rfl) pa_nil)))))
        (pw_or1 (pt_cmp (pc_dnotin hu1 (pe_ix ix_tup (pv 0) pe_int (fun _ _ => rfl)) (pv 1)))))))) (pss_one (ps_ret pe_bl)) pss_nil)
      (pss_one (ps_ret (pe_cmpR op_eq (pe_op op_sub (pe_callB call_len_seq (by rfl) B.len PySem.boot_len (pa_cons (pv 0) pa_nil)) pe_int) (pe_callB call_len_seq (by rfl) B.len PySem.boot_len (pa_cons (pe_dget hu1 (pv 1) (pe_ix ix_tup (pv 0) pe_int (fun _ _ => rfl)) (fun _ _ => rfl)) pa_nil)) (nomark _)))), ?_⟩
    refine ⟨_, rfl, v, t, rfl, hd, hg, fun H1 sm => ⟨_, rfl, ?_⟩⟩
    cases t with
    | tuple ds =>
      cases hd with
      | @tup a xs _ hsq ha =>
      refine ifF rfl ⟨_, rfl, Nat.zero_le _, fun tp htp => ?_⟩
      have s0 := sm.trans (same_new htp (.tup []))
      refine ⟨.tuple ds, .tuple [], dp_same s0 _ _ (.tup hsq ha), .tup (SqT.of upd_same) .nil, shaped_good hg hh, rfl, _, rfl, ?_⟩
      rw [eqv_nil]
      cases ds with
      | nil => exact iteT (iteT (q _ s0))
      | cons d1 ds =>
        refine iteF ?_
        cases ha with
        | @cons x xs _ _ h1 h2 =>
        have hg1 : good d1 := by simp only [good, goodAll] at hg; exact hg.1
        have sq0 := sqT_same s0 hsq
        refine ⟨_, rfl, a, _, 0, x, rfl, rfl, sq0, atI_nat (j := 0) rfl, ?_⟩
        refine ⟨_, _, _, _, _, rfl, .ty _, dp_ty hg1 (dp_same s0 _ _ h1), kit_ty (kit_str d1), _, rfl, ?_⟩
        cases e : isiB "str" d1 with
        | false =>
          refine iteT (iteT ?_)
          have := q _ s0
          have ef : headedM (.tuple (d1 :: ds)) = false := by
            cases d1 <;> first | rfl | (rw [b_str_str] at e; cases e)
          rw [ef] at this
          exact this
        | true =>
          refine iteF ?_
          obtain ⟨z, rfl⟩ := isi_str.mp e
          cases h1
          have hl := dp_len h2
          have q : ∀ H', Same H H' → Q (.bl (match exprs.lookup z with
            | some so => decide (ds.length = so.length)
            | none => false)) H' := q
          refine ⟨_, rfl, a, _, 0, _, rfl, rfl, sq0, atI_nat (j := 0) rfl, _, rfl, p, _, rfl, DGet.k (k := .inr z) (s0 _ _ hp), ?_⟩
          rw [val_exKV]
          rcases pair_look (h := z) X.sorts with ⟨n1, n2⟩ | ⟨b, so, n1, n2, n3⟩
          · rw [n1]
            refine ⟨_, rfl, iteT ?_⟩
            have := q _ s0
            rw [n2] at this
            exact this
          · rw [n1]
            refine ⟨_, rfl, iteF ?_⟩
            refine ⟨_, rfl, a, _, rfl, .inr sq0, _, _, rfl, rfl, _, rfl, _, rfl, a, _, 0, _, rfl, rfl, sq0, atI_nat (j := 0) rfl, p, .ref b, rfl, ?_, b, _, rfl, .inr (n3.sq _), rfl, ?_⟩
            · have := DGet.k (k := .inr z) (s0 _ _ hp)
              rw [val_exKV, n1] at this
              exact this
            · have := q _ s0
              rw [n2] at this
              have ed : decide (V.int (((V.str z :: xs).length : Int) - 1) = V.int (((so.map V.str).length : Nat) : Int)) = decide (ds.length = so.length) := by
                rw [dec_int]
                simp only [List.length_cons, List.length_map, hl]
                rw [Bool.eq_iff_iff]
                simp
                omega
              rw [ed]
              exact this
    | none => exact ifT rfl (iteT (q H1 sm))
    | bool b => exact ifT rfl (iteT (q H1 sm))
    | int i => exact ifT rfl (iteT (q H1 sm))
    | str x => exact ifT rfl (iteT (q H1 sm))
    | list ds => simp [good] at hg
    | dict ds => simp [good] at hg
end
end DS
set_option Elab.async false
set_option linter.all false
set_option maxRecDepth 100000
set_option maxHeartbeats 4000000
namespace DS
open PySem L2 PySem.NumText
def sortsL : List Str := ["word", "content", "operator", "kind", "index"]
theorem sm_word (d : PyData) : simpleM "word" d = isWordM d := by unfold simpleM; rw [if_pos rfl]
theorem sm_cont (d : PyData) : simpleM "content" d = isValM d := by unfold simpleM; rw [if_neg (by decide), if_pos rfl]
theorem sm_oper (d : PyData) : simpleM "operator" d = oneOfM opsL d := by unfold simpleM; rw [if_neg (by decide), if_neg (by decide), if_pos rfl]
theorem sm_kind (d : PyData) : simpleM "kind" d = oneOfM kindsL d := by unfold simpleM; rw [if_neg (by decide), if_neg (by decide), if_neg (by decide), if_pos rfl]
theorem sm_idx (d : PyData) : simpleM "index" d = idxM d := by unfold simpleM; rw [if_neg (by decide), if_neg (by decide), if_neg (by decide), if_neg (by decide)]
section
variable {P : Program} {w : World} {K : PySem.W.Frag} {mg : Str → Option Value} {base : Heap}
theorem scSimple : FnScope ["sort", "value"] ["sort", "value"] (defScope sSimple) := ⟨rfl, rfl, rfl, by decide +kernel, rfl, by decide +kernel, by decide +kernel⟩
def spSort (K : PySem.W.Frag) : Sp := fun vs H Q _ => ∃ so v t, vs = [.str so, v] ∧ so ∈ sortsL ∧ Dp K H v t ∧ good t ∧ short t ∧ ∀ H', Same H H' → Q (.bl (simpleM so t)) H'
theorem ok_simple {f : Addr} {fd : FuncData} {k : Nat} (B : Bn7 mg) (mO : ∃ a, mg "OPERATORS" = some (.ref a) ∧ KSq K a (opsL.map V.str)) (DW : Cal P w K mg base CX0 1 "is_word" ["value"] [] (spD K (fun _ => True) fun t => .bl (isWordM t)))
    (DV : Cal P w K mg base CX0 3 "is_value" ["value"] [] (spD K (fun _ => True) fun t => .bl (isValM t))) (DO : Cal P w K mg base CX0 1 "is_one_of" ["value", "strings"] [] (spOneOf K))
    (DP : Cal P w K mg base CX0 2 "is_plain" ["value"] [] (spD K (fun _ => True) fun t => .bl (oneOfM kindsL t))) (F : Fun K "is_simple_part" "is_simple_part" sSimple f fd) :
    FnOk P w K mg base CX0 (k + 4) f fd ["sort", "value"] (spSort K) := by
  obtain ⟨f1, fd1, ds1, e1, k1, v1, b1, G1⟩ := DW.ex
  obtain ⟨f2, fd2, ds2, e2, k2, v2, b2, G2⟩ := DV.ex
  obtain ⟨f3, fd3, ds3, e3, k3, v3, b3, G3⟩ := DO.ex
  obtain ⟨f4, fd4, ds4, e4, k4, v4, b4, G4⟩ := DP.ex
  obtain ⟨aO, mO, hO⟩ := mO
  refine F.ok scSimple (fun vs H Q E h => ?_) (fun cdv A outer s H vs Q E hr h => ?_)
  · obtain ⟨so, v, t, rfl, _⟩ := h
    rfl
  · obtain ⟨so, v, t, rfl, hso, hd, hg, hs, q⟩ := h
    refine ⟨_, pss_one (ps_match (pv 0)
      (pcs_cons pp_str (pss_one (ps_ret (pe_call G1 (hr.mono (by omega)) rfl e1 k1 b1 v1 pass0 (pa_cons (pv 1) pa_nil))))
      (pcs_cons (pp_or (pps_cons pp_str (pps_cons pp_str pps_nil))) pss_no
      (pcs_cons pp_str (pss_one (ps_ret (pe_call G2 (hr.mono (by omega)) rfl e2 k2 b2 v2 pass0 (pa_cons (pv 1) pa_nil))))
      (pcs_cons pp_str (pss_one (ps_ret (pe_call G3 (hr.mono (by omega)) rfl e3 k3 b3 v3 pass0 (pa_cons (pv 1) (pa_cons (pe_glob (v := .ref aO) rfl mO rfl) pa_nil)))))
      (pcs_cons pp_str (pss_one (ps_ret (pe_call G4 (hr.mono (by omega)) rfl e4 k4 b4 v4 pass0 (pa_cons (pv 1) pa_nil))))
      (pcs_cons pp_str (pss_one (ps_ret (pe_and (pe_callB call_isi (by rfl) B.isi boot_isi (pa_cons (pv 1) (pa_cons (pe_bltn (v := .ty "int") (by rfl) B.int PyProof.Rows.boot_int rfl) pa_nil)))
        (pe_and (pe_not (pe_callB call_isi (by rfl) B.isi boot_isi (pa_cons (pv 1) (pa_cons (pe_bltn (v := .ty "bool") (by rfl) B.bl PyProof.Rows.boot_bool rfl) pa_nil)))) (pe_one (pe_cmpR op_ge (pv 1) pe_int (nomark _)))))))
      (pcs_cons pp_str pss_no (pcs_cons pp_any pss_no pcs_nil))))))))), ?_⟩
    refine ⟨_, rfl, so, rfl, ?_⟩
    simp only [sortsL, List.mem_cons, List.mem_nil_iff, or_false] at hso
    rcases hso with rfl | rfl | rfl | rfl | rfl
    · refine ifT (by decide) ⟨_, rfl, v, t, rfl, hd, hg, hs, trivial, fun H1 sm => ?_⟩
      have := q H1 sm
      rw [sm_word] at this
      exact this
    · refine ifF (by decide) (ifF (by decide) (ifT (by decide) ⟨_, rfl, v, t, rfl, hd, hg, hs, trivial, fun H1 sm => ?_⟩))
      have := q H1 sm
      rw [sm_cont] at this
      exact this
    · refine ifF (by decide) (ifF (by decide) (ifF (by decide) (ifT (by decide) ⟨_, rfl, v, t, aO, opsL, rfl, hd, hg, hO.sq H, fun H1 sm => ?_⟩)))
      have := q H1 sm
      rw [sm_oper] at this
      exact this
    · refine ifF (by decide) (ifF (by decide) (ifF (by decide) (ifF (by decide) (ifT (by decide) ⟨_, rfl, v, t, rfl, hd, hg, hs, trivial, fun H1 sm => ?_⟩))))
      have := q H1 sm
      rw [sm_kind] at this
      exact this
    · refine ifF (by decide) (ifF (by decide) (ifF (by decide) (ifF (by decide) (ifF (by decide) (ifT (by decide) ?_)))))
      have q := q H (Same.refl _)
      rw [sm_idx] at q
      have hty := dp_ty hg hd
      refine ⟨_, rfl, _, _, _, _, _, rfl, .ty _, hty, kit_ty (kit_int t), _, rfl, ?_⟩
      cases t with
      | none => exact iteF q
      | bool b => exact iteT ⟨_, rfl, _, _, _, _, _, rfl, .ty _, hty, kit_ty (kit_bool _), _, rfl, _, rfl, iteF q⟩
      | int i =>
        cases hd
        refine iteT ⟨_, rfl, _, _, _, _, _, rfl, .ty _, hty, kit_ty (kit_bool _), _, rfl, _, rfl, iteT ⟨_, rfl, _, _, rfl, rfl, ?_⟩⟩
        exact q
      | str x => exact iteF q
      | tuple ds => exact iteF q
      | list ds => simp [good] at hg
      | dict ds => simp [good] at hg
/-! ### is_part -/
theorem scPart : FnScope ["sort", "value"] ["sort", "value"] (defScope sPart) := ⟨rfl, rfl, rfl, by decide +kernel, rfl, by decide +kernel, by decide +kernel⟩
theorem ok_part {f : Addr} {fd : FuncData} {k : Nat} (D : Cal P w K mg base CX0 4 "is_simple_part" ["sort", "value"] [] (spSort K)) (F : Fun K "is_part" "is_part" sPart f fd) :
    FnOk P w K mg base CX0 (k + 5) f fd ["sort", "value"] (spSort K) := by
  obtain ⟨f1, fd1, ds1, e1, k1, v1, b1, G1⟩ := D.ex
  refine F.ok scPart (fun vs H Q E h => ?_) (fun cdv A outer s H vs Q E hr h => ?_)
  · obtain ⟨so, v, t, rfl, _⟩ := h
    rfl
  · obtain ⟨so, v, t, rfl, hso, hd, hg, hs, q⟩ := h
    refine ⟨_, pss_one (ps_match (pv 0)
      (pcs_cons pp_str pss_no (pcs_cons pp_str pss_no (pcs_cons pp_str pss_no (pcs_cons pp_str pss_no (pcs_cons pp_str pss_no (pcs_cons pp_str pss_no (pcs_cons pp_str pss_no (pcs_cons pp_str pss_no (pcs_cons pp_str pss_no (pcs_cons pp_str pss_no
      (pcs_cons (pp_or (pps_cons pp_str (pps_cons pp_str (pps_cons pp_str (pps_cons pp_str (pps_cons pp_str (pps_cons pp_str pps_nil))))))) pss_no (pcs_cons pp_str pss_no (pcs_cons (pp_or (pps_cons pp_str (pps_cons pp_str pps_nil))) pss_no
      (pcs_cons pp_any (pss_one (ps_ret (pe_call G1 (hr.mono (by omega)) rfl e1 k1 b1 v1 pass0 (pa_cons (pv 0) (pa_cons (pv 1) pa_nil))))) pcs_nil))))))))))))))), ?_⟩
    refine ⟨_, rfl, so, rfl, ?_⟩
    have hso' := hso
    simp only [sortsL, List.mem_cons, List.mem_nil_iff, or_false] at hso'
    rcases hso' with rfl | rfl | rfl | rfl | rfl <;>
    exact ifF (by decide) (ifF (by decide) (ifF (by decide) (ifF (by decide) (ifF (by decide) (ifF (by decide) (ifF (by decide) (ifF (by decide) (ifF (by decide) (ifF (by decide) (ifF (by decide) (ifF (by decide) (ifF (by decide) (iteT
      ⟨_, rfl, _, rfl, _, v, t, rfl, hso, hd, hg, hs, q⟩)))))))))))))
end
end DS
set_option Elab.async false
set_option linter.all false
set_option maxRecDepth 100000
set_option maxHeartbeats 4000000
namespace DS
open PySem L2 PySem.NumText
theorem cut1 (x : V) (xs : List V) : cutV (x :: xs) (some 1) none = xs := by
  unfold cutV
  have h : HT.sIx (x :: xs).length 0 (some 1) = 1 := by rw [show (1 : Int) = ((1 : Nat) : Int) from rfl, HT.sIx_nat]; simp
  rw [h, HT.sIx_none]
  simp
theorem cut1_ne (x : V) (xs : List V) : ¬ (HT.sIx (x :: xs).length 0 (some 1) = 0 ∧ HT.sIx (x :: xs).length (x :: xs).length none = (x :: xs).length) := fun ⟨h, _⟩ => by
  rw [show (1 : Int) = ((1 : Nat) : Int) from rfl, HT.sIx_nat] at h
  simp at h
theorem partsOk_all : ∀ {ss : List Str} {ds : List PyData}, partsOkM ss ds = true ↔ ∀ (i : Nat) (s : Str) (d : PyData), ss[i]? = some s → ds[i]? = some d → partM s d = true
  | [], ds => by simp [partsOkM]
  | s :: ss, [] => by simp [partsOkM]
  | s :: ss, d :: ds => by
    simp only [partsOkM, Bool.and_eq_true, partsOk_all (ss := ss) (ds := ds)]
    constructor
    · rintro ⟨h1, h2⟩ i s' d' e1 e2
      cases i with
      | zero => simp at e1 e2; subst e1 e2; exact h1
      | succ i => exact h2 i s' d' (by simpa using e1) (by simpa using e2)
    · intro h
      exact ⟨h 0 s d rfl rfl, fun i s' d' e1 e2 => h (i + 1) s' d' (by simpa using e1) (by simpa using e2)⟩
theorem sorts_of : ∀ x ∈ exprs, ∀ s ∈ x.2, s ∈ sortsL ∨ s = "expression" ∨ s = "expressions" := by decide +kernel
theorem sortsL_ne : ∀ s ∈ sortsL, s ≠ "expression" ∧ s ≠ "expressions" := by decide +kernel
theorem form_head {t : PyData} (h : headedM t = true) : ∃ z ds so, t = .tuple (.str z :: ds) ∧ exprs.lookup z = some so ∧ ds.length = so.length ∧ formM t = partsOkM so ds := by
  match t, h with
  | .tuple (.str z :: ds), h =>
    simp only [headedM] at h
    cases e : exprs.lookup z with
    | none => rw [e] at h; cases h
    | some so =>
      rw [e] at h
      have hl : ds.length = so.length := of_decide_eq_true h
      exact ⟨z, ds, so, rfl, e, hl, by simp only [formM, e, decide_eq_true hl]; rfl⟩
theorem form_no {t : PyData} (h : headedM t = false) : formM t = false := by
  match t with
  | .tuple (.str z :: ds) =>
    simp only [headedM] at h
    simp only [formM]
    cases e : exprs.lookup z with
    | none => rfl
    | some so => rw [e] at h; simp only at h ⊢; rw [h]; rfl
  | .tuple [] => rfl
  | .tuple (.none :: _) => rfl
  | .tuple (.bool _ :: _) => rfl
  | .tuple (.int _ :: _) => rfl
  | .tuple (.tuple _ :: _) => rfl
  | .tuple (.list _ :: _) => rfl
  | .tuple (.dict _ :: _) => rfl
  | .none => rfl
  | .bool _ => rfl
  | .int _ => rfl
  | .str _ => rfl
  | .list _ => rfl
  | .dict _ => rfl
section
variable {P : Program} {w : World} {K : PySem.W.Frag} {mg : Str → Option Value} {base : Heap}
theorem scForm : FnScope ["e", "sort", "part"] ["e"] (defScope sForm) := ⟨rfl, rfl, rfl, by decide +kernel, rfl, by decide +kernel, by decide +kernel⟩
theorem ok_form {f d : Addr} {ets : List (Str × Addr)} {fd : FuncData} {k : Nat} (B : Bn7 mg) (X : Exs K w mg d ets) (DT : Cal P w K mg base CX0 1 "is_tuple" ["value", "size"] [.non] (spIsTup K))
    (DH : Cal P w K mg base CX0 2 "is_headed" ["value", "shapes"] [] (spHeaded K ets)) (DP : Cal P w K mg base CX0 5 "is_part" ["sort", "value"] [] (spSort K)) (F : Fun K "has_form" "has_form" sForm f fd) :
    FnOk P w K mg base CX0 (k + 6) f fd ["e"] (spD K (fun t => hgt t ≤ 60) fun t => .bl (formM t)) := by
  obtain ⟨f1, fd1, ds1, e1, k1, v1, b1, G1⟩ := DT.ex
  obtain ⟨f2, fd2, ds2, e2, k2, v2, b2, G2⟩ := DH.ex
  obtain ⟨f3, fd3, ds3, e3, k3, v3, b3, G3⟩ := DP.ex
  obtain ⟨kvs, hD, hkv⟩ := X.dt
  obtain ⟨z1, z2⟩ := zip_exKV hkv
  refine F.ok scForm (fun vs H Q E h => ?_) (fun cdv A outer s H vs Q E hr h => ?_)
  · obtain ⟨v, t, rfl, _⟩ := h
    rfl
  · obtain ⟨v, t, rfl, hd, hg, hs, hh, q⟩ := h
    have q : ∀ H', Same H H' → Q (.bl (formM t)) H' := q
    refine ⟨_, pss_cons (ps_if (pt_not (pt_val (pe_call G2 (hr.mono (by omega)) rfl e2 k2 b2 v2 pass0 (pa_cons (pv 0) (pa_cons (pe_callTy (call_dictK hD _ z2) (by rfl) B.dict PyProof.Rows.boot_dict (pa_cons (pe_glob (v := .ref d) rfl X.mgE rfl) pa_nil)) pa_nil))))) (pss_one (ps_ret pe_bl)) pss_nil)
      (pss_cons (ps_for PassesOwn.never rfl (RZ.pi_zipA (by rfl) B.zip (pa_cons (pe_ix ix_kdict (pe_glob (v := .ref d) rfl X.mgE rfl) (pe_ix ix_tup (pv 0) pe_int (fun _ _ => rfl)) (fun _ _ => rfl)) (pa_cons (pe_slice sl_tupA (pv 0) (po_some pe_int) po_none) pa_nil)))
          (pg_tup (by rfl) (pgs_cons (pg_name (i := 1) scForm.nd rfl (Or.inl rfl)) (pgs_cons (pg_name (i := 2) scForm.nd rfl (Or.inl rfl)) pgs_nil)))
        (pss_cons (ps_if (PW.pt (pw_and (pt_cmpR op_eq (pv 1) pe_str (nomark _)) (pw_and1 (pt_not (pt_val (pe_call G1 (hr.mono (by omega)) rfl e1 k1 b1 v1 pass0 (pa_cons (pv 2) pa_nil))))))) (pss_one (ps_ret pe_bl)) pss_nil)
        (pss_one (ps_if (PW.pt (pw_and (pt_cmpR (show OpR _ (compareOp .NotIn) (rIn K true) from op_notIn_seq) (pv 1) (pe_tup (pa_cons pe_str (pa_cons pe_str pa_nil))) (by rfl)) (pw_and1 (pt_not (pt_val (pe_call G3 (hr.mono (by omega)) rfl e3 k3 b3 v3 pass0 (pa_cons (pv 1) (pa_cons (pv 2) pa_nil)))))))) (pss_one (ps_ret pe_bl)) pss_nil))))
      (pss_one (ps_ret pe_bl))), ?_⟩
    refine ⟨_, rfl, rfl, fun p hp => ?_⟩
    rw [z1]
    have s0 := same_new hp (.dK (exKV ets))
    refine ⟨v, t, p, rfl, dp_same s0 _ _ hd, hg, hs, hh, upd_same, fun H1 sm => ⟨_, rfl, ?_⟩⟩
    have s1 := s0.trans sm
    cases eh : headedM t with
    | false =>
      refine iteT ?_
      have := q H1 s1
      rw [form_no eh] at this
      exact this
    | true =>
      refine iteF ?_
      obtain ⟨z, ds, so, rfl, el, hl, ef⟩ := form_head eh
      cases hd with
      | @tup a xs _ hsq ha =>
      cases ha with
      | @cons x xs _ _ h1 h2 =>
      cases h1
      have sq1 := sqT_same s1 hsq
      rcases pair_look (h := z) X.sorts with ⟨n1, n2⟩ | ⟨b, so', n1, n2, n3⟩
      · rw [el] at n2; cases n2
      rw [el] at n2
      cases n2
      refine ⟨_, rfl, a, _, 0, _, rfl, rfl, sq1, atI_nat (j := 0) rfl, ?_⟩
      refine ⟨d, z, .ref b, rfl, rfl, X.kd _ (look_mem n1), ?_⟩
      refine ⟨_, rfl, _, rfl, a, _, rfl, sq1, fun c => absurd c (cut1_ne _ _), fun _ p2 hp2 => ?_⟩
      rw [cut1]
      have s2 := s1.trans (same_new hp2 (.tup xs))
      have hx : DpAll K H xs ds := h2
      have hlx : xs.length = ds.length := dp_len h2
      have hga : goodAll ds := by simp only [good, goodAll] at hg; exact hg.2
      have hsa : shortAll ds := by simp only [short, shortAll] at hs; exact hs.1.2
      have fin : ∀ {b : Bool} {H' : Hp}, Same H H' → partsOkM so ds = b → Q (.bl b) H' := fun sm e => by have := q _ sm; rw [ef, e] at this; exact this
      refine ⟨b, p2, _, _, rfl, .inr ⟨n3.sq _, SqT.of upd_same, ?_⟩⟩
      refine RZ.for_zipT (xs := so.map V.str) (ys := xs) (by rw [List.length_map]; omega) (fun i σ H' => ∃ y1 y2, σ = [some (.ref a), y1, y2] ∧ Same H H' ∧ H' p2 = some (.tup xs) ∧ ∀ (j : Nat) (s : Str) (d : PyData), j < i → so[j]? = some s → ds[j]? = some d → partM s d = true)
        ⟨none, none, rfl, s2, upd_same, fun j _ _ hj => by omega⟩ (fun i σ H' h => by obtain ⟨y1, y2, rfl, sm, hp2', _⟩ := h; exact ⟨n3.sq _, SqT.of hp2'⟩) ?_ ?_
      · rintro i x y T σ H3 ex ey ⟨y1, y2, rfl, sm, hp3, hall⟩ hT
        rw [List.getElem?_map] at ex
        obtain ⟨so1, es, rfl⟩ : ∃ s1, so[i]? = some s1 ∧ x = V.str s1 := by
          cases e : so[i]? with
          | none => rw [e] at ex; cases ex
          | some s1 => rw [e] at ex; exact ⟨s1, rfl, (Option.some.inj ex).symm⟩
        obtain ⟨d1, ed, dd⟩ := dp_get hx ey
        have st := same_new hT (.tup [.str so1, y])
        have sm2 := sm.trans st
        have ok1 : ∀ {b : Bool}, partM so1 d1 = b → b = false → ∀ {H' : Hp}, Same H H' → Q (.bl false) H' := fun e1 e2 H' sm => fin sm (by
          cases ep : partsOkM so ds with
          | false => rfl
          | true => have := partsOk_all.mp ep i so1 d1 es ed; rw [e1, e2] at this; cases this)
        have next : partM so1 d1 = true → ∀ {H' : Hp}, Same (upd H3 T (.tup [.str so1, y])) H' → ∃ y1 y2, ([some (.ref a), some (.str so1), some y] : L2.St) = [some (.ref a), y1, y2] ∧ Same H H' ∧ H' p2 = some (.tup xs) ∧ ∀ (j : Nat) (s : Str) (d : PyData), j < i + 1 → so[j]? = some s → ds[j]? = some d → partM s d = true := fun hp1 H' sm3 =>
          ⟨_, _, rfl, sm2.trans sm3, sm3 _ _ (st _ _ hp3), fun j s' d' hj e1 e2 => by
            by_cases h : j = i
            · subst h; rw [es] at e1; rw [ed] at e2; cases e1; cases e2; exact hp1
            · exact hall j s' d' (by omega) e1 e2⟩
        refine ⟨T, _, rfl, SqT.of upd_same, rfl, _, _, rfl, _, [], rfl, rfl, ?_⟩
        have ms : so1 ∈ so := List.mem_of_getElem? es
        refine ⟨_, rfl, rfl, _, rfl, ?_⟩
        rcases sorts_of _ (look_mem el) so1 ms with hs1 | rfl | rfl
        · obtain ⟨na, nb⟩ := sortsL_ne _ hs1
          have pm : partM so1 d1 = simpleM so1 d1 := by unfold partM; rw [if_neg na, if_neg nb]
          refine ifF (decide_eq_false fun e => nb (V.str.inj e)) (iteF ?_)
          refine ⟨_, rfl, by show 2 ≤ sizeLine; decide, fun tp htp => ?_⟩
          have st2 := same_new htp (.tup [.str "expression", .str "expressions"])
          refine ⟨tp, [.str "expression", .str "expressions"], rfl, .inr (SqT.of upd_same), rfl, rfl, _, rfl, ?_⟩
          have en : (!inV (.str so1) [.str "expression", .str "expressions"]) = true := by
            rw [show ([.str "expression", .str "expressions"] : List V) = (["expression", "expressions"] : List Str).map V.str from rfl, in_strs]
            simp [na, nb]
          refine ifT en ?_
          refine ⟨_, rfl, _, rfl, so1, y, d1, rfl, hs1, dp_same (sm2.trans st2) _ _ dd, good_get hga ed, short_get hsa ed, fun H4 sm4 => ⟨_, rfl, ?_⟩⟩
          cases es1 : simpleM so1 d1 with
          | false => exact iteT (ok1 pm es1 ((sm2.trans st2).trans sm4))
          | true => exact iteF (next (pm.trans es1) (st2.trans sm4))
        · refine ifF (decide_eq_false fun e => by have := V.str.inj e; revert this; decide) (iteF ?_)
          refine ⟨_, rfl, by show 2 ≤ sizeLine; decide, fun tp htp => ?_⟩
          have st2 := same_new htp (.tup [.str "expression", .str "expressions"])
          refine ⟨tp, [.str "expression", .str "expressions"], rfl, .inr (SqT.of upd_same), rfl, rfl, _, rfl, ?_⟩
          refine ifF (by decide) (iteF ?_)
          exact next rfl st2
        · refine ifT (decide_eq_true rfl) ?_
          refine ⟨_, rfl, y, d1, rfl, dp_same sm2 _ _ dd, good_get hga ed, fun H4 sm4 => ⟨_, rfl, ?_⟩⟩
          have pm : partM "expressions" d1 = isTupM d1 := by unfold partM; rw [if_neg (by decide), if_pos rfl]
          cases es1 : isTupM d1 with
          | false => exact iteT (ok1 pm es1 (sm2.trans sm4))
          | true =>
            refine iteF ?_
            refine ⟨_, rfl, by show 2 ≤ sizeLine; decide, fun tp htp => ?_⟩
            have st2 := same_new htp (.tup [.str "expression", .str "expressions"])
            refine ⟨tp, [.str "expression", .str "expressions"], rfl, .inr (SqT.of upd_same), rfl, rfl, _, rfl, ?_⟩
            refine ifF (by decide) (iteF ?_)
            exact next (pm.trans es1) (sm4.trans st2)
      · rintro σ H3 ⟨y1, y2, rfl, sm, _, hall⟩
        rw [List.length_map] at hall
        exact fin sm (partsOk_all.mpr fun i s d e1 e2 => hall i s d (List.getElem?_eq_some_iff.mp e1).1 e1 e2)
end
end DS
set_option Elab.async false
set_option linter.all false
set_option maxRecDepth 100000
set_option maxHeartbeats 4000000
namespace DS
open PySem L2 PySem.NumText
/-- the heads whose parts are looked at -/
def hdsL : List Str := ["value", "var", "col", "op", "not", "null", "case"]
def selM (f : Nat → PyData) : Nat → List Str → List (Nat × PyData)
  | _, [] => []
  | k, s :: ss => if s = "expression" then (k, f k) :: selM f (k + 1) ss else selM f (k + 1) ss
theorem selM_snoc (f : Nat → PyData) (s : Str) : ∀ (k : Nat) (ss : List Str), selM f k (ss ++ [s]) = selM f k ss ++ (if s = "expression" then [(k + ss.length, f (k + ss.length))] else [])
  | k, [] => by
    by_cases h : s = "expression" <;> simp [selM, h]
  | k, x :: ss => by
    have := selM_snoc f s (k + 1) ss
    simp only [List.cons_append, selM, List.length_cons]
    rw [this, show k + 1 + ss.length = k + (ss.length + 1) by omega]
    by_cases h : x = "expression"
    · rw [if_pos h, if_pos h]; rfl
    · rw [if_neg h, if_neg h]
theorem sel_len (f : Nat → PyData) : ∀ (k : Nat) (ss : List Str), (selM f k ss).length ≤ ss.length
  | _, [] => Nat.le_refl _
  | k, s :: ss => by
    have := sel_len f (k + 1) ss
    simp only [selM]
    by_cases h : s = "expression"
    · rw [if_pos h]; simp; omega
    · rw [if_neg h]; simp; omega
theorem sel_parts {z : Str} {ds : List PyData} {so : List Str} (h : z ∈ hdsL) (e : exprs.lookup z = some so) : partsM (.tuple (.str z :: ds)) = selM (argM (.tuple (.str z :: ds))) 1 so := by
  simp only [hdsL, List.mem_cons, List.mem_nil_iff, or_false] at h
  rcases h with rfl | rfl | rfl | rfl | rfl | rfl | rfl
  · rw [lk_value] at e; cases e; rfl
  · rw [lk_var] at e; cases e; rfl
  · rw [lk_col] at e; cases e; rfl
  · rw [lk_op] at e; cases e; rfl
  · rw [lk_not] at e; cases e; rfl
  · rw [lk_null] at e; cases e; rfl
  · rw [lk_case] at e; cases e; rfl
theorem hds_sorts {z : Str} {so : List Str} (h : z ∈ hdsL) (e : exprs.lookup z = some so) : ("expressions" : Str) ∉ so ∧ so.length ≤ 3 := by
  simp only [hdsL, List.mem_cons, List.mem_nil_iff, or_false] at h
  rcases h with rfl | rfl | rfl | rfl | rfl | rfl | rfl
  · rw [lk_value] at e; cases e; decide
  · rw [lk_var] at e; cases e; decide
  · rw [lk_col] at e; cases e; decide
  · rw [lk_op] at e; cases e; decide
  · rw [lk_not] at e; cases e; decide
  · rw [lk_null] at e; cases e; decide
  · rw [lk_case] at e; cases e; decide
theorem form_headed {t : PyData} (h : formM t = true) : headedM t = true := by
  cases e : headedM t with
  | true => rfl
  | false => rw [form_no e] at h; cases h
/-- a part as parts_in tells it -/
def PartR (K : PySem.W.Frag) (H : Hp) (r : V) (p : Nat × PyData) : Prop := ∃ q st x, r = .ref q ∧ H q = some (.tup [.ref st, x]) ∧ H st = some (.tup [.int ((p.1 : Nat) : Int)]) ∧ Dp K H x p.2
theorem partR_same {K : PySem.W.Frag} {H H' : Hp} (sm : Same H H') {r : V} {p : Nat × PyData} (h : PartR K H r p) : PartR K H' r p := by
  obtain ⟨q, st, x, h1, h2, h3, h4⟩ := h
  exact ⟨q, st, x, h1, sm _ _ h2, sm _ _ h3, dp_same sm _ _ h4⟩
/-- the same while the list grows: the data is that of the heap at the start -/
def PartR0 (K : PySem.W.Frag) (H0 H : Hp) (r : V) (p : Nat × PyData) : Prop := ∃ q st x, r = .ref q ∧ H q = some (.tup [.ref st, x]) ∧ H st = some (.tup [.int ((p.1 : Nat) : Int)]) ∧ Dp K H0 x p.2
theorem partR0_same {K : PySem.W.Frag} {H0 H H' : Hp} (sm : Same H H') {r : V} {p : Nat × PyData} (h : PartR0 K H0 H r p) : PartR0 K H0 H' r p := by
  obtain ⟨q, st, x, h1, h2, h3, h4⟩ := h
  exact ⟨q, st, x, h1, sm _ _ h2, sm _ _ h3, h4⟩
theorem partR0_put {K : PySem.W.Frag} {H0 H : Hp} {D : Addr} {l l' : List V} (hD : H D = some (.lst l)) {r : V} {p : Nat × PyData} (h : PartR0 K H0 H r p) : PartR0 K H0 (upd H D (.lst l')) r p := by
  obtain ⟨q, st, x, h1, h2, h3, h4⟩ := h
  exact ⟨q, st, x, h1, by rw [upd_ne (fun e => by rw [e, hD] at h2; cases h2)]; exact h2, by rw [upd_ne (fun e => by rw [e, hD] at h3; cases h3)]; exact h3, h4⟩
theorem partR_of {K : PySem.W.Frag} {H0 H : Hp} (sm : Same H0 H) {r : V} {p : Nat × PyData} (h : PartR0 K H0 H r p) : PartR K H r p := by
  obtain ⟨q, st, x, h1, h2, h3, h4⟩ := h
  exact ⟨q, st, x, h1, h2, h3, dp_same sm _ _ h4⟩
theorem paired_imp {α β : Type} {F G : α → β → Prop} (h : ∀ a b, F a b → G a b) : ∀ {l1 : List α} {l2 : List β}, Paired F l1 l2 → Paired G l1 l2
  | _, _, .nil => .nil
  | _, _, .cons h1 h2 => .cons (h _ _ h1) (paired_imp h h2)
theorem paired_len {α β : Type} {F : α → β → Prop} : ∀ {l1 : List α} {l2 : List β}, Paired F l1 l2 → l1.length = l2.length
  | _, _, .nil => rfl
  | _, _, .cons _ h2 => congrArg Nat.succ (paired_len h2)
/-- a list of parts -/
def PartsAt (K : PySem.W.Frag) (H : Hp) (D : Addr) (ps : List (Nat × PyData)) : Prop := ∃ rs, H D = some (.lst rs) ∧ Paired (PartR K H) rs ps
section
variable {P : Program} {w : World} {K : PySem.W.Frag} {mg : Str → Option Value} {base : Heap}
theorem scPartsIn : FnScope ["e", "found", "at", "sort", "index", "part"] ["e"] (defScope sPartsIn) := ⟨rfl, rfl, rfl, by decide +kernel, rfl, by decide +kernel, by decide +kernel⟩
def spPartsIn (K : PySem.W.Frag) : Sp := fun vs H Q _ => ∃ v t, vs = [v] ∧ Dp K H v t ∧ good t ∧ formM t = true ∧ headM t ∈ hdsL ∧ ∀ D H', Same H H' → H D = none → PartsAt K H' D (partsM t) → Q (.ref D) H'
theorem ok_partsIn {f d : Addr} {ets : List (Str × Addr)} {fd : FuncData} {k : Nat} (B : Bn7 mg) (X : Exs K w mg d ets) (F : Fun K "parts_in" "parts_in" sPartsIn f fd) :
    FnOk P w K mg base CX0 (k + 1) f fd ["e"] (spPartsIn K) := by
  refine F.ok scPartsIn (fun vs H Q E h => ?_) (fun cdv A outer s H vs Q E hr h => ?_)
  · obtain ⟨v, t, rfl, _⟩ := h
    rfl
  · obtain ⟨v, t, rfl, hd, hg, hf, hh, q⟩ := h
    refine ⟨_, pss_cons (ps_set (i := 1) scPartsIn.nd rfl (Or.inl rfl) (pe_lst pa_nil))
      (pss_cons (ps_for PassesOwn.never rfl (pi_enumT (by rfl) B.enu (pa_cons (pe_ix ix_kdict (pe_glob (v := .ref d) rfl X.mgE rfl) (pe_ix ix_tup (pv 0) pe_int (fun _ _ => rfl)) (fun _ _ => rfl)) (pa_cons pe_int pa_nil)))
          (pg_tup (by rfl) (pgs_cons (pg_name (i := 2) scPartsIn.nd rfl (Or.inr rfl)) (pgs_cons (pg_name (i := 3) scPartsIn.nd rfl (Or.inl rfl)) pgs_nil)))
        (pss_one (ps_if (pt_cmpR op_eq (pv 3) pe_str (nomark _))
          (pss_one (ps_expr (pe_bm PySem.F.plainAttrs_list PySem.F.slot_list_append PySem.F.type_list_append mt_append (pv 1) (pa_cons (pe_tup (pa_cons (pe_tup (pa_cons (pv 2) pa_nil)) (pa_cons (pe_ix ix_tup (pv 0) (pv 2) (fun _ _ => rfl)) pa_nil))) pa_nil))))
          (pss_one (ps_if (pt_cmpR op_eq (pv 3) pe_str (nomark _)) pss_no pss_nil)))))
      (pss_one (ps_ret (pv 1)))), ?_⟩
    obtain ⟨z, ds, so, rfl, el, hl, ef⟩ := form_head (form_headed hf)
    have hz : z ∈ hdsL := hh
    obtain ⟨nx, hl3⟩ := hds_sorts hz el
    cases hd with
    | @tup a xs _ hsq ha =>
    cases ha with
    | @cons x xs _ _ h1 h2 =>
    cases h1
    have hlx : xs.length = ds.length := dp_len h2
    rcases pair_look (h := z) X.sorts with ⟨n1, n2⟩ | ⟨b, so', n1, n2, n3⟩
    · rw [el] at n2; cases n2
    rw [el] at n2
    cases n2
    have da : DpAll K H (.str z :: xs) (.str z :: ds) := .cons (.str _) h2
    refine ⟨Nat.zero_le _, fun D hD => ?_⟩
    have s0 := same_new hD (.lst [])
    refine ⟨_, rfl, a, _, 0, _, rfl, rfl, sqT_same s0 hsq, atI_nat (j := 0) rfl, ?_⟩
    refine ⟨d, z, .ref b, rfl, rfl, X.kd _ (look_mem n1), ?_⟩
    refine ⟨b, 1, so.map V.str, rfl, by omega, by omega, n3.sq _, ?_⟩
    refine for_it (walk_enumT (xs := so.map V.str)) (fun i σ H' => ∃ y1 y2, σ = [some (.ref a), some (.ref D), y1, y2, none, none] ∧ Same H H' ∧ ∃ rs, H' D = some (.lst rs) ∧ Paired (PartR0 K H H') rs (selM (argM (.tuple (.str z :: ds))) 1 (so.take i)))
      ⟨none, none, rfl, s0, [], upd_same, .nil⟩ (fun i σ H' _ h => n3.sq _) ?_ ?_
    · rintro i x σ H1 H2 hi ⟨y1, y2, rfl, sm, rs, hrs, hpr⟩ ⟨T, x1, x2, rfl, hT, rfl, ex1, ex2⟩
      cases ex1
      have ex2 : (so.map V.str)[i]? = some x2 := ex2
      rw [List.getElem?_map] at ex2
      obtain ⟨so1, es, rfl⟩ : ∃ s1, so[i]? = some s1 ∧ x2 = V.str s1 := by
        cases e : so[i]? with
        | none => rw [e] at ex2; cases ex2
        | some s1 => rw [e] at ex2; exact ⟨s1, rfl, (Option.some.inj ex2).symm⟩
      have hi' : i < so.length := (List.getElem?_eq_some_iff.mp es).1
      have st := same_new hT (.tup [.int (1 + (i : Int)), .str so1])
      refine ⟨T, _, rfl, SqT.of upd_same, rfl, _, _, rfl, _, [], rfl, rfl, ?_⟩
      have et : so.take (i + 1) = so.take i ++ [so1] := by rw [List.take_add_one, es]; rfl
      have hlt : (so.take i).length = i := by rw [List.length_take]; omega
      refine ⟨_, rfl, rfl, _, rfl, ?_⟩
      by_cases e1 : so1 = "expression"
      · subst e1
        refine ifT (decide_eq_true rfl) ?_
        have sl : (upd H1 T (.tup [.int (1 + (i : Int)), .str "expression"])) D = some (.lst rs) := st _ _ hrs
        obtain ⟨x0, ex0⟩ : ∃ x0, (V.str z :: xs)[1 + i]? = some x0 := ⟨_, List.getElem?_eq_getElem (by simp; omega)⟩
        obtain ⟨d0, ed0, dd0⟩ := dp_get da ex0
        refine ⟨_, rfl, .inl ⟨rfl, _, SqL.of sl⟩, _, rfl, by show 1 ≤ sizeLine; decide, fun q1 hq1 => ?_⟩
        have st1 := same_new hq1 (.tup [.int (1 + (i : Int))])
        refine ⟨_, rfl, _, rfl, a, _, _, x0, rfl, rfl, sqT_same ((sm.trans st).trans st1) hsq, by rw [show (1 : Int) + (i : Int) = ((1 + i : Nat) : Int) by omega]; exact atI_nat ex0, by show 2 ≤ sizeLine; decide, fun q2 hq2 => ?_⟩
        have st2 := same_new hq2 (.tup [.ref q1, x0])
        refine ⟨D, _, _, rfl, rfl, st2 _ _ (st1 _ _ sl), small' (by have := paired_len hpr; have := sel_len (argM (.tuple (.str z :: ds))) 1 (so.take i); omega), ?_⟩
        have sl2 := st2 _ _ (st1 _ _ sl)
        refine ⟨_, _, rfl, same_put (((sm.trans st).trans st1).trans st2) hD _, _, upd_same, ?_⟩
        rw [et, selM_snoc, if_pos rfl, hlt]
        refine (paired_imp (fun _ _ h => partR0_put sl2 (partR0_same ((st.trans st1).trans st2) h)) hpr).snoc ?_
        refine partR0_put sl2 ⟨q2, q1, x0, rfl, upd_same, ?_, ?_⟩
        · have := st2 _ _ (upd_same (H := upd H1 T (.tup [.int (1 + (i : Int)), .str "expression"])) (a := q1) (o := .tup [.int (1 + (i : Int))]))
          rw [show (((1 + i : Nat)) : Int) = 1 + (i : Int) by omega]
          exact this
        · have : argM (.tuple (.str z :: ds)) (1 + i) = d0 := by
            show (PyData.str z :: ds).getD (1 + i) .none = d0
            rw [List.getD_eq_getElem?_getD, ed0]; rfl
          show Dp K H x0 (argM (.tuple (.str z :: ds)) (1 + i))
          rw [this]
          exact dd0
      · refine ifF (decide_eq_false fun e => e1 (V.str.inj e)) ?_
        have e2 : so1 ≠ "expressions" := fun e => nx (e ▸ List.mem_of_getElem? es)
        refine ⟨_, rfl, rfl, _, rfl, ifF (decide_eq_false fun e => e2 (V.str.inj e)) ?_⟩
        refine ⟨_, _, rfl, sm.trans st, rs, st _ _ hrs, ?_⟩
        rw [et, selM_snoc, if_neg e1, List.append_nil]
        exact paired_imp (fun _ _ => partR0_same st) hpr
    · rintro σ H3 ⟨y1, y2, rfl, sm, hpa⟩
      rw [List.length_map, List.take_length] at hpa
      refine ⟨_, rfl, q D H3 sm hD ?_⟩
      rw [sel_parts hz el]
      obtain ⟨rs, h1, h2⟩ := hpa
      exact ⟨rs, h1, paired_imp (fun _ _ => partR_of sm) h2⟩
end
end DS
set_option Elab.async false
set_option linter.all false
set_option maxRecDepth 100000
set_option maxHeartbeats 4000000
/-! ### C(), a class without an __init__ of its own -/
namespace DS
open PySem PySem.Spec PyProof.Rows L2
structure MkO (K : PySem.W.Frag) (C : Addr) : Prop where
  makes : PySem.W.makesIn K C = true
  init : PySem.W.findIn K (.ref C) "__init__" = some (some (.builtin "object.__init__"))
  kp : PySem.W.keepIn K (.ref C) = true
def tMkO (C : Addr) : TE := fun _ H Q => ∀ x dx, H x = none → H dx = none → dx ≠ x → Q (.ref x) (upd (upd H dx (.own x)) x (.ins C dx []))
section
variable {X : Cx} {C : Addr} {x : Str} {p pos : Pos}
theorem run_mkO {pins : List (Addr × Obj)} {σ : L2.St} {H : Hp} {s : Shared} {Q : VK} (M : MkO X.K C) (I : Inv X pins σ H s) (h : tMkO C σ H Q) : wpAny (model X.prog X.w) X.A (call (.ref C) []) (EP X pins σ Q) X.xe s := by
  have hq := h (s.heap.objs.size + 1) s.heap.objs.size (I.hok.fresh (Nat.le_succ _)) (I.hok.fresh (Nat.le_refl _)) (Nat.ne_of_lt (Nat.lt_succ_self _))
  have I2 := Inv.made (C := C) I
  have kin := I.kIn
  obtain ⟨hh, g, d, t, os⟩ := s
  have Y := PySem.W.makes_of (M := model X.prog X.w) kin M.makes
  refine wpAny_call (PySem.W.make_core Y (PySem.W.looks_findIn kin M.init) (fun self => PySem.W.Looks.of_pure (PySem.W.oi_bind self)) (.inr ⟨rfl, rfl⟩) ?_)
  have e1 : ((hh.push PySem.W.emptyDict).push (PySem.W.instObj C hh.objs.size)).get? (hh.objs.size + 1) = some (PySem.W.instObj C hh.objs.size) := by
    have hs : hh.objs.size + 1 = (hh.push PySem.W.emptyDict).objs.size := by simp [Heap.push]
    rw [hs]
    exact Heap.get?_push_size _ rfl
  have t1 : PySem.W.Looks (model X.prog X.w) ((hh.push PySem.W.emptyDict).push (PySem.W.instObj C hh.objs.size)) (typeOf (.ref (hh.objs.size + 1))) (.ref C) := (PySem.W.Looks.ld e1).andThen .now
  have t2 : PySem.W.Looks (model X.prog X.w) ((hh.push PySem.W.emptyDict).push (PySem.W.instObj C hh.objs.size)) (isInstance (.ref (hh.objs.size + 1)) (.type "object")) true := t1.andThen (Y.top.keeps fun b o e => Heap.get?_push_of_some _ (Heap.get?_push_of_some _ e))
  refine codeAny_call_builtin PySem.W.oi_plain PySem.W.entry_oi (@PySem.W.check_slot (model X.prog X.w) _ _ _ "object.__init__" "object" "__init__" (.ref (hh.objs.size + 1)) [] [] _ PySem.W.oi_kind PySem.W.oi_split t2 (PySem.W.oi_args (.ref (hh.objs.size + 1))) ?_)
  rw [PySem.W.oi_run]
  exact wpAny_pure (And.intro rfl ⟨V.ref (hh.objs.size + 1), _, I2, rfl, hq⟩)
theorem pe_mkO (M : MkO X.K C) (hg : Gl X x) (hm : X.mg x = some (.ref C)) (hdb : (x == ("__debug__" : Str)) = false := by decide) : PE X (.Call (.Name x p) [] [] pos) (tMkO C) := by
  refine ⟨fun pins s σ H Q I h => ?_⟩
  refine wpAny_Call_Name_kw (ld_glob I hg hm ?_ hdb)
  exact PySem.W.callWith_K0 I.kIn M.kp (run_mkO M I h)
end
end DS
set_option Elab.async false
set_option linter.all false
set_option maxRecDepth 100000
set_option maxHeartbeats 4000000
namespace DS
open PySem L2 PySem.NumText
abbrev sWd (i : Nat) : Stmt := inClass (top 44) i
abbrev sKS (i : Nat) : Stmt := inClass (top 45) i
abbrev sColK : Stmt := top 47
abbrev sFunOf : Stmt := top 49
abbrev sThere : Stmt := top 50
/-- a dict of kinds -/
def kdKV (l : Kinds) : List (Key × V) := l.map fun e => (Sum.inr e.1, .str e.2)
theorem val_kdKV (h : Str) : ∀ l : Kinds, valV (kdKV l) (Sum.inr h) = (l.lookup h).map V.str
  | [] => rfl
  | (x, a) :: l => by
    rw [List.lookup_cons]
    by_cases hx : h = x
    · subst hx
      simp [valV, kdKV]
    · have h2 : ¬ ((Sum.inr x : Key) = Sum.inr h) := fun e => hx (Sum.inr.inj e).symm
      rw [beq_eq_false_iff_ne.mpr hx]
      have := val_kdKV h l
      rw [← this]
      simp [valV, kdKV, h2]
theorem kd_get {H : Hp} {a : Addr} {l : Kinds} (h : H a = some (.dK (kdKV l))) (x : Str) : DGet H a (.str x) ((l.lookup x).map V.str) := by
  have := DGet.k (k := .inr x) h
  rw [val_kdKV] at this
  exact this
theorem kdV_map (o : Option Str) : (o.map V.str).getD .non = kdV o := by cases o <;> rfl
/-- the two classes -/
structure Wd (K : PySem.W.Frag) (mg : Str → Option Value) (CW CS : Addr) : Prop where
  clW : Cls K CW
  clS : Cls K CS
  nW : NoAttr K CS "world"
  nC : NoAttr K CS "columns"
  nV : NoAttr K CS "variables"
  nQ : NoAttr K CS "is_quiet"
  nH : NoAttr K CS "is_handling"
def sFlds (wa ca va : Addr) : List (Str × V) := [("world", .ref wa), ("columns", .ref ca), ("variables", .ref va), ("is_quiet", .bl false), ("is_handling", .bl false)]
theorem sf_w (wa ca va : Addr) : List.lookup ("world" : Str) (sFlds wa ca va) = some (.ref wa) := by rfl
theorem sf_c (wa ca va : Addr) : List.lookup ("columns" : Str) (sFlds wa ca va) = some (.ref ca) := by rfl
theorem sf_v (wa ca va : Addr) : List.lookup ("variables" : Str) (sFlds wa ca va) = some (.ref va) := by rfl
theorem sf_q (wa ca va : Addr) : List.lookup ("is_quiet" : Str) (sFlds wa ca va) = some (.bl false) := by rfl
theorem sf_h (wa ca va : Addr) : List.lookup ("is_handling" : Str) (sFlds wa ca va) = some (.bl false) := by rfl
/-- a scope stands at p -/
structure ScAt (CW CS : Addr) (cols vars : Kinds) (H : Hp) (p : Addr) : Prop where
  ex : ∃ dx dw wa ca va, H p = some (.ins CS dx (sFlds wa ca va)) ∧ H wa = some (.ins CW dw []) ∧ H ca = some (.dK (kdKV cols)) ∧ H va = some (.dK (kdKV vars))
theorem ScAt.same {CW CS : Addr} {cols vars : Kinds} {H H' : Hp} {p : Addr} (h : ScAt CW CS cols vars H p) (sm : Same H H') : ScAt CW CS cols vars H' p := by
  obtain ⟨dx, dw, wa, ca, va, h1, h2, h3, h4⟩ := h.ex
  exact ⟨dx, dw, wa, ca, va, sm _ _ h1, sm _ _ h2, sm _ _ h3, sm _ _ h4⟩
section
variable {P : Program} {w : World} {K : PySem.W.Frag} {mg : Str → Option Value} {base : Heap} {CW CS : Addr}
/-! ### NoWorld -/
theorem scProg : FnScope ["self"] ["self"] (defScope (sWd 0)) := ⟨rfl, rfl, rfl, by decide +kernel, rfl, by decide +kernel, by decide +kernel⟩
def spProg : Sp := fun vs H Q _ => ∃ p, vs = [.ref p] ∧ ∀ d H', Same H H' → H' d = some (.dK []) → Q (.ref d) H'
theorem ok_prog {f : Addr} {fd : FuncData} {k : Nat} (F : Fun K "programs" "NoWorld.programs" (sWd 0) f fd) : FnOk P w K mg base CX0 (k + 1) f fd ["self"] spProg := by
  refine F.ok scProg (fun vs H Q E h => ?_) (fun cdv A outer s H vs Q E hr h => ?_)
  · obtain ⟨p, rfl, _⟩ := h
    rfl
  · obtain ⟨p, rfl, q⟩ := h
    refine ⟨_, pss_one (ps_ret pe_dnewK), ?_⟩
    exact fun d hd => q d _ (same_new hd _) upd_same
theorem scColsOf : FnScope ["self", "word"] ["self", "word"] (defScope (sWd 1)) := ⟨rfl, rfl, rfl, by decide +kernel, rfl, by decide +kernel, by decide +kernel⟩
def spCst (v : V) : Sp := fun vs H Q _ => ∃ x y, vs = [x, y] ∧ Q v H
theorem ok_colsOf {f : Addr} {fd : FuncData} {k : Nat} (F : Fun K "columns_of" "NoWorld.columns_of" (sWd 1) f fd) : FnOk P w K mg base CX0 (k + 1) f fd ["self", "word"] (spCst .non) := by
  refine F.ok scColsOf (fun vs H Q E h => ?_) (fun cdv A outer s H vs Q E hr h => ?_)
  · obtain ⟨x, y, rfl, _⟩ := h
    rfl
  · obtain ⟨x, y, rfl, q⟩ := h
    exact ⟨_, pss_one (ps_ret pe_non), q⟩
theorem scHasSeq : FnScope ["self", "word"] ["self", "word"] (defScope (sWd 2)) := ⟨rfl, rfl, rfl, by decide +kernel, rfl, by decide +kernel, by decide +kernel⟩
theorem ok_hasSeq {f : Addr} {fd : FuncData} {k : Nat} (F : Fun K "has_sequence" "NoWorld.has_sequence" (sWd 2) f fd) : FnOk P w K mg base CX0 (k + 1) f fd ["self", "word"] (spCst (.bl false)) := by
  refine F.ok scHasSeq (fun vs H Q E h => ?_) (fun cdv A outer s H vs Q E hr h => ?_)
  · obtain ⟨x, y, rfl, _⟩ := h
    rfl
  · obtain ⟨x, y, rfl, q⟩ := h
    exact ⟨_, pss_one (ps_ret pe_bl), q⟩
/-! ### column_kind -/
theorem scColK : FnScope ["scope", "word"] ["scope", "word"] (defScope sColK) := ⟨rfl, rfl, rfl, by decide +kernel, rfl, by decide +kernel, by decide +kernel⟩
def spColK (CW CS : Addr) (cols vars : Kinds) : Sp := fun vs H Q _ => ∃ p x, vs = [.ref p, .str x] ∧ ScAt CW CS cols vars H p ∧ Q (kdV (cols.lookup x)) H
theorem ok_colK {f : Addr} {fd : FuncData} {k : Nat} {cols vars : Kinds} (W : Wd K mg CW CS) (F : Fun K "column_kind" "column_kind" sColK f fd) : FnOk P w K mg base CX0 (k + 1) f fd ["scope", "word"] (spColK CW CS cols vars) := by
  refine F.ok scColK (fun vs H Q E h => ?_) (fun cdv A outer s H vs Q E hr h => ?_)
  · obtain ⟨p, x, rfl, _⟩ := h
    rfl
  · obtain ⟨p, x, rfl, hS, q⟩ := h
    have hu : (A.deeper (PyProof.Rows.envOfC "column_kind" (defScope sColK) s.heap.objs.size f cdv)).units + 64 < cLine := hr.units
    have hu1 : (A.deeper (PyProof.Rows.envOfC "column_kind" (defScope sColK) s.heap.objs.size f cdv)).units + 1 < cLine := by omega
    refine ⟨_, pss_one (ps_ret (pe_ifExp (pt_cmp (pc_isN (pe_fld (pv 0) rfl))) pe_non (pe_dget1 hu1 (pe_fld (pv 0) rfl) (pv 1) ⟨rfl, rfl, rfl, rfl⟩))), ?_⟩
    obtain ⟨dx, dw, wa, ca, va, h1, h2, h3, h4⟩ := hS.ex
    refine ⟨_, rfl, p, CS, dx, _, _, rfl, h1, W.clS, W.nC, sf_c _ _ _, _, rfl, iteF ?_⟩
    refine ⟨_, rfl, p, CS, dx, _, _, rfl, h1, W.clS, W.nC, sf_c _ _ _, ca, rfl, .inl ⟨_, .inl h3⟩, _, rfl, _, kd_get h3 x, ?_⟩
    rw [kdV_map]
    exact q
/-! ### function_of -/
theorem scFunOf : FnScope ["scope", "word", "program"] ["scope", "word"] (defScope sFunOf) := ⟨rfl, rfl, rfl, by decide +kernel, rfl, by decide +kernel, by decide +kernel⟩
def spFunOf (CW CS : Addr) (cols vars : Kinds) : Sp := fun vs H Q _ => ∃ p x, vs = [.ref p, .str x] ∧ ScAt CW CS cols vars H p ∧ ∀ H', Same H H' → Q .non H'
theorem ok_funOf {f pp g : Addr} {fd fdg : FuncData} {k : Nat} {cols vars : Kinds} (W : Wd K mg CW CS) (PR : PropOf K CW "programs" pp g) (Fg : Fun K "programs" "NoWorld.programs" (sWd 0) g fdg) (bg : Binds K fdg ["self"] [])
    (F : Fun K "function_of" "function_of" sFunOf f fd) : FnOk P w K mg base CX0 (k + 3) f fd ["scope", "word"] (spFunOf CW CS cols vars) := by
  have G : FnOk P w K mg base CX0 1 g fdg ["self"] spProg := ok_prog Fg
  refine F.ok scFunOf (fun vs H Q E h => ?_) (fun cdv A outer s H vs Q E hr h => ?_)
  · obtain ⟨p, x, rfl, _⟩ := h
    rfl
  · obtain ⟨p, x, rfl, hS, q⟩ := h
    have hu : (A.deeper (PyProof.Rows.envOfC "function_of" (defScope sFunOf) s.heap.objs.size f cdv)).units + 64 < cLine := hr.units
    have hu1 : (A.deeper (PyProof.Rows.envOfC "function_of" (defScope sFunOf) s.heap.objs.size f cdv)).units + 1 < cLine := by omega
    refine ⟨_, pss_cons (ps_set (i := 2) scFunOf.nd rfl (Or.inl rfl) (pe_dget1 hu1 (pe_prop (pe_fld (pv 0) rfl) W.clW PR G (hr.mono (by omega)) bg .nil pass0 rfl) (pv 1) ⟨rfl, rfl, rfl, rfl⟩))
      (pss_one (ps_ret (pe_ifExp (PW.pt (pw_and (pt_cmp (pc_notN (pv 2))) (pw_and1 pt_no))) (pv 2) pe_non))), ?_⟩
    obtain ⟨dx, dw, wa, ca, va, h1, h2, h3, h4⟩ := hS.ex
    refine ⟨_, rfl, p, CS, dx, _, _, rfl, h1, W.clS, W.nW, sf_w _ _ _, wa, dw, _, rfl, h2, wa, rfl, fun d H1 sm hd => ?_⟩
    refine ⟨d, rfl, .inl ⟨_, .inl hd⟩, _, rfl, _, DGet.k (k := .inr x) hd, ?_⟩
    exact ⟨_, rfl, _, rfl, iteF (iteF (q H1 sm))⟩
end
end DS
set_option Elab.async false
set_option linter.all false
set_option maxRecDepth 100000
set_option maxHeartbeats 4000000
namespace DS
open PySem L2 PySem.NumText
theorem neS {a b : Str} (h : a ≠ b) : decide (V.str a = V.str b) = false := decide_eq_false fun e => h (V.str.inj e)
theorem eqS (a : Str) : decide (V.str a = V.str a) = true := decide_eq_true rfl
def wordHds : List Str := ["var", "col", "field", "count", "sum", "least", "most", "number", "call"]
def plainHds : List Str := ["value", "op", "not", "null", "case"]
def gathL : List Str := ["count", "sum", "least", "most"]
theorem hd_word : ∀ z ∈ wordHds, ∃ so : List Str, exprs.lookup z = some (("word" : Str) :: so) := by
  intro z h
  simp only [wordHds, List.mem_cons, List.mem_nil_iff, or_false] at h
  rcases h with rfl | rfl | rfl | rfl | rfl | rfl | rfl | rfl | rfl <;> first | exact ⟨((exprs.lookup ("var" : Str)).getD []).drop 1, by decide +kernel⟩ | exact ⟨((exprs.lookup ("field" : Str)).getD []).drop 1, by decide +kernel⟩ | exact ⟨((exprs.lookup ("count" : Str)).getD []).drop 1, by decide +kernel⟩ | exact ⟨((exprs.lookup ("sum" : Str)).getD []).drop 1, by decide +kernel⟩ | exact ⟨((exprs.lookup ("call" : Str)).getD []).drop 1, by decide +kernel⟩
theorem hd_all : ∀ x ∈ exprs, x.1 ∈ wordHds ∨ x.1 ∈ plainHds ∨ x.1 = "word" ∨ x.1 = "told" := by decide +kernel
theorem form_split {t : PyData} (h : formM t = true) : ∃ z ds, t = .tuple (.str z :: ds) ∧ ((∃ x r, z ∈ wordHds ∧ ds = .str x :: r) ∨ z ∈ plainHds ∨ z = "word" ∨ z = "told") := by
  obtain ⟨z, ds, so, rfl, el, hl, ef⟩ := form_head (form_headed h)
  refine ⟨z, ds, rfl, ?_⟩
  rcases hd_all _ (look_mem el) with h1 | h1 | h1 | h1
  · obtain ⟨so', e2⟩ := hd_word z h1
    rw [el] at e2
    cases e2
    rw [h] at ef
    cases ds with
    | nil => simp at hl
    | cons d ds =>
      have := partsOk_all.mp ef.symm 0 "word" d rfl rfl
      rw [pt_word] at this
      cases d with
      | str x => exact .inl ⟨x, ds, h1, rfl⟩
      | _ => cases this
  · exact .inr (.inl h1)
  · exact .inr (.inr (.inl h1))
  · exact .inr (.inr (.inr h1))
/-- whether the name of an expression is known -/
def thereM (cols vars : Kinds) (t : PyData) : Bool :=
  if headM t = "var" then (vars.lookup (strM1 (argM t 1))).isSome
  else if headM t = "col" then (cols.lookup (strM1 (argM t 1))).isSome
  else if headM t ∈ (["field", "count", "sum", "least", "most", "number", "call"] : List Str) then false
  else true
section
variable {P : Program} {w : World} {K : PySem.W.Frag} {mg : Str → Option Value} {base : Heap} {CW CS : Addr}
theorem scThere : FnScope ["e", "scope", "head", "kind"] ["e", "scope"] (defScope sThere) := ⟨rfl, rfl, rfl, by decide +kernel, rfl, by decide +kernel, by decide +kernel⟩
def spThere (K : PySem.W.Frag) (CW CS : Addr) (cols vars : Kinds) : Sp := fun vs H Q _ => ∃ v t p, vs = [v, .ref p] ∧ Dp K H v t ∧ formM t = true ∧ headM t ≠ "word" ∧ headM t ≠ "told" ∧ ScAt CW CS cols vars H p ∧ ∀ H', Same H H' → Q (.bl (thereM cols vars t)) H'
theorem ok_there {f fC fq : Addr} {fd fdC fdq : FuncData} {k : Nat} {cols vars : Kinds} (B : Bn7 mg) (W : Wd K mg CW CS) (mG : ∃ a, mg "GATHERING" = some (.ref a) ∧ KSq K a (gathL.map V.str))
    (DC : Cal P w K mg base CX0 1 "column_kind" ["scope", "word"] [] (spColK CW CS cols vars)) (DF : Cal P w K mg base CX0 3 "function_of" ["scope", "word"] [] (spFunOf CW CS cols vars))
    (MC : MM K CW "columns_of" "NoWorld.columns_of" (sWd 1) ["self", "word"] fC fdC) (MQ : MM K CW "has_sequence" "NoWorld.has_sequence" (sWd 2) ["self", "word"] fq fdq)
    (F : Fun K "is_there" "is_there" sThere f fd) : FnOk P w K mg base CX0 (k + 4) f fd ["e", "scope"] (spThere K CW CS cols vars) := by
  have GC : FnOk P w K mg base CX0 1 fC fdC ["self", "word"] (spCst .non) := ok_colsOf MC.F
  have GQ : FnOk P w K mg base CX0 1 fq fdq ["self", "word"] (spCst (.bl false)) := ok_hasSeq MQ.F
  obtain ⟨f1, fd1, ds1, e1, k1, v1, b1, G1⟩ := DC.ex
  obtain ⟨f2, fd2, ds2, e2, k2, v2, b2, G2⟩ := DF.ex
  obtain ⟨aG, mG, hG⟩ := mG
  refine F.ok scThere (fun vs H Q E h => ?_) (fun cdv A outer s H vs Q E hr h => ?_)
  · obtain ⟨v, t, p, rfl, _⟩ := h
    rfl
  · obtain ⟨v, t, p, rfl, hd, hf, nw, nt, hS, q⟩ := h
    have hu : (A.deeper (PyProof.Rows.envOfC "is_there" (defScope sThere) s.heap.objs.size f cdv)).units + 64 < cLine := hr.units
    have hu1 : (A.deeper (PyProof.Rows.envOfC "is_there" (defScope sThere) s.heap.objs.size f cdv)).units + 1 < cLine := by omega
    refine ⟨_, pss_cons (ps_set (i := 2) scThere.nd rfl (Or.inl rfl) (pe_ix ix_tup (pv 0) pe_int (fun _ _ => rfl)))
      (pss_cons (ps_if (pt_cmpR op_eq (pv 2) pe_str (nomark _)) (pss_one (ps_ret (pe_cmp (pc_din hu1 (pe_ix ix_tup (pv 0) pe_int (fun _ _ => rfl)) (pe_fld (pv 1) rfl))))) pss_nil)
      (pss_cons (ps_if (pt_cmpR op_eq (pv 2) pe_str (nomark _)) (pss_one (ps_ret (pe_cmp (pc_notN (pe_call G1 (hr.mono (by omega)) rfl e1 k1 b1 v1 pass0 (pa_cons (pv 1) (pa_cons (pe_ix ix_tup (pv 0) pe_int (fun _ _ => rfl)) pa_nil))))))) pss_nil)
      (pss_cons (ps_if (pt_cmpR op_eq (pv 2) pe_str (nomark _)) (pss_cons (ps_set (i := 3) scThere.nd rfl (Or.inl rfl) (pe_dget1 hu1 (pe_fld (pv 1) rfl) (pe_ix ix_tup (pv 0) pe_int (fun _ _ => rfl)) ⟨rfl, rfl, rfl, rfl⟩))
          (pss_one (ps_ret (pe_and (pe_callB call_isi (by rfl) B.isi boot_isi (pa_cons (pv 3) (pa_cons (pe_bltn (v := .ty "tuple") (by rfl) B.tup PyProof.Rows.boot_tuple rfl) pa_nil))) (pe_one pe_no))))) pss_nil)
      (pss_cons (ps_if (pt_cmpR (show OpR _ (compareOp .In) (rIn K false) from op_in_seq) (pv 2) (pe_glob (v := .ref aG) rfl mG rfl) (by rfl)) (pss_one (ps_ret (pe_cmp (pc_notN (pe_meth (pe_fld (pv 1) rfl) W.clW MC.m GC (hr.mono (by omega)) MC.b .nil pass0 (pa_cons (pe_ix ix_tup (pv 0) pe_int (fun _ _ => rfl)) pa_nil)))))) pss_nil)
      (pss_cons (ps_if (pt_cmpR op_eq (pv 2) pe_str (nomark _)) (pss_one (ps_ret (pe_meth (pe_fld (pv 1) rfl) W.clW MQ.m GQ (hr.mono (by omega)) MQ.b .nil pass0 (pa_cons (pe_ix ix_tup (pv 0) pe_int (fun _ _ => rfl)) pa_nil)))) pss_nil)
      (pss_one (ps_ret (pe_or (pe_cmpR op_ne (pv 2) pe_str (nomark _)) (pe_one (pe_cmp (pc_notN (pe_call G2 (hr.mono (by omega)) rfl e2 k2 b2 v2 pass0 (pa_cons (pv 1) (pa_cons (pe_ix ix_tup (pv 0) pe_int (fun _ _ => rfl)) pa_nil)))))))))))))), ?_⟩
    obtain ⟨z, ds, rfl, hz⟩ := form_split hf
    obtain ⟨dx, dw, wa, ca, va, h1, h2, h3, h4⟩ := hS.ex
    cases hd with
    | @tup a xs _ hsq ha =>
    cases ha with
    | @cons x xs _ _ d1 d2 =>
    cases d1
    refine ⟨_, rfl, a, _, 0, _, rfl, rfl, hsq, atI_nat (j := 0) rfl, ?_⟩
    have fin : ∀ {b : Bool} {H' : Hp}, Same H H' → thereM cols vars (.tuple (.str z :: ds)) = b → Q (.bl b) H' := fun sm e => by have := q _ sm; rw [e] at this; exact this
    rcases hz with ⟨w1, r, hw, rfl⟩ | hp | rfl | rfl
    · cases d2 with
      | @cons x xs _ _ d2 d3 =>
      cases d2
      have a1 : atI (V.str z :: V.str w1 :: xs) 1 = some (V.str w1) := atI_nat (j := 1) rfl
      simp only [wordHds, List.mem_cons, List.mem_nil_iff, or_false] at hw
      rcases hw with rfl | rfl | rfl | rfl | rfl | rfl | rfl | rfl | rfl
      · -- var
        refine ⟨_, rfl, rfl, _, rfl, ifT (eqS _) ?_⟩
        refine ⟨_, rfl, a, _, 1, _, rfl, rfl, hsq, a1, _, rfl, p, CS, dx, _, _, rfl, h1, W.clS, W.nV, sf_v _ _ _, va, _, rfl, kd_get h4 w1, fin (Same.refl _) ?_⟩
        show (vars.lookup w1).isSome = _
        cases vars.lookup w1 <;> rfl
      · -- col
        refine ⟨_, rfl, rfl, _, rfl, ifF (neS (by decide)) ⟨_, rfl, rfl, _, rfl, ifT (eqS _) ?_⟩⟩
        refine ⟨_, rfl, _, rfl, a, _, 1, _, rfl, rfl, hsq, a1, p, w1, rfl, hS, fin (Same.refl _) ?_⟩
        show (cols.lookup w1).isSome = _
        cases cols.lookup w1 <;> simp [kdV]
      · -- field
        refine ⟨_, rfl, rfl, _, rfl, ifF (neS (by decide)) ⟨_, rfl, rfl, _, rfl, ifF (neS (by decide)) ⟨_, rfl, rfl, _, rfl, ifT (eqS _) ?_⟩⟩⟩
        refine ⟨_, rfl, p, CS, dx, _, _, rfl, h1, W.clS, W.nV, sf_v _ _ _, va, rfl, .inl ⟨_, .inl h4⟩, _, rfl, a, _, 1, _, rfl, rfl, hsq, a1, _, kd_get h4 w1, ?_⟩
        rw [kdV_map]
        refine ⟨_, rfl, _, _, _, _, false, rfl, .ty _, (show TyX K H (kdV (vars.lookup w1)) (.type (match vars.lookup w1 with | none => "NoneType" | some _ => "str")) from by cases vars.lookup w1 with
          | none => exact .base .non
          | some y => exact .base (.str y)), ?_, _, rfl, iteF (fin (Same.refl _) rfl)⟩
        cases vars.lookup w1 with
        | none => exact kit_ty (by decide +kernel)
        | some y => exact kit_ty (show kitB "str" "tuple" = some false by decide +kernel)
      · -- gathering
        refine ⟨_, rfl, rfl, _, rfl, ifF (neS (by decide)) ⟨_, rfl, rfl, _, rfl, ifF (neS (by decide)) ⟨_, rfl, rfl, _, rfl, ifF (neS (by decide)) ?_⟩⟩⟩
        refine ⟨_, rfl, aG, _, rfl, .inr (hG.sq _), rfl, flat_strs gathL, _, rfl, ?_⟩
        refine ifT (show inV _ (gathL.map V.str) = true by rw [in_strs]; decide) ?_
        exact ⟨_, rfl, p, CS, dx, _, _, rfl, h1, W.clS, W.nW, sf_w _ _ _, wa, dw, _, rfl, h2, rfl, _, rfl, a, _, 1, _, rfl, rfl, hsq, a1, _, _, rfl, fin (Same.refl _) rfl⟩
      · -- gathering
        refine ⟨_, rfl, rfl, _, rfl, ifF (neS (by decide)) ⟨_, rfl, rfl, _, rfl, ifF (neS (by decide)) ⟨_, rfl, rfl, _, rfl, ifF (neS (by decide)) ?_⟩⟩⟩
        refine ⟨_, rfl, aG, _, rfl, .inr (hG.sq _), rfl, flat_strs gathL, _, rfl, ?_⟩
        refine ifT (show inV _ (gathL.map V.str) = true by rw [in_strs]; decide) ?_
        exact ⟨_, rfl, p, CS, dx, _, _, rfl, h1, W.clS, W.nW, sf_w _ _ _, wa, dw, _, rfl, h2, rfl, _, rfl, a, _, 1, _, rfl, rfl, hsq, a1, _, _, rfl, fin (Same.refl _) rfl⟩
      · -- gathering
        refine ⟨_, rfl, rfl, _, rfl, ifF (neS (by decide)) ⟨_, rfl, rfl, _, rfl, ifF (neS (by decide)) ⟨_, rfl, rfl, _, rfl, ifF (neS (by decide)) ?_⟩⟩⟩
        refine ⟨_, rfl, aG, _, rfl, .inr (hG.sq _), rfl, flat_strs gathL, _, rfl, ?_⟩
        refine ifT (show inV _ (gathL.map V.str) = true by rw [in_strs]; decide) ?_
        exact ⟨_, rfl, p, CS, dx, _, _, rfl, h1, W.clS, W.nW, sf_w _ _ _, wa, dw, _, rfl, h2, rfl, _, rfl, a, _, 1, _, rfl, rfl, hsq, a1, _, _, rfl, fin (Same.refl _) rfl⟩
      · -- gathering
        refine ⟨_, rfl, rfl, _, rfl, ifF (neS (by decide)) ⟨_, rfl, rfl, _, rfl, ifF (neS (by decide)) ⟨_, rfl, rfl, _, rfl, ifF (neS (by decide)) ?_⟩⟩⟩
        refine ⟨_, rfl, aG, _, rfl, .inr (hG.sq _), rfl, flat_strs gathL, _, rfl, ?_⟩
        refine ifT (show inV _ (gathL.map V.str) = true by rw [in_strs]; decide) ?_
        exact ⟨_, rfl, p, CS, dx, _, _, rfl, h1, W.clS, W.nW, sf_w _ _ _, wa, dw, _, rfl, h2, rfl, _, rfl, a, _, 1, _, rfl, rfl, hsq, a1, _, _, rfl, fin (Same.refl _) rfl⟩
      · -- number
        refine ⟨_, rfl, rfl, _, rfl, ifF (neS (by decide)) ⟨_, rfl, rfl, _, rfl, ifF (neS (by decide)) ⟨_, rfl, rfl, _, rfl, ifF (neS (by decide)) ?_⟩⟩⟩
        refine ⟨_, rfl, aG, _, rfl, .inr (hG.sq _), rfl, flat_strs gathL, _, rfl, ?_⟩
        refine ifF (show inV _ (gathL.map V.str) = false by rw [in_strs]; decide) ?_
        refine ⟨_, rfl, rfl, _, rfl, ifT (eqS _) ?_⟩
        exact ⟨_, rfl, p, CS, dx, _, _, rfl, h1, W.clS, W.nW, sf_w _ _ _, wa, dw, _, rfl, h2, rfl, _, rfl, a, _, 1, _, rfl, rfl, hsq, a1, _, _, rfl, fin (Same.refl _) rfl⟩
      · -- call
        refine ⟨_, rfl, rfl, _, rfl, ifF (neS (by decide)) ⟨_, rfl, rfl, _, rfl, ifF (neS (by decide)) ⟨_, rfl, rfl, _, rfl, ifF (neS (by decide)) ?_⟩⟩⟩
        refine ⟨_, rfl, aG, _, rfl, .inr (hG.sq _), rfl, flat_strs gathL, _, rfl, ?_⟩
        refine ifF (show inV _ (gathL.map V.str) = false by rw [in_strs]; decide) ?_
        refine ⟨_, rfl, rfl, _, rfl, ifF (neS (by decide)) ?_⟩
        refine ⟨_, rfl, rfl, _, rfl, ifF (by decide) ?_⟩
        exact ⟨_, rfl, _, rfl, a, _, 1, _, rfl, rfl, hsq, a1, p, w1, rfl, hS, fun H1 sm => fin sm rfl⟩
    · simp only [plainHds, List.mem_cons, List.mem_nil_iff, or_false] at hp
      rcases hp with rfl | rfl | rfl | rfl | rfl <;>
      · refine ⟨_, rfl, rfl, _, rfl, ifF (neS (by decide)) ⟨_, rfl, rfl, _, rfl, ifF (neS (by decide)) ⟨_, rfl, rfl, _, rfl, ifF (neS (by decide)) ?_⟩⟩⟩
        refine ⟨_, rfl, aG, _, rfl, .inr (hG.sq _), rfl, flat_strs gathL, _, rfl, ?_⟩
        refine ifF (show inV _ (gathL.map V.str) = false by rw [in_strs]; decide) ?_
        refine ⟨_, rfl, rfl, _, rfl, ifF (neS (by decide)) ?_⟩
        exact ⟨_, rfl, rfl, _, rfl, ifT (by decide) (fin (Same.refl _) rfl)⟩
    · exact absurd rfl nw
    · exact absurd rfl nt
end
end DS
set_option Elab.async false
set_option linter.all false
set_option maxRecDepth 100000
set_option maxHeartbeats 4000000
namespace DS
open PySem L2 PySem.NumText
abbrev sAllow : Stmt := top 51
def selW : List (Str × Nat) := [("word", 2), ("reason", 1), ("path", 0)]
def handL : List Str := ["word", "told"]
theorem ifB {b : Bool} {T U : Prop} (hT : T) (hU : T → U) : if b = true then U else T := by
  cases b with
  | false => exact iteF hT
  | true => exact iteT (hU hT)
/-- a path, as a value -/
def PathAt (K : PySem.W.Frag) (H : Hp) (v : V) (l : List Nat) : Prop := ∃ a, v = .ref a ∧ SqT K H a (l.map fun (n : Nat) => V.int (n : Int))
theorem PathAt.same {K : PySem.W.Frag} {H H' : Hp} {v : V} {l : List Nat} (h : PathAt K H v l) (sm : Same H H') : PathAt K H' v l := by
  obtain ⟨a, e, h⟩ := h
  exact ⟨a, e, sqT_same sm h⟩
/-- a Wrong with that reason and path may leave -/
def ErW (K : PySem.W.Frag) (CR : Addr) (E : XK) (H : Hp) (r : Str) (l : List Nat) : Prop := ∀ d wv pv H', Same H H' → H' d = some (.xd [("word", wv), ("reason", .str r), ("path", pv)]) → PathAt K H' pv l → E (.ref CR) (some d) H'
theorem ErW.mono {K : PySem.W.Frag} {CR : Addr} {E : XK} {H H1 : Hp} {r : Str} {l : List Nat} (e : ErW K CR E H r l) (s : Same H H1) : ErW K CR E H1 r l := fun d wv pv H' b h1 h2 => e d wv pv H' (s.trans b) h1 h2
theorem node_form {cols vars : Kinds} {t : PyData} (h : formM t = false) : nodeM cols vars t = some ("form" : Str) := by unfold nodeM; rw [if_pos h]
theorem node_hand {cols vars : Kinds} {t : PyData} (h : formM t = true) (hh : headM t ∈ handL) : nodeM cols vars t = some ("handler" : Str) := by
  simp only [handL, List.mem_cons, List.mem_nil_iff, or_false] at hh
  unfold nodeM
  rw [if_neg (by rw [h]; decide), if_pos hh]
theorem node_there {cols vars : Kinds} {t : PyData} (h : formM t = true) (hh : headM t ∉ handL) : nodeM cols vars t = if thereM cols vars t = true then none else some ("name" : Str) := by
  simp only [handL, List.mem_cons, List.mem_nil_iff, or_false] at hh
  unfold nodeM thereM
  rw [if_neg (by rw [h]; decide), if_neg hh]
  by_cases h1 : headM t = "var"
  · rw [if_pos h1, if_pos h1]
  · rw [if_neg h1, if_neg h1]
    by_cases h2 : headM t = "col"
    · rw [if_pos h2, if_pos h2]
    · rw [if_neg h2, if_neg h2]
      by_cases h3 : headM t ∈ (["field", "count", "sum", "least", "most", "number", "call"] : List Str)
      · rw [if_pos h3, if_pos h3]; rfl
      · rw [if_neg h3, if_neg h3]; rfl
section
variable {P : Program} {w : World} {K : PySem.W.Frag} {mg : Str → Option Value} {base : Heap} {CW CS CR : Addr}
/-- THE RULE for a def, whatever it may let out -/
theorem okG {CX : CXT} {x qual : Str} {st : Stmt} {f : Addr} {fd : FuncData} {N ps : List Str} {k : Nat} {sp : Sp} (F : Fun K x qual st f fd) (S : FnScope N ps (defScope st)) (len : ∀ vs H Q E, sp vs H Q E → vs.length = ps.length)
    (hbody : ∀ (cdv : Value) (A : Around) (outer : List Env) (s : Shared) (H : Hp) (vs : List V) (Q : VK) (E : XK), Room k (A.deeper (PyProof.Rows.envOfC qual (defScope st) s.heap.objs.size f cdv)) → sp vs H Q E →
      ∃ t, PSs (cxOf CX P w K mg base N qual (defScope st) f cdv A outer s H E) (defBody st) t ∧ t { nx := fun _ H' => Q .non H', rt := Q } (start N vs) H) : FnOk P w K mg base CX (k + 1) f fd ps sp := by
  obtain ⟨oc, od, kV, doc, pm, an, cdv, ct, osl, rfl, lk, hcd⟩ := F.ex
  exact fn_of lk hcd S len fun A outer s H vs Q E hr hsp => hbody cdv A outer s H vs Q E hr hsp
theorem scAllow : FnScope ["e", "scope", "path"] ["e", "scope", "path"] (defScope sAllow) := ⟨rfl, rfl, rfl, by decide +kernel, rfl, by decide +kernel, by decide +kernel⟩
def spAllow (K : PySem.W.Frag) (CW CS CR : Addr) (cols vars : Kinds) : Sp := fun vs H Q E => ∃ v t p pv l, vs = [v, .ref p, pv] ∧ Dp K H v t ∧ good t ∧ short t ∧ hgt t ≤ 60 ∧ ScAt CW CS cols vars H p ∧ PathAt K H pv l ∧
  (nodeM cols vars t = none → ∀ H', Same H H' → Q .non H') ∧ ∀ r, nodeM cols vars t = some r → ErW K CR E H r l
theorem ok_allow {f : Addr} {fd : FuncData} {k : Nat} {cols vars : Kinds} (W : Wd K mg CW CS) (T : ExOk P w K mg "Wrong" CR 3 selW) (mH : ∃ a, mg "HANDLING" = some (.ref a) ∧ KSq K a (handL.map V.str))
    (DF : Cal P w K mg base CX0 6 "has_form" ["e"] [] (spD K (fun t => hgt t ≤ 60) fun t => .bl (formM t))) (DH : Cal P w K mg base CX0 1 "head_of" ["e"] [] (spD K (fun t => hgt t ≤ 60) fun t => .str (headM t)))
    (DT : Cal P w K mg base CX0 4 "is_there" ["e", "scope"] [] (spThere K CW CS cols vars)) (F : Fun K "need_allowed" "need_allowed" sAllow f fd) :
    FnOk P w K mg base (L2N.CX P w) (k + 7) f fd ["e", "scope", "path"] (spAllow K CW CS CR cols vars) := by
  obtain ⟨f1, fd1, ds1, e1, k1, v1, b1, G1⟩ := DF.ex
  obtain ⟨f2, fd2, ds2, e2, k2, v2, b2, G2⟩ := DH.ex
  obtain ⟨f3, fd3, ds3, e3, k3, v3, b3, G3⟩ := DT.ex
  obtain ⟨aH, mH, hH⟩ := mH
  refine okG F scAllow (fun vs H Q E h => ?_) (fun cdv A outer s H vs Q E hr h => ?_)
  · obtain ⟨v, t, p, pv, l, rfl, _⟩ := h
    rfl
  · obtain ⟨v, t, p, pvl, l, rfl, hd, hg, hs, hh, hS, hP, q, er⟩ := h
    refine ⟨_, pss_cons (ps_if (pt_not (pt_val (pe_call G1 (hr.mono (by omega)) rfl e1 k1 b1 v1 pass0 (pa_cons (pv 0) pa_nil)))) (pss_one (ps_raiseEN rfl T hr (L2N.takes_of rfl rfl rfl rfl) (by exact (pa_cons (pv 2) (pa_cons pe_str (pa_cons (pe_call G2 (hr.mono (by omega)) rfl e2 k2 b2 v2 pass0 (pa_cons (pv 0) pa_nil)) pa_nil)))))) pss_nil)
      (pss_cons (ps_if (PW.pt (pw_and (pt_cmpR (show OpR _ (compareOp .In) (rIn K false) from op_in_seq) (pe_ix ix_tup (pv 0) pe_int (fun _ _ => rfl)) (pe_glob (v := .ref aH) rfl mH rfl) (by rfl)) (pw_and1 (pt_not (pt_val (pe_fld (pv 1) rfl)))))) (pss_one (ps_raiseEN rfl T hr (L2N.takes_of rfl rfl rfl rfl) (by exact (pa_cons (pv 2) (pa_cons pe_str (pa_cons (pe_ix ix_tup (pv 0) pe_int (fun _ _ => rfl)) pa_nil)))))) pss_nil)
      (pss_cons (ps_if (PW.pt (pw_and (pt_cmpR op_eq (pe_ix ix_tup (pv 0) pe_int (fun _ _ => rfl)) pe_str (nomark _)) (pw_and1 (pt_val (pe_fld (pv 1) rfl))))) pss_no pss_nil)
      (pss_cons (ps_if (pt_not (pt_val (pe_call G3 (hr.mono (by omega)) rfl e3 k3 b3 v3 pass0 (pa_cons (pv 0) (pa_cons (pv 1) pa_nil))))) (pss_one (ps_raiseEN rfl T hr (L2N.takes_of rfl rfl rfl rfl) (by exact (pa_cons (pv 2) (pa_cons pe_str (pa_cons (pe_ix ix_tup (pv 0) pe_int (fun _ _ => rfl)) pa_nil)))))) pss_nil)
      (pss_one (ps_if (PW.pt (pw_and (pt_cmpR op_eq (pe_ix ix_tup (pv 0) pe_int (fun _ _ => rfl)) pe_str (nomark _)) (pw_and1 pt_no))) pss_no pss_nil))))), ?_⟩
    refine ⟨_, rfl, v, t, rfl, hd, hg, hs, hh, fun H1 sm => ⟨_, rfl, ?_⟩⟩
    cases ef : formM t with
    | false =>
      refine iteT ⟨_, rfl, _, rfl, v, t, rfl, dp_same sm _ _ hd, hg, hs, hh, fun H2 sm2 => ⟨rfl, fun d hdn => ?_⟩⟩
      have s2 := (sm.trans sm2).trans (same_new hdn (.xd (layV selW [pvl, .str "form", .str (headM t)])))
      exact er _ (node_form ef) d _ _ _ s2 upd_same (hP.same s2)
    | true =>
      refine iteF ?_
      obtain ⟨z, ds, rfl, hz⟩ := form_split ef
      obtain ⟨dx, dw, wa, ca, va, h1, h2, h3, h4⟩ := (hS.same sm).ex
      have hd0 := hd
      cases hd with
      | @tup a xs _ hsq ha =>
      cases ha with
      | @cons x xs _ _ d1 d2 =>
      cases d1
      have sq1 := sqT_same sm hsq
      refine ⟨_, rfl, a, _, 0, _, rfl, rfl, sq1, atI_nat (j := 0) rfl, aH, _, rfl, .inr (hH.sq _), rfl, flat_strs handL, _, rfl, ?_⟩
      show (if inV (.str z) (handL.map V.str) = true then _ else _)
      rw [in_strs]
      by_cases hm : z ∈ handL
      · refine ifT (decide_eq_true hm) ⟨_, rfl, p, CS, dx, _, _, rfl, h1, W.clS, W.nH, sf_h _ _ _, _, rfl, iteT ?_⟩
        refine ⟨_, rfl, _, rfl, a, _, 0, _, rfl, rfl, sq1, atI_nat (j := 0) rfl, rfl, fun d hdn => ?_⟩
        have s2 := sm.trans (same_new hdn (.xd (layV selW [pvl, .str "handler", .str z])))
        exact er _ (node_hand ef hm) d _ _ _ s2 upd_same (hP.same s2)
      · refine ifF (decide_eq_false hm) (iteF ?_)
        have hn := node_there (cols := cols) (vars := vars) ef hm
        refine ⟨_, rfl, a, _, 0, _, rfl, rfl, sq1, atI_nat (j := 0) rfl, rfl, _, rfl, ?_⟩
        refine ifB (iteF ?_) (fun hT => ⟨_, rfl, p, CS, dx, _, _, rfl, h1, W.clS, W.nQ, sf_q _ _ _, _, rfl, hT⟩)
        have nw : z ≠ "word" := fun e => hm (by rw [e]; decide)
        have nt : z ≠ "told" := fun e => hm (by rw [e]; decide)
        refine ⟨_, rfl, _, rfl, _, _, p, rfl, dp_same sm _ _ hd0, ef, nw, nt, hS.same sm, fun H2 sm2 => ⟨_, rfl, ?_⟩⟩
        cases eth : thereM cols vars (.tuple (.str z :: ds)) with
        | false =>
          rw [eth] at hn
          refine iteT ?_
          have hw : ∃ x r, ds = .str x :: r := by
            rcases hz with ⟨x, r, _, rfl⟩ | hz | rfl | rfl
            · exact ⟨x, r, rfl⟩
            · simp only [plainHds, List.mem_cons, List.mem_nil_iff, or_false] at hz
              rcases hz with rfl | rfl | rfl | rfl | rfl <;> cases eth
            · exact absurd rfl nw
            · exact absurd rfl nt
          obtain ⟨y, r, rfl⟩ := hw
          cases d2 with
          | @cons x xs _ _ d2 d3 =>
          cases d2
          refine ⟨_, rfl, _, rfl, a, _, 1, .str y, rfl, rfl, sqT_same sm2 sq1, atI_nat (j := 1) rfl, rfl, fun d hdn => ?_⟩
          have s2 := (sm.trans sm2).trans (same_new hdn (.xd (layV selW [pvl, .str "name", .str y])))
          exact er _ hn d _ _ _ s2 upd_same (hP.same s2)
        | true =>
          rw [eth] at hn
          refine iteF ?_
          have nf : z ≠ "field" := fun e => by subst e; cases eth
          refine ⟨_, rfl, a, _, 0, _, rfl, rfl, sqT_same sm2 sq1, atI_nat (j := 0) rfl, rfl, _, rfl, ifF (neS nf) (iteF ?_)⟩
          exact q hn H2 (sm.trans sm2)
end
end DS
set_option Elab.async false
set_option linter.all false
set_option maxRecDepth 100000
set_option maxHeartbeats 4000000
namespace DS
open PySem L2 PySem.NumText
abbrev sWant : Stmt := top 52
abbrev sFit : Stmt := top 53
abbrev sNeedK : Stmt := top 54
abbrev sOwn : Stmt := top 55
inductive Shape : PyData → Prop where
  | value (d : PyData) (h : isValM d = true) : Shape (.tuple [.str "value", d])
  | var (x : Str) : Shape (.tuple [.str "var", .str x])
  | col (x : Str) : Shape (.tuple [.str "col", .str x])
  | op (o : Str) (a b : PyData) (h : o ∈ opsL) : Shape (.tuple [.str "op", .str o, a, b])
  | not (a : PyData) : Shape (.tuple [.str "not", a])
  | null (a : PyData) : Shape (.tuple [.str "null", a])
  | case (c a b : PyData) : Shape (.tuple [.str "case", c, a, b])
theorem len1 {α : Type} {l : List α} (h : l.length = 1) : ∃ a, l = [a] := by
  match l, h with
  | [a], _ => exact ⟨a, rfl⟩
theorem len3 {α : Type} {l : List α} (h : l.length = 3) : ∃ a b c, l = [a, b, c] := by
  match l, h with
  | [a, b, c], _ => exact ⟨a, b, c, rfl⟩
theorem shape_of {t : PyData} (hf : formM t = true) (hh : headM t ∈ hdsL) : Shape t := by
  obtain ⟨z, ds, so, rfl, el, hl, ef⟩ := form_head (form_headed hf)
  rw [hf] at ef
  have hz : z ∈ hdsL := hh
  simp only [hdsL, List.mem_cons, List.mem_nil_iff, or_false] at hz
  rcases hz with rfl | rfl | rfl | rfl | rfl | rfl | rfl
  · rw [lk_value] at el; cases el
    obtain ⟨d, rfl⟩ := len1 hl
    have := partsOk_all.mp ef.symm 0 "content" d rfl rfl
    rw [pt_cont] at this
    exact .value d this
  · rw [lk_var] at el; cases el
    obtain ⟨d, rfl⟩ := len1 hl
    have := partsOk_all.mp ef.symm 0 "word" d rfl rfl
    rw [pt_word] at this
    cases d with
    | str x => exact .var x
    | _ => cases this
  · rw [lk_col] at el; cases el
    obtain ⟨d, rfl⟩ := len1 hl
    have := partsOk_all.mp ef.symm 0 "word" d rfl rfl
    rw [pt_word] at this
    cases d with
    | str x => exact .col x
    | _ => cases this
  · rw [lk_op] at el; cases el
    obtain ⟨d, a, b, rfl⟩ := len3 hl
    have := partsOk_all.mp ef.symm 0 "operator" d rfl rfl
    rw [pt_oper] at this
    cases d with
    | str x => exact .op x a b (of_decide_eq_true this)
    | _ => cases this
  · rw [lk_not] at el; cases el
    obtain ⟨d, rfl⟩ := len1 hl
    exact .not d
  · rw [lk_null] at el; cases el
    obtain ⟨d, rfl⟩ := len1 hl
    exact .null d
  · rw [lk_case] at el; cases el
    obtain ⟨c, a, b, rfl⟩ := len3 hl
    exact .case c a b
/-- the kinds that are wanted, as a list of tuples -/
def WantAt (K : PySem.W.Frag) (H : Hp) (D : Addr) (ls : List (List Str)) : Prop := ∃ rs, H D = some (.lst rs) ∧ Paired (fun r (l : List Str) => ∃ a, r = .ref a ∧ SqT K H a (l.map V.str)) rs ls
theorem flat_kd (ks : List (Option Str)) : (ks.map kdV).all flatV = true := by
  rw [List.all_eq_true]
  intro v hv
  obtain ⟨k, _, rfl⟩ := List.mem_map.mp hv
  cases k <;> rfl
theorem kdV_non (k : Option Str) : decide (kdV k = V.non) = k.isNone := by cases k <;> simp [kdV]
theorem in_non (l : List Str) : inV .non (l.map V.str) = false := by
  induction l with
  | nil => rfl
  | cons x l ih => show (eqV (.str x) .non || inV .non (l.map V.str)) = false; rw [ih]; rfl
section
variable {P : Program} {w : World} {K : PySem.W.Frag} {mg : Str → Option Value} {base : Heap} {CW CS CR : Addr}
/-! ### is_fitting -/
theorem scFit : FnScope ["kind", "wanted"] ["kind", "wanted"] (defScope sFit) := ⟨rfl, rfl, rfl, by decide +kernel, rfl, by decide +kernel, by decide +kernel⟩
def spFit (K : PySem.W.Frag) : Sp := fun vs H Q _ => ∃ k a x l, vs = [kdV k, .ref a] ∧ SqT K H a ((x :: l).map V.str) ∧ x ∈ kindsL ∧ Q (.bl (fitM k (x :: l))) H
theorem ok_fit {f : Addr} {fd : FuncData} {k : Nat} (mK : ∃ a, mg "KINDS" = some (.ref a) ∧ KSq K a (kindsL.map V.str)) (F : Fun K "is_fitting" "is_fitting" sFit f fd) : FnOk P w K mg base CX0 (k + 1) f fd ["kind", "wanted"] (spFit K) := by
  obtain ⟨aK, mK, hK⟩ := mK
  refine F.ok scFit (fun vs H Q E h => ?_) (fun cdv A outer s H vs Q E hr h => ?_)
  · obtain ⟨k, a, x, l, rfl, _⟩ := h
    rfl
  · obtain ⟨kk, a, x, l, rfl, hsq, hx, q⟩ := h
    refine ⟨_, pss_one (ps_ret (pe_or (pe_cmpR (show OpR _ (compareOp .In) (rIn K false) from op_in_seq) (pv 0) (pv 1) (by rfl))
      (pe_one (pe_and (pe_cmp (pc_isN (pv 0))) (pe_one (pe_cmpR (show OpR _ (compareOp .In) (rIn K false) from op_in_seq) (pe_ix ix_tup (pv 1) pe_int (fun _ _ => rfl)) (pe_glob (v := .ref aK) rfl mK rfl) (by rfl))))))), ?_⟩
    cases kk with
    | none =>
      refine ⟨_, rfl, _, rfl, a, _, rfl, .inr hsq, rfl, flat_strs _, _, rfl, ifF (in_non _) ?_⟩
      refine ⟨_, rfl, _, rfl, iteT ⟨_, rfl, a, _, 0, _, rfl, rfl, hsq, atI_nat (j := 0) rfl, aK, _, rfl, .inr (hK.sq _), rfl, flat_strs _, ?_⟩⟩
      show Q (.bl (inV (.str x) (kindsL.map V.str))) H
      rw [in_strs, decide_eq_true hx]
      exact q
    | some y =>
      refine ⟨_, rfl, _, rfl, a, _, rfl, .inr hsq, rfl, flat_strs _, _, rfl, ?_⟩
      show (if inV (.str y) ((x :: l).map V.str) = true then _ else _)
      rw [in_strs]
      have q : Q (.bl (decide (y ∈ x :: l))) H := q
      cases e : decide (y ∈ x :: l) with
      | true => rw [e] at q; exact iteT q
      | false => rw [e] at q; exact iteF ⟨_, rfl, _, rfl, iteF q⟩
end
end DS
set_option Elab.async false
set_option linter.all false
set_option maxRecDepth 100000
set_option maxHeartbeats 4000000
namespace DS
open PySem L2 PySem.NumText
theorem kinds2 : (kindsL.map V.str).length = 3 := rfl
theorem cutK : cutV (kindsL.map V.str) none (some 2) = (["int", "text"] : List Str).map V.str := by
  unfold cutV
  rw [HT.sIx_none, show (2 : Int) = ((2 : Nat) : Int) from rfl, HT.sIx_nat]
  rfl
theorem cutK_ne : ¬ (HT.sIx (kindsL.map V.str).length 0 none = 0 ∧ HT.sIx (kindsL.map V.str).length (kindsL.map V.str).length (some 2) = (kindsL.map V.str).length) := fun ⟨_, h⟩ => by
  rw [show (2 : Int) = ((2 : Nat) : Int) from rfl, HT.sIx_nat] at h
  revert h
  decide
theorem one_kd {k : Option Str} {y : Str} (h : k = some y) (l : List Str) : oneK k l = [y] := by rw [h]; rfl
section
variable {P : Program} {w : World} {K : PySem.W.Frag} {mg : Str → Option Value} {base : Heap} {CW CS CR : Addr}
theorem want_same {H H' : Hp} {r : V} {l : List Str} (sm : Same H H') (h : ∃ a, r = .ref a ∧ SqT K H a (l.map V.str)) : ∃ a, r = .ref a ∧ SqT K H' a (l.map V.str) := by
  obtain ⟨a, e, h⟩ := h
  exact ⟨a, e, sqT_same sm h⟩
theorem scWant : FnScope ["e", "found", "scope", "head", "kind", "first"] ["e", "found", "scope"] (defScope sWant) := ⟨rfl, rfl, rfl, by decide +kernel, rfl, by decide +kernel, by decide +kernel⟩
def spWant (K : PySem.W.Frag) : Sp := fun vs H Q _ => ∃ v t fa ks sc, vs = [v, .ref fa, sc] ∧ Dp K H v t ∧ Shape t ∧ H fa = some (.lst (ks.map kdV)) ∧ ks.length = (partsM t).length ∧ ∀ D H', Same H H' → H D = none → WantAt K H' D (wantM t ks) → Q (.ref D) H'
theorem ok_want {f : Addr} {fd : FuncData} {k : Nat} (B : Bn7 mg) (mK : ∃ a, mg "KINDS" = some (.ref a) ∧ KSq K a (kindsL.map V.str)) (mA : ∃ a, mg "ARITHMETIC" = some (.ref a) ∧ KSq K a (arithL.map V.str)) (F : Fun K "kinds_wanted" "kinds_wanted" sWant f fd) :
    FnOk P w K mg base CX0 (k + 1) f fd ["e", "found", "scope"] (spWant K) := by
  obtain ⟨aK, mK, hK⟩ := mK
  obtain ⟨aA, mA, hA⟩ := mA
  refine F.ok scWant (fun vs H Q E h => ?_) (fun cdv A outer s H vs Q E hr h => ?_)
  · obtain ⟨v, t, fa, ks, sc, rfl, _⟩ := h
    rfl
  · obtain ⟨v, t, fa, ks, sc, rfl, hd, hsh, hfa, hks, q⟩ := h
    refine ⟨_, pss_cons (ps_set (i := 3) scWant.nd rfl (Or.inl rfl) (pe_ix ix_tup (pv 0) pe_int (fun _ _ => rfl)))
      (pss_cons (ps_if (pt_cmpR op_eq (pv 3) pe_str (nomark _)) pss_no pss_nil)
      (pss_cons (ps_if (PW.pt (pw_and (pt_cmpR op_eq (pv 3) pe_str (nomark _)) (pw_and1 (pt_cmpR (show OpR _ (compareOp .In) (rIn K false) from op_in_seq) (pe_ix ix_tup (pv 0) pe_int (fun _ _ => rfl)) (pe_tup (pa_cons pe_str (pa_cons pe_str pa_nil))) (by rfl)))))
        (pss_cons (ps_set (i := 5) scWant.nd rfl (Or.inl rfl) (pe_ifExp (pt_cmpR op_eq (pe_ix ix_tup (pv 0) pe_int (fun _ _ => rfl)) pe_str (nomark _)) (pe_glob (v := .ref aK) rfl mK rfl) (pe_slice sl_tupA (pe_glob (v := .ref aK) rfl mK rfl) po_none (po_some pe_int))))
        (pss_one (ps_ret (pe_lst (pa_cons (pv 5) (pa_cons (pe_ifExp (pt_cmp (pc_isN (pe_ix ix_list (pv 1) pe_int (fun _ _ => rfl)))) (pv 5) (pe_tup (pa_cons (pe_ix ix_list (pv 1) pe_int (fun _ _ => rfl)) pa_nil))) pa_nil)))))) pss_nil)
      (pss_cons (ps_if (pt_cmpR op_eq (pv 3) pe_str (nomark _))
        (pss_cons (ps_set (i := 4) scWant.nd rfl (Or.inl rfl) (pe_ifExp (pt_cmpR (show OpR _ (compareOp .In) (rIn K false) from op_in_seq) (pe_ix ix_tup (pv 0) pe_int (fun _ _ => rfl)) (pe_glob (v := .ref aA) rfl mA rfl) (by rfl)) pe_str (pe_ifExp (pt_cmpR op_eq (pe_ix ix_tup (pv 0) pe_int (fun _ _ => rfl)) pe_str (nomark _)) pe_str pe_str)))
        (pss_one (ps_ret (pe_lst (pa_cons (pe_tup (pa_cons (pv 4) pa_nil)) (pa_cons (pe_tup (pa_cons (pv 4) pa_nil)) pa_nil)))))) pss_nil)
      (pss_cons (ps_if (pt_cmpR op_eq (pv 3) pe_str (nomark _))
        (pss_one (ps_ret (pe_lst (pa_cons (pe_tup (pa_cons pe_str pa_nil)) (pa_cons (pe_glob (v := .ref aK) rfl mK rfl) (pa_cons (pe_ifExp (pt_cmp (pc_isN (pe_ix ix_list (pv 1) pe_int (fun _ _ => rfl)))) (pe_glob (v := .ref aK) rfl mK rfl) (pe_tup (pa_cons (pe_ix ix_list (pv 1) pe_int (fun _ _ => rfl)) pa_nil))) pa_nil)))))) pss_nil)
      (pss_cons (ps_if (pt_cmpR op_eq (pv 3) pe_str (nomark _)) (pss_one (ps_ret (pe_lst (pa_cons (pe_glob (v := .ref aK) rfl mK rfl) pa_nil)))) pss_nil)
      (pss_cons (ps_if (pt_cmpR (show OpR _ (compareOp .In) (rIn K false) from op_in_seq) (pv 3) (pe_tup (pa_cons pe_str (pa_cons pe_str pa_nil))) (by rfl)) pss_no pss_nil)
      (pss_one (ps_ret (pe_ifExp (pt_cmpR op_eq (pv 3) pe_str (nomark _)) pe_no (pe_op op_rep (pe_lst (pa_cons (pe_tup (pa_cons pe_str pa_nil)) pa_nil)) (pe_callB call_len_seq (by rfl) B.len PySem.boot_len (pa_cons (pv 1) pa_nil)))))))))))), ?_⟩
    by_cases hrest : ∃ z ds, t = .tuple (.str z :: ds) ∧ z ∉ (["call", "op", "case", "null", "least", "most", "sum"] : List Str) ∧ wantM t ks = (ks.map fun _ => ([("truth" : Str)] : List Str)) ∧ ks.length ≤ 1
    · obtain ⟨z, ds, rfl, hz, hw, hl⟩ := hrest
      simp only [List.mem_cons, List.mem_nil_iff, or_false, not_or] at hz
      obtain ⟨z1, z2, z3, z4, z5, z6, z7⟩ := hz
      cases hd with
      | @tup a xs _ hsq ha =>
      cases ha with
      | @cons x xs _ _ p1 p2 =>
      cases p1
      refine ⟨_, rfl, a, _, 0, _, rfl, rfl, hsq, atI_nat (j := 0) rfl, _, rfl, rfl, _, rfl, ifF (neS z1) ?_⟩
      refine ⟨_, rfl, rfl, _, rfl, ifF (neS z2) (iteF ?_)⟩
      refine ⟨_, rfl, rfl, _, rfl, ifF (neS z2) ⟨_, rfl, rfl, _, rfl, ifF (neS z3) ⟨_, rfl, rfl, _, rfl, ifF (neS z4) ?_⟩⟩⟩
      refine ⟨_, rfl, by show 2 ≤ sizeLine; decide, fun tp htp => ?_⟩
      have st := same_new htp (.tup [.str "least", .str "most"])
      refine ⟨tp, _, rfl, .inr (SqT.of upd_same), rfl, rfl, _, rfl, ?_⟩
      show (if inV (.str z) ((["least", "most"] : List Str).map V.str) = true then _ else _)
      rw [in_strs]
      refine ifF (decide_eq_false (by simp [z5, z6])) ?_
      refine ⟨_, rfl, rfl, _, rfl, ifF (neS z7) ?_⟩
      refine ⟨by show 1 ≤ sizeLine; decide, fun tq htq => ⟨by show 1 ≤ sizeLine; decide, fun L hL => ?_⟩⟩
      have s1 := same_new htq (.tup [.str "truth"])
      have s2 := same_new hL (.lst [.ref tq])
      have sA := (st.trans s1).trans s2
      refine ⟨_, rfl, fa, _, rfl, .inl (SqL.of (sA _ _ hfa)), L, _, [.ref tq], rfl, rfl, upd_same, by omega, by rw [List.length_map]; omega, ?_, fun D hD => ?_⟩
      · have := small' (n := 1) (by omega)
        simp; omega
      have sD := same_new hD (.lst (List.replicate (((ks.map kdV).length : Int)).toNat [V.ref tq]).flatten)
      refine q D _ (sA.trans sD) (Same.free sA hD) ?_
      rw [hw]
      refine ⟨_, upd_same, ?_⟩
      match ks, hl with
      | [], _ => exact .nil
      | [k1], _ => exact .cons ⟨tq, rfl, sqT_same (s2.trans sD) (SqT.of upd_same)⟩ .nil
    · cases hsh with
      | value d h => exact absurd ⟨_, _, rfl, by decide, rfl, by rw [hks]; exact Nat.zero_le _⟩ hrest
      | var x => exact absurd ⟨_, _, rfl, by decide, rfl, by rw [hks]; exact Nat.zero_le _⟩ hrest
      | col x => exact absurd ⟨_, _, rfl, by decide, rfl, by rw [hks]; exact Nat.zero_le _⟩ hrest
      | not a => exact absurd ⟨_, _, rfl, by decide, rfl, by rw [hks]; exact Nat.le_refl _⟩ hrest
      | op o d1 d2 ho =>
        cases hd with
        | @tup a xs _ hsq ha =>
        cases ha with
        | @cons x xs _ _ p1 p2 =>
        cases p1
        cases p2 with
        | @cons x xs _ _ p3 p4 =>
        cases p3
        obtain ⟨k1, k2, rfl⟩ : ∃ k1 k2, ks = [k1, k2] := by
          match ks, hks with
          | [k1, k2], _ => exact ⟨k1, k2, rfl⟩
        have a0 : atI (V.str "op" :: V.str o :: xs) 0 = some (V.str "op") := atI_nat (j := 0) rfl
        have a1 : atI (V.str "op" :: V.str o :: xs) 1 = some (V.str o) := atI_nat (j := 1) rfl
        have f0 : atI ([k1, k2].map kdV) 0 = some (kdV k1) := atI_nat (j := 0) rfl
        refine ⟨_, rfl, a, _, 0, _, rfl, rfl, hsq, a0, _, rfl, rfl, _, rfl, ifF (neS (by decide)) ?_⟩
        refine ⟨_, rfl, rfl, _, rfl, ifT (eqS _) ⟨_, rfl, a, _, 1, _, rfl, rfl, hsq, a1, by show 2 ≤ sizeLine; decide, fun tp htp => ?_⟩⟩
        have st := same_new htp (.tup [.str "=", .str "<"])
        refine ⟨tp, _, rfl, .inr (SqT.of upd_same), rfl, rfl, _, rfl, ?_⟩
        have sq1 := sqT_same st hsq
        show (if inV (.str o) ((["=", "<"] : List Str).map V.str) = true then _ else _)
        rw [in_strs]
        by_cases hc : o ∈ (["=", "<"] : List Str)
        · refine ifT (decide_eq_true hc) ?_
          simp only [List.mem_cons, List.mem_nil_iff, or_false] at hc
          refine ⟨_, rfl, a, _, 1, _, rfl, rfl, sq1, a1, rfl, _, rfl, ?_⟩
          rcases hc with rfl | rfl
          · refine ifT (eqS _) ?_
            refine ⟨_, rfl, _, rfl, fa, _, 0, _, rfl, rfl, SqL.of (st _ _ hfa), f0, _, rfl, ?_⟩
            cases k1 with
            | none =>
              refine iteT ⟨_, rfl, by show 2 ≤ sizeLine; decide, fun D hD => ?_⟩
              have sD := same_new hD (.lst [.ref aK, .ref aK])
              exact q D _ (st.trans sD) (Same.free st hD) ⟨_, upd_same, .cons ⟨_, rfl, sqT_same sD (hK.sq _)⟩ (.cons ⟨_, rfl, sqT_same sD (hK.sq _)⟩ .nil)⟩
            | some y =>
              refine iteF ⟨_, rfl, fa, _, 0, _, rfl, rfl, SqL.of (st _ _ hfa), f0, by show 1 ≤ sizeLine; decide, fun tq htq => ?_⟩
              have s3 := same_new htq (.tup [.str y])
              refine ⟨by show 2 ≤ sizeLine; decide, fun D hD => ?_⟩
              have sD := same_new hD (.lst [.ref aK, .ref tq])
              exact q D _ ((st.trans s3).trans sD) (Same.free (st.trans s3) hD) ⟨_, upd_same, .cons ⟨_, rfl, sqT_same (s3.trans sD) (hK.sq _)⟩ (.cons ⟨_, rfl, sqT_same sD (SqT.of upd_same)⟩ .nil)⟩
          · refine ifF (neS (by decide)) ?_
            refine ⟨_, rfl, aK, _, rfl, hK.sq _, fun c => absurd c cutK_ne, fun _ p2 hp2 => ?_⟩
            rw [cutK]
            have s2 := st.trans (same_new hp2 (.tup ((["int", "text"] : List Str).map V.str)))
            refine ⟨_, rfl, _, rfl, fa, _, 0, _, rfl, rfl, SqL.of (s2 _ _ hfa), f0, _, rfl, ?_⟩
            cases k1 with
            | none =>
              refine iteT ⟨_, rfl, by show 2 ≤ sizeLine; decide, fun D hD => ?_⟩
              have sD := same_new hD (.lst [.ref p2, .ref p2])
              exact q D _ (s2.trans sD) (Same.free s2 hD) ⟨_, upd_same, .cons ⟨_, rfl, sqT_same sD (SqT.of upd_same)⟩ (.cons ⟨_, rfl, sqT_same sD (SqT.of upd_same)⟩ .nil)⟩
            | some y =>
              refine iteF ⟨_, rfl, fa, _, 0, _, rfl, rfl, SqL.of (s2 _ _ hfa), f0, by show 1 ≤ sizeLine; decide, fun tq htq => ?_⟩
              have s3 := same_new htq (.tup [.str y])
              refine ⟨by show 2 ≤ sizeLine; decide, fun D hD => ?_⟩
              have sD := same_new hD (.lst [.ref p2, .ref tq])
              exact q D _ ((s2.trans s3).trans sD) (Same.free (s2.trans s3) hD) ⟨_, upd_same, .cons ⟨_, rfl, sqT_same (s3.trans sD) (SqT.of upd_same)⟩ (.cons ⟨_, rfl, sqT_same sD (SqT.of upd_same)⟩ .nil)⟩
        · refine ifF (decide_eq_false hc) ?_
          simp only [List.mem_cons, List.mem_nil_iff, or_false, not_or] at hc
          obtain ⟨n1, n2⟩ := hc
          refine ⟨_, rfl, rfl, _, rfl, ifT (eqS _) ?_⟩
          refine ⟨_, rfl, a, _, 1, _, rfl, rfl, sq1, a1, aA, _, rfl, .inr (hA.sq _), rfl, flat_strs _, _, rfl, ?_⟩
          show (if inV (.str o) (arithL.map V.str) = true then _ else _)
          rw [in_strs]
          by_cases ha : o ∈ arithL
          · refine ifT (decide_eq_true ha) ?_
            have ek : opKind o = "int" := if_pos ha
            refine ⟨_, rfl, by show 1 ≤ sizeLine; decide, fun t1 ht1 => ⟨_, rfl, by show 1 ≤ sizeLine; decide, fun t2 ht2 => ⟨by show 2 ≤ sizeLine; decide, fun D hD => ?_⟩⟩⟩
            have s1 := same_new ht1 (.tup [.str "int"])
            have s2 := same_new ht2 (.tup [.str "int"])
            have sD := same_new hD (.lst [.ref t1, .ref t2])
            refine q D _ (((st.trans s1).trans s2).trans sD) (Same.free ((st.trans s1).trans s2) hD) ?_
            rw [want_op n1 n2, ek]
            exact ⟨_, upd_same, .cons ⟨_, rfl, sqT_same (s2.trans sD) (SqT.of upd_same)⟩ (.cons ⟨_, rfl, sqT_same sD (SqT.of upd_same)⟩ .nil)⟩
          · refine ifF (decide_eq_false ha) ⟨_, rfl, a, _, 1, _, rfl, rfl, sq1, a1, rfl, _, rfl, ?_⟩
            by_cases hj : o = "join"
            · refine ifT (by rw [hj]; exact eqS _) ?_
              have ek : opKind o = "text" := by unfold opKind; rw [if_neg ha, if_pos hj]
              refine ⟨_, rfl, by show 1 ≤ sizeLine; decide, fun t1 ht1 => ⟨_, rfl, by show 1 ≤ sizeLine; decide, fun t2 ht2 => ⟨by show 2 ≤ sizeLine; decide, fun D hD => ?_⟩⟩⟩
              have s1 := same_new ht1 (.tup [.str "text"])
              have s2 := same_new ht2 (.tup [.str "text"])
              have sD := same_new hD (.lst [.ref t1, .ref t2])
              refine q D _ (((st.trans s1).trans s2).trans sD) (Same.free ((st.trans s1).trans s2) hD) ?_
              rw [want_op n1 n2, ek]
              exact ⟨_, upd_same, .cons ⟨_, rfl, sqT_same (s2.trans sD) (SqT.of upd_same)⟩ (.cons ⟨_, rfl, sqT_same sD (SqT.of upd_same)⟩ .nil)⟩
            · refine ifF (neS hj) ?_
              have ek : opKind o = "truth" := by unfold opKind; rw [if_neg ha, if_neg hj]
              refine ⟨_, rfl, by show 1 ≤ sizeLine; decide, fun t1 ht1 => ⟨_, rfl, by show 1 ≤ sizeLine; decide, fun t2 ht2 => ⟨by show 2 ≤ sizeLine; decide, fun D hD => ?_⟩⟩⟩
              have s1 := same_new ht1 (.tup [.str "truth"])
              have s2 := same_new ht2 (.tup [.str "truth"])
              have sD := same_new hD (.lst [.ref t1, .ref t2])
              refine q D _ (((st.trans s1).trans s2).trans sD) (Same.free ((st.trans s1).trans s2) hD) ?_
              rw [want_op n1 n2, ek]
              exact ⟨_, upd_same, .cons ⟨_, rfl, sqT_same (s2.trans sD) (SqT.of upd_same)⟩ (.cons ⟨_, rfl, sqT_same sD (SqT.of upd_same)⟩ .nil)⟩
      | null d =>
        cases hd with
        | @tup a xs _ hsq ha =>
        cases ha with
        | @cons x xs _ _ p1 p2 =>
        cases p1
        refine ⟨_, rfl, a, _, 0, _, rfl, rfl, hsq, atI_nat (j := 0) rfl, _, rfl, rfl, _, rfl, ifF (neS (by decide)) ?_⟩
        refine ⟨_, rfl, rfl, _, rfl, ifF (neS (by decide)) (iteF ?_)⟩
        refine ⟨_, rfl, rfl, _, rfl, ifF (neS (by decide)) ⟨_, rfl, rfl, _, rfl, ifF (neS (by decide)) ⟨_, rfl, rfl, _, rfl, ifT (eqS _) ?_⟩⟩⟩
        refine ⟨by show 1 ≤ sizeLine; decide, fun D hD => ?_⟩
        have sD := same_new hD (.lst [.ref aK])
        exact q D _ sD hD ⟨_, upd_same, .cons ⟨_, rfl, hK.sq _⟩ .nil⟩
      | case c d1 d2 =>
        cases hd with
        | @tup a xs _ hsq ha =>
        cases ha with
        | @cons x xs _ _ p1 p2 =>
        cases p1
        obtain ⟨k0, k1, k2, rfl⟩ : ∃ k0 k1 k2, ks = [k0, k1, k2] := by
          match ks, hks with
          | [k0, k1, k2], _ => exact ⟨k0, k1, k2, rfl⟩
        have f1 : atI ([k0, k1, k2].map kdV) 1 = some (kdV k1) := atI_nat (j := 1) rfl
        refine ⟨_, rfl, a, _, 0, _, rfl, rfl, hsq, atI_nat (j := 0) rfl, _, rfl, rfl, _, rfl, ifF (neS (by decide)) ?_⟩
        refine ⟨_, rfl, rfl, _, rfl, ifF (neS (by decide)) (iteF ?_)⟩
        refine ⟨_, rfl, rfl, _, rfl, ifF (neS (by decide)) ⟨_, rfl, rfl, _, rfl, ifT (eqS _) ?_⟩⟩
        refine ⟨by show 1 ≤ sizeLine; decide, fun tt htt => ?_⟩
        have st := same_new htt (.tup [.str "truth"])
        refine ⟨_, rfl, fa, _, 1, _, rfl, rfl, SqL.of (st _ _ hfa), f1, _, rfl, ?_⟩
        cases k1 with
        | none =>
          refine iteT ⟨by show 3 ≤ sizeLine; decide, fun D hD => ?_⟩
          have sD := same_new hD (.lst [.ref tt, .ref aK, .ref aK])
          exact q D _ (st.trans sD) (Same.free st hD) ⟨_, upd_same, .cons ⟨_, rfl, sqT_same sD (SqT.of upd_same)⟩ (.cons ⟨_, rfl, hK.sq _⟩ (.cons ⟨_, rfl, hK.sq _⟩ .nil))⟩
        | some y =>
          refine iteF ⟨_, rfl, fa, _, 1, _, rfl, rfl, SqL.of (st _ _ hfa), f1, by show 1 ≤ sizeLine; decide, fun tq htq => ?_⟩
          have s3 := same_new htq (.tup [.str y])
          refine ⟨by show 3 ≤ sizeLine; decide, fun D hD => ?_⟩
          have sD := same_new hD (.lst [.ref tt, .ref aK, .ref tq])
          exact q D _ ((st.trans s3).trans sD) (Same.free (st.trans s3) hD) ⟨_, upd_same, .cons ⟨_, rfl, sqT_same (s3.trans sD) (SqT.of upd_same)⟩ (.cons ⟨_, rfl, hK.sq _⟩ (.cons ⟨_, rfl, sqT_same sD (SqT.of upd_same)⟩ .nil))⟩
end
end DS
set_option Elab.async false
set_option linter.all false
set_option maxRecDepth 100000
set_option maxHeartbeats 4000000
namespace DS
open PySem L2 PySem.NumText
def OkKs (ks : List (Option Str)) : Prop := ∀ y, some y ∈ ks → y ∈ kindsL
theorem want_len {t : PyData} {ks : List (Option Str)} (h : Shape t) (hl : ks.length = (partsM t).length) : (wantM t ks).length = ks.length := by
  cases h with
  | value d h => exact List.length_map ..
  | var x => exact List.length_map ..
  | col x => exact List.length_map ..
  | op o a b ho =>
    rw [hl]
    by_cases h1 : o = "="
    · subst h1; rfl
    · by_cases h2 : o = "<"
      · subst h2; rfl
      · rw [want_op h1 h2]; rfl
  | not a => exact List.length_map ..
  | null a => rw [hl]; rfl
  | case c a b => rw [hl]; rfl
theorem opKind_ok (o : Str) : opKind o ∈ kindsL := by
  unfold opKind
  by_cases h1 : o ∈ arithL
  · rw [if_pos h1]; decide
  · rw [if_neg h1]
    by_cases h2 : o = "join"
    · rw [if_pos h2]; decide
    · rw [if_neg h2]; decide
def Okl (l : List Str) : Prop := ∃ x r, l = x :: r ∧ x ∈ kindsL
theorem okl_one {ks : List (Option Str)} (hk : OkKs ks) {i : Nat} {l : List Str} (h : Okl l) : Okl (oneK (ks.getD i none) l) := by
  cases e : ks.getD i none with
  | none => exact h
  | some y =>
    refine ⟨y, [], rfl, hk y ?_⟩
    rw [List.getD_eq_getElem?_getD] at e
    cases e2 : ks[i]? with
    | none => rw [e2] at e; cases e
    | some z =>
      rw [e2] at e
      have e : z = some y := e
      rw [← e]
      exact List.mem_of_getElem? e2
theorem okl_k : Okl kindsL := ⟨_, _, rfl, by decide⟩
theorem okl_t : Okl ["truth"] := ⟨_, _, rfl, by decide⟩
theorem okl_2 : Okl ["int", "text"] := ⟨_, _, rfl, by decide⟩
theorem want_ok {t : PyData} {ks : List (Option Str)} (h : Shape t) (hk : OkKs ks) : ∀ l ∈ wantM t ks, Okl l := by
  have rest : ∀ l ∈ (ks.map fun _ => ([("truth" : Str)] : List Str)), Okl l := fun l hl => by
    obtain ⟨_, _, rfl⟩ := List.mem_map.mp hl
    exact okl_t
  cases h with
  | value d h => exact rest
  | var x => exact rest
  | col x => exact rest
  | not a => exact rest
  | op o a b ho =>
    by_cases h1 : o = "="
    · subst h1
      intro l hl
      have hl : l ∈ [kindsL, oneK (ks.getD 0 none) kindsL] := hl
      simp only [List.mem_cons, List.mem_nil_iff, or_false] at hl
      rcases hl with rfl | rfl
      · exact okl_k
      · exact okl_one hk okl_k
    · by_cases h2 : o = "<"
      · subst h2
        intro l hl
        have hl : l ∈ ([["int", "text"], oneK (ks.getD 0 none) ["int", "text"]] : List (List Str)) := hl
        simp only [List.mem_cons, List.mem_nil_iff, or_false] at hl
        rcases hl with rfl | rfl
        · exact okl_2
        · exact okl_one hk okl_2
      · rw [want_op h1 h2]
        intro l hl
        simp only [List.mem_cons, List.mem_nil_iff, or_false] at hl
        rcases hl with rfl | rfl <;> exact ⟨_, _, rfl, opKind_ok o⟩
  | null a =>
    intro l hl
    have hl : l ∈ [kindsL] := hl
    simp only [List.mem_cons, List.mem_nil_iff, or_false] at hl
    subst hl
    exact okl_k
  | case c a b =>
    intro l hl
    have hl : l ∈ ([["truth"], kindsL, oneK (ks.getD 1 none) kindsL] : List (List Str)) := hl
    simp only [List.mem_cons, List.mem_nil_iff, or_false] at hl
    rcases hl with rfl | rfl | rfl
    · exact okl_t
    · exact okl_k
    · exact okl_one hk okl_k
theorem parts_mem {t : PyData} (h : Shape t) : ∀ p ∈ partsM t, ∃ ds, t = .tuple ds ∧ ∃ i : Nat, ds[i]? = some p.2 := by
  have mk : ∀ {z : Str} {ds : List PyData} {l : List (Nat × PyData)}, (∀ p ∈ l, p.2 ∈ ds) → ∀ p ∈ l, ∃ ds', PyData.tuple (.str z :: ds) = .tuple ds' ∧ ∃ i : Nat, ds'[i]? = some p.2 := fun {z ds l} h p hp => by
    obtain ⟨i, hi⟩ := List.getElem?_of_mem (List.mem_cons_of_mem (PyData.str z) (h p hp))
    exact ⟨_, rfl, i, hi⟩
  cases h with
  | value d h => intro p hp; cases hp
  | var x => intro p hp; cases hp
  | col x => intro p hp; cases hp
  | op o a b ho => exact mk (l := [(2, a), (3, b)]) (by simp)
  | not a => exact mk (l := [(1, a)]) (by simp)
  | null a => exact mk (l := [(1, a)]) (by simp)
  | case c a b => exact mk (l := [(1, c), (2, a), (3, b)]) (by simp)
theorem bad_drop {ps : List (Nat × PyData)} {ks : List (Option Str)} {ls : List (List Str)} {i j : Nat} {d : PyData} {k : Option Str} {l : List Str} (h1 : ps[i]? = some (j, d)) (h2 : ks[i]? = some k) (h3 : ls[i]? = some l) :
    badM (ps.drop i) (ks.drop i) (ls.drop i) = if fitM k l then badM (ps.drop (i + 1)) (ks.drop (i + 1)) (ls.drop (i + 1)) else some j := by
  have e : ∀ {α : Type} {xs : List α} {x : α}, xs[i]? = some x → xs.drop i = x :: xs.drop (i + 1) := fun {α xs x} h => by
    obtain ⟨hl, e⟩ := List.getElem?_eq_some_iff.mp h
    rw [List.drop_eq_getElem_cons hl, e]
  rw [e h1, e h2, e h3]
  rfl
theorem bad_end {ps : List (Nat × PyData)} {ks : List (Option Str)} {ls : List (List Str)} {i : Nat} (h : ps.length ≤ i) : badM (ps.drop i) (ks.drop i) (ls.drop i) = none := by
  rw [List.drop_eq_nil_of_le h]; rfl
theorem paired_get {α β : Type} {F : α → β → Prop} : ∀ {l1 : List α} {l2 : List β} {i : Nat} {x : α}, Paired F l1 l2 → l1[i]? = some x → ∃ y, l2[i]? = some y ∧ F x y
  | _, _, _, _, .nil, h => by simp at h
  | _, _, 0, _, .cons h1 _, h => by simp at h; subst h; exact ⟨_, rfl, h1⟩
  | _, _, i + 1, x, .cons _ h2, h => by simpa using paired_get (i := i) h2 (by simpa using h)
theorem paired_get' {α β : Type} {F : α → β → Prop} : ∀ {l1 : List α} {l2 : List β} {i : Nat} {y : β}, Paired F l1 l2 → l2[i]? = some y → ∃ x, l1[i]? = some x ∧ F x y
  | _, _, _, _, .nil, h => by simp at h
  | _, _, 0, _, .cons h1 _, h => by simp at h; subst h; exact ⟨_, rfl, h1⟩
  | _, _, i + 1, x, .cons _ h2, h => by simpa using paired_get' (i := i) h2 (by simpa using h)
theorem WantAt.same {K : PySem.W.Frag} {H H' : Hp} {D : Addr} {ls : List (List Str)} (h : WantAt K H D ls) (sm : Same H H') : WantAt K H' D ls := by
  obtain ⟨rs, h1, h2⟩ := h
  exact ⟨rs, sm _ _ h1, paired_imp (fun _ _ h => want_same sm h) h2⟩
/-- path + step -/
theorem cat_path {K : PySem.W.Frag} {H : Hp} {v : V} {l : List Nat} {st : Addr} {j : Nat} {Q : VK} (h : PathAt K H v l) (hst : H st = some (.tup [.int ((j : Nat) : Int)])) (hl : l.length ≤ 1000) (q : ∀ v' H', Same H H' → PathAt K H' v' (l ++ [j]) → Q v' H') : rCatA K v (.ref st) H Q := by
  obtain ⟨a, rfl, hq⟩ := h
  refine ⟨a, st, _, _, rfl, rfl, hq, SqT.of hst, ?_, fun e => ?_, (fun _ (e : [V.int ((j : Nat) : Int)] = []) => nomatch e), fun _ _ p hp => ?_⟩
  · have := small' (n := l.length + 1) (by omega)
    simp; omega
  · have e : l = [] := by simpa using e
    subst e
    exact q _ _ (Same.refl _) ⟨st, rfl, SqT.of hst⟩
  · refine q _ _ (same_new hp _) ⟨p, rfl, ?_⟩
    rw [List.map_append]
    exact SqT.of upd_same
end DS
set_option Elab.async false
set_option linter.all false
set_option maxRecDepth 100000
set_option maxHeartbeats 4000000
namespace DS
open PySem L2 PySem.NumText
section
variable {P : Program} {w : World} {K : PySem.W.Frag} {mg : Str → Option Value} {base : Heap} {CW CS CR : Addr}
theorem scNeedK : FnScope ["e", "found", "scope", "path", "wanted", "k", "step", "part"] ["e", "found", "scope", "path"] (defScope sNeedK) := ⟨rfl, rfl, rfl, by decide +kernel, rfl, by decide +kernel, by decide +kernel⟩
def spNeedK (K : PySem.W.Frag) (CR : Addr) : Sp := fun vs H Q E => ∃ v t fa ks sc pv l, vs = [v, .ref fa, sc, pv] ∧ Dp K H v t ∧ good t ∧ short t ∧ hgt t ≤ 60 ∧ formM t = true ∧ headM t ∈ hdsL ∧ H fa = some (.lst (ks.map kdV)) ∧ ks.length = (partsM t).length ∧ OkKs ks ∧
  PathAt K H pv l ∧ l.length ≤ 200 ∧ (badM (partsM t) ks (wantM t ks) = none → ∀ H', Same H H' → Q .non H') ∧ ∀ i, badM (partsM t) ks (wantM t ks) = some i → ErW K CR E H "kind" (l ++ [i])
theorem ok_needK {f : Addr} {fd : FuncData} {k : Nat} (B : Bn7 mg) (T : ExOk P w K mg "Wrong" CR 3 selW) (DW : Cal P w K mg base CX0 1 "kinds_wanted" ["e", "found", "scope"] [] (spWant K)) (DP : Cal P w K mg base CX0 1 "parts_in" ["e"] [] (spPartsIn K))
    (DF : Cal P w K mg base CX0 1 "is_fitting" ["kind", "wanted"] [] (spFit K)) (DH : Cal P w K mg base CX0 1 "head_of" ["e"] [] (spD K (fun t => hgt t ≤ 60) fun t => .str (headM t))) (F : Fun K "need_kinds" "need_kinds" sNeedK f fd) :
    FnOk P w K mg base (L2N.CX P w) (k + 7) f fd ["e", "found", "scope", "path"] (spNeedK K CR) := by
  obtain ⟨f1, fd1, ds1, e1, k1, v1, b1, G1⟩ := DW.ex
  obtain ⟨f2, fd2, ds2, e2, k2, v2, b2, G2⟩ := DP.ex
  obtain ⟨f3, fd3, ds3, e3, k3, v3, b3, G3⟩ := DF.ex
  obtain ⟨f4, fd4, ds4, e4, k4, v4, b4, G4⟩ := DH.ex
  refine okG F scNeedK (fun vs H Q E h => ?_) (fun cdv A outer s H vs Q E hr h => ?_)
  · obtain ⟨v, t, fa, ks, sc, pv, l, rfl, _⟩ := h
    rfl
  · obtain ⟨v, t, fa, ks, sc, pvl, l, rfl, hd, hg, hs, hh, hf, hhd, hfa, hks, hok, hP, hl, q, er⟩ := h
    have hsh := shape_of hf hhd
    refine ⟨_, pss_cons (ps_set (i := 4) scNeedK.nd rfl (Or.inl rfl) (pe_call G1 (hr.mono (by omega)) rfl e1 k1 b1 v1 pass0 (pa_cons (pv 0) (pa_cons (pv 1) (pa_cons (pv 2) pa_nil)))))
      (pss_cons (ps_for (L2.passes_of rfl) rfl (pi_enum (by rfl) B.enu (pa_cons (pe_call G2 (hr.mono (by omega)) rfl e2 k2 b2 v2 pass0 (pa_cons (pv 0) pa_nil)) pa_nil))
          (pg_tup (by rfl) (pgs_cons (pg_name (i := 5) scNeedK.nd rfl (Or.inl rfl)) (pgs_cons (pg_tup (by rfl) (pgs_cons (pg_name (i := 6) scNeedK.nd rfl (Or.inl rfl)) (pgs_cons (pg_name (i := 7) scNeedK.nd rfl (Or.inl rfl)) pgs_nil))) pgs_nil)))
        (pss_one (ps_if (PW.pt (pw_or (pt_cmpR op_ge (pv 5) (pe_callB call_len_seq (by rfl) B.len PySem.boot_len (pa_cons (pv 4) pa_nil)) (nomark _)) (pw_or1 (pt_not (pt_val (pe_call G3 (hr.mono (by omega)) rfl e3 k3 b3 v3 pass0 (pa_cons (pe_ix ix_list (pv 1) (pv 5) (fun _ _ => rfl)) (pa_cons (pe_ix ix_list (pv 4) (pv 5) (fun _ _ => rfl)) pa_nil))))))))
          (pss_one (ps_raiseEN rfl T hr (L2N.takes_of rfl rfl rfl rfl) (by exact (pa_cons (pe_op op_catA (pv 3) (pv 6)) (pa_cons pe_str (pa_cons (pe_call G4 (hr.mono (by omega)) rfl e4 k4 b4 v4 pass0 (pa_cons (pv 7) pa_nil)) pa_nil)))))) pss_nil)))
      (pss_one (ps_if (pt_cmpR op_lt (pe_callB call_len_seq (by rfl) B.len PySem.boot_len (pa_cons (pv 1) pa_nil)) (pe_callB call_len_seq (by rfl) B.len PySem.boot_len (pa_cons (pv 4) pa_nil)) (nomark _)) pss_no pss_nil))), ?_⟩
    refine ⟨_, rfl, _, rfl, _, rfl, v, t, fa, ks, sc, rfl, hd, hsh, hfa, hks, fun D H1 sm hDn hW => ?_⟩
    refine ⟨_, rfl, v, t, rfl, dp_same sm _ _ hd, hg, hf, hhd, fun D2 H2 sm2 hD2n hPa => ?_⟩
    obtain ⟨rs, hrs, hpr⟩ := hPa
    have lp := paired_len hpr
    have lw := want_len hsh hks
    obtain ⟨ws, hws0, hwp0⟩ := hW
    have lws := paired_len hwp0
    refine ⟨D2, rs, rfl, SqL.of hrs, ?_⟩
    refine for_it (walk_enum (xs := rs)) (fun i σ H' => ∃ y1 y2 y3, σ = [some v, some (.ref fa), some sc, some pvl, some (.ref D), y1, y2, y3] ∧ Same H2 H' ∧ badM (partsM t) ks (wantM t ks) = badM ((partsM t).drop i) (ks.drop i) ((wantM t ks).drop i))
      ⟨none, none, none, rfl, Same.refl _, rfl⟩ (fun i σ H' _ h => by obtain ⟨_, _, _, _, sm3, _⟩ := h; exact SqL.of (sm3 _ _ hrs)) ?_ ?_
    · rintro i x σ H3 H4 hi ⟨y1, y2, y3, rfl, sm3, hb⟩ ⟨Tp, x1, x2, rfl, hT, rfl, ex1, ex2⟩
      cases ex1
      have ex2 : rs[i]? = some x2 := ex2
      obtain ⟨⟨j, d⟩, ep, stq, stp, xv, rfl, hq1, hq2, hdp⟩ := paired_get hpr ex2
      have hip : i < (partsM t).length := (List.getElem?_eq_some_iff.mp ep).1
      obtain ⟨kk, ek⟩ : ∃ kk, ks[i]? = some kk := ⟨_, List.getElem?_eq_getElem (by omega)⟩
      obtain ⟨wl, ew⟩ : ∃ wl, (wantM t ks)[i]? = some wl := ⟨_, List.getElem?_eq_getElem (by omega)⟩
      obtain ⟨wv, ewv, wa, rfl, hwa⟩ := paired_get' hwp0 ew
      have st := same_new hT (.tup [.int ((i : Nat) : Int), .ref stq])
      have s4 := sm3.trans st
      have s14 := sm2.trans s4
      refine ⟨Tp, _, rfl, SqT.of upd_same, rfl, _, _, rfl, _, [], rfl, stq, _, rfl, SqT.of (s4 _ _ hq1), rfl, _, _, rfl, _, [], rfl, rfl, rfl, ?_⟩
      refine ⟨_, rfl, _, rfl, D, ws, rfl, .inl (SqL.of (s14 _ _ hws0)), _, _, rfl, rfl, _, rfl, ?_⟩
      refine ifF (decide_eq_false (by omega)) ?_
      obtain ⟨x0, r0, rfl, hx0⟩ := want_ok hsh hok _ (List.mem_of_getElem? ew)
      have fk : atI (ks.map kdV) ((i : Nat) : Int) = some (kdV kk) := atI_nat (by rw [List.getElem?_map, ek]; rfl)
      have wk : atI ws ((i : Nat) : Int) = some (.ref wa) := atI_nat ewv
      refine ⟨_, rfl, _, rfl, fa, _, _, _, rfl, rfl, SqL.of ((sm.trans s14) _ _ hfa), fk, _, rfl, _, rfl, D, _, _, _, rfl, rfl, SqL.of (s14 _ _ hws0), wk, kk, wa, x0, r0, rfl, sqT_same s14 hwa, hx0, _, rfl, ?_⟩
      rw [bad_drop ep ek ew] at hb
      cases efit : fitM kk (x0 :: r0) with
      | true =>
        rw [efit] at hb
        exact iteF ⟨_, _, _, rfl, s4, hb⟩
      | false =>
        rw [efit] at hb
        have hb : badM (partsM t) ks (wantM t ks) = some j := hb
        obtain ⟨ds, et, i0, ed0⟩ := parts_mem hsh _ (List.mem_of_getElem? ep)
        subst et
        have hgd : good d := good_get (by simpa [good] using hg) ed0
        have hsd : short d := short_get (by simp only [short] at hs; exact hs.1) ed0
        have hhd2 : hgt d ≤ 60 := by have h9 : hgt d ≤ hgtAll ds := hgt_get ed0; simp only [hgt] at hh; omega
        refine iteT ⟨_, rfl, _, rfl, cat_path (hP.same (sm.trans s14)) (s4 _ _ hq2) (by omega) fun v' H5 sm5 hP5 => ?_⟩
        refine ⟨_, rfl, xv, d, rfl, dp_same (s4.trans sm5) _ _ hdp, hgd, hsd, hhd2, fun H6 sm6 => ⟨rfl, fun dd hdn => ?_⟩⟩
        have s7 := same_new hdn (.xd (layV selW [v', .str "kind", .str (headM d)]))
        exact er j hb dd _ _ _ ((((sm.trans s14).trans sm5).trans sm6).trans s7) upd_same (hP5.same (sm6.trans s7))
    · rintro σ H3 ⟨y1, y2, y3, rfl, sm3, hb⟩
      rw [bad_end (by omega)] at hb
      refine ⟨_, rfl, fa, _, rfl, .inl (SqL.of (((sm.trans sm2).trans sm3) _ _ hfa)), _, rfl, D, _, rfl, .inl (SqL.of ((sm2.trans sm3) _ _ hws0)), _, _, rfl, rfl, _, rfl, ?_⟩
      refine ifF (decide_eq_false (by rw [List.length_map]; omega)) ?_
      exact q hb H3 ((sm.trans sm2).trans sm3)
end
end DS
set_option Elab.async false
set_option linter.all false
set_option maxRecDepth 100000
set_option maxHeartbeats 4000000
namespace DS
open PySem L2 PySem.NumText
theorem node_none {cols vars : Kinds} {t : PyData} (h : nodeM cols vars t = none) : formM t = true ∧ headM t ∈ hdsL ∧ thereM cols vars t = true := by
  cases ef : formM t with
  | false => rw [node_form ef] at h; cases h
  | true =>
    by_cases hh : headM t ∈ handL
    · rw [node_hand ef hh] at h; cases h
    · have hn := node_there (cols := cols) (vars := vars) ef hh
      rw [h] at hn
      cases eth : thereM cols vars t with
      | false => rw [eth] at hn; cases hn
      | true =>
        refine ⟨rfl, ?_, rfl⟩
        obtain ⟨z, ds, rfl, hz⟩ := form_split ef
        show z ∈ hdsL
        rcases hz with ⟨x, r, hz, rfl⟩ | hz | rfl | rfl
        · simp only [wordHds, List.mem_cons, List.mem_nil_iff, or_false] at hz
          rcases hz with rfl | rfl | rfl | rfl | rfl | rfl | rfl | rfl | rfl <;> first | decide | cases eth
        · simp only [plainHds, List.mem_cons, List.mem_nil_iff, or_false] at hz
          rcases hz with rfl | rfl | rfl | rfl | rfl <;> decide
        · exact absurd (show ("word" : Str) ∈ handL by decide) hh
        · exact absurd (show ("told" : Str) ∈ handL by decide) hh
section
variable {P : Program} {w : World} {K : PySem.W.Frag} {mg : Str → Option Value} {base : Heap} {CW CS CR : Addr}
theorem scOwn : FnScope ["e", "found", "scope"] ["e", "found", "scope"] (defScope sOwn) := ⟨rfl, rfl, rfl, by decide +kernel, rfl, by decide +kernel, by decide +kernel⟩
def spOwn (K : PySem.W.Frag) (CW CS : Addr) (cols vars : Kinds) : Sp := fun vs H Q _ => ∃ v t fa ks p, vs = [v, .ref fa, .ref p] ∧ Dp K H v t ∧ good t ∧ short t ∧ nodeM cols vars t = none ∧ H fa = some (.lst (ks.map kdV)) ∧ ks.length = (partsM t).length ∧ ScAt CW CS cols vars H p ∧
  ∀ H', Same H H' → Q (kdV (ownM cols vars t ks)) H'
theorem ok_own {f : Addr} {fd : FuncData} {k : Nat} {cols vars : Kinds} (W : Wd K mg CW CS) (mA : ∃ a, mg "ARITHMETIC" = some (.ref a) ∧ KSq K a (arithL.map V.str)) (DK : Cal P w K mg base CX0 2 "kind_of_value" ["value"] [] (spD K (fun _ => True) fun t => kdV (kvM t)))
    (DC : Cal P w K mg base CX0 1 "column_kind" ["scope", "word"] [] (spColK CW CS cols vars)) (F : Fun K "own_kind" "own_kind" sOwn f fd) : FnOk P w K mg base CX0 (k + 3) f fd ["e", "found", "scope"] (spOwn K CW CS cols vars) := by
  obtain ⟨f1, fd1, ds1, e1, k1, v1, b1, G1⟩ := DK.ex
  obtain ⟨f2, fd2, ds2, e2, k2, v2, b2, G2⟩ := DC.ex
  obtain ⟨aA, mA, hA⟩ := mA
  refine F.ok scOwn (fun vs H Q E h => ?_) (fun cdv A outer s H vs Q E hr h => ?_)
  · obtain ⟨v, t, fa, ks, p, rfl, _⟩ := h
    rfl
  · obtain ⟨v, t, fa, ks, p, rfl, hd, hg, hs, hn, hfa, hks, hS, q⟩ := h
    obtain ⟨hf, hh, hth⟩ := node_none hn
    have hu : (A.deeper (PyProof.Rows.envOfC "own_kind" (defScope sOwn) s.heap.objs.size f cdv)).units + 64 < cLine := hr.units
    have hu1 : (A.deeper (PyProof.Rows.envOfC "own_kind" (defScope sOwn) s.heap.objs.size f cdv)).units + 1 < cLine := by omega
    refine ⟨_, pss_one (ps_match (pe_ix ix_tup (pv 0) pe_int (fun _ _ => rfl))
      (pcs_cons pp_str (pss_one (ps_ret (pe_call G1 (hr.mono (by omega)) rfl e1 k1 b1 v1 pass0 (pa_cons (pe_ix ix_tup (pv 0) pe_int (fun _ _ => rfl)) pa_nil))))
      (pcs_cons pp_str (pss_one (ps_ret (pe_dget hu1 (pe_fld (pv 2) rfl) (pe_ix ix_tup (pv 0) pe_int (fun _ _ => rfl)) (fun _ _ => rfl))))
      (pcs_cons pp_str (pss_one (ps_ret (pe_call G2 (hr.mono (by omega)) rfl e2 k2 b2 v2 pass0 (pa_cons (pv 2) (pa_cons (pe_ix ix_tup (pv 0) pe_int (fun _ _ => rfl)) pa_nil)))))
      (pcs_cons pp_str pss_no
      (pcs_cons pp_str (pss_one (ps_ret (pe_ifExp (pt_cmpR (show OpR _ (compareOp .In) (rIn K false) from op_in_seq) (pe_ix ix_tup (pv 0) pe_int (fun _ _ => rfl)) (pe_glob (v := .ref aA) rfl mA rfl) (by rfl)) pe_str (pe_ifExp (pt_cmpR op_eq (pe_ix ix_tup (pv 0) pe_int (fun _ _ => rfl)) pe_str (nomark _)) pe_str pe_str))))
      (pcs_cons (pp_or (pps_cons pp_str (pps_cons pp_str (pps_cons pp_str pps_nil)))) pss_no
      (pcs_cons pp_str (pss_one (ps_ret (pe_ifExp (pt_cmp (pc_isN (pe_ix ix_list (pv 1) pe_int (fun _ _ => rfl)))) (pe_ix ix_list (pv 1) pe_int (fun _ _ => rfl)) (pe_ix ix_list (pv 1) pe_int (fun _ _ => rfl)))))
      (pcs_cons (pp_or (pps_cons pp_str (pps_cons pp_str pps_nil))) pss_no
      (pcs_cons pp_str pss_no (pcs_cons pp_str pss_no (pcs_cons pp_str pss_no
      (pcs_cons pp_any (pss_one (ps_ret pe_str)) pcs_nil))))))))))))), ?_⟩
    obtain ⟨dx, dw, wa, ca, va, h1, h2, h3, h4⟩ := hS.ex
    have hsh := shape_of hf hh
    cases hsh with
    | value d h =>
      cases hd with
      | @tup a xs _ hsq ha =>
      cases ha with
      | @cons x xs _ _ p1 p2 =>
      cases p1
      cases p2 with
      | @cons x xs _ _ p3 p4 =>
      refine ⟨_, rfl, a, _, 0, _, rfl, rfl, hsq, atI_nat (j := 0) rfl, _, rfl, ifT (by decide) ?_⟩
      simp only [good, goodAll] at hg
      simp only [short, shortAll] at hs
      exact ⟨_, rfl, a, _, 1, _, rfl, rfl, hsq, atI_nat (j := 1) rfl, x, d, rfl, p3, hg.2.1, hs.1.2.1, trivial, fun H1 sm => q H1 sm⟩
    | var x =>
      cases hd with
      | @tup a xs _ hsq ha =>
      cases ha with
      | @cons y xs _ _ p1 p2 =>
      cases p1
      cases p2 with
      | @cons y xs _ _ p3 p4 =>
      cases p3
      refine ⟨_, rfl, a, _, 0, _, rfl, rfl, hsq, atI_nat (j := 0) rfl, _, rfl, ifF (by decide) (ifT (by decide) ?_)⟩
      have hth : (vars.lookup x).isSome = true := hth
      obtain ⟨y, ey⟩ := Option.isSome_iff_exists.mp hth
      have g := kd_get h4 x
      rw [ey] at g
      refine ⟨_, rfl, p, CS, dx, _, _, rfl, h1, W.clS, W.nV, sf_v _ _ _, _, rfl, a, _, 1, _, rfl, rfl, hsq, atI_nat (j := 1) rfl, va, _, rfl, g, ?_⟩
      have q := q H (Same.refl _)
      have eo : ownM cols vars (.tuple [.str "var", .str x]) ks = vars.lookup x := rfl
      rw [eo, ey] at q
      exact q
    | col x =>
      cases hd with
      | @tup a xs _ hsq ha =>
      cases ha with
      | @cons y xs _ _ p1 p2 =>
      cases p1
      cases p2 with
      | @cons y xs _ _ p3 p4 =>
      cases p3
      refine ⟨_, rfl, a, _, 0, _, rfl, rfl, hsq, atI_nat (j := 0) rfl, _, rfl, ifF (by decide) (ifF (by decide) (ifT (by decide) ?_))⟩
      exact ⟨_, rfl, _, rfl, a, _, 1, _, rfl, rfl, hsq, atI_nat (j := 1) rfl, p, x, rfl, hS, q H (Same.refl _)⟩
    | op o d1 d2 ho =>
      cases hd with
      | @tup a xs _ hsq ha =>
      cases ha with
      | @cons y xs _ _ p1 p2 =>
      cases p1
      cases p2 with
      | @cons y xs _ _ p3 p4 =>
      cases p3
      have a1 : atI (V.str "op" :: V.str o :: xs) 1 = some (V.str o) := atI_nat (j := 1) rfl
      refine ⟨_, rfl, a, _, 0, _, rfl, rfl, hsq, atI_nat (j := 0) rfl, _, rfl, ifF (by decide) (ifF (by decide) (ifF (by decide) (ifF (by decide) (ifT (by decide) ?_))))⟩
      have q : Q (.str (opKind o)) H := q H (Same.refl _)
      refine ⟨_, rfl, a, _, 1, _, rfl, rfl, hsq, a1, aA, _, rfl, .inr (hA.sq _), rfl, flat_strs _, _, rfl, ?_⟩
      show (if inV (.str o) (arithL.map V.str) = true then _ else _)
      rw [in_strs]
      unfold opKind at q
      by_cases ha : o ∈ arithL
      · rw [if_pos ha] at q
        exact ifT (decide_eq_true ha) q
      · rw [if_neg ha] at q
        refine ifF (decide_eq_false ha) ⟨_, rfl, a, _, 1, _, rfl, rfl, hsq, a1, rfl, _, rfl, ?_⟩
        by_cases hj : o = "join"
        · rw [if_pos hj] at q
          exact ifT (by rw [hj]; exact eqS _) q
        · rw [if_neg hj] at q
          exact ifF (neS hj) q
    | not b =>
      cases hd with
      | @tup a xs _ hsq ha =>
      cases ha with
      | @cons y xs _ _ p1 p2 =>
      cases p1
      refine ⟨_, rfl, a, _, 0, _, rfl, rfl, hsq, atI_nat (j := 0) rfl, _, rfl, ifF (by decide) (ifF (by decide) (ifF (by decide) (ifF (by decide) (ifF (by decide) (ifF (by decide) (ifF (by decide) (ifF (by decide) (ifF (by decide) (ifF (by decide) (ifF (by decide) (iteT ?_)))))))))))⟩
      exact q H (Same.refl _)
    | null b =>
      cases hd with
      | @tup a xs _ hsq ha =>
      cases ha with
      | @cons y xs _ _ p1 p2 =>
      cases p1
      refine ⟨_, rfl, a, _, 0, _, rfl, rfl, hsq, atI_nat (j := 0) rfl, _, rfl, ifF (by decide) (ifF (by decide) (ifF (by decide) (ifF (by decide) (ifF (by decide) (ifF (by decide) (ifF (by decide) (ifF (by decide) (ifF (by decide) (ifF (by decide) (ifF (by decide) (iteT ?_)))))))))))⟩
      exact q H (Same.refl _)
    | case c d1 d2 =>
      cases hd with
      | @tup a xs _ hsq ha =>
      cases ha with
      | @cons y xs _ _ p1 p2 =>
      cases p1
      obtain ⟨k0, k1, k2, rfl⟩ : ∃ k0 k1 k2, ks = [k0, k1, k2] := by
        match ks, hks with
        | [k0, k1, k2], _ => exact ⟨k0, k1, k2, rfl⟩
      have f1 : atI ([k0, k1, k2].map kdV) 1 = some (kdV k1) := atI_nat (j := 1) rfl
      have f2 : atI ([k0, k1, k2].map kdV) 2 = some (kdV k2) := atI_nat (j := 2) rfl
      refine ⟨_, rfl, a, _, 0, _, rfl, rfl, hsq, atI_nat (j := 0) rfl, _, rfl, ifF (by decide) (ifF (by decide) (ifF (by decide) (ifF (by decide) (ifF (by decide) (ifF (by decide) (ifT (by decide) ?_))))))⟩
      have q := q H (Same.refl _)
      refine ⟨_, rfl, fa, _, 1, _, rfl, rfl, SqL.of hfa, f1, _, rfl, ?_⟩
      cases k1 with
      | none => exact iteT ⟨_, rfl, fa, _, 2, _, rfl, rfl, SqL.of hfa, f2, q⟩
      | some y => exact iteF ⟨_, rfl, fa, _, 1, _, rfl, rfl, SqL.of hfa, f1, q⟩
end
end DS
set_option Elab.async false
set_option linter.all false
set_option maxRecDepth 100000
set_option maxHeartbeats 4000000
namespace DS
open PySem L2 PySem.NumText
abbrev sLook : Stmt := top 56
/-- only kinds are in the dicts -/
def KdOk (l : Kinds) : Prop := ∀ x y, l.lookup x = some y → y ∈ kindsL
theorem kids_ok {f : PyData → List Nat → Res7} (hf : ∀ d l y, f d l = .ok (some y) → y ∈ kindsL) : ∀ {ps : List (Nat × PyData)} {l : List Nat} {ks : List (Option Str)}, kidsM f l ps = .ok ks → OkKs ks ∧ ks.length = ps.length
  | [], l, ks, h => by simp only [kidsM] at h; cases h; exact ⟨fun y hy => (nomatch hy), rfl⟩
  | (i, x) :: r, l, ks, h => by
    simp only [kidsM] at h
    cases e1 : f x (l ++ [i]) with
    | error e => rw [e1] at h; cases h
    | ok k =>
      rw [e1] at h
      simp only at h
      cases e2 : kidsM f l r with
      | error e => rw [e2] at h; cases h
      | ok ks' =>
        rw [e2] at h
        cases h
        obtain ⟨h1, h2⟩ := kids_ok hf e2
        refine ⟨fun y hy => ?_, by simp [h2]⟩
        rcases List.mem_cons.mp hy with hy | hy
        · subst hy; exact hf _ _ _ e1
        · exact h1 y hy
theorem kv_kind {d : PyData} {y : Str} (h : kvM d = some y) : y ∈ kindsL := by
  cases d with
  | bool b => simp only [kvM] at h; cases h; decide
  | int i =>
    simp only [kvM] at h
    split at h
    · cases h; decide
    · cases h
  | str x =>
    simp only [kvM] at h
    split at h
    · cases h; decide
    · cases h
  | _ => cases h
theorem own_kind {cols vars : Kinds} (hc : KdOk cols) (hv : KdOk vars) {t : PyData} (hs : Shape t) {ks : List (Option Str)} (hk : OkKs ks) {y : Str} (h : ownM cols vars t ks = some y) : y ∈ kindsL := by
  have get : ∀ i, ks.getD i none = some y → y ∈ kindsL := fun i e => by
    rw [List.getD_eq_getElem?_getD] at e
    cases e2 : ks[i]? with
    | none => rw [e2] at e; cases e
    | some z =>
      rw [e2] at e
      have e : z = some y := e
      exact hk y (by rw [← e]; exact List.mem_of_getElem? e2)
  cases hs with
  | value d _ => exact kv_kind h
  | var x => exact hv x y h
  | col x => exact hc x y h
  | op o a b _ =>
    have h : some (opKind o) = some y := h
    cases h
    exact opKind_ok o
  | not a => have h : some ("truth" : Str) = some y := h; cases h; decide
  | null a => have h : some ("truth" : Str) = some y := h; cases h; decide
  | case c a b =>
    have h : (match ks.getD 1 none with | none => ks.getD 2 none | some x => some x) = some y := h
    cases e : ks.getD 1 none with
    | none => rw [e] at h; exact get 2 h
    | some x => rw [e] at h; cases h; exact get 1 e
theorem look_kind {cols vars : Kinds} (hc : KdOk cols) (hv : KdOk vars) : ∀ (n : Nat) (t : PyData) (l : List Nat) (y : Str), lookM cols vars n t l = .ok (some y) → y ∈ kindsL
  | 0, t, l, y, h => by simp only [lookM] at h; cases h
  | n + 1, t, l, y, h => by
    cases en : nodeM cols vars t with
    | some w => rw [lookM, en] at h; cases h
    | none =>
      rw [look_succ _ _ _ _ _ en] at h
      cases ek : kidsM (lookM cols vars n) l (partsM t) with
      | error e => rw [ek] at h; cases h
      | ok ks =>
        rw [ek] at h
        simp only at h
        cases eb : badM (partsM t) ks (wantM t ks) with
        | some i => rw [eb] at h; cases h
        | none =>
          rw [eb] at h
          have h : ownM cols vars t ks = some y := by simpa using h
          obtain ⟨hf, hh, _⟩ := node_none en
          exact own_kind hc hv (shape_of hf hh) (kids_ok (look_kind hc hv n) ek).1 h
def mapE (ks : List (Option Str)) : Except (Str × List Nat) (List (Option Str)) → Except (Str × List Nat) (List (Option Str))
  | .error e => .error e
  | .ok r => .ok (ks ++ r)
theorem kids_step {f : PyData → List Nat → Res7} {l : List Nat} {ps : List (Nat × PyData)} {i j : Nat} {d : PyData} (h : ps[i]? = some (j, d)) : kidsM f l (ps.drop i) = match f d (l ++ [j]) with
    | .error e => .error e
    | .ok k => match kidsM f l (ps.drop (i + 1)) with
      | .error e => .error e
      | .ok ks => .ok (k :: ks) := by
  obtain ⟨hl, e⟩ := List.getElem?_eq_some_iff.mp h
  rw [List.drop_eq_getElem_cons hl, e]
  rfl
theorem parts_len3 {t : PyData} (h : Shape t) : (partsM t).length ≤ 3 := by
  cases h with
  | value d _ => exact (show (0 : Nat) ≤ 3 by omega)
  | var x => exact (show (0 : Nat) ≤ 3 by omega)
  | col x => exact (show (0 : Nat) ≤ 3 by omega)
  | op o a b _ => exact (show (2 : Nat) ≤ 3 by omega)
  | not a => exact (show (1 : Nat) ≤ 3 by omega)
  | null a => exact (show (1 : Nat) ≤ 3 by omega)
  | case c a b => exact (show (3 : Nat) ≤ 3 by omega)
theorem gath_no : ∀ z ∈ hdsL, z ∉ gathL := by decide +kernel
section
variable {P : Program} {w : World} {K : PySem.W.Frag} {mg : Str → Option Value} {base : Heap} {CW CS CR : Addr}
theorem scLook : FnScope ["e", "scope", "path", "inner", "found", "step", "part"] ["e", "scope", "path"] (defScope sLook) := ⟨rfl, rfl, rfl, by decide +kernel, rfl, by decide +kernel, by decide +kernel⟩
def spLook (K : PySem.W.Frag) (CW CS CR : Addr) (cols vars : Kinds) (n : Nat) : Sp := fun vs H Q E => ∃ v t p pv l, vs = [v, .ref p, pv] ∧ Dp K H v t ∧ good t ∧ short t ∧ hgt t ≤ n ∧ ScAt CW CS cols vars H p ∧ PathAt K H pv l ∧ l.length + n ≤ 100 ∧
  (∀ k, lookM cols vars n t l = .ok k → ∀ H', Same H H' → Q (kdV k) H') ∧ ∀ x l', lookM cols vars n t l = .error (x, l') → ErW K CR E H x l'
theorem look_step {f : Addr} {fd : FuncData} {n : Nat} {cols vars : Kinds} {dvs : List V} {kws : List (Str × V)} (hn : n ≤ 59) (hcK : KdOk cols) (hvK : KdOk vars) (mG : ∃ a, mg "GATHERING" = some (.ref a) ∧ KSq K a (gathL.map V.str))
    (DA : Cal P w K mg base (L2N.CX P w) 7 "need_allowed" ["e", "scope", "path"] [] (spAllow K CW CS CR cols vars)) (DP : Cal P w K mg base CX0 1 "parts_in" ["e"] [] (spPartsIn K))
    (DN : Cal P w K mg base (L2N.CX P w) 7 "need_kinds" ["e", "found", "scope", "path"] [] (spNeedK K CR)) (DO : Cal P w K mg base CX0 3 "own_kind" ["e", "found", "scope"] [] (spOwn K CW CS cols vars))
    (F : FunD K "look" "look" (defArgs sLook) (defBody sLook) (defScope sLook) dvs kws f fd) (mF : mg "look" = some (.ref f)) (bF : Binds K fd ["e", "scope", "path"] [])
    (G : FnOk P w K mg base (L2N.CX P w) (n + 8) f fd ["e", "scope", "path"] (spLook K CW CS CR cols vars n)) : FnOk P w K mg base (L2N.CX P w) (n + 9) f fd ["e", "scope", "path"] (spLook K CW CS CR cols vars (n + 1)) := by
  obtain ⟨f1, fd1, ds1, e1, k1, v1, b1, G1⟩ := DA.ex
  obtain ⟨f2, fd2, ds2, e2, k2, v2, b2, G2⟩ := DP.ex
  obtain ⟨f3, fd3, ds3, e3, k3, v3, b3, G3⟩ := DN.ex
  obtain ⟨f4, fd4, ds4, e4, k4, v4, b4, G4⟩ := DO.ex
  obtain ⟨aG, mG, hG⟩ := mG
  refine F.ok scLook (fun vs H Q E h => ?_) (fun cdv A outer s H vs Q E hr h => ?_)
  · obtain ⟨v, t, p, pv, l, rfl, _⟩ := h
    rfl
  · obtain ⟨v, t, p, pvl, l, rfl, hd, hg, hs, hh, hS, hP, hl, q, er⟩ := h
    refine ⟨_, pss_cons (ps_expr (pe_call G1 (hr.mono (by omega)) rfl e1 k1 b1 v1 (L2N.passes_call (L2N.takes_of rfl rfl rfl rfl) (fun _ _ _ _ h => h)) (pa_cons (pv 0) (pa_cons (pv 1) (pa_cons (pv 2) pa_nil)))))
      (pss_cons (ps_set (i := 3) scLook.nd rfl (Or.inr rfl) (pe_ifExp (pt_cmpR (show OpR _ (compareOp .In) (rIn K false) from op_in_seq) (pe_ix ix_tup (pv 0) pe_int (fun _ _ => rfl)) (pe_glob (v := .ref aG) rfl mG rfl) (by rfl)) pe_no (pv 1)))
      (pss_cons (ps_setLcN (i := 4) (own := [("step", 5), ("part", 6)]) (g := gTup K 2 (gCons (gName 5) (gCons (gName 6) gNil))) (tt := tYes) rfl rfl (L2N.takes_of rfl rfl rfl rfl) rfl scLook.nd rfl rfl (sw_true rfl rfl rfl (by decide +kernel))
          (pi_list (pe_call G2 (hr.mono (by omega)) rfl e2 k2 b2 v2 pass0 (pa_cons (pv 0) pa_nil))) (blkOk_by (N := ["e", "scope", "path", "inner", "found", "step", "part"]) (sc := defScope sLook) (by decide +kernel))
          (fun _ _ _ _ _ => pg_tup (by rfl) (pgs_cons (pg_name (i := 5) scLook.nd rfl (Or.inl rfl)) (pgs_cons (pg_name (i := 6) scLook.nd rfl (Or.inl rfl)) pgs_nil))) (fun _ _ _ _ _ => pts_nil)
          (fun _ _ _ _ _ _ hp => pe_call G hr rfl mF F.kp bF .nil hp (pa_cons (pv 6) (pa_cons (pv 3) (pa_cons (pe_op (show OpR _ (binaryOp .Add) (rCatA K) from op_catA) (pv 2) (pv 5)) pa_nil)))))
      (pss_cons (ps_expr (pe_call G3 (hr.mono (by omega)) rfl e3 k3 b3 v3 (L2N.passes_call (L2N.takes_of rfl rfl rfl rfl) (fun _ _ _ _ h => h)) (pa_cons (pv 0) (pa_cons (pv 4) (pa_cons (pv 1) (pa_cons (pv 2) pa_nil))))))
      (pss_one (ps_ret (pe_call G4 (hr.mono (by omega)) rfl e4 k4 b4 v4 pass0 (pa_cons (pv 0) (pa_cons (pv 4) (pa_cons (pv 1) pa_nil))))))))), ?_⟩
    refine ⟨_, rfl, _, rfl, _, rfl, v, t, p, pvl, l, rfl, hd, hg, hs, by omega, hS, hP, fun hnode H1 sm => ?_, fun r hnode => er r l (by rw [lookM, hnode])⟩
    obtain ⟨hf, hhd, hth⟩ := node_none hnode
    have hsh := shape_of hf hhd
    rw [look_succ _ _ _ _ _ hnode] at q er
    obtain ⟨z, ds, so, et, _, _, _⟩ := form_head (form_headed hf)
    have hz : z ∈ hdsL := by rw [et] at hhd; exact hhd
    have hdt : ∃ a xs, v = .ref a ∧ SqT K H a (.str z :: xs) := by
      rw [et] at hd
      cases hd with
      | @tup a xs _ hsq ha =>
      cases ha with
      | @cons x xs _ _ p1 p2 =>
      cases p1
      exact ⟨a, xs, rfl, hsq⟩
    obtain ⟨a, xs, rfl, hsq⟩ := hdt
    refine ⟨_, rfl, a, _, 0, _, rfl, rfl, sqT_same sm hsq, atI_nat (j := 0) rfl, aG, _, rfl, .inr (hG.sq _), rfl, flat_strs _, _, rfl, ?_⟩
    refine ifF (show inV (.str z) (gathL.map V.str) = false by rw [in_strs]; exact decide_eq_false (gath_no z hz)) ⟨_, rfl, ?_⟩
    refine ⟨_, rfl, _, t, rfl, dp_same sm _ _ hd, hg, hf, hhd, fun D2 H2 sm2 hD2n hPa => ?_⟩
    obtain ⟨rs, hrs, hpr⟩ := hPa
    have lp := paired_len hpr
    have s02 := sm.trans sm2
    have lp3 := parts_len3 hsh
    refine ⟨D2, rfl, ⟨_, SqL.of hrs⟩, fun D hD => ?_⟩
    refine lc_it (walk_list (a := D2) (xs := rs)) (fun i H' => ∃ ks, ks.length = i ∧ Same H2 H' ∧ H' D = some (.lst (ks.map kdV)) ∧ OkKs ks ∧ kidsM (lookM cols vars n) l (partsM t) = mapE ks (kidsM (lookM cols vars n) l ((partsM t).drop i)))
      ⟨[], rfl, same_new hD _, upd_same, fun y hy => (nomatch hy), by rw [List.drop_zero]; cases kidsM (lookM cols vars n) l (partsM t) <;> rfl⟩ (fun i H' _ h => by obtain ⟨_, _, sm3, _⟩ := h; exact SqL.of (sm3 _ _ hrs)) ?_ ?_
    · rintro i x H3 H4 hi ⟨ks, hki, sm3, hD3, hok, hkm⟩ ⟨rfl, hx⟩
      obtain ⟨⟨j, d⟩, ep, stq, stp, xv, rfl, hq1, hq2, hdp⟩ := paired_get hpr hx
      have hip : i < (partsM t).length := (List.getElem?_eq_some_iff.mp ep).1
      obtain ⟨ds', et', i0, ed0⟩ := parts_mem hsh _ (List.mem_of_getElem? ep)
      have hgd : good d := by rw [et'] at hg; exact good_get (by simpa [good] using hg) ed0
      have hsd : short d := by rw [et'] at hs; exact short_get (by simp only [short] at hs; exact hs.1) ed0
      have hhd2 : hgt d ≤ n := by have h9 : hgt d ≤ hgtAll ds' := hgt_get ed0; rw [et'] at hh; simp only [hgt] at hh; omega
      refine ⟨stq, _, rfl, SqT.of (sm3 _ _ hq1), rfl, _, _, rfl, _, [], rfl, rfl, rfl, _, rfl, _, rfl, _, rfl, _, rfl, ?_⟩
      refine cat_path (hP.same (s02.trans sm3)) (sm3 _ _ hq2) (by omega) fun v' H5 sm5 hP5 => ?_
      have s25 := sm3.trans sm5
      rw [kids_step ep] at hkm
      refine ⟨xv, d, p, v', l ++ [j], rfl, dp_same s25 _ _ hdp, hgd, hsd, hhd2, hS.same (s02.trans s25), hP5, by rw [List.length_append, List.length_singleton]; omega, fun k hk H6 sm6 => ?_, fun x l' hk => ?_⟩
      · refine ⟨_, sm6 _ _ (sm5 _ _ hD3), small' (by rw [List.length_map]; omega), ks ++ [k], by simp [hki], same_put (s25.trans sm6) hD _, by rw [upd_same]; simp, fun y hy => ?_, ?_⟩
        · rcases List.mem_append.mp hy with hy | hy
          · exact hok y hy
          · simp only [List.mem_singleton] at hy
            subst hy
            exact look_kind hcK hvK n _ _ _ hk
        · rw [hkm, hk]
          cases kidsM (lookM cols vars n) l ((partsM t).drop (i + 1)) with
          | error e => rfl
          | ok r => simp [mapE]
      · have e9 : kidsM (lookM cols vars n) l (partsM t) = .error (x, l') := by rw [hkm, hk]; rfl
        exact (er x l' (by rw [e9])).mono ((s02.trans sm3).trans sm5)
    · rintro H3 ⟨ks, hki, sm3, hD3, hok, hkm⟩
      rw [List.drop_eq_nil_of_le (by omega)] at hkm
      have hkm : kidsM (lookM cols vars n) l (partsM t) = .ok ks := by rw [hkm]; simp [kidsM, mapE]
      rw [hkm] at q er
      have s03 := s02.trans sm3
      refine ⟨_, rfl, _, rfl, _, rfl, _, rfl, _, t, D, ks, .ref p, pvl, l, rfl, dp_same s03 _ _ hd, hg, hs, by omega, hf, hhd, hD3, by omega, hok, hP.same s03, by omega, fun hb H4 sm4 => ?_, fun i hb => ?_⟩
      · refine ⟨_, rfl, _, rfl, _, rfl, _, t, D, ks, p, rfl, dp_same (s03.trans sm4) _ _ hd, hg, hs, hnode, sm4 _ _ hD3, by omega, hS.same (s03.trans sm4), fun H5 sm5 => ?_⟩
        exact q _ (by simp only [hb]) H5 ((s03.trans sm4).trans sm5)
      · exact (er "kind" (l ++ [i]) (by simp only [hb])).mono s03
end
end DS
set_option Elab.async false
set_option linter.all false
set_option maxRecDepth 100000
set_option maxHeartbeats 4000000
namespace DS
open PySem L2 PySem.NumText
section
variable {P : Program} {w : World} {K : PySem.W.Frag} {mg : Str → Option Value} {base : Heap} {CW CS CR : Addr}
theorem ok_look {f : Addr} {fd : FuncData} {cols vars : Kinds} {dvs : List V} {kws : List (Str × V)} (hcK : KdOk cols) (hvK : KdOk vars) (mG : ∃ a, mg "GATHERING" = some (.ref a) ∧ KSq K a (gathL.map V.str))
    (DA : Cal P w K mg base (L2N.CX P w) 7 "need_allowed" ["e", "scope", "path"] [] (spAllow K CW CS CR cols vars)) (DP : Cal P w K mg base CX0 1 "parts_in" ["e"] [] (spPartsIn K))
    (DN : Cal P w K mg base (L2N.CX P w) 7 "need_kinds" ["e", "found", "scope", "path"] [] (spNeedK K CR)) (DO : Cal P w K mg base CX0 3 "own_kind" ["e", "found", "scope"] [] (spOwn K CW CS cols vars))
    (F : FunD K "look" "look" (defArgs sLook) (defBody sLook) (defScope sLook) dvs kws f fd) (mF : mg "look" = some (.ref f)) (bF : Binds K fd ["e", "scope", "path"] []) :
    ∀ n : Nat, n ≤ 60 → FnOk P w K mg base (L2N.CX P w) (n + 8) f fd ["e", "scope", "path"] (spLook K CW CS CR cols vars n)
  | 0, _ => by
    have no : ∀ vs H Q E, ¬ spLook K CW CS CR cols vars 0 vs H Q E := fun vs H Q E h => by
      obtain ⟨v, t, p, pv, l, _, _, _, _, h1, _⟩ := h
      have := hgt_pos t
      omega
    exact ⟨fun vs H Q E h => absurd h (no vs H Q E), fun A outer s H args us vs Q E _ _ _ _ h => absurd h (no vs H Q E)⟩
  | n + 1, h => look_step (by omega) hcK hvK mG DA DP DN DO F mF bF (ok_look hcK hvK mG DA DP DN DO F mF bF n (by omega))
/-! ### KindScope -/
theorem scKS : FnScope ["self", "world", "columns", "variables", "is_quiet", "is_handling"] ["self", "world", "columns", "variables", "is_quiet", "is_handling"] (defScope (sKS 0)) := ⟨rfl, rfl, rfl, by decide +kernel, rfl, by decide +kernel, by decide +kernel⟩
theorem sf_init (wa ca va : Addr) : putF "is_handling" (.bl false) (putF "is_quiet" (.bl false) (putF "variables" (.ref va) (putF "columns" (.ref ca) (putF "world" (.ref wa) [])))) = sFlds wa ca va := by rfl
def spKS (CS : Addr) : Sp := fun vs H Q _ => ∃ p dx wa ca va, vs = [.ref p, .ref wa, .ref ca, .ref va, .bl false, .bl false] ∧ H p = some (.ins CS dx []) ∧ Q .non (upd H p (.ins CS dx (sFlds wa ca va)))
theorem ok_ks {f : Addr} {fd : FuncData} {k : Nat} {dvs : List V} {kws : List (Str × V)} (W : Wd K mg CW CS) (F : FunD K "__init__" "KindScope.__init__" (defArgs (sKS 0)) (defBody (sKS 0)) (defScope (sKS 0)) dvs kws f fd) :
    FnOk P w K mg base CX0 (k + 1) f fd ["self", "world", "columns", "variables", "is_quiet", "is_handling"] (spKS CS) := by
  refine F.ok scKS (fun vs H Q E h => ?_) (fun cdv A outer s H vs Q E hr h => ?_)
  · obtain ⟨p, dx, wa, ca, va, rfl, _⟩ := h
    rfl
  · obtain ⟨p, dx, wa, ca, va, rfl, hp, q⟩ := h
    refine ⟨_, pss_cons (ps_fld (pv 0) (pv 1) rfl) (pss_cons (ps_fld (pv 0) (pv 2) rfl) (pss_cons (ps_fld (pv 0) (pv 3) rfl) (pss_cons (ps_fld (pv 0) (pv 4) rfl) (pss_one (ps_fld (pv 0) (pv 5) rfl))))), ?_⟩
    refine ⟨_, rfl, _, rfl, p, CS, dx, _, rfl, hp, W.clS, W.nW, (by show 0 < 1000; decide), ?_⟩
    refine ⟨_, rfl, _, rfl, p, CS, dx, _, rfl, upd_same, W.clS, W.nC, (by show 1 < 1000; decide), ?_⟩
    refine ⟨_, rfl, _, rfl, p, CS, dx, _, rfl, upd_same, W.clS, W.nV, (by show 2 < 1000; decide), ?_⟩
    refine ⟨_, rfl, _, rfl, p, CS, dx, _, rfl, upd_same, W.clS, W.nQ, (by show 3 < 1000; decide), ?_⟩
    refine ⟨_, rfl, _, rfl, p, CS, dx, _, rfl, upd_same, W.clS, W.nH, (by show 4 < 1000; decide), ?_⟩
    rw [upd_upd, upd_upd, upd_upd, upd_upd, sf_init]
    exact q
end
end DS
set_option Elab.async false
set_option linter.all false
set_option maxRecDepth 100000
set_option maxHeartbeats 4000000
namespace DS
open PySem PySem.Spec PyProof.Rows L2 L2H HotX
section
variable {X : Cx} {C : Addr} {nm : Str} {n : Nat} {sel : List (Str × Nat)}
/-- e.f in a suite that may raise -/
theorem pe_fldEX {a : Addr} {oe : Obj} {cls : Value} {d : Option Addr} {pn : List (Addr × Obj)} {xe : Value → Shared → Prop} {e : Expr} {f : Str} {te : TE} {pos : Pos} (T : ExOk X.prog X.w X.K X.mg nm C n sel) (hf0 : f ∈ sel.map (·.1)) (hz : Zc cls d oe) (hf : ∃ vs, oe.data = .fields vs)
    (he : PE ((suiteX X a ((a, oe) :: pn)).wish xe) e te) (hb : attributeBase e f X.env (eval e X.env) = eval e X.env := by rfl) :
    PE ((suiteX X a ((a, oe) :: pn)).wish xe) (.Attribute e f pos) (tFldE C f a cls d te) := by
  obtain ⟨B, nI, iI, bm, fI, XB, TX, ini⟩ := T.ex
  refine ⟨fun pins s σ H Q I h => ?_⟩
  refine attr_of hb (thn (he.run pins s σ H _ I h) fun u s1 hh => ?_)
  obtain ⟨x, H1, I1, rx, ex, ec, dd, fs, v, ed, ea, el, q⟩ := hh
  subst ex
  obtain rfl : u = Value.ref a := rx
  subst ec
  subst ed
  obtain ⟨ha, _⟩ := I1.pin (a, oe) (List.mem_append_left _ List.mem_cons_self)
  obtain ⟨vs, hd⟩ := hf
  have hx : ObjOk X.prog X.w H1 s1.heap dd (.xd fs) := I1.hok dd _ ea
  obtain ⟨mA, hns, hr⟩ := hx
  obtain ⟨od, ho, hl⟩ := lookIn_ns hns
  obtain ⟨u, hu, ru⟩ := RelO.some_of (v := v) (o := mA f) (by rw [← el]; exact hr f)
  have J : PySem.W.InstAt s1.heap a oe C (some od) := ⟨ha, hz.1, by unfold PySem.W.notCls; rw [hd] <;> rfl, by rw [hz.2]; exact ho⟩
  exact HandSPX.exc_get I1.kIn J TX.ga TX.gg TX.exC (PySem.W.findObj_own TX.hdC (TX.noN f hf0) rfl (by rw [hl, hu])) (handed_of ru) ⟨v, H1, I1.tok _, ru, q⟩
end
end DS
namespace DS
open PySem L2 PySem.NumText
abbrev sKindOf : Stmt := top 57
def selB : List (Str × Nat) := [("word", 1), ("path", 0)]
/-- a BadTree with that word and path may leave -/
def ErB (K : PySem.W.Frag) (CB : Addr) (E : XK) (H : Hp) (r : Str) (l : List Nat) : Prop := ∀ d pv H', Same H H' → H' d = some (.xd [("word", .str r), ("path", pv)]) → PathAt K H' pv l → E (.ref CB) (some d) H'
section
variable {P : Program} {w : World} {K : PySem.W.Frag} {mg : Str → Option Value} {base : Heap} {CW CS CR CB : Addr}
theorem scKindOf : FnScope ["e", "columns", "variables", "found", "wrong"] ["e", "columns", "variables"] (defScope sKindOf) := ⟨rfl, rfl, rfl, by decide +kernel, rfl, by decide +kernel, by decide +kernel⟩
def spKindOf (K : PySem.W.Frag) (CB : Addr) (cols vars : Kinds) : Sp := fun vs H Q E => ∃ v t ca va, vs = [v, .ref ca, .ref va] ∧ Dp K H v t ∧ good t ∧ short t ∧ hgt t ≤ 30 ∧ cnt t ≤ 2000 ∧ H ca = some (.dK (kdKV cols)) ∧ H va = some (.dK (kdKV vars)) ∧
  (∀ k, lookM cols vars 30 t [] = .ok k → ∀ H', Same H H' → Q (kdV k) H') ∧ ∀ x l, lookM cols vars 30 t [] = .error (x, l) → ErB K CB E H (saidM x) l
theorem ok_kindOf {f fI aE : Addr} {fd fdI : FuncData} {k : Nat} {cols vars : Kinds} (W : Wd K mg CW CS) (mO : MkO K CW) (mW : mg "NoWorld" = some (.ref CW)) (mS : mg "KindScope" = some (.ref CS)) (Mi : Mk K CS fI)
    (CI : ∃ ds, Vals [.bl false, .bl false] ds ∧ Binds K fdI ["self", "world", "columns", "variables", "is_quiet", "is_handling"] ds) (GI : FnOk P w K mg base CX0 1 fI fdI ["self", "world", "columns", "variables", "is_quiet", "is_handling"] (spKS CS))
    (TR : ExOk P w K mg "Wrong" CR 3 selW) (gR : mg "Wrong" = some (.ref CR)) (teR : PySem.W.exmOne K (.ref CR) (.ref CR) = some true) (TB : ExOk P w K mg "BadTree" CB 2 selB) (hE : KSq K aE [])
    (DL : Cal P w K mg base (L2N.CX P w) 38 "look" ["e", "scope", "path"] [.ref aE] (spLook K CW CS CR cols vars 30)) (DT : Cal P w K mg base CX0 33 "is_tree" ["value"] [] (spD K (fun t => hgt t ≤ 30 ∧ cnt t ≤ 2000) fun _ => .bl true))
    (F : Fun K "kind_of" "kind_of" sKindOf f fd) : FnOk P w K mg base (L2.CX P w) (k + 40) f fd ["e", "columns", "variables"] (spKindOf K CB cols vars) := by
  obtain ⟨f1, fd1, ds1, e1, k1, v1, b1, G1⟩ := DL.ex
  obtain ⟨f2, fd2, ds2, e2, k2, v2, b2, G2⟩ := DT.ex
  obtain ⟨dsI, vI, bI⟩ := CI
  refine okG F scKindOf (fun vs H Q E h => ?_) (fun cdv A outer s H vs Q E hr h => ?_)
  · obtain ⟨v, t, ca, va, rfl, _⟩ := h
    rfl
  · obtain ⟨v, t, ca, va, rfl, hd, hg, hs, hh, hc, hca, hva, q, er⟩ := h
    have hr38 : Room 38 _ := hr.mono (show 38 ≤ k + 39 by omega)
    have hr2 : Room 2 _ := hr.mono (show 2 ≤ k + 39 by omega)
    refine ⟨_, pss_cons (ps_try_asX (i := 4) (tb := fun W => tAsg (tCallSD (spLook K CW CS CR cols vars 30) [.ref aE] (WE W) (tCons (tVar 0) (tCons (tMake CS (spKS CS) [.bl false, .bl false] E0 (tCons (tMkO CW) (tCons (tVar 1) (tCons (tVar 2) tNil)))) tNil))) (gName 3))
        (Wout := fun cls d _ H => E cls d H) rfl rfl scKindOf.nd rfl rfl ⟨rfl, by decide, Or.inl gR⟩ (L2H.passesAt_of rfl) (L2.takes_of rfl rfl rfl rfl)
        (fun W pn xe tk _ => pss_one (ps_set (i := 3) scKindOf.nd rfl (Or.inl rfl) (by exact (pe_callSD G1 hr38 rfl e1 k1 b1 v1 (fun σ => L2N.passAt tk σ) (by exact (pa_cons (pv 0) (pa_cons (by exact (pe_make Mi GI hr2 rfl mS bI vI pass0 (by exact (pa_cons (pe_mkO mO rfl mW) (pa_cons (pv 1) (pa_cons (pv 2) pa_nil)))))) pa_nil)))))))
        (fun a oe cls d pn xe hz hf tk hot => pss_one (L2H.ps_raiseHN hot tk (pmk5E TB (show (A.deeper (PyProof.Rows.envOfC "kind_of" (defScope sKindOf) s.heap.objs.size f cdv)).depth + 1 < recursionLimit by have := hr.dp; omega) (by exact (pa_cons (pe_fldEX TR (by decide) hz.zc hf (pv 4)) (pa_cons (pe_ifExp (pt_cmpR op_eq (pe_fldEX TR (by decide) hz.zc hf (pv 4)) pe_str (nomark _)) pe_str (pe_fldEX TR (by decide) hz.zc hf (pv 4))) pa_nil)))))))
      (pss_cons (ps_if (pt_not (pt_val (pe_call G2 (hr.mono (by omega)) rfl e2 k2 b2 v2 pass0 (pa_cons (pv 0) pa_nil)))) pss_no pss_nil) (pss_one (ps_ret (pv 3)))), ?_⟩
    refine ⟨_, rfl, fun wa dw hwa hdw nw => ⟨_, rfl, _, rfl, fun y dy hy hdy ny => ?_⟩⟩
    have n1 : ∀ {b o}, H b = some o → b ≠ wa ∧ b ≠ dw := fun e => ⟨ne_of_none e hwa, ne_of_none e hdw⟩
    have s1 : Same H (upd (upd H dw (.own wa)) wa (.ins CW dw [])) := fun b o e => by rw [upd_ne (n1 e).1, upd_ne (n1 e).2]; exact e
    have s2 : Same (upd (upd H dw (.own wa)) wa (.ins CW dw [])) (upd (upd (upd (upd H dw (.own wa)) wa (.ins CW dw [])) dy (.own y)) y (.ins CS dy (sFlds wa ca va))) := fun b o e => by rw [upd_ne (ne_of_none e hy), upd_ne (ne_of_none e hdy)]; exact e
    refine ⟨y, dy, wa, ca, va, rfl, upd_same, rfl, ?_⟩
    rw [upd_upd]
    have s12 := s1.trans s2
    refine ⟨v, t, y, .ref aE, [], rfl, dp_same s12 _ _ hd, hg, hs, hh, ⟨dy, dw, wa, ca, va, upd_same, s2 _ _ upd_same, s12 _ _ hca, s12 _ _ hva⟩, ⟨aE, rfl, hE.sq _⟩, by decide, fun k hk H3 sm => ?_, fun x l hk d wv pv H3 sm hxd hP => ?_⟩
    · refine ⟨_, rfl, v, t, rfl, dp_same (s12.trans sm) _ _ hd, hg, hs, ⟨hh, hc⟩, fun H4 sm4 => ⟨_, rfl, iteF ⟨_, rfl, q k hk H4 ((s12.trans sm).trans sm4)⟩⟩⟩
    · refine ⟨true, teR, fun _ a0 ha0 => ?_, fun z => Bool.noConfusion z⟩
      refine ⟨_, rfl, rfl, rfl, d, _, pv, rfl, hxd, rfl, ?_⟩
      refine ⟨_, rfl, rfl, rfl, d, _, .str x, rfl, hxd, rfl, rfl, _, rfl, ?_⟩
      have er := er x l hk
      unfold saidM at er
      by_cases hx : x = "handler"
      · rw [if_pos hx] at er
        subst hx
        refine ifT (eqS _) ⟨rfl, fun dd hdd => ?_⟩
        have s5 := same_new hdd (.xd (layV selB [pv, .str "form"]))
        exact er dd _ _ ((s12.trans sm).trans s5) upd_same (hP.same s5)
      · rw [if_neg hx] at er
        refine ifF (neS hx) ⟨_, rfl, rfl, rfl, d, _, .str x, rfl, hxd, rfl, rfl, fun dd hdd => ?_⟩
        have s5 := same_new hdd (.xd (layV selB [pv, .str x]))
        exact er dd _ _ ((s12.trans sm).trans s5) upd_same (hP.same s5)
end
end DS
set_option Elab.async false
set_option linter.all false
set_option maxRecDepth 100000
set_option maxHeartbeats 4000000
namespace DS
open PySem L2 PySem.NumText
abbrev sPen : Stmt := top 59
abbrev sDraw : Stmt := top 60
abbrev sPick : Stmt := top 61
/-! ### the pen -/
def penK (c : Addr) (a r : Int) : List (Key × V) := [(Sum.inr "cells", .ref c), (Sum.inr "at", .int a), (Sum.inr "rest", .int r)]
structure PenAt (H : Hp) (d c : Addr) (ns : List Int) (a : Nat) (r : Int) : Prop where
  dict : H d = some (.dK (penK c a r))
  cells : H c = some (.lst (ns.map V.int))
  len : ns.length ≤ 63
theorem pen_ne {H : Hp} {d c : Addr} {ns : List Int} {a : Nat} {r : Int} (p : PenAt H d c ns a r) : c ≠ d := fun e => by
  have := p.dict; rw [← e, p.cells] at this; cases this
theorem get_cells {H : Hp} {d c : Addr} {a r : Int} (h : H d = some (.dK (penK c a r))) : DGet H d (.str "cells") (some (.ref c)) := DGet.k (k := Sum.inr "cells") h
theorem get_at {H : Hp} {d c : Addr} {a r : Int} (h : H d = some (.dK (penK c a r))) : DGet H d (.str "at") (some (.int a)) := DGet.k (k := Sum.inr "at") h
theorem get_rest {H : Hp} {d c : Addr} {a r : Int} (h : H d = some (.dK (penK c a r))) : DGet H d (.str "rest") (some (.int r)) := DGet.k (k := Sum.inr "rest") h
theorem put_at {H : Hp} {d c : Addr} {a r a' : Int} (h : H d = some (.dK (penK c a r))) : DPut H d (.str "at") (.int a') (upd H d (.dK (penK c a' r))) := DPut.k (k := Sum.inr "at") h (small' (by show 3 < _; decide))
theorem put_rest {H : Hp} {d c : Addr} {a r r' : Int} (h : H d = some (.dK (penK c a r))) : DPut H d (.str "rest") (.int r') (upd H d (.dK (penK c a r'))) := DPut.k (k := Sum.inr "rest") h (small' (by show 3 < _; decide))
theorem pen_upd {H : Hp} {d c : Addr} {ns : List Int} {a a' : Nat} {r r' : Int} (p : PenAt H d c ns a r) : PenAt (upd H d (.dK (penK c a' r'))) d c ns a' r' :=
  ⟨upd_same, by rw [upd_ne (pen_ne p)]; exact p.cells, p.len⟩
theorem dp_ints {K : PySem.W.Frag} {H : Hp} : ∀ ns : List Int, DpAll K H (ns.map V.int) (ns.map PyData.int)
  | [] => .nil
  | n :: ns => .cons (.int n) (dp_ints ns)
theorem lay_ints : ∀ ns : List Int, PyData.canLayAll0 (ns.map PyData.int) = true ∧ PyData.depthAll (ns.map PyData.int) = 0
  | [] => ⟨rfl, rfl⟩
  | n :: ns => by have := lay_ints ns; simp [PyData.canLayAll0, PyData.canLay0, PyData.depthAll, PyData.depth, this.1, this.2]
theorem shaped_ints (ns : List Int) : SeqAt.shaped (.list (ns.map PyData.int)) = true := by
  have := lay_ints ns
  simp [SeqAt.shaped, PyData.canLay0, PyData.depth, this.1, this.2]
theorem fm0 {a b : Int} (h : 0 < b) : 0 ≤ a.fmod b := Int.fmod_nonneg_of_pos a h
theorem fm1 {a b : Int} (h : 0 < b) : a.fmod b < b := Int.fmod_lt_of_pos a h
theorem fmB {a b : Int} (h : 0 < b) (h2 : b < 2 ^ 64) : -(2 ^ 64) < a.fmod b ∧ a.fmod b < 2 ^ 64 := by
  have h3 := fm0 (a := a) h
  have h4 := fm1 (a := a) h
  omega
theorem nz {n : Int} (h : n ≠ 0) : n ≠ 0 := h
theorem boot_abs' : bootBuiltins "abs" = some (.builtin "abs") := by decide +kernel
section
variable {P : Program} {w : World} {K : PySem.W.Frag} {mg : Str → Option Value} {base : Heap}
theorem scDraw : FnScope ["_law_pen_here", "_law_many", "_law_digit", "_law_at", "_law_cell", "_law_mixed"] ["_law_pen_here", "_law_many"] (defScope sDraw) := ⟨rfl, rfl, rfl, by decide +kernel, rfl, by decide +kernel, by decide +kernel⟩
def spDraw : Sp := fun vs H Q _ => ∃ d c ns a r m, vs = [.ref d, .int m] ∧ PenAt H d c ns a r ∧ a ≤ 2 ^ 30 ∧ 0 < m ∧ m < 2 ^ 30 ∧
  ∀ i a' r' H', 0 ≤ i → i < m → a' ≤ a + 1 → Sb d H H' → PenAt H' d c ns a' r' → Q (.int i) H'
theorem ok_draw {f : Addr} {fd : FuncData} {k : Nat} (B : Bn mg) (F : Fun K "_law_draw" "_law_draw" sDraw f fd) : FnOk P w K mg base CX0 (k + 1) f fd ["_law_pen_here", "_law_many"] spDraw := by
  refine F.ok scDraw (fun vs H Q E h => ?_) (fun cdv A outer s H vs Q E hr h => ?_)
  · obtain ⟨d, c, ns, a, r, m, rfl, _⟩ := h
    rfl
  · obtain ⟨d, c, ns, a, r, m, rfl, hp, ha, hm0, hm1, q⟩ := h
    have hu := hu_of hr
    have cm : m ≠ 0 ∧ m.natAbs < 1073741824 := by omega
    -- the mixture
    obtain ⟨mx, dmx, mixed⟩ : ∃ tl : TS, PSs (cxOf CX0 P w K mg base ["_law_pen_here", "_law_many", "_law_digit", "_law_at", "_law_cell", "_law_mixed"] "_law_draw" (defScope sDraw) f cdv A outer s H E).nox ((defBody sDraw).drop 6) tl ∧
        ∀ (H1 : Hp) (cell : Int), Sb d H H1 → PenAt H1 d c ns (a + 1) r →
          tl { nx := fun _ H' => Q .non H', rt := Q } [some (.ref d), some (.int m), none, some (.int (a : Nat)), some (.int cell), none] H1 := by
      refine ⟨_, pss_cons (ps_set (i := 5) scDraw.nd rfl (Or.inl rfl) (pe_op op_add (pe_op op_mul (pe_op op_modN (pe_callTy call_int1 (by rfl) B.int PyProof.Rows.boot_int (pa_cons (pv 4) pa_nil)) pe_int) pe_int) (pe_op op_mul (pe_op op_mul pe_int (pv 3)) (pv 3))))
        (pss_cons (ps_set (i := 5) scDraw.nd rfl (Or.inl rfl) (pe_op op_modN (pe_callTy call_int1 (by rfl) B.int PyProof.Rows.boot_int (pa_cons (pe_op op_add (pe_op op_add (pv 5) (pe_op op_mul pe_int (pv 3))) pe_int) pa_nil)) pe_int))
        (pss_cons (ps_set (i := 5) scDraw.nd rfl (Or.inl rfl) (pe_op op_modN (pe_callTy call_int1 (by rfl) B.int PyProof.Rows.boot_int (pa_cons (pe_op op_add (pe_op op_add (pe_op op_add (pe_op op_mul (pv 5) (pv 5)) (pe_op op_mul pe_int (pv 5))) (pe_op op_mul pe_int (pv 3))) pe_int) pa_nil)) pe_int))
        (pss_one (ps_ret (pe_op op_modN (pe_callTy call_int1 (by rfl) B.int PyProof.Rows.boot_int (pa_cons (pe_op op_fdivN (pe_op op_modN (pe_callTy call_int1 (by rfl) B.int PyProof.Rows.boot_int (pa_cons (pe_op op_mul (pv 5) (pe_op op_add (pv 5) pe_int)) pa_nil)) pe_int) pe_int) pa_nil)) (pv 1)))))), ?_⟩
      intro H1 cell b1 p1
      have c128 : (128 : Int) ≠ 0 ∧ (128 : Int).natAbs < 1073741824 := by decide
      refine ⟨_, rfl, .inl ⟨_, rfl, _, _, rfl, rfl, nz (n := 4294967231) (by decide), _, _, rfl, rfl, .inl (fmB (b := 4294967231) (by decide) (by decide)), _, rfl, _, _, rfl, rfl, .inl (by decide), _, rfl, _, _, rfl, rfl, .inl (by omega), _, _, rfl, rfl, ?_⟩⟩
      refine ⟨_, rfl, _, rfl, _, _, rfl, rfl, .inl (by decide), _, _, rfl, rfl, _, _, rfl, rfl, .inl ⟨_, rfl, _, _, rfl, rfl, nz (n := 4294967197) (by decide), ?_⟩⟩
      refine ⟨_, rfl, _, rfl, _, _, rfl, rfl, .inl (fmB (b := 4294967197) (by decide) (by decide)), _, rfl, _, _, rfl, rfl, .inl (by decide), _, _, rfl, rfl, _, rfl, _, _, rfl, rfl, .inl (by decide), _, _, rfl, rfl, _, _, rfl, rfl, .inl ⟨_, rfl, _, _, rfl, rfl, nz (n := 4294967189) (by decide), ?_⟩⟩
      refine ⟨_, rfl, _, rfl, _, _, rfl, rfl, _, _, rfl, rfl, .inl (fmB (b := 4294967189) (by decide) (by decide)), .inl ⟨_, rfl, _, _, rfl, rfl, nz (n := 4294967161) (by decide), _, _, rfl, rfl, c128, .inl ⟨_, rfl, _, rfl, _, _, rfl, rfl, cm.1, ?_⟩⟩⟩
      exact q _ _ _ H1 (fm0 hm0) (fm1 hm0) (Nat.le_refl _) b1 p1
    -- behind the choice of the cell
    obtain ⟨tl, dtl, tail⟩ : ∃ tl : TS, PSs (cxOf CX0 P w K mg base ["_law_pen_here", "_law_many", "_law_digit", "_law_at", "_law_cell", "_law_mixed"] "_law_draw" (defScope sDraw) f cdv A outer s H E).nox ((defBody sDraw).drop 5) tl ∧
        ∀ (H1 : Hp) (cell : Int), Sb d H H1 → PenAt H1 d c ns (a + 1) r →
          tl { nx := fun _ H' => Q .non H', rt := Q } [some (.ref d), some (.int m), none, some (.int (a : Nat)), some (.int cell), none] H1 := by
      refine ⟨_, pss_cons (ps_if (PW.pt (pw_and (pt_cmpR op_lt (pv 3) (pe_callB call_len (by rfl) B.len PySem.boot_len (pa_cons (pe_dget hu (pv 0) pe_str (fun _ _ => rfl)) pa_nil)) (nomark _))
            (pw_and1 (pt_cmpR op_ge (pe_callB call_abs (by rfl) B.abs boot_abs' (pa_cons (pv 4) pa_nil)) (pe_op op_pow pe_int pe_int) (nomark _)))))
          (pss_cons (ps_dput hu (pv 0) pe_str (pe_op op_fdivN (pe_op op_sub (pe_callB call_abs (by rfl) B.abs boot_abs' (pa_cons (pv 4) pa_nil)) (pe_op op_pow pe_int pe_int)) (pv 1)) rfl)
          (pss_one (ps_ret (pe_op op_modN (pe_op op_sub (pe_callB call_abs (by rfl) B.abs boot_abs' (pa_cons (pv 4) pa_nil)) (pe_op op_pow pe_int pe_int)) (pv 1))))) pss_nil) dmx, ?_⟩
      intro H1 cell b1 p1
      have hp18 : (0 : Int) ≤ 18 ∧ (18 : Int) ≤ 1000000 ∧ (10 : Int).natAbs < 2 ^ 64 := by decide
      refine ⟨_, rfl, _, rfl, d, _, rfl, get_cells p1.dict, _, _, rfl, .inl ⟨_, SqL.of p1.cells, rfl⟩, _, _, rfl, rfl, _, rfl, ?_⟩
      refine ite2 (fun _ => ?_) (fun _ => iteF (mixed H1 cell b1 p1))
      refine ⟨_, rfl, _, rfl, _, _, rfl, rfl, hp18, _, _, rfl, rfl, _, rfl, ?_⟩
      refine ite2 (fun _ => ?_) (fun _ => mixed H1 cell b1 p1)
      refine ⟨_, rfl, _, rfl, _, _, rfl, rfl, hp18, _, _, rfl, rfl, _, rfl, _, _, rfl, rfl, cm, _, rfl, d, _, rfl, put_rest p1.dict, ?_⟩
      refine ⟨_, rfl, _, rfl, _, _, rfl, rfl, hp18, _, _, rfl, rfl, _, rfl, _, _, rfl, rfl, cm.1, ?_⟩
      exact q _ (a + 1) _ _ (fm0 hm0) (fm1 hm0) (Nat.le_refl _) (b1.trans (sb_upd _)) (pen_upd p1)
    refine ⟨_, pss_cons (ps_if (pt_cmpR op_gt (pe_dget hu (pv 0) pe_str (fun _ _ => rfl)) pe_int (nomark _))
          (pss_cons (ps_set (i := 2) scDraw.nd rfl (Or.inl rfl) (pe_op op_modN (pe_callTy call_int1 (by rfl) B.int PyProof.Rows.boot_int (pa_cons (pe_dget hu (pv 0) pe_str (fun _ _ => rfl)) pa_nil)) (pv 1)))
          (pss_cons (ps_dput hu (pv 0) pe_str (pe_op op_fdivN (pe_dget hu (pv 0) pe_str (fun _ _ => rfl)) (pv 1)) rfl)
          (pss_one (ps_ret (pv 2))))) pss_nil)
      (pss_cons (ps_set (i := 3) scDraw.nd rfl (Or.inl rfl) (pe_dget hu (pv 0) pe_str (fun _ _ => rfl)))
      (pss_cons (ps_dput hu (pv 0) pe_str (pe_op op_add (pv 3) pe_int) rfl)
      (pss_cons (ps_set (i := 4) scDraw.nd rfl (Or.inl rfl) (pe_op op_add (pe_op op_mul pe_int (pv 3)) pe_int))
      (pss_cons (ps_if (pt_cmpR (op_neD hr.units) (pe_dget hu (pv 0) pe_str (fun _ _ => rfl)) (pe_lst pa_nil) (nomark _))
          (pss_one (ps_set (i := 4) scDraw.nd rfl (Or.inl rfl) (pe_ix ix_list (pe_dget hu (pv 0) pe_str (fun _ _ => rfl)) (pe_op op_modN (pe_callTy call_int1 (by rfl) B.int PyProof.Rows.boot_int (pa_cons (pv 3) pa_nil)) (pe_callB call_len (by rfl) B.len PySem.boot_len (pa_cons (pe_dget hu (pv 0) pe_str (fun _ _ => rfl)) pa_nil))) (fun _ _ => rfl)))) pss_nil) dtl)))), ?_⟩
    refine ⟨_, rfl, d, _, rfl, get_rest hp.dict, _, _, rfl, rfl, _, rfl, ?_⟩
    refine ite2 (fun _ => ?_) (fun _ => ?_)
    · refine ⟨_, rfl, d, _, rfl, get_rest hp.dict, .inl ⟨_, rfl, _, rfl, _, _, rfl, rfl, cm.1, ?_⟩⟩
      refine ⟨_, rfl, d, _, rfl, get_rest hp.dict, _, rfl, _, _, rfl, rfl, cm, _, rfl, d, _, rfl, put_rest hp.dict, ?_⟩
      exact ⟨_, rfl, q _ a _ _ (fm0 hm0) (fm1 hm0) (Nat.le_succ _) (sb_upd _) (pen_upd hp)⟩
    · refine ⟨_, rfl, d, _, rfl, get_at hp.dict, ?_⟩
      refine ⟨_, rfl, _, _, rfl, rfl, _, rfl, d, _, rfl, put_at hp.dict, ?_⟩
      have p1 : PenAt (upd H d (.dK (penK c (((a : Nat) : Int) + 1) r))) d c ns (a + 1) r := by
        have := pen_upd (a' := a + 1) (r' := r) hp
        rw [show ((a + 1 : Nat) : Int) = ((a : Nat) : Int) + 1 by omega] at this
        exact this
      have b1 : Sb d H (upd H d (.dK (penK c (((a : Nat) : Int) + 1) r))) := sb_upd _
      generalize upd H d (.dK (penK c (((a : Nat) : Int) + 1) r)) = H1 at p1 b1
      refine ⟨_, rfl, _, _, rfl, rfl, .inl (by decide), _, _, rfl, rfl, ?_⟩
      refine ⟨_, rfl, d, _, rfl, get_cells p1.dict, Nat.zero_le _, fun l hl => ?_⟩
      have nlc : c ≠ l := ne_of_none p1.cells hl
      have nld : d ≠ l := ne_of_none p1.dict hl
      have p2 : PenAt (upd H1 l (.lst [])) d c ns (a + 1) r := ⟨by rw [upd_ne nld]; exact p1.dict, by rw [upd_ne nlc]; exact p1.cells, p1.len⟩
      have b2 : Sb d H (upd H1 l (.lst [])) := b1.trans (Same.sb (same_new hl _))
      generalize hH2 : upd H1 l (.lst []) = H2 at p2 b2
      refine ⟨.list (ns.map .int), .list [], .lst (SqL.of p2.cells) (dp_ints ns), .lst (SqL.of (by rw [← hH2]; exact upd_same)) .nil, shaped_ints ns, rfl, _, rfl, ?_⟩
      refine ite2 (fun e => ?_) (fun _ => tail H2 _ b2 p2)
      have hne : 0 < ns.length := by
        cases ns with
        | nil => exact absurd e (by decide)
        | cons n ns => simp
      have hl0 : (0 : Int) < ((ns.map V.int).length : Nat) := by rw [List.length_map]; omega
      have i0 := fm0 (a := ((a : Nat) : Int)) hl0
      have i1 := fm1 (a := ((a : Nat) : Int)) hl0
      obtain ⟨j, hj⟩ : ∃ j : Nat, ((a : Nat) : Int).fmod (((ns.map V.int).length : Nat) : Int) = (j : Int) := ⟨_, (Int.toNat_of_nonneg i0).symm⟩
      have hjl : j < ns.length := by rw [hj, List.length_map] at i1; omega
      refine ⟨_, rfl, d, _, rfl, get_cells p2.dict, _, rfl, .inl ⟨_, rfl, _, rfl, d, _, rfl, get_cells p2.dict, _, _, rfl, .inl ⟨_, SqL.of p2.cells, rfl⟩, _, _, rfl, rfl, by omega, c, _, _, .int ns[j], rfl, rfl, SqL.of p2.cells, ?_, ?_⟩⟩
      · rw [hj]
        exact atI_nat (by rw [List.getElem?_map, List.getElem?_eq_getElem hjl] <;> rfl)
      · exact tail H2 _ b2 p2
end
end DS
set_option Elab.async false
set_option linter.all false
set_option maxRecDepth 100000
set_option maxHeartbeats 4000000
namespace DS
open PySem L2 PySem.NumText
variable {P : Program} {w : World} {K : PySem.W.Frag} {mg : Str → Option Value} {base : Heap}

theorem pen_same {H H' : Hp} {d c : Addr} {ns : List Int} {a : Nat} {r : Int} (p : PenAt H d c ns a r) (s : Same H H') : PenAt H' d c ns a r := ⟨s _ _ p.dict, s _ _ p.cells, p.len⟩
theorem pen_put {H : Hp} {d c D : Addr} {ns : List Int} {a : Nat} {r : Int} {o : HO} (p : PenAt H d c ns a r) (h1 : d ≠ D) (h2 : c ≠ D) : PenAt (upd H D o) d c ns a r := ⟨by rw [upd_ne h1]; exact p.dict, by rw [upd_ne h2]; exact p.cells, p.len⟩
theorem PenAt.noT {H : Hp} {d c : Addr} {ns : List Int} {a : Nat} {r : Int} (p : PenAt H d c ns a r) : ∀ xs, H d ≠ some (.tup xs) := fun xs e => by rw [p.dict] at e; cases e
theorem PenAt.noF {H : Hp} {d c : Addr} {ns : List Int} {a : Nat} {r : Int} (p : PenAt H d c ns a r) : ∀ o xs, H d ≠ some (.frz o (.tup xs)) := fun o xs e => by rw [p.dict] at e; cases e
theorem cut63 (xs : List V) (h : xs.length ≤ 63) : cutV xs none (some 63) = xs := by
  unfold cutV
  rw [HT.sIx_none, show HT.sIx xs.length xs.length (some 63) = min 63 xs.length from HT.sIx_nat xs.length xs.length 63, Nat.min_eq_right h]
  simp
theorem scPen : FnScope ["_law_script"] ["_law_script"] (defScope sPen) := ⟨rfl, rfl, rfl, by decide +kernel, rfl, by decide +kernel, by decide +kernel⟩
def spPen (K : PySem.W.Frag) : Sp := fun vs H Q _ => ∃ l ns, vs = [.ref l] ∧ SqL K H l (ns.map V.int) ∧ ns.length ≤ 63 ∧ ∀ d c H', Same H H' → PenAt H' d c ns 0 0 → Q (.ref d) H'
theorem ok_pen {f : Addr} {fd : FuncData} {k : Nat} (B : Bn mg) (F : Fun K "_law_pen" "_law_pen" sPen f fd) : FnOk P w K mg base CX0 (k + 1) f fd ["_law_script"] (spPen K) := by
  refine F.ok scPen (fun vs H Q E h => ?_) (fun cdv A outer s H vs Q E hr h => ?_)
  · obtain ⟨l, ns, rfl, _⟩ := h
    rfl
  · obtain ⟨l, ns, rfl, hl, h63, q⟩ := h
    refine ⟨_, pss_one (ps_ret (pe_disp (L2.pps_cons pe_str (pe_callTy call_list_of (by rfl) B.list PyProof.Rows.boot_list (pa_cons (pe_slice sl_list (pv 0) po_none (po_some pe_int)) pa_nil)) (L2.pps_cons pe_str pe_int (L2.pps_cons pe_str pe_int L2.pps_nil))) (by rfl) (by rfl) (fun z => by cases z) (by decide))), ?_⟩
    intro d hd
    have s1 : Same H (upd H d (.dK [])) := same_new hd _
    refine ⟨_, rfl, _, rfl, l, _, rfl, s1.seq hl, fun p hp => ?_⟩
    rw [cut63 _ (by simpa using h63)]
    have s2 := s1.trans (same_new hp (.lst (ns.map V.int)))
    refine ⟨p, _, rfl, .inl (SqL.of upd_same), fun c hc => ?_⟩
    have s3 := s2.trans (same_new hc (.lst (ns.map V.int)))
    have ndp : d ≠ p := ne_of_none upd_same hp
    have ndc : d ≠ c := ne_of_none (show (upd (upd H d (.dK [])) p (.lst (ns.map V.int))) d = some (.dK []) by rw [upd_ne ndp]; exact upd_same) hc
    refine ⟨by rw [upd_ne ndc, upd_ne ndp]; exact upd_same, penK c 0 0, rfl, by show 3 ≤ 15; decide, ?_⟩
    refine q d c _ (same_put s3 hd _) ⟨upd_same, by rw [upd_ne ndc.symm]; exact upd_same, h63⟩
theorem scPick : FnScope ["_law_pen_here", "_law_items"] ["_law_pen_here", "_law_items"] (defScope sPick) := ⟨rfl, rfl, rfl, by decide +kernel, rfl, by decide +kernel, by decide +kernel⟩
def spPick : Sp := fun vs H Q _ => ∃ d c ns a r it, vs = [.ref d, it] ∧ PenAt H d c ns a r ∧ a ≤ 2 ^ 30 ∧
  ((∃ z : Cs, it = .str (S z) ∧ z ≠ [] ∧ z.length ≤ 1000 ∧ ∀ ch ∈ z, ∀ a' r' H', a' ≤ a + 1 → Sb d H H' → PenAt H' d c ns a' r' → Q (.str (S [ch])) H') ∨
   (∃ l xs, it = .ref l ∧ H l = some (.lst xs) ∧ xs ≠ [] ∧ xs.length ≤ 1000 ∧ ∀ x ∈ xs, ∀ a' r' H', a' ≤ a + 1 → Sb d H H' → PenAt H' d c ns a' r' → Q x H'))
theorem ok_pick {f fD : Addr} {fd fdD : FuncData} {k : Nat} (B : Bn mg) (FD : Fun K "_law_draw" "_law_draw" sDraw fD fdD) (bD : Binds K fdD ["_law_pen_here", "_law_many"] []) (mD : mg "_law_draw" = some (.ref fD)) (F : Fun K "_law_pick" "_law_pick" sPick f fd) :
    FnOk P w K mg base CX0 (k + 2) f fd ["_law_pen_here", "_law_items"] spPick := by
  have GD : FnOk P w K mg base CX0 1 fD fdD ["_law_pen_here", "_law_many"] spDraw := ok_draw B FD
  refine F.ok scPick (fun vs H Q E h => ?_) (fun cdv A outer s H vs Q E hr h => ?_)
  · obtain ⟨d, c, ns, a, r, it, rfl, _⟩ := h
    rfl
  · obtain ⟨d, c, ns, a, r, it, rfl, hp, ha, h⟩ := h
    refine ⟨_, pss_one (ps_ret (pe_ix ix_seq (pv 1) (pe_call GD (hr.mono (by omega)) rfl mD FD.kp bD .nil pass0 (pa_cons (pv 0) (pa_cons (pe_callB call_len (by rfl) B.len PySem.boot_len (pa_cons (pv 1) pa_nil)) pa_nil))) (fun _ _ => rfl))), ?_⟩
    rcases h with ⟨z, rfl, hne, hlen, q⟩ | ⟨l, xs, rfl, hl, hne, hlen, q⟩
    · have hpos : 0 < z.length := List.length_pos_iff.mpr hne
      refine ⟨_, rfl, _, rfl, _, rfl, _, _, rfl, ⟨by rw [S_length]; exact small (by omega), rfl⟩, d, c, ns, a, r, _, rfl, hp, ha, by rw [S_length]; omega, by rw [S_length]; omega, fun i a' r' H' i0 i1 ha' b' p' => ?_⟩
      rw [S_length] at i1
      obtain ⟨j, rfl⟩ := Int.eq_ofNat_of_zero_le i0
      have hj : j < z.length := by omega
      refine .inr (.inr ⟨S z, _, z[j], rfl, rfl, by rw [S_length]; exact small (by omega), ?_, ?_⟩)
      · exact atI_nat (by rw [S_cps]; exact List.getElem?_eq_getElem hj)
      · exact q z[j] (List.getElem_mem hj) a' r' H' ha' b' p'
    · have hpos : 0 < xs.length := List.length_pos_iff.mpr hne
      refine ⟨_, rfl, _, rfl, _, rfl, _, _, rfl, .inl ⟨_, SqL.of hl, rfl⟩, d, c, ns, a, r, _, rfl, hp, ha, by omega, by omega, fun i a' r' H' i0 i1 ha' b' p' => ?_⟩
      obtain ⟨j, rfl⟩ := Int.eq_ofNat_of_zero_le i0
      have hj : j < xs.length := by omega
      have nld : l ≠ d := ne_of hl hp.dict (by intro e; cases e)
      refine .inl ⟨l, xs, _, xs[j], rfl, rfl, SqL.of (b' l _ hl nld), atI_nat (List.getElem?_eq_getElem hj), ?_⟩
      exact q xs[j] (List.getElem_mem hj) a' r' H' ha' b' p'
end DS
set_option Elab.async false
set_option linter.all false
set_option maxRecDepth 100000
set_option maxHeartbeats 4000000
namespace DS
open PySem L2 PySem.NumText
abbrev sLWord : Stmt := top 71
abbrev sLText : Stmt := top 72
def signsV (l : Cs) : List V := l.map fun c => V.str (S [c])
def signsD (l : Cs) : List PyData := l.map fun c => PyData.str (S [c])
theorem dp_signs {K : PySem.W.Frag} {H : Hp} : ∀ l : Cs, DpAll K H (signsV l) (signsD l)
  | [] => .nil
  | c :: l => .cons (.str _) (dp_signs l)
theorem lay_signs : ∀ l : Cs, (∀ c ∈ l, c < 128) → PyData.canLayAll0 (signsD l) = true ∧ PyData.depthAll (signsD l) = 0
  | [], _ => ⟨rfl, rfl⟩
  | c :: l, h => by
    obtain ⟨h1, h2⟩ := lay_signs l fun x hx => h x (List.mem_cons_of_mem _ hx)
    have h3 : PyData.strOk (S [c]) = true := by
      unfold PyData.strOk S
      rw [Array.all_eq_true']
      intro x hx
      have hx : x = c := by simpa using hx
      subst hx
      have := h x (List.mem_cons_self ..)
      exact decide_eq_true (by omega)
    refine ⟨?_, ?_⟩
    · show (PyData.canLay0 (.str (S [c])) && PyData.canLayAll0 (signsD l)) = true
      rw [h1]
      simpa [PyData.canLay0] using h3
    · show max (PyData.depth (.str (S [c]))) (PyData.depthAll (signsD l)) = 0
      rw [h2]
      simp [PyData.depth]
theorem shaped_signs {l : Cs} (h : ∀ c ∈ l, c < 128) : SeqAt.shaped (.list (signsD l)) = true := by
  obtain ⟨h1, h2⟩ := lay_signs l h
  simp [SeqAt.shaped, PyData.canLay0, PyData.depth, h1, h2]
theorem eqv_nilL (ds : List PyData) : PyData.eqv (.list ds) (.list []) = decide (ds = []) := by
  cases ds with
  | nil => simp [PyData.eqv, PyData.eqvAll]
  | cons d ds => simp [PyData.eqv, PyData.eqvAll]
def outC (z l : Cs) : Cs := l.filter fun c => !decide (c ∈ z)
theorem out_nil {z l : Cs} : decide (signsD (outC z l) = []) = l.all fun c => decide (c ∈ z) := by
  rw [Bool.eq_iff_iff]
  simp [signsD, outC, List.filter_eq_nil_iff]
theorem out_snoc {z l : Cs} {i c : Nat} (h : l[i]? = some c) : outC z (l.take (i + 1)) = outC z (l.take i) ++ (if c ∈ z then [] else [c]) := by
  unfold outC
  rw [List.take_add_one, h]
  by_cases hc : c ∈ z <;> simp [hc]
section
variable {P : Program} {w : World} {K : PySem.W.Frag} {mg : Str → Option Value} {base : Heap}
theorem scLWord : FnScope ["_law_thing", "_law_sign"] ["_law_thing"] (defScope sLWord) := ⟨rfl, rfl, rfl, by decide +kernel, rfl, by decide +kernel, by decide +kernel⟩
theorem ok_lword {f : Addr} {fd : FuncData} {k : Nat} (B : Bn7 mg) (F : Fun K "_law_is_word" "_law_is_word" sLWord f fd) :
    FnOk P w K mg base CX0 (k + 1) f fd ["_law_thing"] (spD K (fun _ => True) fun t => .bl (isWordM t)) := by
  refine F.ok scLWord (fun vs H Q E h => ?_) (fun cdv A outer s H vs Q E hr h => ?_)
  · obtain ⟨v, t, rfl, _⟩ := h
    rfl
  · obtain ⟨v, t, rfl, hd, hg, hs, _, q⟩ := h
    have hu : (A.deeper (PyProof.Rows.envOfC "_law_is_word" (defScope sLWord) s.heap.objs.size f cdv)).units + 64 < cLine := hr.units
    have q : ∀ H', Same H H' → Q (.bl (isWordM t)) H' := q
    refine ⟨_, pss_cons (ps_if (PW.pt (pw_or (pt_not (pt_val (pe_callB call_isi (by rfl) B.isi boot_isi (pa_cons (pv 0) (pa_cons (pe_bltn (v := .ty "str") (by rfl) B.str PyProof.Rows.boot_str rfl) pa_nil)))))
        (pw_or1 (pt_not (pt_chain op_lt op_lt pe_int (pe_callB call_len_str (by rfl) B.len PySem.boot_len (pa_cons (pv 0) pa_nil)) pe_int))))) (pss_one (ps_ret pe_bl)) pss_nil)
      (pss_one (ps_ret (pe_cmpR (op_eqD hu) (pe_lc (own := [("_law_sign", 1)]) (g := gName 1) (tt := tTest (tOp (fun x y H Q => ∃ (c : Nat) (z : Str), x = .str ⟨#[c]⟩ ∧ y = .str z ∧ Q (.bl (!decide (c ∈ z.cps.toList))) H) (tVar 1) (tC (.str "abcdefghijklmnopqrstuvwxyz")))) rfl scLWord.nd (pi_str (pv 0)) (blkOk_by (N := ["_law_thing", "_law_sign"]) (sc := defScope sLWord) (by decide +kernel))
        (fun _ _ _ _ _ => pg_name (i := 1) scLWord.nd rfl (Or.inl rfl)) (fun _ _ _ _ _ => pts_one (pt_cmpR op_notIn_sign (pv 1) pe_str (by rfl)))
        (fun _ _ _ _ _ => pv 1)) (pe_lst pa_nil) (nomark _)))), ?_⟩
    have hty := dp_ty hg hd
    refine ⟨_, rfl, _, _, _, _, _, rfl, .ty _, hty, kit_ty (kit_str t), _, rfl, ?_⟩
    cases e : isiB "str" t with
    | false =>
      refine iteT (iteT ?_)
      have := q H (Same.refl _)
      have ef : isWordM t = false := by
        cases t <;> first | rfl | (rw [b_str_str] at e; cases e)
      rw [ef] at this
      exact this
    | true =>
      refine iteF ?_
      obtain ⟨x, rfl⟩ := isi_str.mp e
      cases hd
      have hs' : x.cps.toList.length ≤ 1000 := by simpa [short] using hs
      have el : x.length = x.cps.toList.length := by simp [Str.length]
      have q : ∀ H', Same H H' → Q (.bl (isWordC x.cps.toList)) H' := q
      have small : x.length ≤ sizeLine := by have := small' (n := x.length) (by omega); omega
      have fin : ∀ {b : Bool} {H' : Hp}, Same H H' → isWordC x.cps.toList = b → Q (.bl b) H' := fun sm e => by have := q _ sm; rw [e] at this; exact this
      have hg' : ∀ c ∈ x.cps.toList, c ∈ sgnList := by simpa [good] using hg
      have elet : ("abcdefghijklmnopqrstuvwxyz" : Str).cps.toList = lettersC := by decide +kernel
      refine ⟨_, rfl, _, rfl, small, _, _, rfl, rfl, _, rfl, ?_⟩
      by_cases h1 : (0 : Int) < (x.length : Int)
      · refine ifT (decide_eq_true h1) ⟨_, _, rfl, rfl, _, rfl, ?_⟩
        by_cases h2 : (x.length : Int) < 9
        · rw [decide_eq_true h2]
          refine iteF ?_
          refine ⟨_, rfl, x, rfl, fun D hD => ?_⟩
          refine lc_it (walk_str (z := x)) (fun i H' => Same H H' ∧ H' D = some (.lst (signsV (outC lettersC (x.cps.toList.take i))))) ⟨same_new hD _, by rw [upd_same]; rfl⟩ (fun _ _ _ _ => trivial) ?_ ?_
          · rintro i y H1 H2 hi ⟨sm, hd⟩ ⟨rfl, c, hc, rfl⟩
            have ec : x.cps.toList[i]? = some c := by rw [Array.getElem?_toList]; exact hc
            refine ⟨rfl, _, rfl, c, _, rfl, rfl, _, rfl, ?_⟩
            rw [elet]
            have eo := out_snoc (z := lettersC) ec
            by_cases hm : c ∈ lettersC
            · rw [decide_eq_true hm]
              refine iteF ⟨sm, ?_⟩
              rw [eo, if_pos hm, List.append_nil]
              exact hd
            · rw [decide_eq_false hm]
              refine iteT ⟨_, rfl, _, hd, small' ?_, same_put sm hD _, ?_⟩
              · unfold signsV outC
                rw [List.length_map]
                have := List.length_filter_le (fun c => !decide (c ∈ lettersC)) (x.cps.toList.take i)
                rw [List.length_take] at this
                omega
              · rw [upd_same, eo, if_neg hm]
                unfold signsV
                rw [List.map_append]
                rfl
          · rintro H1 ⟨sm, hd⟩
            have ell : x.cps.size = x.cps.toList.length := by simp
            rw [ell, List.take_length] at hd
            refine ⟨Nat.zero_le _, fun D2 hD2 => ?_⟩
            have s3 := same_new hD2 (.lst [])
            refine ⟨.list (signsD (outC lettersC x.cps.toList)), .list [], .lst (SqL.of (s3 _ _ hd)) (dp_signs _), .lst (SqL.of upd_same) .nil, shaped_signs (fun c hc => sgn128 c (hg' c (List.mem_filter.mp hc).1)), rfl, ?_⟩
            rw [eqv_nilL, out_nil]
            refine fin (sm.trans s3) ?_
            unfold isWordC
            rw [decide_eq_true (show 1 ≤ x.cps.toList.length ∧ x.cps.toList.length ≤ 8 by omega)]
            rfl
        · rw [decide_eq_false h2]
          exact iteT (fin (Same.refl _) (by unfold isWordC; rw [decide_eq_false (by omega)]; rfl))
      · refine ifF (decide_eq_false h1) ⟨_, rfl, iteT (fin (Same.refl _) (by unfold isWordC; rw [decide_eq_false (by omega)]; rfl))⟩
end
end DS
set_option Elab.async false
set_option linter.all false
set_option maxRecDepth 100000
set_option maxHeartbeats 4000000
namespace DS
open PySem L2 PySem.NumText
abbrev sLKind : Stmt := top 73
/-- a text that may be a value -/
def isTextM : PyData → Bool
  | .str x => decide (x.cps.toList.length ≤ 40)
  | _ => false
/-- the law's word for the kind of a value -/
def lkM : PyData → V
  | .none => .non
  | d => .str ((kvM d).getD "")
section
variable {P : Program} {w : World} {K : PySem.W.Frag} {mg : Str → Option Value} {base : Heap}
theorem scLText : FnScope ["_law_thing", "_law_signs", "_law_sign"] ["_law_thing"] (defScope sLText) := ⟨rfl, rfl, rfl, by decide +kernel, rfl, by decide +kernel, by decide +kernel⟩
theorem ok_ltext {f : Addr} {fd : FuncData} {k : Nat} (B : Bn7 mg) (F : Fun K "_law_is_text" "_law_is_text" sLText f fd) :
    FnOk P w K mg base CX0 (k + 1) f fd ["_law_thing"] (spD K (fun _ => True) fun t => .bl (isTextM t)) := by
  refine F.ok scLText (fun vs H Q E h => ?_) (fun cdv A outer s H vs Q E hr h => ?_)
  · obtain ⟨v, t, rfl, _⟩ := h
    rfl
  · obtain ⟨v, t, rfl, hd, hg, hs, _, q⟩ := h
    have hu : (A.deeper (PyProof.Rows.envOfC "_law_is_text" (defScope sLText) s.heap.objs.size f cdv)).units + 64 < cLine := hr.units
    have q : ∀ H', Same H H' → Q (.bl (isTextM t)) H' := q
    refine ⟨_, pss_cons (ps_if (PW.pt (pw_or (pt_not (pt_val (pe_callB call_isi (by rfl) B.isi boot_isi (pa_cons (pv 0) (pa_cons (pe_bltn (v := .ty "str") (by rfl) B.str PyProof.Rows.boot_str rfl) pa_nil)))))
        (pw_or1 (pt_cmpR op_gt (pe_callB call_len_str (by rfl) B.len PySem.boot_len (pa_cons (pv 0) pa_nil)) pe_int (nomark _))))) (pss_one (ps_ret pe_bl)) pss_nil)
      (pss_cons (ps_set (i := 1) scLText.nd rfl (Or.inr rfl) pe_str) (pss_cons (ps_set (i := 1) scLText.nd rfl (Or.inr rfl) (pe_op op_add_str (pv 1) pe_str))
      (pss_one (ps_ret (pe_cmpR (op_eqD hu) (pe_lc (own := [("_law_sign", 2)]) (g := gName 2) (tt := tTest (tOp (fun x y H Q => ∃ (c : Nat) (z : Str), x = .str ⟨#[c]⟩ ∧ y = .str z ∧ Q (.bl (!decide (c ∈ z.cps.toList))) H) (tVar 2) (tVar 1))) rfl scLText.nd (pi_str (pv 0)) (blkOk_by (N := ["_law_thing", "_law_signs", "_law_sign"]) (sc := defScope sLText) (by decide +kernel))
        (fun _ _ _ _ _ => pg_name (i := 2) scLText.nd rfl (Or.inl rfl)) (fun _ _ _ _ _ => pts_one (pt_cmpR op_notIn_sign (pv 2) (pv 1) (by rfl)))
        (fun _ _ _ _ _ => pv 2)) (pe_lst pa_nil) (nomark _)))))), ?_⟩
    have hty := dp_ty hg hd
    refine ⟨_, rfl, _, _, _, _, _, rfl, .ty _, hty, kit_ty (kit_str t), _, rfl, ?_⟩
    cases e : isiB "str" t with
    | false =>
      refine iteT (iteT ?_)
      have := q H (Same.refl _)
      have ef : isTextM t = false := by
        cases t <;> first | rfl | (rw [b_str_str] at e; cases e)
      rw [ef] at this
      exact this
    | true =>
      refine iteF ?_
      obtain ⟨x, rfl⟩ := isi_str.mp e
      cases hd
      have hs' : x.cps.toList.length ≤ 1000 := by simpa [short] using hs
      have el : x.length = x.cps.toList.length := by simp [Str.length]
      have q : ∀ H', Same H H' → Q (.bl (decide (x.cps.toList.length ≤ 40))) H' := q
      have small : x.length ≤ sizeLine := by have := small' (n := x.length) (by omega); omega
      have hg' : ∀ c ∈ x.cps.toList, c ∈ sgnList := by simpa [good] using hg
      refine ⟨_, rfl, _, rfl, small, _, _, rfl, rfl, _, rfl, ?_⟩
      by_cases h1 : (x.length : Int) > 40
      · have q := q H (Same.refl _)
        rw [decide_eq_false (by omega)] at q
        exact ifT (decide_eq_true h1) q
      · refine ifF (decide_eq_false h1) ?_
        refine ⟨_, rfl, _, _, rfl, rfl, ?_, ?_⟩
        · exact Nat.le_of_lt (small' (by decide +kernel))
        have elet : ((" !\"#$&'()*+,-./0123456789:;<=>?@ABCDEF" : Str) ++ ("GHIJKLMNOPQRSTUVWXYZ[\\]^_`abcdefghijklmnopqrstuvwxyz{|}~" : Str)).cps.toList = sgnList := by decide +kernel
        refine ⟨_, rfl, x, rfl, fun D hD => ?_⟩
        refine lc_it (walk_str (z := x)) (fun i H' => Same H H' ∧ H' D = some (.lst [])) ⟨same_new hD _, upd_same⟩ (fun _ _ _ _ => trivial) ?_ ?_
        · rintro i y H1 H2 hi ⟨sm, hd⟩ ⟨rfl, c, hc, rfl⟩
          have ec : x.cps.toList[i]? = some c := by rw [Array.getElem?_toList]; exact hc
          refine ⟨rfl, _, rfl, _, rfl, c, _, rfl, rfl, _, rfl, ?_⟩
          rw [elet, decide_eq_true (hg' c (List.mem_of_getElem? ec))]
          exact iteF ⟨sm, hd⟩
        · rintro H1 ⟨sm, hd⟩
          refine ⟨Nat.zero_le _, fun D2 hD2 => ?_⟩
          have s3 := same_new hD2 (.lst [])
          refine ⟨.list [], .list [], .lst (SqL.of (s3 _ _ hd)) .nil, .lst (SqL.of upd_same) .nil, rfl, rfl, ?_⟩
          have q := q _ (sm.trans s3)
          rw [decide_eq_true (by omega)] at q
          exact q
/-! ### the law's kind of a value -/
theorem scLKind : FnScope ["_law_thing"] ["_law_thing"] (defScope sLKind) := ⟨rfl, rfl, rfl, by decide +kernel, rfl, by decide +kernel, by decide +kernel⟩
theorem ok_lkind {f : Addr} {fd : FuncData} {k : Nat} (B : Bn7 mg) (D : Cal P w K mg base CX0 1 "_law_is_text" ["_law_thing"] [] (spD K (fun _ => True) fun t => .bl (isTextM t))) (F : Fun K "_law_kind_of" "_law_kind_of" sLKind f fd) :
    FnOk P w K mg base CX0 (k + 2) f fd ["_law_thing"] (spD K (fun _ => True) lkM) := by
  obtain ⟨f1, fd1, ds1, e1, k1, v1, b1, G1⟩ := D.ex
  refine F.ok scLKind (fun vs H Q E h => ?_) (fun cdv A outer s H vs Q E hr h => ?_)
  · obtain ⟨v, t, rfl, _⟩ := h
    rfl
  · obtain ⟨v, t, rfl, hd, hg, hs, _, q⟩ := h
    refine ⟨_, pss_cons (ps_if (pt_cmp (pc_isN (pv 0))) (pss_one (ps_ret pe_non)) pss_nil)
      (pss_cons (ps_if (pt_val (pe_callB call_isi (by rfl) B.isi boot_isi (pa_cons (pv 0) (pa_cons (pe_bltn (v := .ty "bool") (by rfl) B.bl PyProof.Rows.boot_bool rfl) pa_nil)))) (pss_one (ps_ret pe_str)) pss_nil)
      (pss_cons (ps_if (pt_val (pe_callB call_isi (by rfl) B.isi boot_isi (pa_cons (pv 0) (pa_cons (pe_bltn (v := .ty "int") (by rfl) B.int PyProof.Rows.boot_int rfl) pa_nil)))) (pss_one (ps_ret (pe_ifExp (pt_cmpR op_le (pe_callB call_abs (by rfl) B.abs boot_abs' (pa_cons (pv 0) pa_nil)) (pe_op op_pow pe_int pe_int) (nomark _)) pe_str pe_str))) pss_nil)
      (pss_one (ps_ret (pe_ifExp (pt_val (pe_call G1 (hr.mono (by omega)) rfl e1 k1 b1 v1 pass0 (pa_cons (pv 0) pa_nil))) pe_str pe_str))))), ?_⟩
    have q : ∀ H', Same H H' → Q (lkM t) H' := q
    have hty := dp_ty hg hd
    have last : t ≠ .none → isiB "bool" t = false → isiB "int" t = false → True := fun _ _ _ => trivial
    cases t with
    | none => cases hd; exact ⟨_, rfl, _, rfl, iteT (q H (Same.refl _))⟩
    | bool b =>
      cases hd
      refine ⟨_, rfl, _, rfl, iteF ⟨_, rfl, _, _, _, _, _, rfl, .ty _, hty, kit_ty (kit_bool (.bool b)), _, rfl, ifT rfl ?_⟩⟩
      exact q H (Same.refl _)
    | int i =>
      cases hd
      refine ⟨_, rfl, _, rfl, iteF ⟨_, rfl, _, _, _, _, _, rfl, .ty _, hty, kit_ty (kit_bool (.int i)), _, rfl, ifF rfl ⟨_, rfl, _, _, _, _, _, rfl, .ty _, hty, kit_ty (kit_int (.int i)), _, rfl, ifT rfl ?_⟩⟩⟩
      refine ⟨_, rfl, i, rfl, 10, 30, rfl, rfl, ⟨by decide, by decide, by decide⟩, _, _, rfl, rfl, _, rfl, ?_⟩
      have q := q H (Same.refl _)
      by_cases h1 : -(10 ^ 30 : Int) ≤ i ∧ i ≤ (10 ^ 30 : Int)
      · refine ifT (decide_eq_true ?_) ?_
        · show (if i < 0 then -i else i) ≤ (10 : Int) ^ 30
          split <;> omega
        · simp only [lkM, kvM, if_pos h1] at q
          exact q
      · refine ifF (decide_eq_false ?_) ?_
        · show ¬ ((if i < 0 then -i else i) ≤ (10 : Int) ^ 30)
          split <;> omega
        · simp only [lkM, kvM, if_neg h1] at q
          exact q
    | str x =>
      cases hd
      refine ⟨_, rfl, _, rfl, iteF ⟨_, rfl, _, _, _, _, _, rfl, .ty _, hty, kit_ty (kit_bool (.str x)), _, rfl, ifF rfl ⟨_, rfl, _, _, _, _, _, rfl, .ty _, hty, kit_ty (kit_int (.str x)), _, rfl, ifF rfl ?_⟩⟩⟩
      refine ⟨_, rfl, _, _, rfl, .str x, hg, hs, trivial, fun H1 sm => ⟨_, rfl, ?_⟩⟩
      have q := q H1 sm
      by_cases h2 : x.cps.toList.length ≤ 40
      · refine ifT (decide_eq_true h2) ?_
        simp only [lkM, kvM, if_pos h2] at q
        exact q
      · refine ifF (decide_eq_false h2) ?_
        simp only [lkM, kvM, if_neg h2] at q
        exact q
    | tuple ds =>
      have hv : decide (v = V.non) = false := decide_eq_false fun e => by subst e; cases hd
      refine ⟨_, rfl, _, rfl, ifF hv ⟨_, rfl, _, _, _, _, _, rfl, .ty _, hty, kit_ty (kit_bool (.tuple ds)), _, rfl, ifF rfl ⟨_, rfl, _, _, _, _, _, rfl, .ty _, hty, kit_ty (kit_int (.tuple ds)), _, rfl, ifF rfl ?_⟩⟩⟩
      refine ⟨_, rfl, _, _, rfl, hd, hg, hs, trivial, fun H1 sm => ⟨_, rfl, ifF rfl ?_⟩⟩
      exact q H1 sm
    | list ds => simp [good] at hg
    | dict ds => simp [good] at hg
end
end DS
set_option Elab.async false
set_option linter.all false
set_option maxRecDepth 100000
set_option maxHeartbeats 4000000
/-! ### d.update(e), two dicts -/
namespace DS
open PySem PySem.Spec PyProof.Rows L2
section
variable {X : Cx}
def rUpd : V → List V → Hp → VK → Prop := fun x xs H Q => ∃ (a b : Addr) (kvs more : List (Key × V)), x = .ref a ∧ xs = [.ref b] ∧ a ≠ b ∧ H a = some (.dK kvs) ∧ H b = some (.dK more) ∧ kvs.length + more.length ≤ 1000 ∧ Q .non (upd H a (.dK (mergeK kvs more)))
theorem mt_upd : MtR X "dict.update" rUpd := by
  intro pins s σ H x xs v us Q I rx rxs h
  obtain ⟨a, b, kvs, more, rfl, rfl, hne, ha, hb, hz, q⟩ := h
  cases rx
  obtain ⟨u, rfl, ru⟩ := vals1 rxs
  cases ru
  obtain ⟨z1, hd1, vs, rel, dd⟩ := dk_of I.hok ha
  obtain ⟨z2, hd2, rs, rel2, dd2⟩ := dk_of I.hok hb
  refine call_meetsIn PySem.F.slot_dict_update dd.typeIs PySem.F.entry_dict_update (PySem.F.args_dict_update_2 _ _) (meets_dict_update (mixKind X.prog X.w) a b hne hd2) ⟨vs, rs, dd, dd2, by rw [← rel.length, ← rel2.length, sizeLine_eq]; omega, fun h' d' _ hs => ?_⟩
  have hz2 : (mergeK kvs more).length ≤ sizeLine := by
    have h1 := length_mergeK more kvs
    rw [sizeLine_eq]; omega
  have he : ∃ q, h'.get? a = some q := let ⟨q, _, _, hq, _⟩ := d'; ⟨q, hq⟩
  exact ⟨.non, _, d_write (t' := s.toks) I (by rw [ha]; exact True.intro) hs he (dk_new hz2 hd1 (rel2.merge rel) d'), rfl, q⟩
end
end DS
set_option Elab.async false
set_option linter.all false
set_option maxRecDepth 100000
set_option maxHeartbeats 4000000
namespace DS
open PySem L2 PySem.NumText
abbrev sLForm : Stmt := top 74
/-- the form, as the law sees it -/
def lformM (t : PyData) : Bool := formM t && decide (headM t ∉ handL)
def szL : List (Str × Nat) := [("value", 1), ("var", 1), ("col", 1), ("field", 2), ("op", 3), ("not", 1), ("null", 1), ("case", 3), ("count", 2), ("sum", 3), ("least", 3), ("most", 3), ("number", 1), ("call", 2)]
def szKV : List (Key × V) := szL.map fun e => (Sum.inr e.1, .int (e.2 : Int))
theorem sz_in : ∀ x ∈ exprs, szL.lookup x.1 = if x.1 ∈ handL then none else some x.2.length := by decide +kernel
theorem sz_keys : ∀ x ∈ szL, (exprs.lookup x.1).isSome = true := by decide +kernel
theorem sz_look (z : Str) : szL.lookup z = if z ∈ handL then none else (exprs.lookup z).map List.length := by
  cases e : exprs.lookup z with
  | some so =>
    have := sz_in _ (look_mem e)
    simpa using this
  | none =>
    cases e2 : szL.lookup z with
    | none => simp
    | some n =>
      have := sz_keys _ (look_mem e2)
      simp only [e] at this
      cases this
theorem val_sz (z : Str) : valV szKV (Sum.inr z) = (szL.lookup z).map fun n : Nat => V.int (n : Int) := by
  have gen : ∀ l : List (Str × Nat), valV (l.map fun e => ((Sum.inr e.1 : Key), V.int (e.2 : Int))) (Sum.inr z) = (l.lookup z).map fun n : Nat => V.int (n : Int) := fun l => by
    induction l with
    | nil => rfl
    | cons x l ih =>
      obtain ⟨x, n⟩ := x
      rw [List.lookup_cons]
      by_cases hx : z = x
      · subst hx
        simp [valV]
      · have h2 : ¬ ((Sum.inr x : Key) = Sum.inr z) := fun e => hx (Sum.inr.inj e).symm
        rw [beq_eq_false_iff_ne.mpr hx]
        rw [← ih]
        simp [valV, h2]
  exact gen szL
theorem lk_val (d : PyData) : (!decide (lkM d = V.str "")) = isValM d := by
  have gen : ∀ o : Option Str, (∀ y, o = some y → y ∈ kindsL) → (!decide (V.str (o.getD "") = V.str "")) = o.isSome := fun o h => by
    cases o with
    | none => simp
    | some y =>
      have hy := h y rfl
      have : y ≠ "" := by
        simp only [kindsL, List.mem_cons, List.mem_nil_iff, or_false] at hy
        rcases hy with rfl | rfl | rfl <;> decide
      show (!decide (V.str y = V.str "")) = true
      rw [neS this]; rfl
  cases d with
  | none => rfl
  | bool b => exact gen _ fun y h => kv_kind h
  | int i => exact gen _ fun y h => kv_kind h
  | str x => exact gen _ fun y h => kv_kind h
  | list x => exact gen _ fun y h => kv_kind h
  | tuple x => exact gen _ fun y h => kv_kind h
  | dict x => exact gen _ fun y h => kv_kind h
section
variable {P : Program} {w : World} {K : PySem.W.Frag} {mg : Str → Option Value} {base : Heap}
theorem scLForm : FnScope ["_law_e", "_law_sizes"] ["_law_e"] (defScope sLForm) := ⟨rfl, rfl, rfl, by decide +kernel, rfl, by decide +kernel, by decide +kernel⟩
theorem ok_lform {f : Addr} {fd : FuncData} {k : Nat} (B : Bn7 mg) (DW : Cal P w K mg base CX0 1 "_law_is_word" ["_law_thing"] [] (spD K (fun _ => True) fun t => .bl (isWordM t))) (DK : Cal P w K mg base CX0 2 "_law_kind_of" ["_law_thing"] [] (spD K (fun _ => True) lkM))
    (F : Fun K "_law_has_form" "_law_has_form" sLForm f fd) : FnOk P w K mg base CX0 (k + 3) f fd ["_law_e"] (spD K (fun t => hgt t ≤ 60) fun t => .bl (lformM t)) := by
  obtain ⟨f1, fd1, ds1, e1, k1, v1, b1, G1⟩ := DW.ex
  obtain ⟨f2, fd2, ds2, e2, k2, v2, b2, G2⟩ := DK.ex
  refine F.ok scLForm (fun vs H Q E h => ?_) (fun cdv A outer s H vs Q E hr h => ?_)
  · obtain ⟨v, t, rfl, _⟩ := h
    rfl
  · obtain ⟨v, t, rfl, hd, hg, hs, hh, q⟩ := h
    have hu : (A.deeper (PyProof.Rows.envOfC "_law_has_form" (defScope sLForm) s.heap.objs.size f cdv)).units + 64 < cLine := hr.units
    have hu1 : (A.deeper (PyProof.Rows.envOfC "_law_has_form" (defScope sLForm) s.heap.objs.size f cdv)).units + 1 < cLine := by omega
    refine ⟨_, pss_cons (ps_set (i := 1) scLForm.nd rfl (Or.inl rfl) (pe_disp (L2.pps_cons pe_str pe_int (L2.pps_cons pe_str pe_int (L2.pps_cons pe_str pe_int (L2.pps_cons pe_str pe_int (L2.pps_cons pe_str pe_int (L2.pps_cons pe_str pe_int (L2.pps_cons pe_str pe_int (L2.pps_cons pe_str pe_int (L2.pps_cons pe_str pe_int (L2.pps_cons pe_str pe_int L2.pps_nil)))))))))) (by rfl) (by rfl) (fun z => by cases z) (by decide)))
      (pss_cons (ps_expr (pe_bm PySem.F.plainAttrs_dict PySem.F.slot_dict_update PySem.F.type_dict_update mt_upd (pv 1) (pa_cons (pe_disp (L2.pps_cons pe_str pe_int (L2.pps_cons pe_str pe_int (L2.pps_cons pe_str pe_int (L2.pps_cons pe_str pe_int L2.pps_nil)))) (by rfl) (by rfl) (fun z => by cases z) (by decide)) pa_nil)))
      (pss_cons (ps_if (PW.pt (pw_or (pt_not (pt_val (pe_callB call_isi (by rfl) B.isi boot_isi (pa_cons (pv 0) (pa_cons (pe_bltn (v := .ty "tuple") (by rfl) B.tup PyProof.Rows.boot_tuple rfl) pa_nil)))))
        (pw_or (pt_cmpR op_eq (pe_callB call_len_seq (by rfl) B.len PySem.boot_len (pa_cons (pv 0) pa_nil)) pe_int (nomark _))
        (pw_or (pt_not (pt_val (pe_callB call_isi (by rfl) B.isi boot_isi (pa_cons (pe_ix ix_tup (pv 0) pe_int (fun _ _ => rfl)) (pa_cons (pe_bltn (v := .ty "str") (by rfl) B.str PyProof.Rows.boot_str rfl) pa_nil)))))
        (pw_or1 (pt_cmpR op_ne (pe_callB call_len_seq (by rfl) B.len PySem.boot_len (pa_cons (pv 0) pa_nil)) (pe_op op_add (pe_dget2 hu1 (pv 1) (pe_ix ix_tup (pv 0) pe_int (fun _ _ => rfl)) (pe_un un_neg pe_int) ⟨rfl, rfl, rfl, rfl⟩) pe_int) (nomark _))))))) (pss_one (ps_ret pe_bl)) pss_nil)
      (pss_cons (ps_if (pt_cmpR op_eq (pe_ix ix_tup (pv 0) pe_int (fun _ _ => rfl)) pe_str (nomark _)) (pss_one (ps_ret (pe_cmpR op_ne (pe_call G2 (hr.mono (by omega)) rfl e2 k2 b2 v2 pass0 (pa_cons (pe_ix ix_tup (pv 0) pe_int (fun _ _ => rfl)) pa_nil)) pe_str (nomark _)))) pss_nil)
      (pss_cons (ps_if (pt_cmpR op_eq (pe_ix ix_tup (pv 0) pe_int (fun _ _ => rfl)) pe_str (nomark _)) (pss_one (ps_ret (pe_and (pe_callB call_isi (by rfl) B.isi boot_isi (pa_cons (pe_ix ix_tup (pv 0) pe_int (fun _ _ => rfl)) (pa_cons (pe_bltn (v := .ty "str") (by rfl) B.str PyProof.Rows.boot_str rfl) pa_nil)))
        (pe_one (pe_cmpR (show OpR _ (compareOp .In) (rIn K false) from op_in_seq) (pe_ix ix_tup (pv 0) pe_int (fun _ _ => rfl)) (pe_bm PySem.F.plainAttrs_str PySem.F.slot_str_split PySem.F.type_str_split mt_split pe_str (pa_cons pe_str pa_nil)) (by rfl)))))) pss_nil)
      (pss_cons (ps_if (pt_cmpR (show OpR _ (compareOp .In) (rIn K false) from op_in_seq) (pe_ix ix_tup (pv 0) pe_int (fun _ _ => rfl)) (pe_tup (pa_cons pe_str (pa_cons pe_str (pa_cons pe_str pa_nil)))) (by rfl)) (pss_one (ps_ret pe_bl)) pss_nil)
      (pss_cons (ps_if (pt_cmpR op_eq (pe_ix ix_tup (pv 0) pe_int (fun _ _ => rfl)) pe_str (nomark _)) (pss_one (ps_ret (pe_and (pe_call G1 (hr.mono (by omega)) rfl e1 k1 b1 v1 pass0 (pa_cons (pe_ix ix_tup (pv 0) pe_int (fun _ _ => rfl)) pa_nil)) (pe_one (pe_call G1 (hr.mono (by omega)) rfl e1 k1 b1 v1 pass0 (pa_cons (pe_ix ix_tup (pv 0) pe_int (fun _ _ => rfl)) pa_nil)))))) pss_nil)
      (pss_one (ps_ret (pe_and (pe_call G1 (hr.mono (by omega)) rfl e1 k1 b1 v1 pass0 (pa_cons (pe_ix ix_tup (pv 0) pe_int (fun _ _ => rfl)) pa_nil)) (pe_one (pe_or (pe_cmpR op_ne (pe_ix ix_tup (pv 0) pe_int (fun _ _ => rfl)) pe_str (nomark _)) (pe_one (pe_callB call_isi (by rfl) B.isi boot_isi (pa_cons (pe_ix ix_tup (pv 0) pe_int (fun _ _ => rfl)) (pa_cons (pe_bltn (v := .ty "tuple") (by rfl) B.tup PyProof.Rows.boot_tuple rfl) pa_nil))))))))))))))), ?_⟩
    have q : ∀ H', Same H H' → Q (.bl (lformM t)) H' := q
    intro dz hdz
    refine ⟨upd_same, szL.take 10 |>.map fun e => (Sum.inr e.1, .int (e.2 : Int)), rfl, by show 10 ≤ 15; decide, ?_⟩
    refine ⟨_, rfl, ?_, fun d2 hd2 => ⟨upd_same, szL.drop 10 |>.map fun e => (Sum.inr e.1, .int (e.2 : Int)), rfl, by show 4 ≤ 15; decide, ?_⟩⟩
    · exact .inr (.inr (.inl ⟨rfl, .inl ⟨_, upd_same⟩⟩))
    have e1 : (upd (upd H dz (.dK [])) dz (.dK (mergeK [] (szL.take 10 |>.map fun e => ((Sum.inr e.1 : Key), V.int (e.2 : Int)))))) dz = some (.dK (szL.take 10 |>.map fun e => ((Sum.inr e.1 : Key), V.int (e.2 : Int)))) := by rw [upd_same]; rfl
    have nd : dz ≠ d2 := ne_of_none e1 hd2
    refine ⟨dz, d2, szL.take 10 |>.map fun e => (Sum.inr e.1, .int (e.2 : Int)), szL.drop 10 |>.map fun e => (Sum.inr e.1, .int (e.2 : Int)), rfl, rfl, nd, ?_, ?_, by decide, ?_⟩
    · rw [upd_ne nd, upd_ne nd]; exact e1
    · rw [upd_same]; rfl
    rw [show mergeK (szL.take 10 |>.map fun e => ((Sum.inr e.1 : Key), V.int (e.2 : Int))) (szL.drop 10 |>.map fun e => ((Sum.inr e.1 : Key), V.int (e.2 : Int))) = szKV from rfl]
    have hd2' : H d2 = none := by
      have := hd2
      rw [upd_ne nd.symm, upd_ne nd.symm] at this
      exact this
    generalize hH3 : upd _ dz (.dK szKV) = H3
    have hz3 : H3 dz = some (.dK szKV) := by rw [← hH3, upd_same]
    have s3 : Same H H3 := fun b o e => by
      have n1 := ne_of_none e hdz
      have n2 := ne_of_none e hd2'
      rw [← hH3, upd_ne n1, upd_ne n2, upd_ne n2, upd_ne n1, upd_ne n1]; exact e
    have hd3 := dp_same s3 _ _ hd
    have fin : ∀ {b : Bool} {H' : Hp}, Same H3 H' → lformM t = b → Q (.bl b) H' := fun sm e => by have := q _ (s3.trans sm); rw [e] at this; exact this
    refine ⟨_, rfl, _, _, _, _, _, rfl, .ty _, dp_ty hg hd3, kit_ty (kit_tup t), _, rfl, ?_⟩
    cases t with
    | tuple ds =>
      cases hd3 with
      | @tup a xs _ hsq ha =>
      have hlx := dp_len ha
      refine ifF rfl ⟨_, rfl, a, _, rfl, .inr hsq, rfl, _, rfl, ?_⟩
      cases ds with
      | nil =>
        cases ha
        exact ifT (by decide) (iteT (fin (Same.refl _) rfl))
      | cons d1 ds =>
        cases ha with
        | @cons x xs _ _ p1 p2 =>
        refine ifF (by rw [dec_int]; simp; omega) ?_
        have hg1 : good d1 := by simp only [good, goodAll] at hg; exact hg.1
        refine ⟨_, rfl, a, _, 0, x, rfl, rfl, hsq, atI_nat (j := 0) rfl, ?_⟩
        refine ⟨_, _, _, _, _, rfl, .ty _, dp_ty hg1 p1, kit_ty (kit_str d1), _, rfl, ?_⟩
        cases e : isiB "str" d1 with
        | false =>
          refine iteT (iteT (fin (Same.refl _) ?_))
          cases d1 <;> first | rfl | (rw [b_str_str] at e; cases e)
        | true =>
          refine iteF ?_
          obtain ⟨z, rfl⟩ := isi_str.mp e
          cases p1
          have a0 : atI (V.str z :: xs) 0 = some (V.str z) := atI_nat (j := 0) rfl
          have hlx2 : xs.length = ds.length := dp_len p2
          have gz : DGet H3 dz (.str z) ((szL.lookup z).map fun n : Nat => V.int (n : Int)) := by
            have := DGet.k (k := .inr z) hz3
            rw [val_sz] at this
            exact this
          have no : lformM (.tuple (.str z :: ds)) = false → ∀ {H' : Hp}, Same H3 H' → Q (.bl false) H' := fun e _ sm => fin sm e
          refine ⟨_, rfl, a, _, rfl, .inr hsq, _, rfl, dz, rfl, .inl ⟨_, .inl hz3⟩, _, rfl, a, _, 0, _, rfl, rfl, hsq, a0, _, rfl, _, gz, ?_⟩
          rw [sz_look] at gz ⊢
          by_cases hm : z ∈ handL
          · rw [if_pos hm]
            refine ⟨_, _, rfl, rfl, rfl, _, rfl, ifT (by rw [dec_int]; simp; omega) (no ?_ (Same.refl _))⟩
            unfold lformM
            rw [decide_eq_false (fun h => h hm), Bool.and_false]
          · rw [if_neg hm]
            have hl2 : lformM (.tuple (.str z :: ds)) = formM (.tuple (.str z :: ds)) := by
              unfold lformM
              rw [decide_eq_true (show headM (.tuple (.str z :: ds)) ∉ handL from hm), Bool.and_true]
            cases el : exprs.lookup z with
            | none =>
              refine ⟨_, _, rfl, rfl, rfl, _, rfl, ifT (by rw [dec_int]; simp; omega) (no ?_ (Same.refl _))⟩
              rw [hl2]
              simp only [formM, el]
            | some so =>
              by_cases hso : ds.length = so.length
              · refine ⟨_, _, rfl, rfl, rfl, _, rfl, ifF (by rw [dec_int]; simp; omega) ?_⟩
                have ef : lformM (.tuple (.str z :: ds)) = partsOkM so ds := by
                  rw [hl2]
                  simp only [formM, el, decide_eq_true hso, Bool.true_and]
                have fin : ∀ {b : Bool} {H' : Hp}, Same H3 H' → partsOkM so ds = b → Q (.bl b) H' := fun sm e => fin sm (ef.trans e)
                have hga : goodAll ds := by simp only [good, goodAll] at hg; exact hg.2
                have hsa : shortAll ds := by simp only [short, shortAll] at hs; exact hs.1.2
                refine ⟨_, rfl, a, _, 0, _, rfl, rfl, hsq, a0, rfl, _, rfl, ?_⟩
                by_cases z1 : z = "value"
                · subst z1
                  rw [lk_value] at el
                  cases el
                  obtain ⟨d, rfl⟩ := len1 hso
                  cases p2 with
                  | @cons x xs _ _ p3 p4 =>
                  cases p4
                  refine ifT (eqS _) ⟨_, rfl, a, _, 1, x, rfl, rfl, hsq, atI_nat (j := 1) rfl, x, d, rfl, p3, hga.1, hsa.1, trivial, fun H4 sm => ?_⟩
                  have er : partsOkM ["content"] [d] = isValM d := by simp only [partsOkM, pt_cont, Bool.and_true]
                  refine ⟨by cases d <;> rfl, fin sm (er.trans ?_)⟩
                  exact (lk_val d).symm
                · refine ifF (neS z1) ?_
                  refine ⟨_, rfl, a, _, 0, _, rfl, rfl, hsq, a0, rfl, _, rfl, ?_⟩
                  by_cases z2 : z = "op"
                  · subst z2
                    rw [lk_op] at el
                    cases el
                    obtain ⟨d, d2', d3, rfl⟩ := len3 hso
                    cases p2 with
                    | @cons x xs _ _ p3 p4 =>
                    have a1 : atI (V.str "op" :: x :: xs) 1 = some x := atI_nat (j := 1) rfl
                    have er : partsOkM ["operator", "expression", "expression"] [d, d2', d3] = oneOfM opsL d := by simp only [partsOkM, pt_oper, pt_expr, Bool.and_true]
                    refine ifT (eqS _) ⟨_, rfl, a, _, 1, x, rfl, rfl, hsq, a1, ?_⟩
                    refine ⟨_, _, _, _, _, rfl, .ty _, dp_ty hga.1 p3, kit_ty (kit_str d), _, rfl, ?_⟩
                    cases e5 : isiB "str" d with
                    | false =>
                      refine iteF (fin (Same.refl _) (er.trans ?_))
                      cases d <;> first | rfl | (rw [b_str_str] at e5; cases e5)
                    | true =>
                      obtain ⟨o, rfl⟩ := isi_str.mp e5
                      cases p3
                      refine iteT ⟨_, rfl, a, _, 1, _, rfl, rfl, hsq, a1, rfl, _, _, rfl, rfl, by decide +kernel, by decide +kernel, fun pl hpl => ?_⟩
                      rw [show Txt.split "+ - * div mod join = < and or" " " = opsL by decide +kernel]
                      have s5 := same_new hpl (.lst (opsL.map V.str))
                      refine ⟨pl, _, rfl, .inl (SqL.of upd_same), rfl, flat_strs _, ?_⟩
                      show Q (.bl (inV (.str o) (opsL.map V.str))) _
                      rw [in_strs]
                      exact fin s5 er
                  · refine ifF (neS z2) ?_
                    refine ⟨_, rfl, a, _, 0, _, rfl, rfl, hsq, a0, by show 3 ≤ sizeLine; decide, fun tp htp => ?_⟩
                    have st := same_new htp (.tup [.str "not", .str "null", .str "case"])
                    refine ⟨tp, _, rfl, .inr (SqT.of upd_same), rfl, rfl, _, rfl, ?_⟩
                    show (if inV (.str z) ((["not", "null", "case"] : List Str).map V.str) = true then _ else _)
                    rw [in_strs]
                    have hsq4 := sqT_same st hsq
                    by_cases z3 : z ∈ (["not", "null", "case"] : List Str)
                    · refine ifT (decide_eq_true z3) (fin st ?_)
                      simp only [List.mem_cons, List.mem_nil_iff, or_false] at z3
                      refine partsOk_all.mpr fun i s d e1 _ => ?_
                      have hs9 : s = "expression" := by
                        have : s ∈ so := List.mem_of_getElem? e1
                        rcases z3 with rfl | rfl | rfl
                        · rw [lk_not] at el; cases el; simpa using this
                        · rw [lk_null] at el; cases el; simpa using this
                        · rw [lk_case] at el; cases el; simpa using this
                      subst hs9
                      rfl
                    · refine ifF (decide_eq_false z3) ?_
                      have hw : z ∈ wordHds := by
                        rcases hd_all _ (look_mem el) with h | h | h | h
                        · exact h
                        · simp only [plainHds, List.mem_cons, List.mem_nil_iff, or_false] at h z3
                          rcases h with h | h | h | h | h
                          · exact absurd h z1
                          · exact absurd h z2
                          · exact absurd (.inl h) z3
                          · exact absurd (.inr (.inl h)) z3
                          · exact absurd (.inr (.inr h)) z3
                        · exact absurd (by rw [show z = "word" from h]; decide) hm
                        · exact absurd (by rw [show z = "told" from h]; decide) hm
                      obtain ⟨so', e7⟩ := hd_word z hw
                      rw [el] at e7
                      cases e7
                      cases ds with
                      | nil => simp at hso
                      | cons d ds =>
                      cases p2 with
                      | @cons x xs _ _ p3 p4 =>
                      have a1 : atI (V.str z :: x :: xs) 1 = some x := atI_nat (j := 1) rfl
                      refine ⟨_, rfl, a, _, 0, _, rfl, rfl, hsq4, atI_nat (j := 0) rfl, rfl, _, rfl, ?_⟩
                      have er : partsOkM ("word" :: so') (d :: ds) = (isWordM d && partsOkM so' ds) := by simp only [partsOkM, pt_word]
                      have dx1 := dp_same st _ _ p3
                      by_cases z4 : z = "field"
                      · subst z4
                        have e8 : exprs.lookup ("field" : Str) = some (["word", "word"] : List Str) := by decide +kernel
                        rw [e8] at el
                        cases el
                        obtain ⟨dd, rfl⟩ := len1 (show ds.length = 1 by simpa using hso)
                        cases p4 with
                        | @cons y xs _ _ p5 p6 =>
                        refine ifT (eqS _) ⟨_, rfl, a, _, 1, x, rfl, rfl, hsq4, a1, x, d, rfl, dx1, hga.1, hsa.1, trivial, fun H5 sm => ⟨_, rfl, ?_⟩⟩
                        have er2 : partsOkM ["word", "word"] [d, dd] = (isWordM d && isWordM dd) := by simp only [partsOkM, pt_word, Bool.and_true]
                        cases ew : isWordM d with
                        | false => exact iteF (fin (st.trans sm) (by rw [er2, ew]; rfl))
                        | true =>
                          refine iteT ⟨_, rfl, a, _, 2, y, rfl, rfl, sqT_same sm hsq4, atI_nat (j := 2) rfl, y, dd, rfl, dp_same (st.trans sm) _ _ p5, hga.2.1, hsa.2.1, trivial, fun H6 sm6 => ?_⟩
                          exact fin ((st.trans sm).trans sm6) (by rw [er2, ew]; rfl)
                      · refine ifF (neS z4) ⟨_, rfl, a, _, 1, x, rfl, rfl, hsq4, a1, x, d, rfl, dx1, hga.1, hsa.1, trivial, fun H5 sm => ⟨_, rfl, ?_⟩⟩
                        have s5 := st.trans sm
                        cases ew : isWordM d with
                        | false => exact iteF (fin s5 (by rw [er, ew]; rfl))
                        | true =>
                          refine iteT ⟨_, rfl, a, _, 0, _, rfl, rfl, sqT_same sm hsq4, atI_nat (j := 0) rfl, rfl, _, rfl, ?_⟩
                          by_cases z5 : z = "call"
                          · subst z5
                            have e8 : exprs.lookup ("call" : Str) = some (["word", "expressions"] : List Str) := by decide +kernel
                            rw [e8] at el
                            cases el
                            obtain ⟨dd, rfl⟩ := len1 (show ds.length = 1 by simpa using hso)
                            cases p4 with
                            | @cons y xs _ _ p5 p6 =>
                            refine ifF (by decide) ⟨_, rfl, a, _, 2, y, rfl, rfl, sqT_same sm hsq4, atI_nat (j := 2) rfl, ?_⟩
                            have pm : partM "expressions" dd = isTupM dd := by unfold partM; rw [if_neg (by decide), if_pos rfl]
                            have ef2 : isiB "tuple" dd = isTupM dd := by cases dd <;> rfl
                            refine ⟨_, _, _, _, _, rfl, .ty _, dp_ty hga.2.1 (dp_same s5 _ _ p5), kit_ty (kit_tup dd), fin s5 ?_⟩
                            rw [er, ew, ef2]
                            simp only [partsOkM, pm, Bool.and_true, Bool.true_and]
                          · refine ifT (by rw [neS z5]; rfl) (fin s5 ?_)
                            rw [er, ew, Bool.true_and]
                            refine partsOk_all.mpr fun i s d' e1 _ => ?_
                            have hs9 : s = "expression" := by
                              have : s ∈ so' := List.mem_of_getElem? e1
                              have all9 : ∀ x ∈ exprs, x.1 ∈ wordHds → x.1 ≠ "field" → x.1 ≠ "call" → ∀ s ∈ x.2.drop 1, s = "expression" := by decide +kernel
                              exact all9 _ (look_mem el) hw z4 z5 s (by simpa using this)
                            subst hs9
                            rfl
              · refine ⟨_, _, rfl, rfl, rfl, _, rfl, ifT (by rw [dec_int]; simp; omega) (no ?_ (Same.refl _))⟩
                rw [hl2]
                simp only [formM, el, decide_eq_false hso, Bool.false_and]
    | none => exact ifT rfl (iteT (fin (Same.refl _) rfl))
    | bool b => exact ifT rfl (iteT (fin (Same.refl _) rfl))
    | int i => exact ifT rfl (iteT (fin (Same.refl _) rfl))
    | str x => exact ifT rfl (iteT (fin (Same.refl _) rfl))
    | list ds => simp [good] at hg
    | dict ds => simp [good] at hg
end
end DS
set_option Elab.async false
set_option linter.all false
set_option maxRecDepth 100000
set_option maxHeartbeats 4000000
/-! handy rules, derived -/
namespace DS
open PySem L2
section
variable {X : Cx} {ta : TE} {a : Expr} {es : List Expr}
/-- written texts as arguments -/
def tStrs (l : List Str) : TA := fun _ H Q => Q (l.map V.str) H
theorem pa_s0 : PA X [] (tStrs []) := pa_nil
theorem pa_s {x : Str} {l : List Str} {j : Nat} {pos : Pos} (h : PA X es (tStrs l)) (hs : starEach (.Constant (.str x) j pos :: es) X.env = (false, eval (.Constant (.str x) j pos) X.env) :: starEach es X.env := by rfl) : PA X (.Constant (.str x) j pos :: es) (tStrs (x :: l)) :=
  pa_cons pe_str h hs
/-- x in ('a', 'b') -/
def tInS (l : List Str) (ta : TE) : TE := fun σ H Q => ta σ H fun x H1 => ∃ z, x = .str z ∧ ∀ H2, Same H1 H2 → Q (.bl (decide (z ∈ l))) H2
def tNinS (l : List Str) (ta : TE) : TE := fun σ H Q => ta σ H fun x H1 => ∃ z, x = .str z ∧ ∀ H2, Same H1 H2 → Q (.bl (!decide (z ∈ l))) H2
theorem pe_inS {l : List Str} {x1 : Nat} {p pos : Pos} (ha : PE X a ta) (hs : PA X es (tStrs l)) (hl : l.length ≤ sizeLine := by decide) (hm : behindInMarks .In (.Tuple es x1 p) = false := by rfl) :
    PE X (.Compare a [.In] [.Tuple es x1 p] pos) (tInS l ta) := by
  refine ⟨fun pins s σ H Q I h => ?_⟩
  refine wpAny_Compare1 (thn (ha.run pins s σ H _ I h) fun v s1 ⟨x, H1, I1, r1, z, ez, q1⟩ => thn ((pe_tup hs).run pins s1 σ H1 (fun y H2 => rIn X.K false x y H2 Q) I1 ?_) fun u s2 ⟨y, H2, I2, r2, q2⟩ => op_in_seq pins s2 σ H2 x y v u Q I2 r1 r2 q2) hm
  subst ez
  refine ⟨by rw [List.length_map]; exact hl, fun tp htp => ⟨tp, _, rfl, .inr (SqT.of upd_same), rfl, flat_strs l, ?_⟩⟩
  show Q (.bl (inV (.str z) (l.map V.str))) _
  rw [in_strs]
  exact q1 _ (same_new htp _)
theorem pe_ninS {l : List Str} {x1 : Nat} {p pos : Pos} (ha : PE X a ta) (hs : PA X es (tStrs l)) (hl : l.length ≤ sizeLine := by decide) (hm : behindInMarks .NotIn (.Tuple es x1 p) = false := by rfl) :
    PE X (.Compare a [.NotIn] [.Tuple es x1 p] pos) (tNinS l ta) := by
  refine ⟨fun pins s σ H Q I h => ?_⟩
  refine wpAny_Compare1 (thn (ha.run pins s σ H _ I h) fun v s1 ⟨x, H1, I1, r1, z, ez, q1⟩ => thn ((pe_tup hs).run pins s1 σ H1 (fun y H2 => rIn X.K true x y H2 Q) I1 ?_) fun u s2 ⟨y, H2, I2, r2, q2⟩ => op_notIn_seq pins s2 σ H2 x y v u Q I2 r1 r2 q2) hm
  subst ez
  refine ⟨by rw [List.length_map]; exact hl, fun tp htp => ⟨tp, _, rfl, .inr (SqT.of upd_same), rfl, flat_strs l, ?_⟩⟩
  show Q (.bl (!inV (.str z) (l.map V.str))) _
  rw [in_strs]
  exact q1 _ (same_new htp _)
theorem pt_inS {l : List Str} {x1 : Nat} {p pos : Pos} (ha : PE X a ta) (hs : PA X es (tStrs l)) (hl : l.length ≤ sizeLine := by decide) (hm : behindInMarks .In (.Tuple es x1 p) = false := by rfl) :
    PT X (.Compare a [.In] [.Tuple es x1 p] pos) (tTest (tInS l ta)) := by
  refine ⟨fun pins s σ H Q I h => ?_⟩
  refine wpAny_isTrue_Compare1 (thn (ha.run pins s σ H _ I h) fun v s1 ⟨x, H1, I1, r1, z, ez, q1⟩ => thn ((pe_tup hs).run pins s1 σ H1 (fun y H2 => rIn X.K false x y H2 fun x H' => ∃ k, x = .bl k ∧ Q k H') I1 ?_) fun u s2 ⟨y, H2, I2, r2, q2⟩ =>
    thn (op_in_seq pins s2 σ H2 x y v u _ I2 r1 r2 q2) fun c s3 ⟨z, H3, I3, r3, k, e, q3⟩ => ?_) hm
  · subst ez
    refine ⟨by rw [List.length_map]; exact hl, fun tp htp => ⟨tp, _, rfl, .inr (SqT.of upd_same), rfl, flat_strs l, ?_⟩⟩
    show ∃ k, V.bl (inV (.str z) (l.map V.str)) = .bl k ∧ Q k _
    rw [in_strs]
    exact q1 _ (same_new htp _)
  · subst e
    cases r3
    exact wpAny_truthy_bool ⟨H3, I3, q3⟩
/-- text * int -/
theorem fold_rep (c : Nat) : ∀ (n : Nat) (acc : Array Nat), (List.replicate n #[c]).foldl (fun x y => x ++ y) acc = acc ++ (List.replicate n c).toArray
  | 0, acc => by simp
  | n + 1, acc => by
    rw [List.replicate_succ, List.foldl_cons, fold_rep c n, List.replicate_succ, Array.append_assoc]
    congr 1
    apply Array.ext'
    simp
theorem mul_S (c n : Nat) : Txt.mul (S [c]) (n : Int) = S (List.replicate n c) := by
  unfold Txt.mul
  by_cases h0 : n = 0
  · subst h0; rfl
  · rw [if_neg (by omega)]
    by_cases h1 : n = 1
    · subst h1; rfl
    · have e : ((n : Int) == 1 || (S [c]).length == 0) = false := by
        rw [S_length]
        simp
        omega
      rw [if_neg (by rw [e]; decide), Int.toNat_natCast]
      show (⟨(List.replicate n #[c]).foldl (fun x y => x ++ y) #[]⟩ : Str) = _
      rw [fold_rep]
      simp [S]
theorem op_repS : OpR X (binaryOp .Mult) (fun x y H Q => ∃ c n : Nat, x = .str (S [c]) ∧ y = .int (n : Int) ∧ n ≤ 1000 ∧ Q (.str (S (List.replicate n c))) H) := by
  intro pins s σ H x y v u Q I rx ry h
  obtain ⟨c, n, rfl, rfl, hn, q⟩ := h
  obtain ⟨t, rfl⟩ := rx
  obtain ⟨t2, rfl⟩ := ry
  have hok : MulOk (S [c]) (n : Int) := by
    refine ⟨?_, fun h1 h2 => ?_, fun h1 h2 => ?_⟩
    · simp
      omega
    · rw [S_length]
      simp only [List.length_cons, List.length_nil]
      have : (1 : Int) ≤ (2 ^ 63 - 1) / (n : Int) := by
        rw [Int.le_ediv_iff_mul_le (by omega)]
        omega
      omega
    · rw [S_length, Int.toNat_natCast]
      show decide (1 * n > sizeLine) = false
      have := small' (n := 1 * n) (by omega)
      exact decide_eq_false (by omega)
  refine SB.mul hok fun t' k => ?_
  rw [mul_S]
  exact ⟨.str _, H, I.tok _, ⟨t', rfl⟩, q⟩
end
end DS
set_option Elab.async false
set_option linter.all false
set_option maxRecDepth 100000
set_option maxHeartbeats 4000000
namespace DS
open PySem L2 PySem.NumText
def placeK (ka sh co va ta sq : Addr) : List (Key × V) := [(Sum.inr "kinds", .ref ka), (Sum.inr "shown", .ref sh), (Sum.inr "col", .ref co), (Sum.inr "var", .ref va), (Sum.inr "tables", .ref ta), (Sum.inr "sequences", .ref sq)]
/-- the law's place -/
structure PlaceAt (cols vars : Kinds) (H : Hp) (p : Addr) : Prop where
  ex : ∃ ka sh co va ta sq, H p = some (.dK (placeK ka sh co va ta sq)) ∧ H ka = some (.dK (kdKV cols)) ∧ H sh = some (.dK []) ∧ H co = some (.dK (kdKV cols)) ∧ H va = some (.dK (kdKV vars)) ∧ H ta = some (.dK []) ∧ H sq = some (.lst [])
theorem PlaceAt.same {cols vars : Kinds} {H H' : Hp} {p : Addr} (h : PlaceAt cols vars H p) (sm : Same H H') : PlaceAt cols vars H' p := by
  obtain ⟨ka, sh, co, va, ta, sq, h1, h2, h3, h4, h5, h6, h7⟩ := h.ex
  exact ⟨ka, sh, co, va, ta, sq, sm _ _ h1, sm _ _ h2, sm _ _ h3, sm _ _ h4, sm _ _ h5, sm _ _ h6, sm _ _ h7⟩
theorem lform_split {t : PyData} (h : lformM t = true) : formM t = true ∧ headM t ∉ handL := by
  unfold lformM at h
  rw [Bool.and_eq_true] at h
  exact ⟨h.1, of_decide_eq_true h.2⟩
section
variable {P : Program} {w : World} {K : PySem.W.Frag} {mg : Str → Option Value} {base : Heap}
abbrev sLKnown : Stmt := top 75
theorem scLKnown : FnScope ["_law_e", "_law_place"] ["_law_e", "_law_place"] (defScope sLKnown) := ⟨rfl, rfl, rfl, by decide +kernel, rfl, by decide +kernel, by decide +kernel⟩
def spKnown (K : PySem.W.Frag) (cols vars : Kinds) : Sp := fun vs H Q _ => ∃ v t p, vs = [v, .ref p] ∧ Dp K H v t ∧ lformM t = true ∧ PlaceAt cols vars H p ∧ ∀ H', Same H H' → Q (.bl (thereM cols vars t)) H'
theorem ok_known {f : Addr} {fd : FuncData} {k : Nat} {cols vars : Kinds} (F : Fun K "_law_is_known" "_law_is_known" sLKnown f fd) : FnOk P w K mg base CX0 (k + 1) f fd ["_law_e", "_law_place"] (spKnown K cols vars) := by
  refine F.ok scLKnown (fun vs H Q E h => ?_) (fun cdv A outer s H vs Q E hr h => ?_)
  · obtain ⟨v, t, p, rfl, _⟩ := h
    rfl
  · obtain ⟨v, t, p, rfl, hd, hf, hP, q⟩ := h
    have hu1 : (A.deeper (PyProof.Rows.envOfC "_law_is_known" (defScope sLKnown) s.heap.objs.size f cdv)).units + 1 < cLine := by have := hr.units; omega
    refine ⟨_, (pss_cons (ps_if (pt_inS (pe_ix ix_tup (pv 0) pe_int (fun _ _ => rfl)) (pa_s (pa_s pa_s0))) (pss_one (ps_ret (pe_cmp (pc_din hu1 (pe_ix ix_tup (pv 0) pe_int (fun _ _ => rfl)) (pe_dget hu1 (pv 1) (pe_ix ix_tup (pv 0) pe_int (fun _ _ => rfl)) (fun _ _ => rfl)))))) pss_nil)
      (pss_cons (ps_if (pt_inS (pe_ix ix_tup (pv 0) pe_int (fun _ _ => rfl)) (pa_s (pa_s (pa_s (pa_s pa_s0))))) (pss_one (ps_ret (pe_cmp (pc_din hu1 (pe_ix ix_tup (pv 0) pe_int (fun _ _ => rfl)) (pe_dget hu1 (pv 1) pe_str (fun _ _ => rfl)))))) pss_nil)
      (pss_one (ps_ret (pe_and (pe_ninS (pe_ix ix_tup (pv 0) pe_int (fun _ _ => rfl)) (pa_s (pa_s pa_s0))) (pe_one (pe_or (pe_cmpR op_ne (pe_ix ix_tup (pv 0) pe_int (fun _ _ => rfl)) pe_str (nomark _)) (pe_one (pe_cmpR (show OpR _ (compareOp .In) (rIn K false) from op_in_seq) (pe_ix ix_tup (pv 0) pe_int (fun _ _ => rfl)) (pe_dget hu1 (pv 1) pe_str (fun _ _ => rfl)) (by rfl)))))))))), ?_⟩
    obtain ⟨hf, hh⟩ := lform_split hf
    obtain ⟨z, ds, rfl, hz⟩ := form_split hf
    obtain ⟨ka, sh, co, va, ta, sq, h1, h2, h3, h4, h5, h6, h7⟩ := hP.ex
    cases hd with
    | @tup a xs _ hsq ha =>
    cases ha with
    | @cons x xs _ _ d1 d2 =>
    cases d1
    have a0 : atI (V.str z :: xs) 0 = some (V.str z) := atI_nat (j := 0) rfl
    have fin : ∀ {b : Bool} {H' : Hp}, Same H H' → thereM cols vars (.tuple (.str z :: ds)) = b → Q (.bl b) H' := fun sm e => by have := q _ sm; rw [e] at this; exact this
    refine ⟨_, rfl, a, _, 0, _, rfl, rfl, hsq, a0, z, rfl, fun H1 s1 => ⟨_, rfl, ?_⟩⟩
    have g1 : ∀ {H' : Hp} {x : Str} {b : Addr}, Same H1 H' → valV (placeK ka sh co va ta sq) (Sum.inr x) = some (.ref b) → DGet H' p (.str x) (some (.ref b)) := fun {H' x b} s9 e => by
      have := DGet.k (k := Sum.inr x) (s9 _ _ (s1 _ _ h1))
      rw [e] at this
      exact this
    rcases hz with ⟨w1, r, hw, rfl⟩ | hp | rfl | rfl
    · cases d2 with
      | @cons x xs _ _ d2 d3 =>
      cases d2
      have a1 : atI (V.str z :: V.str w1 :: xs) 1 = some (V.str w1) := atI_nat (j := 1) rfl
      simp only [wordHds, List.mem_cons, List.mem_nil_iff, or_false] at hw
      have sq1 := sqT_same s1 hsq
      rcases hw with rfl | rfl | rfl | rfl | rfl | rfl | rfl | rfl | rfl
      · refine ifT (by decide) ⟨_, rfl, a, _, 1, _, rfl, rfl, sq1, a1, _, rfl, _, rfl, a, _, 0, _, rfl, rfl, sq1, a0, p, _, rfl, g1 (Same.refl _) rfl, va, _, rfl, kd_get (s1 _ _ h5) w1, fin s1 ?_⟩
        show (vars.lookup w1).isSome = _
        cases vars.lookup w1 <;> rfl
      · refine ifT (by decide) ⟨_, rfl, a, _, 1, _, rfl, rfl, sq1, a1, _, rfl, _, rfl, a, _, 0, _, rfl, rfl, sq1, a0, p, _, rfl, g1 (Same.refl _) rfl, co, _, rfl, kd_get (s1 _ _ h4) w1, fin s1 ?_⟩
        show (cols.lookup w1).isSome = _
        cases cols.lookup w1 <;> rfl
      · -- field
        refine ifF (by decide) ⟨_, rfl, a, _, 0, _, rfl, rfl, sq1, a0, _, rfl, fun H2 s2 => ⟨_, rfl, ifF (by decide) ?_⟩⟩
        exact ⟨_, rfl, a, _, 0, _, rfl, rfl, sqT_same s2 sq1, a0, _, rfl, fun H3 s3 => ⟨_, rfl, ifF (by decide) (fin ((s1.trans s2).trans s3) rfl)⟩⟩
      · refine ifF (by decide) ⟨_, rfl, a, _, 0, _, rfl, rfl, sq1, a0, _, rfl, fun H2 s2 => ⟨_, rfl, ifT (by decide) ?_⟩⟩
        exact ⟨_, rfl, a, _, 1, _, rfl, rfl, sqT_same s2 sq1, a1, _, rfl, p, _, rfl, g1 (x := "tables") s2 rfl, ta, _, rfl, DGet.k (k := Sum.inr w1) (s2 _ _ (s1 _ _ h6)), fin (s1.trans s2) rfl⟩
      · refine ifF (by decide) ⟨_, rfl, a, _, 0, _, rfl, rfl, sq1, a0, _, rfl, fun H2 s2 => ⟨_, rfl, ifT (by decide) ?_⟩⟩
        exact ⟨_, rfl, a, _, 1, _, rfl, rfl, sqT_same s2 sq1, a1, _, rfl, p, _, rfl, g1 (x := "tables") s2 rfl, ta, _, rfl, DGet.k (k := Sum.inr w1) (s2 _ _ (s1 _ _ h6)), fin (s1.trans s2) rfl⟩
      · refine ifF (by decide) ⟨_, rfl, a, _, 0, _, rfl, rfl, sq1, a0, _, rfl, fun H2 s2 => ⟨_, rfl, ifT (by decide) ?_⟩⟩
        exact ⟨_, rfl, a, _, 1, _, rfl, rfl, sqT_same s2 sq1, a1, _, rfl, p, _, rfl, g1 (x := "tables") s2 rfl, ta, _, rfl, DGet.k (k := Sum.inr w1) (s2 _ _ (s1 _ _ h6)), fin (s1.trans s2) rfl⟩
      · refine ifF (by decide) ⟨_, rfl, a, _, 0, _, rfl, rfl, sq1, a0, _, rfl, fun H2 s2 => ⟨_, rfl, ifT (by decide) ?_⟩⟩
        exact ⟨_, rfl, a, _, 1, _, rfl, rfl, sqT_same s2 sq1, a1, _, rfl, p, _, rfl, g1 (x := "tables") s2 rfl, ta, _, rfl, DGet.k (k := Sum.inr w1) (s2 _ _ (s1 _ _ h6)), fin (s1.trans s2) rfl⟩
      · -- number
        refine ifF (by decide) ⟨_, rfl, a, _, 0, _, rfl, rfl, sq1, a0, _, rfl, fun H2 s2 => ⟨_, rfl, ifF (by decide) ?_⟩⟩
        refine ⟨_, rfl, a, _, 0, _, rfl, rfl, sqT_same s2 sq1, a0, _, rfl, fun H3 s3 => ⟨_, rfl, ifT (by decide) ?_⟩⟩
        have sq3 := sqT_same (s2.trans s3) sq1
        refine ⟨_, rfl, a, _, 0, _, rfl, rfl, sq3, a0, rfl, _, rfl, ifF (by decide) ?_⟩
        exact ⟨_, rfl, a, _, 1, _, rfl, rfl, sq3, a1, _, rfl, p, _, rfl, g1 (x := "sequences") (s2.trans s3) rfl, sq, [], rfl, .inl (SqL.of ((s2.trans s3) _ _ (s1 _ _ h7))), rfl, rfl, fin ((s1.trans s2).trans s3) rfl⟩
      · -- call
        refine ifF (by decide) ⟨_, rfl, a, _, 0, _, rfl, rfl, sq1, a0, _, rfl, fun H2 s2 => ⟨_, rfl, ifF (by decide) ?_⟩⟩
        exact ⟨_, rfl, a, _, 0, _, rfl, rfl, sqT_same s2 sq1, a0, _, rfl, fun H3 s3 => ⟨_, rfl, ifF (by decide) (fin ((s1.trans s2).trans s3) rfl)⟩⟩
    · simp only [plainHds, List.mem_cons, List.mem_nil_iff, or_false] at hp
      have sq1 := sqT_same s1 hsq
      rcases hp with rfl | rfl | rfl | rfl | rfl <;>
      · refine ifF (by decide) ⟨_, rfl, a, _, 0, _, rfl, rfl, sq1, a0, _, rfl, fun H2 s2 => ⟨_, rfl, ifF (by decide) ?_⟩⟩
        refine ⟨_, rfl, a, _, 0, _, rfl, rfl, sqT_same s2 sq1, a0, _, rfl, fun H3 s3 => ⟨_, rfl, ifT (by decide) ?_⟩⟩
        exact ⟨_, rfl, a, _, 0, _, rfl, rfl, sqT_same (s2.trans s3) sq1, a0, rfl, _, rfl, ifT (by decide) (fin ((s1.trans s2).trans s3) rfl)⟩
    · exact absurd (show ("word" : Str) ∈ handL by decide) hh
    · exact absurd (show ("told" : Str) ∈ handL by decide) hh
abbrev sLSteps : Stmt := top 76
theorem scLSteps : FnScope ["_law_e", "_law_some"] ["_law_e"] (defScope sLSteps) := ⟨rfl, rfl, rfl, by decide +kernel, rfl, by decide +kernel, by decide +kernel⟩
def stepKV (l1 l2 l3 l4 l5 : Addr) : List (Key × V) := [(Sum.inr "op", .ref l1), (Sum.inr "not", .ref l2), (Sum.inr "null", .ref l3), (Sum.inr "case", .ref l4), (Sum.inr "count", .ref l5)]
def stepsV (t : PyData) : List V := (partsM t).map fun p => V.int ((p.1 : Nat) : Int)
def spSteps (K : PySem.W.Frag) : Sp := fun vs H Q _ => ∃ v t, vs = [v] ∧ Dp K H v t ∧ Shape t ∧ ∀ D H', Same H H' → H D = none → H' D = some (.lst (stepsV t)) → Q (.ref D) H'
theorem ok_steps {f : Addr} {fd : FuncData} {k : Nat} (B : Bn7 mg) (F : Fun K "_law_steps" "_law_steps" sLSteps f fd) : FnOk P w K mg base CX0 (k + 1) f fd ["_law_e"] (spSteps K) := by
  refine F.ok scLSteps (fun vs H Q E h => ?_) (fun cdv A outer s H vs Q E hr h => ?_)
  · obtain ⟨v, t, rfl, _⟩ := h
    rfl
  · obtain ⟨v, t, rfl, hd, hsh, q⟩ := h
    have hu1 : (A.deeper (PyProof.Rows.envOfC "_law_steps" (defScope sLSteps) s.heap.objs.size f cdv)).units + 1 < cLine := by have := hr.units; omega
    refine ⟨_, (pss_cons (ps_set (i := 1) scLSteps.nd rfl (Or.inl rfl) (pe_disp (L2.pps_cons pe_str (pe_lst (pa_cons pe_int (pa_cons pe_int pa_nil))) (L2.pps_cons pe_str (pe_lst (pa_cons pe_int pa_nil)) (L2.pps_cons pe_str (pe_lst (pa_cons pe_int pa_nil)) (L2.pps_cons pe_str (pe_lst (pa_cons pe_int (pa_cons pe_int (pa_cons pe_int pa_nil)))) (L2.pps_cons pe_str (pe_lst (pa_cons pe_int pa_nil)) L2.pps_nil))))) (by rfl) (by rfl) (fun z => by cases z) (by decide)))
      (pss_one (ps_ret (pe_dget2 hu1 (pv 1) (pe_ix ix_tup (pv 0) pe_int (fun _ _ => rfl)) (pe_ifExp (pt_cmpR op_eq (pe_callB call_len_seq (by rfl) B.len PySem.boot_len (pa_cons (pv 0) pa_nil)) pe_int (nomark _)) (pe_lst (pa_cons pe_int (pa_cons pe_int pa_nil))) (pe_lst pa_nil)) ⟨rfl, rfl, rfl, rfl⟩)))), ?_⟩
    intro dz hdz
    have s0 := same_new hdz (.dK [])
    refine ⟨(by show 2 ≤ sizeLine; decide), fun l1 hl1 => ⟨(by show 1 ≤ sizeLine; decide), fun l2 hl2 => ⟨(by show 1 ≤ sizeLine; decide), fun l3 hl3 => ⟨(by show 3 ≤ sizeLine; decide), fun l4 hl4 => ⟨(by show 1 ≤ sizeLine; decide), fun l5 hl5 => ?_⟩⟩⟩⟩⟩
    have s1 := same_new hl1 (.lst [.int 2, .int 3])
    have s2 := same_new hl2 (.lst [.int 1])
    have s3 := same_new hl3 (.lst [.int 1])
    have s4 := same_new hl4 (.lst [.int 1, .int 2, .int 3])
    have s5 := same_new hl5 (.lst [.int 2])
    have s15 := (((s1.trans s2).trans s3).trans s4).trans s5
    refine ⟨s15 _ _ upd_same, stepKV l1 l2 l3 l4 l5, rfl, by show 5 ≤ 15; decide, ?_⟩
    have m1 := ((s2.trans s3).trans (s4.trans s5)) _ _ (upd_same : (upd _ l1 (.lst [.int 2, .int 3])) l1 = _)
    have m2 := (s3.trans (s4.trans s5)) _ _ (upd_same : (upd _ l2 (.lst [.int 1])) l2 = _)
    have m3 := (s4.trans s5) _ _ (upd_same : (upd _ l3 (.lst [.int 1])) l3 = _)
    have m4 := s5 _ _ (upd_same : (upd _ l4 (.lst [.int 1, .int 2, .int 3])) l4 = _)
    have d1 : dz ≠ l1 := ne_of_none upd_same hl1
    have d2 : dz ≠ l2 := ne_of_none (s1 _ _ upd_same) hl2
    have d3 : dz ≠ l3 := ne_of_none ((s1.trans s2) _ _ upd_same) hl3
    have d4 : dz ≠ l4 := ne_of_none ((s1.trans (s2.trans s3)) _ _ upd_same) hl4
    have f1 := Same.free s0 hl1
    have f2 := Same.free (s0.trans s1) hl2
    have f3 := Same.free ((s0.trans s1).trans s2) hl3
    have f4 := Same.free (((s0.trans s1).trans s2).trans s3) hl4
    rw [show mergeK [] (stepKV l1 l2 l3 l4 l5) = stepKV l1 l2 l3 l4 l5 from rfl]
    generalize hHb : upd _ dz (.dK (stepKV l1 l2 l3 l4 l5)) = Hb
    have sB : Same H Hb := by rw [← hHb]; exact same_put (s0.trans s15) hdz _
    have k1 : Hb l1 = some (.lst [.int 2, .int 3]) := by rw [← hHb, upd_ne d1.symm]; exact m1
    have k2 : Hb l2 = some (.lst [.int 1]) := by rw [← hHb, upd_ne d2.symm]; exact m2
    have k3 : Hb l3 = some (.lst [.int 1]) := by rw [← hHb, upd_ne d3.symm]; exact m3
    have k4 : Hb l4 = some (.lst [.int 1, .int 2, .int 3]) := by rw [← hHb, upd_ne d4.symm]; exact m4
    have kd : Hb dz = some (.dK (stepKV l1 l2 l3 l4 l5)) := by rw [← hHb]; exact upd_same
    have hdb := dp_same sB _ _ hd
    cases hsh with
    | value d h =>
      cases hdb with
      | @tup a xs _ hsq ha =>
      have hlx := dp_len ha
      cases ha with
      | @cons x xs _ _ p1 p2 =>
      cases p1
      refine ⟨_, rfl, dz, rfl, .inl ⟨_, .inl kd⟩, _, rfl, a, _, 0, _, rfl, rfl, hsq, atI_nat (j := 0) rfl, _, rfl, a, _, rfl, .inr hsq, rfl, _, rfl, ifF (by rw [hlx]; rfl) ⟨Nat.zero_le _, fun D hD => ?_⟩⟩
      have s6 := same_new hD (.lst [])
      exact ⟨_, DGet.k (k := Sum.inr "value") (s6 _ _ kd), q D _ (sB.trans s6) (Same.free sB hD) upd_same⟩
    | var y =>
      cases hdb with
      | @tup a xs _ hsq ha =>
      have hlx := dp_len ha
      cases ha with
      | @cons x xs _ _ p1 p2 =>
      cases p1
      refine ⟨_, rfl, dz, rfl, .inl ⟨_, .inl kd⟩, _, rfl, a, _, 0, _, rfl, rfl, hsq, atI_nat (j := 0) rfl, _, rfl, a, _, rfl, .inr hsq, rfl, _, rfl, ifF (by rw [hlx]; rfl) ⟨Nat.zero_le _, fun D hD => ?_⟩⟩
      have s6 := same_new hD (.lst [])
      exact ⟨_, DGet.k (k := Sum.inr "var") (s6 _ _ kd), q D _ (sB.trans s6) (Same.free sB hD) upd_same⟩
    | col y =>
      cases hdb with
      | @tup a xs _ hsq ha =>
      have hlx := dp_len ha
      cases ha with
      | @cons x xs _ _ p1 p2 =>
      cases p1
      refine ⟨_, rfl, dz, rfl, .inl ⟨_, .inl kd⟩, _, rfl, a, _, 0, _, rfl, rfl, hsq, atI_nat (j := 0) rfl, _, rfl, a, _, rfl, .inr hsq, rfl, _, rfl, ifF (by rw [hlx]; rfl) ⟨Nat.zero_le _, fun D hD => ?_⟩⟩
      have s6 := same_new hD (.lst [])
      exact ⟨_, DGet.k (k := Sum.inr "col") (s6 _ _ kd), q D _ (sB.trans s6) (Same.free sB hD) upd_same⟩
    | not y =>
      cases hdb with
      | @tup a xs _ hsq ha =>
      have hlx := dp_len ha
      cases ha with
      | @cons x xs _ _ p1 p2 =>
      cases p1
      refine ⟨_, rfl, dz, rfl, .inl ⟨_, .inl kd⟩, _, rfl, a, _, 0, _, rfl, rfl, hsq, atI_nat (j := 0) rfl, _, rfl, a, _, rfl, .inr hsq, rfl, _, rfl, ifF (by rw [hlx]; rfl) ⟨Nat.zero_le _, fun D hD => ?_⟩⟩
      have s6 := same_new hD (.lst [])
      exact ⟨_, DGet.k (k := Sum.inr "not") (s6 _ _ kd), q l2 _ (sB.trans s6) f2 (s6 _ _ k2)⟩
    | null y =>
      cases hdb with
      | @tup a xs _ hsq ha =>
      have hlx := dp_len ha
      cases ha with
      | @cons x xs _ _ p1 p2 =>
      cases p1
      refine ⟨_, rfl, dz, rfl, .inl ⟨_, .inl kd⟩, _, rfl, a, _, 0, _, rfl, rfl, hsq, atI_nat (j := 0) rfl, _, rfl, a, _, rfl, .inr hsq, rfl, _, rfl, ifF (by rw [hlx]; rfl) ⟨Nat.zero_le _, fun D hD => ?_⟩⟩
      have s6 := same_new hD (.lst [])
      exact ⟨_, DGet.k (k := Sum.inr "null") (s6 _ _ kd), q l3 _ (sB.trans s6) f3 (s6 _ _ k3)⟩
    | op o y1 y2 ho =>
      cases hdb with
      | @tup a xs _ hsq ha =>
      have hlx := dp_len ha
      cases ha with
      | @cons x xs _ _ p1 p2 =>
      cases p1
      refine ⟨_, rfl, dz, rfl, .inl ⟨_, .inl kd⟩, _, rfl, a, _, 0, _, rfl, rfl, hsq, atI_nat (j := 0) rfl, _, rfl, a, _, rfl, .inr hsq, rfl, _, rfl, ifT (by rw [hlx]; rfl) ⟨(by show 2 ≤ sizeLine; decide), fun D hD => ?_⟩⟩
      have s6 := same_new hD (.lst [.int 2, .int 3])
      exact ⟨_, DGet.k (k := Sum.inr "op") (s6 _ _ kd), q l1 _ (sB.trans s6) f1 (s6 _ _ k1)⟩
    | case y1 y2 y3 =>
      cases hdb with
      | @tup a xs _ hsq ha =>
      have hlx := dp_len ha
      cases ha with
      | @cons x xs _ _ p1 p2 =>
      cases p1
      refine ⟨_, rfl, dz, rfl, .inl ⟨_, .inl kd⟩, _, rfl, a, _, 0, _, rfl, rfl, hsq, atI_nat (j := 0) rfl, _, rfl, a, _, rfl, .inr hsq, rfl, _, rfl, ifT (by rw [hlx]; rfl) ⟨(by show 2 ≤ sizeLine; decide), fun D hD => ?_⟩⟩
      have s6 := same_new hD (.lst [.int 2, .int 3])
      exact ⟨_, DGet.k (k := Sum.inr "case") (s6 _ _ kd), q l4 _ (sB.trans s6) f4 (s6 _ _ k4)⟩
end
end DS
set_option Elab.async false
set_option linter.all false
set_option maxRecDepth 100000
set_option maxHeartbeats 4000000
namespace DS
open PySem L2 PySem.NumText
/-- a list of lists of texts -/
def LWant (H : Hp) (D : Addr) (ls : List (List Str)) : Prop := ∃ rs, H D = some (.lst rs) ∧ Paired (fun r l => ∃ a, r = .ref a ∧ H a = some (.lst (l.map V.str))) rs ls
theorem rep2 {α : Type} (x : α) : (List.replicate (2 : Int).toNat [x]).flatten = [x, x] := rfl
theorem op_rest {o : Str} (h : o ∈ opsL) (hn : o ∉ (["=", "<"] : List Str)) : opKind o = if o ∈ (["and", "or"] : List Str) then "truth" else if o = "join" then "text" else "int" := by
  simp only [opsL, List.mem_cons, List.mem_nil_iff, or_false] at h
  rcases h with rfl | rfl | rfl | rfl | rfl | rfl | rfl | rfl | rfl | rfl <;> first | (exact absurd (by decide) hn) | decide +kernel
section
variable {P : Program} {w : World} {K : PySem.W.Frag} {mg : Str → Option Value} {base : Heap}
abbrev sLWant : Stmt := top 77
theorem scLWant : FnScope ["_law_e", "_law_found_here", "_law_every", "_law_plain_here", "_law_first"] ["_law_e", "_law_found_here"] (defScope sLWant) := ⟨rfl, rfl, rfl, by decide +kernel, rfl, by decide +kernel, by decide +kernel⟩
def spLWant (K : PySem.W.Frag) : Sp := fun vs H Q _ => ∃ v t fa ks, vs = [v, .ref fa] ∧ Dp K H v t ∧ Shape t ∧ H fa = some (.lst (ks.map kdV)) ∧ ks.length = (partsM t).length ∧ ∀ D H', Same H H' → H D = none → LWant H' D (wantM t ks) → Q (.ref D) H'
theorem ok_lwant {f : Addr} {fd : FuncData} {k : Nat} (B : Bn7 mg) (F : Fun K "_law_wanted" "_law_wanted" sLWant f fd) : FnOk P w K mg base CX0 (k + 1) f fd ["_law_e", "_law_found_here"] (spLWant K) := by
  refine F.ok scLWant (fun vs H Q E h => ?_) (fun cdv A outer s H vs Q E hr h => ?_)
  · obtain ⟨v, t, fa, ks, rfl, _⟩ := h
    rfl
  · obtain ⟨v, t, fa, ks, rfl, hd, hsh, hfa, hks, q⟩ := h
    refine ⟨_, (pss_cons (ps_par (i := 2) (j := 3) (by rfl) scLWant.nd rfl rfl (by decide) rfl rfl (pa_cons (pe_lst (pa_cons pe_str (pa_cons pe_str (pa_cons pe_str pa_nil)))) (pa_cons (pe_lst (pa_cons pe_str (pa_cons pe_str pa_nil))) pa_nil)) (by rfl))
      (pss_cons (ps_if (PW.pt (pw_and (pt_cmpR op_eq (pe_ix ix_tup (pv 0) pe_int (fun _ _ => rfl)) pe_str (nomark _)) (pw_and1 (pt_inS (pe_ix ix_tup (pv 0) pe_int (fun _ _ => rfl)) (pa_s (pa_s pa_s0)))))) (pss_cons (ps_set (i := 4) scLWant.nd rfl (Or.inl rfl) (pe_ifExp (pt_cmpR op_eq (pe_ix ix_tup (pv 0) pe_int (fun _ _ => rfl)) pe_str (nomark _)) (pv 2) (pv 3)))
          (pss_one (ps_ret (pe_lst (pa_cons (pv 4) (pa_cons (pe_ifExp (pt_cmp (pc_isN (pe_ix ix_list (pv 1) pe_int (fun _ _ => rfl)))) (pv 4) (pe_lst (pa_cons (pe_ix ix_list (pv 1) pe_int (fun _ _ => rfl)) pa_nil))) pa_nil)))))) pss_nil)
      (pss_cons (ps_if (pt_cmpR op_eq (pe_ix ix_tup (pv 0) pe_int (fun _ _ => rfl)) pe_str (nomark _)) (pss_one (ps_ret (pe_op op_rep (pe_lst (pa_cons (pe_ifExp (pt_inS (pe_ix ix_tup (pv 0) pe_int (fun _ _ => rfl)) (pa_s (pa_s pa_s0))) (pe_lst (pa_cons pe_str pa_nil)) (pe_ifExp (pt_cmpR op_eq (pe_ix ix_tup (pv 0) pe_int (fun _ _ => rfl)) pe_str (nomark _)) (pe_lst (pa_cons pe_str pa_nil)) (pe_lst (pa_cons pe_str pa_nil)))) pa_nil)) pe_int))) pss_nil)
      (pss_cons (ps_if (pt_cmpR op_eq (pe_ix ix_tup (pv 0) pe_int (fun _ _ => rfl)) pe_str (nomark _)) (pss_one (ps_ret (pe_lst (pa_cons (pe_lst (pa_cons pe_str pa_nil)) (pa_cons (pv 2) (pa_cons (pe_ifExp (pt_cmp (pc_isN (pe_ix ix_list (pv 1) pe_int (fun _ _ => rfl)))) (pv 2) (pe_lst (pa_cons (pe_ix ix_list (pv 1) pe_int (fun _ _ => rfl)) pa_nil))) pa_nil)))))) pss_nil)
      (pss_cons (ps_if (pt_inS (pe_ix ix_tup (pv 0) pe_int (fun _ _ => rfl)) (pa_s (pa_s (pa_s pa_s0)))) (pss_one (ps_ret (pe_lst (pa_cons (pe_ifExp (pt_cmpR op_eq (pe_ix ix_tup (pv 0) pe_int (fun _ _ => rfl)) pe_str (nomark _)) (pe_lst (pa_cons pe_str pa_nil)) (pv 3)) (pa_cons (pe_lst (pa_cons pe_str pa_nil)) pa_nil))))) pss_nil)
      (pss_one (ps_ret (pe_op op_rep (pe_lst (pa_cons (pe_ifExp (pt_cmpR op_eq (pe_ix ix_tup (pv 0) pe_int (fun _ _ => rfl)) pe_str (nomark _)) (pv 2) (pe_lst (pa_cons pe_str pa_nil))) pa_nil)) (pe_callB call_len_seq (by rfl) B.len PySem.boot_len (pa_cons (pv 1) pa_nil)))))))))), ?_⟩
    refine ⟨(by show 3 ≤ sizeLine; decide), fun le hle => ⟨(by show 2 ≤ sizeLine; decide), fun lp hlp => ⟨_, _, rfl, ?_⟩⟩⟩
    have s1 := same_new hle (.lst [.str "int", .str "text", .str "truth"])
    have s2 := same_new hlp (.lst [.str "int", .str "text"])
    generalize hH0 : upd (upd H le (.lst [.str "int", .str "text", .str "truth"])) lp (.lst [.str "int", .str "text"]) = H0
    have m1 : H0 le = some (.lst (kindsL.map V.str)) := by rw [← hH0]; exact s2 _ _ upd_same
    have m2 : H0 lp = some (.lst ((["int", "text"] : List Str).map V.str)) := by rw [← hH0]; exact upd_same
    have s0 : Same H H0 := by rw [← hH0]; exact s1.trans s2
    have hfa0 := s0 _ _ hfa
    have hd0 := dp_same s0 _ _ hd
    have fin : ∀ {D : Addr} {H' : Hp} {ls : List (List Str)}, wantM t ks = ls → Same H0 H' → H0 D = none → LWant H' D ls → Q (.ref D) H' := fun {D H' ls} e s hD hW => q D H' (s0.trans s) (Same.free s0 hD) (by rw [e]; exact hW)
    have hlk : (ks.map kdV).length = (partsM t).length := by rw [List.length_map]; exact hks
    by_cases hrest : ∃ z ds, t = .tuple (.str z :: ds) ∧ z ∉ (["op", "case", "sum", "least", "most"] : List Str) ∧ (partsM t).length ≤ 1
    · obtain ⟨z, ds, rfl, hz, hl⟩ := hrest
      simp only [List.mem_cons, List.mem_nil_iff, or_false, not_or] at hz
      obtain ⟨z1, z2, z3, z4, z5⟩ := hz
      cases hd0 with
      | @tup a xs _ hsq ha =>
      cases ha with
      | @cons x xs _ _ p1 p2 =>
      cases p1
      have a0 : atI (V.str z :: xs) 0 = some (V.str z) := atI_nat (j := 0) rfl
      refine ⟨_, rfl, a, _, 0, _, rfl, rfl, hsq, a0, rfl, _, rfl, ifF (neS z1) (iteF ?_)⟩
      refine ⟨_, rfl, a, _, 0, _, rfl, rfl, hsq, a0, rfl, _, rfl, ifF (neS z1) ?_⟩
      refine ⟨_, rfl, a, _, 0, _, rfl, rfl, hsq, a0, rfl, _, rfl, ifF (neS z2) ?_⟩
      refine ⟨_, rfl, a, _, 0, _, rfl, rfl, hsq, a0, z, rfl, fun H1 t1 => ⟨_, rfl, ifF (decide_eq_false (by simp [z3, z4, z5])) ?_⟩⟩
      refine ⟨_, rfl, a, _, 0, _, rfl, rfl, sqT_same t1 hsq, a0, rfl, _, rfl, ?_⟩
      by_cases zn : z = "null"
      · subst zn
        have hl1 : ks.length = 1 := hks
        obtain ⟨k1, rfl⟩ := len1 hl1
        refine ifT (eqS _) ⟨_, rfl, (by show 1 ≤ sizeLine; decide), fun L hL => ⟨_, rfl, fa, _, rfl, .inl (SqL.of ((t1.trans (same_new hL _)) _ _ hfa0)), L, _, [.ref le], rfl, rfl, upd_same, by simp, by simp, by simp; exact small (by omega), fun D hD => ?_⟩⟩
        have s3 := same_new hL (.lst [.ref le])
        have s4 := same_new hD (.lst [.ref le])
        exact fin (ls := [kindsL]) rfl (t1.trans (s3.trans s4)) (Same.free (t1.trans s3) hD) ⟨_, upd_same, .cons ⟨le, rfl, (t1.trans (s3.trans s4)) _ _ m1⟩ .nil⟩
      · refine ifF (neS zn) ⟨(by show 1 ≤ sizeLine; decide), fun l1 hl1 => ⟨(by show 1 ≤ sizeLine; decide), fun L hL => ?_⟩⟩
        have s2 := same_new hl1 (.lst [.str "truth"])
        have s3 := same_new hL (.lst [.ref l1])
        refine ⟨_, rfl, fa, _, rfl, .inl (SqL.of ((t1.trans (s2.trans s3)) _ _ hfa0)), L, _, [.ref l1], rfl, rfl, upd_same, by omega, by rw [hlk]; omega, ?_, fun D hD => ?_⟩
        · rw [hlk]
          have := small' (n := 1) (by omega)
          simp; omega
        have s4 := same_new hD (.lst (List.replicate (((ks.map kdV).length : Int)).toNat [V.ref l1]).flatten)
        have hw : wantM (.tuple (.str z :: ds)) ks = ks.map fun _ => ([("truth" : Str)] : List Str) := by
          unfold wantM
          rw [if_neg (show ¬ headM (.tuple (.str z :: ds)) = "op" from z1), if_neg (show ¬ headM (.tuple (.str z :: ds)) = "case" from z2), if_neg (show ¬ headM (.tuple (.str z :: ds)) = "null" from zn)]
        refine fin hw (t1.trans (s2.trans (s3.trans s4))) (Same.free (t1.trans (s2.trans s3)) hD) ⟨_, upd_same, ?_⟩

        match ks, (by omega : ks.length ≤ 1) with
        | [], _ => exact .nil
        | [k1], _ => exact .cons ⟨l1, rfl, s4 _ _ (s3 _ _ upd_same)⟩ .nil
    · cases hsh with
      | value d h => exact absurd ⟨_, _, rfl, by decide, Nat.zero_le _⟩ hrest
      | var x => exact absurd ⟨_, _, rfl, by decide, Nat.zero_le _⟩ hrest
      | col x => exact absurd ⟨_, _, rfl, by decide, Nat.zero_le _⟩ hrest
      | not a => exact absurd ⟨_, _, rfl, by decide, Nat.le_refl _⟩ hrest
      | null a => exact absurd ⟨_, _, rfl, by decide, Nat.le_refl _⟩ hrest
      | op o d1 d2 ho =>
        cases hd0 with
        | @tup a xs _ hsq ha =>
        cases ha with
        | @cons x xs _ _ p1 p2 =>
        cases p1
        cases p2 with
        | @cons x xs _ _ p3 p4 =>
        cases p3
        obtain ⟨k1, k2, rfl⟩ : ∃ k1 k2, ks = [k1, k2] := by
          match ks, hks with
          | [k1, k2], _ => exact ⟨k1, k2, rfl⟩
        have a0 : atI (V.str "op" :: V.str o :: xs) 0 = some (V.str "op") := atI_nat (j := 0) rfl
        have a1 : atI (V.str "op" :: V.str o :: xs) 1 = some (V.str o) := atI_nat (j := 1) rfl
        have f0 : atI ([k1, k2].map kdV) 0 = some (kdV k1) := atI_nat (j := 0) rfl
        refine ⟨_, rfl, a, _, 0, _, rfl, rfl, hsq, a0, rfl, _, rfl, ifT (eqS _) ⟨_, rfl, a, _, 1, _, rfl, rfl, hsq, a1, o, rfl, fun H1 t1 => ⟨_, rfl, ?_⟩⟩⟩
        have sq1 := sqT_same t1 hsq
        have fa1 := t1 _ _ hfa0
        by_cases hc : o ∈ (["=", "<"] : List Str)
        · refine ifT (decide_eq_true hc) ?_
          simp only [List.mem_cons, List.mem_nil_iff, or_false] at hc
          rcases hc with rfl | rfl
          · refine ⟨_, rfl, a, _, 1, _, rfl, rfl, sq1, a1, rfl, _, rfl, ifT (eqS _) ⟨_, rfl, ?_⟩⟩
            refine ⟨_, rfl, _, rfl, fa, _, 0, _, rfl, rfl, SqL.of fa1, f0, _, rfl, ?_⟩
            cases k1 with
            | none =>
              refine iteT ⟨_, rfl, (by show 2 ≤ sizeLine; decide), fun D hD => ?_⟩
              have sD := t1.trans (same_new hD (.lst [.ref le, .ref le]))
              exact fin (ls := [kindsL, kindsL]) rfl sD (Same.free t1 hD) ⟨_, upd_same, .cons ⟨le, rfl, sD _ _ m1⟩ (.cons ⟨le, rfl, sD _ _ m1⟩ .nil)⟩
            | some y =>
              refine iteF ⟨_, rfl, fa, _, 0, _, rfl, rfl, SqL.of fa1, f0, (by show 1 ≤ sizeLine; decide), fun l1 hl1 => ⟨(by show 2 ≤ sizeLine; decide), fun D hD => ?_⟩⟩
              have s3 := same_new hl1 (.lst [.str y])
              have s4 := same_new hD (.lst [.ref le, .ref l1])
              have sD := t1.trans (s3.trans s4)
              exact fin (ls := [kindsL, [y]]) rfl sD (Same.free (t1.trans s3) hD) ⟨_, upd_same, .cons ⟨le, rfl, sD _ _ m1⟩ (.cons ⟨l1, rfl, s4 _ _ upd_same⟩ .nil)⟩
          · refine ⟨_, rfl, a, _, 1, _, rfl, rfl, sq1, a1, rfl, _, rfl, ifF (neS (by decide)) ⟨_, rfl, ?_⟩⟩
            refine ⟨_, rfl, _, rfl, fa, _, 0, _, rfl, rfl, SqL.of fa1, f0, _, rfl, ?_⟩
            cases k1 with
            | none =>
              refine iteT ⟨_, rfl, (by show 2 ≤ sizeLine; decide), fun D hD => ?_⟩
              have sD := t1.trans (same_new hD (.lst [.ref lp, .ref lp]))
              exact fin (ls := [["int", "text"], ["int", "text"]]) rfl sD (Same.free t1 hD) ⟨_, upd_same, .cons ⟨lp, rfl, sD _ _ m2⟩ (.cons ⟨lp, rfl, sD _ _ m2⟩ .nil)⟩
            | some y =>
              refine iteF ⟨_, rfl, fa, _, 0, _, rfl, rfl, SqL.of fa1, f0, (by show 1 ≤ sizeLine; decide), fun l1 hl1 => ⟨(by show 2 ≤ sizeLine; decide), fun D hD => ?_⟩⟩
              have s3 := same_new hl1 (.lst [.str y])
              have s4 := same_new hD (.lst [.ref lp, .ref l1])
              have sD := t1.trans (s3.trans s4)
              exact fin (ls := [["int", "text"], [y]]) rfl sD (Same.free (t1.trans s3) hD) ⟨_, upd_same, .cons ⟨lp, rfl, sD _ _ m2⟩ (.cons ⟨l1, rfl, s4 _ _ upd_same⟩ .nil)⟩
        · refine ifF (decide_eq_false hc) ⟨_, rfl, a, _, 0, _, rfl, rfl, sq1, a0, rfl, _, rfl, ifT (eqS _) ?_⟩
          have n1 : o ≠ "=" := fun e => hc (by rw [e]; decide)
          have n2 : o ≠ "<" := fun e => hc (by rw [e]; decide)
          refine ⟨_, rfl, a, _, 1, _, rfl, rfl, sq1, a1, o, rfl, fun H2 t2 => ⟨_, rfl, ?_⟩⟩
          by_cases ha : o ∈ (["and", "or"] : List Str)
          · refine ifT (decide_eq_true ha) ?_
            refine ⟨(by show 1 ≤ sizeLine; decide), fun l1 hl1 => ⟨(by show 1 ≤ sizeLine; decide), fun L hL => ⟨L, 2, [.ref l1], rfl, rfl, upd_same, by decide, by decide, small (by show 1 * 2 ≤ 16777216; decide), fun D hD => ?_⟩⟩⟩
            have s3 := same_new hl1 (.lst [.str "truth"])
            have s4 := same_new hL (.lst [.ref l1])
            have s5 := same_new hD (.lst [.ref l1, .ref l1])
            exact fin (ls := [["truth"], ["truth"]]) (by rw [want_op n1 n2, op_rest ho hc, if_pos ha]) ((t1.trans t2).trans ((s3.trans s4).trans s5)) (Same.free ((t1.trans t2).trans (s3.trans s4)) hD) ⟨_, upd_same, .cons ⟨l1, rfl, s5 _ _ (s4 _ _ upd_same)⟩ (.cons ⟨l1, rfl, s5 _ _ (s4 _ _ upd_same)⟩ .nil)⟩
          · refine ifF (decide_eq_false ha) ⟨_, rfl, a, _, 1, _, rfl, rfl, sqT_same t2 sq1, a1, rfl, _, rfl, ?_⟩
            by_cases hj : o = "join"
            · refine ifT (by rw [hj]; exact eqS _) ?_
              refine ⟨(by show 1 ≤ sizeLine; decide), fun l1 hl1 => ⟨(by show 1 ≤ sizeLine; decide), fun L hL => ⟨L, 2, [.ref l1], rfl, rfl, upd_same, by decide, by decide, small (by show 1 * 2 ≤ 16777216; decide), fun D hD => ?_⟩⟩⟩
              have s3 := same_new hl1 (.lst [.str "text"])
              have s4 := same_new hL (.lst [.ref l1])
              have s5 := same_new hD (.lst [.ref l1, .ref l1])
              exact fin (ls := [["text"], ["text"]]) (by rw [want_op n1 n2, op_rest ho hc, if_neg ha, if_pos hj]) ((t1.trans t2).trans ((s3.trans s4).trans s5)) (Same.free ((t1.trans t2).trans (s3.trans s4)) hD) ⟨_, upd_same, .cons ⟨l1, rfl, s5 _ _ (s4 _ _ upd_same)⟩ (.cons ⟨l1, rfl, s5 _ _ (s4 _ _ upd_same)⟩ .nil)⟩
            · refine ifF (neS hj) ?_
              refine ⟨(by show 1 ≤ sizeLine; decide), fun l1 hl1 => ⟨(by show 1 ≤ sizeLine; decide), fun L hL => ⟨L, 2, [.ref l1], rfl, rfl, upd_same, by decide, by decide, small (by show 1 * 2 ≤ 16777216; decide), fun D hD => ?_⟩⟩⟩
              have s3 := same_new hl1 (.lst [.str "int"])
              have s4 := same_new hL (.lst [.ref l1])
              have s5 := same_new hD (.lst [.ref l1, .ref l1])
              exact fin (ls := [["int"], ["int"]]) (by rw [want_op n1 n2, op_rest ho hc, if_neg ha, if_neg hj]) ((t1.trans t2).trans ((s3.trans s4).trans s5)) (Same.free ((t1.trans t2).trans (s3.trans s4)) hD) ⟨_, upd_same, .cons ⟨l1, rfl, s5 _ _ (s4 _ _ upd_same)⟩ (.cons ⟨l1, rfl, s5 _ _ (s4 _ _ upd_same)⟩ .nil)⟩
      | case c d1 d2 =>
        cases hd0 with
        | @tup a xs _ hsq ha =>
        cases ha with
        | @cons x xs _ _ p1 p2 =>
        cases p1
        obtain ⟨k1, k2, k3, rfl⟩ : ∃ k1 k2 k3, ks = [k1, k2, k3] := by
          match ks, hks with
          | [k1, k2, k3], _ => exact ⟨k1, k2, k3, rfl⟩
        have a0 : atI (V.str "case" :: xs) 0 = some (V.str "case") := atI_nat (j := 0) rfl
        have f1 : atI ([k1, k2, k3].map kdV) 1 = some (kdV k2) := atI_nat (j := 1) rfl
        refine ⟨_, rfl, a, _, 0, _, rfl, rfl, hsq, a0, rfl, _, rfl, ifF (neS (by decide)) (iteF ?_)⟩
        refine ⟨_, rfl, a, _, 0, _, rfl, rfl, hsq, a0, rfl, _, rfl, ifF (neS (by decide)) ?_⟩
        refine ⟨_, rfl, a, _, 0, _, rfl, rfl, hsq, a0, rfl, _, rfl, ifT (eqS _) ?_⟩
        refine ⟨(by show 1 ≤ sizeLine; decide), fun l1 hl1 => ?_⟩
        have s3 := same_new hl1 (.lst [.str "truth"])
        refine ⟨_, rfl, _, rfl, fa, _, 1, _, rfl, rfl, SqL.of (s3 _ _ hfa0), f1, _, rfl, ?_⟩
        cases k2 with
        | none =>
          refine iteT ⟨_, rfl, (by show 3 ≤ sizeLine; decide), fun D hD => ?_⟩
          have s4 := same_new hD (.lst [.ref l1, .ref le, .ref le])
          have sD := s3.trans s4
          exact fin (ls := [["truth"], kindsL, kindsL]) rfl sD (Same.free s3 hD) ⟨_, upd_same, .cons ⟨l1, rfl, s4 _ _ upd_same⟩ (.cons ⟨le, rfl, sD _ _ m1⟩ (.cons ⟨le, rfl, sD _ _ m1⟩ .nil))⟩
        | some y =>
          refine iteF ⟨_, rfl, fa, _, 1, _, rfl, rfl, SqL.of (s3 _ _ hfa0), f1, (by show 1 ≤ sizeLine; decide), fun l2 hl2 => ⟨(by show 3 ≤ sizeLine; decide), fun D hD => ?_⟩⟩
          have s4 := same_new hl2 (.lst [.str y])
          have s5 := same_new hD (.lst [.ref l1, .ref le, .ref l2])
          have sD := s3.trans (s4.trans s5)
          exact fin (ls := [["truth"], kindsL, [y]]) rfl sD (Same.free (s3.trans s4) hD) ⟨_, upd_same, .cons ⟨l1, rfl, (s4.trans s5) _ _ upd_same⟩ (.cons ⟨le, rfl, sD _ _ m1⟩ (.cons ⟨l2, rfl, s5 _ _ upd_same⟩ .nil))⟩
end
end DS
set_option Elab.async false
set_option linter.all false
set_option maxRecDepth 100000
set_option maxHeartbeats 4000000
namespace DS
open PySem L2 PySem.NumText
theorem lk_kd {d : PyData} (h : isValM d = true) : lkM d = kdV (kvM d) := by
  have gen : ∀ o : Option Str, o.isSome = true → V.str (o.getD "") = kdV o := fun o h => by
    cases o with
    | none => cases h
    | some y => rfl
  cases d with
  | none => rfl
  | bool b => exact gen _ h
  | int i => exact gen _ h
  | str x => exact gen _ h
  | list x => exact gen _ h
  | tuple x => exact gen _ h
  | dict x => exact gen _ h
section
variable {P : Program} {w : World} {K : PySem.W.Frag} {mg : Str → Option Value} {base : Heap}
abbrev sLOwn : Stmt := top 78
theorem scLOwn : FnScope ["_law_e", "_law_found_here", "_law_place"] ["_law_e", "_law_found_here", "_law_place"] (defScope sLOwn) := ⟨rfl, rfl, rfl, by decide +kernel, rfl, by decide +kernel, by decide +kernel⟩
def spLOwn (K : PySem.W.Frag) (cols vars : Kinds) : Sp := fun vs H Q _ => ∃ v t fa ks p, vs = [v, .ref fa, .ref p] ∧ Dp K H v t ∧ good t ∧ short t ∧ nodeM cols vars t = none ∧ H fa = some (.lst (ks.map kdV)) ∧ ks.length = (partsM t).length ∧ PlaceAt cols vars H p ∧ ∀ H', Same H H' → Q (kdV (ownM cols vars t ks)) H'
theorem ok_lown {f : Addr} {fd : FuncData} {k : Nat} {cols vars : Kinds} (D1 : Cal P w K mg base CX0 2 "_law_kind_of" ["_law_thing"] [] (spD K (fun _ => True) lkM)) (F : Fun K "_law_own_kind" "_law_own_kind" sLOwn f fd) : FnOk P w K mg base CX0 (k + 3) f fd ["_law_e", "_law_found_here", "_law_place"] (spLOwn K cols vars) := by
  obtain ⟨f1, fd1, ds1, e1, k1, v1, b1, G1⟩ := D1.ex
  refine F.ok scLOwn (fun vs H Q E h => ?_) (fun cdv A outer s H vs Q E hr h => ?_)
  · obtain ⟨v, t, fa, ks, p, rfl, _⟩ := h
    rfl
  · obtain ⟨v, t, fa, ks, p, rfl, hd, hg, hs, hn, hfa, hks, hP, q⟩ := h
    have hu1 : (A.deeper (PyProof.Rows.envOfC "_law_own_kind" (defScope sLOwn) s.heap.objs.size f cdv)).units + 1 < cLine := by have := hr.units; omega
    refine ⟨_, (pss_cons (ps_if (pt_inS (pe_ix ix_tup (pv 0) pe_int (fun _ _ => rfl)) (pa_s (pa_s (pa_s pa_s0)))) (pss_one (ps_ret (pe_ifExp (pt_cmpR op_eq (pe_ix ix_tup (pv 0) pe_int (fun _ _ => rfl)) pe_str (nomark _)) (pe_call G1 (hr.mono (by omega)) rfl e1 k1 b1 v1 pass0 (pa_cons (pe_ix ix_tup (pv 0) pe_int (fun _ _ => rfl)) pa_nil)) (pe_dget hu1 (pe_dget hu1 (pv 2) (pe_ix ix_tup (pv 0) pe_int (fun _ _ => rfl)) (fun _ _ => rfl)) (pe_ix ix_tup (pv 0) pe_int (fun _ _ => rfl)) (fun _ _ => rfl))))) pss_nil)
      (pss_cons (ps_if (pt_cmpR op_eq (pe_ix ix_tup (pv 0) pe_int (fun _ _ => rfl)) pe_str (nomark _)) (pss_one (ps_ret (pe_ifExp (pt_inS (pe_ix ix_tup (pv 0) pe_int (fun _ _ => rfl)) (pa_s (pa_s (pa_s (pa_s (pa_s pa_s0)))))) pe_str (pe_ifExp (pt_cmpR op_eq (pe_ix ix_tup (pv 0) pe_int (fun _ _ => rfl)) pe_str (nomark _)) pe_str pe_str)))) pss_nil)
      (pss_cons (ps_if (pt_cmpR op_eq (pe_ix ix_tup (pv 0) pe_int (fun _ _ => rfl)) pe_str (nomark _)) (pss_one (ps_ret (pe_ifExp (pt_cmp (pc_isN (pe_ix ix_list (pv 1) pe_int (fun _ _ => rfl)))) (pe_ix ix_list (pv 1) pe_int (fun _ _ => rfl)) (pe_ix ix_list (pv 1) pe_int (fun _ _ => rfl))))) pss_nil)
      (pss_cons (ps_if (pt_inS (pe_ix ix_tup (pv 0) pe_int (fun _ _ => rfl)) (pa_s (pa_s pa_s0))) (pss_one (ps_ret (pe_ix ix_list (pv 1) pe_int (fun _ _ => rfl)))) pss_nil)
      (pss_one (ps_ret (pe_ifExp (pt_inS (pe_ix ix_tup (pv 0) pe_int (fun _ _ => rfl)) (pa_s (pa_s (pa_s pa_s0)))) pe_str pe_str))))))), ?_⟩
    obtain ⟨hf, hhd, hth⟩ := node_none hn
    have hsh := shape_of hf hhd
    obtain ⟨ka, sh, co, va, ta, sq, h1, h2, h3, h4, h5, h6, h7⟩ := hP.ex
    have g1 : ∀ {H' : Hp} {x : Str} {b : Addr}, Same H H' → valV (placeK ka sh co va ta sq) (Sum.inr x) = some (.ref b) → DGet H' p (.str x) (some (.ref b)) := fun {H' x b} s9 e => by
      have := DGet.k (k := Sum.inr x) (s9 _ _ h1)
      rw [e] at this
      exact this
    cases hsh with
    | value d hv =>
      cases hd with
      | @tup a xs _ hsq ha =>
      cases ha with
      | @cons x xs _ _ p1 p2 =>
      cases p1
      cases p2 with
      | @cons x xs _ _ p3 p4 =>
      have a0 : atI (V.str "value" :: x :: xs) 0 = some (V.str "value") := atI_nat (j := 0) rfl
      have a1 : atI (V.str "value" :: x :: xs) 1 = some x := atI_nat (j := 1) rfl
      refine ⟨_, rfl, a, _, 0, _, rfl, rfl, hsq, a0, _, rfl, fun H1 t1 => ⟨_, rfl, ifT (by decide) ?_⟩⟩
      have sq1 := sqT_same t1 hsq
      refine ⟨_, rfl, a, _, 0, _, rfl, rfl, sq1, a0, rfl, _, rfl, ifT (eqS _) ?_⟩
      have hg2 : good d := by simp only [good, goodAll] at hg; exact hg.2.1
      have hs2 : short d := by simp only [short, shortAll] at hs; exact hs.1.2.1
      refine ⟨_, rfl, a, _, 1, _, rfl, rfl, sq1, a1, x, d, rfl, dp_same t1 _ _ p3, hg2, hs2, trivial, fun H2 t2 => ?_⟩
      rw [lk_kd hv]
      exact q H2 (t1.trans t2)
    | var y =>
      cases hd with
      | @tup a xs _ hsq ha =>
      cases ha with
      | @cons x xs _ _ p1 p2 =>
      cases p1
      cases p2 with
      | @cons x xs _ _ p3 p4 =>
      cases p3
      have a0 : atI (V.str "var" :: V.str y :: xs) 0 = some (V.str "var") := atI_nat (j := 0) rfl
      have a1 : atI (V.str "var" :: V.str y :: xs) 1 = some (V.str y) := atI_nat (j := 1) rfl
      refine ⟨_, rfl, a, _, 0, _, rfl, rfl, hsq, a0, _, rfl, fun H1 t1 => ⟨_, rfl, ifT (by decide) ?_⟩⟩
      have sq1 := sqT_same t1 hsq
      refine ⟨_, rfl, a, _, 0, _, rfl, rfl, sq1, a0, rfl, _, rfl, ifF (neS (by decide)) ?_⟩
      have hth : (vars.lookup y).isSome = true := hth
      obtain ⟨kk, ek⟩ := Option.isSome_iff_exists.mp hth
      have hge := kd_get (t1 _ _ h5) y
      rw [ek] at hge
      refine ⟨_, rfl, _, rfl, a, _, 0, _, rfl, rfl, sq1, a0, p, _, rfl, g1 t1 rfl, _, rfl, a, _, 1, _, rfl, rfl, sq1, a1, va, _, rfl, hge, ?_⟩
      have := q H1 t1
      rw [show ownM cols vars (.tuple [.str "var", .str y]) ks = vars.lookup y from rfl, ek] at this
      exact this
    | col y =>
      cases hd with
      | @tup a xs _ hsq ha =>
      cases ha with
      | @cons x xs _ _ p1 p2 =>
      cases p1
      cases p2 with
      | @cons x xs _ _ p3 p4 =>
      cases p3
      have a0 : atI (V.str "col" :: V.str y :: xs) 0 = some (V.str "col") := atI_nat (j := 0) rfl
      have a1 : atI (V.str "col" :: V.str y :: xs) 1 = some (V.str y) := atI_nat (j := 1) rfl
      refine ⟨_, rfl, a, _, 0, _, rfl, rfl, hsq, a0, _, rfl, fun H1 t1 => ⟨_, rfl, ifT (by decide) ?_⟩⟩
      have sq1 := sqT_same t1 hsq
      refine ⟨_, rfl, a, _, 0, _, rfl, rfl, sq1, a0, rfl, _, rfl, ifF (neS (by decide)) ?_⟩
      have hth : (cols.lookup y).isSome = true := hth
      obtain ⟨kk, ek⟩ := Option.isSome_iff_exists.mp hth
      have hge := kd_get (t1 _ _ h4) y
      rw [ek] at hge
      refine ⟨_, rfl, _, rfl, a, _, 0, _, rfl, rfl, sq1, a0, p, _, rfl, g1 t1 rfl, _, rfl, a, _, 1, _, rfl, rfl, sq1, a1, co, _, rfl, hge, ?_⟩
      have := q H1 t1
      rw [show ownM cols vars (.tuple [.str "col", .str y]) ks = cols.lookup y from rfl, ek] at this
      exact this
    | op o d1 d2 ho =>
      cases hd with
      | @tup a xs _ hsq ha =>
      cases ha with
      | @cons x xs _ _ p1 p2 =>
      cases p1
      cases p2 with
      | @cons x xs _ _ p3 p4 =>
      cases p3
      have a0 : atI (V.str "op" :: V.str o :: xs) 0 = some (V.str "op") := atI_nat (j := 0) rfl
      have a1 : atI (V.str "op" :: V.str o :: xs) 1 = some (V.str o) := atI_nat (j := 1) rfl
      refine ⟨_, rfl, a, _, 0, _, rfl, rfl, hsq, a0, _, rfl, fun H1 t1 => ⟨_, rfl, ifF (by decide) ?_⟩⟩
      have sq1 := sqT_same t1 hsq
      refine ⟨_, rfl, a, _, 0, _, rfl, rfl, sq1, a0, rfl, _, rfl, ifT (eqS _) ?_⟩
      have fin : ∀ {y : Str} {H' : Hp}, opKind o = y → Same H H' → Q (.str y) H' := fun e s => by have := q _ s; rw [show ownM cols vars (.tuple [.str "op", .str o, d1, d2]) ks = some (opKind o) from rfl, e] at this; exact this
      refine ⟨_, rfl, a, _, 1, _, rfl, rfl, sq1, a1, o, rfl, fun H2 t2 => ⟨_, rfl, ?_⟩⟩
      by_cases ha : o ∈ arithL
      · exact ifT (decide_eq_true ha) (fin (if_pos ha) (t1.trans t2))
      · refine ifF (decide_eq_false ha) ⟨_, rfl, a, _, 1, _, rfl, rfl, sqT_same t2 sq1, a1, rfl, _, rfl, ?_⟩
        by_cases hj : o = "join"
        · exact ifT (by rw [hj]; exact eqS _) (fin (by unfold opKind; rw [if_neg ha, if_pos hj]) (t1.trans t2))
        · exact ifF (neS hj) (fin (by unfold opKind; rw [if_neg ha, if_neg hj]) (t1.trans t2))
    | case c d1 d2 =>
      cases hd with
      | @tup a xs _ hsq ha =>
      cases ha with
      | @cons x xs _ _ p1 p2 =>
      cases p1
      obtain ⟨k1, k2, k3, rfl⟩ : ∃ k1 k2 k3, ks = [k1, k2, k3] := by
        match ks, hks with
        | [k1, k2, k3], _ => exact ⟨k1, k2, k3, rfl⟩
      have a0 : atI (V.str "case" :: xs) 0 = some (V.str "case") := atI_nat (j := 0) rfl
      have f1 : atI ([k1, k2, k3].map kdV) 1 = some (kdV k2) := atI_nat (j := 1) rfl
      have f2 : atI ([k1, k2, k3].map kdV) 2 = some (kdV k3) := atI_nat (j := 2) rfl
      refine ⟨_, rfl, a, _, 0, _, rfl, rfl, hsq, a0, _, rfl, fun H1 t1 => ⟨_, rfl, ifF (by decide) ?_⟩⟩
      have sq1 := sqT_same t1 hsq
      refine ⟨_, rfl, a, _, 0, _, rfl, rfl, sq1, a0, rfl, _, rfl, ifF (neS (by decide)) ?_⟩
      refine ⟨_, rfl, a, _, 0, _, rfl, rfl, sq1, a0, rfl, _, rfl, ifT (eqS _) ?_⟩
      refine ⟨_, rfl, fa, _, 1, _, rfl, rfl, SqL.of (t1 _ _ hfa), f1, _, rfl, ?_⟩
      cases k2 with
      | none => exact iteT ⟨_, rfl, fa, _, 2, _, rfl, rfl, SqL.of (t1 _ _ hfa), f2, q H1 t1⟩
      | some y => exact iteF ⟨_, rfl, fa, _, 1, _, rfl, rfl, SqL.of (t1 _ _ hfa), f1, q H1 t1⟩
    | not d1 =>
      cases hd with
      | @tup a xs _ hsq ha =>
      cases ha with
      | @cons x xs _ _ p1 p2 =>
      cases p1
      have a0 : atI (V.str "not" :: xs) 0 = some (V.str "not") := atI_nat (j := 0) rfl
      refine ⟨_, rfl, a, _, 0, _, rfl, rfl, hsq, a0, _, rfl, fun H1 t1 => ⟨_, rfl, ifF (by decide) ?_⟩⟩
      have sq1 := sqT_same t1 hsq
      refine ⟨_, rfl, a, _, 0, _, rfl, rfl, sq1, a0, rfl, _, rfl, ifF (neS (by decide)) ?_⟩
      refine ⟨_, rfl, a, _, 0, _, rfl, rfl, sq1, a0, rfl, _, rfl, ifF (neS (by decide)) ?_⟩
      refine ⟨_, rfl, a, _, 0, _, rfl, rfl, sq1, a0, _, rfl, fun H2 t2 => ⟨_, rfl, ifF (by decide) ?_⟩⟩
      exact ⟨_, rfl, a, _, 0, _, rfl, rfl, sqT_same t2 sq1, a0, _, rfl, fun H3 t3 => ⟨_, rfl, ifF (by decide) (q H3 ((t1.trans t2).trans t3))⟩⟩
    | null d1 =>
      cases hd with
      | @tup a xs _ hsq ha =>
      cases ha with
      | @cons x xs _ _ p1 p2 =>
      cases p1
      have a0 : atI (V.str "null" :: xs) 0 = some (V.str "null") := atI_nat (j := 0) rfl
      refine ⟨_, rfl, a, _, 0, _, rfl, rfl, hsq, a0, _, rfl, fun H1 t1 => ⟨_, rfl, ifF (by decide) ?_⟩⟩
      have sq1 := sqT_same t1 hsq
      refine ⟨_, rfl, a, _, 0, _, rfl, rfl, sq1, a0, rfl, _, rfl, ifF (neS (by decide)) ?_⟩
      refine ⟨_, rfl, a, _, 0, _, rfl, rfl, sq1, a0, rfl, _, rfl, ifF (neS (by decide)) ?_⟩
      refine ⟨_, rfl, a, _, 0, _, rfl, rfl, sq1, a0, _, rfl, fun H2 t2 => ⟨_, rfl, ifF (by decide) ?_⟩⟩
      exact ⟨_, rfl, a, _, 0, _, rfl, rfl, sqT_same t2 sq1, a0, _, rfl, fun H3 t3 => ⟨_, rfl, ifF (by decide) (q H3 ((t1.trans t2).trans t3))⟩⟩
end
end DS
set_option Elab.async false
set_option linter.all false
set_option maxRecDepth 100000
set_option maxHeartbeats 4000000
namespace DS
open PySem L2 PySem.NumText
def kdD : Option Str → PyData
  | none => .none
  | some x => .str x
def pathD (l : List Nat) : PyData := .tuple (l.map fun (n : Nat) => PyData.int (n : Int))
/-- what the law hands back -/
def resD : Res7 → PyData
  | .ok k => .tuple [.str "", kdD k]
  | .error (w, l) => .tuple [.str (saidM w), pathD l]
theorem dp_kd {K : PySem.W.Frag} {H : Hp} (k : Option Str) : Dp K H (kdV k) (kdD k) := by
  cases k with
  | none => exact .non
  | some x => exact .str x
theorem kd_dp {K : PySem.W.Frag} {H : Hp} {v : V} {k : Option Str} (h : Dp K H v (kdD k)) : v = kdV k := by
  cases k with
  | none => cases h; rfl
  | some x => cases h; rfl
theorem dp_nats {K : PySem.W.Frag} {H : Hp} : ∀ l : List Nat, DpAll K H (l.map fun (n : Nat) => V.int (n : Int)) (l.map fun (n : Nat) => PyData.int (n : Int))
  | [] => .nil
  | n :: l => .cons (.int _) (dp_nats l)
theorem dp_path {K : PySem.W.Frag} {H : Hp} {v : V} {l : List Nat} (h : PathAt K H v l) : Dp K H v (pathD l) := by
  obtain ⟨a, rfl, hq⟩ := h
  exact .tup hq (dp_nats l)
theorem dp_two {K : PySem.W.Frag} {H : Hp} {p : Addr} {w : Str} {x : V} {d : PyData} (hp : H p = some (.tup [.str w, x])) (hx : Dp K H x d) : Dp K H (.ref p) (.tuple [.str w, d]) := .tup (SqT.of hp) (.cons (.str w) (.cons hx .nil))
/-! ### the words that are told -/
def saysL : List Str := ["form", "handler", "name", "kind"]
theorem node_says {cols vars : Kinds} {t : PyData} {w : Str} (h : nodeM cols vars t = some w) : w ∈ saysL := by
  unfold nodeM at h
  repeat' split at h
  all_goals first | (cases h; decide) | cases h
theorem kids_says {f : PyData → List Nat → Res7} (hf : ∀ d l w l', f d l = .error (w, l') → w ∈ saysL) : ∀ {ps : List (Nat × PyData)} {l : List Nat} {w : Str} {l' : List Nat}, kidsM f l ps = .error (w, l') → w ∈ saysL
  | [], l, w, l', h => by simp only [kidsM] at h; cases h
  | (i, x) :: r, l, w, l', h => by
    simp only [kidsM] at h
    cases e1 : f x (l ++ [i]) with
    | error e => rw [e1] at h; cases h; exact hf _ _ _ _ e1
    | ok k =>
      rw [e1] at h
      simp only at h
      cases e2 : kidsM f l r with
      | error e => rw [e2] at h; cases h; exact kids_says hf e2
      | ok ks => rw [e2] at h; cases h
theorem look_says {cols vars : Kinds} : ∀ (n : Nat) (t : PyData) (l : List Nat) (w : Str) (l' : List Nat), lookM cols vars n t l = .error (w, l') → w ∈ saysL
  | 0, t, l, w, l', h => by simp only [lookM] at h; cases h; decide
  | n + 1, t, l, w, l', h => by
    cases en : nodeM cols vars t with
    | some w' => rw [lookM, en] at h; cases h; exact node_says en
    | none =>
      rw [look_succ _ _ _ _ _ en] at h
      cases ek : kidsM (lookM cols vars n) l (partsM t) with
      | error e => rw [ek] at h; cases h; exact kids_says (look_says n) ek
      | ok ks =>
        rw [ek] at h
        simp only at h
        cases eb : badM (partsM t) ks (wantM t ks) with
        | some i => rw [eb] at h; cases h; decide
        | none => rw [eb] at h; cases h
theorem said_ne {w : Str} (h : w ∈ saysL) : saidM w ≠ "" := by
  simp only [saysL, List.mem_cons, List.mem_nil_iff, or_false] at h
  rcases h with rfl | rfl | rfl | rfl <;> decide
theorem node_lform {cols vars : Kinds} {t : PyData} (h : lformM t = false) : ∃ w, nodeM cols vars t = some w ∧ saidM w = "form" := by
  cases ef : formM t with
  | false => exact ⟨"form", node_form ef, by decide⟩
  | true =>
    unfold lformM at h
    rw [ef, Bool.true_and] at h
    exact ⟨"handler", node_hand ef (Decidable.not_not.mp (of_decide_eq_false h)), by decide⟩
theorem parts_at {t : PyData} (h : Shape t) : ∀ p ∈ partsM t, ∃ ds, t = .tuple ds ∧ ds[p.1]? = some p.2 := by
  cases h with
  | value d h => intro p hp; cases hp
  | var x => intro p hp; cases hp
  | col x => intro p hp; cases hp
  | op o a b ho =>
    intro p hp
    have hp : p ∈ [(2, a), (3, b)] := hp
    simp only [List.mem_cons, List.mem_nil_iff, or_false] at hp
    rcases hp with rfl | rfl <;> exact ⟨_, rfl, rfl⟩
  | not a =>
    intro p hp
    have hp : p ∈ [(1, a)] := hp
    simp only [List.mem_cons, List.mem_nil_iff, or_false] at hp
    subst hp
    exact ⟨_, rfl, rfl⟩
  | null a =>
    intro p hp
    have hp : p ∈ [(1, a)] := hp
    simp only [List.mem_cons, List.mem_nil_iff, or_false] at hp
    subst hp
    exact ⟨_, rfl, rfl⟩
  | case c a b =>
    intro p hp
    have hp : p ∈ [(1, c), (2, a), (3, b)] := hp
    simp only [List.mem_cons, List.mem_nil_iff, or_false] at hp
    rcases hp with rfl | rfl | rfl <;> exact ⟨_, rfl, rfl⟩
theorem dp_at {K : PySem.W.Frag} {H : Hp} : ∀ {vs : List V} {ds : List PyData} {i : Nat} {d : PyData}, DpAll K H vs ds → ds[i]? = some d → ∃ x, vs[i]? = some x ∧ Dp K H x d
  | _, _, _, _, .nil, h => by simp at h
  | _, _, 0, _, .cons h1 _, h => by simp at h; subst h; exact ⟨_, rfl, h1⟩
  | _, _, i + 1, _, .cons _ h2, h => by simpa using dp_at (i := i) h2 (by simpa using h)
section
variable {P : Program} {w : World} {K : PySem.W.Frag} {mg : Str → Option Value} {base : Heap}
abbrev sLK : Stmt := top 79
theorem scLK : FnScope ["_law_e", "_law_place", "_law_path", "_law_found_here", "_law_inner", "_law_at", "_law_word", "_law_kind_here", "_law_wanted_here", "_law_k"] ["_law_e", "_law_place", "_law_path"] (defScope sLK) := ⟨rfl, rfl, rfl, by decide +kernel, rfl, by decide +kernel, by decide +kernel⟩
def spLK (K : PySem.W.Frag) (cols vars : Kinds) (n : Nat) : Sp := fun vs H Q _ => ∃ v t p pv l, vs = [v, .ref p, pv] ∧ Dp K H v t ∧ good t ∧ short t ∧ hgt t ≤ n ∧ PlaceAt cols vars H p ∧ PathAt K H pv l ∧ l.length + n ≤ 100 ∧
  ∀ x H', Same H H' → Dp K H' x (resD (lookM cols vars n t l)) → Q x H'
theorem lk_step {f : Addr} {fd : FuncData} {n : Nat} {cols vars : Kinds} (B : Bn7 mg) (hn : n ≤ 59)
    (D1 : Cal P w K mg base CX0 3 "_law_has_form" ["_law_e"] [] (spD K (fun t => hgt t ≤ 60) fun t => .bl (lformM t))) (D2 : Cal P w K mg base CX0 1 "_law_is_known" ["_law_e", "_law_place"] [] (spKnown K cols vars))
    (D3 : Cal P w K mg base CX0 1 "_law_steps" ["_law_e"] [] (spSteps K)) (D4 : Cal P w K mg base CX0 1 "_law_wanted" ["_law_e", "_law_found_here"] [] (spLWant K)) (D5 : Cal P w K mg base CX0 3 "_law_own_kind" ["_law_e", "_law_found_here", "_law_place"] [] (spLOwn K cols vars))
    (F : Fun K "_law_kind" "_law_kind" sLK f fd) (mF : mg "_law_kind" = some (.ref f)) (bF : Binds K fd ["_law_e", "_law_place", "_law_path"] [])
    (G : FnOk P w K mg base CX0 (n + 4) f fd ["_law_e", "_law_place", "_law_path"] (spLK K cols vars n)) : FnOk P w K mg base CX0 (n + 5) f fd ["_law_e", "_law_place", "_law_path"] (spLK K cols vars (n + 1)) := by
  obtain ⟨f1, fd1, ds1, e1, k1, v1, b1, G1⟩ := D1.ex
  obtain ⟨f2, fd2, ds2, e2, k2, v2, b2, G2⟩ := D2.ex
  obtain ⟨f3, fd3, ds3, e3, k3, v3, b3, G3⟩ := D3.ex
  obtain ⟨f4, fd4, ds4, e4, k4, v4, b4, G4⟩ := D4.ex
  obtain ⟨f5, fd5, ds5, e5, k5, v5, b5, G5⟩ := D5.ex
  refine F.ok scLK (fun vs H Q E h => ?_) (fun cdv A outer s H vs Q E hr h => ?_)
  · obtain ⟨v, t, p, pv, l, rfl, _⟩ := h
    rfl
  · obtain ⟨v, t, p, pvl, l, rfl, hd, hg, hs, hh, hP, hpa, hl, q⟩ := h
    refine ⟨_, (pss_cons (ps_if (pt_not (pt_val (pe_call G1 (hr.mono (by omega)) rfl e1 k1 b1 v1 pass0 (pa_cons (pv 0) pa_nil)))) (pss_one (ps_ret (pe_tup (pa_cons pe_str (pa_cons (pv 2) pa_nil))))) pss_nil)
      (pss_cons (ps_if (pt_not (pt_val (pe_call G2 (hr.mono (by omega)) rfl e2 k2 b2 v2 pass0 (pa_cons (pv 0) (pa_cons (pv 1) pa_nil))))) (pss_one (ps_ret (pe_tup (pa_cons pe_str (pa_cons (pv 2) pa_nil))))) pss_nil)
      (pss_cons (ps_par (i := 3) (j := 4) (by rfl) scLK.nd rfl rfl (by decide) rfl rfl (pa_cons (pe_lst pa_nil) (pa_cons (pe_callTy call_dictD (by rfl) B.dict PyProof.Rows.boot_dict (pa_cons (pv 1) pa_nil)) pa_nil)) (by rfl))
      (pss_cons (ps_if (pt_inS (pe_ix ix_tup (pv 0) pe_int (fun _ _ => rfl)) (pa_s (pa_s (pa_s (pa_s pa_s0))))) pss_no pss_nil)
      (pss_cons (ps_for PassesOwn.never rfl (pi_list (pe_call G3 (hr.mono (by omega)) rfl e3 k3 b3 v3 pass0 (pa_cons (pv 0) pa_nil))) (pg_name (i := 5) scLK.nd rfl (Or.inl rfl))
          (pss_cons (ps_asg (pe_call G hr rfl mF F.kp bF .nil pass0 (pa_cons (pe_ix ix_tup (pv 0) (pv 5) (fun _ _ => rfl)) (pa_cons (pv 4) (pa_cons (pe_op (show OpR _ (binaryOp .Add) (rCatA K) from op_catA) (pv 2) (pe_tup (pa_cons (pv 5) pa_nil))) pa_nil)))) (pg_tup (by rfl) (pgs_cons (pg_name (i := 6) scLK.nd rfl (Or.inl rfl)) (pgs_cons (pg_name (i := 7) scLK.nd rfl (Or.inl rfl)) pgs_nil))))
          (pss_cons (ps_if (pt_cmpR op_ne (pv 6) pe_str (nomark _)) (pss_one (ps_ret (pe_tup (pa_cons (pv 6) (pa_cons (pv 7) pa_nil))))) pss_nil)
          (pss_one (ps_expr (pe_bm PySem.F.plainAttrs_list PySem.F.slot_list_append PySem.F.type_list_append mt_append (pv 3) (pa_cons (pv 7) pa_nil)))))))
      (pss_cons (ps_set (i := 8) scLK.nd rfl (Or.inl rfl) (pe_call G4 (hr.mono (by omega)) rfl e4 k4 b4 v4 pass0 (pa_cons (pv 0) (pa_cons (pv 3) pa_nil))))
      (pss_cons (ps_for PassesOwn.never rfl (pi_range1 (by rfl) B.range (pa_cons (pe_callB call_len_seq (by rfl) B.len PySem.boot_len (pa_cons (pv 3) pa_nil)) pa_nil)) (pg_name (i := 9) scLK.nd rfl (Or.inl rfl))
          (pss_one (ps_if (PW.pt (pw_and (pt_cmp (pc_notN (pe_ix ix_list (pv 3) (pv 9) (fun _ _ => rfl)))) (pw_and1 (pt_cmpR (show OpR _ (compareOp .NotIn) (rIn K true) from op_notIn_seq) (pe_ix ix_list (pv 3) (pv 9) (fun _ _ => rfl)) (pe_ix ix_list (pv 8) (pv 9) (fun _ _ => rfl)) (by rfl))))) (pss_one (ps_ret (pe_tup (pa_cons pe_str (pa_cons (pe_op (show OpR _ (binaryOp .Add) (rCatA K) from op_catA) (pv 2) (pe_tup (pa_cons (pe_ix ix_list (pe_call G3 (hr.mono (by omega)) rfl e3 k3 b3 v3 pass0 (pa_cons (pv 0) pa_nil)) (pv 9) (fun _ _ => rfl)) pa_nil))) pa_nil))))) pss_nil)))
      (pss_one (ps_ret (pe_tup (pa_cons pe_str (pa_cons (pe_call G5 (hr.mono (by omega)) rfl e5 k5 b5 v5 pass0 (pa_cons (pv 0) (pa_cons (pv 3) (pa_cons (pv 1) pa_nil)))) pa_nil)))))))))))), ?_⟩
    refine ⟨_, rfl, v, t, rfl, hd, hg, hs, by omega, fun H1 t1 => ⟨_, rfl, ?_⟩⟩
    cases hlf : lformM t with
    | false =>
      obtain ⟨w1, hw1, hw2⟩ := node_lform (cols := cols) (vars := vars) hlf
      refine iteT ⟨_, rfl, (by show 2 ≤ sizeLine; decide), fun r hr' => ?_⟩
      have s2 := t1.trans (same_new hr' (.tup [.str "form", pvl]))
      refine q _ _ s2 ?_
      rw [lookM, hw1]
      show Dp K _ _ (.tuple [.str (saidM w1), pathD l])
      rw [hw2]
      exact dp_two upd_same (dp_path (hpa.same s2))
    | true =>
    refine iteF ⟨_, rfl, _, rfl, v, t, p, rfl, dp_same t1 _ _ hd, hlf, hP.same t1, fun H2 t2 => ⟨_, rfl, ?_⟩⟩
    obtain ⟨hf, hnh⟩ := lform_split hlf
    have hnode := node_there (cols := cols) (vars := vars) hf hnh
    have s2 := t1.trans t2
    cases hth : thereM cols vars t with
    | false =>
      rw [hth] at hnode
      refine iteT ⟨_, rfl, (by show 2 ≤ sizeLine; decide), fun r hr' => ?_⟩
      have s3 := s2.trans (same_new hr' (.tup [.str "name", pvl]))
      refine q _ _ s3 ?_
      rw [lookM, hnode]
      exact dp_two upd_same (dp_path (hpa.same s3))
    | true =>
    rw [hth] at hnode
    have hnode : nodeM cols vars t = none := hnode
    obtain ⟨_, hhd, _⟩ := node_none hnode
    have hsh := shape_of hf hhd
    rw [look_succ _ _ _ _ _ hnode] at q
    obtain ⟨ka, sh, co, va, ta, sq, h1, h2, h3, h4, h5, h6, h7⟩ := hP.ex
    refine iteF ⟨Nat.zero_le _, fun fa hfa => ?_⟩
    have s3 := same_new hfa (.lst [])
    refine ⟨_, rfl, p, _, rfl, .inl ((s2.trans s3) _ _ h1), fun pi hpi => ⟨_, _, rfl, ?_⟩⟩
    have s4 := same_new hpi (.dK (placeK ka sh co va ta sq))
    have hpf : fa ≠ pi := ne_of_none upd_same hpi
    generalize hH4 : upd (upd H2 fa (.lst [])) pi (.dK (placeK ka sh co va ta sq)) = H4
    have m1 : H4 fa = some (.lst []) := by rw [← hH4]; exact s4 _ _ upd_same
    have m2 : H4 pi = some (.dK (placeK ka sh co va ta sq)) := by rw [← hH4]; exact upd_same
    have s04 : Same H H4 := by rw [← hH4]; exact s2.trans (s3.trans s4)
    have hfaH : H fa = none := Same.free s2 hfa
    obtain ⟨z, ds, so, et, _, _, _⟩ := form_head (form_headed hf)
    have hz : z ∈ hdsL := by rw [et] at hhd; exact hhd
    have hdt : ∃ a xs, v = .ref a ∧ SqT K H a (.str z :: xs) ∧ DpAll K H (.str z :: xs) (.str z :: ds) := by
      rw [et] at hd
      cases hd with
      | @tup a xs _ hsq ha =>
      have ha' := ha
      cases ha with
      | @cons x xs _ _ p1 p2 =>
      cases p1
      exact ⟨a, xs, rfl, hsq, ha'⟩
    obtain ⟨a, xs, rfl, hsq, hall⟩ := hdt
    refine ⟨_, rfl, a, _, 0, _, rfl, rfl, sqT_same s04 hsq, atI_nat (j := 0) rfl, z, rfl, fun H5 t5 => ⟨_, rfl, ifF (decide_eq_false (gath_no z hz)) ?_⟩⟩
    refine ⟨_, rfl, _, t, rfl, dp_same (s04.trans t5) _ _ hd, hsh, fun D H6 t6 hDn hD6 => ⟨D, rfl, ⟨_, SqL.of hD6⟩, ?_⟩⟩
    have nfD : fa ≠ D := ne_of_none (t5 _ _ m1) hDn
    have s46 := t5.trans t6
    have lp3 := parts_len3 hsh
    have lst : (stepsV t).length = (partsM t).length := List.length_map ..
    have place : ∀ {H' : Hp}, Same H H' → H' pi = some (.dK (placeK ka sh co va ta sq)) → PlaceAt cols vars H' pi := fun s e => ⟨ka, sh, co, va, ta, sq, e, s _ _ h2, s _ _ h3, s _ _ h4, s _ _ h5, s _ _ h6, s _ _ h7⟩
    refine for_it (walk_list (a := D) (xs := stepsV t)) (fun i σ H' => ∃ ks y5 y6 y7, σ = [some (.ref a), some (.ref p), some pvl, some (.ref fa), some (.ref pi), y5, y6, y7, none, none] ∧ ks.length = i ∧ Same H H' ∧ H' fa = some (.lst (ks.map kdV)) ∧ H' pi = some (.dK (placeK ka sh co va ta sq)) ∧ H' D = some (.lst (stepsV t)) ∧
        kidsM (lookM cols vars n) l (partsM t) = mapE ks (kidsM (lookM cols vars n) l ((partsM t).drop i)))
      ⟨[], none, none, none, rfl, rfl, s04.trans s46, s46 _ _ m1, s46 _ _ m2, hD6, by rw [List.drop_zero]; cases kidsM (lookM cols vars n) l (partsM t) <;> rfl⟩ (fun i σ H' _ h => by obtain ⟨_, _, _, _, _, _, _, _, _, h9, _⟩ := h; exact SqL.of h9) ?_ ?_
    · rintro i x σ H7 H8 hi ⟨ks, y5, y6, y7, rfl, hki, s7, hf7, hp7, hD7, hkm⟩ ⟨rfl, hx⟩
      have hip : i < (partsM t).length := by omega
      obtain ⟨⟨j, d⟩, ep⟩ : ∃ y, (partsM t)[i]? = some y := ⟨_, List.getElem?_eq_getElem hip⟩
      have hxj : x = .int ((j : Nat) : Int) := by
        unfold stepsV at hx
        rw [List.getElem?_map, ep] at hx
        simpa using hx.symm
      subst hxj
      obtain ⟨ds', et', ed0⟩ := parts_at hsh _ (List.mem_of_getElem? ep)
      rw [et] at et'
      cases et'
      have hgd : good d := by rw [et] at hg; exact good_get (by simpa [good] using hg) ed0
      have hsd : short d := by rw [et] at hs; exact short_get (by simp only [short] at hs; exact hs.1) ed0
      have hhd2 : hgt d ≤ n := by have h9 : hgt d ≤ hgtAll (.str z :: ds) := hgt_get ed0; rw [et] at hh; simp only [hgt] at hh; omega
      obtain ⟨xv, exv, hdp⟩ := dp_at hall ed0
      refine ⟨_, rfl, _, rfl, a, _, _, xv, rfl, rfl, sqT_same s7 hsq, atI_nat exv, _, rfl, _, rfl, _, rfl, (by show 1 ≤ sizeLine; decide), fun st hst => ?_⟩
      have s8 := same_new hst (.tup [.int ((j : Nat) : Int)])
      refine cat_path (hpa.same (s7.trans s8)) upd_same (by omega) fun v' H9 s9 hP9 => ?_
      have s79 := s8.trans s9
      have s09 := s7.trans s79
      rw [kids_step ep] at hkm
      refine ⟨xv, d, pi, v', l ++ [j], rfl, dp_same s09 _ _ hdp, hgd, hsd, hhd2, place s09 (s79 _ _ hp7), hP9, by rw [List.length_append, List.length_singleton]; omega, fun x H10 s10 hx => ?_⟩
      cases ek : lookM cols vars n d (l ++ [j]) with
      | error e =>
        obtain ⟨w1, l1⟩ := e
        rw [ek] at hx hkm
        have hx : Dp K H10 x (.tuple [.str (saidM w1), pathD l1]) := hx
        cases hx with
        | @tup a2 us _ hsq2 hus =>
        cases hus with
        | @cons u1 us _ _ p5 p6 =>
        cases p5
        cases p6 with
        | @cons u2 us _ _ p7 p8 =>
        cases p8
        have e9 : kidsM (lookM cols vars n) l (partsM t) = .error (w1, l1) := by rw [hkm]; rfl
        rw [e9] at q
        refine ⟨a2, _, rfl, hsq2, rfl, _, _, rfl, _, [], rfl, rfl, ?_⟩
        refine ⟨_, rfl, rfl, _, rfl, ifT (by rw [neS (said_ne (look_says _ _ _ _ _ ek))]; rfl) ⟨_, rfl, _, rfl, (by show 2 ≤ sizeLine; decide), fun r hr' => ?_⟩⟩
        have s11 := same_new hr' (.tup [.str (saidM w1), u2])
        exact q _ _ ((s09.trans s10).trans s11) (dp_two upd_same (dp_same s11 _ _ p7))
      | ok kk =>
        rw [ek] at hx hkm
        have hx : Dp K H10 x (.tuple [.str "", kdD kk]) := hx
        cases hx with
        | @tup a2 us _ hsq2 hus =>
        cases hus with
        | @cons u1 us _ _ p5 p6 =>
        cases p5
        cases p6 with
        | @cons u2 us _ _ p7 p8 =>
        cases p8
        have eu := kd_dp p7
        subst eu
        refine ⟨a2, _, rfl, hsq2, rfl, _, _, rfl, _, [], rfl, rfl, ?_⟩
        refine ⟨_, rfl, rfl, _, rfl, ifF (by decide) ?_⟩
        have f10 := s10 _ _ (s79 _ _ hf7)
        have p10 := s10 _ _ (s79 _ _ hp7)
        refine ⟨_, rfl, .inl ⟨rfl, _, SqL.of f10⟩, _, rfl, fa, _, _, rfl, rfl, f10, small' (by rw [List.length_map]; omega), ks ++ [kk], _, _, _, rfl, by simp [hki], same_put (s09.trans s10) hfaH _, by rw [upd_same]; simp, ?_, ?_, ?_⟩
        · rw [upd_ne hpf.symm]; exact p10
        · rw [upd_ne nfD.symm]; exact s10 _ _ (s79 _ _ hD7)
        · rw [hkm]
          cases kidsM (lookM cols vars n) l ((partsM t).drop (i + 1)) with
          | error e => rfl
          | ok r => simp [mapE]
    · rintro σ H7 ⟨ks, y5, y6, y7, rfl, hki, s7, hf7, hp7, hD7, hkm⟩
      rw [List.drop_eq_nil_of_le (by omega)] at hkm
      have hkm : kidsM (lookM cols vars n) l (partsM t) = .ok ks := by rw [hkm]; simp [kidsM, mapE]
      rw [hkm] at q
      dsimp only at q
      have hks : ks.length = (partsM t).length := by omega
      refine ⟨_, rfl, _, rfl, .ref a, t, fa, ks, rfl, dp_same s7 _ _ hd, hsh, hf7, hks, fun W H9 s9 _ hW => ?_⟩
      obtain ⟨ws, hws, hwp⟩ := hW
      have s09 := s7.trans s9
      have lws := paired_len hwp
      have lw := want_len hsh hks
      have lk9 : (ks.map kdV).length = ks.length := List.length_map ..
      refine ⟨_, rfl, fa, _, rfl, .inl (SqL.of (s9 _ _ hf7)), _, rfl, by omega, by rw [lk9]; omega, ?_⟩
      refine for_it (walk_range (lo := 0) (n := (((ks.map kdV).length : Nat) : Int).toNat)) (fun i σ H' => ∃ y9, σ = [some (.ref a), some (.ref p), some pvl, some (.ref fa), some (.ref pi), y5, y6, y7, some (.ref W), y9] ∧ Same H9 H' ∧ badM (partsM t) ks (wantM t ks) = badM ((partsM t).drop i) (ks.drop i) ((wantM t ks).drop i))
        ⟨none, rfl, Same.refl _, rfl⟩ (fun _ _ _ _ _ => trivial) ?_ ?_
      · rintro i x σ H10 H11 hi ⟨y9, rfl, s10, hb⟩ ⟨rfl, rfl⟩
        have hik : i < ks.length := by omega
        obtain ⟨kk, ek⟩ : ∃ kk, ks[i]? = some kk := ⟨_, List.getElem?_eq_getElem (by omega)⟩
        obtain ⟨⟨j, d⟩, ep⟩ : ∃ y, (partsM t)[i]? = some y := ⟨_, List.getElem?_eq_getElem (by omega)⟩
        obtain ⟨wl, ew⟩ : ∃ wl, (wantM t ks)[i]? = some wl := ⟨_, List.getElem?_eq_getElem (by omega)⟩
        obtain ⟨wv, ewv, wa, rfl, hwa⟩ := paired_get' hwp ew
        rw [bad_drop ep ek ew] at hb
        have f10 := s10 _ _ (s9 _ _ hf7)
        have ei : (0 : Int) + (i : Int) = ((i : Nat) : Int) := by omega
        have fk : atI (ks.map kdV) (0 + (i : Int)) = some (kdV kk) := by rw [ei]; exact atI_nat (by rw [List.getElem?_map, ek]; rfl)
        have wk : atI ws (0 + (i : Int)) = some (.ref wa) := by rw [ei]; exact atI_nat ewv
        refine ⟨_, rfl, _, rfl, fa, _, _, _, rfl, rfl, SqL.of f10, fk, _, rfl, ?_⟩
        cases kk with
        | none => exact iteF (iteF ⟨_, rfl, s10, hb⟩)
        | some y =>
          refine iteT ⟨_, rfl, _, rfl, fa, _, _, _, rfl, rfl, SqL.of f10, fk, _, rfl, _, rfl, W, _, _, _, rfl, rfl, SqL.of (s10 _ _ hws), wk, wa, _, rfl, .inl (SqL.of (s10 _ _ hwa)), rfl, flat_strs _, _, rfl, ?_⟩
          show (if (!inV (.str y) (wl.map V.str)) = true then _ else _)
          rw [in_strs]
          by_cases hy : y ∈ wl
          · rw [decide_eq_true hy]
            rw [show fitM (some y) wl = true from decide_eq_true hy] at hb
            exact iteF ⟨_, rfl, s10, hb⟩
          · rw [decide_eq_false hy]
            rw [show fitM (some y) wl = false from decide_eq_false hy] at hb
            have hb : badM (partsM t) ks (wantM t ks) = some j := hb
            rw [hb] at q
            refine iteT ⟨_, rfl, _, rfl, _, t, rfl, dp_same (s09.trans s10) _ _ hd, hsh, fun D2 H12 s12 _ hD2 => ?_⟩
            have sk : atI (stepsV t) (0 + (i : Int)) = some (.int ((j : Nat) : Int)) := by rw [ei]; exact atI_nat (by unfold stepsV; rw [List.getElem?_map, ep]; rfl)
            refine ⟨_, rfl, D2, _, _, _, rfl, rfl, SqL.of hD2, sk, (by show 1 ≤ sizeLine; decide), fun st hst => ?_⟩
            have s13 := same_new hst (.tup [.int ((j : Nat) : Int)])
            refine cat_path (hpa.same (((s09.trans s10).trans s12).trans s13)) upd_same (by omega) fun v' H14 s14 hP14 => ⟨(by show 2 ≤ sizeLine; decide), fun r hr' => ?_⟩
            have s15 := same_new hr' (.tup [.str "kind", v'])
            exact q _ _ (((((s09.trans s10).trans s12).trans s13).trans s14).trans s15) (dp_two upd_same (dp_path (hP14.same s15)))
      · rintro σ H10 ⟨y9, rfl, s10, hb⟩
        rw [bad_end (by omega)] at hb
        rw [hb] at q
        refine ⟨_, rfl, _, rfl, _, rfl, .ref a, t, fa, ks, p, rfl, dp_same (s09.trans s10) _ _ hd, hg, hs, hnode, s10 _ _ (s9 _ _ hf7), hks, hP.same (s09.trans s10), fun H11 s11 => ⟨(by show 2 ≤ sizeLine; decide), fun r hr' => ?_⟩⟩
        have s12 := same_new hr' (.tup [.str "", kdV (ownM cols vars t ks)])
        exact q _ _ (((s09.trans s10).trans s11).trans s12) (dp_two upd_same (dp_kd _))
theorem ok_lk {f : Addr} {fd : FuncData} {cols vars : Kinds} (B : Bn7 mg)
    (D1 : Cal P w K mg base CX0 3 "_law_has_form" ["_law_e"] [] (spD K (fun t => hgt t ≤ 60) fun t => .bl (lformM t))) (D2 : Cal P w K mg base CX0 1 "_law_is_known" ["_law_e", "_law_place"] [] (spKnown K cols vars))
    (D3 : Cal P w K mg base CX0 1 "_law_steps" ["_law_e"] [] (spSteps K)) (D4 : Cal P w K mg base CX0 1 "_law_wanted" ["_law_e", "_law_found_here"] [] (spLWant K)) (D5 : Cal P w K mg base CX0 3 "_law_own_kind" ["_law_e", "_law_found_here", "_law_place"] [] (spLOwn K cols vars))
    (F : Fun K "_law_kind" "_law_kind" sLK f fd) (mF : mg "_law_kind" = some (.ref f)) (bF : Binds K fd ["_law_e", "_law_place", "_law_path"] []) : ∀ n : Nat, n ≤ 60 → FnOk P w K mg base CX0 (n + 4) f fd ["_law_e", "_law_place", "_law_path"] (spLK K cols vars n)
  | 0, _ => by
    have no : ∀ vs H Q E, ¬ spLK K cols vars 0 vs H Q E := fun vs H Q E h => by
      obtain ⟨v, t, p, pv, l, _, _, _, _, h1, _⟩ := h
      have := hgt_pos t
      omega
    exact ⟨fun vs H Q E h => absurd h (no vs H Q E), fun A outer s H args us vs Q E _ _ _ _ h => absurd h (no vs H Q E)⟩
  | n + 1, h => lk_step B (by omega) D1 D2 D3 D4 D5 F mF bF (ok_lk B D1 D2 D3 D4 D5 F mF bF n (by omega))
end
end DS
set_option Elab.async false
set_option linter.all false
set_option maxRecDepth 100000
set_option maxHeartbeats 4000000
namespace DS
open PySem L2 PySem.NumText
theorem letters_sgn : ∀ c ∈ lettersC, c ∈ sgnList := by decide +kernel
theorem word_good {x : Str} (h : isWordC x.cps.toList = true) : good (.str x) := by
  unfold isWordC at h
  rw [Bool.and_eq_true, List.all_eq_true] at h
  simp only [good]
  exact fun c hc => letters_sgn c (of_decide_eq_true (h.2 c hc))
theorem goodAll_strs : ∀ {ls : List Str}, (∀ x ∈ ls, isWordC x.cps.toList = true) → goodAll (ls.map PyData.str)
  | [], _ => by simp [goodAll]
  | x :: ls, h => by
    simp only [List.map_cons, goodAll]
    exact ⟨word_good (h x (by simp)), goodAll_strs fun y hy => h y (by simp [hy])⟩
theorem depth_strs : ∀ ls : List Str, PyData.depthAll (ls.map PyData.str) = 0
  | [] => rfl
  | x :: ls => by
    show max (PyData.depth (.str x)) (PyData.depthAll (ls.map PyData.str)) = 0
    rw [depth_strs ls]
    simp [PyData.depth]
theorem shaped_strs {ls : List Str} (h : ∀ x ∈ ls, isWordC x.cps.toList = true) : SeqAt.shaped (.list (ls.map PyData.str)) = true := by
  have h1 := lay_goodAll _ (goodAll_strs h)
  have h2 := depth_strs ls
  simp [SeqAt.shaped, PyData.canLay0, PyData.depth, h1, h2]
theorem dp_strs {K : PySem.W.Frag} {H : Hp} : ∀ ls : List Str, DpAll K H (ls.map V.str) (ls.map PyData.str)
  | [] => .nil
  | x :: ls => .cons (.str x) (dp_strs ls)
theorem erase_map {α β : Type} (f : α → β) : ∀ (l : List α) (j : Nat), (l.map f).eraseIdx j = (l.eraseIdx j).map f
  | [], _ => rfl
  | x :: l, 0 => rfl
  | x :: l, j + 1 => by simp [erase_map f l j]
theorem erase_perm {α : Type} : ∀ {l : List α} {j : Nat} (h : j < l.length), ([l[j]] ++ l.eraseIdx j).Perm l
  | x :: l, 0, _ => List.Perm.refl _
  | x :: l, j + 1, h => by
    have ih := erase_perm (l := l) (j := j) (by simpa using h)
    refine List.Perm.trans ?_ (List.Perm.cons x ih)
    exact List.Perm.swap x _ _
theorem sb_new {d p : Addr} {H H' : Hp} {o : HO} (s : Sb d H H') (h : H p = none) : Sb d H (upd H' p o) := fun b u hb n => by rw [upd_ne (ne_of_none hb h)]; exact s b u hb n
section
variable {P : Program} {w : World} {K : PySem.W.Frag} {mg : Str → Option Value} {base : Heap}
abbrev sShuf : Stmt := top 62
theorem scShuf : FnScope ["_law_pen_here", "_law_items", "_law_left", "_law_found_here"] ["_law_pen_here", "_law_items"] (defScope sShuf) := ⟨rfl, rfl, rfl, by decide +kernel, rfl, by decide +kernel, by decide +kernel⟩
def spShuf (K : PySem.W.Frag) : Sp := fun vs H Q _ => ∃ d c ns a r l, ∃ ws : List Str, vs = [.ref d, .ref l] ∧ PenAt H d c ns a r ∧ a + 1000 ≤ 2 ^ 30 ∧ SqL K H l (ws.map V.str) ∧ ws.length ≤ 1000 ∧ (∀ x ∈ ws, isWordC x.cps.toList = true) ∧
  ∀ (D : Addr) (us : List Str) a' r' H', us.Perm ws → H D = none → H' D = some (.lst (us.map V.str)) → a' ≤ a + ws.length → Sb d H H' → PenAt H' d c ns a' r' → Q (.ref D) H'
theorem ok_shuf {f : Addr} {fd : FuncData} {k : Nat} (B : Bn7 mg) (D1 : Cal P w K mg base CX0 1 "_law_draw" ["_law_pen_here", "_law_many"] [] spDraw) (F : Fun K "_law_shuffled" "_law_shuffled" sShuf f fd) : FnOk P w K mg base CX0 (k + 2) f fd ["_law_pen_here", "_law_items"] (spShuf K) := by
  obtain ⟨f1, fd1, ds1, e1, k1, v1, b1, G1⟩ := D1.ex
  refine F.ok scShuf (fun vs H Q E h => ?_) (fun cdv A outer s H vs Q E hr h => ?_)
  · obtain ⟨d, c, ns, a, r, l, ws, rfl, _⟩ := h
    rfl
  · obtain ⟨d, c, ns, a, r, l, ws, rfl, hp, ha, hl, hlen, hw, q⟩ := h
    have hu : (A.deeper (PyProof.Rows.envOfC "_law_shuffled" (defScope sShuf) s.heap.objs.size f cdv)).units + 64 < cLine := hr.units
    refine ⟨_, (pss_cons (ps_par (i := 2) (j := 3) (by rfl) scShuf.nd rfl rfl (by decide) rfl rfl (pa_cons (pe_callTy call_list_of (by rfl) B.list PyProof.Rows.boot_list (pa_cons (pv 1) pa_nil)) (pa_cons (pe_lst pa_nil) pa_nil)) (by rfl))
      (pss_cons (ps_while PassesOwn.never (pt_cmpR (op_neD hu) (pv 2) (pe_lst pa_nil) (nomark _))
          (pss_one (ps_expr (pe_bm PySem.F.plainAttrs_list PySem.F.slot_list_append PySem.F.type_list_append mt_append (pv 3) (pa_cons (pe_bm PySem.F.plainAttrs_list PySem.F.slot_list_pop PySem.F.type_list_pop mt_popAt (pv 2) (pa_cons (pe_call G1 (hr.mono (by omega)) rfl e1 k1 b1 v1 pass0 (pa_cons (pv 0) (pa_cons (pe_callB call_len_seq (by rfl) B.len PySem.boot_len (pa_cons (pv 2) pa_nil)) pa_nil))) pa_nil)) pa_nil)))))
      (pss_one (ps_ret (pv 3))))), ?_⟩
    refine ⟨_, rfl, l, _, rfl, .inl hl, fun lf hlf => ⟨Nat.zero_le _, fun fo hfo => ⟨_, _, rfl, ?_⟩⟩⟩
    have s1 := same_new hlf (.lst (ws.map V.str))
    have s2 := same_new hfo (.lst [])
    have nlo : lf ≠ fo := ne_of_none upd_same hfo
    have ffo : H fo = none := Same.free s1 hfo
    have ndl : d ≠ lf := ne_of_none hp.dict hlf
    have ncl : c ≠ lf := ne_of_none hp.cells hlf
    have ndo : d ≠ fo := ne_of_none hp.dict ffo
    have nco : c ≠ fo := ne_of_none hp.cells ffo
    refine while_by (fun σ H' => ∃ (left found : List Str) (a' : Nat) (r' : Int), σ = [some (.ref d), some (.ref l), some (.ref lf), some (.ref fo)] ∧ H' lf = some (.lst (left.map V.str)) ∧ H' fo = some (.lst (found.map V.str)) ∧ (found ++ left).Perm ws ∧ a' + left.length ≤ a + ws.length ∧ Sb d H H' ∧ PenAt H' d c ns a' r')
      (fun σ H' => match H' lf with | some (.lst xs) => xs.length | _ => 0)
      ⟨ws, [], a, r, rfl, s2 _ _ upd_same, upd_same, List.Perm.refl _, by omega, Same.sb (s1.trans s2), pen_same hp (s1.trans s2)⟩ ?_ ?_
    · rintro σ H3 ⟨left, found, a3, r3, rfl, hL, hF, pm, ha3, sb3, p3⟩
      have hlw : left.length ≤ ws.length := by have := pm.length_eq; rw [List.length_append] at this; omega
      have hwl : ∀ x ∈ left, isWordC x.cps.toList = true := fun x hx => hw x (pm.mem_iff.mp (List.mem_append_right _ hx))
      refine ⟨_, rfl, Nat.zero_le _, fun z hz => ?_⟩
      have s4 := same_new hz (.lst [])
      refine ⟨.list (left.map .str), .list [], .lst (SqL.of (s4 _ _ hL)) (dp_strs left), .lst (SqL.of upd_same) .nil, shaped_strs hwl, rfl, _, rfl, ?_⟩
      rw [eqv_nilL]
      have L4 := s4 _ _ hL
      have F4 := s4 _ _ hF
      have p4 := pen_same p3 s4
      have sb4 := sb3.trans (Same.sb s4)
      generalize upd H3 z (.lst []) = H4 at s4 L4 F4 p4 sb4
      cases left with
      | nil =>
        refine iteF ⟨_, rfl, ?_⟩
        rw [List.append_nil] at pm
        exact q fo found a3 r3 H4 pm ffo F4 (by omega) sb4 p4
      | cons x0 left =>
        refine ifT rfl ?_
        simp only [List.length_cons] at ha3 hlw
        refine ⟨_, rfl, .inl ⟨rfl, _, SqL.of F4⟩, _, rfl, .inl ⟨rfl, _, SqL.of L4⟩, _, rfl, _, rfl, lf, _, rfl, .inl (SqL.of L4), d, c, ns, a3, r3, _, rfl, p4, by omega, by simp only [List.length_map, List.length_cons]; omega, by simp only [List.length_map, List.length_cons]; omega, fun i a5 r5 H5 i0 i1 ha5 sb5 p5 => ?_⟩
        obtain ⟨j, rfl⟩ := Int.eq_ofNat_of_zero_le i0
        have hj : j < (x0 :: left).length := by simp only [List.length_map] at i1; omega
        have hj9 : j < 1000 := by simp only [List.length_cons] at hj; omega
        have L5 := sb5 _ _ L4 ndl.symm
        have F5 := sb5 _ _ F4 ndo.symm
        refine ⟨lf, _, _, j, .str (x0 :: left)[j], rfl, rfl, L5, by omega, by omega, ?_, by rw [List.getElem?_map, List.getElem?_eq_getElem hj]; rfl, ?_⟩
        · rw [seqIndex_of (by omega) (by rw [List.length_map]; omega)]; rfl
        have F6 : (upd H5 lf (.lst (((x0 :: left).map V.str).eraseIdx j))) fo = some (.lst (found.map V.str)) := by rw [upd_ne nlo.symm]; exact F5
        refine ⟨fo, _, _, rfl, rfl, F6, ?_, ?_⟩
        · have := pm.length_eq
          rw [List.length_append] at this
          rw [List.length_map]
          exact small' (by omega)
        have eL : ((x0 :: left).map V.str).eraseIdx j = ((x0 :: left).eraseIdx j).map V.str := erase_map _ _ _
        have hle : ((x0 :: left).eraseIdx j).length + 1 = (x0 :: left).length := by rw [List.length_eraseIdx_of_lt hj]; simp
        refine ⟨⟨(x0 :: left).eraseIdx j, found ++ [(x0 :: left)[j]], a5, r5, rfl, ?_, by rw [upd_same]; simp, ?_, ?_, sb_new (sb_new (sb4.trans sb5) hlf) ffo, pen_put (pen_put p5 ndl ncl) ndo nco⟩, ?_⟩
        · rw [upd_ne nlo, upd_same, eL]
        · refine List.Perm.trans ?_ pm
          rw [List.append_assoc]
          refine List.Perm.append_left found ?_
          exact (erase_perm hj)
        · simp only [List.length_cons] at hle; omega
        · show (match (upd (upd H5 lf (.lst (((x0 :: left).map V.str).eraseIdx j))) fo _) lf with | some (.lst xs) => xs.length | _ => 0) < (match H3 lf with | some (.lst xs) => xs.length | _ => 0)
          rw [upd_ne nlo, upd_same, eL, hL]
          show (((x0 :: left).eraseIdx j).map V.str).length < ((x0 :: left).map V.str).length
          rw [List.length_map, List.length_map]
          omega
    · rintro σ H3 Q1 Q2 hm ⟨v, e, hz, h⟩
      refine ⟨v, e, hz, fun z hz => ?_⟩
      obtain ⟨d1, d2, h1, h2, h3, h4, u, e3, h5⟩ := h z hz
      exact ⟨d1, d2, h1, h2, h3, h4, u, e3, hm _ _ h5⟩
end
end DS
set_option Elab.async false
set_option linter.all false
set_option maxRecDepth 100000
set_option maxHeartbeats 4000000
namespace DS
open PySem L2 PySem.NumText
theorem elet : Str.ofString "abcdefghijklmnopqrstuvwxyz" = S lettersC := by decide +kernel
theorem cut_take (z : Cs) (n : Nat) : cutS (S z) none (some (n : Int)) = S (z.take n) := by
  unfold cutS
  rw [HT.sIx_none, HT.sIx_nat, S_cps, S_length]
  show S _ = S _
  congr 1
  rw [List.drop_zero, Nat.sub_zero]
  by_cases h : n ≤ z.length
  · rw [Nat.min_eq_left h]
  · rw [Nat.min_eq_right (by omega), List.take_length, List.take_of_length_le (by omega)]
theorem cut_drop (z : Cs) (n : Nat) : cutS (S z) (some (n : Int)) none = S (z.drop n) := by
  unfold cutS
  rw [HT.sIx_none, HT.sIx_nat, S_cps, S_length]
  show S _ = S _
  congr 1
  by_cases h : n ≤ z.length
  · rw [Nat.min_eq_left h, List.take_of_length_le (by rw [List.length_drop]; omega)]
  · rw [Nat.min_eq_right (by omega), List.drop_length, List.drop_eq_nil_of_le (by omega)]
    simp
/-- the law's words -/
def wordC (us : Cs) (at' first step k : Nat) : Cs := us.take at' ++ [97 + (first + step * k) % 26] ++ us.drop at'
def wordsC (us : Cs) (at' first step n : Nat) : List Cs := (List.range n).map (wordC us at' first step)
def stepL : List Nat := [1, 3, 5, 7, 9, 11, 15, 17]
theorem step_nodup : ∀ s ∈ stepL, ∀ f < 26, ((List.range 12).map fun k => (f + s * k) % 26).Nodup := by decide +kernel
theorem words_nodup {us : Cs} {at' first step : Nat} (hs : step ∈ stepL) (hf : first < 26) : (wordsC us at' first step 12).Nodup := by
  have h := step_nodup step hs first hf
  unfold wordsC
  unfold List.Nodup at h ⊢
  rw [List.pairwise_map] at h ⊢
  refine h.imp fun {x y} hne e => hne ?_
  unfold wordC at e
  simp only [List.append_assoc] at e
  have e := List.append_cancel_left e
  simp only [List.singleton_append, List.cons.injEq] at e
  have e := e.1
  show (first + step * x) % 26 = (first + step * y) % 26
  omega
theorem words_ok {us : Cs} {at' first step n : Nat} (hu : ∀ c ∈ us, c ∈ lettersC) (hl : us.length ≤ 7) : ∀ z ∈ wordsC us at' first step n, isWordC z = true := by
  intro z hz
  obtain ⟨k, _, rfl⟩ := List.mem_map.mp hz
  unfold isWordC wordC
  rw [Bool.and_eq_true, List.all_eq_true]
  refine ⟨decide_eq_true ?_, fun c hc => decide_eq_true ?_⟩
  · simp only [List.length_append, List.length_take, List.length_drop, List.length_cons, List.length_nil]
    omega
  · rcases List.mem_append.mp hc with hc | hc
    · rcases List.mem_append.mp hc with hc | hc
      · exact hu c (List.mem_of_mem_take hc)
      · simp only [List.mem_singleton] at hc
        have h26 : (first + step * k) % 26 < 26 := Nat.mod_lt _ (by decide)
        have all : ∀ j < 26, 97 + j ∈ lettersC := by decide
        rw [hc]
        exact all _ h26
    · exact hu c (List.mem_of_mem_drop hc)
section
variable {P : Program} {w : World} {K : PySem.W.Frag} {mg : Str → Option Value} {base : Heap}
abbrev sWords : Stmt := top 63
theorem scWords : FnScope ["_law_pen_here", "_law_many", "_law_letters", "_law_stem", "_law_at", "_law_first", "_law_step", "_law_front", "_law_back", "_law_k"] ["_law_pen_here", "_law_many"] (defScope sWords) := ⟨rfl, rfl, rfl, by decide +kernel, rfl, by decide +kernel, by decide +kernel⟩
def spWords : Sp := fun vs H Q _ => ∃ d c ns a r, vs = [.ref d, .int 12] ∧ PenAt H d c ns a r ∧ a + 1000 ≤ 2 ^ 30 ∧
  ∀ (D : Addr) (ws : List Str) a' r' H', ws.length = 12 → ws.Nodup → (∀ x ∈ ws, isWordC x.cps.toList = true) → H D = none → H' D = some (.lst (ws.map V.str)) → a' ≤ a + 20 → Sb d H H' → PenAt H' d c ns a' r' → Q (.ref D) H'
theorem ok_words {f : Addr} {fd : FuncData} {k : Nat} (B : Bn7 mg) (D1 : Cal P w K mg base CX0 1 "_law_draw" ["_law_pen_here", "_law_many"] [] spDraw) (D2 : Cal P w K mg base CX0 2 "_law_pick" ["_law_pen_here", "_law_items"] [] spPick) (F : Fun K "_law_words" "_law_words" sWords f fd) : FnOk P w K mg base CX0 (k + 3) f fd ["_law_pen_here", "_law_many"] spWords := by
  obtain ⟨f1, fd1, ds1, e1, k1, v1, b1, G1⟩ := D1.ex
  obtain ⟨f2, fd2, ds2, e2, k2, v2, b2, G2⟩ := D2.ex
  refine F.ok scWords (fun vs H Q E h => ?_) (fun cdv A outer s H vs Q E hr h => ?_)
  · obtain ⟨d, c, ns, a, r, rfl, _⟩ := h
    rfl
  · obtain ⟨d, c, ns, a, r, rfl, hp, ha, q⟩ := h
    refine ⟨_, (pss_cons (ps_set (i := 2) scWords.nd rfl (Or.inr rfl) pe_str)
      (pss_cons (ps_set (i := 3) scWords.nd rfl (Or.inl rfl) (pe_join pe_str (pe_lc (own := [("_law_k", 9)]) (g := gName 9) (tt := tYes) rfl scWords.nd (pi_range1 (by rfl) B.range (pa_cons (pe_call G1 (hr.mono (by omega)) rfl e1 k1 b1 v1 pass0 (pa_cons (pv 0) (pa_cons pe_int pa_nil))) pa_nil)) (blkOk_by (N := ["_law_pen_here", "_law_many", "_law_letters", "_law_stem", "_law_at", "_law_first", "_law_step", "_law_front", "_law_back", "_law_k"]) (sc := defScope sWords) (by decide +kernel)) (fun _ _ _ _ _ => (pg_name (i := 9) scWords.nd rfl (Or.inl rfl))) (fun _ _ _ _ _ => pts_nil) (fun _ _ _ _ _ => (pe_call G2 (hr.mono (by omega)) rfl e2 k2 b2 v2 pass0 (pa_cons (pv 0) (pa_cons (pv 2) pa_nil)))))))
      (pss_cons (ps_asg (pe_tup (pa_cons (pe_call G1 (hr.mono (by omega)) rfl e1 k1 b1 v1 pass0 (pa_cons (pv 0) (pa_cons (pe_op op_add (pe_callB call_len_str (by rfl) B.len PySem.boot_len (pa_cons (pv 3) pa_nil)) pe_int) pa_nil))) (pa_cons (pe_call G1 (hr.mono (by omega)) rfl e1 k1 b1 v1 pass0 (pa_cons (pv 0) (pa_cons pe_int pa_nil))) (pa_cons (pe_call G2 (hr.mono (by omega)) rfl e2 k2 b2 v2 pass0 (pa_cons (pv 0) (pa_cons (pe_lst (pa_cons pe_int (pa_cons pe_int (pa_cons pe_int (pa_cons pe_int (pa_cons pe_int (pa_cons pe_int (pa_cons pe_int (pa_cons pe_int pa_nil))))))))) pa_nil))) pa_nil)))) (pg_tup (by rfl) (pgs_cons (pg_name (i := 4) scWords.nd rfl (Or.inl rfl)) (pgs_cons (pg_name (i := 5) scWords.nd rfl (Or.inr rfl)) (pgs_cons (pg_name (i := 6) scWords.nd rfl (Or.inr rfl)) pgs_nil)))))
      (pss_cons (ps_asg (pe_tup (pa_cons (pe_slice sl_str (pv 3) po_none (po_some (pv 4))) (pa_cons (pe_slice sl_str (pv 3) (po_some (pv 4)) po_none) pa_nil))) (pg_tup (by rfl) (pgs_cons (pg_name (i := 7) scWords.nd rfl (Or.inr rfl)) (pgs_cons (pg_name (i := 8) scWords.nd rfl (Or.inr rfl)) pgs_nil))))
      (pss_one (ps_ret (pe_lc (own := [("_law_k", 9)]) (g := gName 9) (tt := tYes) rfl scWords.nd (pi_range1 (by rfl) B.range (pa_cons (pv 1) pa_nil)) (blkOk_by (N := ["_law_pen_here", "_law_many", "_law_letters", "_law_stem", "_law_at", "_law_first", "_law_step", "_law_front", "_law_back", "_law_k"]) (sc := defScope sWords) (by decide +kernel)) (fun _ _ _ _ _ => (pg_name (i := 9) scWords.nd rfl (Or.inl rfl))) (fun _ _ _ _ _ => pts_nil) (fun _ _ _ _ _ => (pe_op op_add_str (pe_op op_add_str (pv 7) (pe_ix (show IxR _ (rIx K) from ix_seq) (pv 2) (pe_op op_modN (pe_callTy call_int1 (by rfl) B.int PyProof.Rows.boot_int (pa_cons (pe_op op_add (pv 5) (pe_op op_mul (pv 6) (pv 9))) pa_nil)) pe_int) (fun _ _ => rfl))) (pv 8)))))))))), ?_⟩
    refine ⟨⟨_, rfl⟩, _, rfl, d, c, ns, a, r, _, rfl, hp, by omega, by decide, by decide, fun i a1 r1 H1 i0 i1 ha1 sb1 p1 => ?_⟩
    obtain ⟨n, rfl⟩ := Int.eq_ofNat_of_zero_le i0
    refine ⟨_, rfl, by omega, by omega, fun D hD => ?_⟩
    have ndD : d ≠ D := ne_of_none p1.dict hD
    have ncD : c ≠ D := ne_of_none p1.cells hD
    have fD : H D = none := sb_free sb1 hp.dict hD (by rw [p1.dict]; simp)
    refine lc_it (walk_range (lo := 0) (n := (n : Int).toNat)) (fun k H' => ∃ (us : Cs) (a' : Nat) (r' : Int), us.length = k ∧ (∀ x ∈ us, x ∈ lettersC) ∧ H' D = some (.lst (us.map fun x => V.str (S [x]))) ∧ a' ≤ a + 1 + k ∧ Sb d H H' ∧ PenAt H' d c ns a' r')
      ⟨[], a1, r1, rfl, by simp, upd_same, by omega, sb_new sb1 fD, pen_put p1 ndD ncD⟩ (fun _ _ _ _ => trivial) ?_ ?_
    · rintro i x H3 H4 hi ⟨us, a3, r3, hul, hus, hd3, ha3, sb3, p3⟩ ⟨rfl, rfl⟩
      refine ⟨rfl, ?_⟩
      refine ⟨_, rfl, _, rfl, d, c, ns, a3, r3, _, rfl, p3, by omega, .inl ⟨lettersC, by rw [elet], by decide, by decide, fun ch hch a4 r4 H4 ha4 sb4 p4 => ?_⟩⟩
      have hd4 := sb4 D _ hd3 ndD.symm
      refine ⟨_, hd4, small' (by rw [List.length_map]; omega), us ++ [ch], a4, r4, by simp [hul], ?_, by rw [upd_same]; simp, by omega, sb_new (sb3.trans sb4) fD, pen_put p4 ndD ncD⟩
      intro y hy
      rcases List.mem_append.mp hy with hy | hy
      · exact hus y hy
      · simp at hy; subst hy; exact hch
    · rintro H3 ⟨us, a3, r3, hul, hus, hd3, ha3, sb3, p3⟩
      rw [Int.toNat_natCast] at hul ha3
      have hu7 : us.length ≤ 7 := by omega
      have em : (us.map fun x => V.str (S [x])) = ((us.map fun x => [x]).map S).map V.str := by simp
      rw [em] at hd3
      refine ⟨_, D, (us.map fun x => [x]).map S, rfl, rfl, .inl (SqL.of hd3), ?_, ?_⟩
      · rw [sum_lens, flat_one, ofs_e, S_length]
        simp only [List.length_map, List.length_nil]
        omega
      rw [ofs_e, join_empty, flat_one]
      have hsl : (S us).length ≤ sizeLine := by rw [S_length]; exact small (by omega)
      refine ⟨_, rfl, _, rfl, _, rfl, hsl, _, _, rfl, rfl, d, c, ns, a3, r3, _, rfl, p3, by omega, by omega, by rw [S_length]; omega, fun i4 a4 r4 H4 i40 i41 ha4 sb4 p4 => ?_⟩
      obtain ⟨at', rfl⟩ := Int.eq_ofNat_of_zero_le i40
      refine ⟨_, rfl, d, c, ns, a4, r4, _, rfl, p4, by omega, by decide, by decide, fun i5 a5 r5 H5 i50 i51 ha5 sb5 p5 => ?_⟩
      obtain ⟨first, rfl⟩ := Int.eq_ofNat_of_zero_le i50
      refine ⟨_, rfl, (by show 8 ≤ sizeLine; decide), fun l1 hl1 => ?_⟩
      have s6 := same_new hl1 (.lst [.int 1, .int 3, .int 5, .int 7, .int 9, .int 11, .int 15, .int 17])
      refine ⟨d, c, ns, a5, r5, _, rfl, pen_same p5 s6, by omega, .inr ⟨l1, _, rfl, upd_same, by simp, by show 8 ≤ 1000; decide, fun x hx a6 r6 H6 ha6 sb6 p6 => ⟨(by show 3 ≤ sizeLine; decide), fun tp htp => ⟨tp, _, rfl, SqT.of upd_same, rfl, _, _, rfl, _, _, rfl, _, [], rfl, rfl, ?_⟩⟩⟩⟩
      have hxs : ∃ step : Nat, x = .int (step : Int) ∧ step ∈ stepL := by
        simp only [List.mem_cons, List.not_mem_nil, or_false] at hx
        rcases hx with rfl | rfl | rfl | rfl | rfl | rfl | rfl | rfl
        · exact ⟨1, rfl, by decide⟩
        · exact ⟨3, rfl, by decide⟩
        · exact ⟨5, rfl, by decide⟩
        · exact ⟨7, rfl, by decide⟩
        · exact ⟨9, rfl, by decide⟩
        · exact ⟨11, rfl, by decide⟩
        · exact ⟨15, rfl, by decide⟩
        · exact ⟨17, rfl, by decide⟩
      obtain ⟨step, rfl, hst⟩ := hxs
      have hst17 : step ≤ 17 := by
        have : ∀ s ∈ stepL, s ≤ 17 := by decide
        exact this step hst
      have s7 := same_new htp (.tup [.int (at' : Int), .int (first : Int), .int (step : Int)])
      have p7 := pen_same p6 s7
      have sb7 := (((((sb3.trans sb4).trans sb5).trans (Same.sb s6)).trans sb6).trans (Same.sb s7))
      generalize upd H6 tp (.tup [.int (at' : Int), .int (first : Int), .int (step : Int)]) = H7 at p7 sb7
      refine ⟨_, rfl, _, rfl, _, rfl, _, rfl, hsl, _, rfl, _, rfl, _, rfl, _, rfl, hsl, (by show 2 ≤ sizeLine; decide), fun tq htq => ⟨tq, _, rfl, SqT.of upd_same, rfl, _, _, rfl, _, [], rfl, rfl, ?_⟩⟩
      rw [cut_take, cut_drop]
      have s8 := same_new htq (.tup [.str (S (us.take at')), .str (S (us.drop at'))])
      have p8 := pen_same p7 s8
      have sb8 := sb7.trans (Same.sb s8)
      generalize upd H7 tq (.tup [.str (S (us.take at')), .str (S (us.drop at'))]) = H8 at p8 sb8
      refine ⟨_, rfl, _, rfl, by decide, by decide, fun W hW => ?_⟩
      have ndW : d ≠ W := ne_of_none p8.dict hW
      have ncW : c ≠ W := ne_of_none p8.cells hW
      have fW : H W = none := sb_free sb8 hp.dict hW (by rw [p8.dict]; simp)
      refine lc_it (walk_range (lo := 0) (n := (12 : Int).toNat)) (fun k H' => H' W = some (.lst (((wordsC us at' first step k).map S).map V.str)) ∧ Sb d H H' ∧ PenAt H' d c ns a6 r6)
        ⟨by rw [upd_same]; rfl, sb_new sb8 fW, pen_put p8 ndW ncW⟩ (fun _ _ _ _ => trivial) ?_ ?_
      · rintro i x H9 H10 hi ⟨hw9, sb9, p9⟩ ⟨rfl, rfl⟩
        have hi12 : i < 12 := hi
        have em : Int.fmod ((first : Int) + (step : Int) * (0 + (i : Int))) 26 = (((first + step * i) % 26 : Nat) : Int) := by
          rw [Int.fmod_eq_emod_of_nonneg _ (by decide), Int.zero_add, ← Int.natCast_mul, ← Int.natCast_add]
          rfl
        have h26 : (first + step * i) % 26 < 26 := Nat.mod_lt _ (by decide)
        refine ⟨rfl, ?_⟩
        refine ⟨_, rfl, _, rfl, _, rfl, _, rfl, _, rfl, _, _, rfl, rfl, .inl (by omega), _, _, rfl, rfl, .inl ⟨_, rfl, _, _, rfl, rfl, nz (n := 26) (by decide), ?_⟩⟩
        refine .inr (.inr ⟨S lettersC, _, 97 + (first + step * i) % 26, by rw [elet], rfl, by rw [S_length]; exact small (by decide), ?_, ?_⟩)
        · rw [em]
          refine atI_nat ?_
          rw [S_cps]
          have all : ∀ j < 26, lettersC[j]? = some (97 + j) := by decide
          exact all _ h26
        refine ⟨_, _, rfl, rfl, by rw [one_S, S_length, S_length]; exact small (by simp; omega), _, rfl, _, _, rfl, rfl, ?_, ?_⟩
        · rw [one_S, S_append, S_length, S_length]
          exact small (by simp; omega)
        rw [one_S, S_append, S_append]
        have lw : (((wordsC us at' first step i).map S).map V.str).length = i := by simp [wordsC]
        refine ⟨_, hw9, small' (by omega), ?_, sb_new sb9 fW, pen_put p9 ndW ncW⟩
        rw [upd_same]
        unfold wordsC
        rw [List.range_succ]
        simp [wordC]
      · rintro H9 ⟨hw9, sb9, p9⟩
        have h12 : (12 : Int).toNat = 12 := rfl
        rw [h12] at hw9
        refine q W ((wordsC us at' first step 12).map S) a6 r6 H9 (by simp [wordsC]) ?_ ?_ fW hw9 (by omega) sb9 p9
        · have := words_nodup (us := us) (at' := at') hst (by omega : first < 26)
          unfold List.Nodup at this ⊢
          rw [List.pairwise_map]
          exact this.imp fun hne e => hne (S_inj e)
        · intro x hx
          obtain ⟨z, hz, rfl⟩ := List.mem_map.mp hx
          exact words_ok hus hu7 z hz
end
end DS
set_option Elab.async false
set_option linter.all false
set_option maxRecDepth 100000
set_option maxHeartbeats 4000000
namespace DS
open PySem L2 PySem.NumText
theorem ofs_z : Str.ofString "z" = S [122] := by decide +kernel
theorem ofs_a1 : Str.ofString "a" = S [97] := by decide +kernel
theorem ofs_abc : Str.ofString "abc" = S [97, 98, 99] := by decide +kernel
theorem p30 : (0 : Int) ≤ 30 ∧ (30 : Int) ≤ 1000000 ∧ (10 : Int).natAbs < 2 ^ 64 := by decide
theorem p15 : (0 : Int) ≤ 15 ∧ (15 : Int) ≤ 1000000 ∧ (10 : Int).natAbs < 2 ^ 64 := by decide
def intsL (x y : Int) : List V := [.int 0, .int 1, .int (-1), .int 2, .int 7, .int (x - 4), .int (y - 50), .int (10 ^ (30 : Int).toNat), .int (0 - 10 ^ (30 : Int).toNat), .int (10 ^ (30 : Int).toNat - 1)]
theorem e30 : (10 : Int) ^ (30 : Int).toNat = 10 ^ 30 := rfl
theorem e15 : (10 : Int) ^ (15 : Int).toNat = 10 ^ 15 := rfl
def textsL : List Str := ["", "a", "b", "ab", "A", " ", S (List.replicate 40 122), S (List.replicate 39 97), "\"", "\\", "~", "a b"]
theorem texts_ok : ∀ x ∈ textsL, x.cps.toList.length ≤ 40 ∧ ∀ c ∈ x.cps.toList, c ∈ sgnList := by decide +kernel
theorem abc_sgn : ∀ c ∈ ([97, 98, 99] : Cs), c ∈ sgnList := by decide +kernel
section
variable {P : Program} {w : World} {K : PySem.W.Frag} {mg : Str → Option Value} {base : Heap}
abbrev sInt : Stmt := top 64
theorem scInt : FnScope ["_law_pen_here", "_law_some"] ["_law_pen_here"] (defScope sInt) := ⟨rfl, rfl, rfl, by decide +kernel, rfl, by decide +kernel, by decide +kernel⟩
def spInt : Sp := fun vs H Q _ => ∃ d c ns a r, vs = [.ref d] ∧ PenAt H d c ns a r ∧ a + 1000 ≤ 2 ^ 30 ∧
  ∀ (i : Int) a' r' H', -(10 ^ 30) ≤ i → i ≤ 10 ^ 30 → a' ≤ a + 3 → Sb d H H' → PenAt H' d c ns a' r' → Q (.int i) H'
theorem ok_int {f : Addr} {fd : FuncData} {k : Nat} (D1 : Cal P w K mg base CX0 1 "_law_draw" ["_law_pen_here", "_law_many"] [] spDraw) (D2 : Cal P w K mg base CX0 2 "_law_pick" ["_law_pen_here", "_law_items"] [] spPick) (F : Fun K "_law_int" "_law_int" sInt f fd) : FnOk P w K mg base CX0 (k + 3) f fd ["_law_pen_here"] spInt := by
  obtain ⟨f1, fd1, ds1, e1, k1, v1, b1, G1⟩ := D1.ex
  obtain ⟨f2, fd2, ds2, e2, k2, v2, b2, G2⟩ := D2.ex
  refine F.ok scInt (fun vs H Q E h => ?_) (fun cdv A outer s H vs Q E hr h => ?_)
  · obtain ⟨d, c, ns, a, r, rfl, _⟩ := h
    rfl
  · obtain ⟨d, c, ns, a, r, rfl, hp, ha, q⟩ := h
    refine ⟨_, (pss_cons (ps_set (i := 1) scInt.nd rfl (Or.inl rfl) (pe_lst (pa_cons pe_int (pa_cons pe_int (pa_cons (pe_un un_neg pe_int) (pa_cons pe_int (pa_cons pe_int (pa_cons (pe_op op_sub (pe_call G1 (hr.mono (by omega)) rfl e1 k1 b1 v1 pass0 (pa_cons (pv 0) (pa_cons pe_int pa_nil))) pe_int) (pa_cons (pe_op op_sub (pe_call G1 (hr.mono (by omega)) rfl e1 k1 b1 v1 pass0 (pa_cons (pv 0) (pa_cons pe_int pa_nil))) pe_int) (pa_cons (pe_op op_pow pe_int pe_int) (pa_cons (pe_op op_sub pe_int (pe_op op_pow pe_int pe_int)) (pa_cons (pe_op op_sub (pe_op op_pow pe_int pe_int) pe_int) pa_nil))))))))))))
      (pss_one (ps_ret (pe_call G2 (hr.mono (by omega)) rfl e2 k2 b2 v2 pass0 (pa_cons (pv 0) (pa_cons (pe_op op_cat (pv 1) (pe_lst (pa_cons (pe_op op_pow pe_int pe_int) (pa_cons (pe_op op_sub (pe_op op_sub pe_int (pe_op op_pow pe_int pe_int)) pe_int) pa_nil)))) pa_nil)))))), ?_⟩
    refine ⟨_, rfl, _, rfl, d, c, ns, a, r, _, rfl, hp, by omega, by decide, by decide, fun x a1 r1 H1 x0 x1 ha1 sb1 p1 => ⟨_, _, rfl, rfl, ?_⟩⟩
    refine ⟨_, rfl, d, c, ns, a1, r1, _, rfl, p1, by omega, by decide, by decide, fun y a2 r2 H2 y0 y1 ha2 sb2 p2 => ⟨_, _, rfl, rfl, ?_⟩⟩
    refine ⟨_, _, rfl, rfl, p30, _, _, rfl, rfl, p30, _, _, rfl, rfl, _, _, rfl, rfl, p30, _, _, rfl, rfl, (by show 10 ≤ sizeLine; decide), fun l1 hl1 => ?_⟩
    have s3 := same_new hl1 (.lst (intsL x y))
    refine ⟨_, rfl, _, rfl, _, _, rfl, rfl, p15, _, _, rfl, rfl, p15, _, _, rfl, rfl, _, _, rfl, rfl, (by show 2 ≤ sizeLine; decide), fun l2 hl2 => ?_⟩
    have s4 := same_new hl2 (.lst [.int (10 ^ (15 : Int).toNat), .int (0 - 10 ^ (15 : Int).toNat - 1)])
    refine ⟨l1, l2, intsL x y, _, rfl, rfl, s4 _ _ upd_same, upd_same, by show 12 ≤ sizeLine; decide, fun l3 hl3 => ?_⟩
    have s5 := same_new hl3 (.lst (intsL x y ++ [.int (10 ^ (15 : Int).toNat), .int (0 - 10 ^ (15 : Int).toNat - 1)]))
    have sA := (s3.trans s4).trans s5
    refine ⟨d, c, ns, a2, r2, _, rfl, pen_same p2 sA, by omega, .inr ⟨l3, _, rfl, upd_same, by simp, by show 12 ≤ 1000; decide, fun v hv a6 r6 H6 ha6 sb6 p6 => ?_⟩⟩
    have fin : ∀ {i : Int}, v = .int i → -(10 ^ 30) ≤ i → i ≤ 10 ^ 30 → Q v H6 := fun {i} e h1 h2 => by
      subst e
      exact q i a6 r6 H6 h1 h2 (by omega) (((sb1.trans sb2).trans (Same.sb sA)).trans sb6) p6
    simp only [intsL, List.cons_append, List.nil_append, List.mem_cons, List.not_mem_nil, or_false, e30, e15] at hv
    rcases hv with rfl | rfl | rfl | rfl | rfl | rfl | rfl | rfl | rfl | rfl | rfl | rfl <;> exact fin rfl (by omega) (by omega)
abbrev sText : Stmt := top 65
theorem scText : FnScope ["_law_pen_here", "_law_some"] ["_law_pen_here"] (defScope sText) := ⟨rfl, rfl, rfl, by decide +kernel, rfl, by decide +kernel, by decide +kernel⟩
def spText : Sp := fun vs H Q _ => ∃ d c ns a r, vs = [.ref d] ∧ PenAt H d c ns a r ∧ a + 1000 ≤ 2 ^ 30 ∧
  ∀ (x : Str) a' r' H', x.cps.toList.length ≤ 40 → (∀ c ∈ x.cps.toList, c ∈ sgnList) → a' ≤ a + 3 → Sb d H H' → PenAt H' d c ns a' r' → Q (.str x) H'
theorem ok_text {f : Addr} {fd : FuncData} {k : Nat} (D1 : Cal P w K mg base CX0 1 "_law_draw" ["_law_pen_here", "_law_many"] [] spDraw) (D2 : Cal P w K mg base CX0 2 "_law_pick" ["_law_pen_here", "_law_items"] [] spPick) (F : Fun K "_law_text" "_law_text" sText f fd) : FnOk P w K mg base CX0 (k + 3) f fd ["_law_pen_here"] spText := by
  obtain ⟨f1, fd1, ds1, e1, k1, v1, b1, G1⟩ := D1.ex
  obtain ⟨f2, fd2, ds2, e2, k2, v2, b2, G2⟩ := D2.ex
  refine F.ok scText (fun vs H Q E h => ?_) (fun cdv A outer s H vs Q E hr h => ?_)
  · obtain ⟨d, c, ns, a, r, rfl, _⟩ := h
    rfl
  · obtain ⟨d, c, ns, a, r, rfl, hp, ha, q⟩ := h
    refine ⟨_, (pss_cons (ps_set (i := 1) scText.nd rfl (Or.inl rfl) (pe_lst (pa_cons pe_str (pa_cons pe_str (pa_cons pe_str (pa_cons pe_str (pa_cons pe_str (pa_cons pe_str (pa_cons (pe_op op_repS pe_str pe_int) (pa_cons (pe_op op_repS pe_str pe_int) (pa_cons pe_str (pa_cons pe_str (pa_cons pe_str (pa_cons pe_str pa_nil))))))))))))))
      (pss_one (ps_ret (pe_ifExp (pt_cmpR op_gt (pe_call G1 (hr.mono (by omega)) rfl e1 k1 b1 v1 pass0 (pa_cons (pv 0) (pa_cons pe_int pa_nil))) pe_int (nomark _)) (pe_call G2 (hr.mono (by omega)) rfl e2 k2 b2 v2 pass0 (pa_cons (pv 0) (pa_cons (pv 1) pa_nil))) (pe_op op_repS (pe_call G2 (hr.mono (by omega)) rfl e2 k2 b2 v2 pass0 (pa_cons (pv 0) (pa_cons pe_str pa_nil))) (pe_call G1 (hr.mono (by omega)) rfl e1 k1 b1 v1 pass0 (pa_cons (pv 0) (pa_cons pe_int pa_nil)))))))), ?_⟩
    refine ⟨122, 40, by rw [ofs_z], rfl, by decide, 97, 39, by rw [ofs_a1], rfl, by decide, (by show 12 ≤ sizeLine; decide), fun l1 hl1 => ?_⟩
    have s1 := same_new hl1 (.lst (textsL.map V.str))
    have p1 := pen_same hp s1
    refine ⟨_, rfl, d, c, ns, a, r, _, rfl, p1, by omega, by decide, by decide, fun x a2 r2 H2 x0 x1 ha2 sb2 p2 => ⟨_, _, rfl, rfl, _, rfl, ?_⟩⟩
    have m2 := sb2 _ _ (upd_same : (upd H l1 (.lst (textsL.map V.str))) l1 = _) (ne_of_none hp.dict hl1).symm
    refine ite2 (fun _ => ?_) (fun _ => ?_)
    · refine ⟨_, rfl, _, rfl, d, c, ns, a2, r2, _, rfl, p2, by omega, .inr ⟨l1, _, rfl, m2, by simp [textsL], by show 12 ≤ 1000; decide, fun v hv a3 r3 H3 ha3 sb3 p3 => ?_⟩⟩
      obtain ⟨x, hx, rfl⟩ := List.mem_map.mp hv
      exact q x a3 r3 H3 (texts_ok x hx).1 (texts_ok x hx).2 (by omega) (((Same.sb s1).trans sb2).trans sb3) p3
    · refine ⟨_, rfl, d, c, ns, a2, r2, _, rfl, p2, by omega, .inl ⟨[97, 98, 99], by rw [ofs_abc], by decide, by decide, fun ch hch a3 r3 H3 ha3 sb3 p3 => ?_⟩⟩
      refine ⟨_, rfl, d, c, ns, a3, r3, _, rfl, p3, by omega, by decide, by decide, fun y a4 r4 H4 y0 y1 ha4 sb4 p4 => ?_⟩
      obtain ⟨n, rfl⟩ := Int.eq_ofNat_of_zero_le y0
      refine ⟨ch, n, rfl, rfl, by omega, q _ a4 r4 H4 ?_ ?_ (by omega) ((((Same.sb s1).trans sb2).trans sb3).trans sb4) p4⟩
      · rw [S_cps, List.length_replicate]; omega
      · intro z hz
        rw [S_cps] at hz
        rw [(List.mem_replicate.mp hz).2]
        exact abc_sgn ch hch
/-- a plain value of a kind, or NULL -/
structure Plain (k : Str) (v : V) (t : PyData) : Prop where
  dp : ∀ (K : PySem.W.Frag) (H : Hp), Dp K H v t
  val : t = .none ∨ kvM t = some k
  good : good t
  short : short t
  hgt : hgt t = 1
  cnt : cnt t = 1
theorem plain_non {k : Str} : Plain k .non .none := ⟨fun _ _ => .non, .inl rfl, by simp [DS.good], by simp [DS.short], by simp [DS.hgt], by simp [DS.cnt]⟩
theorem plain_bl (b : Bool) : Plain "truth" (.bl b) (.bool b) := ⟨fun _ _ => .bl b, .inr rfl, by simp [DS.good], by simp [DS.short], by simp [DS.hgt], by simp [DS.cnt]⟩
theorem plain_int {i : Int} (h1 : -(10 ^ 30) ≤ i) (h2 : i ≤ 10 ^ 30) : Plain "int" (.int i) (.int i) :=
  ⟨fun _ _ => .int i, .inr (by simp only [kvM, if_pos (And.intro h1 h2)]), by simp only [DS.good]; omega, by simp [DS.short], by simp [DS.hgt], by simp [DS.cnt]⟩
theorem plain_str {x : Str} (h1 : x.cps.toList.length ≤ 40) (h2 : ∀ c ∈ x.cps.toList, c ∈ sgnList) : Plain "text" (.str x) (.str x) :=
  ⟨fun _ _ => .str x, .inr (by simp only [kvM, if_pos h1]), by simpa only [DS.good] using h2, by simp only [DS.short]; omega, by simp [DS.hgt], by simp [DS.cnt]⟩
abbrev sPlainL : Stmt := top 66
theorem scPlainL : FnScope ["_law_pen_here", "_law_kind_here"] ["_law_pen_here", "_law_kind_here"] (defScope sPlainL) := ⟨rfl, rfl, rfl, by decide +kernel, rfl, by decide +kernel, by decide +kernel⟩
def spPlainL : Sp := fun vs H Q _ => ∃ d c ns a r k, vs = [.ref d, .str k] ∧ k ∈ kindsL ∧ PenAt H d c ns a r ∧ a + 2000 ≤ 2 ^ 30 ∧
  ∀ v t a' r' H', Plain k v t → a' ≤ a + 5 → Sb d H H' → PenAt H' d c ns a' r' → Q v H'
theorem ok_plainL {f : Addr} {fd : FuncData} {k : Nat} (D1 : Cal P w K mg base CX0 1 "_law_draw" ["_law_pen_here", "_law_many"] [] spDraw) (D2 : Cal P w K mg base CX0 3 "_law_int" ["_law_pen_here"] [] spInt) (D3 : Cal P w K mg base CX0 3 "_law_text" ["_law_pen_here"] [] spText) (F : Fun K "_law_plain" "_law_plain" sPlainL f fd) : FnOk P w K mg base CX0 (k + 4) f fd ["_law_pen_here", "_law_kind_here"] spPlainL := by
  obtain ⟨f1, fd1, ds1, e1, k1, v1, b1, G1⟩ := D1.ex
  obtain ⟨f2, fd2, ds2, e2, k2, v2, b2, G2⟩ := D2.ex
  obtain ⟨f3, fd3, ds3, e3, k3, v3, b3, G3⟩ := D3.ex
  refine F.ok scPlainL (fun vs H Q E h => ?_) (fun cdv A outer s H vs Q E hr h => ?_)
  · obtain ⟨d, c, ns, a, r, kd, rfl, _⟩ := h
    rfl
  · obtain ⟨d, c, ns, a, r, kd, rfl, hk, hp, ha, q⟩ := h
    refine ⟨_, (pss_cons (ps_if (pt_cmpR op_eq (pe_call G1 (hr.mono (by omega)) rfl e1 k1 b1 v1 pass0 (pa_cons (pv 0) (pa_cons pe_int pa_nil))) pe_int (nomark _)) (pss_one (ps_ret pe_non)) pss_nil)
      (pss_cons (ps_if (pt_cmpR op_eq (pv 1) pe_str (nomark _)) (pss_one (ps_ret (pe_call G2 (hr.mono (by omega)) rfl e2 k2 b2 v2 pass0 (pa_cons (pv 0) pa_nil)))) pss_nil)
      (pss_one (ps_ret (pe_ifExp (pt_cmpR op_eq (pv 1) pe_str (nomark _)) (pe_call G3 (hr.mono (by omega)) rfl e3 k3 b3 v3 pass0 (pa_cons (pv 0) pa_nil)) (pe_cmpR op_eq (pe_call G1 (hr.mono (by omega)) rfl e1 k1 b1 v1 pass0 (pa_cons (pv 0) (pa_cons pe_int pa_nil))) pe_int (nomark _))))))), ?_⟩
    refine ⟨_, rfl, d, c, ns, a, r, _, rfl, hp, by omega, by decide, by decide, fun x a1 r1 H1 x0 x1 ha1 sb1 p1 => ⟨rfl, _, rfl, ?_⟩⟩
    refine ite2 (fun _ => q _ _ a1 r1 H1 plain_non (by omega) sb1 p1) (fun _ => ?_)
    simp only [kindsL, List.mem_cons, List.mem_nil_iff, or_false] at hk
    rcases hk with rfl | rfl | rfl
    · refine ⟨_, rfl, rfl, _, rfl, ifT (eqS _) ⟨_, rfl, d, c, ns, a1, r1, rfl, p1, by omega, fun i a2 r2 H2 h1 h2 ha2 sb2 p2 => ?_⟩⟩
      exact q _ _ a2 r2 H2 (plain_int h1 h2) (by omega) (sb1.trans sb2) p2
    · refine ⟨_, rfl, rfl, _, rfl, ifF (neS (by decide)) ⟨_, rfl, rfl, _, rfl, ifT (eqS _) ⟨_, rfl, d, c, ns, a1, r1, rfl, p1, by omega, fun x a2 r2 H2 h1 h2 ha2 sb2 p2 => ?_⟩⟩⟩
      exact q _ _ a2 r2 H2 (plain_str h1 h2) (by omega) (sb1.trans sb2) p2
    · refine ⟨_, rfl, rfl, _, rfl, ifF (neS (by decide)) ⟨_, rfl, rfl, _, rfl, ifF (neS (by decide)) ⟨_, rfl, d, c, ns, a1, r1, _, rfl, p1, by omega, by decide, by decide, fun y a2 r2 H2 y0 y1 ha2 sb2 p2 => ⟨rfl, ?_⟩⟩⟩⟩
      exact q _ _ a2 r2 H2 (plain_bl _) (by omega) (sb1.trans sb2) p2
end
end DS
set_option Elab.async false
set_option linter.all false
set_option maxRecDepth 100000
set_option maxHeartbeats 4000000
namespace DS
open PySem L2 PySem.NumText
/-- only words are in the dict -/
def KdW (l : Kinds) : Prop := ∀ x y, l.lookup x = some y → isWordC x.cps.toList = true
theorem look_some {x y : Str} : ∀ {l : Kinds}, (x, y) ∈ l → ∃ z, l.lookup x = some z
  | [], h => nomatch h
  | (a, b) :: l, h => by
    rw [List.lookup_cons]
    by_cases e : x = a
    · subst e; exact ⟨b, by simp⟩
    · rw [beq_eq_false_iff_ne.mpr e]
      rcases List.mem_cons.mp h with h | h
      · cases h; exact absurd rfl e
      · exact look_some h
theorem same_lock {H H2 : Hp} {ka : Addr} {u : HO} {od : Obj} (h : H ka = some u) (s : Same (upd H ka (.frz od u)) H2) : Same H (upd H2 ka u) := fun b o e => by
  by_cases hb : b = ka
  · subst hb; rw [upd_same]; rw [h] at e; exact e
  · rw [upd_ne hb]
    exact s b o (by rw [upd_ne hb]; exact e)
theorem place_ne_kd {ka sh co va ta sq : Addr} {l : Kinds} : placeK ka sh co va ta sq ≠ kdKV l := fun e => by
  cases l with
  | nil => cases e
  | cons x l =>
    have := congrArg List.head? e
    simp [placeK, kdKV] at this
theorem pen_ne_kd {c : Addr} {a r : Int} {l : Kinds} : penK c a r ≠ kdKV l := fun e => by
  cases l with
  | nil => cases e
  | cons x l =>
    have := congrArg List.head? e
    simp [penK, kdKV] at this
theorem pen_ne_place {c : Addr} {a r : Int} {ka sh co va ta sq : Addr} : penK c a r ≠ placeK ka sh co va ta sq := fun e => by
  have := congrArg List.length e
  simp [penK, placeK] at this
theorem PlaceAt.sb {cols vars : Kinds} {H H' : Hp} {p d c : Addr} {ns : List Int} {a : Nat} {r : Int} (h : PlaceAt cols vars H p) (hp : PenAt H d c ns a r) (s : Sb d H H') : PlaceAt cols vars H' p := by
  obtain ⟨ka, sh, co, va, ta, sq, h1, h2, h3, h4, h5, h6, h7⟩ := h.ex
  have nk : ∀ {b : Addr} {l : Kinds}, H b = some (.dK (kdKV l)) → b ≠ d := fun e z => by
    subst z
    rw [hp.dict] at e
    injection e with e
    injection e with e
    exact pen_ne_kd e
  have nd : ∀ {b : Addr}, H b = some (.dK []) → b ≠ d := fun e => nk (l := []) e
  refine ⟨ka, sh, co, va, ta, sq, s _ _ h1 fun z => ?_, s _ _ h2 (nk h2), s _ _ h3 (nd h3), s _ _ h4 (nk h4), s _ _ h5 (nk h5), s _ _ h6 (nd h6), s _ _ h7 (ne_of h7 hp.dict (by intro z; cases z))⟩
  subst z
  rw [hp.dict] at h1
  injection h1 with h1
  injection h1 with h1
  exact pen_ne_place h1
def wordsOf (cols : Kinds) (k : Str) (i : Nat) : List Str := ((cols.take i).filter fun e => decide (cols.lookup e.1 = some k)).map (·.1)
theorem wordsOf_mem {cols : Kinds} {k : Str} {i : Nat} : ∀ x ∈ wordsOf cols k i, cols.lookup x = some k := by
  intro x hx
  obtain ⟨e, he, rfl⟩ := List.mem_map.mp hx
  exact of_decide_eq_true (List.mem_filter.mp he).2
theorem wordsOf_succ {cols : Kinds} {k : Str} {i : Nat} {x y : Str} (h : cols[i]? = some (x, y)) : wordsOf cols k (i + 1) = wordsOf cols k i ++ (if cols.lookup x = some k then [x] else []) := by
  unfold wordsOf
  rw [List.take_add_one, h]
  by_cases e : cols.lookup x = some k <;> simp [e]
theorem wordsOf_len {cols : Kinds} {k : Str} {i : Nat} : (wordsOf cols k i).length ≤ cols.length := by
  unfold wordsOf
  rw [List.length_map]
  have h1 := List.length_filter_le (fun e => decide (cols.lookup e.1 = some k)) (cols.take i)
  rw [List.length_take] at h1
  omega
/-- a drawn tree -/
structure GenT (cols vars : Kinds) (k : Str) (n m : Nat) (t : PyData) : Prop where
  gen : Gen cols vars k t
  hgt : hgt t ≤ n
  cnt : cnt t ≤ m
theorem gen_leafV {cols vars : Kinds} {k : Str} {v : V} {t : PyData} (h : Plain k v t) : GenT cols vars k 2 3 (.tuple [.str "value", t]) := by
  refine ⟨.val h.val h.good, ?_, ?_⟩
  · simp only [DS.hgt, DS.hgtAll, h.hgt]; omega
  · simp only [DS.cnt, DS.cntAll, h.cnt]; omega
theorem gen_leafC {cols vars : Kinds} {k x : Str} (h : cols.lookup x = some k) (hw : isWordC x.cps.toList = true) : GenT cols vars k 2 3 (.tuple [.str "col", .str x]) := by
  refine ⟨.col h hw, ?_, ?_⟩
  · simp only [DS.hgt, DS.hgtAll]; omega
  · simp only [DS.cnt, DS.cntAll]; omega
section
variable {P : Program} {w : World} {K : PySem.W.Frag} {mg : Str → Option Value} {base : Heap}
abbrev sLeaf : Stmt := top 67
theorem scLeaf : FnScope ["_law_pen_here", "_law_kind_here", "_law_place", "_law_words_here", "_law_word"] ["_law_pen_here", "_law_kind_here", "_law_place"] (defScope sLeaf) := ⟨rfl, rfl, rfl, by decide +kernel, rfl, by decide +kernel, by decide +kernel⟩
def spLeaf (K : PySem.W.Frag) (cols vars : Kinds) : Sp := fun vs H Q _ => ∃ d c ns a r k p, vs = [.ref d, .str k, .ref p] ∧ k ∈ kindsL ∧ PenAt H d c ns a r ∧ a + 3000 ≤ 2 ^ 30 ∧ PlaceAt cols vars H p ∧
  ∀ v t a' r' H', Dp K H' v t → GenT cols vars k 2 3 t → a' ≤ a + 10 → Sb d H H' → PenAt H' d c ns a' r' → Q v H'
theorem ok_leaf {f : Addr} {fd : FuncData} {k : Nat} {cols vars : Kinds} (hcW : KdW cols) (hcl : cols.length ≤ 1000) (D1 : Cal P w K mg base CX0 1 "_law_draw" ["_law_pen_here", "_law_many"] [] spDraw) (D2 : Cal P w K mg base CX0 2 "_law_pick" ["_law_pen_here", "_law_items"] [] spPick) (D3 : Cal P w K mg base CX0 4 "_law_plain" ["_law_pen_here", "_law_kind_here"] [] spPlainL) (F : Fun K "_law_leaf" "_law_leaf" sLeaf f fd) : FnOk P w K mg base CX0 (k + 5) f fd ["_law_pen_here", "_law_kind_here", "_law_place"] (spLeaf K cols vars) := by
  obtain ⟨f1, fd1, ds1, e1, k1, v1, b1, G1⟩ := D1.ex
  obtain ⟨f2, fd2, ds2, e2, k2, v2, b2, G2⟩ := D2.ex
  obtain ⟨f3, fd3, ds3, e3, k3, v3, b3, G3⟩ := D3.ex
  refine F.ok scLeaf (fun vs H Q E h => ?_) (fun cdv A outer s H vs Q E hr h => ?_)
  · obtain ⟨d, c, ns, a, r, kd, p, rfl, _⟩ := h
    rfl
  · obtain ⟨d, c, ns, a, r, kd, p, rfl, hk, hp, ha, hP, q⟩ := h
    have hu : (A.deeper (PyProof.Rows.envOfC "_law_leaf" (defScope sLeaf) s.heap.objs.size f cdv)).units + 64 < cLine := hr.units
    have hu1 : (A.deeper (PyProof.Rows.envOfC "_law_leaf" (defScope sLeaf) s.heap.objs.size f cdv)).units + 1 < cLine := by omega
    refine ⟨_, (pss_cons (ps_lock (ps_setLc (i := 3) (own := [("_law_word", 4)]) (g := gName 4) (tt := tTest (tOp rEq (tDGet (tDGet (tVar 2) (tC (.str "kinds"))) (tVar 4)) (tVar 1))) rfl scLeaf.nd rfl rfl (sw_true rfl rfl rfl (by decide +kernel)) (pi_keys (pe_dget hu1 (pv 2) pe_str (fun _ _ => rfl))) (blkOk_by (N := ["_law_pen_here", "_law_kind_here", "_law_place", "_law_words_here", "_law_word"]) (sc := defScope sLeaf) (by decide +kernel)) (fun _ _ _ _ _ => (pg_name (i := 4) scLeaf.nd rfl (Or.inl rfl))) (fun _ _ _ _ _ => pts_one (pt_cmpR op_eq (pe_dget hu1 (pe_dget hu1 (pv 2) pe_str (fun _ _ => rfl)) (pv 4) (fun _ _ => rfl)) (pv 1) (nomark _))) (fun _ _ _ _ _ => (pv 4))))
      (pss_cons (ps_if (PW.pt (pw_and (pt_cmpR (op_neD hu) (pv 3) (pe_lst pa_nil) (nomark _)) (pw_and1 (pt_cmpR op_eq (pe_call G1 (hr.mono (by omega)) rfl e1 k1 b1 v1 pass0 (pa_cons (pv 0) (pa_cons pe_int pa_nil))) pe_int (nomark _))))) (pss_one (ps_ret (pe_tup (pa_cons pe_str (pa_cons (pe_call G2 (hr.mono (by omega)) rfl e2 k2 b2 v2 pass0 (pa_cons (pv 0) (pa_cons (pv 3) pa_nil))) pa_nil))))) pss_nil)
      (pss_one (ps_ret (pe_tup (pa_cons pe_str (pa_cons (pe_call G3 (hr.mono (by omega)) rfl e3 k3 b3 v3 pass0 (pa_cons (pv 0) (pa_cons (pv 1) pa_nil))) pa_nil))))))), ?_⟩
    obtain ⟨ka, sh, co, va, ta, sq, h1, h2, h3, h4, h5, h6, h7⟩ := hP.ex
    have npk : p ≠ ka := fun e => by
      rw [e, h2] at h1
      injection h1 with h1
      injection h1 with h1
      exact place_ne_kd h1.symm
    refine ⟨ka, _, h2, trivial, fun od => ?_⟩
    have g1 : ∀ {H' : Hp}, Same (upd H ka (.frz od (.dK (kdKV cols)))) H' → DGet H' p (.str "kinds") (some (.ref ka)) := fun {H'} s9 => DGet.k (k := Sum.inr "kinds") (s9 _ _ (by rw [upd_ne npk]; exact h1))
    have g2 : ∀ {H' : Hp} (x : Str), Same (upd H ka (.frz od (.dK (kdKV cols)))) H' → DGet H' ka (.str x) ((cols.lookup x).map V.str) := fun {H'} x s9 => by
      have : DGet H' ka (.str x) (valV (kdKV cols) (Sum.inr x)) := .inl ⟨_, Sum.inr x, .inr ⟨od, s9 _ _ upd_same⟩, rfl, rfl⟩
      rw [val_kdKV] at this
      exact this
    refine ⟨_, rfl, p, _, rfl, g1 (Same.refl _), ka, od, rfl, .inl ⟨_, upd_same, ?_⟩⟩
    intro D hD
    refine lc_it (walk_keys (d := ka) (o := od) (kvs := kdKV cols)) (fun i H' => Same (upd H ka (.frz od (.dK (kdKV cols)))) H' ∧ H' D = some (.lst ((wordsOf cols kd i).map V.str)))
      ⟨same_new hD _, by rw [upd_same]; rfl⟩ (fun i H' _ h => h.1 _ _ upd_same) ?_ ?_
    · rintro i x H3 H4 hi ⟨s3, hd3⟩ ⟨rfl, ky, vv, ek, rfl⟩
      obtain ⟨x, y, ec, rfl⟩ : ∃ x y, cols[i]? = some (x, y) ∧ ky = Sum.inr x := by
        unfold kdKV at ek
        rw [List.getElem?_map] at ek
        cases e : cols[i]? with
        | none => rw [e] at ek; cases ek
        | some z =>
          rw [e] at ek
          obtain ⟨x, y⟩ := z
          have ek : ((Sum.inr x : Key), V.str y) = (ky, vv) := by simpa using ek
          exact ⟨x, y, rfl, (congrArg Prod.fst ek).symm⟩
      obtain ⟨kz, ez⟩ := look_some (List.mem_of_getElem? ec)
      have g3 := g2 x s3
      rw [ez] at g3
      refine ⟨rfl, _, rfl, p, _, rfl, g1 s3, _, rfl, ka, _, rfl, g3, _, rfl, rfl, _, rfl, ?_⟩
      rw [wordsOf_succ ec, ez]
      by_cases hkz : kz = kd
      · subst hkz
        refine ifT (eqS _) ⟨_, rfl, _, hd3, small' (by rw [List.length_map]; have := wordsOf_len (cols := cols) (k := kz) (i := i); omega), same_put s3 hD _, ?_⟩
        rw [upd_same, if_pos rfl, List.map_append]
        rfl
      · refine ifF (neS hkz) ⟨s3, ?_⟩
        rw [if_neg (fun e => hkz (Option.some.inj e)), List.append_nil]
        exact hd3
    · rintro H3 ⟨s3, hd3⟩
      refine ⟨s3 _ _ upd_same, ?_⟩
      have sL := same_lock h2 s3
      have nDk : D ≠ ka := (ne_of_none upd_same hD).symm
      have fD : H D = none := by
        have := hD
        rw [upd_ne nDk] at this
        exact this
      have hdD : (upd H3 ka (.dK (kdKV cols))) D = some (.lst ((wordsOf cols kd (kdKV cols).length).map V.str)) := by rw [upd_ne nDk]; exact hd3
      generalize upd H3 ka (.dK (kdKV cols)) = H4 at sL hdD
      generalize hw : wordsOf cols kd (kdKV cols).length = ws at hdD
      have hws : ∀ x ∈ ws, cols.lookup x = some kd := by rw [← hw]; exact wordsOf_mem
      have hwl : ws.length ≤ 1000 := by rw [← hw]; have := wordsOf_len (cols := cols) (k := kd) (i := (kdKV cols).length); omega
      have p4 := pen_same hp sL
      have hwd : ∀ x ∈ ws, isWordC x.cps.toList = true := fun x hx => hcW x kd (hws x hx)
      -- the value
      have last : ∀ {H5 : Hp} {a5 : Nat} {r5 : Int}, PenAt H5 d c ns a5 r5 → a5 ≤ a + 1 → Sb d H H5 → spPlainL [.ref d, .str kd] H5 (fun y H2 => 2 ≤ sizeLine ∧ ∀ tp, H2 tp = none → Q (.ref tp) (upd H2 tp (.tup [.str "value", y]))) E0 := fun {H5 a5 r5} p5 ha5 sb5 =>
        ⟨d, c, ns, a5, r5, kd, rfl, hk, p5, by omega, fun v t a6 r6 H6 hpl ha6 sb6 p6 => ⟨(by show 2 ≤ sizeLine; decide), fun tp htp => by
          have s7 := same_new htp (.tup [.str "value", v])
          exact q _ _ a6 r6 _ (dp_two upd_same (hpl.dp _ _)) (gen_leafV hpl) (by omega) ((sb5.trans sb6).trans (Same.sb s7)) (pen_same p6 s7)⟩⟩
      refine ⟨_, rfl, Nat.zero_le _, fun z hz => ?_⟩
      have s5 := same_new hz (.lst [])
      refine ⟨.list (ws.map .str), .list [], .lst (SqL.of (s5 _ _ hdD)) (dp_strs ws), .lst (SqL.of upd_same) .nil, shaped_strs hwd, rfl, _, rfl, ?_⟩
      rw [eqv_nilL]
      have p5 := pen_same p4 s5
      have s05 := sL.trans s5
      have hd5 := s5 _ _ hdD
      generalize upd H4 z (.lst []) = H5 at p5 s05 hd5
      cases ws with
      | nil => exact iteF (iteF ⟨_, rfl, _, rfl, last p5 (by omega) (Same.sb s05)⟩)
      | cons x0 ws =>
        refine ifT rfl ⟨_, rfl, d, c, ns, a, r, _, rfl, p5, by omega, by decide, by decide, fun y a6 r6 H6 y0 y1 ha6 sb6 p6 => ⟨rfl, _, rfl, ?_⟩⟩
        have sb06 := (Same.sb (p := d) s05).trans sb6
        refine ite2 (fun _ => ?_) (fun _ => ⟨_, rfl, _, rfl, last p6 (by omega) sb06⟩)
        have hd6 := sb6 _ _ hd5 (ne_of_none hp.dict fD).symm
        refine ⟨_, rfl, _, rfl, d, c, ns, a6, r6, _, rfl, p6, by omega, .inr ⟨D, _, rfl, hd6, by simp, by rw [List.length_map]; exact hwl, fun v hv a7 r7 H7 ha7 sb7 p7 => ⟨(by show 2 ≤ sizeLine; decide), fun tp htp => ?_⟩⟩⟩
        obtain ⟨x, hx, rfl⟩ := List.mem_map.mp hv
        have s8 := same_new htp (.tup [.str "col", .str x])
        exact q _ _ a7 r7 _ (dp_two upd_same (.str x)) (gen_leafC (hws x hx) (hwd x hx)) (by omega) ((sb06.trans sb7).trans (Same.sb s8)) (pen_same p7 s8)
end
end DS
set_option Elab.async false
set_option linter.all false
set_option maxRecDepth 100000
set_option maxHeartbeats 4000000
namespace DS
open PySem L2 PySem.NumText
theorem sgnS : ∀ x ∈ (["value", "col", "var", "op", "null", "not", "case", "+", "-", "*", "div", "mod", "join", "=", "<", "and", "or"] : List Str), (∀ c ∈ x.cps.toList, c ∈ sgnList) ∧ x.cps.toList.length ≤ 1000 := by decide +kernel
theorem sub7 : ∀ x ∈ (["value", "col", "var", "op", "null", "not", "case"] : List Str), x ∈ (["value", "col", "var", "op", "null", "not", "case", "+", "-", "*", "div", "mod", "join", "=", "<", "and", "or"] : List Str) := by decide
theorem subO : ∀ x ∈ opsL, x ∈ (["value", "col", "var", "op", "null", "not", "case", "+", "-", "*", "div", "mod", "join", "=", "<", "and", "or"] : List Str) := by decide
theorem good_head {h : Str} {ds : List PyData} (h1 : h ∈ (["value", "col", "var", "op", "null", "not", "case"] : List Str)) (h2 : goodAll ds) : good (.tuple (.str h :: ds)) := by
  simp only [good, goodAll]
  exact ⟨(sgnS h (sub7 h h1)).1, h2⟩
theorem ops_sgn {o : Str} (h : o ∈ opsL) : good (.str o) ∧ short (.str o) := by
  simp only [good, short]
  exact sgnS o (subO o h)
theorem short_head {h : Str} {ds : List PyData} (h1 : h ∈ (["value", "col", "var", "op", "null", "not", "case"] : List Str)) (h2 : shortAll ds) (h3 : ds.length ≤ 9) : short (.tuple (.str h :: ds)) := by
  simp only [short, shortAll, List.length_cons]
  exact ⟨⟨(sgnS h (sub7 h h1)).2, h2⟩, by omega⟩
theorem word_short {x : Str} (h : isWordC x.cps.toList = true) : short (.str x) := by
  unfold isWordC at h
  rw [Bool.and_eq_true] at h
  have := of_decide_eq_true h.1
  simp only [short]
  omega
theorem kv_short {d : PyData} {k : Str} (h : d = .none ∨ kvM d = some k) : short d := by
  rcases h with rfl | h
  · simp [short]
  · cases d with
    | str x =>
      simp only [kvM] at h
      split at h
      · simp only [short]; omega
      · cases h
    | tuple x => cases h
    | _ => simp [short]
theorem gen_gs {cols vars : Kinds} {k : Str} {t : PyData} (G : Gen cols vars k t) : good t ∧ short t := by
  have a1 : ∀ x ∈ arithL, x ∈ opsL := by decide
  induction G with
  | val h g => exact ⟨good_head (by decide) (by simp only [goodAll]; exact ⟨g, trivial⟩), short_head (by decide) (by simp only [shortAll]; exact ⟨kv_short h, trivial⟩) (by simp)⟩
  | col h hw => exact ⟨good_head (by decide) (by simp only [goodAll]; exact ⟨word_good hw, trivial⟩), short_head (by decide) (by simp only [shortAll]; exact ⟨word_short hw, trivial⟩) (by simp)⟩
  | var h hw => exact ⟨good_head (by decide) (by simp only [goodAll]; exact ⟨word_good hw, trivial⟩), short_head (by decide) (by simp only [shortAll]; exact ⟨word_short hw, trivial⟩) (by simp)⟩
  | arith ho ha hb iha ihb => exact ⟨good_head (by decide) (by simp only [goodAll]; exact ⟨(ops_sgn (a1 _ ho)).1, iha.1, ihb.1, trivial⟩), short_head (by decide) (by simp only [shortAll]; exact ⟨(ops_sgn (a1 _ ho)).2, iha.2, ihb.2, trivial⟩) (by simp)⟩
  | join ha hb iha ihb => exact ⟨good_head (by decide) (by simp only [goodAll]; exact ⟨(ops_sgn (by decide)).1, iha.1, ihb.1, trivial⟩), short_head (by decide) (by simp only [shortAll]; exact ⟨(ops_sgn (by decide)).2, iha.2, ihb.2, trivial⟩) (by simp)⟩
  | eq hk ha hb iha ihb => exact ⟨good_head (by decide) (by simp only [goodAll]; exact ⟨(ops_sgn (by decide)).1, iha.1, ihb.1, trivial⟩), short_head (by decide) (by simp only [shortAll]; exact ⟨(ops_sgn (by decide)).2, iha.2, ihb.2, trivial⟩) (by simp)⟩
  | lt hk ha hb iha ihb => exact ⟨good_head (by decide) (by simp only [goodAll]; exact ⟨(ops_sgn (by decide)).1, iha.1, ihb.1, trivial⟩), short_head (by decide) (by simp only [shortAll]; exact ⟨(ops_sgn (by decide)).2, iha.2, ihb.2, trivial⟩) (by simp)⟩
  | @both o a b ho ha hb iha ihb =>
    have ho : o ∈ opsL := by rcases ho with rfl | rfl <;> decide
    exact ⟨good_head (by decide) (by simp only [goodAll]; exact ⟨(ops_sgn ho).1, iha.1, ihb.1, trivial⟩), short_head (by decide) (by simp only [shortAll]; exact ⟨(ops_sgn ho).2, iha.2, ihb.2, trivial⟩) (by simp)⟩
  | null hk ha iha => exact ⟨good_head (by decide) (by simp only [goodAll]; exact ⟨iha.1, trivial⟩), short_head (by decide) (by simp only [shortAll]; exact ⟨iha.2, trivial⟩) (by simp)⟩
  | not ha iha => exact ⟨good_head (by decide) (by simp only [goodAll]; exact ⟨iha.1, trivial⟩), short_head (by decide) (by simp only [shortAll]; exact ⟨iha.2, trivial⟩) (by simp)⟩
  | case hk hc ha hb ihc iha ihb => exact ⟨good_head (by decide) (by simp only [goodAll]; exact ⟨ihc.1, iha.1, ihb.1, trivial⟩), short_head (by decide) (by simp only [shortAll]; exact ⟨ihc.2, iha.2, ihb.2, trivial⟩) (by simp)⟩
/-- draws, parts -/
def Wt : Nat → Nat
  | 0 => 12
  | n + 1 => 20 + 3 * Wt n
def Ct : Nat → Nat
  | 0 => 3
  | n + 1 => 2 + 3 * Ct n
theorem Wt_ge (n : Nat) : 12 ≤ Wt n := by cases n <;> simp only [Wt] <;> omega
theorem Ct_ge (n : Nat) : 3 ≤ Ct n := by
  induction n with
  | zero => simp [Ct]
  | succ n ih => simp only [Ct]; omega
theorem genT_op {cols vars : Kinds} {k o : Str} {x y : PyData} {n : Nat} (hg : Gen cols vars k (.tuple [.str "op", .str o, x, y])) (h1 : hgt x ≤ n + 2) (h2 : hgt y ≤ n + 2) (c1 : cnt x ≤ Ct n) (c2 : cnt y ≤ Ct n) : GenT cols vars k (n + 3) (Ct (n + 1)) (.tuple [.str "op", .str o, x, y]) := by
  have := Ct_ge n
  refine ⟨hg, ?_, ?_⟩
  · simp only [hgt, hgtAll]; omega
  · simp only [cnt, cntAll, Ct]; omega
theorem genT_one {cols vars : Kinds} {k h : Str} {x : PyData} {n : Nat} (hg : Gen cols vars k (.tuple [.str h, x])) (h1 : hgt x ≤ n + 2) (c1 : cnt x ≤ Ct n) : GenT cols vars k (n + 3) (Ct (n + 1)) (.tuple [.str h, x]) := by
  have := Ct_ge n
  refine ⟨hg, ?_, ?_⟩
  · simp only [hgt, hgtAll]; omega
  · simp only [cnt, cntAll, Ct]; omega
theorem genT_case {cols vars : Kinds} {k : Str} {c x y : PyData} {n : Nat} (hg : Gen cols vars k (.tuple [.str "case", c, x, y])) (h0 : hgt c ≤ n + 2) (h1 : hgt x ≤ n + 2) (h2 : hgt y ≤ n + 2) (c0 : cnt c ≤ Ct n) (c1 : cnt x ≤ Ct n) (c2 : cnt y ≤ Ct n) : GenT cols vars k (n + 3) (Ct (n + 1)) (.tuple [.str "case", c, x, y]) := by
  have := Ct_ge n
  refine ⟨hg, ?_, ?_⟩
  · simp only [hgt, hgtAll]; omega
  · simp only [cnt, cntAll, Ct]; omega
section
variable {P : Program} {w : World} {K : PySem.W.Frag} {mg : Str → Option Value} {base : Heap}
/-- a tree of a kind, less than n deep -/
def spTree (K : PySem.W.Frag) (cols vars : Kinds) (n : Nat) : Sp := fun vs H Q _ => ∃ d c ns a r k m p, vs = [.ref d, .str k, .int ((m : Nat) : Int), .ref p] ∧ m < n ∧ k ∈ kindsL ∧ PenAt H d c ns a r ∧ a + Wt m + 5000 ≤ 2 ^ 30 ∧ PlaceAt cols vars H p ∧
  ∀ v t a' r' H', Dp K H' v t → GenT cols vars k (m + 2) (Ct m) t → a' ≤ a + Wt m → Sb d H H' → PenAt H' d c ns a' r' → Q v H'
/-- int_tree, truth_tree -/
def spKTree (K : PySem.W.Frag) (cols vars : Kinds) (k : Str) (n : Nat) : Sp := fun vs H Q _ => ∃ d c ns a r m p, vs = [.ref d, .int (((m + 1 : Nat)) : Int), .ref p] ∧ m < n ∧ PenAt H d c ns a r ∧ a + 3 + 2 * Wt m + 5000 ≤ 2 ^ 30 ∧ PlaceAt cols vars H p ∧
  ∀ v t a' r' H', Dp K H' v t → GenT cols vars k (m + 3) (Ct (m + 1)) t → a' ≤ a + 3 + 2 * Wt m → Sb d H H' → PenAt H' d c ns a' r' → Q v H'
theorem tree_arg (d p : Addr) (k : Str) (m : Nat) : [V.ref d, V.str k, V.int (((m + 1 : Nat) : Int) - 1), V.ref p] = [V.ref d, V.str k, V.int ((m : Nat) : Int), V.ref p] := by rw [show (((m + 1 : Nat) : Int) - 1) = ((m : Nat) : Int) by omega]
theorem dp_four {K : PySem.W.Frag} {H : Hp} {p : Addr} {w o : Str} {x y : V} {d e : PyData} (hp : H p = some (.tup [.str w, .str o, x, y])) (hx : Dp K H x d) (hy : Dp K H y e) : Dp K H (.ref p) (.tuple [.str w, .str o, d, e]) := .tup (SqT.of hp) (.cons (.str w) (.cons (.str o) (.cons hx (.cons hy .nil))))
abbrev sITree : Stmt := top 68
theorem scITree : FnScope ["_law_pen_here", "_law_deep", "_law_place", "_law_way", "_law_word", "_law_inner", "_law_c", "_law_o"] ["_law_pen_here", "_law_deep", "_law_place"] (defScope sITree) := ⟨rfl, rfl, rfl, by decide +kernel, rfl, by decide +kernel, by decide +kernel⟩
theorem ok_itree {f : Addr} {fd : FuncData} {k n : Nat} {cols vars : Kinds} (D1 : Cal P w K mg base CX0 1 "_law_draw" ["_law_pen_here", "_law_many"] [] spDraw) (D2 : Cal P w K mg base CX0 2 "_law_pick" ["_law_pen_here", "_law_items"] [] spPick) (D3 : Cal P w K mg base CX0 (k + 2) "_law_tree" ["_law_pen_here", "_law_kind_here", "_law_deep", "_law_place"] [] (spTree K cols vars n)) (F : Fun K "_law_int_tree" "_law_int_tree" sITree f fd) : FnOk P w K mg base CX0 (k + 3) f fd ["_law_pen_here", "_law_deep", "_law_place"] (spKTree K cols vars "int" n) := by
  obtain ⟨f1, fd1, ds1, e1, k1, v1, b1, G1⟩ := D1.ex
  obtain ⟨f2, fd2, ds2, e2, k2, v2, b2, G2⟩ := D2.ex
  obtain ⟨f3, fd3, ds3, e3, k3, v3, b3, G3⟩ := D3.ex
  refine F.ok scITree (fun vs H Q E h => ?_) (fun cdv A outer s H vs Q E hr h => ?_)
  · obtain ⟨d, c, ns, a, r, m, p, rfl, _⟩ := h
    rfl
  · obtain ⟨d, c, ns, a, r, m, p, rfl, hm, hp, ha, hP, q⟩ := h
    have hu0 : (A.deeper (PyProof.Rows.envOfC "_law_int_tree" (defScope sITree) s.heap.objs.size f cdv)).units < cLine := by have := hr.units; omega
    have hu1 : (A.deeper (PyProof.Rows.envOfC "_law_int_tree" (defScope sITree) s.heap.objs.size f cdv)).units + 1 < cLine := by have := hr.units; omega
    have em : (((m + 1 : Nat) : Int) - 1) = ((m : Nat) : Int) := by omega
    obtain ⟨tl, dtl, tail⟩ : ∃ tl : TS, PSs (cxOf CX0 P w K mg base ["_law_pen_here", "_law_deep", "_law_place", "_law_way", "_law_word", "_law_inner", "_law_c", "_law_o"] "_law_int_tree" (defScope sITree) f cdv A outer s H E).nox ((defBody sITree).drop 2) tl ∧ ∀ (x : Int) (H1 : Hp) (a1 : Nat) (r1 : Int), PenAt H1 d c ns a1 r1 → a1 ≤ a + 1 → Sb d H H1 →
        tl { nx := fun _ H' => Q .non H', rt := Q } [some (.ref d), some (.int (((m + 1 : Nat)) : Int)), some (.ref p), some (.int x), none, none, none, none] H1 := by
      refine ⟨_, (pss_cons (ps_set (i := 7) scITree.nd rfl (Or.inl rfl) (pe_call G2 (hr.mono (by omega)) rfl e2 k2 b2 v2 pass0 (pa_cons (pv 0) (pa_cons (pe_lst (pa_cons pe_str (pa_cons pe_str (pa_cons pe_str (pa_cons pe_str (pa_cons pe_str pa_nil)))))) pa_nil))))
      (pss_one (ps_ret (pe_tup (pa_cons pe_str (pa_cons (pv 7) (pa_cons (pe_call G3 (hr.mono (by omega)) rfl e3 k3 b3 v3 pass0 (pa_cons (pv 0) (pa_cons pe_str (pa_cons (pe_op op_sub (pv 1) pe_int) (pa_cons (pv 2) pa_nil))))) (pa_cons (pe_call G3 (hr.mono (by omega)) rfl e3 k3 b3 v3 pass0 (pa_cons (pv 0) (pa_cons pe_str (pa_cons (pe_op op_sub (pv 1) pe_int) (pa_cons (pv 2) pa_nil))))) pa_nil)))))))), ?_⟩
      intro x H1 a1 r1 p1 ha1 sb1
      refine ⟨_, rfl, (by show 5 ≤ sizeLine; decide), fun l1 hl1 => ?_⟩
      have s2 := same_new hl1 (.lst (arithL.map V.str))
      refine ⟨d, c, ns, a1, r1, _, rfl, pen_same p1 s2, by omega, .inr ⟨l1, arithL.map V.str, rfl, upd_same, by simp [arithL], by show 5 ≤ 1000; decide, fun v hv a3 r3 H3 ha3 sb3 p3 => ?_⟩⟩
      obtain ⟨o, ho, rfl⟩ := List.mem_map.mp hv
      have sb03 := (sb1.trans (Same.sb s2)).trans sb3
      have P3 := hP.sb hp sb03
      refine ⟨_, rfl, _, rfl, _, rfl, _, _, rfl, rfl, _, rfl, d, c, ns, a3, r3, "int", m, p, tree_arg d p _ m, hm, by decide, p3, by omega, P3, fun v1 t1 a4 r4 H4 h4 g4 ha4 sb4 p4 => ?_⟩
      refine ⟨_, rfl, _, rfl, _, _, rfl, rfl, _, rfl, d, c, ns, a4, r4, "int", m, p, tree_arg d p _ m, hm, by decide, p4, by omega, P3.sb p3 sb4, fun v2 t2 a5 r5 H5 h5 g5 ha5 sb5 p5 => ⟨(by show 4 ≤ sizeLine; decide), fun tp htp => ?_⟩⟩
      have s6 := same_new htp (.tup [.str "op", .str o, v1, v2])
      exact q _ _ a5 r5 _ (dp_four upd_same (dp_same s6 _ _ (dp_sb sb5 p4.noT p4.noF _ _ (gen_gs g4.gen).1 h4)) (dp_same s6 _ _ h5)) (genT_op (.arith ho g4.gen g5.gen) g4.hgt g5.hgt g4.cnt g5.cnt) (by omega) (((sb03.trans sb4).trans sb5).trans (Same.sb s6)) (pen_same p5 s6)
    refine ⟨_, (pss_cons (ps_set (i := 3) scITree.nd rfl (Or.inl rfl) (pe_call G1 (hr.mono (by omega)) rfl e1 k1 b1 v1 pass0 (pa_cons (pv 0) (pa_cons pe_int pa_nil))))
      (pss_cons (ps_if (PW.pt (pw_and (pt_cmpR op_eq (pv 3) pe_int (nomark _)) (pw_and1 (pt_cmpR (op_ne_dictA hu0) (pe_dget hu1 (pv 2) pe_str (fun _ _ => rfl)) pe_dnewK (nomark _))))) pss_no pss_nil)
      dtl)), ?_⟩
    refine ⟨_, rfl, d, c, ns, a, r, _, rfl, hp, by omega, by decide, by decide, fun x a1 r1 H1 x0 x1 ha1 sb1 p1 => ?_⟩
    refine ⟨_, rfl, rfl, _, rfl, ite2 (fun _ => ?_) (fun _ => iteF (tail x H1 a1 r1 p1 ha1 sb1))⟩
    obtain ⟨ka, sh, co, va, ta, sq, h1, h2, h3, h4, h5, h6, h7⟩ := (hP.sb hp sb1).ex
    refine ⟨_, rfl, p, _, rfl, DGet.k (k := Sum.inr "shown") h1, fun z hz => ?_⟩
    have s2 := same_new hz (.dK [])
    exact ⟨sh, z, [], [], rfl, rfl, s2 _ _ h3, upd_same, rfl, (fun _ h => nomatch h), _, rfl, iteF (tail x _ a1 r1 (pen_same p1 s2) ha1 (sb1.trans (Same.sb s2)))⟩
end
end DS
set_option Elab.async false
set_option linter.all false
set_option maxRecDepth 100000
set_option maxHeartbeats 4000000
namespace DS
open PySem L2 PySem.NumText
section
variable {P : Program} {w : World} {K : PySem.W.Frag} {mg : Str → Option Value} {base : Heap}
abbrev sTTree : Stmt := top 69
theorem scTTree : FnScope ["_law_pen_here", "_law_deep", "_law_place", "_law_way", "_law_kind_here", "_law_o"] ["_law_pen_here", "_law_deep", "_law_place"] (defScope sTTree) := ⟨rfl, rfl, rfl, by decide +kernel, rfl, by decide +kernel, by decide +kernel⟩
theorem ok_ttree {f : Addr} {fd : FuncData} {k n : Nat} {cols vars : Kinds} (D1 : Cal P w K mg base CX0 1 "_law_draw" ["_law_pen_here", "_law_many"] [] spDraw) (D2 : Cal P w K mg base CX0 2 "_law_pick" ["_law_pen_here", "_law_items"] [] spPick) (D3 : Cal P w K mg base CX0 (k + 2) "_law_tree" ["_law_pen_here", "_law_kind_here", "_law_deep", "_law_place"] [] (spTree K cols vars n)) (F : Fun K "_law_truth_tree" "_law_truth_tree" sTTree f fd) : FnOk P w K mg base CX0 (k + 3) f fd ["_law_pen_here", "_law_deep", "_law_place"] (spKTree K cols vars "truth" n) := by
  obtain ⟨f1, fd1, ds1, e1, k1, v1, b1, G1⟩ := D1.ex
  obtain ⟨f2, fd2, ds2, e2, k2, v2, b2, G2⟩ := D2.ex
  obtain ⟨f3, fd3, ds3, e3, k3, v3, b3, G3⟩ := D3.ex
  refine F.ok scTTree (fun vs H Q E h => ?_) (fun cdv A outer s H vs Q E hr h => ?_)
  · obtain ⟨d, c, ns, a, r, m, p, rfl, _⟩ := h
    rfl
  · obtain ⟨d, c, ns, a, r, m, p, rfl, hm, hp, ha, hP, q⟩ := h
    refine ⟨_, (pss_cons (ps_par (i := 3) (j := 4) (by rfl) scTTree.nd rfl rfl (by decide) rfl rfl (pa_cons (pe_call G1 (hr.mono (by omega)) rfl e1 k1 b1 v1 pass0 (pa_cons (pv 0) (pa_cons pe_int pa_nil))) (pa_cons (pe_call G2 (hr.mono (by omega)) rfl e2 k2 b2 v2 pass0 (pa_cons (pv 0) (pa_cons (pe_lst (pa_cons pe_str (pa_cons pe_str (pa_cons pe_str (pa_cons pe_str pa_nil))))) pa_nil))) pa_nil)) (by rfl))
      (pss_cons (ps_if (pt_cmpR op_lt (pv 3) pe_int (nomark _)) (pss_cons (ps_set (i := 5) scTTree.nd rfl (Or.inl rfl) (pe_ifExp (pt_cmpR op_eq (pv 4) pe_str (nomark _)) pe_str (pe_call G2 (hr.mono (by omega)) rfl e2 k2 b2 v2 pass0 (pa_cons (pv 0) (pa_cons (pe_lst (pa_cons pe_str (pa_cons pe_str pa_nil))) pa_nil)))))
          (pss_one (ps_ret (pe_tup (pa_cons pe_str (pa_cons (pv 5) (pa_cons (pe_call G3 (hr.mono (by omega)) rfl e3 k3 b3 v3 pass0 (pa_cons (pv 0) (pa_cons (pv 4) (pa_cons (pe_op op_sub (pv 1) pe_int) (pa_cons (pv 2) pa_nil))))) (pa_cons (pe_call G3 (hr.mono (by omega)) rfl e3 k3 b3 v3 pass0 (pa_cons (pv 0) (pa_cons (pv 4) (pa_cons (pe_op op_sub (pv 1) pe_int) (pa_cons (pv 2) pa_nil))))) pa_nil)))))))) pss_nil)
      (pss_cons (ps_if (pt_cmpR op_lt (pv 3) pe_int (nomark _)) (pss_cons (ps_set (i := 5) scTTree.nd rfl (Or.inl rfl) (pe_ix ix_list (pe_lst (pa_cons pe_str (pa_cons pe_str pa_nil))) (pe_op op_sub (pv 3) pe_int) (fun _ _ => rfl)))
          (pss_one (ps_ret (pe_tup (pa_cons pe_str (pa_cons (pv 5) (pa_cons (pe_call G3 (hr.mono (by omega)) rfl e3 k3 b3 v3 pass0 (pa_cons (pv 0) (pa_cons pe_str (pa_cons (pe_op op_sub (pv 1) pe_int) (pa_cons (pv 2) pa_nil))))) (pa_cons (pe_call G3 (hr.mono (by omega)) rfl e3 k3 b3 v3 pass0 (pa_cons (pv 0) (pa_cons pe_str (pa_cons (pe_op op_sub (pv 1) pe_int) (pa_cons (pv 2) pa_nil))))) pa_nil)))))))) pss_nil)
      (pss_cons (ps_if (pt_cmpR op_eq (pv 3) pe_int (nomark _)) (pss_one (ps_ret (pe_tup (pa_cons pe_str (pa_cons (pe_call G3 (hr.mono (by omega)) rfl e3 k3 b3 v3 pass0 (pa_cons (pv 0) (pa_cons (pv 4) (pa_cons (pe_op op_sub (pv 1) pe_int) (pa_cons (pv 2) pa_nil))))) pa_nil))))) pss_nil)
      (pss_one (ps_ret (pe_tup (pa_cons pe_str (pa_cons (pe_call G3 (hr.mono (by omega)) rfl e3 k3 b3 v3 pass0 (pa_cons (pv 0) (pa_cons pe_str (pa_cons (pe_op op_sub (pv 1) pe_int) (pa_cons (pv 2) pa_nil))))) pa_nil))))))))), ?_⟩
    have hW := Wt_ge m
    refine ⟨_, rfl, d, c, ns, a, r, _, rfl, hp, by omega, by decide, by decide, fun x a1 r1 H1 x0 x1 ha1 sb1 p1 => ?_⟩
    refine ⟨_, rfl, (by show 4 ≤ sizeLine; decide), fun l1 hl1 => ?_⟩
    have s2 := same_new hl1 (.lst ((["int", "int", "text", "truth"] : List Str).map V.str))
    refine ⟨d, c, ns, a1, r1, _, rfl, pen_same p1 s2, by omega, .inr ⟨l1, (["int", "int", "text", "truth"] : List Str).map V.str, rfl, upd_same, by simp, by show 4 ≤ 1000; decide, fun v hv a3 r3 H3 ha3 sb3 p3 => ⟨_, _, rfl, ?_⟩⟩⟩
    obtain ⟨kd, hkd, rfl⟩ := List.mem_map.mp hv
    have hk : kd ∈ kindsL := by
      have : ∀ x ∈ (["int", "int", "text", "truth"] : List Str), x ∈ kindsL := by decide
      exact this kd hkd
    have sb03 := (sb1.trans (Same.sb s2)).trans sb3
    have P3 := hP.sb hp sb03
    refine ⟨_, rfl, _, _, rfl, rfl, _, rfl, ite2 (fun _ => ?_) (fun hx2 => ?_)⟩
    · refine ⟨_, rfl, rfl, _, rfl, ?_⟩
      by_cases hkt : kd = "truth"
      · subst hkt
        refine ifT (eqS _) ?_
        refine ⟨_, rfl, _, rfl, _, rfl, _, rfl, _, _, rfl, rfl, _, rfl, d, c, ns, a3, r3, "truth", m, p, tree_arg d p _ m, hm, by decide, p3, by omega, P3, fun v1 t1 a8 r8 H8 h8 g8 ha8 sb8 p8 => ?_⟩
        refine ⟨_, rfl, _, rfl, _, rfl, _, _, rfl, rfl, _, rfl, d, c, ns, a8, r8, "truth", m, p, tree_arg d p _ m, hm, by decide, p8, by omega, (P3).sb p3 sb8, fun v2 t2 a9 r9 H9 h9 g9 ha9 sb9 p9 => ⟨(by show 4 ≤ sizeLine; decide), fun tp htp => ?_⟩⟩
        have s10 := same_new htp (.tup [.str "op", .str "=", v1, v2])
        exact q _ _ a9 r9 _ (dp_four upd_same (dp_same s10 _ _ (dp_sb sb9 p8.noT p8.noF _ _ (gen_gs g8.gen).1 h8)) (dp_same s10 _ _ h9)) (genT_op (.eq (by decide) g8.gen g9.gen) g8.hgt g9.hgt g8.cnt g9.cnt) (by omega) (((sb03.trans sb8).trans sb9).trans (Same.sb s10)) (pen_same p9 s10)
      · refine ifF (neS hkt) ⟨_, rfl, (by show 2 ≤ sizeLine; decide), fun l2 hl2 => ?_⟩
        have s4 := same_new hl2 (.lst ((["=", "<"] : List Str).map V.str))
        refine ⟨d, c, ns, a3, r3, _, rfl, pen_same p3 s4, by omega, .inr ⟨l2, (["=", "<"] : List Str).map V.str, rfl, upd_same, by simp, by show 2 ≤ 1000; decide, fun v hv a5 r5 H5 ha5 sb5 p5 => ?_⟩⟩
        obtain ⟨o, ho, rfl⟩ := List.mem_map.mp hv
        have sb05 := (sb03.trans (Same.sb s4)).trans sb5
        have P5 := hP.sb hp sb05
        have hgen : ∀ {t1 t2 : PyData}, Gen cols vars kd t1 → Gen cols vars kd t2 → Gen cols vars "truth" (.tuple [.str "op", .str o, t1, t2]) := fun {t1 t2} g1 g2 => by
          simp only [List.mem_cons, List.mem_nil_iff, or_false] at ho
          rcases ho with rfl | rfl
          · exact .eq hk g1 g2
          · refine .lt ?_ g1 g2
            simp only [kindsL, List.mem_cons, List.mem_nil_iff, or_false] at hk
            rcases hk with h | h | h
            · exact .inl h
            · exact .inr h
            · exact absurd h hkt
        refine ⟨_, rfl, _, rfl, _, rfl, _, rfl, _, _, rfl, rfl, _, rfl, d, c, ns, a5, r5, kd, m, p, tree_arg d p _ m, hm, hk, p5, by omega, P5, fun v1 t1 a8 r8 H8 h8 g8 ha8 sb8 p8 => ?_⟩
        refine ⟨_, rfl, _, rfl, _, rfl, _, _, rfl, rfl, _, rfl, d, c, ns, a8, r8, kd, m, p, tree_arg d p _ m, hm, hk, p8, by omega, (P5).sb p5 sb8, fun v2 t2 a9 r9 H9 h9 g9 ha9 sb9 p9 => ⟨(by show 4 ≤ sizeLine; decide), fun tp htp => ?_⟩⟩
        have s10 := same_new htp (.tup [.str "op", .str o, v1, v2])
        exact q _ _ a9 r9 _ (dp_four upd_same (dp_same s10 _ _ (dp_sb sb9 p8.noT p8.noF _ _ (gen_gs g8.gen).1 h8)) (dp_same s10 _ _ h9)) (genT_op (hgen g8.gen g9.gen) g8.hgt g9.hgt g8.cnt g9.cnt) (by omega) (((sb05.trans sb8).trans sb9).trans (Same.sb s10)) (pen_same p9 s10)
    · have hx2 : 2 ≤ x := by have := of_decide_eq_false (eq_false_of_ne_true hx2); omega
      refine ⟨_, rfl, _, _, rfl, rfl, _, rfl, ite2 (fun hx4 => ?_) (fun hx4 => ?_)⟩
      · have hx4 : x < 4 := of_decide_eq_true hx4
        obtain ⟨o, hat, ho⟩ : ∃ o : Str, atI ([.str "and", .str "or"] : List V) (x - 2) = some (.str o) ∧ (o = "and" ∨ o = "or") := by
          by_cases h : x = 2
          · subst h; exact ⟨"and", atI_nat (j := 0) rfl, .inl rfl⟩
          · have : x = 3 := by omega
            subst this; exact ⟨"or", atI_nat (j := 1) rfl, .inr rfl⟩
        refine ⟨(by show 2 ≤ sizeLine; decide), fun l2 hl2 => ?_⟩
        have s4 := same_new hl2 (.lst [.str "and", .str "or"])
        refine ⟨_, rfl, _, _, rfl, rfl, l2, _, _, _, rfl, rfl, SqL.of upd_same, hat, ?_⟩
        have p4 := pen_same p3 s4
        have sb04 := sb03.trans (Same.sb s4)
        have P4 := P3.same s4
        refine ⟨_, rfl, _, rfl, _, rfl, _, _, rfl, rfl, _, rfl, d, c, ns, a3, r3, "truth", m, p, tree_arg d p _ m, hm, by decide, p4, by omega, P4, fun v1 t1 a8 r8 H8 h8 g8 ha8 sb8 p8 => ?_⟩
        refine ⟨_, rfl, _, rfl, _, _, rfl, rfl, _, rfl, d, c, ns, a8, r8, "truth", m, p, tree_arg d p _ m, hm, by decide, p8, by omega, (P4).sb p4 sb8, fun v2 t2 a9 r9 H9 h9 g9 ha9 sb9 p9 => ⟨(by show 4 ≤ sizeLine; decide), fun tp htp => ?_⟩⟩
        have s10 := same_new htp (.tup [.str "op", .str o, v1, v2])
        exact q _ _ a9 r9 _ (dp_four upd_same (dp_same s10 _ _ (dp_sb sb9 p8.noT p8.noF _ _ (gen_gs g8.gen).1 h8)) (dp_same s10 _ _ h9)) (genT_op (.both ho g8.gen g9.gen) g8.hgt g9.hgt g8.cnt g9.cnt) (by omega) (((sb04.trans sb8).trans sb9).trans (Same.sb s10)) (pen_same p9 s10)
      · refine ⟨_, rfl, rfl, _, rfl, ite2 (fun _ => ?_) (fun _ => ?_)⟩
        · refine ⟨_, rfl, _, rfl, _, rfl, _, _, rfl, rfl, _, rfl, d, c, ns, a3, r3, kd, m, p, tree_arg d p _ m, hm, hk, p3, by omega, P3, fun v1 t1 a8 r8 H8 h8 g8 ha8 sb8 p8 => ⟨(by show 2 ≤ sizeLine; decide), fun tp htp => ?_⟩⟩
          have s10 := same_new htp (.tup [.str "null", v1])
          exact q _ _ a8 r8 _ (dp_two upd_same (dp_same s10 _ _ h8)) (genT_one (.null hk g8.gen) g8.hgt g8.cnt) (by omega) ((sb03.trans sb8).trans (Same.sb s10)) (pen_same p8 s10)
        · refine ⟨_, rfl, _, rfl, _, _, rfl, rfl, _, rfl, d, c, ns, a3, r3, "truth", m, p, tree_arg d p _ m, hm, by decide, p3, by omega, P3, fun v1 t1 a8 r8 H8 h8 g8 ha8 sb8 p8 => ⟨(by show 2 ≤ sizeLine; decide), fun tp htp => ?_⟩⟩
          have s10 := same_new htp (.tup [.str "not", v1])
          exact q _ _ a8 r8 _ (dp_two upd_same (dp_same s10 _ _ h8)) (genT_one (.not g8.gen) g8.hgt g8.cnt) (by omega) ((sb03.trans sb8).trans (Same.sb s10)) (pen_same p8 s10)
end
end DS
set_option Elab.async false
set_option linter.all false
set_option maxRecDepth 100000
set_option maxHeartbeats 4000000
namespace DS
open PySem L2 PySem.NumText
theorem GenT.mono {cols vars : Kinds} {k : Str} {n m n' m' : Nat} {t : PyData} (h : GenT cols vars k n m t) (h1 : n ≤ n') (h2 : m ≤ m') : GenT cols vars k n' m' t := ⟨h.gen, by have := h.hgt; omega, by have := h.cnt; omega⟩
theorem goodAll_gen {cols vars : Kinds} {n m : Nat} : ∀ {ks : List Str} {ts : List PyData}, Paired (fun k t => GenT cols vars k n m t) ks ts → goodAll ts
  | _, _, .nil => by simp [goodAll]
  | _, _, .cons h1 h2 => by simp only [goodAll]; exact ⟨(gen_gs h1.gen).1, goodAll_gen h2⟩
theorem paired_snoc {α β : Type} {F : α → β → Prop} : ∀ {l1 : List α} {l2 : List β} {x : α} {y : β}, Paired F l1 l2 → F x y → Paired F (l1 ++ [x]) (l2 ++ [y])
  | _, _, _, _, .nil, h => .cons h .nil
  | _, _, _, _, .cons h1 h2, h => .cons h1 (paired_snoc h2 h)
section
variable {P : Program} {w : World} {K : PySem.W.Frag} {mg : Str → Option Value} {base : Heap}
abbrev sTree : Stmt := top 70
theorem scTree : FnScope ["_law_pen_here", "_law_kind_here", "_law_deep", "_law_place", "_law_parts", "_law_word", "_law_inner", "_law_c", "_law_one"] ["_law_pen_here", "_law_kind_here", "_law_deep", "_law_place"] (defScope sTree) := ⟨rfl, rfl, rfl, by decide +kernel, rfl, by decide +kernel, by decide +kernel⟩
theorem tree_step {f : Addr} {fd : FuncData} {n : Nat} {cols vars : Kinds} (D1 : Cal P w K mg base CX0 1 "_law_draw" ["_law_pen_here", "_law_many"] [] spDraw) (D2 : Cal P w K mg base CX0 5 "_law_leaf" ["_law_pen_here", "_law_kind_here", "_law_place"] [] (spLeaf K cols vars))
    (D3 : Cal P w K mg base CX0 (2 * n + 6) "_law_int_tree" ["_law_pen_here", "_law_deep", "_law_place"] [] (spKTree K cols vars "int" n)) (D4 : Cal P w K mg base CX0 (2 * n + 6) "_law_truth_tree" ["_law_pen_here", "_law_deep", "_law_place"] [] (spKTree K cols vars "truth" n))
    (D5 : Cal P w K mg base CX0 (2 * n + 5) "_law_tree" ["_law_pen_here", "_law_kind_here", "_law_deep", "_law_place"] [] (spTree K cols vars n)) (F : Fun K "_law_tree" "_law_tree" sTree f fd) : FnOk P w K mg base CX0 (2 * n + 7) f fd ["_law_pen_here", "_law_kind_here", "_law_deep", "_law_place"] (spTree K cols vars (n + 1)) := by
  obtain ⟨f1, fd1, ds1, e1, k1, v1, b1, G1⟩ := D1.ex
  obtain ⟨f2, fd2, ds2, e2, k2, v2, b2, G2⟩ := D2.ex
  obtain ⟨f3, fd3, ds3, e3, k3, v3, b3, G3⟩ := D3.ex
  obtain ⟨f4, fd4, ds4, e4, k4, v4, b4, G4⟩ := D4.ex
  obtain ⟨f5, fd5, ds5, e5, k5, v5, b5, G5⟩ := D5.ex
  refine F.ok scTree (fun vs H Q E h => ?_) (fun cdv A outer s H vs Q E hr h => ?_)
  · obtain ⟨d, c, ns, a, r, kd, m, p, rfl, _⟩ := h
    rfl
  · obtain ⟨d, c, ns, a, r, kd, m, p, rfl, hm, hk, hp, ha, hP, q⟩ := h
    have hu0 : (A.deeper (PyProof.Rows.envOfC "_law_tree" (defScope sTree) s.heap.objs.size f cdv)).units < cLine := by have := hr.units; omega
    have hu1 : (A.deeper (PyProof.Rows.envOfC "_law_tree" (defScope sTree) s.heap.objs.size f cdv)).units + 1 < cLine := by have := hr.units; omega
    refine ⟨_, (pss_cons (ps_if (PW.pt (pw_or (pt_cmpR op_lt (pv 2) pe_int (nomark _)) (pw_or1 (pt_cmpR op_eq (pe_call G1 (hr.mono (by omega)) rfl e1 k1 b1 v1 pass0 (pa_cons (pv 0) (pa_cons pe_int pa_nil))) pe_int (nomark _))))) (pss_one (ps_ret (pe_call G2 (hr.mono (by omega)) rfl e2 k2 b2 v2 pass0 (pa_cons (pv 0) (pa_cons (pv 1) (pa_cons (pv 3) pa_nil)))))) pss_nil)
      (pss_cons (ps_if (pt_cmpR op_eq (pe_call G1 (hr.mono (by omega)) rfl e1 k1 b1 v1 pass0 (pa_cons (pv 0) (pa_cons pe_int pa_nil))) pe_int (nomark _)) (pss_cons (ps_setLc (i := 4) (own := [("_law_one", 8)]) (g := gName 8) (tt := tYes) rfl scTree.nd rfl rfl (sw_true rfl rfl rfl (by decide +kernel)) (pi_tup (pe_tup (pa_cons pe_str (pa_cons (pv 1) (pa_cons (pv 1) pa_nil))))) (blkOk_by (N := ["_law_pen_here", "_law_kind_here", "_law_deep", "_law_place", "_law_parts", "_law_word", "_law_inner", "_law_c", "_law_one"]) (sc := defScope sTree) (by decide +kernel)) (fun _ _ _ _ _ => (pg_name (i := 8) scTree.nd rfl (Or.inl rfl))) (fun _ _ _ _ _ => pts_nil) (fun _ _ _ _ _ => (pe_call G5 (hr.mono (by omega)) rfl e5 k5 b5 v5 pass0 (pa_cons (pv 0) (pa_cons (pv 8) (pa_cons (pe_op op_sub (pv 2) pe_int) (pa_cons (pv 3) pa_nil)))))))
          (pss_one (ps_ret (pe_tup (pa_cons pe_str (pa_cons (pe_ix ix_list (pv 4) pe_int (fun _ _ => rfl)) (pa_cons (pe_ix ix_list (pv 4) pe_int (fun _ _ => rfl)) (pa_cons (pe_ix ix_list (pv 4) pe_int (fun _ _ => rfl)) pa_nil)))))))) pss_nil)
      (pss_cons (ps_if (pt_cmpR op_eq (pv 1) pe_str (nomark _)) (pss_one (ps_ret (pe_call G3 (hr.mono (by omega)) rfl e3 k3 b3 v3 pass0 (pa_cons (pv 0) (pa_cons (pv 2) (pa_cons (pv 3) pa_nil)))))) pss_nil)
      (pss_cons (ps_if (pt_cmpR op_eq (pv 1) pe_str (nomark _)) (pss_one (ps_ret (pe_call G4 (hr.mono (by omega)) rfl e4 k4 b4 v4 pass0 (pa_cons (pv 0) (pa_cons (pv 2) (pa_cons (pv 3) pa_nil)))))) pss_nil)
      (pss_cons (ps_if (PW.pt (pw_and (pt_cmpR (op_ne_dictA hu0) (pe_dget hu1 (pv 3) pe_str (fun _ _ => rfl)) pe_dnewK (nomark _)) (pw_and1 (pt_cmpR op_eq (pe_call G1 (hr.mono (by omega)) rfl e1 k1 b1 v1 pass0 (pa_cons (pv 0) (pa_cons pe_int pa_nil))) pe_int (nomark _))))) pss_no pss_nil)
      (pss_one (ps_ret (pe_tup (pa_cons pe_str (pa_cons pe_str (pa_cons (pe_call G5 (hr.mono (by omega)) rfl e5 k5 b5 v5 pass0 (pa_cons (pv 0) (pa_cons pe_str (pa_cons (pe_op op_sub (pv 2) pe_int) (pa_cons (pv 3) pa_nil))))) (pa_cons (pe_call G5 (hr.mono (by omega)) rfl e5 k5 b5 v5 pass0 (pa_cons (pv 0) (pa_cons pe_str (pa_cons (pe_op op_sub (pv 2) pe_int) (pa_cons (pv 3) pa_nil))))) pa_nil)))))))))))), ?_⟩
    have hW := Wt_ge m
    have hC := Ct_ge m
    have leaf : ∀ (H1 : Hp) (a1 : Nat) (r1 : Int), PenAt H1 d c ns a1 r1 → a1 ≤ a + 1 → Sb d H H1 → spLeaf K cols vars [.ref d, .str kd, .ref p] H1 Q E0 := fun H1 a1 r1 p1 ha1 sb1 =>
      ⟨d, c, ns, a1, r1, kd, p, rfl, hk, p1, by omega, hP.sb hp sb1, fun v t a' r' H' hv g ha' sb' p' => q v t a' r' H' hv (g.mono (by omega) hC) (by omega) (sb1.trans sb') p'⟩
    refine ⟨_, rfl, _, _, rfl, rfl, _, rfl, ite2 (fun _ => iteT ⟨_, rfl, _, rfl, _, rfl, leaf H a r hp (by omega) (Sb.refl _ _)⟩) (fun hm1 => ?_)⟩
    have hm1 : 1 ≤ m := by have := of_decide_eq_false (eq_false_of_ne_true hm1); omega
    obtain ⟨m, rfl⟩ : ∃ k, m = k + 1 := ⟨m - 1, by omega⟩
    have hmn : m < n := by omega
    simp only [Wt] at ha q
    have hW' := Wt_ge m
    refine ⟨_, rfl, d, c, ns, a, r, _, rfl, hp, by omega, by decide, by decide, fun x a1 r1 H1 x0 x1 ha1 sb1 p1 => ⟨rfl, _, rfl, ite2 (fun _ => ⟨_, rfl, _, rfl, _, rfl, leaf H1 a1 r1 p1 ha1 sb1⟩) (fun _ => ?_)⟩⟩
    refine ⟨_, rfl, d, c, ns, a1, r1, _, rfl, p1, by omega, by decide, by decide, fun y a2 r2 H2 y0 y1 ha2 sb2 p2 => ⟨rfl, _, rfl, ite2 (fun _ => ?_) (fun _ => ?_)⟩⟩
    · -- case
      have sb02 := sb1.trans sb2
      refine ⟨_, rfl, _, rfl, (by show 3 ≤ sizeLine; decide), fun tp htp => ⟨tp, rfl, ⟨_, SqT.of upd_same⟩, fun D hD => ?_⟩⟩
      have s3 := same_new htp (.tup ((["truth", kd, kd] : List Str).map V.str))
      have p3 := pen_same p2 s3
      have sb03 := sb02.trans (Same.sb s3)
      have m3 : (upd H2 tp (.tup ((["truth", kd, kd] : List Str).map V.str))) tp = some (.tup ((["truth", kd, kd] : List Str).map V.str)) := upd_same
      have hD3 : (upd H2 tp (.tup ((["truth", kd, kd] : List Str).map V.str))) D = none := hD
      show _
      have ndt : tp ≠ d := (ne_of_none p2.dict htp).symm
      have nDt : tp ≠ D := ne_of_none m3 hD3
      have ndD : d ≠ D := ne_of_none p3.dict hD3
      have ncD : c ≠ D := ne_of_none p3.cells hD3
      have fD : H D = none := sb_free sb03 hp.dict hD3 (by rw [p3.dict]; simp)
      refine lc_it (walk_tup (a := tp) (xs := (["truth", kd, kd] : List Str).map V.str)) (fun i H' => ∃ xs ts a' r', xs.length = i ∧ DpAll K H' xs ts ∧ Paired (fun k t => GenT cols vars k (m + 2) (Ct m) t) ((["truth", kd, kd] : List Str).take i) ts ∧ a' ≤ a + 2 + i * Wt m ∧ Sb d H H' ∧ PenAt H' d c ns a' r' ∧ H' tp = some (.tup ((["truth", kd, kd] : List Str).map V.str)) ∧ H' D = some (.lst xs))
        ⟨[], [], a2, r2, rfl, .nil, .nil, by omega, sb_new sb03 fD, pen_put p3 ndD ncD, by rw [upd_ne nDt]; exact m3, upd_same⟩ (fun i H' _ h => by obtain ⟨_, _, _, _, _, _, _, _, _, _, h9, _⟩ := h; exact SqT.of h9) ?_ ?_
      · rintro i x H4 H5 hi ⟨xs, ts, a4, r4, hxl, hdp, hgt4, ha4, sb4, p4, ht4, hd4⟩ ⟨rfl, hx⟩
        have hi3 : i < 3 := hi
        obtain ⟨ky, ek, rfl⟩ : ∃ ky, (["truth", kd, kd] : List Str)[i]? = some ky ∧ x = .str ky := by
          rw [List.getElem?_map] at hx
          cases e : (["truth", kd, kd] : List Str)[i]? with
          | none => rw [e] at hx; cases hx
          | some ky => rw [e] at hx; exact ⟨ky, rfl, by simpa using hx.symm⟩
        have hky : ky ∈ kindsL := by
          have := List.mem_of_getElem? ek
          simp only [List.mem_cons, List.mem_nil_iff, or_false] at this
          rcases this with rfl | rfl | rfl
          · decide
          · exact hk
          · exact hk
        have him : i * Wt m ≤ 2 * Wt m := Nat.mul_le_mul_right _ (by omega)
        refine ⟨rfl, ?_⟩
        refine ⟨_, rfl, _, rfl, _, rfl, _, _, rfl, rfl, _, rfl, d, c, ns, a4, r4, ky, m, p, tree_arg d p _ m, hmn, hky, p4, by omega, hP.sb hp sb4, fun v t a6 r6 H6 h6 g6 ha6 sb6 p6 => ?_⟩
        have hd6 := sb6 D _ hd4 ndD.symm
        have D6 := dp_sbAll sb6 p4.noT p4.noF ts xs (goodAll_gen hgt4) hdp
        have nT : ∀ ys, H6 D ≠ some (.tup ys) := fun ys e => by rw [hd6] at e; cases e
        have nF : ∀ o ys, H6 D ≠ some (.frz o (.tup ys)) := fun o ys e => by rw [hd6] at e; cases e
        refine ⟨_, hd6, small' (by omega), xs ++ [v], ts ++ [t], a6, r6, by simp [hxl], dp_snoc (dp_sbAll (sb_upd _) nT nF ts xs (goodAll_gen hgt4) D6) (dp_sb (sb_upd _) nT nF t v (gen_gs g6.gen).1 h6), ?_, ?_, sb_new (sb4.trans sb6) fD, pen_put p6 ndD ncD, ?_, upd_same⟩
        · rw [List.take_add_one, ek]
          exact paired_snoc hgt4 g6
        · rw [Nat.succ_mul]; omega
        · rw [upd_ne nDt]; exact sb6 _ _ ht4 ndt
      · rintro H4 ⟨xs, ts, a4, r4, hxl, hdp, hgt4, ha4, sb4, p4, ht4, hd4⟩
        have ha4 : a4 ≤ a + 2 + 3 * Wt m := ha4
        have hgt4 : Paired (fun k t => GenT cols vars k (m + 2) (Ct m) t) (["truth", kd, kd] : List Str) ts := hgt4
        cases hgt4 with
        | @cons _ t0 _ _ g0 hr1 =>
        cases hr1 with
        | @cons _ t1 _ _ g1 hr2 =>
        cases hr2 with
        | @cons _ t2 _ _ g2 hr3 =>
        cases hr3
        cases hdp with
        | @cons v0 _ _ _ e0 hq1 =>
        cases hq1 with
        | @cons v1 _ _ _ e1 hq2 =>
        cases hq2 with
        | @cons v2 _ _ _ e2 hq3 =>
        cases hq3
        refine ⟨_, rfl, D, _, 0, v0, rfl, rfl, SqL.of hd4, atI_nat (j := 0) rfl, _, rfl, D, _, 1, v1, rfl, rfl, SqL.of hd4, atI_nat (j := 1) rfl, _, rfl, D, _, 2, v2, rfl, rfl, SqL.of hd4, atI_nat (j := 2) rfl, (by show 4 ≤ sizeLine; decide), fun tq htq => ?_⟩
        have s5 := same_new htq (.tup [.str "case", v0, v1, v2])
        exact q _ _ a4 r4 _ (.tup (SqT.of upd_same) (.cons (.str "case") (.cons (dp_same s5 _ _ e0) (.cons (dp_same s5 _ _ e1) (.cons (dp_same s5 _ _ e2) .nil))))) (genT_case (.case hk g0.gen g1.gen g2.gen) g0.hgt g1.hgt g2.hgt g0.cnt g1.cnt g2.cnt) (by omega) (sb4.trans (Same.sb s5)) (pen_same p4 s5)
    · have sb02 := sb1.trans sb2
      have P2 := hP.sb hp sb02
      have hk' := hk
      simp only [kindsL, List.mem_cons, List.mem_nil_iff, or_false] at hk
      rcases hk with rfl | rfl | rfl
      · refine ⟨_, rfl, rfl, _, rfl, ifT (eqS _) ⟨_, rfl, _, rfl, _, rfl, d, c, ns, a2, r2, m, p, rfl, hmn, p2, by omega, P2, fun v t a3 r3 H3 h3 g3 ha3 sb3 p3 => ?_⟩⟩
        exact q v t a3 r3 H3 h3 g3 (by omega) (sb02.trans sb3) p3
      · refine ⟨_, rfl, rfl, _, rfl, ifF (neS (by decide)) ⟨_, rfl, rfl, _, rfl, ifF (neS (by decide)) ?_⟩⟩
        obtain ⟨ka, sh, co, va, ta, sq, h1, h2, h3, h4, h5, h6, h7⟩ := P2.ex
        refine ⟨_, rfl, p, _, rfl, DGet.k (k := Sum.inr "shown") h1, fun z hz => ?_⟩
        have s3 := same_new hz (.dK [])
        refine ⟨sh, z, [], [], rfl, rfl, s3 _ _ h3, upd_same, rfl, (fun _ h => nomatch h), _, rfl, iteF (iteF ?_)⟩
        have p3 := pen_same p2 s3
        have P3 := P2.same s3
        have sb03 := sb02.trans (Same.sb s3)
        have hm := hmn
        refine ⟨_, rfl, _, rfl, _, _, rfl, rfl, _, rfl, d, c, ns, a2, r2, "text", m, p, tree_arg d p _ m, hm, by decide, p3, by omega, P3, fun v1 t1 a8 r8 H8 h8 g8 ha8 sb8 p8 => ?_⟩
        refine ⟨_, rfl, _, rfl, _, _, rfl, rfl, _, rfl, d, c, ns, a8, r8, "text", m, p, tree_arg d p _ m, hm, by decide, p8, by omega, (P3).sb p3 sb8, fun v2 t2 a9 r9 H9 h9 g9 ha9 sb9 p9 => ⟨(by show 4 ≤ sizeLine; decide), fun tp htp => ?_⟩⟩
        have s10 := same_new htp (.tup [.str "op", .str "join", v1, v2])
        exact q _ _ a9 r9 _ (dp_four upd_same (dp_same s10 _ _ (dp_sb sb9 p8.noT p8.noF _ _ (gen_gs g8.gen).1 h8)) (dp_same s10 _ _ h9)) (genT_op (.join g8.gen g9.gen) g8.hgt g9.hgt g8.cnt g9.cnt) (by omega) (((sb03.trans sb8).trans sb9).trans (Same.sb s10)) (pen_same p9 s10)
      · refine ⟨_, rfl, rfl, _, rfl, ifF (neS (by decide)) ⟨_, rfl, rfl, _, rfl, ifT (eqS _) ⟨_, rfl, _, rfl, _, rfl, d, c, ns, a2, r2, m, p, rfl, hmn, p2, by omega, P2, fun v t a3 r3 H3 h3 g3 ha3 sb3 p3 => ?_⟩⟩⟩
        exact q v t a3 r3 H3 h3 g3 (by omega) (sb02.trans sb3) p3
end
end DS
set_option Elab.async false
set_option linter.all false
set_option maxRecDepth 100000
set_option maxHeartbeats 4000000
namespace DS
open PySem L2 PySem.NumText
/-- what an odd tree may be -/
def OddD (t : PyData) : Prop := good t ∧ short t ∧ hgt t ≤ 3 ∧ cnt t ≤ 10
def Odd (K : PySem.W.Frag) (H : Hp) (v : V) : Prop := ∃ t, Dp K H v t ∧ OddD t
def OddL (K : PySem.W.Frag) (H : Hp) (xs : List V) : Prop := ∀ x ∈ xs, Odd K H x
theorem Odd.same {K : PySem.W.Frag} {H H' : Hp} {v : V} (h : Odd K H v) (s : Same H H') : Odd K H' v := by
  obtain ⟨t, h1, h2⟩ := h
  exact ⟨t, dp_same s _ _ h1, h2⟩
theorem Odd.sb {K : PySem.W.Frag} {H H' : Hp} {v : V} {p : Addr} (h : Odd K H v) (s : Sb p H H') (hp : ∀ xs, H p ≠ some (.tup xs)) (hp2 : ∀ o xs, H p ≠ some (.frz o (.tup xs))) : Odd K H' v := by
  obtain ⟨t, h1, h2⟩ := h
  exact ⟨t, dp_sb s hp hp2 _ _ h2.1 h1, h2⟩
theorem OddL.app {K : PySem.W.Frag} {H : Hp} {xs ys : List V} (h1 : OddL K H xs) (h2 : OddL K H ys) : OddL K H (xs ++ ys) := fun x hx => by
  rcases List.mem_append.mp hx with hx | hx
  · exact h1 x hx
  · exact h2 x hx
theorem dp_new {K : PySem.W.Frag} {H : Hp} {p : Addr} {xs : List V} {ds : List PyData} (h : H p = none) (hd : DpAll K (upd H p (.tup xs)) xs ds) : Dp K (upd H p (.tup xs)) (.ref p) (.tuple ds) := .tup (SqT.of upd_same) hd
theorem odd_non : OddD .none := by unfold OddD; simp only [good, short, hgt, cnt]; decide +kernel
theorem odd_int7 : OddD (.int 7) := by unfold OddD; simp only [good, short, hgt, cnt]; decide +kernel
theorem odd_s0 : OddD (.str "") := by unfold OddD; simp only [good, short, hgt, cnt]; decide +kernel
theorem odd_sa : OddD (.str "a") := by unfold OddD; simp only [good, short, hgt, cnt]; decide +kernel
theorem odd_1 : OddD (.tuple []) := by unfold OddD; simp only [good, goodAll, short, shortAll, hgt, hgtAll, cnt, cntAll]; decide +kernel
theorem odd_2 : OddD (.tuple [.str "value"]) := by unfold OddD; simp only [good, goodAll, short, shortAll, hgt, hgtAll, cnt, cntAll]; decide +kernel
theorem odd_3 : OddD (.tuple [.str "value", .int 1, .int 2]) := by unfold OddD; simp only [good, goodAll, short, shortAll, hgt, hgtAll, cnt, cntAll]; decide +kernel
theorem odd_4 : OddD (.tuple [.str "col", .int 1]) := by unfold OddD; simp only [good, goodAll, short, shortAll, hgt, hgtAll, cnt, cntAll]; decide +kernel
theorem odd_5 : OddD (.tuple [.str "col", .str "A"]) := by unfold OddD; simp only [good, goodAll, short, shortAll, hgt, hgtAll, cnt, cntAll]; decide +kernel
theorem odd_6 : OddD (.tuple [.str "value", .int 1]) := by unfold OddD; simp only [good, goodAll, short, shortAll, hgt, hgtAll, cnt, cntAll]; decide +kernel
theorem odd_7 : OddD (.tuple [.str "op", .str "+", (.tuple [.str "value", .int 1])]) := by unfold OddD; simp only [good, goodAll, short, shortAll, hgt, hgtAll, cnt, cntAll]; decide +kernel
theorem odd_8 : OddD (.tuple [.str "value", .int (10 ^ (30 : Int).toNat + 1)]) := by unfold OddD; simp only [good, goodAll, short, shortAll, hgt, hgtAll, cnt, cntAll]; decide +kernel
theorem odd_9 : OddD (.tuple [.str "value", .str (S (List.replicate 41 122))]) := by unfold OddD; simp only [good, goodAll, short, shortAll, hgt, hgtAll, cnt, cntAll]; decide +kernel
theorem odd_10 : OddD (.tuple []) := by unfold OddD; simp only [good, goodAll, short, shortAll, hgt, hgtAll, cnt, cntAll]; decide +kernel
theorem odd_11 : OddD (.tuple [.str "value", (.tuple [])]) := by unfold OddD; simp only [good, goodAll, short, shortAll, hgt, hgtAll, cnt, cntAll]; decide +kernel
theorem odd_12 : OddD (.tuple [.str "word"]) := by unfold OddD; simp only [good, goodAll, short, shortAll, hgt, hgtAll, cnt, cntAll]; decide +kernel
theorem odd_13 : OddD (.tuple [.str "told", .int 0, .str "int"]) := by unfold OddD; simp only [good, goodAll, short, shortAll, hgt, hgtAll, cnt, cntAll]; decide +kernel
theorem odd_14 : OddD (.tuple [.str "value", .int 1]) := by unfold OddD; simp only [good, goodAll, short, shortAll, hgt, hgtAll, cnt, cntAll]; decide +kernel
theorem odd_15 : OddD (.tuple [.str "value", .int 2]) := by unfold OddD; simp only [good, goodAll, short, shortAll, hgt, hgtAll, cnt, cntAll]; decide +kernel
theorem odd_16 : OddD (.tuple [.str "op", .str "<=", (.tuple [.str "value", .int 1]), (.tuple [.str "value", .int 2])]) := by unfold OddD; simp only [good, goodAll, short, shortAll, hgt, hgtAll, cnt, cntAll]; decide +kernel
theorem odd_17 : OddD (.tuple [.str "value", .bool true]) := by unfold OddD; simp only [good, goodAll, short, shortAll, hgt, hgtAll, cnt, cntAll]; decide +kernel
theorem odd_18 : OddD (.tuple [.str "value", .int 1]) := by unfold OddD; simp only [good, goodAll, short, shortAll, hgt, hgtAll, cnt, cntAll]; decide +kernel
theorem odd_19 : OddD (.tuple [.str "case", (.tuple [.str "value", .bool true]), (.tuple [.str "value", .int 1])]) := by unfold OddD; simp only [good, goodAll, short, shortAll, hgt, hgtAll, cnt, cntAll]; decide +kernel
theorem odd_20 : OddD (.tuple [.str "Value", .int 1]) := by unfold OddD; simp only [good, goodAll, short, shortAll, hgt, hgtAll, cnt, cntAll]; decide +kernel
theorem odd_21 : OddD (.tuple [.str "var", .str "zz"]) := by unfold OddD; simp only [good, goodAll, short, shortAll, hgt, hgtAll, cnt, cntAll]; decide +kernel
theorem odd_22 : OddD (.tuple [.str "value", .none]) := by unfold OddD; simp only [good, goodAll, short, shortAll, hgt, hgtAll, cnt, cntAll]; decide +kernel
theorem odd_plain {k : Str} {v : V} {t : PyData} (h : Plain k v t) : OddD (.tuple [.str "value", t]) := by
  unfold OddD
  have h1 : good (.str "value") ∧ short (.str "value") := by simp only [good, short]; decide +kernel
  simp only [good, goodAll, short, shortAll, hgt, hgtAll, cnt, cntAll, h.hgt, h.cnt, List.length_cons, List.length_nil] at h1 ⊢
  exact ⟨⟨h1.1, h.good, trivial⟩, ⟨⟨h1.2, h.short, trivial⟩, by decide⟩, by decide, by decide⟩
section
variable {P : Program} {w : World} {K : PySem.W.Frag} {mg : Str → Option Value} {base : Heap}
abbrev sOdd : Stmt := top 80
theorem scOdd : FnScope ["_law_pen_here", "_law_some"] ["_law_pen_here"] (defScope sOdd) := ⟨rfl, rfl, rfl, by decide +kernel, rfl, by decide +kernel, by decide +kernel⟩
def spOdd (K : PySem.W.Frag) : Sp := fun vs H Q _ => ∃ d c ns a r, vs = [.ref d] ∧ PenAt H d c ns a r ∧ a + 3000 ≤ 2 ^ 30 ∧ ∀ v a' r' H', Odd K H' v → a' ≤ a + 10 → Sb d H H' → PenAt H' d c ns a' r' → Q v H'
theorem ok_odd {f : Addr} {fd : FuncData} {k : Nat} (D1 : Cal P w K mg base CX0 2 "_law_pick" ["_law_pen_here", "_law_items"] [] spPick) (D2 : Cal P w K mg base CX0 4 "_law_plain" ["_law_pen_here", "_law_kind_here"] [] spPlainL) (F : Fun K "_law_odd_tree" "_law_odd_tree" sOdd f fd) : FnOk P w K mg base CX0 (k + 5) f fd ["_law_pen_here"] (spOdd K) := by
  obtain ⟨f1, fd1, ds1, e1, k1, v1, b1, G1⟩ := D1.ex
  obtain ⟨f2, fd2, ds2, e2, k2, v2, b2, G2⟩ := D2.ex
  refine F.ok scOdd (fun vs H Q E h => ?_) (fun cdv A outer s H vs Q E hr h => ?_)
  · obtain ⟨d, c, ns, a, r, rfl, _⟩ := h
    rfl
  · obtain ⟨d, c, ns, a, r, rfl, hp, ha, q⟩ := h
    refine ⟨_, (pss_cons (ps_set (i := 1) scOdd.nd rfl (Or.inl rfl) (pe_lst (pa_cons pe_non (pa_cons pe_int (pa_cons pe_str (pa_cons pe_str (pa_cons (pe_tup pa_nil) (pa_cons (pe_tup (pa_cons pe_str pa_nil)) (pa_cons (pe_tup (pa_cons pe_str (pa_cons pe_int (pa_cons pe_int pa_nil)))) (pa_cons (pe_tup (pa_cons pe_str (pa_cons pe_int pa_nil))) (pa_cons (pe_tup (pa_cons pe_str (pa_cons pe_str pa_nil))) pa_nil)))))))))))
      (pss_cons (ps_expr (pe_bm PySem.F.plainAttrs_list PySem.F.slot_list_append PySem.F.type_list_append mt_append (pv 1) (pa_cons (pe_tup (pa_cons pe_str (pa_cons pe_str (pa_cons (pe_tup (pa_cons pe_str (pa_cons pe_int pa_nil))) pa_nil)))) pa_nil)))
      (pss_cons (ps_set (i := 1) scOdd.nd rfl (Or.inl rfl) (pe_op op_cat (pv 1) (pe_lst (pa_cons (pe_tup (pa_cons pe_str (pa_cons (pe_op op_add (pe_op op_pow pe_int pe_int) pe_int) pa_nil))) (pa_cons (pe_tup (pa_cons pe_str (pa_cons (pe_op op_repS pe_str pe_int) pa_nil))) (pa_cons (pe_tup (pa_cons pe_str (pa_cons (pe_tup pa_nil) pa_nil))) (pa_cons (pe_tup (pa_cons pe_str pa_nil)) (pa_cons (pe_tup (pa_cons pe_str (pa_cons pe_int (pa_cons pe_str pa_nil)))) pa_nil))))))))
      (pss_cons (ps_set (i := 1) scOdd.nd rfl (Or.inl rfl) (pe_op op_cat (pv 1) (pe_lst (pa_cons (pe_tup (pa_cons pe_str (pa_cons pe_str (pa_cons (pe_tup (pa_cons pe_str (pa_cons pe_int pa_nil))) (pa_cons (pe_tup (pa_cons pe_str (pa_cons pe_int pa_nil))) pa_nil))))) (pa_cons (pe_tup (pa_cons pe_str (pa_cons (pe_tup (pa_cons pe_str (pa_cons pe_bl pa_nil))) (pa_cons (pe_tup (pa_cons pe_str (pa_cons pe_int pa_nil))) pa_nil)))) (pa_cons (pe_tup (pa_cons pe_str (pa_cons pe_int pa_nil))) pa_nil))))))
      (pss_cons (ps_set (i := 1) scOdd.nd rfl (Or.inl rfl) (pe_op op_cat (pv 1) (pe_lst (pa_cons (pe_tup (pa_cons pe_str (pa_cons pe_str pa_nil))) (pa_cons (pe_tup (pa_cons pe_str (pa_cons pe_non pa_nil))) pa_nil)))))
      (pss_one (ps_ret (pe_call G1 (hr.mono (by omega)) rfl e1 k1 b1 v1 pass0 (pa_cons (pv 0) (pa_cons (pe_op op_cat (pv 1) (pe_lst (pa_cons (pe_tup (pa_cons pe_str (pa_cons (pe_call G2 (hr.mono (by omega)) rfl e2 k2 b2 v2 pass0 (pa_cons (pv 0) (pa_cons (pe_call G1 (hr.mono (by omega)) rfl e1 k1 b1 v1 pass0 (pa_cons (pv 0) (pa_cons (pe_lst (pa_cons pe_str (pa_cons pe_str (pa_cons pe_str pa_nil)))) pa_nil))) pa_nil))) pa_nil))) pa_nil))) pa_nil)))))))))), ?_⟩
    refine ⟨Nat.zero_le _, fun t1 h1 => ⟨(by show 1 ≤ sizeLine; decide), fun t2 h2 => ⟨(by show 3 ≤ sizeLine; decide), fun t3 h3 => ⟨(by show 2 ≤ sizeLine; decide), fun t4 h4 => ⟨(by show 2 ≤ sizeLine; decide), fun t5 h5 => ⟨(by show 9 ≤ sizeLine; decide), fun l1 hl1 => ?_⟩⟩⟩⟩⟩⟩
    have s1 := same_new h1 (.tup [])
    have s2 := same_new h2 (.tup [.str "value"])
    have s3 := same_new h3 (.tup [.str "value", .int 1, .int 2])
    have s4 := same_new h4 (.tup [.str "col", .int 1])
    have s5 := same_new h5 (.tup [.str "col", .str "A"])
    have u1 := same_new hl1 (.lst [.non, .int 7, .str "", .str "a", .ref t1, .ref t2, .ref t3, .ref t4, .ref t5])
    have d1 : Dp K _ (.ref t1) (.tuple []) := dp_new h1 (xs := []) .nil
    have d2 : Dp K _ (.ref t2) (.tuple [.str "value"]) := dp_new h2 (xs := [.str "value"]) (.cons (.str _) .nil)
    have d3 : Dp K _ (.ref t3) (.tuple [.str "value", .int 1, .int 2]) := dp_new h3 (xs := [.str "value", .int 1, .int 2]) (.cons (.str _) (.cons (.int _) (.cons (.int _) .nil)))
    have d4 : Dp K _ (.ref t4) (.tuple [.str "col", .int 1]) := dp_new h4 (xs := [.str "col", .int 1]) (.cons (.str _) (.cons (.int _) .nil))
    have d5 : Dp K _ (.ref t5) (.tuple [.str "col", .str "A"]) := dp_new h5 (xs := [.str "col", .str "A"]) (.cons (.str _) (.cons (.str _) .nil))
    generalize hG1 : upd _ l1 (.lst [.non, .int 7, .str "", .str "a", .ref t1, .ref t2, .ref t3, .ref t4, .ref t5]) = G1
    have S1 : Same H G1 := by rw [← hG1]; exact (s1.trans (s2.trans (s3.trans (s4.trans (s5.trans u1)))))
    have M1 : G1 l1 = some (.lst [.non, .int 7, .str "", .str "a", .ref t1, .ref t2, .ref t3, .ref t4, .ref t5]) := by rw [← hG1]; exact upd_same
    have f1 : H l1 = none := Same.free (s1.trans (s2.trans (s3.trans (s4.trans s5)))) hl1
    have O1 : OddL K G1 [.non, .int 7, .str "", .str "a", .ref t1, .ref t2, .ref t3, .ref t4, .ref t5] := by
      rw [← hG1]
      intro x hx
      simp only [List.mem_cons, List.not_mem_nil, or_false] at hx
      rcases hx with rfl | rfl | rfl | rfl | rfl | rfl | rfl | rfl | rfl
      · exact ⟨_, .non, odd_non⟩
      · exact ⟨_, .int 7, odd_int7⟩
      · exact ⟨_, .str _, odd_s0⟩
      · exact ⟨_, .str _, odd_sa⟩
      · exact ⟨_, dp_same (s2.trans (s3.trans (s4.trans (s5.trans u1)))) _ _ d1, odd_1⟩
      · exact ⟨_, dp_same (s3.trans (s4.trans (s5.trans u1))) _ _ d2, odd_2⟩
      · exact ⟨_, dp_same (s4.trans (s5.trans u1)) _ _ d3, odd_3⟩
      · exact ⟨_, dp_same (s5.trans u1) _ _ d4, odd_4⟩
      · exact ⟨_, dp_same u1 _ _ d5, odd_5⟩
    generalize hL1 : ([.non, .int 7, .str "", .str "a", .ref t1, .ref t2, .ref t3, .ref t4, .ref t5] : List V) = L1 at M1 O1
    have c1 : L1.length = 9 := by rw [← hL1]; rfl
    refine ⟨_, rfl, .inl ⟨rfl, _, SqL.of M1⟩, (by show 2 ≤ sizeLine; decide), fun t6 h6 => ⟨(by show 3 ≤ sizeLine; decide), fun t7 h7 => ⟨l1, _, _, rfl, rfl, ((same_new h6 _).trans (same_new h7 _)) _ _ M1, by rw [c1]; exact small' (by decide), ?_⟩⟩⟩
    have s6 := same_new h6 (.tup [.str "value", .int 1])
    have s7 := same_new h7 (.tup [.str "op", .str "+", .ref t6])
    have d6 : Dp K _ (.ref t6) (.tuple [.str "value", .int 1]) := dp_new h6 (xs := [.str "value", .int 1]) (.cons (.str _) (.cons (.int _) .nil))
    have d7 : Dp K _ (.ref t7) (.tuple [.str "op", .str "+", (.tuple [.str "value", .int 1])]) := dp_new h7 (xs := [.str "op", .str "+", .ref t6]) (.cons (.str _) (.cons (.str _) (.cons (dp_same s7 _ _ d6) .nil)))
    have sbl := sb_upd (p := l1) (H := upd (upd G1 t6 (.tup [.str "value", .int 1])) t7 (.tup [.str "op", .str "+", .ref t6])) (.lst (L1 ++ [.ref t7]))
    have N1 := (s6.trans s7) _ _ M1
    generalize hG2 : upd _ l1 (.lst (L1 ++ [.ref t7])) = G2
    have nT : ∀ ys, (upd (upd G1 t6 (.tup [.str "value", .int 1])) t7 (.tup [.str "op", .str "+", .ref t6])) l1 ≠ some (.tup ys) := fun ys e => by rw [N1] at e; cases e
    have nF : ∀ o ys, (upd (upd G1 t6 (.tup [.str "value", .int 1])) t7 (.tup [.str "op", .str "+", .ref t6])) l1 ≠ some (.frz o (.tup ys)) := fun o ys e => by rw [N1] at e; cases e
    have S2 : Same H G2 := by rw [← hG2]; exact same_put (S1.trans (s6.trans s7)) f1 _
    have M2 : G2 l1 = some (.lst (L1 ++ [.ref t7])) := by rw [← hG2]; exact upd_same
    have O2 : OddL K G2 (L1 ++ [.ref t7]) := by
      rw [← hG2]
      refine OddL.app (fun x hx => ((O1 x hx).same (s6.trans s7)).sb sbl nT nF) (fun x hx => ?_)
      simp only [List.mem_cons, List.not_mem_nil, or_false] at hx
      subst hx
      exact (show Odd K _ _ from ⟨_, d7, odd_7⟩).sb sbl nT nF
    have c2 : (L1 ++ [V.ref t7]).length = 10 := by rw [List.length_append, c1]; rfl
    generalize (L1 ++ [V.ref t7]) = L2 at M2 O2 c2
    refine ⟨_, rfl, _, _, rfl, rfl, p30, _, _, rfl, rfl, (by show 2 ≤ sizeLine; decide), fun t8 h8 => ⟨122, 41, by rw [ofs_z], rfl, by decide, (by show 2 ≤ sizeLine; decide), fun t9 h9 => ⟨Nat.zero_le _, fun t10 h10 => ⟨(by show 2 ≤ sizeLine; decide), fun t11 h11 => ⟨(by show 1 ≤ sizeLine; decide), fun t12 h12 => ⟨(by show 3 ≤ sizeLine; decide), fun t13 h13 => ⟨(by show 5 ≤ sizeLine; decide), fun k3 hk3 => ⟨l1, k3, L2, _, rfl, rfl, ?_, upd_same, by rw [c2]; exact small (by show 10 + 5 ≤ _; decide), fun l3 hl3 => ?_⟩⟩⟩⟩⟩⟩⟩⟩
    · exact ((same_new h8 _).trans ((same_new h9 _).trans ((same_new h10 _).trans ((same_new h11 _).trans ((same_new h12 _).trans ((same_new h13 _).trans (same_new hk3 _))))))) _ _ M2
    have s8 := same_new h8 (.tup [.str "value", .int (10 ^ (30 : Int).toNat + 1)])
    have s9 := same_new h9 (.tup [.str "value", .str (S (List.replicate 41 122))])
    have s10 := same_new h10 (.tup [])
    have s11 := same_new h11 (.tup [.str "value", .ref t10])
    have s12 := same_new h12 (.tup [.str "word"])
    have s13 := same_new h13 (.tup [.str "told", .int 0, .str "int"])
    have u3 := same_new hk3 (.lst [.ref t8, .ref t9, .ref t11, .ref t12, .ref t13])
    have w3 := same_new hl3 (.lst (L2 ++ [.ref t8, .ref t9, .ref t11, .ref t12, .ref t13]))
    have d8 : Dp K _ (.ref t8) (.tuple [.str "value", .int (10 ^ (30 : Int).toNat + 1)]) := dp_new h8 (xs := [.str "value", .int (10 ^ (30 : Int).toNat + 1)]) (.cons (.str _) (.cons (.int _) .nil))
    have d9 : Dp K _ (.ref t9) (.tuple [.str "value", .str (S (List.replicate 41 122))]) := dp_new h9 (xs := [.str "value", .str (S (List.replicate 41 122))]) (.cons (.str _) (.cons (.str _) .nil))
    have d10 : Dp K _ (.ref t10) (.tuple []) := dp_new h10 (xs := []) .nil
    have d11 : Dp K _ (.ref t11) (.tuple [.str "value", (.tuple [])]) := dp_new h11 (xs := [.str "value", .ref t10]) (.cons (.str _) (.cons (dp_same s11 _ _ d10) .nil))
    have d12 : Dp K _ (.ref t12) (.tuple [.str "word"]) := dp_new h12 (xs := [.str "word"]) (.cons (.str _) .nil)
    have d13 : Dp K _ (.ref t13) (.tuple [.str "told", .int 0, .str "int"]) := dp_new h13 (xs := [.str "told", .int 0, .str "int"]) (.cons (.str _) (.cons (.int _) (.cons (.str _) .nil)))
    generalize hG3 : upd _ l3 (.lst (L2 ++ [.ref t8, .ref t9, .ref t11, .ref t12, .ref t13])) = G3
    have S3 : Same H G3 := by rw [← hG3]; exact S2.trans (s8.trans (s9.trans (s10.trans (s11.trans (s12.trans (s13.trans (u3.trans w3)))))))
    have M3 : G3 l3 = some (.lst (L2 ++ [.ref t8, .ref t9, .ref t11, .ref t12, .ref t13])) := by rw [← hG3]; exact upd_same
    have O3 : OddL K G3 (L2 ++ [.ref t8, .ref t9, .ref t11, .ref t12, .ref t13]) := by
      rw [← hG3]
      refine OddL.app (fun x hx => (O2 x hx).same (s8.trans (s9.trans (s10.trans (s11.trans (s12.trans (s13.trans (u3.trans w3)))))))) (fun x hx => ?_)
      simp only [List.mem_cons, List.not_mem_nil, or_false] at hx
      rcases hx with rfl | rfl | rfl | rfl | rfl
      · exact ⟨_, dp_same (s9.trans (s10.trans (s11.trans (s12.trans (s13.trans (u3.trans w3)))))) _ _ d8, odd_8⟩
      · exact ⟨_, dp_same (s10.trans (s11.trans (s12.trans (s13.trans (u3.trans w3))))) _ _ d9, odd_9⟩
      · exact ⟨_, dp_same (s12.trans (s13.trans (u3.trans w3))) _ _ d11, odd_11⟩
      · exact ⟨_, dp_same (s13.trans (u3.trans w3)) _ _ d12, odd_12⟩
      · exact ⟨_, dp_same (u3.trans w3) _ _ d13, odd_13⟩
    have c3 : (L2 ++ [V.ref t8, V.ref t9, V.ref t11, V.ref t12, V.ref t13]).length = 15 := by rw [List.length_append, c2]; rfl
    generalize (L2 ++ [V.ref t8, V.ref t9, V.ref t11, V.ref t12, V.ref t13]) = L3 at M3 O3 c3
    refine ⟨_, rfl, (by show 2 ≤ sizeLine; decide), fun t14 h14 => ⟨(by show 2 ≤ sizeLine; decide), fun t15 h15 => ⟨(by show 4 ≤ sizeLine; decide), fun t16 h16 => ⟨(by show 2 ≤ sizeLine; decide), fun t17 h17 => ⟨(by show 2 ≤ sizeLine; decide), fun t18 h18 => ⟨(by show 3 ≤ sizeLine; decide), fun t19 h19 => ⟨(by show 2 ≤ sizeLine; decide), fun t20 h20 => ⟨(by show 3 ≤ sizeLine; decide), fun k4 hk4 => ⟨l3, k4, L3, _, rfl, rfl, ?_, upd_same, by rw [c3]; exact small (by show 15 + 3 ≤ _; decide), fun l4 hl4 => ?_⟩⟩⟩⟩⟩⟩⟩⟩⟩
    · exact ((same_new h14 _).trans ((same_new h15 _).trans ((same_new h16 _).trans ((same_new h17 _).trans ((same_new h18 _).trans ((same_new h19 _).trans ((same_new h20 _).trans (same_new hk4 _)))))))) _ _ M3
    have s14 := same_new h14 (.tup [.str "value", .int 1])
    have s15 := same_new h15 (.tup [.str "value", .int 2])
    have s16 := same_new h16 (.tup [.str "op", .str "<=", .ref t14, .ref t15])
    have s17 := same_new h17 (.tup [.str "value", .bl true])
    have s18 := same_new h18 (.tup [.str "value", .int 1])
    have s19 := same_new h19 (.tup [.str "case", .ref t17, .ref t18])
    have s20 := same_new h20 (.tup [.str "Value", .int 1])
    have u4 := same_new hk4 (.lst [.ref t16, .ref t19, .ref t20])
    have w4 := same_new hl4 (.lst (L3 ++ [.ref t16, .ref t19, .ref t20]))
    have d14 : Dp K _ (.ref t14) (.tuple [.str "value", .int 1]) := dp_new h14 (xs := [.str "value", .int 1]) (.cons (.str _) (.cons (.int _) .nil))
    have d15 : Dp K _ (.ref t15) (.tuple [.str "value", .int 2]) := dp_new h15 (xs := [.str "value", .int 2]) (.cons (.str _) (.cons (.int _) .nil))
    have d16 : Dp K _ (.ref t16) (.tuple [.str "op", .str "<=", (.tuple [.str "value", .int 1]), (.tuple [.str "value", .int 2])]) := dp_new h16 (xs := [.str "op", .str "<=", .ref t14, .ref t15]) (.cons (.str _) (.cons (.str _) (.cons (dp_same (s15.trans s16) _ _ d14) (.cons (dp_same s16 _ _ d15) .nil))))
    have d17 : Dp K _ (.ref t17) (.tuple [.str "value", .bool true]) := dp_new h17 (xs := [.str "value", .bl true]) (.cons (.str _) (.cons (.bl _) .nil))
    have d18 : Dp K _ (.ref t18) (.tuple [.str "value", .int 1]) := dp_new h18 (xs := [.str "value", .int 1]) (.cons (.str _) (.cons (.int _) .nil))
    have d19 : Dp K _ (.ref t19) (.tuple [.str "case", (.tuple [.str "value", .bool true]), (.tuple [.str "value", .int 1])]) := dp_new h19 (xs := [.str "case", .ref t17, .ref t18]) (.cons (.str _) (.cons (dp_same (s18.trans s19) _ _ d17) (.cons (dp_same s19 _ _ d18) .nil)))
    have d20 : Dp K _ (.ref t20) (.tuple [.str "Value", .int 1]) := dp_new h20 (xs := [.str "Value", .int 1]) (.cons (.str _) (.cons (.int _) .nil))
    generalize hG4 : upd _ l4 (.lst (L3 ++ [.ref t16, .ref t19, .ref t20])) = G4
    have S4 : Same H G4 := by rw [← hG4]; exact S3.trans (s14.trans (s15.trans (s16.trans (s17.trans (s18.trans (s19.trans (s20.trans (u4.trans w4))))))))
    have M4 : G4 l4 = some (.lst (L3 ++ [.ref t16, .ref t19, .ref t20])) := by rw [← hG4]; exact upd_same
    have O4 : OddL K G4 (L3 ++ [.ref t16, .ref t19, .ref t20]) := by
      rw [← hG4]
      refine OddL.app (fun x hx => (O3 x hx).same (s14.trans (s15.trans (s16.trans (s17.trans (s18.trans (s19.trans (s20.trans (u4.trans w4))))))))) (fun x hx => ?_)
      simp only [List.mem_cons, List.not_mem_nil, or_false] at hx
      rcases hx with rfl | rfl | rfl
      · exact ⟨_, dp_same (s17.trans (s18.trans (s19.trans (s20.trans (u4.trans w4))))) _ _ d16, odd_16⟩
      · exact ⟨_, dp_same (s20.trans (u4.trans w4)) _ _ d19, odd_19⟩
      · exact ⟨_, dp_same (u4.trans w4) _ _ d20, odd_20⟩
    have c4 : (L3 ++ [V.ref t16, V.ref t19, V.ref t20]).length = 18 := by rw [List.length_append, c3]; rfl
    generalize (L3 ++ [V.ref t16, V.ref t19, V.ref t20]) = L4 at M4 O4 c4
    refine ⟨_, rfl, (by show 2 ≤ sizeLine; decide), fun t21 h21 => ⟨(by show 2 ≤ sizeLine; decide), fun t22 h22 => ⟨(by show 2 ≤ sizeLine; decide), fun k5 hk5 => ⟨l4, k5, L4, _, rfl, rfl, ?_, upd_same, by rw [c4]; exact small (by show 18 + 2 ≤ _; decide), fun l5 hl5 => ?_⟩⟩⟩⟩
    · exact ((same_new h21 _).trans ((same_new h22 _).trans (same_new hk5 _))) _ _ M4
    have s21 := same_new h21 (.tup [.str "var", .str "zz"])
    have s22 := same_new h22 (.tup [.str "value", .non])
    have u5 := same_new hk5 (.lst [.ref t21, .ref t22])
    have w5 := same_new hl5 (.lst (L4 ++ [.ref t21, .ref t22]))
    have d21 : Dp K _ (.ref t21) (.tuple [.str "var", .str "zz"]) := dp_new h21 (xs := [.str "var", .str "zz"]) (.cons (.str _) (.cons (.str _) .nil))
    have d22 : Dp K _ (.ref t22) (.tuple [.str "value", .none]) := dp_new h22 (xs := [.str "value", .non]) (.cons (.str _) (.cons .non .nil))
    generalize hG5 : upd _ l5 (.lst (L4 ++ [.ref t21, .ref t22])) = G5
    have S5 : Same H G5 := by rw [← hG5]; exact S4.trans (s21.trans (s22.trans (u5.trans w5)))
    have M5 : G5 l5 = some (.lst (L4 ++ [.ref t21, .ref t22])) := by rw [← hG5]; exact upd_same
    have O5 : OddL K G5 (L4 ++ [.ref t21, .ref t22]) := by
      rw [← hG5]
      refine OddL.app (fun x hx => (O4 x hx).same (s21.trans (s22.trans (u5.trans w5)))) (fun x hx => ?_)
      simp only [List.mem_cons, List.not_mem_nil, or_false] at hx
      rcases hx with rfl | rfl
      · exact ⟨_, dp_same (s22.trans (u5.trans w5)) _ _ d21, odd_21⟩
      · exact ⟨_, dp_same (u5.trans w5) _ _ d22, odd_22⟩
    have c5 : (L4 ++ [V.ref t21, V.ref t22]).length = 20 := by rw [List.length_append, c4]; rfl
    generalize (L4 ++ [V.ref t21, V.ref t22]) = L5 at M5 O5 c5
    refine ⟨_, rfl, _, rfl, _, rfl, _, rfl, (by show 3 ≤ sizeLine; decide), fun l8 hl8 => ?_⟩
    have s8' := same_new hl8 (.lst (kindsL.map V.str))
    have p8 := pen_same hp (S5.trans s8')
    refine ⟨d, c, ns, a, r, _, rfl, p8, by omega, .inr ⟨l8, kindsL.map V.str, rfl, upd_same, by simp [kindsL], by show 3 ≤ 1000; decide, fun v hv a9 r9 H9 ha9 sb9 p9 => ?_⟩⟩
    obtain ⟨kd, hkd, rfl⟩ := List.mem_map.mp hv
    refine ⟨d, c, ns, a9, r9, kd, rfl, hkd, p9, by omega, fun v t a10 r10 H10 hpl ha10 sb10 p10 => ?_⟩
    refine ⟨(by show 2 ≤ sizeLine; decide), fun t23 h23 => ⟨(by show 1 ≤ sizeLine; decide), fun l9 hl9 => ?_⟩⟩
    have s23 := same_new h23 (.tup [.str "value", v])
    have u9 := same_new hl9 (.lst [.ref t23])
    have nld : l5 ≠ d := by
      intro z
      have := M5
      rw [z, (pen_same hp S5).dict] at this
      cases this
    have M9 := sb10 _ _ (sb9 _ _ (s8' _ _ M5) nld) nld
    refine ⟨l5, l9, L5, _, rfl, rfl, (s23.trans u9) _ _ M9, upd_same, by rw [c5]; exact small (by show 20 + 1 ≤ _; decide), fun l10 hl10 => ?_⟩
    have w10 := same_new hl10 (.lst (L5 ++ [.ref t23]))
    have sA := s23.trans (u9.trans w10)
    have O10 : OddL K (upd (upd (upd H10 t23 (.tup [.str "value", v])) l9 (.lst [.ref t23])) l10 (.lst (L5 ++ [.ref t23]))) (L5 ++ [.ref t23]) := by
      refine OddL.app (fun x hx => ((((O5 x hx).same s8').sb sb9 p8.noT p8.noF).sb sb10 p9.noT p9.noF).same sA) (fun x hx => ?_)
      simp only [List.mem_cons, List.not_mem_nil, or_false] at hx
      subst hx
      exact ⟨_, dp_same (u9.trans w10) _ _ (dp_two upd_same (hpl.dp _ _)), odd_plain hpl⟩
    refine ⟨d, c, ns, a10, r10, _, rfl, pen_same p10 sA, by omega, .inr ⟨l10, _, rfl, upd_same, by simp, by rw [List.length_append, c5]; show 21 ≤ 1000; decide, fun x hx a11 r11 H11 ha11 sb11 p11 => ?_⟩⟩
    exact q x a11 r11 H11 ((O10 x hx).sb sb11 (pen_same p10 sA).noT (pen_same p10 sA).noF) (by omega) (((Same.sb (S5.trans s8')).trans sb9).trans ((sb10.trans (Same.sb sA)).trans sb11)) p11
end
end DS
set_option Elab.async false
set_option linter.all false
set_option maxRecDepth 100000
set_option maxHeartbeats 4000000
/-! t[::-1] of a tuple -/
namespace DS
open PySem PySem.Spec PyProof.Rows L2 HT
section
variable {prog : Program} {w : World} {A : Around} {E : Value → Shared → Prop} {s : Shared}
theorem applied_rev {sl : Addr} {vl vu vs : Value} {n : Nat} {Q : Int × Int × Nat → Shared → Prop} (hs : s.heap.IsSliceOf sl vl vu vs) (pl : IsPart vl none) (pu : IsPart vu none) (ps : IsPart vs (some (-1)))
    (h : Q (((n : Nat) : Int) - 1, -1, n) s) : wpAny (model prog w) A (Builtin.Slice.sliceApplied (.ref sl) (pure (n : Int))) Q E s := by
  obtain ⟨os, hos, hcs, hds⟩ := id hs
  unfold Builtin.Slice.sliceApplied Builtin.Slice.sliceFields
  refine wpAny_bind (wpAny_bind (wpAny_field hos hds (x := vl) rfl (wpAny_bind (wpAny_field hos hds (x := vu) rfl (wpAny_bind (wpAny_field hos hds (x := vs) rfl (wpAny_pure ?_)))))))
  refine wpAny_bind (slicePart_ ps ?_)
  show wpAny _ _ (if ((-1 : Int) == 0) = true then _ else _) _ _ s
  rw [if_neg (by decide)]
  refine wpAny_bind (slicePart_ pl (wpAny_bind (slicePart_ pu (wpAny_bind (wpAny_pure ?_)))))
  have ea : Builtin.Slice.sliceAdjust none none (-1) (n : Int) = (((n : Nat) : Int) - 1, -1) := by
    unfold Builtin.Slice.sliceAdjust
    simp
  have ep : Builtin.Slice.slicePlaces (((n : Nat) : Int) - 1) (-1) (-1) = n := by
    unfold Builtin.Slice.slicePlaces
    have h1 : ¬ ((-1 : Int) > 0) := by decide
    simp only [h1, if_false, show (- -1 : Int) = 1 by decide, Int.ediv_one]
    split <;> omega
  show wpAny _ _ (match Builtin.Slice.sliceAdjust none none (-1) (n : Int) with | (lo, hi) => pure (lo, (-1 : Int), Builtin.Slice.slicePlaces lo hi (-1))) _ _ s
  rw [ea]
  show wpAny _ _ (pure (((n : Nat) : Int) - 1, (-1 : Int), Builtin.Slice.slicePlaces (((n : Nat) : Int) - 1) (-1) (-1))) _ _ s
  rw [ep]
  exact wpAny_pure h
theorem fm_congr {α β : Type} {f g : α → Option β} : ∀ {l : List α}, (∀ x ∈ l, f x = g x) → l.filterMap f = l.filterMap g
  | [], _ => rfl
  | x :: l, h => by
    rw [List.filterMap_cons, List.filterMap_cons, h x (by simp), fm_congr fun y hy => h y (by simp [hy])]
theorem pick_rev (xs : Array Value) : ((List.range xs.size).filterMap fun (m : Nat) => xs[(((xs.size : Nat) : Int) - 1 + (m : Int) * (-1)).toNat]?).toArray = xs.toList.reverse.toArray := by
  congr 1
  rw [← PySem.W.krv_all xs, ← List.filterMap_reverse, ← PySem.W.krv_range, List.filterMap_map]
  refine fm_congr fun k hk => ?_
  have := List.mem_range.mp hk
  show xs[(((xs.size : Nat) : Int) - 1 + (k : Int) * (-1)).toNat]? = xs[xs.size - 1 - k]?
  congr 1
  omega
theorem getItem_tuple_rev {t sl : Addr} {items : Array Value} {vl vu vs : Value} {Q : Value → Shared → Prop} (ht : IsTup s.heap t items) (hs : s.heap.IsSliceOf sl vl vu vs) (pl : IsPart vl none) (pu : IsPart vu none) (ps : IsPart vs (some (-1)))
    (h : Q (.ref s.heap.objs.size) { s with heap := s.heap.push { cls := .type "tuple", data := .seq items.toList.reverse.toArray } })
    (hsz : items.size ≤ sizeLine) : wpAny (model prog w) A (getItem (.ref t) (.ref sl)) Q E s := by
  have htake : sizeOk (.seq items.toList.reverse.toArray) := by
    show items.toList.reverse.toArray.size ≤ sizeLine
    rw [List.size_toArray, List.length_reverse, Array.length_toList]
    exact hsz
  obtain ⟨os, hos, hcs, hds⟩ := id hs
  have hTs : s.TypeIs (.ref sl) "slice" := ⟨os, hos, hcs⟩
  unfold getItem
  try with_reducible refine wpAny_holding ?_
  first | refine wpAny_bind (wpAny_pure ?_) | skip
  refine wpAny_bind (wpAny_sequenceKey ht.typeIs (by decide) ?_)
  refine wpAny_bind (wpAny_callSpecial?_slot (name := Str.ofString "__getitem__") ht.typeIs PyProof.Rows.slot_tuple_getitem
    (wpAny_call_entry PyProof.Rows.slot_tuple_getitem ht.typeIs entry_tuple_getitem ?_ (args_tuple_getitem _ _)))
  show wpAny _ _ (Builtin.Tuple.tupleItemsOf (.ref t) >>= _) _ _ s
  refine wpAny_bind (tupleItemsOf_ ht ?_)
  refine wpAny_bind (wpAny_typeOf hTs ?_)
  rw [if_pos (by decide)]
  refine wpAny_bind (applied_rev hs pl pu ps ?_)
  have hno : ¬ (((((items.size : Nat) : Int) - 1) == 0 && (-1 : Int) == 1 && items.size == items.size) = true) := by
    intro q
    rw [Bool.and_eq_true, Bool.and_eq_true] at q
    exact absurd q.1.2 (by decide)
  show wpAny _ _ (if ((((items.size : Nat) : Int) - 1) == 0 && (-1 : Int) == 1 && items.size == items.size) = true then _ else _) _ _ s
  rw [if_neg hno, pick_rev]
  first
    | exact wpAny_bind (m := Builtin.Tuple.tupleExact _) (wpAny_newObj_type (wpAny_pure ⟨_, rfl, wpAny_pure h⟩) htake)
    | exact wpAny_bind (m := Builtin.Tuple.tupleExact _) (wpAny_newObj_type (wpAny_bind (wpAny_pure (wpAny_pure ⟨_, rfl, wpAny_pure h⟩))) htake)
    | exact wpAny_bind (wpAny_bind (m := Builtin.Tuple.tupleExact _) (wpAny_newObj_type (wpAny_pure (wpAny_pure ⟨_, rfl, wpAny_pure h⟩)) htake))
    | exact wpAny_bind (wpAny_bind (m := Builtin.Tuple.tupleExact _) (wpAny_newObj_type (wpAny_pure ⟨_, rfl, wpAny_pure h⟩) htake))
end
section
variable {X : Cx}
def tRevT (K : PySem.W.Frag) (te : TE) : TE := fun σ H Q => te σ H fun x H1 => ∃ a xs, x = .ref a ∧ SqT K H1 a xs ∧ ∀ p, H1 p = none → Q (.ref p) (upd H1 p (.tup xs.reverse))
theorem pe_revT {e : Expr} {te : TE} {k : Nat} {p1 p2 p3 pos : Pos} (he : PE X e te) : PE X (.Subscript e (.Slice none none (some (.UnaryOp .USub (.Constant (.int 1) k p1) p2)) p3) pos) (tRevT X.K te) := by
  refine ⟨fun pins s σ H Q I h => ?_⟩
  refine Subscript_ (thn (he.run pins s σ H _ I h) fun v s1 ⟨x, H1, I1, r1, q1⟩ => ?_)
  obtain ⟨a, xs, ex, hx, q⟩ := q1
  subst ex
  cases r1
  have hst : PO X (some (.UnaryOp .USub (.Constant (.int 1) k p1) p2)) (tPart (tUn (rU fun i => .int (-i)) (tC (.int 1)))) := po_some (pe_un un_neg pe_int)
  refine wpAny_Slice (thn (po_none.run pins s1 σ H1 (fun o H2 => o = none ∧ H2 = H1) I1 ⟨rfl, rfl⟩) fun vl s2 ⟨l, H2, I2, pl, el, e2⟩ => ?_)
  subst el e2
  refine thn (po_none.run pins s2 σ H2 (fun o H3 => o = none ∧ H3 = H2) I2 ⟨rfl, rfl⟩) fun vu s3 ⟨u, H3, I3, pu, eu, e3⟩ => ?_
  subst eu e3
  refine thn (hst.run pins s3 σ H3 (fun o H4 => o = some (-1) ∧ H4 = H3) I3 ⟨1, rfl, -1, rfl, rfl, rfl⟩) fun vs s4 ⟨o, H4, I4, ps, eo, e4⟩ => ?_
  subst eo e4
  have I5 : Inv X pins σ H4 { s4 with heap := s4.heap.push { cls := .type "slice", data := .fields #[vl, vu, vs] } } := I4.kept (t' := s4.toks) fun b ob q => Heap.get?_push_of_some _ q
  obtain ⟨its, r, ht, hz⟩ := I5.tuple hx
  have hlen := r.length
  show wpAny (model X.prog X.w) X.A (subscriptTail e (.Slice none none (some (.UnaryOp .USub (.Constant (.int 1) k p1) p2)) p3) (.ref a) (.ref s4.heap.objs.size)) (EP X pins σ Q) X.xe { s4 with heap := s4.heap.push { cls := .type "slice", data := .fields #[vl, vu, vs] } }
  refine tail_any (ops := [.ref a, .ref s4.heap.objs.size]) ht.typeIs (PyProof.Rows.slot_tuple_getitem.lookup) ?_ (by with_unfolding_all rfl)
  refine getItem_tuple_rev ht (Heap.IsSliceOf.new _ vl vu vs) pl pu ps ?_ (by rw [List.size_toArray]; omega)
  refine ⟨.ref _, _, I5.laid (t' := s4.toks) (o := .tup xs.reverse) (fun b ob q => Heap.get?_push_of_some _ q) (Nat.le_refl _) ?_, rfl, q _ (I5.hok.fresh (Nat.le_refl _))⟩
  exact ⟨by rw [List.length_reverse]; exact hz, _, r.reverse, IsTup.new _ _⟩
end
end DS
set_option Elab.async false
set_option linter.all false
set_option maxRecDepth 100000
set_option maxHeartbeats 4000000
namespace DS
open PySem L2 PySem.NumText
mutual
/-- all texts are short -/
def txts : PyData → Prop
  | .str x => x.cps.toList.length ≤ 1000
  | .tuple ds => txtsAll ds
  | _ => True
def txtsAll : List PyData → Prop
  | [] => True
  | d :: ds => txts d ∧ txtsAll ds
end
theorem cntAll_len : ∀ ds : List PyData, ds.length ≤ cntAll ds
  | [] => by simp
  | d :: ds => by have := cntAll_len ds; have := cnt_pos d; simp only [List.length_cons, cntAll]; omega
mutual
theorem short_txts : ∀ t : PyData, short t → txts t
  | .str x, h => by simpa only [short, txts] using h
  | .tuple ds, h => by simp only [short] at h; simp only [txts]; exact shortAll_txts ds h.1
  | .none, _ => by simp [txts]
  | .bool _, _ => by simp [txts]
  | .int _, _ => by simp [txts]
  | .list _, _ => by simp [txts]
  | .dict _, _ => by simp [txts]
theorem shortAll_txts : ∀ ds : List PyData, shortAll ds → txtsAll ds
  | [], _ => by simp [txtsAll]
  | d :: ds, h => by simp only [shortAll] at h; simp only [txtsAll]; exact ⟨short_txts d h.1, shortAll_txts ds h.2⟩
end
mutual
theorem txts_short : ∀ t : PyData, txts t → cnt t ≤ 10000 → short t
  | .str x, h, _ => by simpa only [short, txts] using h
  | .tuple ds, h, hc => by
    simp only [txts] at h
    simp only [cnt] at hc
    have := cntAll_len ds
    simp only [short]
    exact ⟨txtsAll_short ds h (by omega), by omega⟩
  | .none, _, _ => by simp [short]
  | .bool _, _, _ => by simp [short]
  | .int _, _, _ => by simp [short]
  | .list _, _, _ => by simp [short]
  | .dict _, _, _ => by simp [short]
theorem txtsAll_short : ∀ ds : List PyData, txtsAll ds → cntAll ds ≤ 10000 → shortAll ds
  | [], _, _ => by simp [shortAll]
  | d :: ds, h, hc => by
    simp only [txtsAll] at h
    simp only [cntAll] at hc
    simp only [shortAll]
    exact ⟨txts_short d h.1 (by omega), txtsAll_short ds h.2 (by omega)⟩
end
theorem goodAll_iff : ∀ {ds : List PyData}, goodAll ds ↔ ∀ d ∈ ds, good d
  | [] => by simp [goodAll]
  | d :: ds => by simp only [goodAll, goodAll_iff (ds := ds), List.mem_cons, forall_eq_or_imp]
theorem txtsAll_iff : ∀ {ds : List PyData}, txtsAll ds ↔ ∀ d ∈ ds, txts d
  | [] => by simp [txtsAll]
  | d :: ds => by simp only [txtsAll, txtsAll_iff (ds := ds), List.mem_cons, forall_eq_or_imp]
theorem hgtAll_iff {n : Nat} : ∀ {ds : List PyData}, hgtAll ds ≤ n ↔ ∀ d ∈ ds, hgt d ≤ n
  | [] => by simp [hgtAll]
  | d :: ds => by
    have ih := hgtAll_iff (n := n) (ds := ds)
    simp only [hgtAll, List.mem_cons, forall_eq_or_imp, ← ih]
    omega
theorem cntAll_rev : ∀ ds : List PyData, cntAll ds.reverse = cntAll ds
  | [] => rfl
  | d :: ds => by rw [List.reverse_cons, cntAll_app, cntAll_rev ds]; simp only [cntAll]; omega
theorem dpAll_app {K : PySem.W.Frag} {H : Hp} : ∀ {xs ys : List V} {ds es : List PyData}, DpAll K H xs ds → DpAll K H ys es → DpAll K H (xs ++ ys) (ds ++ es)
  | _, _, _, _, .nil, h => h
  | _, _, _, _, .cons h1 h2, h => .cons h1 (dpAll_app h2 h)
theorem dpAll_take {K : PySem.W.Frag} {H : Hp} : ∀ {xs : List V} {ds : List PyData} (n : Nat), DpAll K H xs ds → DpAll K H (xs.take n) (ds.take n)
  | _, _, 0, _ => by simp only [List.take_zero]; exact .nil
  | _, _, n + 1, .nil => .nil
  | _, _, n + 1, .cons h1 h2 => .cons h1 (dpAll_take n h2)
theorem dpAll_drop {K : PySem.W.Frag} {H : Hp} : ∀ {xs : List V} {ds : List PyData} (n : Nat), DpAll K H xs ds → DpAll K H (xs.drop n) (ds.drop n)
  | _, _, 0, h => h
  | _, _, n + 1, .nil => .nil
  | _, _, n + 1, .cons _ h2 => dpAll_drop n h2
theorem dpAll_rev {K : PySem.W.Frag} {H : Hp} : ∀ {xs : List V} {ds : List PyData}, DpAll K H xs ds → DpAll K H xs.reverse ds.reverse
  | _, _, .nil => .nil
  | _, _, .cons h1 h2 => by simp only [List.reverse_cons]; exact dpAll_app (dpAll_rev h2) (.cons h1 .nil)
/-! ### slices and sums of tuples, whatever they share -/
theorem sl_any {K : PySem.W.Frag} {H : Hp} {a : Addr} {xs : List V} {lo hi : Option Int} {Q : VK} (h : SqT K H a xs) (q : ∀ p H', Same H H' → SqT K H' p (cutV xs lo hi) → Q (.ref p) H') : rSlA K (.ref a) lo hi H Q := by
  refine ⟨a, xs, rfl, h, fun e => ?_, fun _ p hp => q p _ (same_new hp _) (SqT.of upd_same)⟩
  refine q a H (Same.refl _) ?_
  have : cutV xs lo hi = xs := by
    unfold cutV
    rw [e.1, e.2]
    simp
  rw [this]
  exact h
theorem cat_any {K : PySem.W.Frag} {H : Hp} {a b : Addr} {xs ys : List V} {Q : VK} (h1 : SqT K H a xs) (h2 : SqT K H b ys) (hl : xs.length + ys.length ≤ 16777216) (q : ∀ p H', Same H H' → SqT K H' p (xs ++ ys) → Q (.ref p) H') : rCatA K (.ref a) (.ref b) H Q := by
  refine ⟨a, b, xs, ys, rfl, rfl, h1, h2, small hl, fun e => ?_, fun _ e => ?_, fun _ _ p hp => q p _ (same_new hp _) (SqT.of upd_same)⟩
  · refine q b H (Same.refl _) ?_
    rw [e]
    exact h2
  · refine q a H (Same.refl _) ?_
    rw [e, List.append_nil]
    exact h1
theorem cutV_take (xs : List V) (n : Nat) : cutV xs none (some (n : Int)) = xs.take n := by
  unfold cutV
  rw [HT.sIx_none, HT.sIx_nat, List.drop_zero, Nat.sub_zero]
  by_cases h : n ≤ xs.length
  · rw [Nat.min_eq_left h]
  · rw [Nat.min_eq_right (by omega), List.take_length, List.take_of_length_le (by omega)]
theorem cutV_drop (xs : List V) (n : Nat) : cutV xs (some (n : Int)) none = xs.drop n := by
  unfold cutV
  rw [HT.sIx_none, HT.sIx_nat]
  by_cases h : n ≤ xs.length
  · rw [Nat.min_eq_left h, List.take_of_length_le (by rw [List.length_drop]; omega)]
  · rw [Nat.min_eq_right (by omega), List.drop_length, List.drop_eq_nil_of_le (by omega)]
    simp
theorem cutV_mid (xs : List V) (n : Nat) (h : n < xs.length) : cutV xs (some (n : Int)) (some ((n + 2 : Nat) : Int)) = (xs.drop n).take 2 := by
  unfold cutV
  rw [HT.sIx_nat, HT.sIx_nat, Nat.min_eq_left (show n ≤ xs.length by omega)]
  by_cases h2 : n + 2 ≤ xs.length
  · rw [Nat.min_eq_left h2, show n + 2 - n = 2 by omega]
  · rw [Nat.min_eq_right (by omega), List.take_of_length_le (by rw [List.length_drop]; omega), List.take_of_length_le (by rw [List.length_drop]; omega)]
/-! ### what a bent tree may be -/
structure BentD (t t' : PyData) : Prop where
  good : good t'
  txts : txts t'
  hgt : hgt t' ≤ hgt t + 2
  cnt : cnt t' ≤ 2 * cnt t + 10
theorem bent_odd {t t' : PyData} (h : OddD t') : BentD t t' := by
  have h1 := hgt_pos t
  have h2 := cnt_pos t
  have h3 := h.2.2.1
  have h4 := h.2.2.2
  exact ⟨h.1, short_txts _ h.2.1, by omega, by omega⟩
theorem split_at {ds : List PyData} {i : Nat} {d : PyData} (h : ds[i]? = some d) : cntAll (ds.take i) + cnt d + cntAll (ds.drop (i + 1)) = cntAll ds := by
  obtain ⟨hl, e⟩ := List.getElem?_eq_some_iff.mp h
  have h1 : cntAll ds = cntAll (ds.take i ++ ds.drop i) := by rw [List.take_append_drop]
  rw [h1, cntAll_app, List.drop_eq_getElem_cons hl, e]
  simp only [cntAll]
  omega
theorem bent_tup {ds es : List PyData} (hm : ∀ e ∈ es, e ∈ ds ∨ ∃ d ∈ ds, BentD d e) (hg : goodAll ds) (hs : txtsAll ds) (hc : cntAll es ≤ 2 * cntAll ds + 10) : BentD (.tuple ds) (.tuple es) := by
  have hg := goodAll_iff.mp hg
  have hs := txtsAll_iff.mp hs
  have hh : ∀ d ∈ ds, DS.hgt d ≤ hgtAll ds := hgtAll_iff.mp (Nat.le_refl _)
  refine ⟨?_, ?_, ?_, ?_⟩
  · simp only [DS.good]
    refine goodAll_iff.mpr fun e he => ?_
    rcases hm e he with h | ⟨d, hd, h⟩
    · exact hg e h
    · exact h.good
  · simp only [DS.txts]
    refine txtsAll_iff.mpr fun e he => ?_
    rcases hm e he with h | ⟨d, hd, h⟩
    · exact hs e h
    · exact h.txts
  · simp only [DS.hgt]
    have : hgtAll es ≤ hgtAll ds + 2 := by
      refine hgtAll_iff.mpr fun e he => ?_
      rcases hm e he with h | ⟨d, hd, h⟩
      · have := hh e h; omega
      · have := hh d hd; have := h.hgt; omega
    omega
  · simp only [DS.cnt]; omega
section
variable {P : Program} {w : World} {K : PySem.W.Frag} {mg : Str → Option Value} {base : Heap}
abbrev sBent : Stmt := top 81
theorem scBent : FnScope ["_law_pen_here", "_law_e", "_law_at", "_law_way"] ["_law_pen_here", "_law_e"] (defScope sBent) := ⟨rfl, rfl, rfl, by decide +kernel, rfl, by decide +kernel, by decide +kernel⟩
def spBent (K : PySem.W.Frag) (n : Nat) : Sp := fun vs H Q _ => ∃ d c ns a r v t, vs = [.ref d, v] ∧ Dp K H v t ∧ good t ∧ txts t ∧ hgt t ≤ n ∧ cnt t ≤ 1000 ∧ PenAt H d c ns a r ∧ a + 3 * n + 4000 ≤ 2 ^ 30 ∧
  ∀ v' t' a' r' H', Dp K H' v' t' → BentD t t' → a' ≤ a + 3 * n + 20 → Sb d H H' → PenAt H' d c ns a' r' → Q v' H'
theorem bent_step {f : Addr} {fd : FuncData} {n : Nat} (B : Bn7 mg) (D1 : Cal P w K mg base CX0 1 "_law_draw" ["_law_pen_here", "_law_many"] [] spDraw) (D2 : Cal P w K mg base CX0 5 "_law_odd_tree" ["_law_pen_here"] [] (spOdd K)) (F : Fun K "_law_bent" "_law_bent" sBent f fd) (mF : mg "_law_bent" = some (.ref f)) (bF : Binds K fd ["_law_pen_here", "_law_e"] [])
    (G : FnOk P w K mg base CX0 (n + 6) f fd ["_law_pen_here", "_law_e"] (spBent K n)) : FnOk P w K mg base CX0 (n + 7) f fd ["_law_pen_here", "_law_e"] (spBent K (n + 1)) := by
  obtain ⟨f1, fd1, ds1, e1, k1, v1, b1, G1⟩ := D1.ex
  obtain ⟨f2, fd2, ds2, e2, k2, v2, b2, G2⟩ := D2.ex
  refine F.ok scBent (fun vs H Q E h => ?_) (fun cdv A outer s H vs Q E hr h => ?_)
  · obtain ⟨d, c, ns, a, r, v, t, rfl, _⟩ := h
    rfl
  · obtain ⟨d, c, ns, a, r, v, t, rfl, hd, hg, hs, hh, hc, hp, ha, q⟩ := h
    refine ⟨_, (pss_cons (ps_if (PW.pt (pw_or (pt_not (pt_val (pe_callB call_isi (by rfl) B.isi boot_isi (pa_cons (pv 1) (pa_cons (pe_bltn (v := .ty "tuple") (by rfl) B.tup PyProof.Rows.boot_tuple rfl) pa_nil))))) (pw_or (pt_cmpR op_eq (pe_callB call_len_seq (by rfl) B.len PySem.boot_len (pa_cons (pv 1) pa_nil)) pe_int (nomark _)) (pw_or1 (pt_cmpR op_eq (pe_call G1 (hr.mono (by omega)) rfl e1 k1 b1 v1 pass0 (pa_cons (pv 0) (pa_cons pe_int pa_nil))) pe_int (nomark _)))))) (pss_one (ps_ret (pe_call G2 (hr.mono (by omega)) rfl e2 k2 b2 v2 pass0 (pa_cons (pv 0) pa_nil)))) pss_nil)
      (pss_cons (ps_par (i := 2) (j := 3) (by rfl) scBent.nd rfl rfl (by decide) rfl rfl (pa_cons (pe_call G1 (hr.mono (by omega)) rfl e1 k1 b1 v1 pass0 (pa_cons (pv 0) (pa_cons (pe_callB call_len_seq (by rfl) B.len PySem.boot_len (pa_cons (pv 1) pa_nil)) pa_nil))) (pa_cons (pe_call G1 (hr.mono (by omega)) rfl e1 k1 b1 v1 pass0 (pa_cons (pv 0) (pa_cons pe_int pa_nil))) pa_nil)) (by rfl))
      (pss_cons (ps_if (pt_cmpR op_lt (pv 3) pe_int (nomark _)) (pss_one (ps_ret (pe_op (show OpR _ (binaryOp .Add) (rCatA K) from op_catA) (pe_op (show OpR _ (binaryOp .Add) (rCatA K) from op_catA) (pe_slice sl_tupA (pv 1) po_none (po_some (pv 2))) (pe_tup (pa_cons (pe_call G hr rfl mF F.kp bF .nil pass0 (pa_cons (pv 0) (pa_cons (pe_ix ix_tup (pv 1) (pv 2) (fun _ _ => rfl)) pa_nil))) pa_nil))) (pe_slice sl_tupA (pv 1) (po_some (pe_op op_add (pv 2) pe_int)) po_none)))) pss_nil)
      (pss_cons (ps_if (pt_cmpR op_eq (pv 3) pe_int (nomark _)) (pss_one (ps_ret (pe_op (show OpR _ (binaryOp .Add) (rCatA K) from op_catA) (pe_slice sl_tupA (pv 1) po_none (po_some (pv 2))) (pe_slice sl_tupA (pv 1) (po_some (pe_op op_add (pv 2) pe_int)) po_none)))) pss_nil)
      (pss_one (ps_ret (pe_ifExp (pt_cmpR op_eq (pv 3) pe_int (nomark _)) (pe_op (show OpR _ (binaryOp .Add) (rCatA K) from op_catA) (pe_slice sl_tupA (pv 1) po_none (po_some (pe_op op_add (pv 2) pe_int))) (pe_slice sl_tupA (pv 1) (po_some (pv 2)) po_none)) (pe_op (show OpR _ (binaryOp .Add) (rCatA K) from op_catA) (pe_op (show OpR _ (binaryOp .Add) (rCatA K) from op_catA) (pe_slice sl_tupA (pv 1) po_none (po_some (pv 2))) (pe_revT (pe_slice sl_tupA (pv 1) (po_some (pv 2)) (po_some (pe_op op_add (pv 2) pe_int))))) (pe_slice sl_tupA (pv 1) (po_some (pe_op op_add (pv 2) pe_int)) po_none))))))))), ?_⟩
    have odd : ∀ (H1 : Hp) (a1 : Nat) (r1 : Int), PenAt H1 d c ns a1 r1 → a1 ≤ a + 1 → Sb d H H1 → spOdd K [.ref d] H1 Q E0 := fun H1 a1 r1 p1 ha1 sb1 =>
      ⟨d, c, ns, a1, r1, rfl, p1, by omega, fun v' a' r' H' ho ha' sb' p' => by
        obtain ⟨t', h1, h2⟩ := ho
        exact q v' t' a' r' H' h1 (bent_odd h2) (by omega) (sb1.trans sb') p'⟩
    refine ⟨_, rfl, _, _, _, _, _, rfl, .ty _, dp_ty hg hd, kit_ty (kit_tup t), _, rfl, ?_⟩
    cases t with
    | tuple ds =>
      cases hd with
      | @tup b xs _ hsq ha' =>
      have hlx := dp_len ha'
      refine ifF rfl ⟨_, rfl, b, _, rfl, .inr hsq, rfl, _, rfl, ?_⟩
      have hga : goodAll ds := by simpa only [good] using hg
      have hsa : txtsAll ds := by simpa only [txts] using hs
      simp only [cnt] at hc
      simp only [hgt] at hh
      have hcl := cntAll_len ds
      by_cases h0 : ds.length = 0
      · refine ifT (by rw [hlx, h0]; rfl) (iteT ⟨_, rfl, odd H a r hp (by omega) (Sb.refl _ _)⟩)
      refine ifF (by rw [dec_int]; exact decide_eq_false (by omega)) ?_
      refine ⟨_, rfl, d, c, ns, a, r, _, rfl, hp, by omega, by decide, by decide, fun x a1 r1 H1 x0 x1 ha1 sb1 p1 => ⟨rfl, _, rfl, ite2 (fun _ => ⟨_, rfl, odd H1 a1 r1 p1 ha1 sb1⟩) (fun _ => ?_)⟩⟩
      have sq1 := sqT_sb sb1 hp.noT hp.noF hsq
      have da1 := dp_sbAll sb1 hp.noT hp.noF ds xs hga ha'
      refine ⟨_, rfl, _, rfl, b, _, rfl, .inr sq1, d, c, ns, a1, r1, _, rfl, p1, by omega, by omega, by omega, fun i2 a2 r2 H2 i20 i21 ha2 sb2 p2 => ?_⟩
      obtain ⟨i, rfl⟩ := Int.eq_ofNat_of_zero_le i20
      have hi : i < xs.length := by omega
      refine ⟨_, rfl, d, c, ns, a2, r2, _, rfl, p2, by omega, by decide, by decide, fun way a3 r3 H3 w0 w1 ha3 sb3 p3 => ⟨_, _, rfl, ?_⟩⟩
      have sb13 := sb2.trans sb3
      have sq3 := sqT_sb sb13 p1.noT p1.noF sq1
      have da3 := dp_sbAll sb13 p1.noT p1.noF ds xs hga da1
      have sb03 := sb1.trans sb13
      obtain ⟨dd, ed⟩ : ∃ dd, ds[i]? = some dd := ⟨_, List.getElem?_eq_getElem (by omega)⟩
      have hcs := split_at ed
      have e1 : ((i : Nat) : Int) + 1 = ((i + 1 : Nat) : Int) := by omega
      have e2 : ((i : Nat) : Int) + 2 = ((i + 2 : Nat) : Int) := by omega
      have fin : ∀ {p : Addr} {H' : Hp} {ys : List V} {es : List PyData} {a' : Nat} {r' : Int}, SqT K H' p ys → DpAll K H' ys es → (∀ e ∈ es, e ∈ ds ∨ ∃ d ∈ ds, BentD d e) → cntAll es ≤ 2 * cntAll ds + 10 → a' ≤ a + 3 * (n + 1) + 20 → Sb d H H' → PenAt H' d c ns a' r' → Q (.ref p) H' := fun h1 h2 h3 h4 h5 h6 h7 => q _ _ _ _ _ (.tup h1 h2) (bent_tup h3 hga hsa h4) h5 h6 h7
      refine ⟨_, rfl, _, _, rfl, rfl, _, rfl, ite2 (fun _ => ?_) (fun _ => ?_)⟩
      · refine ⟨_, rfl, _, rfl, _, rfl, sl_any sq3 fun pa H4 s4 sq4 => ?_⟩
        rw [cutV_take] at sq4
        obtain ⟨xv, exv, dxv⟩ := dp_at da3 ed
        have p4 := pen_same p3 s4
        have hgd := goodAll_iff.mp hga dd (List.mem_of_getElem? ed)
        refine ⟨_, rfl, _, rfl, _, rfl, b, _, _, xv, rfl, rfl, sqT_same s4 sq3, atI_nat exv, d, c, ns, a3, r3, xv, dd, rfl, dp_same s4 _ _ dxv, hgd, txtsAll_iff.mp hsa dd (List.mem_of_getElem? ed), by have := hgt_get ed; omega, by omega, p4, by omega, fun v' t' a5 r5 H5 h5 b5 ha5 sb5 p5 => ⟨(by show 1 ≤ sizeLine; decide), fun tp htp => ?_⟩⟩
        have s6 := same_new htp (.tup [v'])
        have sq5 := sqT_same s6 (sqT_sb sb5 p4.noT p4.noF sq4)
        refine cat_any sq5 (SqT.of upd_same) (by rw [List.length_take]; show _ + 1 ≤ _; omega) fun pb H7 s7 sq7 => ?_
        have sb37 := ((Same.sb (p := d) s4).trans sb5).trans (Same.sb (s6.trans s7))
        have sqb := sqT_sb sb37 p3.noT p3.noF sq3
        refine ⟨_, rfl, _, rfl, _, _, rfl, rfl, _, rfl, ?_⟩
        rw [e1]
        dsimp only [tNoPart]
        refine sl_any sqb fun pc H8 s8 sq8 => ?_
        rw [cutV_drop] at sq8
        refine cat_any (sqT_same s8 sq7) sq8 (by rw [List.length_append, List.length_take, List.length_drop]; show _ + 1 + _ ≤ _; omega) fun pd H9 s9 sq9 => ?_
        have sb39 := sb37.trans (Same.sb (s8.trans s9))
        have da9 := dp_sbAll sb39 p3.noT p3.noF ds xs hga da3
        have dv9 := dp_same (s6.trans (s7.trans (s8.trans s9))) _ _ h5
        refine fin sq9 (dpAll_app (dpAll_app (dpAll_take i da9) (.cons dv9 .nil)) (dpAll_drop (i + 1) da9)) (fun e he => ?_) ?_ (a' := a5) (r' := r5) (by omega) (sb03.trans sb39) (pen_same p5 (s6.trans (s7.trans (s8.trans s9))))
        · simp only [List.mem_append, List.mem_singleton] at he
          rcases he with (he | he) | he
          · exact .inl (List.mem_of_mem_take he)
          · subst he; exact .inr ⟨dd, List.mem_of_getElem? ed, b5⟩
          · exact .inl (List.mem_of_mem_drop he)
        · have := b5.cnt
          rw [cntAll_app, cntAll_app]
          simp only [cntAll]
          omega
      · refine ⟨_, rfl, rfl, _, rfl, ite2 (fun _ => ?_) (fun _ => ?_)⟩
        · refine ⟨_, rfl, _, rfl, _, rfl, sl_any sq3 fun pa H4 s4 sq4 => ?_⟩
          rw [cutV_take] at sq4
          refine ⟨_, rfl, _, rfl, _, _, rfl, rfl, _, rfl, ?_⟩
          rw [e1]
          dsimp only [tNoPart]
          refine sl_any (sqT_same s4 sq3) fun pc H8 s8 sq8 => ?_
          rw [cutV_drop] at sq8
          refine cat_any (sqT_same s8 sq4) sq8 (by rw [List.length_take, List.length_drop]; omega) fun pd H9 s9 sq9 => ?_
          have s39 := s4.trans (s8.trans s9)
          have da9 := dp_sameAll s39 ds xs da3
          refine fin sq9 (dpAll_app (dpAll_take i da9) (dpAll_drop (i + 1) da9)) (fun e he => ?_) ?_ (a' := a3) (r' := r3) (by omega) (sb03.trans (Same.sb s39)) (pen_same p3 s39)
          · rcases List.mem_append.mp he with he | he
            · exact .inl (List.mem_of_mem_take he)
            · exact .inl (List.mem_of_mem_drop he)
          · rw [cntAll_app]; omega
        · refine ⟨_, rfl, rfl, _, rfl, ite2 (fun _ => ?_) (fun _ => ?_)⟩
          · refine ⟨_, rfl, _, rfl, _, _, rfl, rfl, _, rfl, ?_⟩
            rw [e1]
            refine sl_any sq3 fun pa H4 s4 sq4 => ?_
            rw [cutV_take] at sq4
            refine ⟨_, rfl, _, rfl, _, rfl, ?_⟩
            dsimp only [tNoPart]
            refine sl_any (sqT_same s4 sq3) fun pc H8 s8 sq8 => ?_
            rw [cutV_drop] at sq8
            refine cat_any (sqT_same s8 sq4) sq8 (by rw [List.length_take, List.length_drop]; omega) fun pd H9 s9 sq9 => ?_
            have s39 := s4.trans (s8.trans s9)
            have da9 := dp_sameAll s39 ds xs da3
            refine fin sq9 (dpAll_app (dpAll_take (i + 1) da9) (dpAll_drop i da9)) (fun e he => ?_) ?_ (a' := a3) (r' := r3) (by omega) (sb03.trans (Same.sb s39)) (pen_same p3 s39)
            · rcases List.mem_append.mp he with he | he
              · exact .inl (List.mem_of_mem_take he)
              · exact .inl (List.mem_of_mem_drop he)
            · have h1 : cntAll (ds.take (i + 1)) ≤ cntAll ds := by
                have : cntAll ds = cntAll (ds.take (i + 1) ++ ds.drop (i + 1)) := by rw [List.take_append_drop]
                rw [this, cntAll_app]; omega
              have h2 : cntAll (ds.drop i) ≤ cntAll ds := by
                have : cntAll ds = cntAll (ds.take i ++ ds.drop i) := by rw [List.take_append_drop]
                rw [this, cntAll_app]; omega
              rw [cntAll_app]; omega
          · refine ⟨_, rfl, _, rfl, _, rfl, sl_any sq3 fun pa H4 s4 sq4 => ?_⟩
            rw [cutV_take] at sq4
            refine ⟨_, rfl, _, rfl, _, rfl, _, rfl, _, _, rfl, rfl, _, rfl, ?_⟩
            rw [e2]
            refine sl_any (sqT_same s4 sq3) fun pb H5 s5 sq5 => ?_
            rw [cutV_mid _ _ hi] at sq5
            refine ⟨pb, _, rfl, sq5, fun pr hpr => ?_⟩
            have s6 := same_new hpr (.tup ((xs.drop i).take 2).reverse)
            refine cat_any (sqT_same (s5.trans s6) sq4) (SqT.of upd_same) (by rw [List.length_reverse, List.length_take, List.length_take, List.length_drop]; omega) fun pc H7 s7 sq7 => ?_
            refine ⟨_, rfl, _, rfl, _, _, rfl, rfl, _, rfl, ?_⟩
            rw [e2]
            have s37 := s4.trans (s5.trans (s6.trans s7))
            dsimp only [tNoPart]
            refine sl_any (sqT_same s37 sq3) fun pd H8 s8 sq8 => ?_
            rw [cutV_drop] at sq8
            refine cat_any (sqT_same s8 sq7) sq8 (by rw [List.length_append, List.length_reverse, List.length_take, List.length_take, List.length_drop, List.length_drop]; omega) fun pe H9 s9 sq9 => ?_
            have s39 := s37.trans (s8.trans s9)
            have da9 := dp_sameAll s39 ds xs da3
            refine fin sq9 (dpAll_app (dpAll_app (dpAll_take i da9) (dpAll_rev (dpAll_take 2 (dpAll_drop i da9)))) (dpAll_drop (i + 2) da9)) (fun e he => ?_) ?_ (a' := a3) (r' := r3) (by omega) (sb03.trans (Same.sb s39)) (pen_same p3 s39)
            · simp only [List.mem_append, List.mem_reverse] at he
              rcases he with (he | he) | he
              · exact .inl (List.mem_of_mem_take he)
              · exact .inl (List.mem_of_mem_drop (List.mem_of_mem_take he))
              · exact .inl (List.mem_of_mem_drop he)
            · have h1 : cntAll ds = cntAll (ds.take i ++ ds.drop i) := by rw [List.take_append_drop]
              have h2 : cntAll (ds.drop i) = cntAll ((ds.drop i).take 2 ++ (ds.drop i).drop 2) := by rw [List.take_append_drop]
              rw [List.drop_drop] at h2
              rw [cntAll_app] at h1 h2
              rw [cntAll_app, cntAll_app, cntAll_rev]
              omega
    | none => exact ifT rfl (iteT ⟨_, rfl, odd H a r hp (by omega) (Sb.refl _ _)⟩)
    | bool x => exact ifT rfl (iteT ⟨_, rfl, odd H a r hp (by omega) (Sb.refl _ _)⟩)
    | int x => exact ifT rfl (iteT ⟨_, rfl, odd H a r hp (by omega) (Sb.refl _ _)⟩)
    | str x => exact ifT rfl (iteT ⟨_, rfl, odd H a r hp (by omega) (Sb.refl _ _)⟩)
    | list ds => simp [good] at hg
    | dict ds => simp [good] at hg
theorem ok_bent {f : Addr} {fd : FuncData} (B : Bn7 mg) (D1 : Cal P w K mg base CX0 1 "_law_draw" ["_law_pen_here", "_law_many"] [] spDraw) (D2 : Cal P w K mg base CX0 5 "_law_odd_tree" ["_law_pen_here"] [] (spOdd K)) (F : Fun K "_law_bent" "_law_bent" sBent f fd) (mF : mg "_law_bent" = some (.ref f)) (bF : Binds K fd ["_law_pen_here", "_law_e"] []) :
    ∀ n : Nat, FnOk P w K mg base CX0 (n + 6) f fd ["_law_pen_here", "_law_e"] (spBent K n)
  | 0 => by
    have no : ∀ vs H Q E, ¬ spBent K 0 vs H Q E := fun vs H Q E h => by
      obtain ⟨d, c, ns, a, r, v, t, _, _, _, _, h1, _⟩ := h
      have := hgt_pos t
      omega
    exact ⟨fun vs H Q E h => absurd h (no vs H Q E), fun A outer s H args us vs Q E _ _ _ _ h => absurd h (no vs H Q E)⟩
  | n + 1 => bent_step B D1 D2 F mF bF (ok_bent B D1 D2 F mF bF n)
end
end DS
set_option Elab.async false
set_option linter.all false
set_option maxRecDepth 100000
set_option maxHeartbeats 4000000
namespace DS
open PySem L2 PySem.NumText
theorem boot_ve : bootBuiltins "ValueError" = some (.type "ValueError") := by decide +kernel
section
variable {P : Program} {w : World} {K : PySem.W.Frag} {mg : Str → Option Value} {base : Heap} {CB : Addr}
abbrev sFound : Stmt := top 82
theorem scFound : FnScope ["_law_e", "_law_columns", "_law_variables", "met"] ["_law_e", "_law_columns", "_law_variables"] (defScope sFound) := ⟨rfl, rfl, rfl, by decide +kernel, rfl, by decide +kernel, by decide +kernel⟩
def spFound (K : PySem.W.Frag) (cols vars : Kinds) : Sp := fun vs H Q _ => ∃ v t ca va, vs = [v, .ref ca, .ref va] ∧ Dp K H v t ∧ good t ∧ short t ∧ hgt t ≤ 30 ∧ cnt t ≤ 2000 ∧ H ca = some (.dK (kdKV cols)) ∧ H va = some (.dK (kdKV vars)) ∧
  ∀ x H', Same H H' → Dp K H' x (resD (lookM cols vars 30 t [])) → Q x H'
theorem ok_found {f : Addr} {fd : FuncData} {k : Nat} {cols vars : Kinds} (B : Bn7 mg) (TB : ExOk P w K mg "BadTree" CB 2 selB) (XC : ExcC K CB) (XV : PySem.W.kitOne K (.ref CB) (.type "ValueError") = some true) (gB : mg "BadTree" = some (.ref CB)) (teB : PySem.W.exmOne K (.ref CB) (.ref CB) = some true) (mV : mg "ValueError" = none)
    (D1 : Cal P w K mg base (L2.CX P w) 40 "kind_of" ["e", "columns", "variables"] [] (spKindOf K CB cols vars)) (F : Fun K "_law_found" "_law_found" sFound f fd) : FnOk P w K mg base CX0 (k + 41) f fd ["_law_e", "_law_columns", "_law_variables"] (spFound K cols vars) := by
  obtain ⟨f1, fd1, ds1, e1, k1, v1, b1, G1⟩ := D1.ex
  cases v1
  refine F.ok scFound (fun vs H Q E h => ?_) (fun cdv A outer s H vs Q E hr h => ?_)
  · obtain ⟨v, t, ca, va, rfl, _⟩ := h
    rfl
  · obtain ⟨v, t, ca, va, rfl, hd, hg, hs, hh, hc, hca, hva, q⟩ := h
    have hr40 : Room 40 _ := hr.mono (show 40 ≤ k + 40 by omega)
    refine ⟨_, pss_one (ps_try_as (i := 3) (tb := fun W => tRet (tTup (tCons (tC (.str "")) (tCons (tCallS (spKindOf K CB cols vars) (WE W) (tCons (tVar 0) (tCons (tVar 1) (tCons (tVar 2) tNil)))) tNil))))
      (Wout := fun _ _ _ _ => False) rfl rfl scFound.nd rfl rfl ⟨rfl, by decide, Or.inl gB⟩ takes0
      (fun W pn xe tk _ => pss_one (ps_ret (pe_tup (pa_cons pe_str (pa_cons (by exact (pe_callS G1 hr40 rfl e1 k1 b1 (fun σ => passAt tk σ) (by exact (pa_cons (pv 0) (pa_cons (pv 1) (pa_cons (pv 2) pa_nil)))))) pa_nil)))))
      (fun a oe cls d pn hz hf => pss_one (ps_ret (pe_ifExp (pt_val (pe_callB (call_isX XC hz hf) (by rfl) B.isi boot_isi (pa_cons (pv 3) (pa_cons (pe_bltn (v := .ty "ValueError") (by rfl) mV boot_ve rfl) pa_nil)))) (pe_tup (pa_cons (pe_fldE TB (by decide) hz hf (pv 3)) (pa_cons (pe_fldE TB (by decide) hz hf (pv 3)) pa_nil))) pe_no)))), ?_⟩
    refine ⟨_, rfl, _, rfl, _, rfl, v, t, ca, va, rfl, hd, hg, hs, hh, hc, hca, hva, fun kd hk H1 sm => ⟨(by show 2 ≤ sizeLine; decide), fun p hp => ?_⟩, fun x l hk d pvl H1 sm hxd hP => ?_⟩
    · have s2 := same_new hp (.tup [.str "", kdV kd])
      refine q _ _ (sm.trans s2) ?_
      rw [hk]
      exact dp_two upd_same (dp_kd _)
    · refine ⟨true, teB, fun _ a0 ha0 => ?_, fun z => Bool.noConfusion z⟩
      refine ⟨_, rfl, _, _, true, d, _, rfl, rfl, rfl, hxd, fun u r => r, XV, _, rfl, iteT ?_⟩
      refine ⟨_, rfl, rfl, rfl, d, _, _, rfl, hxd, rfl, _, rfl, rfl, rfl, d, _, _, rfl, hxd, rfl, (by show 2 ≤ sizeLine; decide), fun p hp => ?_⟩
      have s2 := same_new hp (.tup [.str (saidM x), pvl])
      refine q _ _ (sm.trans s2) ?_
      rw [hk]
      exact dp_two upd_same (dp_path (hP.same s2))
end
end DS
set_option Elab.async false
set_option linter.all false
set_option maxRecDepth 100000
set_option maxHeartbeats 4000000
namespace DS
open PySem L2 PySem.NumText
/-- the names of the variables of the columns -/
def NmOk (cols vars names : Kinds) : Prop := ∀ x k, cols.lookup x = some k → ∃ y, names.lookup x = some y ∧ vars.lookup y = some k ∧ isWordC y.cps.toList = true
/-- a tree, and what is made of it -/
structure WvD (cols vars : Kinds) (t t' : PyData) : Prop where
  gen : ∀ k, Gen cols vars k t → Gen cols vars k t'
  leaf : isTupM t = false → t' = t
  hgt : hgt t' = hgt t
  cnt : cnt t' = cnt t
def WvOk (cols vars : Kinds) (t : PyData) : Prop := isTupM t = false ∨ ∃ k, Gen cols vars k t
theorem goodAll_snoc : ∀ {a : List PyData} {x : PyData}, goodAll a → good x → goodAll (a ++ [x])
  | [], x, _, h => by simp [goodAll, h]
  | y :: a, x, g, h => by simp only [List.cons_append, goodAll] at g ⊢; exact ⟨g.1, goodAll_snoc g.2 h⟩
theorem WvD.refl {cols vars : Kinds} (t : PyData) : WvD cols vars t t := ⟨fun _ h => h, fun _ => rfl, rfl, rfl⟩
theorem kv_leaf {d : PyData} {k : Str} (h : d = .none ∨ kvM d = some k) : isTupM d = false := by
  rcases h with rfl | h
  · rfl
  · cases d <;> first | rfl | cases h
theorem wv_parts {cols vars : Kinds} {k : Str} {ds : List PyData} (G : Gen cols vars k (.tuple ds)) : ∀ d ∈ ds, WvOk cols vars d := by
  have s : ∀ z : Str, WvOk cols vars (.str z) := fun z => .inl rfl
  cases G with
  | val h g => intro d hd; simp only [List.mem_cons, List.mem_nil_iff, or_false] at hd; rcases hd with rfl | rfl; exact s _; exact .inl (kv_leaf h)
  | col h hw => intro d hd; simp only [List.mem_cons, List.mem_nil_iff, or_false] at hd; rcases hd with rfl | rfl <;> exact s _
  | var h hw => intro d hd; simp only [List.mem_cons, List.mem_nil_iff, or_false] at hd; rcases hd with rfl | rfl <;> exact s _
  | arith ho ha hb => intro d hd; simp only [List.mem_cons, List.mem_nil_iff, or_false] at hd; rcases hd with rfl | rfl | rfl | rfl; exact s _; exact s _; exact .inr ⟨_, ha⟩; exact .inr ⟨_, hb⟩
  | join ha hb => intro d hd; simp only [List.mem_cons, List.mem_nil_iff, or_false] at hd; rcases hd with rfl | rfl | rfl | rfl; exact s _; exact s _; exact .inr ⟨_, ha⟩; exact .inr ⟨_, hb⟩
  | eq hk ha hb => intro d hd; simp only [List.mem_cons, List.mem_nil_iff, or_false] at hd; rcases hd with rfl | rfl | rfl | rfl; exact s _; exact s _; exact .inr ⟨_, ha⟩; exact .inr ⟨_, hb⟩
  | lt hk ha hb => intro d hd; simp only [List.mem_cons, List.mem_nil_iff, or_false] at hd; rcases hd with rfl | rfl | rfl | rfl; exact s _; exact s _; exact .inr ⟨_, ha⟩; exact .inr ⟨_, hb⟩
  | both ho ha hb => intro d hd; simp only [List.mem_cons, List.mem_nil_iff, or_false] at hd; rcases hd with rfl | rfl | rfl | rfl; exact s _; exact s _; exact .inr ⟨_, ha⟩; exact .inr ⟨_, hb⟩
  | null hk ha => intro d hd; simp only [List.mem_cons, List.mem_nil_iff, or_false] at hd; rcases hd with rfl | rfl; exact s _; exact .inr ⟨_, ha⟩
  | not ha => intro d hd; simp only [List.mem_cons, List.mem_nil_iff, or_false] at hd; rcases hd with rfl | rfl; exact s _; exact .inr ⟨_, ha⟩
  | case hk hc ha hb => intro d hd; simp only [List.mem_cons, List.mem_nil_iff, or_false] at hd; rcases hd with rfl | rfl | rfl | rfl; exact s _; exact .inr ⟨_, hc⟩; exact .inr ⟨_, ha⟩; exact .inr ⟨_, hb⟩
theorem paired2 {α β : Type} {F : α → β → Prop} {a b : α} {l : List β} (h : Paired F [a, b] l) : ∃ x y, l = [x, y] ∧ F a x ∧ F b y := by
  cases h with
  | cons h1 h2 => cases h2 with
    | cons h3 h4 => cases h4; exact ⟨_, _, rfl, h1, h3⟩
theorem paired4 {α β : Type} {F : α → β → Prop} {a b c d : α} {l : List β} (h : Paired F [a, b, c, d] l) : ∃ x y z u, l = [x, y, z, u] ∧ F a x ∧ F b y ∧ F c z ∧ F d u := by
  cases h with
  | cons h1 h2 => cases h2 with
    | cons h3 h4 => cases h4 with
      | cons h5 h6 => cases h6 with
        | cons h7 h8 => cases h8; exact ⟨_, _, _, _, rfl, h1, h3, h5, h7⟩
theorem wv_gen {cols vars : Kinds} {k : Str} {ds es : List PyData} (G : Gen cols vars k (.tuple ds)) (h : Paired (WvD cols vars) ds es) (hc : headM (.tuple ds) ≠ "col") : Gen cols vars k (.tuple es) := by
  cases G with
  | val hv g =>
    obtain ⟨x, y, rfl, h1, h2⟩ := paired2 h
    rw [h1.leaf rfl, h2.leaf (kv_leaf hv)]
    exact .val hv g
  | col hv hw => exact absurd rfl hc
  | var hv hw =>
    obtain ⟨x, y, rfl, h1, h2⟩ := paired2 h
    rw [h1.leaf rfl, h2.leaf rfl]
    exact .var hv hw
  | arith ho ha hb =>
    obtain ⟨x, y, z, u, rfl, h1, h2, h3, h4⟩ := paired4 h
    rw [h1.leaf rfl, h2.leaf rfl]
    exact .arith ho (h3.gen _ ha) (h4.gen _ hb)
  | join ha hb =>
    obtain ⟨x, y, z, u, rfl, h1, h2, h3, h4⟩ := paired4 h
    rw [h1.leaf rfl, h2.leaf rfl]
    exact .join (h3.gen _ ha) (h4.gen _ hb)
  | eq hk ha hb =>
    obtain ⟨x, y, z, u, rfl, h1, h2, h3, h4⟩ := paired4 h
    rw [h1.leaf rfl, h2.leaf rfl]
    exact .eq hk (h3.gen _ ha) (h4.gen _ hb)
  | lt hk ha hb =>
    obtain ⟨x, y, z, u, rfl, h1, h2, h3, h4⟩ := paired4 h
    rw [h1.leaf rfl, h2.leaf rfl]
    exact .lt hk (h3.gen _ ha) (h4.gen _ hb)
  | both ho ha hb =>
    obtain ⟨x, y, z, u, rfl, h1, h2, h3, h4⟩ := paired4 h
    rw [h1.leaf rfl, h2.leaf rfl]
    exact .both ho (h3.gen _ ha) (h4.gen _ hb)
  | null hk ha =>
    obtain ⟨x, y, rfl, h1, h2⟩ := paired2 h
    rw [h1.leaf rfl]
    exact .null hk (h2.gen _ ha)
  | not ha =>
    obtain ⟨x, y, rfl, h1, h2⟩ := paired2 h
    rw [h1.leaf rfl]
    exact .not (h2.gen _ ha)
  | case hk hc' ha hb =>
    obtain ⟨x, y, z, u, rfl, h1, h2, h3, h4⟩ := paired4 h
    rw [h1.leaf rfl]
    exact .case hk (h2.gen _ hc') (h3.gen _ ha) (h4.gen _ hb)
theorem wv_all {cols vars : Kinds} : ∀ {ds es : List PyData}, Paired (WvD cols vars) ds es → hgtAll es = hgtAll ds ∧ cntAll es = cntAll ds
  | _, _, .nil => ⟨rfl, rfl⟩
  | _, _, .cons h1 h2 => by
    obtain ⟨h3, h4⟩ := wv_all h2
    constructor <;> simp only [hgtAll, cntAll, h3, h4, h1.hgt, h1.cnt]
theorem gen_head {cols vars : Kinds} {k : Str} {t : PyData} (G : Gen cols vars k t) : ∃ z ds, t = .tuple (.str z :: ds) := by cases G <;> exact ⟨_, _, rfl⟩
theorem gen_col {cols vars : Kinds} {k : Str} {ds : List PyData} (G : Gen cols vars k (.tuple (.str "col" :: ds))) : ∃ x, ds = [.str x] ∧ cols.lookup x = some k := by
  cases G with
  | col h hw => exact ⟨_, rfl, h⟩
section
variable {P : Program} {w : World} {K : PySem.W.Frag} {mg : Str → Option Value} {base : Heap}
abbrev sWV : Stmt := top 83
theorem scWV : FnScope ["_law_pen_here", "_law_e", "_law_names", "_law_part"] ["_law_pen_here", "_law_e", "_law_names"] (defScope sWV) := ⟨rfl, rfl, rfl, by decide +kernel, rfl, by decide +kernel, by decide +kernel⟩
def spWV (K : PySem.W.Frag) (cols vars names : Kinds) (n : Nat) : Sp := fun vs H Q _ => ∃ d c ns a r v t na, vs = [.ref d, v, .ref na] ∧ Dp K H v t ∧ good t ∧ WvOk cols vars t ∧ hgt t ≤ n ∧ cnt t ≤ 1000 ∧ H na = some (.dK (kdKV names)) ∧ PenAt H d c ns a r ∧ a + cnt t + 10 ≤ 2 ^ 30 ∧
  ∀ v' t' a' r' H', Dp K H' v' t' → good t' → WvD cols vars t t' → a' ≤ a + cnt t → Sb d H H' → PenAt H' d c ns a' r' → Q v' H'
theorem wv_step {f : Addr} {fd : FuncData} {n : Nat} {cols vars names : Kinds} (B : Bn7 mg) (hN : NmOk cols vars names) (D1 : Cal P w K mg base CX0 1 "_law_draw" ["_law_pen_here", "_law_many"] [] spDraw) (F : Fun K "_law_with_variables" "_law_with_variables" sWV f fd) (mF : mg "_law_with_variables" = some (.ref f)) (bF : Binds K fd ["_law_pen_here", "_law_e", "_law_names"] [])
    (G : FnOk P w K mg base CX0 (n + 2) f fd ["_law_pen_here", "_law_e", "_law_names"] (spWV K cols vars names n)) : FnOk P w K mg base CX0 (n + 3) f fd ["_law_pen_here", "_law_e", "_law_names"] (spWV K cols vars names (n + 1)) := by
  obtain ⟨f1, fd1, ds1, e1, k1, v1, b1, G1⟩ := D1.ex
  refine F.ok scWV (fun vs H Q E h => ?_) (fun cdv A outer s H vs Q E hr h => ?_)
  · obtain ⟨d, c, ns, a, r, v, t, na, rfl, _⟩ := h
    rfl
  · obtain ⟨d, c, ns, a, r, v, t, na, rfl, hd, hg, hw, hh, hc, hna, hp, ha, q⟩ := h
    have hu1 : (A.deeper (PyProof.Rows.envOfC "_law_with_variables" (defScope sWV) s.heap.objs.size f cdv)).units + 1 < cLine := by have := hr.units; omega
    refine ⟨_, (pss_cons (ps_if (PW.pt (pw_or (pt_not (pt_val (pe_callB call_isi (by rfl) B.isi boot_isi (pa_cons (pv 1) (pa_cons (pe_bltn (v := .ty "tuple") (by rfl) B.tup PyProof.Rows.boot_tuple rfl) pa_nil))))) (pw_or1 (pt_cmpR op_eq (pe_callB call_len_seq (by rfl) B.len PySem.boot_len (pa_cons (pv 1) pa_nil)) pe_int (nomark _))))) (pss_one (ps_ret (pv 1))) pss_nil)
      (pss_cons (ps_if (pt_cmpR op_eq (pe_ix ix_tup (pv 1) pe_int (fun _ _ => rfl)) pe_str (nomark _)) (pss_one (ps_ret (pe_ifExp (pt_cmpR op_eq (pe_call G1 (hr.mono (by omega)) rfl e1 k1 b1 v1 pass0 (pa_cons (pv 0) (pa_cons pe_int pa_nil))) pe_int (nomark _)) (pe_tup (pa_cons pe_str (pa_cons (pe_dget hu1 (pv 2) (pe_ix ix_tup (pv 1) pe_int (fun _ _ => rfl)) (fun _ _ => rfl)) pa_nil))) (pv 1)))) pss_nil)
      (pss_one (ps_ret (pe_callTy call_tuple_of (by rfl) B.tup PyProof.Rows.boot_tuple (pa_cons (pe_lc (own := [("_law_part", 3)]) (g := gName 3) (tt := tYes) rfl scWV.nd (pi_tup (pv 1)) (blkOk_by (N := ["_law_pen_here", "_law_e", "_law_names", "_law_part"]) (sc := defScope sWV) (by decide +kernel)) (fun _ _ _ _ _ => (pg_name (i := 3) scWV.nd rfl (Or.inl rfl))) (fun _ _ _ _ _ => pts_nil) (fun _ _ _ _ _ => (pe_call G hr rfl mF F.kp bF .nil pass0 (pa_cons (pv 0) (pa_cons (pv 3) (pa_cons (pv 2) pa_nil)))))) pa_nil)))))), ?_⟩
    have nnd : na ≠ d := fun z => by
      rw [z, hp.dict] at hna
      injection hna with hna
      injection hna with hna
      exact pen_ne_kd hna
    have hcp := cnt_pos t
    have keep : Q v H := q v t a r H hd hg (WvD.refl t) (by omega) (Sb.refl _ _) hp
    refine ⟨_, rfl, _, _, _, _, _, rfl, .ty _, dp_ty hg hd, kit_ty (kit_tup t), _, rfl, ?_⟩
    cases t with
    | tuple ds =>
      rcases hw with hw | ⟨k, hG⟩
      · cases hw
      obtain ⟨z, ds', e0⟩ := gen_head hG
      cases e0
      cases hd with
      | @tup b xs _ hsq ha' =>
      have hlx := dp_len ha'
      refine ifF rfl ⟨_, rfl, b, _, rfl, .inr hsq, rfl, _, rfl, ?_⟩
      refine ifF (by rw [hlx, dec_int]; simp; omega) ?_
      have ha'' := ha'
      cases ha' with
      | @cons x xs _ _ p1 p2 =>
      cases p1
      refine ⟨_, rfl, b, _, 0, _, rfl, rfl, hsq, atI_nat (j := 0) rfl, rfl, _, rfl, ?_⟩
      by_cases hz : z = "col"
      · subst hz
        obtain ⟨x, rfl, hx⟩ := gen_col hG
        cases p2 with
        | @cons y ys _ _ p3 p4 =>
        cases p3
        cases p4
        obtain ⟨y, e1', e2', e3'⟩ := hN x k hx
        refine ifT (eqS _) ⟨_, rfl, d, c, ns, a, r, _, rfl, hp, by omega, by decide, by decide, fun i a1 r1 H1 i0 i1 ha1 sb1 p1 => ⟨rfl, _, rfl, ite2 (fun _ => ?_) (fun _ => ⟨_, rfl, ?_⟩)⟩⟩
        · have hge := kd_get (sb1 _ _ hna nnd) x
          rw [e1'] at hge
          refine ⟨_, rfl, _, rfl, b, _, 1, _, rfl, rfl, sqT_sb sb1 hp.noT hp.noF hsq, atI_nat (j := 1) rfl, na, _, rfl, hge, (by show 2 ≤ sizeLine; decide), fun tp htp => ?_⟩
          have s2 := same_new htp (.tup [.str "var", .str y])
          have gv : ∀ k', Gen cols vars k' (.tuple [.str "col", .str x]) → Gen cols vars k' (.tuple [.str "var", .str y]) := fun k' g => by
            cases g with
            | col h' _ =>
              rw [hx] at h'
              cases h'
              exact .var e2' e3'
          refine q _ (.tuple [.str "var", .str y]) a1 r1 _ (dp_two upd_same (.str y)) (gen_gs (gv k hG)).1 ⟨gv, (fun h => nomatch h), ?_, ?_⟩ (by omega) (sb1.trans (Same.sb s2)) (pen_same p1 s2)
          · simp only [hgt, hgtAll]
          · simp only [cnt, cntAll]
        · exact q _ _ a1 r1 H1 (dp_sb sb1 hp.noT hp.noF _ _ hg (.tup hsq ha'')) hg (WvD.refl _) (by omega) sb1 p1
      · refine ifF (neS hz) ?_
        have hga : goodAll (.str z :: ds') := by simpa only [good] using hg
        simp only [cnt] at hc ha q
        simp only [hgt] at hh
        have hwp := wv_parts hG
        refine ⟨_, rfl, b, rfl, ⟨_, hsq⟩, fun D hD => ?_⟩
        have ndD : d ≠ D := ne_of_none hp.dict hD
        have ncD : c ≠ D := ne_of_none hp.cells hD
        refine lc_it (walk_tup (a := b) (xs := V.str z :: xs)) (fun i H' => ∃ ys es a' r', ys.length = i ∧ DpAll K H' ys es ∧ goodAll es ∧ Paired (WvD cols vars) ((PyData.str z :: ds').take i) es ∧ a' ≤ a + cntAll ((PyData.str z :: ds').take i) ∧ Sb d H H' ∧ PenAt H' d c ns a' r' ∧ H' D = some (.lst ys))
          ⟨[], [], a, r, rfl, .nil, by simp [goodAll], .nil, by simp [cntAll], Same.sb (same_new hD _), pen_put hp ndD ncD, upd_same⟩ (fun i H' _ h => by obtain ⟨_, _, _, _, _, _, _, _, _, h9, _⟩ := h; exact sqT_sb h9 hp.noT hp.noF hsq) ?_ ?_
        · rintro i x H3 H4 hi ⟨ys, es, a3, r3, hyl, hdp, hge, hpr, ha3, sb3, p3, hd3⟩ ⟨rfl, hx⟩
          obtain ⟨dd, ed, dpd⟩ := dp_get ha'' hx
          have dd3 := dp_sb sb3 hp.noT hp.noF _ _ (good_get hga ed) dpd
          have hsum := split_at ed
          refine ⟨rfl, ?_⟩
          refine ⟨_, rfl, _, rfl, _, rfl, d, c, ns, a3, r3, x, dd, na, rfl, dd3, good_get hga ed, hwp dd (List.mem_of_getElem? ed), by have := hgt_get ed; omega, by omega, sb3 _ _ hna nnd, p3, by omega, fun v' t' a6 r6 H6 h6 g6 w6 ha6 sb6 p6 => ?_⟩
          have hd6 := sb6 D _ hd3 ndD.symm
          have D6 := dp_sbAll sb6 p3.noT p3.noF es ys hge hdp
          have nT : ∀ ys, H6 D ≠ some (.tup ys) := fun ys e => by rw [hd6] at e; cases e
          have nF : ∀ o ys, H6 D ≠ some (.frz o (.tup ys)) := fun o ys e => by rw [hd6] at e; cases e
          refine ⟨_, hd6, small' (by have := cntAll_len (PyData.str z :: ds'); omega), ys ++ [v'], es ++ [t'], a6, r6, by simp [hyl], dp_snoc (dp_sbAll (sb_upd _) nT nF es ys hge D6) (dp_sb (sb_upd _) nT nF t' v' g6 h6), goodAll_snoc hge g6, ?_, ?_, sb_new (sb3.trans sb6) hD, pen_put p6 ndD ncD, upd_same⟩
          · rw [List.take_add_one, ed]
            exact paired_snoc hpr w6
          · rw [List.take_add_one, ed, Option.toList_some, cntAll_app]
            simp only [cntAll]
            omega
        · rintro H3 ⟨ys, es, a3, r3, hyl, hdp, hge, hpr, ha3, sb3, p3, hd3⟩
          rw [hlx, List.take_length] at hpr ha3
          obtain ⟨hh3, hc3⟩ := wv_all hpr
          have gg := wv_gen hG hpr hz
          refine ⟨D, ys, rfl, .inl ⟨SqL.of hd3, fun l hl => ?_⟩⟩
          have sl : Same H3 (upd H3 l (.tup ys)) := same_new hl _
          refine q _ (.tuple es) a3 r3 _ (.tup (SqT.of upd_same) (dp_sameAll sl es ys hdp)) (by simpa only [good] using hge) ⟨fun k' g' => wv_gen g' hpr hz, (fun h => nomatch h), ?_, ?_⟩ (by omega) (sb3.trans (Same.sb sl)) (pen_same p3 sl)
          · simp only [hgt, hh3]
          · simp only [cnt, hc3]
    | none => exact ifT rfl (iteT ⟨_, rfl, keep⟩)
    | bool x => exact ifT rfl (iteT ⟨_, rfl, keep⟩)
    | int x => exact ifT rfl (iteT ⟨_, rfl, keep⟩)
    | str x => exact ifT rfl (iteT ⟨_, rfl, keep⟩)
    | list ds => simp [good] at hg
    | dict ds => simp [good] at hg
theorem ok_wv {f : Addr} {fd : FuncData} {cols vars names : Kinds} (B : Bn7 mg) (hN : NmOk cols vars names) (D1 : Cal P w K mg base CX0 1 "_law_draw" ["_law_pen_here", "_law_many"] [] spDraw) (F : Fun K "_law_with_variables" "_law_with_variables" sWV f fd) (mF : mg "_law_with_variables" = some (.ref f)) (bF : Binds K fd ["_law_pen_here", "_law_e", "_law_names"] []) :
    ∀ n : Nat, FnOk P w K mg base CX0 (n + 2) f fd ["_law_pen_here", "_law_e", "_law_names"] (spWV K cols vars names n)
  | 0 => by
    have no : ∀ vs H Q E, ¬ spWV K cols vars names 0 vs H Q E := fun vs H Q E h => by
      obtain ⟨d, c, ns, a, r, v, t, na, _, _, _, _, h1, _⟩ := h
      have := hgt_pos t
      omega
    exact ⟨fun vs H Q E h => absurd h (no vs H Q E), fun A outer s H args us vs Q E _ _ _ _ h => absurd h (no vs H Q E)⟩
  | n + 1 => wv_step B hN D1 F mF bF (ok_wv B hN D1 F mF bF n)
end
end DS
set_option Elab.async false
set_option linter.all false
set_option maxRecDepth 100000
set_option maxHeartbeats 4000000
/-! dict(zip(xs, ys)) -/
namespace DS
open PySem PySem.Spec PyProof.Rows L2
section
variable {X : Cx}
def tDZ (K : PySem.W.Frag) (ta : TA) : TE := fun σ H Q => ta σ H fun vs H1 => ∃ (a b : Addr) (ks : List Key) (ys : List V), vs = [.ref a, .ref b] ∧ SqL K H1 a (ks.map kV) ∧ SqL K H1 b ys ∧ ks.length = ys.length ∧ ∀ p, H1 p = none → Q (.ref p) (upd H1 p (.dK (mergeK [] (ks.zip ys))))
theorem key_rel {P : Program} {w : World} {k : Key} {v : Value} (h : RelV (kV k) v) : (mixKind P w).is k v = true := by
  cases k with
  | inl i => obtain ⟨t, rfl⟩ := h; exact mixKind_int _ _ _ _
  | inr x => obtain ⟨t, rfl⟩ := h; exact mixKind_str _ _ _ _
theorem kv_zip : ∀ {ks : List Key} {ys : List V} {us : List Value}, Vals ys us → KV (ks.zip ys) (ks.zip us)
  | [], _, _, _ => by simp only [List.zip_nil_left]; exact .nil
  | k :: ks, _, _, .nil => by simp only [List.zip_nil_right]; exact .nil
  | k :: ks, _, _, .cons h1 h2 => .cons ⟨rfl, h1⟩ (kv_zip h2)
theorem pe_dictZip {e e2 : Expr} {ta : TA} {p p2 pos pos2 : Pos} (hg : Gl X "dict") (hm : X.mg "dict" = none) (hg2 : Gl X "zip") (hm2 : X.mg "zip" = none) (ha : PA X [e, e2] ta) (hc : X.calm = true := by rfl)
    (hs : starEach [e, e2] X.env = (false, eval e X.env) :: starEach [e2] X.env := by rfl) (hpl : (backTo pos2 (starEach [e2] X.env)).any (·.1) = false := by rfl) :
    PE X (.Call (.Name "dict" p) [.Call (.Name "zip" p2) [e, e2] [] pos2] [] pos) (tDZ X.K ta) := by
  refine ⟨fun pins s σ H Q I h => ?_⟩
  refine Call_ (ld_blt I hg hm PyProof.Rows.boot_dict ?_)
  refine PyProof.Rows.callWith_type1 (PyProof.Rows.args_cons ?_ rfl) rfl rfl
  refine Call_ (ld_blt I hg2 hm2 PyProof.Rows.boot_zip (PyProof.Rows.callWith_type1 (thn (ha.run pos2 pins s σ H _ I h) fun us s1 ⟨vs, H1, I1, r1, q1⟩ => ?_) hs hpl))
  obtain ⟨a, b, ks, ys, ex, hqx, hqy, hl, q⟩ := q1
  subst ex
  cases r1 with
  | cons r rr =>
    cases rr with
    | cons r' rr =>
      cases rr
      cases r
      cases r'
      obtain ⟨its, rv, p1, z1⟩ := I1.list hqx
      obtain ⟨its2, rv2, p2, z2⟩ := I1.list hqy
      have la : a < s1.heap.objs.size := p1.lt
      have lb : b < s1.heap.objs.size := p2.lt
      have l1 : its.length = ks.length := by have := rv.length; rw [List.length_map] at this; exact this.symm
      have l2 : its2.length = ys.length := rv2.length.symm
      refine call_zip_2 p1.isList p2.isList fun h' hz hTI hTO h1 h2 hsz hk => ?_
      refine PyProof.Rows.args_nil ?_
      have hmin : min its.toArray.size its2.toArray.size = ks.length := by rw [List.size_toArray, List.size_toArray]; omega
      refine PySem.call_dict_pairs (knd := mixKind X.prog X.w) (kvs := ks.zip its2) (PairArg.zip _ _ _ _ _ _ _ (PySem.W.ktu_apart s1.heap.objs.size a b la lb) its.toArray its2.toArray) (I1.ok.hd hc)
        ⟨hz, hTI, ⟨_, _, hTO⟩, h1, h2, p1.isList.at fun o e => hk _ o e, p2.isList.at fun o e => hk _ o e⟩ ⟨?_, fun i key v hr => ?_⟩ ?_ fun h'' tk hd' k => ?_
      · rw [hmin, List.length_zip]; omega
      · obtain ⟨e1, e2⟩ := hr
        rw [List.getElem?_toArray] at e1 e2
        have hi : i < ks.length := by have := (List.getElem?_eq_some_iff.mp e1).1; omega
        have ek : ks[i]? = some ks[i] := List.getElem?_eq_getElem hi
        refine ⟨ks[i], ?_, ?_⟩
        · rw [List.getElem?_zip_eq_some]
          exact ⟨ek, e2⟩
        · obtain ⟨u, eu, ru⟩ := rv.get (show (ks.map kV)[i]? = some (kV ks[i]) by rw [List.getElem?_map, ek]; rfl)
          rw [e1] at eu
          cases eu
          exact key_rel ru
      · rw [hmin]; rw [List.length_map] at z1; exact z1
      · have hm9 : (h'.objs.size == sysModules) = false := beq_eq_false_iff_ne.mpr (by rw [hsz]; exact Nat.ne_of_gt (Nat.lt_of_lt_of_le I1.big (Nat.le_add_right _ _)))
        have hlen : (mergeK [] (ks.zip ys)).length ≤ sizeLine := by
          refine Nat.le_trans (length_mergeK (ks.zip ys) []) ?_
          rw [List.length_nil, Nat.zero_add, List.length_zip]
          rw [List.length_map] at z1
          omega
        have kk : ∀ b u, s1.heap.get? b = some u → h''.get? b = some u := fun b u e => by
          have lt := Heap.lt_size e
          refine k b u (fun hm => ?_) (hk b u e)
          simp only [List.mem_cons, List.not_mem_nil, or_false] at hm
          have hle : s1.heap.objs.size ≤ b := by
            rcases hm with z | z | z | z
            · rw [z]; exact Nat.le_add_right _ _
            · rw [z]; exact Nat.le_add_right _ _
            · rw [z]; exact Nat.le_refl _
            · rw [z]; exact Nat.le_add_right _ _
          exact absurd lt (Nat.not_lt.mpr hle)
        have hp : s1.heap.objs.size ≤ h'.objs.size := by omega
        exact ⟨.ref h'.objs.size, upd H1 h'.objs.size (.dK (mergeK [] (ks.zip ys))), I1.laid (t' := tk) kk hp (show ObjOk X.prog X.w _ _ _ (.dK (mergeK [] (ks.zip ys))) from ⟨hlen, hm9, merged [] (ks.zip its2), KV.merge (kv_zip rv2) .nil, hd'⟩), rfl, q _ (I1.hok.fresh hp)⟩
end
end DS
set_option Elab.async false
set_option linter.all false
set_option maxRecDepth 100000
set_option maxHeartbeats 4000000
namespace DS
open PySem L2 PyProof.Rows
/-! ### the law's own def, called by the claim: here no repr is under way (the guards are empty) -/
theorem run_law {P : Program} {w : World} {K : PySem.W.Frag} {mg : Str → Option Value} {bs : Heap} {f a : Addr} {fd : FuncData} {N : List Str} {st : Stmt} {s : Shared} {H : Hp} {x y : Str} {lv : Nat}
    (F : Fun K x x st f fd) (Sc : FnScope N [y] (defScope st)) (room : Room (lv + 1) callerA) (e0 : Env0 P w K mg bs callerA [] s H) (bind : BindsTo s fd ⟨[.ref a], []⟩ [(y, .ref a)])
    (body : ∀ cdv : Value, Room lv (callerA.deeper (envOfC x (defScope st) s.heap.objs.size f cdv)) →
      ∃ t, PSs (cxOf CX0 P w K mg bs N x (defScope st) f cdv callerA [] s H E0).nox (defBody st) t ∧ t { nx := fun _ _ => False, rt := fun v _ => v = .bl true } (L2.start N [.ref a]) H) :
    codeAny (model P w) callerA (.call (.ref f) ⟨[.ref a], []⟩) (CR CX0 [] P w H s (fun v _ => v = .bl true) E0) s := by
  obtain ⟨oc, od, kV, doc, pm, an, cdv, ct, osl, rfl, lk, hcd⟩ := F.ex
  have kin : K.In s.heap := e0.mod.kin.keeps fun _ _ e => (e0.bs _ _ e).1
  have nol : s.heap.NoLimit := e0.mod.nolimit.keeps fun _ _ e => (e0.bs _ _ e).1
  have kinds : ∀ p ∈ [y].zip [Value.ref a], (defScope st).names.lookup p.1 = some .local ∨ ((defScope st).names.lookup p.1 = some .cell ∧ ((cellsFrom (s.heap.objs.size + 1) (defScope st).names []).lookup p.1).isSome = true) := by
    intro p hp
    obtain rfl : p = (y, Value.ref a) := by simpa using hp
    exact (Sc.par y (by simp)).imp id fun q => ⟨q, PySem.W.cellsFrom_some _ _ _ (.inl q)⟩
  refine codeAny_call_function room.depth (kin _ _ lk) rfl Sc.co Sc.gen rfl (PySem.W.codeRec_of kin hcd) (bind _ _ _ _ ?_)
  refine wpAny_newFunctionEnv_cells Sc.kind kinds ?_
  rintro env rfl s' ic
  refine ⟨nol.keeps ic.toInCall.keep, codeAny_func ?_⟩
  obtain ⟨t, dt, ht⟩ := body cdv (room.deeper _)
  have J0 : Inv (cxOf CX0 P w K mg bs N x (defScope st) f cdv callerA [] s H E0) [] (L2.start N [.ref a]) H s' := inv_start (us := [.ref a]) Sc room.hd e0 rfl (.cons rfl .nil) ic
  refine wpAny_mono (dt.nox.run [] s' (L2.start N [.ref a]) H _ J0 ht) (fun fl s2 z => ?_) fun _ _ z => z
  cases fl with
  | ret u =>
    obtain ⟨v, σ2, H2, J, rv, q⟩ := z
    exact ⟨v, H2, J.os, J.bare, J.base, J.hok, rv, q⟩
  | next => obtain ⟨_, _, _, q⟩ := z; exact q.elim
  | brk => obtain ⟨_, _, _, q⟩ := z; exact q.elim
  | cont => obtain ⟨_, _, _, q⟩ := z; exact q.elim
/-- the claim's call from the body's reading -/
theorem law_at {P : Program} {w : World} {K : PySem.W.Frag} {mg mb : Str → Option Value} {f a : Addr} {fd : FuncData} {N : List Str} {st : Stmt} {s : Shared} {us : List Value} {ns : List Int} {x y : Str} {lv : Nat}
    (F : Fun K x x st f fd) (Sc : FnScope N [y] (defScope st)) (room : Room (lv + 1) callerA) (bind : BindsTo s fd ⟨[.ref a], []⟩ [(y, .ref a)])
    (kin : K.In s.heap) (gns : s.heap.Ns mainGlobals mg) (bns : s.heap.Ns builtinsNs mb) (bb : ∀ x : Str, x ≠ "__name__" → mb x = bootBuiltins x) (nol : s.heap.NoLimit) (gens : s.gens = #[])
    (obj : s.heap.get? a = some { cls := .type "list", data := .seq us.toArray }) (hints : IntsAre us ns) (len : ns.length ≤ sizeLine)
    (body : ∀ (bs : Heap) (H : Hp) (cdv : Value), K.In bs → bs.Ns mainGlobals mg → SqL K H a (ns.map V.int) → Room lv (callerA.deeper (envOfC x (defScope st) s.heap.objs.size f cdv)) →
      ∃ t, PSs (cxOf CX0 P w K mg bs N x (defScope st) f cdv callerA [] s H E0).nox (defBody st) t ∧ t { nx := fun _ _ => False, rt := fun v _ => v = .bl true } (L2.start N [.ref a]) H) :
    codeAny (model P w) callerA (.call (.ref f) ⟨[.ref a], []⟩) (fun r s' => r = .ok (.ret (.bool true)) ∧ OldK s.heap s'.heap ∧ s'.os = s.os ∧ AllBare s'.gens) s := by
  have vals := vals_ints hints
  have ulen := hints.length
  -- H tracks the script (frozen), or nothing
  have main : ∀ H : Hp, (∀ b, H b = none ∨ (b = a ∧ K.lookup a = none ∧ ∃ o xs, H b = some (.frz o (.lst xs)))) → SqL K H a (ns.map V.int) → HOk P w H s.heap →
      codeAny (model P w) callerA (.call (.ref f) ⟨[.ref a], []⟩) (fun r s' => r = .ok (.ret (.bool true)) ∧ OldK s.heap s'.heap ∧ s'.os = s.os ∧ AllBare s'.gens) s := by
    intro H only hS hok
    have dicts : ∀ {b : Addr} {o : Obj} {es : Array DictEntry} {ep : Nat}, s.heap.get? b = some o → o.data = .dict es ep → H b = none := by
      intro b o es ep e de
      rcases only b with z | ⟨rfl, _⟩
      · exact z
      · rw [obj] at e
        obtain rfl := Option.some.inj e
        exact Data.noConfusion (show Data.seq us.toArray _ = Data.dict es ep from de)
    have ns' : ∀ {b : Addr} {m : Str → Option Value}, s.heap.Ns b m → (hidT s.heap H).Ns b m := by
      rintro b m ⟨o, es, ep, e, de, r⟩
      exact ⟨o, es, ep, hidT_get e (dicts e de), de, r⟩
    have kin' : K.In (hidT s.heap H) := by
      intro b o e
      refine hidT_get (kin b o e) ?_
      rcases only b with z | ⟨rfl, z, _⟩
      · exact z
      · rw [z] at e; cases e
    have md : Mod K mg (hidT s.heap H) := ⟨kin', ns' gns, ⟨mb, ns' bns, bb⟩, nol.imp fun mc h => ⟨ns' h.1, h.2⟩⟩
    have e0 : Env0 P w K mg (hidT s.heap H) callerA [] s H := ⟨rfl, md, fun _ _ e => of_hidT e, Nat.le_of_eq (hidT_size _ _), trivial, fun b hb => absurd (show b ∈ ([] : List Addr) from hb) (by simp), hok, .of_eq gens⟩
    refine codeAny_mono (run_law F Sc room e0 bind fun cdv hr => body _ H cdv kin' (ns' gns) hS hr) fun r s' z => ?_
    match r, z with
    | .error _, z => exact z.elim
    | .ok .next, z => exact z.elim
    | .ok .brk, z => exact z.elim
    | .ok .cont, z => exact z.elim
    | .ok (.ret u), z =>
      obtain ⟨v, H', hos, hbare, un, hok', rv, rfl⟩ := z
      cases (show u = Value.bool true from rv)
      refine ⟨rfl, OldK.of_keep fun b o e => ?_, hos, hbare⟩
      rcases only b with q | ⟨_, _, ob, xs, q⟩
      · exact un.keep b o e q (fun z => absurd (show b ∈ ([] : List Addr) from z) (by simp)) (by simp)
      · have z1 : s.heap.get? b = some ob := (hok b _ q).1
        have z2 : s'.heap.get? b = some ob := (hok' b _ (un.frzs b ob _ q)).1
        rw [z1] at e
        rw [z2, ← Option.some.inj e]
  cases hk : K.lookup a with
  | some o =>
    obtain rfl := Option.some.inj (obj.symm.trans (kin a o hk))
    exact main (fun _ => none) (fun _ => .inl rfl) (.inr ⟨_, us.toArray, _, hk, rfl, rfl, rfl, by rw [List.size_toArray, ulen]; exact len, by simpa using vals⟩) fun b o z => nomatch (show (none : Option HO) = some o from z)
  | none =>
    refine main (upd (fun _ => none) a (.frz { cls := .type "list", data := .seq us.toArray } (.lst (ns.map V.int)))) (fun b => ?_) (.inl (.inr ⟨_, upd_same⟩)) fun b o z => ?_
    · by_cases e : b = a
      · subst e; exact .inr ⟨rfl, hk, _, _, upd_same⟩
      · exact .inl (by rw [upd_ne e])
    · by_cases e : b = a
      · subst e
        rw [upd_same] at z
        obtain rfl := Option.some.inj z
        exact ⟨obj, by rw [List.length_map]; exact len, us, _, vals, obj⟩
      · rw [upd_ne e] at z; cases z
/-- the goal behind k_head -/
theorem walk_at {l : PySem.W.OpenLaw} {q : Program} {loose : List Str} {XP : (Str → Option Value) → Heap → Prop} {YP : World → Heap → Prop} {d : DefRec} {K : Params → PySem.W.Frag} {N : List Str} {st : Stmt} {y : Str} {lv : Nat}
    (hn : l.most = some 63) (hdf : d.params.defaults = []) (Sc : FnScope N [y] (defScope st)) (room : Room (lv + 1) callerA) (hY : ∀ (w : World) (h : Heap), YP w h → (K w.params).In h)
    (give : ∀ (w : World) (mg : Str → Option Value) (f : Addr) (h : Heap), (K w.params).In h → h.Ns mainGlobals mg → mg d.name = some (.ref f) →
      ∃ fd : FuncData, Fun (K w.params) d.name d.name st f fd ∧ (∀ (s : Shared) (u : Value), BindsTo s fd ⟨[u], []⟩ [(y, u)]) ∧
        ∀ (bs : Heap) (s : Shared) (H : Hp) (cdv : Value) (a : Addr) (ns : List Int), (K w.params).In bs → bs.Ns mainGlobals mg → ns.length ≤ 63 → SqL (K w.params) H a (ns.map V.int) → Room lv (callerA.deeper (envOfC d.name (defScope st) s.heap.objs.size f cdv)) →
          ∃ t, PSs (cxOf CX0 l.prog w (K w.params) mg bs N d.name (defScope st) f cdv callerA [] s H E0).nox (defBody st) t ∧ t { nx := fun _ _ => False, rt := fun v _ => v = .bl true } (L2.start N [.ref a]) H) :
    PySem.W.WalkO q loose XP YP l.row.toRowW d [] (fun f vs => PySem.call f vs) := by
  refine Att.attach_call hn hdf ?_
  intro w s₀ s mg mb f o pm cd doc a us ns G Y ho hd hcd hmg obj hints hlen gens
  have kin := hY w _ Y
  obtain ⟨fd, F, bind, body⟩ := give w mg f _ kin G.T.g hmg
  exact law_at F Sc room (bind s _) kin G.T.g G.T.b G.T.builtins G.T.nolimit gens obj hints (Nat.le_trans hlen (by decide)) fun bs H cdv h1 h2 h3 h4 => body bs s H cdv a ns h1 h2 hlen h3 h4
/-! ### repr of data -/
theorem call_reprD {X : Cx} (hg : X.A.guards = some []) {n : Nat} (hu : X.A.units + (n + 1) < cLine) :
    CallR X (.builtin "repr") (fun xs H Q => ∃ v d, xs = [v] ∧ Dp X.K H v d ∧ d.showable = true ∧ d.hasDict = false ∧ d.depth ≤ n ∧ d.shown.length ≤ sizeLine ∧ Q (.str d.shown) H) := by
  intro pins s σ H xs us Q I r h
  obtain ⟨v, d, rfl, hd, hs, hnd, hdep, hlen, q⟩ := h
  obtain ⟨u, rfl, rv⟩ := vals1 r
  have fin : ∀ h' t tk, (∀ b o, s.heap.get? b = some o → h'.get? b = some o) → EP X pins σ Q (.str d.shown t) { s with heap := h', toks := tk } := fun h' t tk k => ⟨.str d.shown, H, I.kept k, ⟨t, rfl⟩, q⟩
  have fin0 : ∀ t tk, EP X pins σ Q (.str d.shown t) { s with toks := tk } := fun t tk => fin s.heap t tk fun _ _ e => e
  obtain ⟨as, rd⟩ := Dp.reads I d v u hd rv
  cases hd with
  | non => cases (show u = Value.none from rv); exact PySem.P.repr_of_none (fin0 _ _)
  | bl b => cases (show u = Value.bool b from rv); exact PySem.P.repr_of_bool (by have := fin0 s.toks (s.toks + 1); simpa only [PyData.shown] using this)
  | int i =>
    obtain ⟨t, rfl⟩ := (show ∃ t, u = Value.int i t from rv)
    exact PySem.P.repr_of_int (by simpa [PyData.showable] using hs) (fin0 _ _)
  | str z =>
    obtain ⟨t, rfl⟩ := (show ∃ t, u = Value.str z t from rv)
    exact PySem.P.repr_of_str (fin0 _ _) (by simpa only [PyData.shown] using hlen)
  | @lst a xs ds h1 h2 =>
    cases (show u = Value.ref a from rv)
    exact repr_of_reads' rd hs (PyData.noDict_hsm hnd) hg (by omega) (fun _ _ e => e) fin hlen
  | @tup a xs ds h1 h2 =>
    cases (show u = Value.ref a from rv)
    exact repr_of_reads' rd hs (PyData.noDict_hsm hnd) hg (by omega) (fun _ _ e => e) fin hlen
end DS
set_option Elab.async false
set_option linter.all false
set_option maxRecDepth 100000
set_option maxHeartbeats 4000000
namespace DS
open PySem L2 PySem.NumText
/-! ### sizes of what repr shows -/
theorem numT_len {i : Int} (h : i.natAbs < 10 ^ 100) : (numT i).length ≤ 101 := by
  have := decD_len 100 i.natAbs h (by decide)
  unfold numT
  split <;> simp <;> omega
theorem len_app (a b : Str) : (a ++ b).length = a.length + b.length := by
  show (a.cps ++ b.cps).size = a.cps.size + b.cps.size
  simp
theorem join_len (sep : Str) : ∀ l : List Str, (Str.join sep l).length ≤ (l.map fun x => x.length + sep.length).sum
  | [] => by simp [Str.join, Str.empty, Str.length]
  | [x] => by simp [Str.join]
  | x :: y :: r => by
    have := join_len sep (y :: r)
    rw [show Str.join sep (x :: y :: r) = x ++ sep ++ Str.join sep (y :: r) from rfl, len_app, len_app]
    simp only [List.map_cons, List.sum_cons] at this ⊢
    omega
theorem sgn_small : ∀ c ∈ sgnList, c < 16 ^ 8 := by decide +kernel
mutual
theorem shown_bd : ∀ t : PyData, good t → txts t → t.shown.length + 2 ≤ 20000 * cnt t
  | .none, _, _ => by simp only [PyData.shown, cnt]; decide
  | .bool b, _, _ => by cases b <;> (simp only [PyData.shown, cnt]; decide)
  | .int i, g, _ => by
    have := numT_len (by simpa [good] using g)
    simp only [PyData.shown, cnt]
    rw [toString_int, S_length]; omega
  | .str x, g, l => by
    have h1 := PySem.StrLaws.reprText_len x fun c hc => sgn_small c ((by simpa [good] using g : ∀ c ∈ x.cps.toList, c ∈ sgnList) c hc)
    have h2 : x.cps.toList.length ≤ 1000 := by simpa [txts] using l
    have h3 : x.length = x.cps.toList.length := by simp [Str.length]
    simp only [PyData.shown, cnt]; omega
  | .tuple ts, g, l => by
    have h1 := shownAll_bd ts (by simpa [good] using g) (by simpa [txts] using l)
    have h2 := join_len (Str.ofString ", ") (PyData.shownAll ts)
    have h3 : (Str.ofString ", ").length = 2 := by decide
    rw [h3] at h2
    simp only [PyData.shown, tupleText, cnt]
    rw [len_app, len_app]
    have h4 : (Str.ofString "(").length = 1 := by decide
    have h5 : (Str.ofString (if (PyData.shownAll ts).length == 1 then ",)" else ")" : String)).length ≤ 2 := by split <;> decide
    omega
  | .list _, g, _ => by simp [good] at g
  | .dict _, g, _ => by simp [good] at g
theorem shownAll_bd : ∀ ts : List PyData, goodAll ts → txtsAll ts → ((PyData.shownAll ts).map fun x => x.length + 2).sum ≤ 20000 * cntAll ts
  | [], _, _ => by simp [PyData.shownAll]
  | t :: ts, g, l => by
    simp only [goodAll] at g
    simp only [txtsAll] at l
    have h1 := shown_bd t g.1 l.1
    have h2 := shownAll_bd ts g.2 l.2
    simp only [PyData.shownAll, cntAll, List.map_cons, List.sum_cons]; omega
end
mutual
theorem good_show : ∀ t : PyData, good t → t.showable = true ∧ t.hasDict = false ∧ t.depth ≤ hgt t
  | .none, _ => by simp [PyData.showable, PyData.hasDict, PyData.depth]
  | .bool b, _ => by simp [PyData.showable, PyData.hasDict, PyData.depth]
  | .int i, g => by simp [PyData.showable, PyData.hasDict, PyData.depth, good_log (by simpa [good] using g)]
  | .str x, _ => by simp [PyData.showable, PyData.hasDict, PyData.depth]
  | .tuple ts, g => by
    have := good_showAll ts (by simpa [good] using g)
    simp only [PyData.showable, PyData.hasDict, PyData.depth, hgt]
    exact ⟨this.1, this.2.1, by omega⟩
  | .list _, g => by simp [good] at g
  | .dict _, g => by simp [good] at g
theorem good_showAll : ∀ ts : List PyData, goodAll ts → PyData.showableAll ts = true ∧ PyData.hasDictAll ts = false ∧ PyData.depthAll ts ≤ hgtAll ts
  | [], _ => by simp [PyData.showableAll, PyData.hasDictAll, PyData.depthAll]
  | t :: ts, g => by
    simp only [goodAll] at g
    have h1 := good_show t g.1
    have h2 := good_showAll ts g.2
    simp only [PyData.showableAll, PyData.hasDictAll, PyData.depthAll, hgtAll, h1.1, h1.2.1, h2.1, h2.2.1]
    exact ⟨rfl, rfl, by omega⟩
end
/-! ### what is told: its size -/
theorem kids_path {f : PyData → List Nat → Res7} {n : Nat} (hf : ∀ d l w l', f d l = .error (w, l') → l'.length ≤ l.length + n) : ∀ {ps : List (Nat × PyData)} {l : List Nat} {w : Str} {l' : List Nat}, kidsM f l ps = .error (w, l') → l'.length ≤ l.length + n + 1
  | [], l, w, l', h => by simp only [kidsM] at h; cases h
  | (i, x) :: r, l, w, l', h => by
    simp only [kidsM] at h
    cases e1 : f x (l ++ [i]) with
    | error e =>
      rw [e1] at h
      cases h
      have := hf _ _ _ _ e1
      rw [List.length_append, List.length_singleton] at this
      omega
    | ok k =>
      rw [e1] at h
      simp only at h
      cases e2 : kidsM f l r with
      | error e => rw [e2] at h; cases h; exact kids_path hf e2
      | ok ks => rw [e2] at h; cases h
theorem bad_mem : ∀ {ps : List (Nat × PyData)} {ks : List (Option Str)} {ls : List (List Str)} {i : Nat}, badM ps ks ls = some i → ∃ d, (i, d) ∈ ps
  | [], _, _, _, h => by simp [badM] at h
  | _ :: _, [], _, _, h => by simp [badM] at h
  | _ :: _, _ :: _, [], _, h => by simp [badM] at h
  | (j, d) :: ps, k :: ks, l :: ls, i, h => by
    simp only [badM] at h
    split at h
    · obtain ⟨d, hd⟩ := bad_mem h
      exact ⟨d, List.mem_cons_of_mem _ hd⟩
    · cases h; exact ⟨d, List.mem_cons_self⟩
theorem look_path {cols vars : Kinds} : ∀ (n : Nat) (t : PyData) (l : List Nat) (w : Str) (l' : List Nat), lookM cols vars n t l = .error (w, l') → l'.length ≤ l.length + n
  | 0, t, l, w, l', h => by simp only [lookM] at h; cases h; omega
  | n + 1, t, l, w, l', h => by
    cases en : nodeM cols vars t with
    | some w' => rw [lookM, en] at h; cases h; omega
    | none =>
      rw [look_succ _ _ _ _ _ en] at h
      cases ek : kidsM (lookM cols vars n) l (partsM t) with
      | error e => rw [ek] at h; cases h; have := kids_path (look_path n) ek; omega
      | ok ks =>
        rw [ek] at h
        simp only at h
        cases eb : badM (partsM t) ks (wantM t ks) with
        | some i => rw [eb] at h; cases h; rw [List.length_append, List.length_singleton]; omega
        | none => rw [eb] at h; cases h
theorem parts_small {t : PyData} : ∀ p ∈ partsM t, p.1 ≤ 3 := by
  intro p hp
  unfold partsM at hp
  split at hp
  · simp only [List.mem_cons, List.mem_nil_iff, or_false] at hp; rcases hp with rfl | rfl <;> simp
  · split at hp
    · simp only [List.mem_cons, List.mem_nil_iff, or_false] at hp; subst hp; simp
    · split at hp
      · simp only [List.mem_cons, List.mem_nil_iff, or_false] at hp; rcases hp with rfl | rfl | rfl <;> simp
      · cases hp
theorem kids_steps {f : PyData → List Nat → Res7} (hf : ∀ d l w l', (∀ x ∈ l, x ≤ 3) → f d l = .error (w, l') → ∀ x ∈ l', x ≤ 3) : ∀ {ps : List (Nat × PyData)} {l : List Nat} {w : Str} {l' : List Nat}, (∀ p ∈ ps, p.1 ≤ 3) → (∀ x ∈ l, x ≤ 3) → kidsM f l ps = .error (w, l') → ∀ x ∈ l', x ≤ 3
  | [], l, w, l', _, _, h => by simp only [kidsM] at h; cases h
  | (i, x) :: r, l, w, l', hp, hl, h => by
    simp only [kidsM] at h
    cases e1 : f x (l ++ [i]) with
    | error e =>
      rw [e1] at h
      cases h
      refine hf _ _ _ _ (fun y hy => ?_) e1
      rcases List.mem_append.mp hy with hy | hy
      · exact hl y hy
      · simp only [List.mem_singleton] at hy; subst hy; exact hp _ List.mem_cons_self
    | ok k =>
      rw [e1] at h
      simp only at h
      cases e2 : kidsM f l r with
      | error e => rw [e2] at h; cases h; exact kids_steps hf (fun p hp' => hp p (List.mem_cons_of_mem _ hp')) hl e2
      | ok ks => rw [e2] at h; cases h
theorem look_steps {cols vars : Kinds} : ∀ (n : Nat) (t : PyData) (l : List Nat) (w : Str) (l' : List Nat), (∀ x ∈ l, x ≤ 3) → lookM cols vars n t l = .error (w, l') → ∀ x ∈ l', x ≤ 3
  | 0, t, l, w, l', hl, h => by simp only [lookM] at h; cases h; exact hl
  | n + 1, t, l, w, l', hl, h => by
    cases en : nodeM cols vars t with
    | some w' => rw [lookM, en] at h; cases h; exact hl
    | none =>
      rw [look_succ _ _ _ _ _ en] at h
      cases ek : kidsM (lookM cols vars n) l (partsM t) with
      | error e => rw [ek] at h; cases h; exact kids_steps (look_steps n) parts_small hl ek
      | ok ks =>
        rw [ek] at h
        simp only at h
        cases eb : badM (partsM t) ks (wantM t ks) with
        | some i =>
          rw [eb] at h
          cases h
          intro x hx
          rcases List.mem_append.mp hx with hx | hx
          · exact hl x hx
          · simp only [List.mem_singleton] at hx
            subst hx
            obtain ⟨d, hd⟩ := bad_mem eb
            exact parts_small _ hd
        | none => rw [eb] at h; cases h
def ResOk (d : PyData) : Prop := good d ∧ txts d ∧ hgt d ≤ 3 ∧ cnt d ≤ 200
theorem nats_ok : ∀ {l : List Nat}, (∀ x ∈ l, x ≤ 3) → goodAll (l.map fun (n : Nat) => PyData.int (n : Int)) ∧ txtsAll (l.map fun (n : Nat) => PyData.int (n : Int)) ∧ hgtAll (l.map fun (n : Nat) => PyData.int (n : Int)) ≤ 1 ∧ cntAll (l.map fun (n : Nat) => PyData.int (n : Int)) = l.length
  | [], _ => by simp [goodAll, txtsAll, hgtAll, cntAll]
  | x :: l, h => by
    obtain ⟨h1, h2, h3, h4⟩ := nats_ok (l := l) fun y hy => h y (List.mem_cons_of_mem _ hy)
    have hx := h x List.mem_cons_self
    simp only [List.map_cons, goodAll, txtsAll, hgtAll, cntAll, good, txts, hgt, cnt, List.length_cons]
    refine ⟨⟨?_, h1⟩, ⟨trivial, h2⟩, by omega, by omega⟩
    rw [Int.natAbs_natCast]
    exact Nat.lt_of_le_of_lt hx (by decide +kernel)
theorem says_sgn : ∀ w ∈ saysL, (∀ c ∈ (saidM w).cps.toList, c ∈ sgnList) ∧ (saidM w).cps.toList.length ≤ 1000 := by decide +kernel
theorem says0 : (∀ c ∈ ("" : Str).cps.toList, c ∈ sgnList) ∧ ("" : Str).cps.toList.length ≤ 1000 := by decide +kernel
theorem kinds_sgn : ∀ w ∈ kindsL, (∀ c ∈ w.cps.toList, c ∈ sgnList) ∧ w.cps.toList.length ≤ 1000 := by decide +kernel
theorem res_ok {cols vars : Kinds} (hc : KdOk cols) (hv : KdOk vars) (t : PyData) : ResOk (resD (lookM cols vars 30 t [])) := by
  cases e : lookM cols vars 30 t [] with
  | error x =>
    obtain ⟨w, l⟩ := x
    have h1 := look_path _ _ _ _ _ e
    have h2 := look_steps _ _ _ _ _ (by simp) e
    have h3 := says_sgn w (look_says _ _ _ _ _ e)
    obtain ⟨n1, n2, n3, n4⟩ := nats_ok h2
    have h1 : l.length ≤ 30 := by simpa using h1
    unfold ResOk
    simp only [resD, pathD, good, goodAll, txts, txtsAll, hgt, hgtAll, cnt, cntAll, n4]
    exact ⟨⟨h3.1, n1, trivial⟩, ⟨h3.2, n2, trivial⟩, by omega, by omega⟩
  | ok k =>
    unfold ResOk
    cases k with
    | none =>
      simp only [resD, kdD, good, goodAll, txts, txtsAll, hgt, hgtAll, cnt, cntAll]
      exact ⟨⟨says0.1, trivial, trivial⟩, ⟨says0.2, trivial, trivial⟩, by decide, by decide⟩
    | some y =>
      have h3 := kinds_sgn y (look_kind hc hv _ _ _ _ e)
      simp only [resD, kdD, good, goodAll, txts, txtsAll, hgt, hgtAll, cnt, cntAll]
      exact ⟨⟨says0.1, h3.1, trivial⟩, ⟨says0.2, h3.2, trivial⟩, by decide, by decide⟩
theorem res_show {d : PyData} (h : ResOk d) : d.showable = true ∧ d.hasDict = false ∧ d.depth ≤ 30 ∧ d.shown.length ≤ sizeLine := by
  obtain ⟨h1, h2, h3⟩ := good_show d h.1
  have h4 := shown_bd d h.1 h.2.1
  have h5 := h.2.2.1
  have h6 := h.2.2.2
  exact ⟨h1, h2, by omega, small (by omega)⟩
/-! ### the dicts of the law -/
theorem merge_app : ∀ {more acc : List (Key × V)}, ((acc ++ more).map (·.1)).Nodup → mergeK acc more = acc ++ more
  | [], acc, _ => by simp [mergeK]
  | (k, v) :: more, acc, h => by
    have hk : (acc.any fun kv => decide (kv.1 = k)) = false := by
      rw [List.any_eq_false]
      intro kv hkv
      simp only [decide_eq_true_eq]
      intro e
      rw [List.map_append, List.map_cons] at h
      have := (List.nodup_append.mp h).2.2 kv.1 (List.mem_map_of_mem hkv) k List.mem_cons_self
      exact this e
    have hp : putK acc k v = acc ++ [(k, v)] := by
      unfold putK
      rw [hk]
      rfl
    show mergeK (putK acc k v) more = _
    rw [hp, merge_app (more := more) (acc := acc ++ [(k, v)]) (by rw [List.append_assoc]; exact h), List.append_assoc]
    rfl
theorem merge_nil {kvs : List (Key × V)} (h : (kvs.map (·.1)).Nodup) : mergeK [] kvs = kvs := merge_app h
theorem kdKV_keys (l : Kinds) : (kdKV l).map (·.1) = (l.map (·.1)).map Sum.inr := by simp [kdKV]
theorem nodup_map {α β : Type} {f : α → β} (hf : ∀ x y, f x = f y → x = y) : ∀ {l : List α}, l.Nodup → (l.map f).Nodup := fun {l} h => by
  unfold List.Nodup at h ⊢
  rw [List.pairwise_map]
  exact h.imp fun hne e => hne (hf _ _ e)
theorem merge_kd {l : Kinds} (h : (l.map (·.1)).Nodup) : mergeK [] (kdKV l) = kdKV l := merge_nil (by rw [kdKV_keys]; exact nodup_map (fun x y e => Sum.inr.inj e) h)
theorem zip_kd : ∀ (ws ys : List Str), (ws.map (Sum.inr (α := Int))).zip (ys.map V.str) = kdKV (ws.zip ys)
  | [], _ => rfl
  | _ :: _, [] => rfl
  | w :: ws, y :: ys => by
    show (Sum.inr w, V.str y) :: (ws.map Sum.inr).zip (ys.map V.str) = _
    rw [zip_kd ws ys]
    rfl
theorem zip_fst {α β : Type} : ∀ {xs : List α} {ys : List β}, xs.length = ys.length → (xs.zip ys).map (·.1) = xs
  | [], [], _ => rfl
  | x :: xs, y :: ys, h => by
    show x :: (xs.zip ys).map (·.1) = _
    rw [zip_fst (by simpa using h)]
theorem zip_snd {α β : Type} : ∀ {xs : List α} {ys : List β}, xs.length = ys.length → (xs.zip ys).map (·.2) = ys
  | [], [], _ => rfl
  | x :: xs, y :: ys, h => by
    show y :: (xs.zip ys).map (·.2) = _
    rw [zip_snd (by simpa using h)]
theorem look_of : ∀ {l : Kinds} {x y : Str}, (l.map (·.1)).Nodup → (x, y) ∈ l → l.lookup x = some y
  | (a, b) :: l, x, y, hn, h => by
    rw [List.lookup_cons]
    rw [List.map_cons, List.nodup_cons] at hn
    rcases List.mem_cons.mp h with h1 | h1
    · cases h1; simp
    · have hne : x ≠ a := fun e => by
        have h2 : x ∈ l.map (·.1) := List.mem_map_of_mem (f := (·.1)) h1
        rw [e] at h2
        exact hn.1 h2
      rw [beq_eq_false_iff_ne.mpr hne]
      exact look_of hn.2 h1
def kinds6 : List Str := ["int", "int", "text", "text", "truth", "truth"]
def nmOf (names : Kinds) (x : Str) : Str := (names.lookup x).getD ""
/-- columns, names, variables -/
structure Dicts (cols names vars : Kinds) : Prop where
  colN : (cols.map (·.1)).Nodup
  colK : KdOk cols
  colW : KdW cols
  len : cols.length = 6
  namN : (names.map (·.1)).Nodup
  varN : (vars.map (·.1)).Nodup
  varK : KdOk vars
  nm : NmOk cols vars names
theorem kdOk_mem {l : Kinds} (h : ∀ e ∈ l, e.2 ∈ kindsL) : KdOk l := fun x y e => h _ (look_mem e)
theorem dicts_of {ws us : List Str} (hl : ws.length = 12) (hn : ws.Nodup) (hw : ∀ x ∈ ws, isWordC x.cps.toList = true) (hu : us.Perm (ws.take 6)) :
    Dicts ((ws.take 6).zip kinds6) ((ws.take 6).zip (ws.drop 6)) (us.map fun x => (nmOf ((ws.take 6).zip (ws.drop 6)) x, nmOf ((ws.take 6).zip kinds6) x)) := by
  have l6 : (ws.take 6).length = 6 := by rw [List.length_take, hl]; rfl
  have r6 : (ws.drop 6).length = 6 := by rw [List.length_drop, hl]
  have k6 : kinds6.length = 6 := rfl
  have n1 : (ws.take 6).Nodup := List.Sublist.nodup (List.take_sublist _ _) hn
  have n2 : (ws.drop 6).Nodup := List.Sublist.nodup (List.drop_sublist _ _) hn
  have cN : (((ws.take 6).zip kinds6).map (·.1)).Nodup := by rw [zip_fst (l6.trans k6.symm)]; exact n1
  have nN : (((ws.take 6).zip (ws.drop 6)).map (·.1)).Nodup := by rw [zip_fst (l6.trans r6.symm)]; exact n1
  generalize hA : ws.take 6 = A at *
  generalize hB : ws.drop 6 = B at *
  have hAw : ∀ x ∈ A, isWordC x.cps.toList = true := fun x hx => hw x (by rw [← hA] at hx; exact List.mem_of_mem_take hx)
  have hBw : ∀ x ∈ B, isWordC x.cps.toList = true := fun x hx => hw x (by rw [← hB] at hx; exact List.mem_of_mem_drop hx)
  have kin : ∀ e ∈ A.zip kinds6, e.1 ∈ A ∧ e.2 ∈ kinds6 := fun e he => ⟨(List.of_mem_zip he).1, (List.of_mem_zip he).2⟩
  have nin : ∀ e ∈ A.zip B, e.1 ∈ A ∧ e.2 ∈ B := fun e he => ⟨(List.of_mem_zip he).1, (List.of_mem_zip he).2⟩
  have k63 : ∀ x ∈ kinds6, x ∈ kindsL := by decide
  -- each word has a kind and a name
  have cAll : ∀ x ∈ A, ∃ k ∈ kinds6, (A.zip kinds6).lookup x = some k := fun x hx => by
    have : x ∈ (A.zip kinds6).map (·.1) := by rw [zip_fst (l6.trans k6.symm)]; exact hx
    obtain ⟨e, he, e1⟩ := List.mem_map.mp this
    refine ⟨e.2, (kin e he).2, look_of cN ?_⟩
    rw [← e1]
    exact he
  have nAll : ∀ x ∈ A, ∃ y ∈ B, (x, y) ∈ A.zip B ∧ (A.zip B).lookup x = some y := fun x hx => by
    have : x ∈ (A.zip B).map (·.1) := by rw [zip_fst (l6.trans r6.symm)]; exact hx
    obtain ⟨e, he, e1⟩ := List.mem_map.mp this
    have he' : (x, e.2) ∈ A.zip B := by rw [← e1]; exact he
    exact ⟨e.2, (nin e he).2, he', look_of nN he'⟩
  -- two words with one name are one
  have inj : ∀ x ∈ A, ∀ y ∈ A, nmOf (A.zip B) x = nmOf (A.zip B) y → x = y := fun x hx y hy e => by
    obtain ⟨b1, _, m1, e1⟩ := nAll x hx
    obtain ⟨b2, _, m2, e2⟩ := nAll y hy
    unfold nmOf at e
    rw [e1, e2] at e
    have e : b1 = b2 := e
    subst e
    have sN : ((A.zip B).map (·.2)).Nodup := by rw [zip_snd (l6.trans r6.symm)]; exact n2
    obtain ⟨i, hi⟩ := List.getElem?_of_mem m1
    obtain ⟨j, hj⟩ := List.getElem?_of_mem m2
    have h1 : ((A.zip B).map (·.2))[i]? = some b1 := by rw [List.getElem?_map, hi]; rfl
    have h2 : ((A.zip B).map (·.2))[j]? = some b1 := by rw [List.getElem?_map, hj]; rfl
    have hij : i = j := by
      have hil := (List.getElem?_eq_some_iff.mp h1).1
      exact (List.getElem?_inj hil sN).mp (h1.trans h2.symm)
    subst hij
    rw [hi] at hj
    have := Option.some.inj hj
    exact congrArg Prod.fst this
  have uA : ∀ x ∈ us, x ∈ A := fun x hx => hu.mem_iff.mp hx
  have vN : ((us.map fun x => (nmOf (A.zip B) x, nmOf (A.zip kinds6) x)).map (·.1)).Nodup := by
    rw [List.map_map]
    have hun : us.Nodup := hu.nodup_iff.mpr n1
    unfold List.Nodup at hun ⊢
    rw [List.pairwise_map]
    refine List.Pairwise.imp_of_mem ?_ hun
    intro x y hx hy hne e
    exact hne (inj x (uA x hx) y (uA y hy) e)
  refine ⟨cN, kdOk_mem fun e he => k63 _ (kin e he).2, fun x y e => hAw x (kin _ (look_mem e)).1, by rw [List.length_zip, l6, k6]; rfl, nN, vN, kdOk_mem fun e he => ?_, fun x k e => ?_⟩
  · obtain ⟨x, hx, rfl⟩ := List.mem_map.mp he
    obtain ⟨k, hk, ek⟩ := cAll x (uA x hx)
    show nmOf (A.zip kinds6) x ∈ kindsL
    unfold nmOf
    rw [ek]
    exact k63 k hk
  · have hx := (kin _ (look_mem e)).1
    obtain ⟨y, hy, _, ey⟩ := nAll x hx
    refine ⟨y, ey, ?_, hBw y hy⟩
    refine look_of vN ?_
    refine List.mem_map.mpr ⟨x, hu.mem_iff.mpr hx, ?_⟩
    unfold nmOf
    rw [ey, e]
    rfl
end DS
set_option Elab.async false
set_option linter.all false
set_option maxRecDepth 100000
set_option maxHeartbeats 4000000
namespace DS
open PySem L2 PySem.NumText
theorem boot_min' : bootBuiltins "min" = some (.builtin "min") := by decide +kernel
theorem boot_repr' : bootBuiltins "repr" = some (.builtin "repr") := by decide +kernel
/-! ### promises for whatever columns there are -/
def spFoundU (K : PySem.W.Frag) : Sp := fun vs H Q E => ∃ cols vars, (KdOk cols ∧ KdOk vars) ∧ spFound K cols vars vs H Q E
def spTreeU (K : PySem.W.Frag) : Sp := fun vs H Q E => ∃ cols vars, (KdW cols ∧ cols.length ≤ 1000) ∧ spTree K cols vars 5 vs H Q E
def spWVU (K : PySem.W.Frag) : Sp := fun vs H Q E => ∃ cols vars names, NmOk cols vars names ∧ spWV K cols vars names 6 vs H Q E
def spLKU (K : PySem.W.Frag) : Sp := fun vs H Q E => ∃ cols vars, True ∧ spLK K cols vars 30 vs H Q E
def spKindU (K : PySem.W.Frag) (CB : Addr) : Sp := fun vs H Q E => ∃ cols vars, (KdOk cols ∧ KdOk vars) ∧ spKindOf K CB cols vars vs H Q E
theorem passE0 {X : Cx} : Passes (L2.CX X.prog X.w) X E0 := fun _ _ _ _ _ _ _ h => by
  obtain ⟨_, _, _, _, _, _, _, _, _, _, _, _, hE⟩ := h
  exact hE.elim
/-- what stands while one turn goes on -/
structure Sit (cols names vars : Kinds) (ca na va pl : Addr) (H : Hp) : Prop where
  col : H ca = some (.dK (kdKV cols))
  nam : H na = some (.dK (kdKV names))
  var : H va = some (.dK (kdKV vars))
  pl : PlaceAt cols vars H pl
theorem Sit.same {cols names vars : Kinds} {ca na va pl : Addr} {H H' : Hp} (h : Sit cols names vars ca na va pl H) (s : Same H H') : Sit cols names vars ca na va pl H' := ⟨s _ _ h.col, s _ _ h.nam, s _ _ h.var, h.pl.same s⟩
theorem kd_ne_pen {H : Hp} {b d c : Addr} {ns : List Int} {a : Nat} {r : Int} {l : Kinds} (hp : PenAt H d c ns a r) (e : H b = some (.dK (kdKV l))) : b ≠ d := fun z => by
  subst z
  rw [hp.dict] at e
  injection e with e
  injection e with e
  exact pen_ne_kd e
theorem Sit.sb {cols names vars : Kinds} {ca na va pl d c : Addr} {H H' : Hp} {ns : List Int} {a : Nat} {r : Int} (h : Sit cols names vars ca na va pl H) (hp : PenAt H d c ns a r) (s : Sb d H H') : Sit cols names vars ca na va pl H' :=
  ⟨s _ _ h.col (kd_ne_pen hp h.col), s _ _ h.nam (kd_ne_pen hp h.nam), s _ _ h.var (kd_ne_pen hp h.var), h.pl.sb hp s⟩
theorem kv_strs (ws : List Str) : (ws.map (Sum.inr (α := Int))).map kV = ws.map V.str := by simp [kV]
theorem resD_in {k : Str} {r : Res7} (h : OkK r k) : ([PyData.tuple [.str "", .str k], .tuple [.str "", .none]].any fun z => PyData.eqv z (resD r)) = true := by
  rcases h with h | h
  · rw [h]
    simp only [resD, kdD, List.any_cons, List.any_nil, PyData.eqv, PyData.eqvAll]
    simp
  · rw [h]
    simp only [resD, kdD, List.any_cons, List.any_nil, PyData.eqv, PyData.eqvAll]
    simp
section
variable {P : Program} {w : World} {K : PySem.W.Frag} {mg : Str → Option Value} {base : Heap} {CB : Addr}
abbrev sLaw7 : Stmt := top 84
theorem scLaw7 : FnScope ["_law_script", "_law_pen_here", "_law_turn", "_law_words_here", "_law_columns", "_law_names", "_law_variables", "_law_place", "_law_kind_here", "_law_e", "_law_again", "_law_bent_here", "_law_some", "_law_word"] ["_law_script"] (defScope sLaw7) := ⟨rfl, rfl, rfl, by decide +kernel, rfl, by decide +kernel, by decide +kernel⟩
theorem law_body {f : Addr} {cdv : Value} {s : Shared} {H : Hp} {a : Addr} {ns : List Int} (B : Bn7 mg)
    (D1 : Cal P w K mg base CX0 1 "_law_pen" ["_law_script"] [] (spPen K)) (D2 : Cal P w K mg base CX0 3 "_law_words" ["_law_pen_here", "_law_many"] [] spWords) (D3 : Cal P w K mg base CX0 2 "_law_shuffled" ["_law_pen_here", "_law_items"] [] (spShuf K)) (D4 : Cal P w K mg base CX0 2 "_law_pick" ["_law_pen_here", "_law_items"] [] spPick) (D5 : Cal P w K mg base CX0 1 "_law_draw" ["_law_pen_here", "_law_many"] [] spDraw)
    (D6 : Cal P w K mg base CX0 15 "_law_tree" ["_law_pen_here", "_law_kind_here", "_law_deep", "_law_place"] [] (spTreeU K)) (D7 : Cal P w K mg base CX0 8 "_law_with_variables" ["_law_pen_here", "_law_e", "_law_names"] [] (spWVU K)) (D8 : Cal P w K mg base CX0 41 "_law_found" ["_law_e", "_law_columns", "_law_variables"] [] (spFoundU K)) (D9 : Cal P w K mg base CX0 14 "_law_bent" ["_law_pen_here", "_law_e"] [] (spBent K 8))
    (DA : Cal P w K mg base CX0 34 "_law_kind" ["_law_e", "_law_place", "_law_path"] [] (spLKU K)) (DB : Cal P w K mg base (L2.CX P w) 40 "kind_of" ["e", "columns", "variables"] [] (spKindU K CB))
    (h63 : ns.length ≤ 63) (hS : SqL K H a (ns.map V.int)) (hr : Room 41 (callerA.deeper (PyProof.Rows.envOfC "law" (defScope sLaw7) s.heap.objs.size f cdv))) :
    ∃ t, PSs (cxOf CX0 P w K mg base ["_law_script", "_law_pen_here", "_law_turn", "_law_words_here", "_law_columns", "_law_names", "_law_variables", "_law_place", "_law_kind_here", "_law_e", "_law_again", "_law_bent_here", "_law_some", "_law_word"] "law" (defScope sLaw7) f cdv callerA [] s H E0).nox (defBody sLaw7) t ∧
      t { nx := fun _ _ => False, rt := fun v _ => v = .bl true } (L2.start ["_law_script", "_law_pen_here", "_law_turn", "_law_words_here", "_law_columns", "_law_names", "_law_variables", "_law_place", "_law_kind_here", "_law_e", "_law_again", "_law_bent_here", "_law_some", "_law_word"] [.ref a]) H := by
  obtain ⟨f1, fd1, ds1, e1, k1, v1, b1, G1⟩ := D1.ex
  obtain ⟨f2, fd2, ds2, e2, k2, v2, b2, G2⟩ := D2.ex
  obtain ⟨f3, fd3, ds3, e3, k3, v3, b3, G3⟩ := D3.ex
  obtain ⟨f4, fd4, ds4, e4, k4, v4, b4, G4⟩ := D4.ex
  obtain ⟨f5, fd5, ds5, e5, k5, v5, b5, G5⟩ := D5.ex
  obtain ⟨f6, fd6, ds6, e6, k6, v6, b6, G6⟩ := D6.ex
  obtain ⟨f7, fd7, ds7, e7, k7, v7, b7, G7⟩ := D7.ex
  obtain ⟨f8, fd8, ds8, e8, k8, v8, b8, G8⟩ := D8.ex
  obtain ⟨f9, fd9, ds9, e9, k9, v9, b9, G9⟩ := D9.ex
  obtain ⟨fA, fdA, dsA, eA, kA, vA, bA, GA⟩ := DA.ex
  obtain ⟨fB, fdB, dsB, eB, kB, vB, bB, GB⟩ := DB.ex
  have hu : (callerA.deeper (PyProof.Rows.envOfC "law" (defScope sLaw7) s.heap.objs.size f cdv)).units + 64 < cLine := hr.units
  have hu1 : (callerA.deeper (PyProof.Rows.envOfC "law" (defScope sLaw7) s.heap.objs.size f cdv)).units + 1 < cLine := by omega
  have hu31 : (callerA.deeper (PyProof.Rows.envOfC "law" (defScope sLaw7) s.heap.objs.size f cdv)).units + (30 + 1) < cLine := by omega
  have hu65 : (callerA.deeper (PyProof.Rows.envOfC "law" (defScope sLaw7) s.heap.objs.size f cdv)).units + 65 < cLine := by have := hr.un; omega
  refine ⟨_, (pss_cons (ps_set (i := 1) scLaw7.nd rfl (Or.inl rfl) (pe_call G1 (hr.mono (by omega)) rfl e1 k1 b1 v1 pass0 (pa_cons (pv 0) pa_nil)))
      (pss_cons (ps_for PassesOwn.never rfl (pi_range1 (by rfl) B.range (pa_cons (pe_op op_add pe_int (pe_callB (call_min2 rfl) (by rfl) B.min boot_min' (pa_cons pe_int (pa_cons (pe_callB call_len_seq (by rfl) B.len PySem.boot_len (pa_cons (pv 0) pa_nil)) pa_nil)))) pa_nil)) (pg_name (i := 2) scLaw7.nd rfl (Or.inl rfl))
          (pss_cons (ps_set (i := 3) scLaw7.nd rfl (Or.inl rfl) (pe_call G2 (hr.mono (by omega)) rfl e2 k2 b2 v2 pass0 (pa_cons (pv 1) (pa_cons pe_int pa_nil))))
          (pss_cons (ps_if (pt_cmpR (op_neD hu) (pe_lc (own := [("_law_word", 13)]) (g := gName 13) (tt := tTest (tInS ["number", "count", "field", "call", "sum", "least", "most"] (tVar 13))) rfl scLaw7.nd (pi_list (pv 3)) (blkOk_by (N := ["_law_script", "_law_pen_here", "_law_turn", "_law_words_here", "_law_columns", "_law_names", "_law_variables", "_law_place", "_law_kind_here", "_law_e", "_law_again", "_law_bent_here", "_law_some", "_law_word"]) (sc := defScope sLaw7) (by decide +kernel)) (fun _ _ _ _ _ => (pg_name (i := 13) scLaw7.nd rfl (Or.inl rfl))) (fun _ _ _ _ _ => pts_one (pt_inS (pv 13) (pa_s (pa_s (pa_s (pa_s (pa_s (pa_s (pa_s pa_s0))))))))) (fun _ _ _ _ _ => (pv 13))) (pe_lst pa_nil) (nomark _)) (pss_one ps_continue) pss_nil)
          (pss_cons (ps_set (i := 4) scLaw7.nd rfl (Or.inr rfl) (pe_dictZip (by rfl) B.dict (by rfl) B.zip (pa_cons (pe_slice sl_list (pv 3) po_none (po_some pe_int)) (pa_cons (pe_lst (pa_cons pe_str (pa_cons pe_str (pa_cons pe_str (pa_cons pe_str (pa_cons pe_str (pa_cons pe_str pa_nil))))))) pa_nil))))
          (pss_cons (ps_set (i := 5) scLaw7.nd rfl (Or.inr rfl) (pe_dictZip (by rfl) B.dict (by rfl) B.zip (pa_cons (pe_slice sl_list (pv 3) po_none (po_some pe_int)) (pa_cons (pe_slice sl_list (pv 3) (po_some pe_int) po_none) pa_nil))))
          (pss_cons (ps_set (i := 6) scLaw7.nd rfl (Or.inl rfl) (pe_callTy (call_dictP rfl) (by rfl) B.dict PyProof.Rows.boot_dict (pa_cons (pe_lc (own := [("_law_word", 13)]) (g := gName 13) (tt := tYes) rfl scLaw7.nd (pi_list (pe_call G3 (hr.mono (by omega)) rfl e3 k3 b3 v3 pass0 (pa_cons (pv 1) (pa_cons (pe_slice sl_list (pv 3) po_none (po_some pe_int)) pa_nil)))) (blkOk_by (N := ["_law_script", "_law_pen_here", "_law_turn", "_law_words_here", "_law_columns", "_law_names", "_law_variables", "_law_place", "_law_kind_here", "_law_e", "_law_again", "_law_bent_here", "_law_some", "_law_word"]) (sc := defScope sLaw7) (by decide +kernel)) (fun _ _ _ _ _ => (pg_name (i := 13) scLaw7.nd rfl (Or.inl rfl))) (fun _ _ _ _ _ => pts_nil) (fun _ _ _ _ _ => (pe_tup (pa_cons (pe_dget hu1 (pv 5) (pv 13) (fun _ _ => rfl)) (pa_cons (pe_dget hu1 (pv 4) (pv 13) (fun _ _ => rfl)) pa_nil))))) pa_nil)))
          (pss_cons (ps_set (i := 7) scLaw7.nd rfl (Or.inl rfl) (pe_disp (L2.pps_cons pe_str (pv 4) (L2.pps_cons pe_str pe_dnewK (L2.pps_cons pe_str (pv 4) (L2.pps_cons pe_str (pv 6) (L2.pps_cons pe_str pe_dnewK (L2.pps_cons pe_str (pe_lst pa_nil) L2.pps_nil)))))) (by rfl) (by rfl) (fun z => by cases z) (by decide)))
          (pss_cons (ps_set (i := 8) scLaw7.nd rfl (Or.inl rfl) (pe_call G4 (hr.mono (by omega)) rfl e4 k4 b4 v4 pass0 (pa_cons (pv 1) (pa_cons (pe_lst (pa_cons pe_str (pa_cons pe_str (pa_cons pe_str pa_nil)))) pa_nil))))
          (pss_cons (ps_set (i := 9) scLaw7.nd rfl (Or.inl rfl) (pe_call G7 (hr.mono (by omega)) rfl e7 k7 b7 v7 pass0 (pa_cons (pv 1) (pa_cons (pe_call G6 (hr.mono (by omega)) rfl e6 k6 b6 v6 pass0 (pa_cons (pv 1) (pa_cons (pv 8) (pa_cons (pe_call G5 (hr.mono (by omega)) rfl e5 k5 b5 v5 pass0 (pa_cons (pv 1) (pa_cons pe_int pa_nil))) (pa_cons (pv 7) pa_nil))))) (pa_cons (pv 5) pa_nil)))))
          (pss_cons (ps_if (pt_cmpR (op_notInD hu65) (pe_call G8 (hr.mono (by omega)) rfl e8 k8 b8 v8 pass0 (pa_cons (pv 9) (pa_cons (pv 4) (pa_cons (pv 6) pa_nil)))) (pe_lst (pa_cons (pe_tup (pa_cons pe_str (pa_cons (pv 8) pa_nil))) (pa_cons (pe_tup (pa_cons pe_str (pa_cons pe_non pa_nil))) pa_nil))) (by rfl)) (pss_one (ps_ret pe_bl)) pss_nil)
          (pss_one (ps_for PassesOwn.never rfl (pi_range1 (by rfl) B.range (pa_cons pe_int pa_nil)) (pg_name (i := 10) scLaw7.nd rfl (Or.inl rfl))
            (pss_cons (ps_set (i := 11) scLaw7.nd rfl (Or.inl rfl) (pe_call G9 (hr.mono (by omega)) rfl e9 k9 b9 v9 pass0 (pa_cons (pv 1) (pa_cons (pv 9) pa_nil))))
            (pss_cons (ps_set (i := 12) scLaw7.nd rfl (Or.inl rfl) (pe_ifExp (pt_cmpR op_gt (pe_call G5 (hr.mono (by omega)) rfl e5 k5 b5 v5 pass0 (pa_cons (pv 1) (pa_cons pe_int pa_nil))) pe_int (nomark _)) (pv 11) (pe_call G9 (hr.mono (by omega)) rfl e9 k9 b9 v9 pass0 (pa_cons (pv 1) (pa_cons (pv 11) pa_nil)))))
            (pss_cons (ps_if (pt_cmpR op_ne (pe_callB (call_reprD (n := 30) (by rfl) hu31) (by rfl) B.repr boot_repr' (pa_cons (pe_call G8 (hr.mono (by omega)) rfl e8 k8 b8 v8 pass0 (pa_cons (pv 12) (pa_cons (pv 4) (pa_cons (pv 6) pa_nil)))) pa_nil)) (pe_callB (call_reprD (n := 30) (by rfl) hu31) (by rfl) B.repr boot_repr' (pa_cons (pe_call GA (hr.mono (by omega)) rfl eA kA bA vA pass0 (pa_cons (pv 12) (pa_cons (pv 7) (pa_cons (pe_tup pa_nil) pa_nil)))) pa_nil)) (nomark _)) (pss_one (ps_ret pe_bl)) pss_nil)
            (pss_one (ps_if (pt_cmpR op_ne (pe_callB (call_reprD (n := 30) (by rfl) hu31) (by rfl) B.repr boot_repr' (pa_cons (pe_call G8 (hr.mono (by omega)) rfl e8 k8 b8 v8 pass0 (pa_cons (pv 9) (pa_cons (pv 4) (pa_cons (pv 6) pa_nil)))) pa_nil)) (pe_callB (call_reprD (n := 30) (by rfl) hu31) (by rfl) B.repr boot_repr' (pa_cons (pe_call GA (hr.mono (by omega)) rfl eA kA bA vA pass0 (pa_cons (pv 9) (pa_cons (pv 7) (pa_cons (pe_tup pa_nil) pa_nil)))) pa_nil)) (nomark _)) (pss_one (ps_ret pe_bl)) pss_nil)))))))))))))))))
      (pss_one (ps_ret (pe_cmp (pc_isN (pe_call GB (hr.mono (by omega)) rfl eB kB bB vB passE0 (pa_cons (pe_tup (pa_cons pe_str (pa_cons pe_non pa_nil))) (pa_cons pe_dnewK (pa_cons pe_dnewK pa_nil)))))))))), ?_⟩
  refine ⟨_, rfl, a, ns, rfl, hS, h63, fun d c H1 sm1 p1 => ?_⟩
  have hS1 := sm1.seq hS
  refine ⟨_, rfl, a, _, rfl, .inl hS1, _, _, rfl, _, _, rfl, rfl, _, rfl, ?_, ?_, ?_⟩
  · split <;> omega
  · split <;> omega
  generalize hN : (6 + (if (((ns.map V.int).length : Nat) : Int) < 4 then (((ns.map V.int).length : Nat) : Int) else 4)).toNat = N
  have hN10 : N ≤ 10 := by rw [← hN]; split <;> omega
  refine for_it (walk_range (lo := 0) (n := N)) (fun i σ H' => ∃ a' r' y2 y3 y4 y5 y6 y7 y8 y9 y10 y11 y12 y13, σ = [some (.ref a), some (.ref d), y2, y3, y4, y5, y6, y7, y8, y9, y10, y11, y12, y13] ∧ a' ≤ i * 10000 ∧ PenAt H' d c ns a' r')
    ⟨0, 0, none, none, none, none, none, none, none, none, none, none, none, none, rfl, by omega, p1⟩ (fun _ _ _ _ _ => trivial) ?_ ?_
  · rintro i x σ H2 H2' hi ⟨a2, r2, y2, y3, y4, y5, y6, y7, y8, y9, y10, y11, y12, y13, rfl, ha2, p2⟩ ⟨rfl, rfl⟩
    have hi9 : i ≤ 9 := by omega
    refine ⟨_, rfl, d, c, ns, a2, r2, rfl, p2, by omega, fun W ws a3 r3 H3 hl hn hw fW mW ha3 sb3 p3 => ?_⟩
    -- the words that are none
    refine ⟨_, rfl, W, rfl, ⟨_, SqL.of mW⟩, fun D hD => ?_⟩
    refine lc_it (walk_list (a := W) (xs := ws.map V.str)) (fun j H' => ∃ us : List Str, us.length ≤ j ∧ (∀ x ∈ us, x ∈ ws) ∧ Same H3 H' ∧ H' D = some (.lst (us.map V.str)))
      ⟨[], by simp, by simp, same_new hD _, upd_same⟩ (fun j H' _ h => by obtain ⟨_, _, _, sm, _⟩ := h; exact SqL.of (sm _ _ mW)) ?_ ?_
    · rintro j x H4 H4' hj ⟨us, hul, hus, s4, hd4⟩ ⟨rfl, hx⟩
      rw [List.getElem?_map] at hx
      obtain ⟨wd, ew, rfl⟩ : ∃ wd, ws[j]? = some wd ∧ x = .str wd := by
        cases e : ws[j]? with
        | none => rw [e] at hx; cases hx
        | some wd => rw [e] at hx; exact ⟨wd, rfl, by simpa using hx.symm⟩
      refine ⟨rfl, _, rfl, wd, rfl, fun H5 s5 => ⟨_, rfl, ite2 (fun _ => ?_) (fun _ => ?_)⟩⟩
      · refine ⟨_, rfl, _, s5 _ _ hd4, small' (by rw [List.length_map]; rw [List.length_map, hl] at hj; omega), us ++ [wd], by simp; omega, ?_, same_put (s4.trans s5) hD _, by rw [upd_same]; simp⟩
        intro y hy
        rcases List.mem_append.mp hy with hy | hy
        · exact hus y hy
        · simp only [List.mem_singleton] at hy; subst hy; exact List.mem_of_getElem? ew
      · exact ⟨us, by omega, hus, s4.trans s5, s5 _ _ hd4⟩
    · rintro H4 ⟨us, hul, hus, s4, hd4⟩
      refine ⟨Nat.zero_le _, fun z hz => ?_⟩
      have s5 := same_new hz (.lst [])
      refine ⟨.list (us.map .str), .list [], .lst (SqL.of (s5 _ _ hd4)) (dp_strs us), .lst (SqL.of upd_same) .nil, shaped_strs (fun x hx => hw x (hus x hx)), rfl, _, rfl, ?_⟩
      have p5 := pen_same p3 (s4.trans s5)
      have mW5 := (s4.trans s5) _ _ mW
      refine ite2 (fun _ => ?_) (fun _ => ?_)
      · exact ⟨a3, r3, _, _, _, _, _, _, _, _, _, _, _, _, rfl, by omega, p5⟩
      generalize upd H4 z (.lst []) = H5 at p5 mW5
      have D0 := dicts_of hl hn hw (List.Perm.refl (ws.take 6))
      have l6 : (ws.take 6).length = 6 := by rw [List.length_take, hl]; rfl
      have r6 : (ws.drop 6).length = 6 := by rw [List.length_drop, hl]
      have c6 : cutV (ws.map V.str) none (some 6) = (ws.take 6).map V.str := by rw [show (6 : Int) = ((6 : Nat) : Int) from rfl, cutV_take, List.map_take]
      have d6 : cutV (ws.map V.str) (some 6) none = (ws.drop 6).map V.str := by rw [show (6 : Int) = ((6 : Nat) : Int) from rfl, cutV_drop, List.map_drop]
      -- columns
      refine ⟨_, rfl, _, rfl, W, _, rfl, SqL.of mW5, fun l1 hl1 => ?_⟩
      rw [c6]
      have s6 := same_new hl1 (.lst ((ws.take 6).map V.str))
      refine ⟨(by show 6 ≤ sizeLine; decide), fun l2 hl2 => ?_⟩
      have s7 := same_new hl2 (.lst [.str "int", .str "int", .str "text", .str "text", .str "truth", .str "truth"])
      refine ⟨l1, l2, (ws.take 6).map Sum.inr, kinds6.map V.str, rfl, by rw [kv_strs]; exact SqL.of (s7 _ _ upd_same), SqL.of upd_same, by rw [List.length_map, List.length_map, l6]; rfl, fun ca hca => ?_⟩
      rw [zip_kd, merge_kd D0.colN]
      have s8 := same_new hca (.dK (kdKV ((ws.take 6).zip kinds6)))
      have mca : (upd (upd (upd H5 l1 (.lst ((ws.take 6).map V.str))) l2 (.lst [.str "int", .str "int", .str "text", .str "text", .str "truth", .str "truth"])) ca (.dK (kdKV ((ws.take 6).zip kinds6)))) ca = some (.dK (kdKV ((ws.take 6).zip kinds6))) := upd_same
      have s58 := s6.trans (s7.trans s8)
      generalize hH8 : upd (upd (upd H5 l1 (.lst ((ws.take 6).map V.str))) l2 (.lst [.str "int", .str "int", .str "text", .str "text", .str "truth", .str "truth"])) ca (.dK (kdKV ((ws.take 6).zip kinds6))) = H8 at mca s58
      have mW8 := s58 _ _ mW5
      have p8 := pen_same p5 s58
      -- names
      refine ⟨_, rfl, _, rfl, W, _, rfl, SqL.of mW8, fun l3 hl3 => ?_⟩
      rw [c6]
      have s9 := same_new hl3 (.lst ((ws.take 6).map V.str))
      refine ⟨_, rfl, _, rfl, ?_⟩
      dsimp only [tNoPart]
      refine ⟨W, _, rfl, SqL.of (s9 _ _ mW8), fun l4 hl4 => ?_⟩
      rw [d6]
      have s10 := same_new hl4 (.lst ((ws.drop 6).map V.str))
      refine ⟨l3, l4, (ws.take 6).map Sum.inr, (ws.drop 6).map V.str, rfl, by rw [kv_strs]; exact SqL.of (s10 _ _ upd_same), SqL.of upd_same, by rw [List.length_map, List.length_map, l6, r6], fun na hna => ?_⟩
      rw [zip_kd, merge_kd D0.namN]
      have s11 := same_new hna (.dK (kdKV ((ws.take 6).zip (ws.drop 6))))
      have mna : (upd (upd (upd H8 l3 (.lst ((ws.take 6).map V.str))) l4 (.lst ((ws.drop 6).map V.str))) na (.dK (kdKV ((ws.take 6).zip (ws.drop 6))))) na = some (.dK (kdKV ((ws.take 6).zip (ws.drop 6)))) := upd_same
      have s811 := s9.trans (s10.trans s11)
      generalize hH11 : upd (upd (upd H8 l3 (.lst ((ws.take 6).map V.str))) l4 (.lst ((ws.drop 6).map V.str))) na (.dK (kdKV ((ws.take 6).zip (ws.drop 6)))) = H11 at mna s811
      have mW11 := s811 _ _ mW8
      have mca11 := s811 _ _ mca
      have p11 := pen_same p8 s811
      -- variables
      refine ⟨_, rfl, _, rfl, _, rfl, W, _, rfl, SqL.of mW11, fun l5 hl5 => ?_⟩
      rw [c6]
      have s12 := same_new hl5 (.lst ((ws.take 6).map V.str))
      have p12 := pen_same p11 s12
      refine ⟨d, c, ns, a3, r3, l5, ws.take 6, rfl, p12, by omega, SqL.of upd_same, by omega, fun x hx => hw x (List.mem_of_mem_take hx), fun Ds us a4 r4 H13 hperm _ mDs ha4 sb13 p13 => ⟨Ds, rfl, ⟨_, SqL.of mDs⟩, fun D2 hD2 => ?_⟩⟩
      have DD := dicts_of hl hn hw hperm
      have mca13 := sb13 _ _ (s12 _ _ mca11) (kd_ne_pen p12 (s12 _ _ mca11))
      have mna13 := sb13 _ _ (s12 _ _ mna) (kd_ne_pen p12 (s12 _ _ mna))
      have hul : us.length = 6 := by rw [hperm.length_eq, l6]
      generalize hcols : (ws.take 6).zip kinds6 = cols at DD mca13
      generalize hnames : (ws.take 6).zip (ws.drop 6) = names at DD mna13
      generalize hvars : (us.map fun x => (nmOf names x, nmOf cols x)) = vars at DD
      refine lc_it (walk_list (a := Ds) (xs := us.map V.str)) (fun j H' => ∃ ps : List Addr, ps.length = j ∧ Same H13 H' ∧ H' D2 = some (.lst (ps.map V.ref)) ∧ Paired (fun p kv => SqT K H' p [kV kv.1, kv.2]) ps ((kdKV vars).take j))
        ⟨[], rfl, same_new hD2 _, upd_same, .nil⟩ (fun j H' _ h => by obtain ⟨_, _, sm, _⟩ := h; exact SqL.of (sm _ _ mDs)) ?_ ?_
      · rintro j x H14 H14' hj ⟨ps, hpl, s14, hd14, hpr⟩ ⟨rfl, hx⟩
        rw [List.getElem?_map] at hx
        obtain ⟨wd, ew, rfl⟩ : ∃ wd, us[j]? = some wd ∧ x = .str wd := by
          cases e : us[j]? with
          | none => rw [e] at hx; cases hx
          | some wd => rw [e] at hx; exact ⟨wd, rfl, by simpa using hx.symm⟩
        have hwd : wd ∈ ws.take 6 := hperm.mem_iff.mp (List.mem_of_getElem? ew)
        obtain ⟨kk, ekk⟩ : ∃ kk, cols.lookup wd = some kk := by
          have : wd ∈ cols.map (·.1) := by rw [← hcols, zip_fst (by rw [l6]; rfl)]; exact hwd
          obtain ⟨e, he, e1⟩ := List.mem_map.mp this
          rw [← e1]
          exact look_some (show (e.1, e.2) ∈ cols from he)
        obtain ⟨yy, eyy, _, _⟩ := DD.nm wd kk ekk
        have g1 := kd_get (s14 _ _ mna13) wd
        have g2 := kd_get (s14 _ _ mca13) wd
        rw [eyy] at g1
        rw [ekk] at g2
        refine ⟨rfl, _, rfl, _, rfl, na, _, rfl, g1, _, rfl, _, rfl, ca, _, rfl, g2, (by show 2 ≤ sizeLine; decide), fun tp htp => ?_⟩
        have s15 := same_new htp (.tup [.str yy, .str kk])
        have hd15 := s15 _ _ hd14
        have nT : ∀ ys, (upd H14' tp (.tup [.str yy, .str kk])) D2 ≠ some (.tup ys) := fun ys e => by rw [hd15] at e; cases e
        have nF : ∀ o ys, (upd H14' tp (.tup [.str yy, .str kk])) D2 ≠ some (.frz o (.tup ys)) := fun o ys e => by rw [hd15] at e; cases e
        refine ⟨_, hd15, small' (by rw [List.length_map]; rw [List.length_map, hul] at hj; omega), ps ++ [tp], by simp [hpl], same_put (s14.trans s15) hD2 _, by rw [upd_same]; simp, ?_⟩
        have ej : (kdKV vars)[j]? = some (Sum.inr yy, .str kk) := by
          unfold kdKV
          rw [← hvars, List.getElem?_map, List.getElem?_map, ew]
          simp [nmOf, eyy, ekk]
        rw [List.take_add_one, ej]
        refine paired_snoc (paired_imp (fun p kv h => sqT_sb (sb_upd _) nT nF (sqT_same s15 h)) hpr) ?_
        exact sqT_sb (sb_upd _) nT nF (SqT.of upd_same)
      · rintro H14 ⟨ps, hpl, s14, hd14, hpr⟩
        have hlv : (us.map V.str).length = (kdKV vars).length := by
          unfold kdKV
          rw [← hvars, List.length_map, List.length_map, List.length_map]
        rw [hlv, List.take_length] at hpr
        refine ⟨D2, ps, kdKV vars, rfl, SqL.of hd14, hpr, fun va hva => ?_⟩
        rw [merge_kd DD.varN]
        have s16 := same_new hva (.dK (kdKV vars))
        have mva : (upd H14 va (.dK (kdKV vars))) va = some (.dK (kdKV vars)) := upd_same
        have s1316 := s14.trans s16
        generalize upd H14 va (.dK (kdKV vars)) = H16 at mva s1316
        have p16 := pen_same p13 s1316
        have mca16 := s1316 _ _ mca13
        have mna16 := s1316 _ _ mna13
        -- the place
        intro pl hpl2
        have s17 := same_new hpl2 (.dK [])
        refine ⟨_, rfl, fun sh hsh => ⟨_, rfl, _, rfl, fun ta hta => ⟨Nat.zero_le _, fun sq hsq => ?_⟩⟩⟩
        have s18 := same_new hsh (.dK [])
        have s19 := same_new hta (.dK [])
        have s20 := same_new hsq (.lst [])
        have n1 : pl ≠ sh := ne_of_none upd_same hsh
        have n2 : pl ≠ ta := ne_of_none (s18 _ _ upd_same) hta
        have n3 : pl ≠ sq := ne_of_none ((s18.trans s19) _ _ upd_same) hsq
        refine ⟨(s18.trans (s19.trans s20)) _ _ upd_same, placeK ca sh ca va ta sq, rfl, by show 6 ≤ 15; decide, ?_⟩
        rw [show mergeK [] (placeK ca sh ca va ta sq) = placeK ca sh ca va ta sq from rfl]
        have k1 := (s19.trans s20) _ _ (upd_same : (upd _ sh (.dK [])) sh = _)
        have k2 := s20 _ _ (upd_same : (upd _ ta (.dK [])) ta = _)
        generalize hH21 : upd _ pl (.dK (placeK ca sh ca va ta sq)) = H21
        have s1621 : Same H16 H21 := by rw [← hH21]; exact same_put (s17.trans (s18.trans (s19.trans s20))) hpl2 _
        have st : Sit cols names vars ca na va pl H21 := by
          refine ⟨s1621 _ _ mca16, s1621 _ _ mna16, s1621 _ _ mva, ca, sh, ca, va, ta, sq, ?_, s1621 _ _ mca16, ?_, s1621 _ _ mca16, s1621 _ _ mva, ?_, ?_⟩
          · rw [← hH21]; exact upd_same
          · rw [← hH21, upd_ne n1.symm]; exact k1
          · rw [← hH21, upd_ne n2.symm]; exact k2
          · rw [← hH21, upd_ne n3.symm]; exact upd_same
        have p21 := pen_same p16 s1621
        clear hH21 hpl2 hsh hta hsq
        -- the kind
        refine ⟨_, rfl, (by show 3 ≤ sizeLine; decide), fun l7 hl7 => ?_⟩
        have s22 := same_new hl7 (.lst (kindsL.map V.str))
        have p22 := pen_same p21 s22
        refine ⟨d, c, ns, a4, r4, _, rfl, p22, by omega, .inr ⟨l7, kindsL.map V.str, rfl, upd_same, by simp [kindsL], by show 3 ≤ 1000; decide, fun v hv a5 r5 H23 ha5 sb23 p23 => ?_⟩⟩
        obtain ⟨kd, hkd, rfl⟩ := List.mem_map.mp hv
        have st23 := (st.same s22).sb p22 sb23
        -- the tree
        refine ⟨_, rfl, _, rfl, _, rfl, _, rfl, d, c, ns, a5, r5, _, rfl, p23, by omega, by decide, by decide, fun m a6 r6 H24 m0 m1 ha6 sb24 p24 => ?_⟩
        obtain ⟨m, rfl⟩ := Int.eq_ofNat_of_zero_le m0
        have hm5 : m < 5 := by omega
        have hWC : Wt m ≤ 1772 ∧ Ct m ≤ 323 := by
          have : ∀ m < 5, Wt m ≤ 1772 ∧ Ct m ≤ 323 := by decide
          exact this m hm5
        have st24 := st23.sb p23 sb24
        refine ⟨_, rfl, cols, vars, ⟨DD.colW, by rw [DD.len]; decide⟩, d, c, ns, a6, r6, kd, m, pl, rfl, hm5, hkd, p24, by omega, st24.pl, fun v t a7 r7 H25 hv25 g25 ha7 sb25 p25 => ?_⟩
        have st25 := st24.sb p24 sb25
        have h25 := g25.hgt
        have c25 := g25.cnt
        refine ⟨_, rfl, cols, vars, names, DD.nm, d, c, ns, a7, r7, v, t, na, rfl, hv25, (gen_gs g25.gen).1, .inr ⟨kd, g25.gen⟩, by omega, by omega, st25.nam, p25, by omega, fun ev t' a8 r8 H26 he ge wvd ha8 sb26 p26 => ?_⟩
        have st26 := st25.sb p25 sb26
        have gen' := wvd.gen kd g25.gen
        have te := short_txts _ (gen_gs gen').2
        have he6 : hgt t' ≤ 6 := by rw [wvd.hgt]; omega
        have ce6 : cnt t' ≤ 323 := by rw [wvd.cnt]; omega
        -- it has its kind
        refine ⟨_, rfl, _, rfl, _, rfl, cols, vars, ⟨DD.colK, DD.varK⟩, ev, t', ca, va, rfl, he, ge, (gen_gs gen').2, by omega, by omega, st26.col, st26.var, fun x H27 s27 hx => ?_⟩
        refine ⟨_, rfl, (by show 2 ≤ sizeLine; decide), fun t1 ht1 => ⟨(by show 2 ≤ sizeLine; decide), fun t2 ht2 => ⟨(by show 2 ≤ sizeLine; decide), fun l8 hl8 => ?_⟩⟩⟩
        have s28 := same_new ht1 (.tup [.str "", .str kd])
        have s29 := same_new ht2 (.tup [.str "", .non])
        have s30 := same_new hl8 (.lst [.ref t1, .ref t2])
        have rok := res_ok DD.colK DD.varK t'
        have gl : goodAll [PyData.tuple [.str "", .str kd], .tuple [.str "", .none]] := by
          simp only [goodAll, good]
          exact ⟨⟨says0.1, (kinds_sgn kd hkd).1, trivial⟩, ⟨says0.1, trivial, trivial⟩, trivial⟩
        have shL : SeqAt.shaped (.list [PyData.tuple [.str "", .str kd], .tuple [.str "", .none]]) = true := by
          have h1 := lay_goodAll _ gl
          simp only [SeqAt.shaped, PyData.canLay0, h1, Bool.true_and]
          simp only [PyData.depth, PyData.depthAll]
          rfl
        refine ⟨resD (lookM cols vars 30 t' []), [PyData.tuple [.str "", .str kd], .tuple [.str "", .none]], dp_same (s28.trans (s29.trans s30)) _ _ hx, .lst (SqL.of upd_same) (.cons (dp_same (s29.trans s30) _ _ (dp_two upd_same (.str kd))) (.cons (dp_same s30 _ _ (dp_two upd_same .non)) .nil)), shaped_good rok.1 (by have := rok.2.2.1; omega), shL, _, rfl, ?_⟩
        rw [resD_in (gen_ok gen' 30 [] (by omega))]
        refine iteF ?_
        have s2630 := s27.trans (s28.trans (s29.trans s30))
        have st30 := st26.same s2630
        have p30' := pen_same p26 s2630
        have he30 := dp_same s2630 _ _ he
        generalize upd (upd (upd H27 t1 (.tup [.str "", .str kd])) t2 (.tup [.str "", .non])) l8 (.lst [.ref t1, .ref t2]) = H30 at st30 p30' he30
        -- six times bent
        refine ⟨(6 : Int), rfl, by decide, by decide, ?_⟩
        refine for_it (walk_range (lo := 0) (n := (6 : Int).toNat)) (fun j σ H' => ∃ a' r' y10 y11 y12, σ = [some (.ref a), some (.ref d), some (.int (0 + (i : Int))), some (.ref W), some (.ref ca), some (.ref na), some (.ref va), some (.ref pl), some (.str kd), some ev, y10, y11, y12, y13] ∧ a' ≤ a8 + j * 200 ∧ Sit cols names vars ca na va pl H' ∧ Dp K H' ev t' ∧ PenAt H' d c ns a' r')
          ⟨a8, r8, y10, y11, y12, rfl, by omega, st30, he30, p30'⟩ (fun _ _ _ _ _ => trivial) ?_ ?_
        · rintro j x σ H31 H31' hj ⟨a9, r9, y10, y11, y12, rfl, ha9, st31, he31, p31⟩ ⟨rfl, rfl⟩
          have hj6 : j < 6 := hj
          refine ⟨_, rfl, _, rfl, d, c, ns, a9, r9, ev, t', rfl, he31, ge, te, by omega, by omega, p31, by omega, fun bv bt a10 r10 H32 hb32 b32 ha10 sb32 p32 => ?_⟩
          have st32 := st31.sb p31 sb32
          have he32 := dp_sb sb32 p31.noT p31.noF _ _ ge he31
          have bh := b32.hgt
          have bc := b32.cnt
          refine ⟨_, rfl, d, c, ns, a10, r10, _, rfl, p32, by omega, by decide, by decide, fun y a11 r11 H33 y0 y1 ha11 sb33 p33 => ⟨_, _, rfl, rfl, _, rfl, ?_⟩⟩
          have st33 := st32.sb p32 sb33
          have he33 := dp_sb sb33 p32.noT p32.noF _ _ ge he32
          have hb33 := dp_sb sb33 p32.noT p32.noF _ _ b32.good hb32
          refine ite2 (fun _ => ?_) (fun _ => ?_)
          · refine ⟨_, rfl, ?_⟩
            refine ⟨_, rfl, _, rfl, _, rfl, cols, vars, ⟨DD.colK, DD.varK⟩, bv, bt, ca, va, rfl, hb33, b32.good, txts_short _ b32.txts (by omega), (by omega), (by omega), (st33).col, (st33).var, fun u1 R1a q1a hu1a => ?_⟩
            have ok1 := res_ok DD.colK DD.varK bt
            obtain ⟨o11, o12, o13, o14⟩ := res_show ok1
            refine ⟨u1, _, rfl, hu1a, o11, o12, o13, o14, _, rfl, _, rfl, Nat.zero_le _, fun e10 he10 => ?_⟩
            have q1b := same_new he10 (.tup [])
            have q1c := q1a.trans q1b
            refine ⟨cols, vars, trivial, bv, bt, pl, .ref e10, [], rfl, dp_same q1c _ _ hb33, b32.good, txts_short _ b32.txts (by omega), (by omega), ((st33).same q1c).pl, ⟨e10, rfl, SqT.of upd_same⟩, by decide, fun w1 R1c q1d hw1 => ?_⟩
            refine ⟨w1, _, rfl, hw1, o11, o12, o13, o14, rfl, _, rfl, ?_⟩
            rw [decide_eq_true rfl]
            refine iteF ?_
            have z1 := q1c.trans q1d
            refine ⟨_, rfl, _, rfl, _, rfl, cols, vars, ⟨DD.colK, DD.varK⟩, ev, t', ca, va, rfl, (dp_same z1 _ _ he33), ge, txts_short _ te (by omega), (by omega), (by omega), ((st33).same z1).col, ((st33).same z1).var, fun u2 R2a q2a hu2a => ?_⟩
            have ok2 := res_ok DD.colK DD.varK t'
            obtain ⟨o21, o22, o23, o24⟩ := res_show ok2
            refine ⟨u2, _, rfl, hu2a, o21, o22, o23, o24, _, rfl, _, rfl, Nat.zero_le _, fun e20 he20 => ?_⟩
            have q2b := same_new he20 (.tup [])
            have q2c := q2a.trans q2b
            refine ⟨cols, vars, trivial, ev, t', pl, .ref e20, [], rfl, dp_same q2c _ _ (dp_same z1 _ _ he33), ge, txts_short _ te (by omega), (by omega), (((st33).same z1).same q2c).pl, ⟨e20, rfl, SqT.of upd_same⟩, by decide, fun w2 R2c q2d hw2 => ?_⟩
            refine ⟨w2, _, rfl, hw2, o21, o22, o23, o24, rfl, _, rfl, ?_⟩
            rw [decide_eq_true rfl]
            refine iteF ?_
            have z2 := q2c.trans q2d
            exact ⟨a11, r11, _, _, _, rfl, by rw [Nat.succ_mul]; omega, ((st33).same z1).same z2, dp_same z2 _ _ (dp_same z1 _ _ he33), pen_same (pen_same p33 z1) z2⟩
          · refine ⟨_, rfl, _, rfl, d, c, ns, a11, r11, bv, bt, rfl, hb33, b32.good, b32.txts, by omega, by omega, p33, by omega, fun cv ct a12 r12 H34 hc34 b34 ha12 sb34 p34 => ?_⟩
            have st34 := st33.sb p33 sb34
            have he34 := dp_sb sb34 p33.noT p33.noF _ _ ge he33
            have ch := b34.hgt
            have cc := b34.cnt
            refine ⟨_, rfl, _, rfl, _, rfl, cols, vars, ⟨DD.colK, DD.varK⟩, cv, ct, ca, va, rfl, hc34, b34.good, txts_short _ b34.txts (by omega), (by omega), (by omega), (st34).col, (st34).var, fun u1 R1a q1a hu1a => ?_⟩
            have ok1 := res_ok DD.colK DD.varK ct
            obtain ⟨o11, o12, o13, o14⟩ := res_show ok1
            refine ⟨u1, _, rfl, hu1a, o11, o12, o13, o14, _, rfl, _, rfl, Nat.zero_le _, fun e10 he10 => ?_⟩
            have q1b := same_new he10 (.tup [])
            have q1c := q1a.trans q1b
            refine ⟨cols, vars, trivial, cv, ct, pl, .ref e10, [], rfl, dp_same q1c _ _ hc34, b34.good, txts_short _ b34.txts (by omega), (by omega), ((st34).same q1c).pl, ⟨e10, rfl, SqT.of upd_same⟩, by decide, fun w1 R1c q1d hw1 => ?_⟩
            refine ⟨w1, _, rfl, hw1, o11, o12, o13, o14, rfl, _, rfl, ?_⟩
            rw [decide_eq_true rfl]
            refine iteF ?_
            have z1 := q1c.trans q1d
            refine ⟨_, rfl, _, rfl, _, rfl, cols, vars, ⟨DD.colK, DD.varK⟩, ev, t', ca, va, rfl, (dp_same z1 _ _ he34), ge, txts_short _ te (by omega), (by omega), (by omega), ((st34).same z1).col, ((st34).same z1).var, fun u2 R2a q2a hu2a => ?_⟩
            have ok2 := res_ok DD.colK DD.varK t'
            obtain ⟨o21, o22, o23, o24⟩ := res_show ok2
            refine ⟨u2, _, rfl, hu2a, o21, o22, o23, o24, _, rfl, _, rfl, Nat.zero_le _, fun e20 he20 => ?_⟩
            have q2b := same_new he20 (.tup [])
            have q2c := q2a.trans q2b
            refine ⟨cols, vars, trivial, ev, t', pl, .ref e20, [], rfl, dp_same q2c _ _ (dp_same z1 _ _ he34), ge, txts_short _ te (by omega), (by omega), (((st34).same z1).same q2c).pl, ⟨e20, rfl, SqT.of upd_same⟩, by decide, fun w2 R2c q2d hw2 => ?_⟩
            refine ⟨w2, _, rfl, hw2, o21, o22, o23, o24, rfl, _, rfl, ?_⟩
            rw [decide_eq_true rfl]
            refine iteF ?_
            have z2 := q2c.trans q2d
            exact ⟨a12, r12, _, _, _, rfl, by rw [Nat.succ_mul]; omega, ((st34).same z1).same z2, dp_same z2 _ _ (dp_same z1 _ _ he34), pen_same (pen_same p34 z1) z2⟩
        · rintro σ H31 ⟨a9, r9, y10, y11, y12, rfl, ha9, st31, he31, p31⟩
          have ha9 : a9 ≤ a8 + 6 * 200 := ha9
          exact ⟨a9, r9, _, _, _, _, _, _, _, _, _, _, _, _, rfl, by rw [Nat.succ_mul]; omega, p31⟩
  · rintro σ H2 ⟨a2, r2, y2, y3, y4, y5, y6, y7, y8, y9, y10, y11, y12, y13, rfl, ha2, p2⟩
    refine ⟨(by show 2 ≤ sizeLine; decide), fun tp htp => ?_⟩
    have s1 := same_new htp (.tup [.str "value", .non])
    intro ea hea
    intro eb heb
    have s2 := same_new hea (.dK [])
    have s3 := same_new heb (.dK [])
    have kn : KdOk [] := fun x y h => by cases h
    refine ⟨[], [], ⟨kn, kn⟩, .ref tp, .tuple [.str "value", .none], ea, eb, rfl, dp_same (s2.trans s3) _ _ (dp_two upd_same .non), ?_, ?_, ?_, ?_, s3 _ _ upd_same, upd_same, fun k hk H5 s5 => ?_, fun x l hk => ?_⟩
    · exact (gen_gs (Gen.val (cols := []) (vars := []) (k := "int") (.inl rfl) (by simp [good]))).1
    · exact (gen_gs (Gen.val (cols := []) (vars := []) (k := "int") (.inl rfl) (by simp [good]))).2
    · simp only [hgt, hgtAll]; omega
    · simp only [cnt, cntAll]; omega
    · have : lookM [] [] 30 (.tuple [.str "value", .none]) [] = .ok none := by rw [look_succ [] [] 29 _ _ (node_value [] [] (d := .none) rfl)]; rfl
      rw [this] at hk
      cases hk
      rfl
    · have : lookM [] [] 30 (.tuple [.str "value", .none]) [] = .ok none := by rw [look_succ [] [] 29 _ _ (node_value [] [] (d := .none) rfl)]; rfl
      rw [this] at hk
      cases hk
end
end DS
set_option Elab.async false
set_option linter.all false
set_option maxRecDepth 100000
set_option maxHeartbeats 8000000
namespace DS
open PySem L2
theorem sgn_ofs : Str.ofString " !\"#$&'()*+,-./0123456789:;<=>?@ABCDEFGHIJKLMNOPQRSTUVWXYZ[\\]^_`abcdefghijklmnopqrstuvwxyz{|}~" = S sgnList := by decide +kernel
theorem FnOk.uni2 {P : Program} {w : World} {K : PySem.W.Frag} {mg : Str → Option Value} {bs : Heap} {CX : CXT} {k : Nat} {f : Addr} {fd : FuncData} {ps : List Str} {C : Kinds → Kinds → Prop} {sp : Kinds → Kinds → Sp} (h : ∀ a b, C a b → FnOk P w K mg bs CX k f fd ps (sp a b)) :
    FnOk P w K mg bs CX k f fd ps (fun vs H Q E => ∃ a b, C a b ∧ sp a b vs H Q E) :=
  ⟨fun vs H Q E ⟨a, b, c, q⟩ => (h a b c).len vs H Q E q, fun A outer s H args us vs Q E hr he hb hv ⟨a, b, c, q⟩ => (h a b c).run A outer s H args us vs Q E hr he hb hv q⟩
theorem FnOk.uni3 {P : Program} {w : World} {K : PySem.W.Frag} {mg : Str → Option Value} {bs : Heap} {CX : CXT} {k : Nat} {f : Addr} {fd : FuncData} {ps : List Str} {C : Kinds → Kinds → Kinds → Prop} {sp : Kinds → Kinds → Kinds → Sp} (h : ∀ a b c, C a b c → FnOk P w K mg bs CX k f fd ps (sp a b c)) :
    FnOk P w K mg bs CX k f fd ps (fun vs H Q E => ∃ a b c, C a b c ∧ sp a b c vs H Q E) :=
  ⟨fun vs H Q E ⟨a, b, c, d, q⟩ => (h a b c d).len vs H Q E q, fun A outer s H args us vs Q E hr he hb hv ⟨a, b, c, d, q⟩ => (h a b c d).run A outer s H args us vs Q E hr he hb hv q⟩
def lawN : List Str := ["_law_script", "_law_pen_here", "_law_turn", "_law_words_here", "_law_columns", "_law_names", "_law_variables", "_law_place", "_law_kind_here", "_law_e", "_law_again", "_law_bent_here", "_law_some", "_law_word"]

theorem all_mk {P : Program} {w : World} {K : PySem.W.Frag} {h : Heap} {mg : Str → Option Value} {fa : Addr} (X : K.In h) (G : h.Ns mainGlobals mg) (hfa : mg "law" = some (.ref fa))
    {f1 f2 f3 f4 f5 f6 f7 f8 f9 f10 f11 f12 f13 f14 f15 f16 f17 f18 f19 f20 f21 f22 f23 f24 f25 f26 f27 f28 f29 f30 f31 f32 f33 f34 f35 f36 f37 f38 f39 f40 f41 f42 f43 f44 f45 f46 f47 f48 f49 CW CS CB CR T1 T2 T3 aE f50 f51 f52 f53 f54 pp f55 aKINDS aOPERATORS aARITHMETIC aGATHERING aHANDLING dE x0 x1 x2 x3 x4 x5 x6 x7 x8 x9 x10 x11 x12 x13 x14 x15 fIB cdaB ccB fIR cdaR ccR : Addr}
    {od1 an1 od2 an2 od3 an3 od4 an4 od5 an5 od6 an6 od7 an7 od8 an8 od9 an9 od10 an10 od11 an11 od12 an12 od13 an13 od14 an14 od15 an15 od16 an16 od17 an17 od18 an18 od19 an19 od20 an20 od21 an21 od22 an22 od23 an23 od24 an24 od25 an25 od26 an26 od27 an27 od28 an28 od29 an29 od30 an30 od31 an31 od32 an32 od33 an33 od34 an34 od35 an35 od36 an36 od37 an37 od38 an38 od39 an39 od40 an40 od41 an41 od42 an42 od43 an43 od44 an44 od45 an45 od46 an46 od47 an47 od48 an48 od49 an49 od50 an50 od51 an51 oT1 oT2 oT3 oTE od52 an52 od53 an53 od54 an54 od55 an55 o_aKINDS o_aOPERATORS o_aARITHMETIC o_aGATHERING o_aHANDLING o_x0 o_x1 o_x2 o_x3 o_x4 o_x5 o_x6 o_x7 o_x8 o_x9 o_x10 o_x11 o_x12 o_x13 o_x14 o_x15 odIB anIB cddB cldB ddB odIR anIR cddR cldR ddR : Option Addr} {sl1 sl2 sl3 sl4 sl5 sl6 sl7 sl8 sl9 sl10 sl11 sl12 sl13 sl14 sl15 sl16 sl17 sl18 sl19 sl20 sl21 sl22 sl23 sl24 sl25 sl26 sl27 sl28 sl29 sl30 sl31 sl32 sl33 sl34 sl35 sl36 sl37 sl38 sl39 sl40 sl41 sl42 sl43 sl44 sl45 sl46 sl47 sl48 sl49 sl50 sl51 sT1 sT2 sT3 sTE sl52 sl53 sl54 sl55 s_aKINDS s_aOPERATORS s_aARITHMETIC s_aGATHERING s_aHANDLING s_x0 s_x1 s_x2 s_x3 s_x4 s_x5 s_x6 s_x7 s_x8 s_x9 s_x10 s_x11 s_x12 s_x13 s_x14 s_x15 slIB ccsB cslB slIR ccsR cslR : Array (Option Value)} {oc1 kV1 dc1 pm1 cd1 ct1 oc2 kV2 dc2 pm2 cd2 ct2 oc3 kV3 dc3 pm3 cd3 ct3 oc4 kV4 dc4 pm4 cd4 ct4 oc5 kV5 dc5 pm5 cd5 ct5 oc6 kV6 dc6 pm6 cd6 ct6 oc7 kV7 dc7 pm7 cd7 ct7 oc8 kV8 dc8 pm8 cd8 ct8 oc9 kV9 dc9 pm9 cd9 ct9 oc10 kV10 dc10 pm10 cd10 ct10 oc11 kV11 dc11 pm11 cd11 ct11 oc12 kV12 dc12 pm12 cd12 ct12 oc13 kV13 dc13 pm13 cd13 ct13 oc14 kV14 dc14 pm14 cd14 ct14 oc15 kV15 dc15 pm15 cd15 ct15 oc16 kV16 dc16 pm16 cd16 ct16 oc17 kV17 dc17 pm17 cd17 ct17 oc18 kV18 dc18 pm18 cd18 ct18 oc19 kV19 dc19 pm19 cd19 ct19 oc20 kV20 dc20 pm20 cd20 ct20 oc21 kV21 dc21 pm21 cd21 ct21 oc22 kV22 dc22 pm22 cd22 ct22 oc23 kV23 dc23 pm23 cd23 ct23 oc24 kV24 dc24 pm24 cd24 ct24 oc25 kV25 dc25 pm25 cd25 ct25 oc26 kV26 dc26 pm26 cd26 ct26 oc27 kV27 dc27 pm27 cd27 ct27 oc28 kV28 dc28 pm28 cd28 ct28 oc29 kV29 dc29 pm29 cd29 ct29 oc30 kV30 dc30 pm30 cd30 ct30 oc31 kV31 dc31 pm31 cd31 ct31 oc32 kV32 dc32 pm32 cd32 ct32 oc33 kV33 dc33 pm33 cd33 ct33 oc34 kV34 dc34 pm34 cd34 ct34 oc35 kV35 dc35 pm35 cd35 ct35 oc36 kV36 dc36 pm36 cd36 ct36 oc37 kV37 dc37 pm37 cd37 ct37 oc38 kV38 dc38 pm38 cd38 ct38 oc39 kV39 dc39 pm39 cd39 ct39 oc40 kV40 dc40 pm40 cd40 ct40 oc41 kV41 dc41 pm41 cd41 ct41 oc42 kV42 dc42 pm42 cd42 ct42 oc43 kV43 dc43 pm43 cd43 ct43 oc44 kV44 dc44 pm44 cd44 ct44 oc45 kV45 dc45 pm45 cd45 ct45 oc46 kV46 dc46 pm46 cd46 ct46 oc47 kV47 dc47 pm47 cd47 ct47 oc48 kV48 dc48 pm48 cd48 ct48 oc49 kV49 dc49 pm49 cd49 ct49 oc50 kV50 dc50 pm50 cd50 ct50 oc51 kV51 dc51 pm51 cd51 ct51 cT1 cT2 cT3 oc52 kV52 dc52 pm52 cd52 ct52 oc53 kV53 dc53 pm53 cd53 ct53 oc54 kV54 dc54 pm54 cd54 ct54 oc55 kV55 dc55 pm55 cd55 ct55 ocIB dcIB pmIB ctIB cclB clB ocIR dcIR pmIR ctIR cclR clR : Value} {t1 t2 t3 t4 t5 t6 t7 u1 u2 u3 u4 u5 u6 u7 u8 u9 u10 u11 u12 u13 u14 u15 u16 u17 u18 u19 u20 u21 u22 u23 u24 e0 e1 e2 e3 e4 e5 e6 e7 e8 e9 e10 e11 e12 e13 e14 e15 u25 u26 u27 u28 u29 u30 u31 u32 u33 u34 u35 u36 u37 u38 u39 u40 u41 u42 u43 u44 u45 u46 u47 u48 u49 u50 u51 u52 u53 tfB tfR : Tok} {h0 h1 h2 h3 h4 h5 h6 h7 h8 h9 h10 h11 h12 h13 h14 h15 : Int} {nT1 nT2 nT3 nTE n_aKINDS n_aOPERATORS n_aARITHMETIC n_aGATHERING n_aHANDLING nE n_x0 n_x1 n_x2 n_x3 n_x4 n_x5 n_x6 n_x7 n_x8 n_x9 n_x10 n_x11 n_x12 n_x13 n_x14 n_x15 : Nat} {rst : List Value}
    {nmB qB : Str} {NnB : Addr} {bsB : List Value} {snB : List Str} {subB : List Value} {abB : Bool} {colB : Option Bool} {m0B m1B m2B m3B m5B : Option Value} {vsB : Array Value} {fileB : Str}
    {nmR qR : Str} {NnR : Addr} {bsR : List Value} {snR : List Str} {subR : List Value} {abR : Bool} {colR : Option Bool} {m0R m1R m2R m3R m5R : Option Value} {vsR : Array Value} {fileR : Str}
    (a1 : PySem.W.nsIn K mainGlobals "is_string" = some (some (.ref f1)))
    (l1 : K.lookup f1 = some ⟨oc1, od1, .func (PySem.W.fnOf "is_string" "is_string" (defArgs sIsStr) (defBody sIsStr) (defScope sIsStr) .none kV1 dc1 pm1 an1 cd1 ct1), sl1⟩)
    (c1 : PySem.W.codeIn K cd1 "is_string" = true)
    (k1 : PySem.W.keepIn K (.ref f1) = true)
    (a2 : PySem.W.nsIn K mainGlobals "parts_of" = some (some (.ref f2)))
    (l2 : K.lookup f2 = some ⟨oc2, od2, .func (PySem.W.fnOf "parts_of" "parts_of" (defArgs sParts) (defBody sParts) (defScope sParts) .none kV2 dc2 pm2 an2 cd2 ct2), sl2⟩)
    (c2 : PySem.W.codeIn K cd2 "parts_of" = true)
    (k2 : PySem.W.keepIn K (.ref f2) = true)
    (a3 : PySem.W.nsIn K mainGlobals "is_tree" = some (some (.ref f3)))
    (l3 : K.lookup f3 = some ⟨oc3, od3, .func (PySem.W.fnOf "is_tree" "is_tree" (defArgs sIsTree) (defBody sIsTree) (defScope sIsTree) .none kV3 dc3 pm3 an3 cd3 ct3), sl3⟩)
    (c3 : PySem.W.codeIn K cd3 "is_tree" = true)
    (k3 : PySem.W.keepIn K (.ref f3) = true)
    (a4 : PySem.W.nsIn K mainGlobals "kind_of_value" = some (some (.ref f4)))
    (l4 : K.lookup f4 = some ⟨oc4, od4, .func (PySem.W.fnOf "kind_of_value" "kind_of_value" (defArgs sKV) (defBody sKV) (defScope sKV) .none kV4 dc4 pm4 an4 cd4 ct4), sl4⟩)
    (c4 : PySem.W.codeIn K cd4 "kind_of_value" = true)
    (k4 : PySem.W.keepIn K (.ref f4) = true)
    (a5 : PySem.W.nsIn K mainGlobals "is_value" = some (some (.ref f5)))
    (l5 : K.lookup f5 = some ⟨oc5, od5, .func (PySem.W.fnOf "is_value" "is_value" (defArgs sIsVal) (defBody sIsVal) (defScope sIsVal) .none kV5 dc5 pm5 an5 cd5 ct5), sl5⟩)
    (c5 : PySem.W.codeIn K cd5 "is_value" = true)
    (k5 : PySem.W.keepIn K (.ref f5) = true)
    (a6 : PySem.W.nsIn K mainGlobals "is_word" = some (some (.ref f6)))
    (l6 : K.lookup f6 = some ⟨oc6, od6, .func (PySem.W.fnOf "is_word" "is_word" (defArgs sIsWord) (defBody sIsWord) (defScope sIsWord) .none kV6 dc6 pm6 an6 cd6 ct6), sl6⟩)
    (c6 : PySem.W.codeIn K cd6 "is_word" = true)
    (k6 : PySem.W.keepIn K (.ref f6) = true)
    (a7 : PySem.W.nsIn K mainGlobals "is_one_of" = some (some (.ref f7)))
    (l7 : K.lookup f7 = some ⟨oc7, od7, .func (PySem.W.fnOf "is_one_of" "is_one_of" (defArgs sOneOf) (defBody sOneOf) (defScope sOneOf) .none kV7 dc7 pm7 an7 cd7 ct7), sl7⟩)
    (c7 : PySem.W.codeIn K cd7 "is_one_of" = true)
    (k7 : PySem.W.keepIn K (.ref f7) = true)
    (a8 : PySem.W.nsIn K mainGlobals "is_plain" = some (some (.ref f8)))
    (l8 : K.lookup f8 = some ⟨oc8, od8, .func (PySem.W.fnOf "is_plain" "is_plain" (defArgs sPlain) (defBody sPlain) (defScope sPlain) .none kV8 dc8 pm8 an8 cd8 ct8), sl8⟩)
    (c8 : PySem.W.codeIn K cd8 "is_plain" = true)
    (k8 : PySem.W.keepIn K (.ref f8) = true)
    (a9 : PySem.W.nsIn K mainGlobals "is_headed" = some (some (.ref f9)))
    (l9 : K.lookup f9 = some ⟨oc9, od9, .func (PySem.W.fnOf "is_headed" "is_headed" (defArgs sHeaded) (defBody sHeaded) (defScope sHeaded) .none kV9 dc9 pm9 an9 cd9 ct9), sl9⟩)
    (c9 : PySem.W.codeIn K cd9 "is_headed" = true)
    (k9 : PySem.W.keepIn K (.ref f9) = true)
    (a10 : PySem.W.nsIn K mainGlobals "is_simple_part" = some (some (.ref f10)))
    (l10 : K.lookup f10 = some ⟨oc10, od10, .func (PySem.W.fnOf "is_simple_part" "is_simple_part" (defArgs sSimple) (defBody sSimple) (defScope sSimple) .none kV10 dc10 pm10 an10 cd10 ct10), sl10⟩)
    (c10 : PySem.W.codeIn K cd10 "is_simple_part" = true)
    (k10 : PySem.W.keepIn K (.ref f10) = true)
    (a11 : PySem.W.nsIn K mainGlobals "is_part" = some (some (.ref f11)))
    (l11 : K.lookup f11 = some ⟨oc11, od11, .func (PySem.W.fnOf "is_part" "is_part" (defArgs sPart) (defBody sPart) (defScope sPart) .none kV11 dc11 pm11 an11 cd11 ct11), sl11⟩)
    (c11 : PySem.W.codeIn K cd11 "is_part" = true)
    (k11 : PySem.W.keepIn K (.ref f11) = true)
    (a12 : PySem.W.nsIn K mainGlobals "has_form" = some (some (.ref f12)))
    (l12 : K.lookup f12 = some ⟨oc12, od12, .func (PySem.W.fnOf "has_form" "has_form" (defArgs sForm) (defBody sForm) (defScope sForm) .none kV12 dc12 pm12 an12 cd12 ct12), sl12⟩)
    (c12 : PySem.W.codeIn K cd12 "has_form" = true)
    (k12 : PySem.W.keepIn K (.ref f12) = true)
    (a13 : PySem.W.nsIn K mainGlobals "parts_in" = some (some (.ref f13)))
    (l13 : K.lookup f13 = some ⟨oc13, od13, .func (PySem.W.fnOf "parts_in" "parts_in" (defArgs sPartsIn) (defBody sPartsIn) (defScope sPartsIn) .none kV13 dc13 pm13 an13 cd13 ct13), sl13⟩)
    (c13 : PySem.W.codeIn K cd13 "parts_in" = true)
    (k13 : PySem.W.keepIn K (.ref f13) = true)
    (a14 : PySem.W.nsIn K mainGlobals "head_of" = some (some (.ref f14)))
    (l14 : K.lookup f14 = some ⟨oc14, od14, .func (PySem.W.fnOf "head_of" "head_of" (defArgs sHead) (defBody sHead) (defScope sHead) .none kV14 dc14 pm14 an14 cd14 ct14), sl14⟩)
    (c14 : PySem.W.codeIn K cd14 "head_of" = true)
    (k14 : PySem.W.keepIn K (.ref f14) = true)
    (a15 : PySem.W.nsIn K mainGlobals "column_kind" = some (some (.ref f15)))
    (l15 : K.lookup f15 = some ⟨oc15, od15, .func (PySem.W.fnOf "column_kind" "column_kind" (defArgs sColK) (defBody sColK) (defScope sColK) .none kV15 dc15 pm15 an15 cd15 ct15), sl15⟩)
    (c15 : PySem.W.codeIn K cd15 "column_kind" = true)
    (k15 : PySem.W.keepIn K (.ref f15) = true)
    (a16 : PySem.W.nsIn K mainGlobals "function_of" = some (some (.ref f16)))
    (l16 : K.lookup f16 = some ⟨oc16, od16, .func (PySem.W.fnOf "function_of" "function_of" (defArgs sFunOf) (defBody sFunOf) (defScope sFunOf) .none kV16 dc16 pm16 an16 cd16 ct16), sl16⟩)
    (c16 : PySem.W.codeIn K cd16 "function_of" = true)
    (k16 : PySem.W.keepIn K (.ref f16) = true)
    (a17 : PySem.W.nsIn K mainGlobals "is_there" = some (some (.ref f17)))
    (l17 : K.lookup f17 = some ⟨oc17, od17, .func (PySem.W.fnOf "is_there" "is_there" (defArgs sThere) (defBody sThere) (defScope sThere) .none kV17 dc17 pm17 an17 cd17 ct17), sl17⟩)
    (c17 : PySem.W.codeIn K cd17 "is_there" = true)
    (k17 : PySem.W.keepIn K (.ref f17) = true)
    (a18 : PySem.W.nsIn K mainGlobals "need_allowed" = some (some (.ref f18)))
    (l18 : K.lookup f18 = some ⟨oc18, od18, .func (PySem.W.fnOf "need_allowed" "need_allowed" (defArgs sAllow) (defBody sAllow) (defScope sAllow) .none kV18 dc18 pm18 an18 cd18 ct18), sl18⟩)
    (c18 : PySem.W.codeIn K cd18 "need_allowed" = true)
    (k18 : PySem.W.keepIn K (.ref f18) = true)
    (a19 : PySem.W.nsIn K mainGlobals "kinds_wanted" = some (some (.ref f19)))
    (l19 : K.lookup f19 = some ⟨oc19, od19, .func (PySem.W.fnOf "kinds_wanted" "kinds_wanted" (defArgs sWant) (defBody sWant) (defScope sWant) .none kV19 dc19 pm19 an19 cd19 ct19), sl19⟩)
    (c19 : PySem.W.codeIn K cd19 "kinds_wanted" = true)
    (k19 : PySem.W.keepIn K (.ref f19) = true)
    (a20 : PySem.W.nsIn K mainGlobals "is_fitting" = some (some (.ref f20)))
    (l20 : K.lookup f20 = some ⟨oc20, od20, .func (PySem.W.fnOf "is_fitting" "is_fitting" (defArgs sFit) (defBody sFit) (defScope sFit) .none kV20 dc20 pm20 an20 cd20 ct20), sl20⟩)
    (c20 : PySem.W.codeIn K cd20 "is_fitting" = true)
    (k20 : PySem.W.keepIn K (.ref f20) = true)
    (a21 : PySem.W.nsIn K mainGlobals "need_kinds" = some (some (.ref f21)))
    (l21 : K.lookup f21 = some ⟨oc21, od21, .func (PySem.W.fnOf "need_kinds" "need_kinds" (defArgs sNeedK) (defBody sNeedK) (defScope sNeedK) .none kV21 dc21 pm21 an21 cd21 ct21), sl21⟩)
    (c21 : PySem.W.codeIn K cd21 "need_kinds" = true)
    (k21 : PySem.W.keepIn K (.ref f21) = true)
    (a22 : PySem.W.nsIn K mainGlobals "own_kind" = some (some (.ref f22)))
    (l22 : K.lookup f22 = some ⟨oc22, od22, .func (PySem.W.fnOf "own_kind" "own_kind" (defArgs sOwn) (defBody sOwn) (defScope sOwn) .none kV22 dc22 pm22 an22 cd22 ct22), sl22⟩)
    (c22 : PySem.W.codeIn K cd22 "own_kind" = true)
    (k22 : PySem.W.keepIn K (.ref f22) = true)
    (a23 : PySem.W.nsIn K mainGlobals "kind_of" = some (some (.ref f23)))
    (l23 : K.lookup f23 = some ⟨oc23, od23, .func (PySem.W.fnOf "kind_of" "kind_of" (defArgs sKindOf) (defBody sKindOf) (defScope sKindOf) .none kV23 dc23 pm23 an23 cd23 ct23), sl23⟩)
    (c23 : PySem.W.codeIn K cd23 "kind_of" = true)
    (k23 : PySem.W.keepIn K (.ref f23) = true)
    (a24 : PySem.W.nsIn K mainGlobals "_law_pen" = some (some (.ref f24)))
    (l24 : K.lookup f24 = some ⟨oc24, od24, .func (PySem.W.fnOf "_law_pen" "_law_pen" (defArgs sPen) (defBody sPen) (defScope sPen) .none kV24 dc24 pm24 an24 cd24 ct24), sl24⟩)
    (c24 : PySem.W.codeIn K cd24 "_law_pen" = true)
    (k24 : PySem.W.keepIn K (.ref f24) = true)
    (a25 : PySem.W.nsIn K mainGlobals "_law_draw" = some (some (.ref f25)))
    (l25 : K.lookup f25 = some ⟨oc25, od25, .func (PySem.W.fnOf "_law_draw" "_law_draw" (defArgs sDraw) (defBody sDraw) (defScope sDraw) .none kV25 dc25 pm25 an25 cd25 ct25), sl25⟩)
    (c25 : PySem.W.codeIn K cd25 "_law_draw" = true)
    (k25 : PySem.W.keepIn K (.ref f25) = true)
    (a26 : PySem.W.nsIn K mainGlobals "_law_pick" = some (some (.ref f26)))
    (l26 : K.lookup f26 = some ⟨oc26, od26, .func (PySem.W.fnOf "_law_pick" "_law_pick" (defArgs sPick) (defBody sPick) (defScope sPick) .none kV26 dc26 pm26 an26 cd26 ct26), sl26⟩)
    (c26 : PySem.W.codeIn K cd26 "_law_pick" = true)
    (k26 : PySem.W.keepIn K (.ref f26) = true)
    (a27 : PySem.W.nsIn K mainGlobals "_law_shuffled" = some (some (.ref f27)))
    (l27 : K.lookup f27 = some ⟨oc27, od27, .func (PySem.W.fnOf "_law_shuffled" "_law_shuffled" (defArgs sShuf) (defBody sShuf) (defScope sShuf) .none kV27 dc27 pm27 an27 cd27 ct27), sl27⟩)
    (c27 : PySem.W.codeIn K cd27 "_law_shuffled" = true)
    (k27 : PySem.W.keepIn K (.ref f27) = true)
    (a28 : PySem.W.nsIn K mainGlobals "_law_words" = some (some (.ref f28)))
    (l28 : K.lookup f28 = some ⟨oc28, od28, .func (PySem.W.fnOf "_law_words" "_law_words" (defArgs sWords) (defBody sWords) (defScope sWords) .none kV28 dc28 pm28 an28 cd28 ct28), sl28⟩)
    (c28 : PySem.W.codeIn K cd28 "_law_words" = true)
    (k28 : PySem.W.keepIn K (.ref f28) = true)
    (a29 : PySem.W.nsIn K mainGlobals "_law_int" = some (some (.ref f29)))
    (l29 : K.lookup f29 = some ⟨oc29, od29, .func (PySem.W.fnOf "_law_int" "_law_int" (defArgs sInt) (defBody sInt) (defScope sInt) .none kV29 dc29 pm29 an29 cd29 ct29), sl29⟩)
    (c29 : PySem.W.codeIn K cd29 "_law_int" = true)
    (k29 : PySem.W.keepIn K (.ref f29) = true)
    (a30 : PySem.W.nsIn K mainGlobals "_law_text" = some (some (.ref f30)))
    (l30 : K.lookup f30 = some ⟨oc30, od30, .func (PySem.W.fnOf "_law_text" "_law_text" (defArgs sText) (defBody sText) (defScope sText) .none kV30 dc30 pm30 an30 cd30 ct30), sl30⟩)
    (c30 : PySem.W.codeIn K cd30 "_law_text" = true)
    (k30 : PySem.W.keepIn K (.ref f30) = true)
    (a31 : PySem.W.nsIn K mainGlobals "_law_plain" = some (some (.ref f31)))
    (l31 : K.lookup f31 = some ⟨oc31, od31, .func (PySem.W.fnOf "_law_plain" "_law_plain" (defArgs sPlainL) (defBody sPlainL) (defScope sPlainL) .none kV31 dc31 pm31 an31 cd31 ct31), sl31⟩)
    (c31 : PySem.W.codeIn K cd31 "_law_plain" = true)
    (k31 : PySem.W.keepIn K (.ref f31) = true)
    (a32 : PySem.W.nsIn K mainGlobals "_law_leaf" = some (some (.ref f32)))
    (l32 : K.lookup f32 = some ⟨oc32, od32, .func (PySem.W.fnOf "_law_leaf" "_law_leaf" (defArgs sLeaf) (defBody sLeaf) (defScope sLeaf) .none kV32 dc32 pm32 an32 cd32 ct32), sl32⟩)
    (c32 : PySem.W.codeIn K cd32 "_law_leaf" = true)
    (k32 : PySem.W.keepIn K (.ref f32) = true)
    (a33 : PySem.W.nsIn K mainGlobals "_law_int_tree" = some (some (.ref f33)))
    (l33 : K.lookup f33 = some ⟨oc33, od33, .func (PySem.W.fnOf "_law_int_tree" "_law_int_tree" (defArgs sITree) (defBody sITree) (defScope sITree) .none kV33 dc33 pm33 an33 cd33 ct33), sl33⟩)
    (c33 : PySem.W.codeIn K cd33 "_law_int_tree" = true)
    (k33 : PySem.W.keepIn K (.ref f33) = true)
    (a34 : PySem.W.nsIn K mainGlobals "_law_truth_tree" = some (some (.ref f34)))
    (l34 : K.lookup f34 = some ⟨oc34, od34, .func (PySem.W.fnOf "_law_truth_tree" "_law_truth_tree" (defArgs sTTree) (defBody sTTree) (defScope sTTree) .none kV34 dc34 pm34 an34 cd34 ct34), sl34⟩)
    (c34 : PySem.W.codeIn K cd34 "_law_truth_tree" = true)
    (k34 : PySem.W.keepIn K (.ref f34) = true)
    (a35 : PySem.W.nsIn K mainGlobals "_law_tree" = some (some (.ref f35)))
    (l35 : K.lookup f35 = some ⟨oc35, od35, .func (PySem.W.fnOf "_law_tree" "_law_tree" (defArgs sTree) (defBody sTree) (defScope sTree) .none kV35 dc35 pm35 an35 cd35 ct35), sl35⟩)
    (c35 : PySem.W.codeIn K cd35 "_law_tree" = true)
    (k35 : PySem.W.keepIn K (.ref f35) = true)
    (a36 : PySem.W.nsIn K mainGlobals "_law_is_word" = some (some (.ref f36)))
    (l36 : K.lookup f36 = some ⟨oc36, od36, .func (PySem.W.fnOf "_law_is_word" "_law_is_word" (defArgs sLWord) (defBody sLWord) (defScope sLWord) .none kV36 dc36 pm36 an36 cd36 ct36), sl36⟩)
    (c36 : PySem.W.codeIn K cd36 "_law_is_word" = true)
    (k36 : PySem.W.keepIn K (.ref f36) = true)
    (a37 : PySem.W.nsIn K mainGlobals "_law_is_text" = some (some (.ref f37)))
    (l37 : K.lookup f37 = some ⟨oc37, od37, .func (PySem.W.fnOf "_law_is_text" "_law_is_text" (defArgs sLText) (defBody sLText) (defScope sLText) .none kV37 dc37 pm37 an37 cd37 ct37), sl37⟩)
    (c37 : PySem.W.codeIn K cd37 "_law_is_text" = true)
    (k37 : PySem.W.keepIn K (.ref f37) = true)
    (a38 : PySem.W.nsIn K mainGlobals "_law_kind_of" = some (some (.ref f38)))
    (l38 : K.lookup f38 = some ⟨oc38, od38, .func (PySem.W.fnOf "_law_kind_of" "_law_kind_of" (defArgs sLKind) (defBody sLKind) (defScope sLKind) .none kV38 dc38 pm38 an38 cd38 ct38), sl38⟩)
    (c38 : PySem.W.codeIn K cd38 "_law_kind_of" = true)
    (k38 : PySem.W.keepIn K (.ref f38) = true)
    (a39 : PySem.W.nsIn K mainGlobals "_law_has_form" = some (some (.ref f39)))
    (l39 : K.lookup f39 = some ⟨oc39, od39, .func (PySem.W.fnOf "_law_has_form" "_law_has_form" (defArgs sLForm) (defBody sLForm) (defScope sLForm) .none kV39 dc39 pm39 an39 cd39 ct39), sl39⟩)
    (c39 : PySem.W.codeIn K cd39 "_law_has_form" = true)
    (k39 : PySem.W.keepIn K (.ref f39) = true)
    (a40 : PySem.W.nsIn K mainGlobals "_law_is_known" = some (some (.ref f40)))
    (l40 : K.lookup f40 = some ⟨oc40, od40, .func (PySem.W.fnOf "_law_is_known" "_law_is_known" (defArgs sLKnown) (defBody sLKnown) (defScope sLKnown) .none kV40 dc40 pm40 an40 cd40 ct40), sl40⟩)
    (c40 : PySem.W.codeIn K cd40 "_law_is_known" = true)
    (k40 : PySem.W.keepIn K (.ref f40) = true)
    (a41 : PySem.W.nsIn K mainGlobals "_law_steps" = some (some (.ref f41)))
    (l41 : K.lookup f41 = some ⟨oc41, od41, .func (PySem.W.fnOf "_law_steps" "_law_steps" (defArgs sLSteps) (defBody sLSteps) (defScope sLSteps) .none kV41 dc41 pm41 an41 cd41 ct41), sl41⟩)
    (c41 : PySem.W.codeIn K cd41 "_law_steps" = true)
    (k41 : PySem.W.keepIn K (.ref f41) = true)
    (a42 : PySem.W.nsIn K mainGlobals "_law_wanted" = some (some (.ref f42)))
    (l42 : K.lookup f42 = some ⟨oc42, od42, .func (PySem.W.fnOf "_law_wanted" "_law_wanted" (defArgs sLWant) (defBody sLWant) (defScope sLWant) .none kV42 dc42 pm42 an42 cd42 ct42), sl42⟩)
    (c42 : PySem.W.codeIn K cd42 "_law_wanted" = true)
    (k42 : PySem.W.keepIn K (.ref f42) = true)
    (a43 : PySem.W.nsIn K mainGlobals "_law_own_kind" = some (some (.ref f43)))
    (l43 : K.lookup f43 = some ⟨oc43, od43, .func (PySem.W.fnOf "_law_own_kind" "_law_own_kind" (defArgs sLOwn) (defBody sLOwn) (defScope sLOwn) .none kV43 dc43 pm43 an43 cd43 ct43), sl43⟩)
    (c43 : PySem.W.codeIn K cd43 "_law_own_kind" = true)
    (k43 : PySem.W.keepIn K (.ref f43) = true)
    (a44 : PySem.W.nsIn K mainGlobals "_law_kind" = some (some (.ref f44)))
    (l44 : K.lookup f44 = some ⟨oc44, od44, .func (PySem.W.fnOf "_law_kind" "_law_kind" (defArgs sLK) (defBody sLK) (defScope sLK) .none kV44 dc44 pm44 an44 cd44 ct44), sl44⟩)
    (c44 : PySem.W.codeIn K cd44 "_law_kind" = true)
    (k44 : PySem.W.keepIn K (.ref f44) = true)
    (a45 : PySem.W.nsIn K mainGlobals "_law_odd_tree" = some (some (.ref f45)))
    (l45 : K.lookup f45 = some ⟨oc45, od45, .func (PySem.W.fnOf "_law_odd_tree" "_law_odd_tree" (defArgs sOdd) (defBody sOdd) (defScope sOdd) .none kV45 dc45 pm45 an45 cd45 ct45), sl45⟩)
    (c45 : PySem.W.codeIn K cd45 "_law_odd_tree" = true)
    (k45 : PySem.W.keepIn K (.ref f45) = true)
    (a46 : PySem.W.nsIn K mainGlobals "_law_bent" = some (some (.ref f46)))
    (l46 : K.lookup f46 = some ⟨oc46, od46, .func (PySem.W.fnOf "_law_bent" "_law_bent" (defArgs sBent) (defBody sBent) (defScope sBent) .none kV46 dc46 pm46 an46 cd46 ct46), sl46⟩)
    (c46 : PySem.W.codeIn K cd46 "_law_bent" = true)
    (k46 : PySem.W.keepIn K (.ref f46) = true)
    (a47 : PySem.W.nsIn K mainGlobals "_law_found" = some (some (.ref f47)))
    (l47 : K.lookup f47 = some ⟨oc47, od47, .func (PySem.W.fnOf "_law_found" "_law_found" (defArgs sFound) (defBody sFound) (defScope sFound) .none kV47 dc47 pm47 an47 cd47 ct47), sl47⟩)
    (c47 : PySem.W.codeIn K cd47 "_law_found" = true)
    (k47 : PySem.W.keepIn K (.ref f47) = true)
    (a48 : PySem.W.nsIn K mainGlobals "_law_with_variables" = some (some (.ref f48)))
    (l48 : K.lookup f48 = some ⟨oc48, od48, .func (PySem.W.fnOf "_law_with_variables" "_law_with_variables" (defArgs sWV) (defBody sWV) (defScope sWV) .none kV48 dc48 pm48 an48 cd48 ct48), sl48⟩)
    (c48 : PySem.W.codeIn K cd48 "_law_with_variables" = true)
    (k48 : PySem.W.keepIn K (.ref f48) = true)
    (a49 : PySem.W.nsIn K mainGlobals "law" = some (some (.ref f49)))
    (l49 : K.lookup f49 = some ⟨oc49, od49, .func (PySem.W.fnOf "law" "law" (defArgs sLaw7) (defBody sLaw7) (defScope sLaw7) .none kV49 dc49 pm49 an49 cd49 ct49), sl49⟩)
    (c49 : PySem.W.codeIn K cd49 "law" = true)
    (k49 : PySem.W.keepIn K (.ref f49) = true)
    (a50 : PySem.W.nsIn K mainGlobals "is_tuple" = some (some (.ref f50)))
    (l50 : K.lookup f50 = some ⟨oc50, od50, .func (PySem.W.fnOf "is_tuple" "is_tuple" (defArgs sIsTup) (defBody sIsTup) (defScope sIsTup) (.ref T1) kV50 dc50 pm50 an50 cd50 ct50), sl50⟩)
    (c50 : PySem.W.codeIn K cd50 "is_tuple" = true)
    (k50 : PySem.W.keepIn K (.ref f50) = true)
    (a51 : PySem.W.nsIn K mainGlobals "look" = some (some (.ref f51)))
    (l51 : K.lookup f51 = some ⟨oc51, od51, .func (PySem.W.fnOf "look" "look" (defArgs sLook) (defBody sLook) (defScope sLook) (.ref T2) kV51 dc51 pm51 an51 cd51 ct51), sl51⟩)
    (c51 : PySem.W.codeIn K cd51 "look" = true)
    (k51 : PySem.W.keepIn K (.ref f51) = true)
    (d1 : K.lookup T1 = some ⟨cT1, oT1, .seq #[.none] nT1, sT1⟩)
    (d2 : K.lookup T2 = some ⟨cT2, oT2, .seq #[.ref aE] nT2, sT2⟩)
    (d4 : K.lookup aE = some ⟨.type "tuple", oTE, .seq #[] nTE, sTE⟩)
    (gW : PySem.W.nsIn K mainGlobals "NoWorld" = some (some (.ref CW)))
    (gS : PySem.W.nsIn K mainGlobals "KindScope" = some (some (.ref CS)))
    (pgW : PySem.W.plainGet K CW Str.empty = true)
    (hdW : PySem.W.hasDictIn K CW = true)
    (poW : PySem.W.plainOver K CW = true)
    (saW : PySem.W.findIn K (.ref CW) "__setattr__" = some (some (.builtin "object.__setattr__")))
    (mkW : PySem.W.makesIn K CW = true)
    (kcW : PySem.W.keepIn K (.ref CW) = true)
    (pgS : PySem.W.plainGet K CS Str.empty = true)
    (hdS : PySem.W.hasDictIn K CS = true)
    (poS : PySem.W.plainOver K CS = true)
    (saS : PySem.W.findIn K (.ref CS) "__setattr__" = some (some (.builtin "object.__setattr__")))
    (mkS : PySem.W.makesIn K CS = true)
    (kcS : PySem.W.keepIn K (.ref CS) = true)
    (inW : PySem.W.findIn K (.ref CW) "__init__" = some (some (.builtin "object.__init__")))
    (nW : PySem.W.findIn K (.ref CS) "world" = some none)
    (nC : PySem.W.findIn K (.ref CS) "columns" = some none)
    (nV : PySem.W.findIn K (.ref CS) "variables" = some none)
    (nQ : PySem.W.findIn K (.ref CS) "is_quiet" = some none)
    (nH : PySem.W.findIn K (.ref CS) "is_handling" = some none)
    (a52 : PySem.W.findIn K (.ref CS) "__init__" = some (some (.ref f52)))
    (l52 : K.lookup f52 = some ⟨oc52, od52, .func (PySem.W.fnOf "__init__" "KindScope.__init__" (defArgs (sKS 0)) (defBody (sKS 0)) (defScope (sKS 0)) (.ref T3) kV52 dc52 pm52 an52 cd52 ct52), sl52⟩)
    (c52 : PySem.W.codeIn K cd52 "KindScope.__init__" = true)
    (k52 : PySem.W.keepIn K (.ref f52) = true)
    (i52 : PySem.W.isFn K (.ref f52) = true)
    (d3 : K.lookup T3 = some ⟨cT3, oT3, .seq #[.bool false, .bool false] nT3, sT3⟩)
    (a53 : PySem.W.findIn K (.ref CW) "columns_of" = some (some (.ref f53)))
    (l53 : K.lookup f53 = some ⟨oc53, od53, .func (PySem.W.fnOf "columns_of" "NoWorld.columns_of" (defArgs (sWd 1)) (defBody (sWd 1)) (defScope (sWd 1)) .none kV53 dc53 pm53 an53 cd53 ct53), sl53⟩)
    (c53 : PySem.W.codeIn K cd53 "NoWorld.columns_of" = true)
    (k53 : PySem.W.keepIn K (.ref f53) = true)
    (i53 : PySem.W.isFn K (.ref f53) = true)
    (a54 : PySem.W.findIn K (.ref CW) "has_sequence" = some (some (.ref f54)))
    (l54 : K.lookup f54 = some ⟨oc54, od54, .func (PySem.W.fnOf "has_sequence" "NoWorld.has_sequence" (defArgs (sWd 2)) (defBody (sWd 2)) (defScope (sWd 2)) .none kV54 dc54 pm54 an54 cd54 ct54), sl54⟩)
    (c54 : PySem.W.codeIn K cd54 "NoWorld.has_sequence" = true)
    (k54 : PySem.W.keepIn K (.ref f54) = true)
    (i54 : PySem.W.isFn K (.ref f54) = true)
    (p1 : PySem.W.findIn K (.ref CW) "programs" = some (some (.ref pp)))
    (p2 : PySem.W.specialIn K (.ref pp) "__get__" = some (some (.builtin "property.__get__")))
    (p3 : PySem.W.takesIn K (.ref pp) = some true)
    (a55 : PySem.W.recIn K pp "property" = some (.ref f55 :: rst))
    (l55 : K.lookup f55 = some ⟨oc55, od55, .func (PySem.W.fnOf "programs" "NoWorld.programs" (defArgs (sWd 0)) (defBody (sWd 0)) (defScope (sWd 0)) .none kV55 dc55 pm55 an55 cd55 ct55), sl55⟩)
    (c55 : PySem.W.codeIn K cd55 "NoWorld.programs" = true)
    (k55 : PySem.W.keepIn K (.ref f55) = true)
    (g1 : PySem.W.nsIn K mainGlobals "SIGNS" = some (some (.str (Str.ofString " !\"#$&'()*+,-./0123456789:;<=>?@ABCDEFGHIJKLMNOPQRSTUVWXYZ[\\]^_`abcdefghijklmnopqrstuvwxyz{|}~") t1)))
    (g2 : PySem.W.nsIn K mainGlobals "MAX_DEPTH" = some (some (.int 30 t2)))
    (g3 : PySem.W.nsIn K mainGlobals "MAX_PARTS" = some (some (.int 2000 t3)))
    (g4 : PySem.W.nsIn K mainGlobals "GREATEST" = some (some (.int (10 ^ 30) t4)))
    (g5 : PySem.W.nsIn K mainGlobals "LONGEST" = some (some (.int 40 t5)))
    (g6 : PySem.W.nsIn K mainGlobals "LETTERS" = some (some (.str (Str.ofString "abcdefghijklmnopqrstuvwxyz") t6)))
    (g7 : PySem.W.nsIn K mainGlobals "MOST_LETTERS" = some (some (.int 8 t7)))
    (mKINDS : PySem.W.nsIn K mainGlobals "KINDS" = some (some (.ref aKINDS)))
    (qKINDS : K.lookup aKINDS = some ⟨.type "tuple", o_aKINDS, .seq #[.str (Str.ofString "int") u1, .str (Str.ofString "text") u2, .str (Str.ofString "truth") u3] n_aKINDS, s_aKINDS⟩)
    (mOPERATORS : PySem.W.nsIn K mainGlobals "OPERATORS" = some (some (.ref aOPERATORS)))
    (qOPERATORS : K.lookup aOPERATORS = some ⟨.type "tuple", o_aOPERATORS, .seq #[.str (Str.ofString "+") u4, .str (Str.ofString "-") u5, .str (Str.ofString "*") u6, .str (Str.ofString "div") u7, .str (Str.ofString "mod") u8, .str (Str.ofString "join") u9, .str (Str.ofString "=") u10, .str (Str.ofString "<") u11, .str (Str.ofString "and") u12, .str (Str.ofString "or") u13] n_aOPERATORS, s_aOPERATORS⟩)
    (mARITHMETIC : PySem.W.nsIn K mainGlobals "ARITHMETIC" = some (some (.ref aARITHMETIC)))
    (qARITHMETIC : K.lookup aARITHMETIC = some ⟨.type "tuple", o_aARITHMETIC, .seq #[.str (Str.ofString "+") u14, .str (Str.ofString "-") u15, .str (Str.ofString "*") u16, .str (Str.ofString "div") u17, .str (Str.ofString "mod") u18] n_aARITHMETIC, s_aARITHMETIC⟩)
    (mGATHERING : PySem.W.nsIn K mainGlobals "GATHERING" = some (some (.ref aGATHERING)))
    (qGATHERING : K.lookup aGATHERING = some ⟨.type "tuple", o_aGATHERING, .seq #[.str (Str.ofString "count") u19, .str (Str.ofString "sum") u20, .str (Str.ofString "least") u21, .str (Str.ofString "most") u22] n_aGATHERING, s_aGATHERING⟩)
    (mHANDLING : PySem.W.nsIn K mainGlobals "HANDLING" = some (some (.ref aHANDLING)))
    (qHANDLING : K.lookup aHANDLING = some ⟨.type "tuple", o_aHANDLING, .seq #[.str (Str.ofString "word") u23, .str (Str.ofString "told") u24] n_aHANDLING, s_aHANDLING⟩)
    (mE : PySem.W.nsIn K mainGlobals "EXPRESSIONS" = some (some (.ref dE)))
    (lE : K.lookup dE = some ⟨.type "dict", none, .dict #[⟨h0, .str (Str.ofString "value") e0, .ref x0⟩, ⟨h1, .str (Str.ofString "var") e1, .ref x1⟩, ⟨h2, .str (Str.ofString "col") e2, .ref x2⟩, ⟨h3, .str (Str.ofString "field") e3, .ref x3⟩, ⟨h4, .str (Str.ofString "op") e4, .ref x4⟩, ⟨h5, .str (Str.ofString "not") e5, .ref x5⟩, ⟨h6, .str (Str.ofString "null") e6, .ref x6⟩, ⟨h7, .str (Str.ofString "case") e7, .ref x7⟩, ⟨h8, .str (Str.ofString "count") e8, .ref x8⟩, ⟨h9, .str (Str.ofString "sum") e9, .ref x9⟩, ⟨h10, .str (Str.ofString "least") e10, .ref x10⟩, ⟨h11, .str (Str.ofString "most") e11, .ref x11⟩, ⟨h12, .str (Str.ofString "number") e12, .ref x12⟩, ⟨h13, .str (Str.ofString "call") e13, .ref x13⟩, ⟨h14, .str (Str.ofString "word") e14, .ref x14⟩, ⟨h15, .str (Str.ofString "told") e15, .ref x15⟩] nE, #[]⟩)
    (y0 : K.lookup x0 = some ⟨.type "tuple", o_x0, .seq #[.str (Str.ofString "content") u25] n_x0, s_x0⟩)
    (v0 : PySem.W.nsIn K dE "value" = some (some (.ref x0)))
    (y1 : K.lookup x1 = some ⟨.type "tuple", o_x1, .seq #[.str (Str.ofString "word") u26] n_x1, s_x1⟩)
    (v1 : PySem.W.nsIn K dE "var" = some (some (.ref x1)))
    (y2 : K.lookup x2 = some ⟨.type "tuple", o_x2, .seq #[.str (Str.ofString "word") u27] n_x2, s_x2⟩)
    (v2 : PySem.W.nsIn K dE "col" = some (some (.ref x2)))
    (y3 : K.lookup x3 = some ⟨.type "tuple", o_x3, .seq #[.str (Str.ofString "word") u28, .str (Str.ofString "word") u29] n_x3, s_x3⟩)
    (v3 : PySem.W.nsIn K dE "field" = some (some (.ref x3)))
    (y4 : K.lookup x4 = some ⟨.type "tuple", o_x4, .seq #[.str (Str.ofString "operator") u30, .str (Str.ofString "expression") u31, .str (Str.ofString "expression") u32] n_x4, s_x4⟩)
    (v4 : PySem.W.nsIn K dE "op" = some (some (.ref x4)))
    (y5 : K.lookup x5 = some ⟨.type "tuple", o_x5, .seq #[.str (Str.ofString "expression") u33] n_x5, s_x5⟩)
    (v5 : PySem.W.nsIn K dE "not" = some (some (.ref x5)))
    (y6 : K.lookup x6 = some ⟨.type "tuple", o_x6, .seq #[.str (Str.ofString "expression") u34] n_x6, s_x6⟩)
    (v6 : PySem.W.nsIn K dE "null" = some (some (.ref x6)))
    (y7 : K.lookup x7 = some ⟨.type "tuple", o_x7, .seq #[.str (Str.ofString "expression") u35, .str (Str.ofString "expression") u36, .str (Str.ofString "expression") u37] n_x7, s_x7⟩)
    (v7 : PySem.W.nsIn K dE "case" = some (some (.ref x7)))
    (y8 : K.lookup x8 = some ⟨.type "tuple", o_x8, .seq #[.str (Str.ofString "word") u38, .str (Str.ofString "expression") u39] n_x8, s_x8⟩)
    (v8 : PySem.W.nsIn K dE "count" = some (some (.ref x8)))
    (y9 : K.lookup x9 = some ⟨.type "tuple", o_x9, .seq #[.str (Str.ofString "word") u40, .str (Str.ofString "expression") u41, .str (Str.ofString "expression") u42] n_x9, s_x9⟩)
    (v9 : PySem.W.nsIn K dE "sum" = some (some (.ref x9)))
    (y10 : K.lookup x10 = some ⟨.type "tuple", o_x10, .seq #[.str (Str.ofString "word") u43, .str (Str.ofString "expression") u44, .str (Str.ofString "expression") u45] n_x10, s_x10⟩)
    (v10 : PySem.W.nsIn K dE "least" = some (some (.ref x10)))
    (y11 : K.lookup x11 = some ⟨.type "tuple", o_x11, .seq #[.str (Str.ofString "word") u46, .str (Str.ofString "expression") u47, .str (Str.ofString "expression") u48] n_x11, s_x11⟩)
    (v11 : PySem.W.nsIn K dE "most" = some (some (.ref x11)))
    (y12 : K.lookup x12 = some ⟨.type "tuple", o_x12, .seq #[.str (Str.ofString "word") u49] n_x12, s_x12⟩)
    (v12 : PySem.W.nsIn K dE "number" = some (some (.ref x12)))
    (y13 : K.lookup x13 = some ⟨.type "tuple", o_x13, .seq #[.str (Str.ofString "word") u50, .str (Str.ofString "expressions") u51] n_x13, s_x13⟩)
    (v13 : PySem.W.nsIn K dE "call" = some (some (.ref x13)))
    (y14 : K.lookup x14 = some ⟨.type "tuple", o_x14, .seq #[] n_x14, s_x14⟩)
    (v14 : PySem.W.nsIn K dE "word" = some (some (.ref x14)))
    (y15 : K.lookup x15 = some ⟨.type "tuple", o_x15, .seq #[.str (Str.ofString "index") u52, .str (Str.ofString "kind") u53] n_x15, s_x15⟩)
    (v15 : PySem.W.nsIn K dE "told" = some (some (.ref x15)))
    (XBA : PySem.W.nsIn K mainGlobals "BadTree" = some (some (.ref CB)))
    (XBL : K.lookup CB = some (excClassObj nmB qB CB NnB bsB [.type "ValueError", .type "Exception", .type "BaseException", .type "object"] true snB subB abB colB ddB m0B m1B m2B m3B m5B "ValueError.__new__"))
    (XB1 : PySem.W.findIn K (.ref CB) "__setattr__" = some (some (.builtin "object.__setattr__")))
    (XB2 : PySem.W.findIn K (.ref CB) "__getattribute__" = some (some (.builtin "BaseException.__getattribute__")))
    (XB3 : PySem.W.findIn K (.ref CB) "__getattr__" = some none)
    (XBn0 : PySem.W.findIn K (.ref CB) "word" = some none)
    (XBn1 : PySem.W.findIn K (.ref CB) "path" = some none)
    (XB5 : PySem.W.findIn K (.ref CB) "__init__" = some (some (.ref fIB)))
    (XB6 : PySem.W.typeIn K (.ref fIB) = some (.type "function"))
    (XB7 : PySem.W.keepIn K (.ref CB) = true)
    (XB8 : PySem.W.subIn K (.ref CB) (.type "BaseException") = some true)
    (XB9 : PySem.W.subIn K (.ref CB) (.type "ValueError") = some true)
    (XB10 : PySem.W.typeIn K (.ref CB) = some (.type "type"))
    (XB11 : PySem.W.hasDictIn K CB = true)
    (XB12 : PySem.W.exmOne K (.ref CB) (.ref CB) = some true)
    (XB13 : PySem.W.mroIn K CB (.ref CB) = some true)
    (XB14 : PySem.W.ks_superIn K CB CB "__init__" = some (some (.builtin "ValueError.__init__")))
    (XB17 : K.lookup fIB = some ⟨ocIB, odIB, .func (PySem.W.ksFn "__init__" "BadTree.__init__" (defArgs xBadTree) (defBody xBadTree) (defScope xBadTree) .none .none dcIB pmIB anIB (.ref cdaB) ctIB ccB), slIB⟩)
    (XB18 : PySem.W.codeIn K (.ref cdaB) "BadTree.__init__" = true)
    (XB19 : K.lookup cdaB = some ⟨cclB, cddB, .fields vsB, ccsB⟩)
    (XB20 : K.lookup ccB = some ⟨clB, cldB, .cell (some (.ref CB)), cslB⟩)
    (XRA : PySem.W.nsIn K mainGlobals "Wrong" = some (some (.ref CR)))
    (XRL : K.lookup CR = some (excClassObj nmR qR CR NnR bsR [.type "Exception", .type "BaseException", .type "object"] true snR subR abR colR ddR m0R m1R m2R m3R m5R "Exception.__new__"))
    (XR1 : PySem.W.findIn K (.ref CR) "__setattr__" = some (some (.builtin "object.__setattr__")))
    (XR2 : PySem.W.findIn K (.ref CR) "__getattribute__" = some (some (.builtin "BaseException.__getattribute__")))
    (XR3 : PySem.W.findIn K (.ref CR) "__getattr__" = some none)
    (XRn0 : PySem.W.findIn K (.ref CR) "word" = some none)
    (XRn1 : PySem.W.findIn K (.ref CR) "reason" = some none)
    (XRn2 : PySem.W.findIn K (.ref CR) "path" = some none)
    (XR5 : PySem.W.findIn K (.ref CR) "__init__" = some (some (.ref fIR)))
    (XR6 : PySem.W.typeIn K (.ref fIR) = some (.type "function"))
    (XR7 : PySem.W.keepIn K (.ref CR) = true)
    (XR8 : PySem.W.subIn K (.ref CR) (.type "BaseException") = some true)
    (XR9 : PySem.W.subIn K (.ref CR) (.type "Exception") = some true)
    (XR10 : PySem.W.typeIn K (.ref CR) = some (.type "type"))
    (XR11 : PySem.W.hasDictIn K CR = true)
    (XR12 : PySem.W.exmOne K (.ref CR) (.ref CR) = some true)
    (XR13 : PySem.W.mroIn K CR (.ref CR) = some true)
    (XR14 : PySem.W.ks_superIn K CR CR "__init__" = some (some (.builtin "Exception.__init__")))
    (XR17 : K.lookup fIR = some ⟨ocIR, odIR, .func (PySem.W.ksFn "__init__" "Wrong.__init__" (defArgs xWrong) (defBody xWrong) (defScope xWrong) .none .none dcIR pmIR anIR (.ref cdaR) ctIR ccR), slIR⟩)
    (XR18 : PySem.W.codeIn K (.ref cdaR) "Wrong.__init__" = true)
    (XR19 : K.lookup cdaR = some ⟨cclR, cddR, .fields vsR, ccsR⟩)
    (XR20 : K.lookup ccR = some ⟨clR, cldR, .cell (some (.ref CR)), cslR⟩)
    (zx15 : PySem.W.nsIn K cStatics "thirdparty.any" = some none)
    (zx16 : PySem.W.nsIn K mainGlobals "super" = some none)
    (zx21 : PySem.W.findIn K (.ref CB) "__class__" = some (some (.builtin "object.__class__")))
    (zx22 : PySem.W.specialIn K (.builtin "object.__class__") "__get__" = some (some (.builtin "getset_descriptor.__get__")))
    (zx23 : PySem.W.takesIn K (.builtin "object.__class__") = some true)
    (zx24 : PySem.W.mroIn K CB (.type "object") = some true)
    (zx25 : PySem.W.kitOne K (.ref CB) (.type "ValueError") = some true)
    (zx26 : PySem.W.nsIn K mainGlobals "ValueError" = some none)
    (z1 : PySem.W.nsIn K mainGlobals "isinstance" = some none)
    (z2 : PySem.W.nsIn K mainGlobals "tuple" = some none)
    (z3 : PySem.W.nsIn K mainGlobals "str" = some none)
    (z4 : PySem.W.nsIn K mainGlobals "bool" = some none)
    (z5 : PySem.W.nsIn K mainGlobals "len" = some none)
    (z6 : PySem.W.nsIn K mainGlobals "int" = some none)
    (z7 : PySem.W.nsIn K mainGlobals "range" = some none)
    (z8 : PySem.W.nsIn K mainGlobals "repr" = some none)
    (z9 : PySem.W.nsIn K mainGlobals "list" = some none)
    (z10 : PySem.W.nsIn K mainGlobals "abs" = some none)
    (z11 : PySem.W.nsIn K mainGlobals "min" = some none)
    (z12 : PySem.W.nsIn K mainGlobals "all" = some none)
    (z13 : PySem.W.nsIn K mainGlobals "sum" = some none)
    (z14 : PySem.W.nsIn K mainGlobals "zip" = some none)
    (z15 : PySem.W.nsIn K mainGlobals "enumerate" = some none)
    (z16 : PySem.W.nsIn K mainGlobals "dict" = some none)
    (w1B : vsB[2]? = some (.str fileB tfB))
    (w2B : ((P.main.file : Str) == fileB) = true)
    (w1R : vsR[2]? = some (.str fileR tfR))
    (w2R : ((P.main.file : Str) == fileR) = true)
    (w3 : (P.main.scope.names.lookup ("super" : Str)).isSome = false)
    (hh0 : h0 = PyData.keyHash w.params (Str.ofString "value"))
    (hh1 : h1 = PyData.keyHash w.params (Str.ofString "var"))
    (hh2 : h2 = PyData.keyHash w.params (Str.ofString "col"))
    (hh3 : h3 = PyData.keyHash w.params (Str.ofString "field"))
    (hh4 : h4 = PyData.keyHash w.params (Str.ofString "op"))
    (hh5 : h5 = PyData.keyHash w.params (Str.ofString "not"))
    (hh6 : h6 = PyData.keyHash w.params (Str.ofString "null"))
    (hh7 : h7 = PyData.keyHash w.params (Str.ofString "case"))
    (hh8 : h8 = PyData.keyHash w.params (Str.ofString "count"))
    (hh9 : h9 = PyData.keyHash w.params (Str.ofString "sum"))
    (hh10 : h10 = PyData.keyHash w.params (Str.ofString "least"))
    (hh11 : h11 = PyData.keyHash w.params (Str.ofString "most"))
    (hh12 : h12 = PyData.keyHash w.params (Str.ofString "number"))
    (hh13 : h13 = PyData.keyHash w.params (Str.ofString "call"))
    (hh14 : h14 = PyData.keyHash w.params (Str.ofString "word"))
    (hh15 : h15 = PyData.keyHash w.params (Str.ofString "told"))
    (lowE : (dE == sysModules) = false) :
    ∃ fd : FuncData, Fun K "law" "law" sLaw7 fa fd ∧ (∀ (s : Shared) (u : Value), BindsTo s fd ⟨[u], []⟩ [("_law_script", u)]) ∧
      ∀ (bs : Heap) (s : Shared) (H : Hp) (cdv : Value) (a : Addr) (ns : List Int), K.In bs → bs.Ns mainGlobals mg → ns.length ≤ 63 → SqL K H a (ns.map V.int) → Room 41 (callerA.deeper (PyProof.Rows.envOfC "law" (defScope sLaw7) s.heap.objs.size fa cdv)) →
        ∃ t, PSs (cxOf CX0 P w K mg bs lawN "law" (defScope sLaw7) fa cdv callerA [] s H E0).nox (defBody sLaw7) t ∧
          t { nx := fun _ _ => False, rt := fun v _ => v = .bl true } (L2.start lawN [.ref a]) H := by
  have e := hfa.symm.trans (PySem.W.mg_of X G a49)
  cases e
  have B0 : Bn mg := ⟨PySem.W.mg_none_of X G z1, PySem.W.mg_none_of X G z2, PySem.W.mg_none_of X G z3, PySem.W.mg_none_of X G z4, PySem.W.mg_none_of X G z5, PySem.W.mg_none_of X G z6, PySem.W.mg_none_of X G z7, PySem.W.mg_none_of X G z8, PySem.W.mg_none_of X G z9, PySem.W.mg_none_of X G z10, PySem.W.mg_none_of X G z11⟩
  have B : Bn7 mg := ⟨B0, PySem.W.mg_none_of X G z12, PySem.W.mg_none_of X G z13, PySem.W.mg_none_of X G z14, PySem.W.mg_none_of X G z15, PySem.W.mg_none_of X G z16⟩
  have W : Wd K mg CW CS := ⟨⟨pgW, hdW, poW, saW⟩, ⟨pgS, hdS, poS, saS⟩, nW, nC, nV, nQ, nH⟩
  have F1 := fun_mk (st := sIsStr) l1 c1 k1
  have b1 := F1.binds (ps := ["value"]) fun _ _ _ _ _ _ us hl => match us, hl with | [_], _ => rfl
  have m1 := PySem.W.mg_of X G a1
  have F2 := fun_mk (st := sParts) l2 c2 k2
  have b2 := F2.binds (ps := ["value", "depth"]) fun _ _ _ _ _ _ us hl => match us, hl with | [_, _], _ => rfl
  have m2 := PySem.W.mg_of X G a2
  have F3 := fun_mk (st := sIsTree) l3 c3 k3
  have b3 := F3.binds (ps := ["value"]) fun _ _ _ _ _ _ us hl => match us, hl with | [_], _ => rfl
  have m3 := PySem.W.mg_of X G a3
  have F4 := fun_mk (st := sKV) l4 c4 k4
  have b4 := F4.binds (ps := ["value"]) fun _ _ _ _ _ _ us hl => match us, hl with | [_], _ => rfl
  have m4 := PySem.W.mg_of X G a4
  have F5 := fun_mk (st := sIsVal) l5 c5 k5
  have b5 := F5.binds (ps := ["value"]) fun _ _ _ _ _ _ us hl => match us, hl with | [_], _ => rfl
  have m5 := PySem.W.mg_of X G a5
  have F6 := fun_mk (st := sIsWord) l6 c6 k6
  have b6 := F6.binds (ps := ["value"]) fun _ _ _ _ _ _ us hl => match us, hl with | [_], _ => rfl
  have m6 := PySem.W.mg_of X G a6
  have F7 := fun_mk (st := sOneOf) l7 c7 k7
  have b7 := F7.binds (ps := ["value", "strings"]) fun _ _ _ _ _ _ us hl => match us, hl with | [_, _], _ => rfl
  have m7 := PySem.W.mg_of X G a7
  have F8 := fun_mk (st := sPlain) l8 c8 k8
  have b8 := F8.binds (ps := ["value"]) fun _ _ _ _ _ _ us hl => match us, hl with | [_], _ => rfl
  have m8 := PySem.W.mg_of X G a8
  have F9 := fun_mk (st := sHeaded) l9 c9 k9
  have b9 := F9.binds (ps := ["value", "shapes"]) fun _ _ _ _ _ _ us hl => match us, hl with | [_, _], _ => rfl
  have m9 := PySem.W.mg_of X G a9
  have F10 := fun_mk (st := sSimple) l10 c10 k10
  have b10 := F10.binds (ps := ["sort", "value"]) fun _ _ _ _ _ _ us hl => match us, hl with | [_, _], _ => rfl
  have m10 := PySem.W.mg_of X G a10
  have F11 := fun_mk (st := sPart) l11 c11 k11
  have b11 := F11.binds (ps := ["sort", "value"]) fun _ _ _ _ _ _ us hl => match us, hl with | [_, _], _ => rfl
  have m11 := PySem.W.mg_of X G a11
  have F12 := fun_mk (st := sForm) l12 c12 k12
  have b12 := F12.binds (ps := ["e"]) fun _ _ _ _ _ _ us hl => match us, hl with | [_], _ => rfl
  have m12 := PySem.W.mg_of X G a12
  have F13 := fun_mk (st := sPartsIn) l13 c13 k13
  have b13 := F13.binds (ps := ["e"]) fun _ _ _ _ _ _ us hl => match us, hl with | [_], _ => rfl
  have m13 := PySem.W.mg_of X G a13
  have F14 := fun_mk (st := sHead) l14 c14 k14
  have b14 := F14.binds (ps := ["e"]) fun _ _ _ _ _ _ us hl => match us, hl with | [_], _ => rfl
  have m14 := PySem.W.mg_of X G a14
  have F15 := fun_mk (st := sColK) l15 c15 k15
  have b15 := F15.binds (ps := ["scope", "word"]) fun _ _ _ _ _ _ us hl => match us, hl with | [_, _], _ => rfl
  have m15 := PySem.W.mg_of X G a15
  have F16 := fun_mk (st := sFunOf) l16 c16 k16
  have b16 := F16.binds (ps := ["scope", "word"]) fun _ _ _ _ _ _ us hl => match us, hl with | [_, _], _ => rfl
  have m16 := PySem.W.mg_of X G a16
  have F17 := fun_mk (st := sThere) l17 c17 k17
  have b17 := F17.binds (ps := ["e", "scope"]) fun _ _ _ _ _ _ us hl => match us, hl with | [_, _], _ => rfl
  have m17 := PySem.W.mg_of X G a17
  have F18 := fun_mk (st := sAllow) l18 c18 k18
  have b18 := F18.binds (ps := ["e", "scope", "path"]) fun _ _ _ _ _ _ us hl => match us, hl with | [_, _, _], _ => rfl
  have m18 := PySem.W.mg_of X G a18
  have F19 := fun_mk (st := sWant) l19 c19 k19
  have b19 := F19.binds (ps := ["e", "found", "scope"]) fun _ _ _ _ _ _ us hl => match us, hl with | [_, _, _], _ => rfl
  have m19 := PySem.W.mg_of X G a19
  have F20 := fun_mk (st := sFit) l20 c20 k20
  have b20 := F20.binds (ps := ["kind", "wanted"]) fun _ _ _ _ _ _ us hl => match us, hl with | [_, _], _ => rfl
  have m20 := PySem.W.mg_of X G a20
  have F21 := fun_mk (st := sNeedK) l21 c21 k21
  have b21 := F21.binds (ps := ["e", "found", "scope", "path"]) fun _ _ _ _ _ _ us hl => match us, hl with | [_, _, _, _], _ => rfl
  have m21 := PySem.W.mg_of X G a21
  have F22 := fun_mk (st := sOwn) l22 c22 k22
  have b22 := F22.binds (ps := ["e", "found", "scope"]) fun _ _ _ _ _ _ us hl => match us, hl with | [_, _, _], _ => rfl
  have m22 := PySem.W.mg_of X G a22
  have F23 := fun_mk (st := sKindOf) l23 c23 k23
  have b23 := F23.binds (ps := ["e", "columns", "variables"]) fun _ _ _ _ _ _ us hl => match us, hl with | [_, _, _], _ => rfl
  have m23 := PySem.W.mg_of X G a23
  have F24 := fun_mk (st := sPen) l24 c24 k24
  have b24 := F24.binds (ps := ["_law_script"]) fun _ _ _ _ _ _ us hl => match us, hl with | [_], _ => rfl
  have m24 := PySem.W.mg_of X G a24
  have F25 := fun_mk (st := sDraw) l25 c25 k25
  have b25 := F25.binds (ps := ["_law_pen_here", "_law_many"]) fun _ _ _ _ _ _ us hl => match us, hl with | [_, _], _ => rfl
  have m25 := PySem.W.mg_of X G a25
  have F26 := fun_mk (st := sPick) l26 c26 k26
  have b26 := F26.binds (ps := ["_law_pen_here", "_law_items"]) fun _ _ _ _ _ _ us hl => match us, hl with | [_, _], _ => rfl
  have m26 := PySem.W.mg_of X G a26
  have F27 := fun_mk (st := sShuf) l27 c27 k27
  have b27 := F27.binds (ps := ["_law_pen_here", "_law_items"]) fun _ _ _ _ _ _ us hl => match us, hl with | [_, _], _ => rfl
  have m27 := PySem.W.mg_of X G a27
  have F28 := fun_mk (st := sWords) l28 c28 k28
  have b28 := F28.binds (ps := ["_law_pen_here", "_law_many"]) fun _ _ _ _ _ _ us hl => match us, hl with | [_, _], _ => rfl
  have m28 := PySem.W.mg_of X G a28
  have F29 := fun_mk (st := sInt) l29 c29 k29
  have b29 := F29.binds (ps := ["_law_pen_here"]) fun _ _ _ _ _ _ us hl => match us, hl with | [_], _ => rfl
  have m29 := PySem.W.mg_of X G a29
  have F30 := fun_mk (st := sText) l30 c30 k30
  have b30 := F30.binds (ps := ["_law_pen_here"]) fun _ _ _ _ _ _ us hl => match us, hl with | [_], _ => rfl
  have m30 := PySem.W.mg_of X G a30
  have F31 := fun_mk (st := sPlainL) l31 c31 k31
  have b31 := F31.binds (ps := ["_law_pen_here", "_law_kind_here"]) fun _ _ _ _ _ _ us hl => match us, hl with | [_, _], _ => rfl
  have m31 := PySem.W.mg_of X G a31
  have F32 := fun_mk (st := sLeaf) l32 c32 k32
  have b32 := F32.binds (ps := ["_law_pen_here", "_law_kind_here", "_law_place"]) fun _ _ _ _ _ _ us hl => match us, hl with | [_, _, _], _ => rfl
  have m32 := PySem.W.mg_of X G a32
  have F33 := fun_mk (st := sITree) l33 c33 k33
  have b33 := F33.binds (ps := ["_law_pen_here", "_law_deep", "_law_place"]) fun _ _ _ _ _ _ us hl => match us, hl with | [_, _, _], _ => rfl
  have m33 := PySem.W.mg_of X G a33
  have F34 := fun_mk (st := sTTree) l34 c34 k34
  have b34 := F34.binds (ps := ["_law_pen_here", "_law_deep", "_law_place"]) fun _ _ _ _ _ _ us hl => match us, hl with | [_, _, _], _ => rfl
  have m34 := PySem.W.mg_of X G a34
  have F35 := fun_mk (st := sTree) l35 c35 k35
  have b35 := F35.binds (ps := ["_law_pen_here", "_law_kind_here", "_law_deep", "_law_place"]) fun _ _ _ _ _ _ us hl => match us, hl with | [_, _, _, _], _ => rfl
  have m35 := PySem.W.mg_of X G a35
  have F36 := fun_mk (st := sLWord) l36 c36 k36
  have b36 := F36.binds (ps := ["_law_thing"]) fun _ _ _ _ _ _ us hl => match us, hl with | [_], _ => rfl
  have m36 := PySem.W.mg_of X G a36
  have F37 := fun_mk (st := sLText) l37 c37 k37
  have b37 := F37.binds (ps := ["_law_thing"]) fun _ _ _ _ _ _ us hl => match us, hl with | [_], _ => rfl
  have m37 := PySem.W.mg_of X G a37
  have F38 := fun_mk (st := sLKind) l38 c38 k38
  have b38 := F38.binds (ps := ["_law_thing"]) fun _ _ _ _ _ _ us hl => match us, hl with | [_], _ => rfl
  have m38 := PySem.W.mg_of X G a38
  have F39 := fun_mk (st := sLForm) l39 c39 k39
  have b39 := F39.binds (ps := ["_law_e"]) fun _ _ _ _ _ _ us hl => match us, hl with | [_], _ => rfl
  have m39 := PySem.W.mg_of X G a39
  have F40 := fun_mk (st := sLKnown) l40 c40 k40
  have b40 := F40.binds (ps := ["_law_e", "_law_place"]) fun _ _ _ _ _ _ us hl => match us, hl with | [_, _], _ => rfl
  have m40 := PySem.W.mg_of X G a40
  have F41 := fun_mk (st := sLSteps) l41 c41 k41
  have b41 := F41.binds (ps := ["_law_e"]) fun _ _ _ _ _ _ us hl => match us, hl with | [_], _ => rfl
  have m41 := PySem.W.mg_of X G a41
  have F42 := fun_mk (st := sLWant) l42 c42 k42
  have b42 := F42.binds (ps := ["_law_e", "_law_found_here"]) fun _ _ _ _ _ _ us hl => match us, hl with | [_, _], _ => rfl
  have m42 := PySem.W.mg_of X G a42
  have F43 := fun_mk (st := sLOwn) l43 c43 k43
  have b43 := F43.binds (ps := ["_law_e", "_law_found_here", "_law_place"]) fun _ _ _ _ _ _ us hl => match us, hl with | [_, _, _], _ => rfl
  have m43 := PySem.W.mg_of X G a43
  have F44 := fun_mk (st := sLK) l44 c44 k44
  have b44 := F44.binds (ps := ["_law_e", "_law_place", "_law_path"]) fun _ _ _ _ _ _ us hl => match us, hl with | [_, _, _], _ => rfl
  have m44 := PySem.W.mg_of X G a44
  have F45 := fun_mk (st := sOdd) l45 c45 k45
  have b45 := F45.binds (ps := ["_law_pen_here"]) fun _ _ _ _ _ _ us hl => match us, hl with | [_], _ => rfl
  have m45 := PySem.W.mg_of X G a45
  have F46 := fun_mk (st := sBent) l46 c46 k46
  have b46 := F46.binds (ps := ["_law_pen_here", "_law_e"]) fun _ _ _ _ _ _ us hl => match us, hl with | [_, _], _ => rfl
  have m46 := PySem.W.mg_of X G a46
  have F47 := fun_mk (st := sFound) l47 c47 k47
  have b47 := F47.binds (ps := ["_law_e", "_law_columns", "_law_variables"]) fun _ _ _ _ _ _ us hl => match us, hl with | [_, _, _], _ => rfl
  have m47 := PySem.W.mg_of X G a47
  have F48 := fun_mk (st := sWV) l48 c48 k48
  have b48 := F48.binds (ps := ["_law_pen_here", "_law_e", "_law_names"]) fun _ _ _ _ _ _ us hl => match us, hl with | [_, _, _], _ => rfl
  have m48 := PySem.W.mg_of X G a48
  have F49 := fun_mk (st := sLaw7) l49 c49 k49
  have b49 := F49.binds (ps := ["_law_script"]) fun _ _ _ _ _ _ us hl => match us, hl with | [_], _ => rfl
  have m49 := PySem.W.mg_of X G a49
  have F53 := fun_mk (st := sWd 1) l53 c53 k53
  have b53 := F53.binds (ps := ["self", "word"]) fun _ _ _ _ _ _ us hl => match us, hl with | [_, _], _ => rfl
  have F54 := fun_mk (st := sWd 2) l54 c54 k54
  have b54 := F54.binds (ps := ["self", "word"]) fun _ _ _ _ _ _ us hl => match us, hl with | [_, _], _ => rfl
  have F55 := fun_mk (st := sWd 0) l55 c55 k55
  have b55 := F55.binds (ps := ["self"]) fun _ _ _ _ _ _ us hl => match us, hl with | [_], _ => rfl
  have FT : FunD K "is_tuple" "is_tuple" (defArgs sIsTup) (defBody sIsTup) (defScope sIsTup) [.non] [] f50 _ := ⟨⟨oc50, od50, .ref T1, kV50, dc50, pm50, an50, cd50, ct50, sl50, rfl, l50, c50, .inr ⟨by simp, T1, _, [.none], nT1, rfl, d1, rfl, .cons rfl .nil⟩, .inl rfl⟩, k50⟩
  have FL : FunD K "look" "look" (defArgs sLook) (defBody sLook) (defScope sLook) [.ref aE] [] f51 _ := ⟨⟨oc51, od51, .ref T2, kV51, dc51, pm51, an51, cd51, ct51, sl51, rfl, l51, c51, .inr ⟨by simp, T2, _, [.ref aE], nT2, rfl, d2, rfl, .cons rfl .nil⟩, .inl rfl⟩, k51⟩
  have FK : FunD K "__init__" "KindScope.__init__" (defArgs (sKS 0)) (defBody (sKS 0)) (defScope (sKS 0)) [.bl false, .bl false] [] f52 _ := ⟨⟨oc52, od52, .ref T3, kV52, dc52, pm52, an52, cd52, ct52, sl52, rfl, l52, c52, .inr ⟨by simp, T3, _, [.bool false, .bool false], nT3, rfl, d3, rfl, .cons rfl (.cons rfl .nil)⟩, .inl rfl⟩, k52⟩
  have bT := FT.binds1 (ps := ["value", "size"]) 1 0 (by simp) rfl (fun T kV doc pm an cdv ct us its hl hi => by
    match us, its, hl, hi with
    | [u], [x], _, _ => exact ⟨_, rfl, rfl⟩)
  have bL := FL.binds1 (ps := ["e", "scope", "path"]) 2 0 (by simp) rfl (fun T kV doc pm an cdv ct us its hl hi => by
    match us, its, hl, hi with
    | [u1, u2], [x], _, _ => exact ⟨_, rfl, rfl⟩)
  have bL3 := FL.binds1 (ps := ["e", "scope", "path"]) 3 1 (by simp) rfl (fun T kV doc pm an cdv ct us its hl hi => by
    match us, its, hl, hi with
    | [u1, u2, u3], [x], _, _ => exact ⟨_, rfl, rfl⟩)
  have bK := FK.binds1 (ps := ["self", "world", "columns", "variables", "is_quiet", "is_handling"]) 4 0 (by simp) rfl (fun T kV doc pm an cdv ct us its hl hi => by
    match us, its, hl, hi with
    | [u1, u2, u3, u4], [x, y], _, _ => exact ⟨_, rfl, rfl⟩)
  obtain ⟨dL3, vL3, bL3'⟩ := bL3
  cases vL3
  have mT := PySem.W.mg_of X G a50
  have mL := PySem.W.mg_of X G a51
  have KKINDS : ∃ a, mg "KINDS" = some (.ref a) ∧ KSq K a (kindsL.map V.str) := ⟨_, PySem.W.mg_of X G mKINDS, _, _, _, qKINDS, rfl, rfl, (by show 3 ≤ sizeLine; decide), (.cons ⟨_, rfl⟩ (.cons ⟨_, rfl⟩ (.cons ⟨_, rfl⟩ .nil)))⟩
  have KOPERATORS : ∃ a, mg "OPERATORS" = some (.ref a) ∧ KSq K a (opsL.map V.str) := ⟨_, PySem.W.mg_of X G mOPERATORS, _, _, _, qOPERATORS, rfl, rfl, (by show 10 ≤ sizeLine; decide), (.cons ⟨_, rfl⟩ (.cons ⟨_, rfl⟩ (.cons ⟨_, rfl⟩ (.cons ⟨_, rfl⟩ (.cons ⟨_, rfl⟩ (.cons ⟨_, rfl⟩ (.cons ⟨_, rfl⟩ (.cons ⟨_, rfl⟩ (.cons ⟨_, rfl⟩ (.cons ⟨_, rfl⟩ .nil))))))))))⟩
  have KARITHMETIC : ∃ a, mg "ARITHMETIC" = some (.ref a) ∧ KSq K a (arithL.map V.str) := ⟨_, PySem.W.mg_of X G mARITHMETIC, _, _, _, qARITHMETIC, rfl, rfl, (by show 5 ≤ sizeLine; decide), (.cons ⟨_, rfl⟩ (.cons ⟨_, rfl⟩ (.cons ⟨_, rfl⟩ (.cons ⟨_, rfl⟩ (.cons ⟨_, rfl⟩ .nil)))))⟩
  have KGATHERING : ∃ a, mg "GATHERING" = some (.ref a) ∧ KSq K a (gathL.map V.str) := ⟨_, PySem.W.mg_of X G mGATHERING, _, _, _, qGATHERING, rfl, rfl, (by show 4 ≤ sizeLine; decide), (.cons ⟨_, rfl⟩ (.cons ⟨_, rfl⟩ (.cons ⟨_, rfl⟩ (.cons ⟨_, rfl⟩ .nil))))⟩
  have KHANDLING : ∃ a, mg "HANDLING" = some (.ref a) ∧ KSq K a (handL.map V.str) := ⟨_, PySem.W.mg_of X G mHANDLING, _, _, _, qHANDLING, rfl, rfl, (by show 2 ≤ sizeLine; decide), (.cons ⟨_, rfl⟩ (.cons ⟨_, rfl⟩ .nil))⟩
  have cS : ∃ t, mg "SIGNS" = some (.str (S sgnList) t) := ⟨t1, by rw [← sgn_ofs]; exact PySem.W.mg_of X G g1⟩
  have cL : ∃ t, mg "LETTERS" = some (.str (S lettersC) t) := ⟨t6, by rw [← elet]; exact PySem.W.mg_of X G g6⟩
  have XE : Exs K w mg dE [("value", x0), ("var", x1), ("col", x2), ("field", x3), ("op", x4), ("not", x5), ("null", x6), ("case", x7), ("count", x8), ("sum", x9), ("least", x10), ("most", x11), ("number", x12), ("call", x13), ("word", x14), ("told", x15)] := by
    have lit : PySem.W.KeysLit w.params ([⟨h0, .str (Str.ofString "value") e0, .ref x0⟩, ⟨h1, .str (Str.ofString "var") e1, .ref x1⟩, ⟨h2, .str (Str.ofString "col") e2, .ref x2⟩, ⟨h3, .str (Str.ofString "field") e3, .ref x3⟩, ⟨h4, .str (Str.ofString "op") e4, .ref x4⟩, ⟨h5, .str (Str.ofString "not") e5, .ref x5⟩, ⟨h6, .str (Str.ofString "null") e6, .ref x6⟩, ⟨h7, .str (Str.ofString "case") e7, .ref x7⟩, ⟨h8, .str (Str.ofString "count") e8, .ref x8⟩, ⟨h9, .str (Str.ofString "sum") e9, .ref x9⟩, ⟨h10, .str (Str.ofString "least") e10, .ref x10⟩, ⟨h11, .str (Str.ofString "most") e11, .ref x11⟩, ⟨h12, .str (Str.ofString "number") e12, .ref x12⟩, ⟨h13, .str (Str.ofString "call") e13, .ref x13⟩, ⟨h14, .str (Str.ofString "word") e14, .ref x14⟩, ⟨h15, .str (Str.ofString "told") e15, .ref x15⟩] : List DictEntry) := ⟨⟨_, _, rfl, hh0⟩, ⟨⟨_, _, rfl, hh1⟩, ⟨⟨_, _, rfl, hh2⟩, ⟨⟨_, _, rfl, hh3⟩, ⟨⟨_, _, rfl, hh4⟩, ⟨⟨_, _, rfl, hh5⟩, ⟨⟨_, _, rfl, hh6⟩, ⟨⟨_, _, rfl, hh7⟩, ⟨⟨_, _, rfl, hh8⟩, ⟨⟨_, _, rfl, hh9⟩, ⟨⟨_, _, rfl, hh10⟩, ⟨⟨_, _, rfl, hh11⟩, ⟨⟨_, _, rfl, hh12⟩, ⟨⟨_, _, rfl, hh13⟩, ⟨⟨_, _, rfl, hh14⟩, ⟨⟨_, _, rfl, hh15⟩, trivial⟩⟩⟩⟩⟩⟩⟩⟩⟩⟩⟩⟩⟩⟩⟩⟩
    refine ⟨PySem.W.mg_of X G mE, ⟨[("value", e0, .ref x0), ("var", e1, .ref x1), ("col", e2, .ref x2), ("field", e3, .ref x3), ("op", e4, .ref x4), ("not", e5, .ref x5), ("null", e6, .ref x6), ("case", e7, .ref x7), ("count", e8, .ref x8), ("sum", e9, .ref x9), ("least", e10, .ref x10), ("most", e11, .ref x11), ("number", e12, .ref x12), ("call", e13, .ref x13), ("word", e14, .ref x14), ("told", e15, .ref x15)], ⟨⟨nE, ?_⟩, (by show (exprs.map (·.1)).Nodup; decide +kernel), lowE, (by show 16 ≤ 1000; decide)⟩, rfl⟩, ?_, (.cons ⟨rfl, ⟨_, _, _, y0, rfl, rfl, (by show 1 ≤ sizeLine; decide), (.cons ⟨_, rfl⟩ .nil)⟩⟩ (.cons ⟨rfl, ⟨_, _, _, y1, rfl, rfl, (by show 1 ≤ sizeLine; decide), (.cons ⟨_, rfl⟩ .nil)⟩⟩ (.cons ⟨rfl, ⟨_, _, _, y2, rfl, rfl, (by show 1 ≤ sizeLine; decide), (.cons ⟨_, rfl⟩ .nil)⟩⟩ (.cons ⟨rfl, ⟨_, _, _, y3, rfl, rfl, (by show 2 ≤ sizeLine; decide), (.cons ⟨_, rfl⟩ (.cons ⟨_, rfl⟩ .nil))⟩⟩ (.cons ⟨rfl, ⟨_, _, _, y4, rfl, rfl, (by show 3 ≤ sizeLine; decide), (.cons ⟨_, rfl⟩ (.cons ⟨_, rfl⟩ (.cons ⟨_, rfl⟩ .nil)))⟩⟩ (.cons ⟨rfl, ⟨_, _, _, y5, rfl, rfl, (by show 1 ≤ sizeLine; decide), (.cons ⟨_, rfl⟩ .nil)⟩⟩ (.cons ⟨rfl, ⟨_, _, _, y6, rfl, rfl, (by show 1 ≤ sizeLine; decide), (.cons ⟨_, rfl⟩ .nil)⟩⟩ (.cons ⟨rfl, ⟨_, _, _, y7, rfl, rfl, (by show 3 ≤ sizeLine; decide), (.cons ⟨_, rfl⟩ (.cons ⟨_, rfl⟩ (.cons ⟨_, rfl⟩ .nil)))⟩⟩ (.cons ⟨rfl, ⟨_, _, _, y8, rfl, rfl, (by show 2 ≤ sizeLine; decide), (.cons ⟨_, rfl⟩ (.cons ⟨_, rfl⟩ .nil))⟩⟩ (.cons ⟨rfl, ⟨_, _, _, y9, rfl, rfl, (by show 3 ≤ sizeLine; decide), (.cons ⟨_, rfl⟩ (.cons ⟨_, rfl⟩ (.cons ⟨_, rfl⟩ .nil)))⟩⟩ (.cons ⟨rfl, ⟨_, _, _, y10, rfl, rfl, (by show 3 ≤ sizeLine; decide), (.cons ⟨_, rfl⟩ (.cons ⟨_, rfl⟩ (.cons ⟨_, rfl⟩ .nil)))⟩⟩ (.cons ⟨rfl, ⟨_, _, _, y11, rfl, rfl, (by show 3 ≤ sizeLine; decide), (.cons ⟨_, rfl⟩ (.cons ⟨_, rfl⟩ (.cons ⟨_, rfl⟩ .nil)))⟩⟩ (.cons ⟨rfl, ⟨_, _, _, y12, rfl, rfl, (by show 1 ≤ sizeLine; decide), (.cons ⟨_, rfl⟩ .nil)⟩⟩ (.cons ⟨rfl, ⟨_, _, _, y13, rfl, rfl, (by show 2 ≤ sizeLine; decide), (.cons ⟨_, rfl⟩ (.cons ⟨_, rfl⟩ .nil))⟩⟩ (.cons ⟨rfl, ⟨_, _, _, y14, rfl, rfl, (by show 0 ≤ sizeLine; decide), .nil⟩⟩ (.cons ⟨rfl, ⟨_, _, _, y15, rfl, rfl, (by show 2 ≤ sizeLine; decide), (.cons ⟨_, rfl⟩ (.cons ⟨_, rfl⟩ .nil))⟩⟩ .nil))))))))))))))))⟩
    · rw [lE, hh0, hh1, hh2, hh3, hh4, hh5, hh6, hh7, hh8, hh9, hh10, hh11, hh12, hh13, hh14, hh15]
      rfl
    · intro e he
      simp only [List.mem_cons, List.not_mem_nil, or_false] at he
      rcases he with rfl | rfl | rfl | rfl | rfl | rfl | rfl | rfl | rfl | rfl | rfl | rfl | rfl | rfl | rfl | rfl
      · exact ⟨_, nE, _, lE, lit, v0, rfl⟩
      · exact ⟨_, nE, _, lE, lit, v1, rfl⟩
      · exact ⟨_, nE, _, lE, lit, v2, rfl⟩
      · exact ⟨_, nE, _, lE, lit, v3, rfl⟩
      · exact ⟨_, nE, _, lE, lit, v4, rfl⟩
      · exact ⟨_, nE, _, lE, lit, v5, rfl⟩
      · exact ⟨_, nE, _, lE, lit, v6, rfl⟩
      · exact ⟨_, nE, _, lE, lit, v7, rfl⟩
      · exact ⟨_, nE, _, lE, lit, v8, rfl⟩
      · exact ⟨_, nE, _, lE, lit, v9, rfl⟩
      · exact ⟨_, nE, _, lE, lit, v10, rfl⟩
      · exact ⟨_, nE, _, lE, lit, v11, rfl⟩
      · exact ⟨_, nE, _, lE, lit, v12, rfl⟩
      · exact ⟨_, nE, _, lE, lit, v13, rfl⟩
      · exact ⟨_, nE, _, lE, lit, v14, rfl⟩
      · exact ⟨_, nE, _, lE, lit, v15, rfl⟩
  have TB : ExTx P K mg "BadTree" "ValueError" "ValueError.__new__" "ValueError.__init__" bmV CB fIB ["word", "path"] :=
    { gC := PySem.W.mg_of X G XBA, cls := ⟨_, _, _, _, _, _, _, _, _, _, _, _, _, _, XBL⟩, sa := XB1, ga := XB2, gg := XB3,
      noN := fun f hf => by
        simp only [List.mem_cons, List.not_mem_nil, or_false] at hf
        rcases hf with rfl | rfl
        · exact XBn0
        · exact XBn1
      iC := XB5, tC := XB6, kC := XB7, exC := XB8, veC := XB9, tyC := XB10, hdC := XB11, te := XB12, mro := XB13, along := XB14, third := zx15, sup := PySem.W.mg_none_of X G zx16, top := w3 }
  have OB := exOk_BadTree (w := w) TB ⟨ocIB, odIB, dcIB, pmIB, anIB, cdaB, ccB, ctIB, slIB, cclB, clB, cddB, cldB, vsB, ccsB, cslB, fileB, tfB, XB17, XB18, XB19, w1B, w2B, XB20⟩
  have TR : ExTx P K mg "Wrong" "Exception" "Exception.__new__" "Exception.__init__" bmE CR fIR ["word", "reason", "path"] :=
    { gC := PySem.W.mg_of X G XRA, cls := ⟨_, _, _, _, _, _, _, _, _, _, _, _, _, _, XRL⟩, sa := XR1, ga := XR2, gg := XR3,
      noN := fun f hf => by
        simp only [List.mem_cons, List.not_mem_nil, or_false] at hf
        rcases hf with rfl | rfl | rfl
        · exact XRn0
        · exact XRn1
        · exact XRn2
      iC := XR5, tC := XR6, kC := XR7, exC := XR8, veC := XR9, tyC := XR10, hdC := XR11, te := XR12, mro := XR13, along := XR14, third := zx15, sup := PySem.W.mg_none_of X G zx16, top := w3 }
  have OR := exOk_Wrong (w := w) TR ⟨ocIR, odIR, dcIR, pmIR, anIR, cdaR, ccR, ctIR, slIR, cclR, clR, cddR, cldR, vsR, ccsR, cslR, fileR, tfR, XR17, XR18, XR19, w1R, w2R, XR20⟩
  have XC : ExcC K CB := ⟨XB2, XB3, XB8, XB11, zx21, zx22, zx23, zx24⟩
  refine ⟨_, F49, fun s u => .of_eq rfl, fun bs s H cdv a ns _ _ h63 hS hr => ?_⟩
  have dStr : Cal P w K mg bs CX0 1 "is_string" ["value"] [] (spD K (fun _ => True) fun t => .bl (isiB "str" t)) := ⟨⟨f1, _, [], m1, k1, .nil, b1, ok_isStr (k := 0) B cS F1⟩⟩
  have dParts : Cal P w K mg bs CX0 32 "parts_of" ["value", "depth"] [] (spParts K 30) := ⟨⟨f2, _, [], m2, k2, .nil, b2, ok_parts B cS F2 m2 b2 F1 m1 b1 30⟩⟩
  have dTree : Cal P w K mg bs CX0 33 "is_tree" ["value"] [] (spD K (fun t => hgt t ≤ 30 ∧ cnt t ≤ 2000) fun _ => .bl true) := ⟨⟨f3, _, [], m3, k3, .nil, b3, ok_isTree (k := 0) ⟨t2, PySem.W.mg_of X G g2⟩ ⟨t3, PySem.W.mg_of X G g3⟩ dParts F3⟩⟩
  have dKV : Cal P w K mg bs CX0 2 "kind_of_value" ["value"] [] (spD K (fun _ => True) fun t => kdV (kvM t)) := ⟨⟨f4, _, [], m4, k4, .nil, b4, ok_kv (k := 0) B ⟨t4, PySem.W.mg_of X G g4⟩ ⟨t5, PySem.W.mg_of X G g5⟩ dStr F4⟩⟩
  have dVal : Cal P w K mg bs CX0 3 "is_value" ["value"] [] (spD K (fun _ => True) fun t => .bl (isValM t)) := ⟨⟨f5, _, [], m5, k5, .nil, b5, ok_isVal (k := 0) dKV F5⟩⟩
  have dWord : Cal P w K mg bs CX0 1 "is_word" ["value"] [] (spD K (fun _ => True) fun t => .bl (isWordM t)) := ⟨⟨f6, _, [], m6, k6, .nil, b6, ok_isWord (k := 0) B cL ⟨t7, PySem.W.mg_of X G g7⟩ F6⟩⟩
  have dOne : Cal P w K mg bs CX0 1 "is_one_of" ["value", "strings"] [] (spOneOf K) := ⟨⟨f7, _, [], m7, k7, .nil, b7, ok_oneOf (k := 0) B F7⟩⟩
  have dPlain : Cal P w K mg bs CX0 2 "is_plain" ["value"] [] (spD K (fun _ => True) fun t => .bl (oneOfM kindsL t)) := ⟨⟨f8, _, [], m8, k8, .nil, b8, ok_plain (k := 0) KKINDS dOne F8⟩⟩
  have dTup : Cal P w K mg bs CX0 1 "is_tuple" ["value", "size"] [.non] (spIsTup K) := by
    obtain ⟨ds, v, b⟩ := bT
    exact ⟨⟨f50, _, ds, mT, k50, v, b, ok_isTup (k := 0) B FT⟩⟩
  have dHeaded : Cal P w K mg bs CX0 2 "is_headed" ["value", "shapes"] [] (spHeaded K [("value", x0), ("var", x1), ("col", x2), ("field", x3), ("op", x4), ("not", x5), ("null", x6), ("case", x7), ("count", x8), ("sum", x9), ("least", x10), ("most", x11), ("number", x12), ("call", x13), ("word", x14), ("told", x15)]) := ⟨⟨f9, _, [], m9, k9, .nil, b9, ok_headed (k := 0) B XE dTup F9⟩⟩
  have dSimple : Cal P w K mg bs CX0 4 "is_simple_part" ["sort", "value"] [] (spSort K) := ⟨⟨f10, _, [], m10, k10, .nil, b10, ok_simple (k := 0) B KOPERATORS dWord dVal dOne dPlain F10⟩⟩
  have dPart : Cal P w K mg bs CX0 5 "is_part" ["sort", "value"] [] (spSort K) := ⟨⟨f11, _, [], m11, k11, .nil, b11, ok_part (k := 0) dSimple F11⟩⟩
  have dForm : Cal P w K mg bs CX0 6 "has_form" ["e"] [] (spD K (fun t => hgt t ≤ 60) fun t => .bl (formM t)) := ⟨⟨f12, _, [], m12, k12, .nil, b12, ok_form (k := 0) B XE dTup dHeaded dPart F12⟩⟩
  have dPIn : Cal P w K mg bs CX0 1 "parts_in" ["e"] [] (spPartsIn K) := ⟨⟨f13, _, [], m13, k13, .nil, b13, ok_partsIn (k := 0) B XE F13⟩⟩
  have dHead : Cal P w K mg bs CX0 1 "head_of" ["e"] [] (spD K (fun t => hgt t ≤ 60) fun t => .str (headM t)) := ⟨⟨f14, _, [], m14, k14, .nil, b14, ok_head (k := 0) B F14⟩⟩
  have dFit : Cal P w K mg bs CX0 1 "is_fitting" ["kind", "wanted"] [] (spFit K) := ⟨⟨f20, _, [], m20, k20, .nil, b20, ok_fit (k := 0) KKINDS F20⟩⟩
  have dWant : Cal P w K mg bs CX0 1 "kinds_wanted" ["e", "found", "scope"] [] (spWant K) := ⟨⟨f19, _, [], m19, k19, .nil, b19, ok_want (k := 0) B KKINDS KARITHMETIC F19⟩⟩
  have dNeedK : Cal P w K mg bs (L2N.CX P w) 7 "need_kinds" ["e", "found", "scope", "path"] [] (spNeedK K CR) := ⟨⟨f21, _, [], m21, k21, .nil, b21, ok_needK (k := 0) B OR dWant dPIn dFit dHead F21⟩⟩
  have MC : MM K CW "columns_of" "NoWorld.columns_of" (sWd 1) ["self", "word"] f53 _ := ⟨F53, ⟨a53, i53, k53⟩, b53⟩
  have MQ : MM K CW "has_sequence" "NoWorld.has_sequence" (sWd 2) ["self", "word"] f54 _ := ⟨F54, ⟨a54, i54, k54⟩, b54⟩
  have PR : PropOf K CW "programs" pp f55 := ⟨p1, p2, p3, ⟨_, a55⟩⟩
  have hE : KSq K aE [] := ⟨_, _, _, d4, rfl, rfl, (by show 0 ≤ sizeLine; decide), .nil⟩
  have kindOf : ∀ cols vars : Kinds, (KdOk cols ∧ KdOk vars) → FnOk P w K mg bs (L2.CX P w) 40 f23 (PySem.W.fnOf "kind_of" "kind_of" (defArgs sKindOf) (defBody sKindOf) (defScope sKindOf) .none kV23 dc23 pm23 an23 cd23 ct23) ["e", "columns", "variables"] (spKindOf K CB cols vars) := by
    intro cols vars ⟨hc, hv⟩
    have dColK : Cal P w K mg bs CX0 1 "column_kind" ["scope", "word"] [] (spColK CW CS cols vars) := ⟨⟨f15, _, [], m15, k15, .nil, b15, ok_colK (k := 0) W F15⟩⟩
    have dFunOf : Cal P w K mg bs CX0 3 "function_of" ["scope", "word"] [] (spFunOf CW CS cols vars) := ⟨⟨f16, _, [], m16, k16, .nil, b16, ok_funOf (k := 0) W PR F55 b55 F16⟩⟩
    have dThere : Cal P w K mg bs CX0 4 "is_there" ["e", "scope"] [] (spThere K CW CS cols vars) := ⟨⟨f17, _, [], m17, k17, .nil, b17, ok_there (k := 0) B W KGATHERING dColK dFunOf MC MQ F17⟩⟩
    have dAllow : Cal P w K mg bs (L2N.CX P w) 7 "need_allowed" ["e", "scope", "path"] [] (spAllow K CW CS CR cols vars) := ⟨⟨f18, _, [], m18, k18, .nil, b18, ok_allow (k := 0) W OR KHANDLING dForm dHead dThere F18⟩⟩
    have dOwn : Cal P w K mg bs CX0 3 "own_kind" ["e", "found", "scope"] [] (spOwn K CW CS cols vars) := ⟨⟨f22, _, [], m22, k22, .nil, b22, ok_own (k := 0) W KARITHMETIC dKV dColK F22⟩⟩
    have dLook : Cal P w K mg bs (L2N.CX P w) 38 "look" ["e", "scope", "path"] [.ref aE] (spLook K CW CS CR cols vars 30) := by
      obtain ⟨ds, v, b⟩ := bL
      exact ⟨⟨f51, _, ds, mL, k51, v, b, ok_look hc hv KGATHERING dAllow dPIn dNeedK dOwn FL mL bL3' 30 (by decide)⟩⟩
    exact ok_kindOf (k := 0) W ⟨mkW, inW, kcW⟩ (PySem.W.mg_of X G gW) (PySem.W.mg_of X G gS) ⟨mkS, a52, i52, kcS⟩ bK (ok_ks (k := 0) W FK) OR (PySem.W.mg_of X G XRA) XR12 OB hE dLook dTree F23
  have qDraw : Cal P w K mg bs CX0 1 "_law_draw" ["_law_pen_here", "_law_many"] [] spDraw := ⟨⟨f25, _, [], m25, k25, .nil, b25, ok_draw (k := 0) B0 F25⟩⟩
  have qPen : Cal P w K mg bs CX0 1 "_law_pen" ["_law_script"] [] (spPen K) := ⟨⟨f24, _, [], m24, k24, .nil, b24, ok_pen (k := 0) B0 F24⟩⟩
  have qPick : Cal P w K mg bs CX0 2 "_law_pick" ["_law_pen_here", "_law_items"] [] spPick := ⟨⟨f26, _, [], m26, k26, .nil, b26, ok_pick (k := 0) B0 F25 b25 m25 F26⟩⟩
  have qShuf : Cal P w K mg bs CX0 2 "_law_shuffled" ["_law_pen_here", "_law_items"] [] (spShuf K) := ⟨⟨f27, _, [], m27, k27, .nil, b27, ok_shuf (k := 0) B qDraw F27⟩⟩
  have qWords : Cal P w K mg bs CX0 3 "_law_words" ["_law_pen_here", "_law_many"] [] spWords := ⟨⟨f28, _, [], m28, k28, .nil, b28, ok_words (k := 0) B qDraw qPick F28⟩⟩
  have qInt : Cal P w K mg bs CX0 3 "_law_int" ["_law_pen_here"] [] spInt := ⟨⟨f29, _, [], m29, k29, .nil, b29, ok_int (k := 0) qDraw qPick F29⟩⟩
  have qText : Cal P w K mg bs CX0 3 "_law_text" ["_law_pen_here"] [] spText := ⟨⟨f30, _, [], m30, k30, .nil, b30, ok_text (k := 0) qDraw qPick F30⟩⟩
  have qPlain : Cal P w K mg bs CX0 4 "_law_plain" ["_law_pen_here", "_law_kind_here"] [] spPlainL := ⟨⟨f31, _, [], m31, k31, .nil, b31, ok_plainL (k := 0) qDraw qInt qText F31⟩⟩
  have qLWord : Cal P w K mg bs CX0 1 "_law_is_word" ["_law_thing"] [] (spD K (fun _ => True) fun t => .bl (isWordM t)) := ⟨⟨f36, _, [], m36, k36, .nil, b36, ok_lword (k := 0) B F36⟩⟩
  have qLText : Cal P w K mg bs CX0 1 "_law_is_text" ["_law_thing"] [] (spD K (fun _ => True) fun t => .bl (isTextM t)) := ⟨⟨f37, _, [], m37, k37, .nil, b37, ok_ltext (k := 0) B F37⟩⟩
  have qLKind : Cal P w K mg bs CX0 2 "_law_kind_of" ["_law_thing"] [] (spD K (fun _ => True) lkM) := ⟨⟨f38, _, [], m38, k38, .nil, b38, ok_lkind (k := 0) B qLText F38⟩⟩
  have qLForm : Cal P w K mg bs CX0 3 "_law_has_form" ["_law_e"] [] (spD K (fun t => hgt t ≤ 60) fun t => .bl (lformM t)) := ⟨⟨f39, _, [], m39, k39, .nil, b39, ok_lform (k := 0) B qLWord qLKind F39⟩⟩
  have qSteps : Cal P w K mg bs CX0 1 "_law_steps" ["_law_e"] [] (spSteps K) := ⟨⟨f41, _, [], m41, k41, .nil, b41, ok_steps (k := 0) B F41⟩⟩
  have qWant : Cal P w K mg bs CX0 1 "_law_wanted" ["_law_e", "_law_found_here"] [] (spLWant K) := ⟨⟨f42, _, [], m42, k42, .nil, b42, ok_lwant (k := 0) B F42⟩⟩
  have qOdd : Cal P w K mg bs CX0 5 "_law_odd_tree" ["_law_pen_here"] [] (spOdd K) := ⟨⟨f45, _, [], m45, k45, .nil, b45, ok_odd (k := 0) qPick qPlain F45⟩⟩
  have qBent : Cal P w K mg bs CX0 14 "_law_bent" ["_law_pen_here", "_law_e"] [] (spBent K 8) := ⟨⟨f46, _, [], m46, k46, .nil, b46, ok_bent B qDraw qOdd F46 m46 b46 8⟩⟩
  have lk : ∀ cols vars : Kinds, True → FnOk P w K mg bs CX0 34 f44 (PySem.W.fnOf "_law_kind" "_law_kind" (defArgs sLK) (defBody sLK) (defScope sLK) .none kV44 dc44 pm44 an44 cd44 ct44) ["_law_e", "_law_place", "_law_path"] (spLK K cols vars 30) := by
    intro cols vars _
    have d2 : Cal P w K mg bs CX0 1 "_law_is_known" ["_law_e", "_law_place"] [] (spKnown K cols vars) := ⟨⟨f40, _, [], m40, k40, .nil, b40, ok_known (k := 0) F40⟩⟩
    have d5 : Cal P w K mg bs CX0 3 "_law_own_kind" ["_law_e", "_law_found_here", "_law_place"] [] (spLOwn K cols vars) := ⟨⟨f43, _, [], m43, k43, .nil, b43, ok_lown (k := 0) qLKind F43⟩⟩
    exact ok_lk B qLForm d2 qSteps qWant d5 F44 m44 b44 30 (by decide)
  have tree : ∀ cols vars : Kinds, (KdW cols ∧ cols.length ≤ 1000) → ∀ n : Nat, FnOk P w K mg bs CX0 (2 * n + 5) f35 (PySem.W.fnOf "_law_tree" "_law_tree" (defArgs sTree) (defBody sTree) (defScope sTree) .none kV35 dc35 pm35 an35 cd35 ct35) ["_law_pen_here", "_law_kind_here", "_law_deep", "_law_place"] (spTree K cols vars n) := by
    intro cols vars ⟨hw, hl⟩ n
    have dLeaf : Cal P w K mg bs CX0 5 "_law_leaf" ["_law_pen_here", "_law_kind_here", "_law_place"] [] (spLeaf K cols vars) := ⟨⟨f32, _, [], m32, k32, .nil, b32, ok_leaf (k := 0) hw hl qDraw qPick qPlain F32⟩⟩
    induction n with
    | zero =>
      have no : ∀ vs H Q E, ¬ spTree K cols vars 0 vs H Q E := fun vs H Q E h => by
        obtain ⟨d, c, ns, a, r, k, m, p, _, h1, _⟩ := h
        omega
      exact ⟨fun vs H Q E h => absurd h (no vs H Q E), fun A outer s H args us vs Q E _ _ _ _ h => absurd h (no vs H Q E)⟩
    | succ n ih =>
      have d5 : Cal P w K mg bs CX0 (2 * n + 5) "_law_tree" ["_law_pen_here", "_law_kind_here", "_law_deep", "_law_place"] [] (spTree K cols vars n) := ⟨⟨f35, _, [], m35, k35, .nil, b35, ih⟩⟩
      have d3 : Cal P w K mg bs CX0 (2 * n + 6) "_law_int_tree" ["_law_pen_here", "_law_deep", "_law_place"] [] (spKTree K cols vars "int" n) := ⟨⟨f33, _, [], m33, k33, .nil, b33, ok_itree (k := 2 * n + 3) qDraw qPick d5 F33⟩⟩
      have d4 : Cal P w K mg bs CX0 (2 * n + 6) "_law_truth_tree" ["_law_pen_here", "_law_deep", "_law_place"] [] (spKTree K cols vars "truth" n) := ⟨⟨f34, _, [], m34, k34, .nil, b34, ok_ttree (k := 2 * n + 3) qDraw qPick d5 F34⟩⟩
      exact tree_step qDraw dLeaf d3 d4 d5 F35
  have qKindU : Cal P w K mg bs (L2.CX P w) 40 "kind_of" ["e", "columns", "variables"] [] (spKindU K CB) := ⟨⟨f23, _, [], m23, k23, .nil, b23, FnOk.uni2 kindOf⟩⟩
  have qLKU : Cal P w K mg bs CX0 34 "_law_kind" ["_law_e", "_law_place", "_law_path"] [] (spLKU K) := ⟨⟨f44, _, [], m44, k44, .nil, b44, FnOk.uni2 lk⟩⟩
  have qTreeU : Cal P w K mg bs CX0 15 "_law_tree" ["_law_pen_here", "_law_kind_here", "_law_deep", "_law_place"] [] (spTreeU K) := ⟨⟨f35, _, [], m35, k35, .nil, b35, FnOk.uni2 (fun cols vars h => tree cols vars h 5)⟩⟩
  have qWVU : Cal P w K mg bs CX0 8 "_law_with_variables" ["_law_pen_here", "_law_e", "_law_names"] [] (spWVU K) := ⟨⟨f48, _, [], m48, k48, .nil, b48, FnOk.uni3 (fun cols vars names h => ok_wv B h qDraw F48 m48 b48 6)⟩⟩
  have qFoundU : Cal P w K mg bs CX0 41 "_law_found" ["_law_e", "_law_columns", "_law_variables"] [] (spFoundU K) := ⟨⟨f47, _, [], m47, k47, .nil, b47, FnOk.uni2 (fun cols vars h => ok_found (k := 0) B OB XC zx25 (PySem.W.mg_of X G XBA) XB12 (PySem.W.mg_none_of X G zx26) ⟨⟨f23, _, [], m23, k23, .nil, b23, kindOf cols vars h⟩⟩ F47)⟩⟩
  exact law_body B qPen qWords qShuf qPick qDraw qTreeU qWVU qFoundU qBent qLKU qKindU h63 hS hr
end DS
open PySem PySem.W PyProof.Rows
set_option Elab.async false
set_option maxRecDepth 100000 in
set_option maxHeartbeats 0 in
theorem PySem.Challenge.cw_deedstore_k07_kinds_holds : PySem.Challenge.rw_deedstore_k07_kinds.Holds := by
  w_on; o_law; k_head; (case hw => w_witness2)
  k_fill
  refine DS.walk_at (l := PySem.Challenge.rw_deedstore_k07_kinds) (st := DS.sLaw7) (lv := 41) rfl rfl DS.scLaw7 ⟨rfl, by decide, by decide⟩ (fun w h Y => PySem.W.kIn_of Y) ?F
  case F =>
    intro w mg fa h KX G hmg
    refine' DS.all_mk KX G hmg ?a1 ?l1 ?c1 ?k1 ?a2 ?l2 ?c2 ?k2 ?a3 ?l3 ?c3 ?k3 ?a4 ?l4 ?c4 ?k4 ?a5 ?l5 ?c5 ?k5 ?a6 ?l6 ?c6 ?k6 ?a7 ?l7 ?c7 ?k7 ?a8 ?l8 ?c8 ?k8 ?a9 ?l9 ?c9 ?k9 ?a10 ?l10 ?c10 ?k10 ?a11 ?l11 ?c11 ?k11 ?a12 ?l12 ?c12 ?k12 ?a13 ?l13 ?c13 ?k13 ?a14 ?l14 ?c14 ?k14 ?a15 ?l15 ?c15 ?k15 ?a16 ?l16 ?c16 ?k16 ?a17 ?l17 ?c17 ?k17 ?a18 ?l18 ?c18 ?k18 ?a19 ?l19 ?c19 ?k19 ?a20 ?l20 ?c20 ?k20 ?a21 ?l21 ?c21 ?k21 ?a22 ?l22 ?c22 ?k22 ?a23 ?l23 ?c23 ?k23 ?a24 ?l24 ?c24 ?k24 ?a25 ?l25 ?c25 ?k25 ?a26 ?l26 ?c26 ?k26 ?a27 ?l27 ?c27 ?k27 ?a28 ?l28 ?c28 ?k28 ?a29 ?l29 ?c29 ?k29 ?a30 ?l30 ?c30 ?k30 ?a31 ?l31 ?c31 ?k31 ?a32 ?l32 ?c32 ?k32 ?a33 ?l33 ?c33 ?k33 ?a34 ?l34 ?c34 ?k34 ?a35 ?l35 ?c35 ?k35 ?a36 ?l36 ?c36 ?k36 ?a37 ?l37 ?c37 ?k37 ?a38 ?l38 ?c38 ?k38 ?a39 ?l39 ?c39 ?k39 ?a40 ?l40 ?c40 ?k40 ?a41 ?l41 ?c41 ?k41 ?a42 ?l42 ?c42 ?k42 ?a43 ?l43 ?c43 ?k43 ?a44 ?l44 ?c44 ?k44 ?a45 ?l45 ?c45 ?k45 ?a46 ?l46 ?c46 ?k46 ?a47 ?l47 ?c47 ?k47 ?a48 ?l48 ?c48 ?k48 ?a49 ?l49 ?c49 ?k49 ?a50 ?l50 ?c50 ?k50 ?a51 ?l51 ?c51 ?k51 ?d1 ?d2 ?d4 ?gW ?gS ?pgW ?hdW ?poW ?saW ?mkW ?kcW ?pgS ?hdS ?poS ?saS ?mkS ?kcS ?inW ?nW ?nC ?nV ?nQ ?nH ?a52 ?l52 ?c52 ?k52 ?i52 ?d3 ?a53 ?l53 ?c53 ?k53 ?i53 ?a54 ?l54 ?c54 ?k54 ?i54 ?p1 ?p2 ?p3 ?a55 ?l55 ?c55 ?k55 ?g1 ?g2 ?g3 ?g4 ?g5 ?g6 ?g7 ?mKINDS ?qKINDS ?mOPERATORS ?qOPERATORS ?mARITHMETIC ?qARITHMETIC ?mGATHERING ?qGATHERING ?mHANDLING ?qHANDLING ?mE ?lE ?y0 ?v0 ?y1 ?v1 ?y2 ?v2 ?y3 ?v3 ?y4 ?v4 ?y5 ?v5 ?y6 ?v6 ?y7 ?v7 ?y8 ?v8 ?y9 ?v9 ?y10 ?v10 ?y11 ?v11 ?y12 ?v12 ?y13 ?v13 ?y14 ?v14 ?y15 ?v15 ?XBA ?XBL ?XB1 ?XB2 ?XB3 ?XBn0 ?XBn1 ?XB5 ?XB6 ?XB7 ?XB8 ?XB9 ?XB10 ?XB11 ?XB12 ?XB13 ?XB14 ?XB17 ?XB18 ?XB19 ?XB20 ?XRA ?XRL ?XR1 ?XR2 ?XR3 ?XRn0 ?XRn1 ?XRn2 ?XR5 ?XR6 ?XR7 ?XR8 ?XR9 ?XR10 ?XR11 ?XR12 ?XR13 ?XR14 ?XR17 ?XR18 ?XR19 ?XR20 ?zx15 ?zx16 ?zx21 ?zx22 ?zx23 ?zx24 ?zx25 ?zx26 ?z1 ?z2 ?z3 ?z4 ?z5 ?z6 ?z7 ?z8 ?z9 ?z10 ?z11 ?z12 ?z13 ?z14 ?z15 ?z16 ?w1B ?w2B ?w1R ?w2R ?w3 ?hh0 ?hh1 ?hh2 ?hh3 ?hh4 ?hh5 ?hh6 ?hh7 ?hh8 ?hh9 ?hh10 ?hh11 ?hh12 ?hh13 ?hh14 ?hh15 ?lowE
    (case a1 => first | k_is | rfl)
    (case l1 => first | k_is | rfl)
    (case c1 => first | k_is | rfl)
    (case k1 => first | k_is | rfl)
    (case a2 => first | k_is | rfl)
    (case l2 => first | k_is | rfl)
    (case c2 => first | k_is | rfl)
    (case k2 => first | k_is | rfl)
    (case a3 => first | k_is | rfl)
    (case l3 => first | k_is | rfl)
    (case c3 => first | k_is | rfl)
    (case k3 => first | k_is | rfl)
    (case a4 => first | k_is | rfl)
    (case l4 => first | k_is | rfl)
    (case c4 => first | k_is | rfl)
    (case k4 => first | k_is | rfl)
    (case a5 => first | k_is | rfl)
    (case l5 => first | k_is | rfl)
    (case c5 => first | k_is | rfl)
    (case k5 => first | k_is | rfl)
    (case a6 => first | k_is | rfl)
    (case l6 => first | k_is | rfl)
    (case c6 => first | k_is | rfl)
    (case k6 => first | k_is | rfl)
    (case a7 => first | k_is | rfl)
    (case l7 => first | k_is | rfl)
    (case c7 => first | k_is | rfl)
    (case k7 => first | k_is | rfl)
    (case a8 => first | k_is | rfl)
    (case l8 => first | k_is | rfl)
    (case c8 => first | k_is | rfl)
    (case k8 => first | k_is | rfl)
    (case a9 => first | k_is | rfl)
    (case l9 => first | k_is | rfl)
    (case c9 => first | k_is | rfl)
    (case k9 => first | k_is | rfl)
    (case a10 => first | k_is | rfl)
    (case l10 => first | k_is | rfl)
    (case c10 => first | k_is | rfl)
    (case k10 => first | k_is | rfl)
    (case a11 => first | k_is | rfl)
    (case l11 => first | k_is | rfl)
    (case c11 => first | k_is | rfl)
    (case k11 => first | k_is | rfl)
    (case a12 => first | k_is | rfl)
    (case l12 => first | k_is | rfl)
    (case c12 => first | k_is | rfl)
    (case k12 => first | k_is | rfl)
    (case a13 => first | k_is | rfl)
    (case l13 => first | k_is | rfl)
    (case c13 => first | k_is | rfl)
    (case k13 => first | k_is | rfl)
    (case a14 => first | k_is | rfl)
    (case l14 => first | k_is | rfl)
    (case c14 => first | k_is | rfl)
    (case k14 => first | k_is | rfl)
    (case a15 => first | k_is | rfl)
    (case l15 => first | k_is | rfl)
    (case c15 => first | k_is | rfl)
    (case k15 => first | k_is | rfl)
    (case a16 => first | k_is | rfl)
    (case l16 => first | k_is | rfl)
    (case c16 => first | k_is | rfl)
    (case k16 => first | k_is | rfl)
    (case a17 => first | k_is | rfl)
    (case l17 => first | k_is | rfl)
    (case c17 => first | k_is | rfl)
    (case k17 => first | k_is | rfl)
    (case a18 => first | k_is | rfl)
    (case l18 => first | k_is | rfl)
    (case c18 => first | k_is | rfl)
    (case k18 => first | k_is | rfl)
    (case a19 => first | k_is | rfl)
    (case l19 => first | k_is | rfl)
    (case c19 => first | k_is | rfl)
    (case k19 => first | k_is | rfl)
    (case a20 => first | k_is | rfl)
    (case l20 => first | k_is | rfl)
    (case c20 => first | k_is | rfl)
    (case k20 => first | k_is | rfl)
    (case a21 => first | k_is | rfl)
    (case l21 => first | k_is | rfl)
    (case c21 => first | k_is | rfl)
    (case k21 => first | k_is | rfl)
    (case a22 => first | k_is | rfl)
    (case l22 => first | k_is | rfl)
    (case c22 => first | k_is | rfl)
    (case k22 => first | k_is | rfl)
    (case a23 => first | k_is | rfl)
    (case l23 => first | k_is | rfl)
    (case c23 => first | k_is | rfl)
    (case k23 => first | k_is | rfl)
    (case a24 => first | k_is | rfl)
    (case l24 => first | k_is | rfl)
    (case c24 => first | k_is | rfl)
    (case k24 => first | k_is | rfl)
    (case a25 => first | k_is | rfl)
    (case l25 => first | k_is | rfl)
    (case c25 => first | k_is | rfl)
    (case k25 => first | k_is | rfl)
    (case a26 => first | k_is | rfl)
    (case l26 => first | k_is | rfl)
    (case c26 => first | k_is | rfl)
    (case k26 => first | k_is | rfl)
    (case a27 => first | k_is | rfl)
    (case l27 => first | k_is | rfl)
    (case c27 => first | k_is | rfl)
    (case k27 => first | k_is | rfl)
    (case a28 => first | k_is | rfl)
    (case l28 => first | k_is | rfl)
    (case c28 => first | k_is | rfl)
    (case k28 => first | k_is | rfl)
    (case a29 => first | k_is | rfl)
    (case l29 => first | k_is | rfl)
    (case c29 => first | k_is | rfl)
    (case k29 => first | k_is | rfl)
    (case a30 => first | k_is | rfl)
    (case l30 => first | k_is | rfl)
    (case c30 => first | k_is | rfl)
    (case k30 => first | k_is | rfl)
    (case a31 => first | k_is | rfl)
    (case l31 => first | k_is | rfl)
    (case c31 => first | k_is | rfl)
    (case k31 => first | k_is | rfl)
    (case a32 => first | k_is | rfl)
    (case l32 => first | k_is | rfl)
    (case c32 => first | k_is | rfl)
    (case k32 => first | k_is | rfl)
    (case a33 => first | k_is | rfl)
    (case l33 => first | k_is | rfl)
    (case c33 => first | k_is | rfl)
    (case k33 => first | k_is | rfl)
    (case a34 => first | k_is | rfl)
    (case l34 => first | k_is | rfl)
    (case c34 => first | k_is | rfl)
    (case k34 => first | k_is | rfl)
    (case a35 => first | k_is | rfl)
    (case l35 => first | k_is | rfl)
    (case c35 => first | k_is | rfl)
    (case k35 => first | k_is | rfl)
    (case a36 => first | k_is | rfl)
    (case l36 => first | k_is | rfl)
    (case c36 => first | k_is | rfl)
    (case k36 => first | k_is | rfl)
    (case a37 => first | k_is | rfl)
    (case l37 => first | k_is | rfl)
    (case c37 => first | k_is | rfl)
    (case k37 => first | k_is | rfl)
    (case a38 => first | k_is | rfl)
    (case l38 => first | k_is | rfl)
    (case c38 => first | k_is | rfl)
    (case k38 => first | k_is | rfl)
    (case a39 => first | k_is | rfl)
    (case l39 => first | k_is | rfl)
    (case c39 => first | k_is | rfl)
    (case k39 => first | k_is | rfl)
    (case a40 => first | k_is | rfl)
    (case l40 => first | k_is | rfl)
    (case c40 => first | k_is | rfl)
    (case k40 => first | k_is | rfl)
    (case a41 => first | k_is | rfl)
    (case l41 => first | k_is | rfl)
    (case c41 => first | k_is | rfl)
    (case k41 => first | k_is | rfl)
    (case a42 => first | k_is | rfl)
    (case l42 => first | k_is | rfl)
    (case c42 => first | k_is | rfl)
    (case k42 => first | k_is | rfl)
    (case a43 => first | k_is | rfl)
    (case l43 => first | k_is | rfl)
    (case c43 => first | k_is | rfl)
    (case k43 => first | k_is | rfl)
    (case a44 => first | k_is | rfl)
    (case l44 => first | k_is | rfl)
    (case c44 => first | k_is | rfl)
    (case k44 => first | k_is | rfl)
    (case a45 => first | k_is | rfl)
    (case l45 => first | k_is | rfl)
    (case c45 => first | k_is | rfl)
    (case k45 => first | k_is | rfl)
    (case a46 => first | k_is | rfl)
    (case l46 => first | k_is | rfl)
    (case c46 => first | k_is | rfl)
    (case k46 => first | k_is | rfl)
    (case a47 => first | k_is | rfl)
    (case l47 => first | k_is | rfl)
    (case c47 => first | k_is | rfl)
    (case k47 => first | k_is | rfl)
    (case a48 => first | k_is | rfl)
    (case l48 => first | k_is | rfl)
    (case c48 => first | k_is | rfl)
    (case k48 => first | k_is | rfl)
    (case a49 => first | k_is | rfl)
    (case l49 => first | k_is | rfl)
    (case c49 => first | k_is | rfl)
    (case k49 => first | k_is | rfl)
    (case a50 => first | k_is | rfl)
    (case l50 => first | k_is | rfl)
    (case c50 => first | k_is | rfl)
    (case k50 => first | k_is | rfl)
    (case a51 => first | k_is | rfl)
    (case l51 => first | k_is | rfl)
    (case c51 => first | k_is | rfl)
    (case k51 => first | k_is | rfl)
    (case d1 => first | k_is | rfl)
    (case d2 => first | k_is | rfl)
    (case d4 => first | k_is | rfl)
    (case gW => first | k_is | rfl)
    (case gS => first | k_is | rfl)
    (case pgW => first | k_is | rfl)
    (case hdW => first | k_is | rfl)
    (case poW => first | k_is | rfl)
    (case saW => first | k_is | rfl)
    (case mkW => first | k_is | rfl)
    (case kcW => first | k_is | rfl)
    (case pgS => first | k_is | rfl)
    (case hdS => first | k_is | rfl)
    (case poS => first | k_is | rfl)
    (case saS => first | k_is | rfl)
    (case mkS => first | k_is | rfl)
    (case kcS => first | k_is | rfl)
    (case inW => first | k_is | rfl)
    (case nW => first | k_is | rfl)
    (case nC => first | k_is | rfl)
    (case nV => first | k_is | rfl)
    (case nQ => first | k_is | rfl)
    (case nH => first | k_is | rfl)
    (case a52 => first | k_is | rfl)
    (case l52 => first | k_is | rfl)
    (case c52 => first | k_is | rfl)
    (case k52 => first | k_is | rfl)
    (case i52 => first | k_is | rfl)
    (case d3 => first | k_is | rfl)
    (case a53 => first | k_is | rfl)
    (case l53 => first | k_is | rfl)
    (case c53 => first | k_is | rfl)
    (case k53 => first | k_is | rfl)
    (case i53 => first | k_is | rfl)
    (case a54 => first | k_is | rfl)
    (case l54 => first | k_is | rfl)
    (case c54 => first | k_is | rfl)
    (case k54 => first | k_is | rfl)
    (case i54 => first | k_is | rfl)
    (case p1 => first | k_is | rfl)
    (case p2 => first | k_is | rfl)
    (case p3 => first | k_is | rfl)
    (case a55 => first | k_is | rfl)
    (case l55 => first | k_is | rfl)
    (case c55 => first | k_is | rfl)
    (case k55 => first | k_is | rfl)
    (case g1 => first | k_is | rfl)
    (case g2 => first | k_is | rfl)
    (case g3 => first | k_is | rfl)
    (case g4 => first | k_is | rfl)
    (case g5 => first | k_is | rfl)
    (case g6 => first | k_is | rfl)
    (case g7 => first | k_is | rfl)
    (case mKINDS => first | k_is | rfl)
    (case qKINDS => first | k_is | rfl)
    (case mOPERATORS => first | k_is | rfl)
    (case qOPERATORS => first | k_is | rfl)
    (case mARITHMETIC => first | k_is | rfl)
    (case qARITHMETIC => first | k_is | rfl)
    (case mGATHERING => first | k_is | rfl)
    (case qGATHERING => first | k_is | rfl)
    (case mHANDLING => first | k_is | rfl)
    (case qHANDLING => first | k_is | rfl)
    (case mE => first | k_is | rfl)
    (case lE => first | k_is | rfl)
    (case y0 => first | k_is | rfl)
    (case v0 => first | k_is | rfl)
    (case y1 => first | k_is | rfl)
    (case v1 => first | k_is | rfl)
    (case y2 => first | k_is | rfl)
    (case v2 => first | k_is | rfl)
    (case y3 => first | k_is | rfl)
    (case v3 => first | k_is | rfl)
    (case y4 => first | k_is | rfl)
    (case v4 => first | k_is | rfl)
    (case y5 => first | k_is | rfl)
    (case v5 => first | k_is | rfl)
    (case y6 => first | k_is | rfl)
    (case v6 => first | k_is | rfl)
    (case y7 => first | k_is | rfl)
    (case v7 => first | k_is | rfl)
    (case y8 => first | k_is | rfl)
    (case v8 => first | k_is | rfl)
    (case y9 => first | k_is | rfl)
    (case v9 => first | k_is | rfl)
    (case y10 => first | k_is | rfl)
    (case v10 => first | k_is | rfl)
    (case y11 => first | k_is | rfl)
    (case v11 => first | k_is | rfl)
    (case y12 => first | k_is | rfl)
    (case v12 => first | k_is | rfl)
    (case y13 => first | k_is | rfl)
    (case v13 => first | k_is | rfl)
    (case y14 => first | k_is | rfl)
    (case v14 => first | k_is | rfl)
    (case y15 => first | k_is | rfl)
    (case v15 => first | k_is | rfl)
    (case XBA => first | k_is | rfl)
    (case XBL => first | k_is | rfl)
    (case XB1 => first | k_is | rfl)
    (case XB2 => first | k_is | rfl)
    (case XB3 => first | k_is | rfl)
    (case XBn0 => first | k_is | rfl)
    (case XBn1 => first | k_is | rfl)
    (case XB5 => first | k_is | rfl)
    (case XB6 => first | k_is | rfl)
    (case XB7 => first | k_is | rfl)
    (case XB8 => first | k_is | rfl)
    (case XB9 => first | k_is | rfl)
    (case XB10 => first | k_is | rfl)
    (case XB11 => first | k_is | rfl)
    (case XB12 => first | k_is | rfl)
    (case XB13 => first | k_is | rfl)
    (case XB14 => first | k_is | rfl)
    (case XB17 => first | k_is | rfl)
    (case XB18 => first | k_is | rfl)
    (case XB19 => first | k_is | rfl)
    (case XB20 => first | k_is | rfl)
    (case XRA => first | k_is | rfl)
    (case XRL => first | k_is | rfl)
    (case XR1 => first | k_is | rfl)
    (case XR2 => first | k_is | rfl)
    (case XR3 => first | k_is | rfl)
    (case XRn0 => first | k_is | rfl)
    (case XRn1 => first | k_is | rfl)
    (case XRn2 => first | k_is | rfl)
    (case XR5 => first | k_is | rfl)
    (case XR6 => first | k_is | rfl)
    (case XR7 => first | k_is | rfl)
    (case XR8 => first | k_is | rfl)
    (case XR9 => first | k_is | rfl)
    (case XR10 => first | k_is | rfl)
    (case XR11 => first | k_is | rfl)
    (case XR12 => first | k_is | rfl)
    (case XR13 => first | k_is | rfl)
    (case XR14 => first | k_is | rfl)
    (case XR17 => first | k_is | rfl)
    (case XR18 => first | k_is | rfl)
    (case XR19 => first | k_is | rfl)
    (case XR20 => first | k_is | rfl)
    (case zx15 => first | k_is | rfl)
    (case zx16 => first | k_is | rfl)
    (case zx21 => first | k_is | rfl)
    (case zx22 => first | k_is | rfl)
    (case zx23 => first | k_is | rfl)
    (case zx24 => first | k_is | rfl)
    (case zx25 => first | k_is | rfl)
    (case zx26 => first | k_is | rfl)
    (case z1 => first | k_is | rfl)
    (case z2 => first | k_is | rfl)
    (case z3 => first | k_is | rfl)
    (case z4 => first | k_is | rfl)
    (case z5 => first | k_is | rfl)
    (case z6 => first | k_is | rfl)
    (case z7 => first | k_is | rfl)
    (case z8 => first | k_is | rfl)
    (case z9 => first | k_is | rfl)
    (case z10 => first | k_is | rfl)
    (case z11 => first | k_is | rfl)
    (case z12 => first | k_is | rfl)
    (case z13 => first | k_is | rfl)
    (case z14 => first | k_is | rfl)
    (case z15 => first | k_is | rfl)
    (case z16 => first | k_is | rfl)
    (case w1B => rfl)
    (case w2B => first | rfl | decide | decide +kernel)
    (case w1R => rfl)
    (case w2R => first | rfl | decide | decide +kernel)
    (case w3 => first | rfl | decide | decide +kernel)
    (case hh0 => rfl)
    (case hh1 => rfl)
    (case hh2 => rfl)
    (case hh3 => rfl)
    (case hh4 => rfl)
    (case hh5 => rfl)
    (case hh6 => rfl)
    (case hh7 => rfl)
    (case hh8 => rfl)
    (case hh9 => rfl)
    (case hh10 => rfl)
    (case hh11 => rfl)
    (case hh12 => rfl)
    (case hh13 => rfl)
    (case hh14 => rfl)
    (case hh15 => rfl)
    (case lowE => first | rfl | decide | decide +kernel)
