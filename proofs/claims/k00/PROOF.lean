import PyProof.Rows.All
import Wide.All
import OpenK.AllK
import Wide.FinOn
import KE.IntTextLaws
import KE.KIntText
import PyProof.ReprReads
import PyProof.StrLawsRepr
import HandS.ForMost
import HandS.Walk
import HandS.Flow
import HandS.IsInst
import HandS.Steps
import HandS.More
import HandS.Wide
import HandS.Replace
import HandS.ReplaceDef
import HandS.ReplaceList
import HandS.ReplaceLit
import PySem.Challenge.RW_deedstore_k00_trees_written_and_read
set_option Elab.async false
set_option linter.all false
set_option maxRecDepth 100000
namespace DS
open PySem PySem.NumText

abbrev Cs := List Nat
/-- a text by its codes -/
def S (l : Cs) : Str := ⟨l.toArray⟩
theorem S_cps (l : Cs) : (S l).cps.toList = l := rfl
theorem S_length (l : Cs) : (S l).length = l.length := by show l.toArray.size = l.length; simp
theorem S_append (a b : Cs) : S a ++ S b = S (a ++ b) := by
  show (⟨a.toArray ++ b.toArray⟩ : Str) = ⟨(a ++ b).toArray⟩
  simp
theorem S_inj {a b : Cs} (h : S a = S b) : a = b := by
  have := congrArg (fun x : Str => x.cps.toList) h
  exact this
theorem S_eta (x : Str) : S x.cps.toList = x := by cases x; simp [S]

/-! ### decimal digits -/
def decD (m : Nat) : Cs := (Nat.toDigits 10 m).map Char.toNat
def numT (i : Int) : Cs := if i < 0 then 45 :: decD i.natAbs else decD i.natAbs
def isDig (c : Nat) : Prop := 48 ≤ c ∧ c ≤ 57

theorem decD_small {m : Nat} (h : m < 10) : decD m = [48 + m] := by
  match m, h with
  | 0, _ => rfl | 1, _ => rfl | 2, _ => rfl | 3, _ => rfl | 4, _ => rfl
  | 5, _ => rfl | 6, _ => rfl | 7, _ => rfl | 8, _ => rfl | 9, _ => rfl
theorem decD_step {m : Nat} (h : 10 ≤ m) : decD m = decD (m / 10) ++ [48 + m % 10] := by
  unfold decD
  rw [Nat.toDigits_of_base_le (by decide) h, List.map_append]
  congr 1
  have := decD_small (m := m % 10) (by omega)
  unfold decD at this
  rw [Nat.toDigits_of_lt_base (by omega)] at this
  simpa using this

theorem decD_ne (m : Nat) : decD m ≠ [] := by
  by_cases h : m < 10
  · rw [decD_small h]; simp
  · rw [decD_step (by omega)]; simp
theorem decD_digits : ∀ m : Nat, AllDigits (decD m) := by
  intro m
  induction m using Nat.strongRecOn with
  | _ m ih =>
    by_cases h : m < 10
    · rw [decD_small h]; intro c hc; simp at hc; omega
    · rw [decD_step (by omega)]
      intro c hc
      rcases List.mem_append.mp hc with hc | hc
      · exact ih (m / 10) (by omega) c hc
      · simp at hc; omega
theorem digitsVal_snoc (l : Cs) (c : Nat) : digitsVal (l ++ [c]) = digitsVal l * 10 + (c - 48) := by
  unfold digitsVal; rw [List.foldl_append]; rfl
theorem decD_val : ∀ m : Nat, digitsVal (decD m) = m := by
  intro m
  induction m using Nat.strongRecOn with
  | _ m ih =>
    by_cases h : m < 10
    · rw [decD_small h]; unfold digitsVal; simp
    · rw [decD_step (by omega), digitsVal_snoc, ih (m / 10) (by omega)]; omega
theorem decD_len : ∀ (k m : Nat), m < 10 ^ k → 0 < k → (decD m).length ≤ k := by
  intro k
  induction k with
  | zero => intro m _ h; omega
  | succ k ih =>
    intro m hm _
    by_cases h : m < 10
    · rw [decD_small h]; simp
    · rw [decD_step (by omega), List.length_append]
      have hk : 0 < k := by
        cases k with
        | zero => simp at hm; omega
        | succ k => omega
      have := ih (m / 10) (by rw [Nat.pow_succ] at hm; omega) hk
      simp; omega
/-- the first digit is no 0 but of 0 itself -/
theorem decD_head : ∀ m : Nat, 0 < m → (decD m).head? ≠ some 48 := by
  intro m
  induction m using Nat.strongRecOn with
  | _ m ih =>
    intro h0
    by_cases h : m < 10
    · rw [decD_small h]; simp; omega
    · rw [decD_step (by omega)]
      have := ih (m / 10) (by omega) (by omega)
      have hne := decD_ne (m / 10)
      cases e : decD (m / 10) with
      | nil => exact absurd e hne
      | cons a l => rw [e] at this; simpa using this
theorem toString_nat (m : Nat) : (Str.ofString (toString ((m : Nat) : Int))) = S (decD m) := by
  rw [← S_eta (Str.ofString _)]
  congr 1
  exact PySem.W.KIN.signs_num m

theorem toString_neg (m : Nat) (h : 0 < m) : (Str.ofString (toString (-(m : Int)))) = S (45 :: decD m) := by
  have e : toString (-(m : Int)) = "-" ++ toString ((m : Nat) : Int) := by
    obtain ⟨k, rfl⟩ : ∃ k, m = k + 1 := ⟨m - 1, by omega⟩
    show Int.repr (Int.negSucc k) = "-" ++ Int.repr (Int.ofNat (k + 1))
    rfl
  rw [e, Str.ofString_eq_toList, String.toList_append, List.map_append]
  have := congrArg (fun x : Str => x.cps.toList) (toString_nat m)
  rw [Str.ofString_eq_toList] at this
  simp only [S] at this ⊢
  congr 1
  simp at this
  simp [this]
theorem toString_int (i : Int) : (Str.ofString (toString i)) = S (numT i) := by
  unfold numT
  by_cases h : i < 0
  · rw [if_pos h]
    have e : i = -((i.natAbs : Nat) : Int) := by omega
    conv => lhs; rw [e]
    exact toString_neg _ (by omega)
  · rw [if_neg h]
    have e : i = ((i.natAbs : Nat) : Int) := by omega
    conv => lhs; rw [e]
    exact toString_nat _

/-! ### the text of a tree -/
def esc1 (c : Nat) : Cs := if c = 34 ∨ c = 92 then [92, c] else [c]
def escT (s : Cs) : Cs := (s.map esc1).flatten
theorem esc1_len (c : Nat) : (esc1 c).length ≤ 2 := by unfold esc1; split <;> simp
theorem escT_len (l : Cs) : (escT l).length ≤ 2 * l.length := by
  induction l with
  | nil => simp [escT]
  | cons c l ih =>
    have h := esc1_len c
    simp only [escT, List.map_cons, List.flatten_cons, List.length_append, List.length_cons] at ih ⊢
    omega
theorem escT_cons (c : Nat) (l : Cs) : escT (c :: l) = esc1 c ++ escT l := rfl
mutual
def txt : PyData → Cs
  | .none => [45]
  | .bool b => if b then [121, 101, 115] else [110, 111]
  | .int i => numT i
  | .str x => 34 :: (escT x.cps.toList ++ [34])
  | .tuple xs => 40 :: (txtAll xs ++ [41])
  | .list _ => []
  | .dict _ => []
def txtAll : List PyData → Cs
  | [] => []
  | x :: xs => txt x ++ txtMore xs
def txtMore : List PyData → Cs
  | [] => []
  | x :: xs => 32 :: (txt x ++ txtMore xs)
end
/-! how many parts, how deep -/
mutual
def cnt : PyData → Nat
  | .tuple xs => 1 + cntAll xs
  | _ => 1
def cntAll : List PyData → Nat
  | [] => 0
  | x :: xs => cnt x + cntAll xs
end
mutual
def hgt : PyData → Nat
  | .tuple xs => 1 + hgtAll xs
  | _ => 1
def hgtAll : List PyData → Nat
  | [] => 0
  | x :: xs => max (hgt x) (hgtAll xs)
end
def sgnList : Cs := (" !\"#$&'()*+,-./0123456789:;<=>?@ABCDEFGHIJKLMNOPQRSTUVWXYZ[\\]^_`abcdefghijklmnopqrstuvwxyz{|}~").toList.map Char.toNat
/-! a tree -/
mutual
def good : PyData → Prop
  | .none => True
  | .bool _ => True
  | .int i => i.natAbs < 10 ^ 100
  | .str x => ∀ c ∈ x.cps.toList, c ∈ sgnList
  | .tuple xs => goodAll xs
  | .list _ => False
  | .dict _ => False
def goodAll : List PyData → Prop
  | [] => True
  | x :: xs => good x ∧ goodAll xs
end
theorem cnt_pos (t : PyData) : 1 ≤ cnt t := by cases t <;> simp [cnt]
theorem hgt_pos (t : PyData) : 1 ≤ hgt t := by cases t <;> simp [hgt]
theorem sgn_q : 34 ∈ sgnList := by decide +kernel
theorem sgn_b : 92 ∈ sgnList := by decide +kernel
/-- a text does not begin with a bracket that closes, nor with a blank -/
theorem txt_head : ∀ t : PyData, good t → ∃ c r, txt t = c :: r ∧ (c = 40 ∨ c = 34 ∨ c = 121 ∨ c = 110 ∨ c = 45 ∨ isDig c)
  | .none, _ => ⟨45, [], rfl, by simp⟩
  | .bool true, _ => ⟨121, [101, 115], rfl, by simp⟩
  | .bool false, _ => ⟨110, [111], rfl, by simp⟩
  | .str x, _ => ⟨34, _, rfl, by simp⟩
  | .tuple xs, _ => ⟨40, _, rfl, by simp⟩
  | .int i, _ => by
    simp only [txt, numT]
    split
    · exact ⟨45, _, rfl, by simp⟩
    · have h := decD_digits i.natAbs
      cases e : decD i.natAbs with
      | nil => exact absurd e (decD_ne _)
      | cons c r => rw [e] at h; exact ⟨c, r, rfl, by simp [isDig]; exact .inr (.inr (.inr (.inr (.inr h.head))))⟩
  | .list _, h => by simp [good] at h
  | .dict _, h => by simp [good] at h
end DS
set_option Elab.async false
set_option linter.all false
set_option maxRecDepth 100000
set_option maxHeartbeats 4000000
namespace DS
open PySem L2
def top (i : Nat) : Stmt := PySem.Challenge.pw_deedstore_k00_trees_written_and_read.main.body.getD i (.Pass ⟨0, 0, 0, 0⟩)
abbrev sWS : Stmt := top 10
abbrev sWT : Stmt := top 11
/-! ### texts -/
theorem ofs_q : Str.ofString "\"" = S [34] := by decide +kernel
theorem ofs_b : Str.ofString "\\" = S [92] := by decide +kernel
theorem ofs_e : Str.ofString "" = S [] := by decide +kernel
theorem one_S (c : Nat) : (⟨#[c]⟩ : Str) = S [c] := rfl
def gluS (sep : Cs) : List Cs → Cs
  | [] => []
  | [x] => x
  | x :: y :: r => x ++ (sep ++ gluS sep (y :: r))
theorem glue_cps (sep : Cs) (l : List Cs) : Txt.join (S sep) (l.map S) = S (gluS sep l) := by
  show Builtin.Str.glued (S sep) (l.map S) = _
  rw [PySem.StrLaws.glued_eq_join]
  induction l with
  | nil => rfl
  | cons x r ih =>
    cases r with
    | nil => rfl
    | cons y r =>
      simp only [List.map_cons] at ih ⊢
      show S x ++ S sep ++ Str.join (S sep) (S y :: r.map S) = _
      rw [ih, S_append, S_append]
      simp [gluS]
theorem glu_nil : ∀ l : List Cs, gluS [] l = l.flatten
  | [] => rfl
  | [x] => by simp [gluS]
  | x :: y :: r => by simp [gluS, glu_nil (y :: r)]
theorem join_empty (l : List Cs) : Txt.join (S []) (l.map S) = S l.flatten := by rw [glue_cps, glu_nil]
theorem same_new {H : Hp} {p : Addr} (h : H p = none) (o : HO) : Same H (upd H p o) := fun b u q => by rw [upd_ne (ne_of_none q h)]; exact q
theorem same_put {H H' : Hp} {p : Addr} (s : Same H H') (h : H p = none) (o : HO) : Same H (upd H' p o) := fun b u q => by rw [upd_ne (ne_of_none q h)]; exact s b u q
theorem small {n : Nat} (h : n ≤ 16777216) : n ≤ sizeLine := Nat.le_trans h (by decide)
theorem small' {n : Nat} (h : n < 16777216) : n < sizeLine := Nat.lt_of_lt_of_le h (by decide)
theorem sum_lens : ∀ l : List Cs, ((l.map S).map (·.length)).sum = l.flatten.length
  | [] => rfl
  | x :: r => by
    have := sum_lens r
    simp only [List.map_cons, List.sum_cons, List.flatten_cons, List.length_append, S_length] at this ⊢
    omega
section
variable {P : Program} {w : World} {K : PySem.W.Frag} {mg : Str → Option Value} {base : Heap}
/-! ### write_string -/
theorem scWS : FnScope ["text", "signs", "sign"] ["text"] (defScope sWS) := ⟨rfl, rfl, rfl, by decide +kernel, rfl, by decide +kernel, by decide +kernel⟩
/-- a new thing is laid, all that stood stands -/
def spWS : Sp := fun vs H Q _ => ∃ l : Cs, vs = [.str (S l)] ∧ l.length ≤ 1000000 ∧ ∀ H', Same H H' → Q (.str (S (34 :: (escT l ++ [34])))) H'
theorem ok_ws {f : Addr} {fd : FuncData} {k : Nat} (F : Fun K "write_string" "write_string" sWS f fd) : FnOk P w K mg base CX0 (k + 1) f fd ["text"] spWS := by
  refine F.ok scWS (fun vs H Q E h => ?_) (fun cdv A outer s H vs Q E hr h => ?_)
  · obtain ⟨l, rfl, _⟩ := h
    rfl
  · obtain ⟨l, rfl, hl, q⟩ := h
    refine ⟨_, pss_cons (ps_setLc (i := 1) (own := [("sign", 2)]) (g := gName 2) (tt := tYes) rfl scWS.nd rfl rfl (sw_true rfl rfl rfl (by decide +kernel)) (pi_str (pv 0)) (blkOk_by (N := ["text", "signs", "sign"]) (sc := defScope sWS) (by decide +kernel))
        (fun _ _ _ _ _ => pg_name (i := 2) scWS.nd rfl (Or.inl rfl)) (fun _ _ _ _ _ => pts_nil)
        (fun _ _ _ _ _ => pe_ifExp (pt_cmpR (show OpR _ (compareOp .In) (rIn K false) from op_in_seq) (pv 2) (pe_tup (pa_cons pe_str (pa_cons pe_str pa_nil))) (by rfl)) (pe_op op_add_str pe_str (pv 2)) (pv 2)))
      (pss_one (ps_ret (pe_op op_add_str (pe_op op_add_str pe_str (pe_join pe_str (pv 1))) pe_str))), ?_⟩
    refine ⟨_, rfl, _, rfl, fun D hD => ?_⟩
    refine lc_it (walk_str (z := S l)) (fun i H' => Same H H' ∧ H' D = some (.lst (((l.take i).map esc1).map fun c => V.str (S c)))) ⟨same_new hD _, by rw [upd_same]; rfl⟩ (fun _ _ _ _ => trivial) ?_ ?_
    · rintro i x H1 H2 hi ⟨sm, hd⟩ ⟨rfl, c, hc, rfl⟩
      have hi' : i < l.length := by simpa [S] using hi
      have ec : l[i]? = some c := by simpa [S] using hc
      have et : ((l.take (i + 1)).map esc1).map (fun c => V.str (S c)) = ((l.take i).map esc1).map (fun c => V.str (S c)) ++ [V.str (S (esc1 c))] := by
        rw [List.take_add_one, ec]; simp
      have hlen : (((l.take i).map esc1).map (fun c => V.str (S c))).length < sizeLine := small' (by simp; omega)
      refine ⟨rfl, ?_⟩
      refine ⟨_, rfl, by show 2 ≤ sizeLine; decide, fun p hp => ?_⟩
      refine ⟨p, _, rfl, .inr (SqT.of upd_same), rfl, rfl, _, rfl, ?_⟩
      have npD : D ≠ p := ne_of_none hd hp
      have e1 : inV (V.str ⟨#[c]⟩) [V.str (Str.ofString "\""), V.str (Str.ofString "\\")] = decide (c = 34 ∨ c = 92) := by
        simp only [inV, List.any, eqV, ofs_q, ofs_b, one_S, Bool.or_false]
        by_cases h1 : c = 34
        · subst h1; decide
        · by_cases h2 : c = 92
          · subst h2; decide
          · have n1 : (S [34] == S [c]) = false := by rw [beq_eq_false_iff_ne]; intro z; have := S_inj z; simp at this; omega
            have n2 : (S [92] == S [c]) = false := by rw [beq_eq_false_iff_ne]; intro z; have := S_inj z; simp at this; omega
            rw [n1, n2, decide_eq_false (by omega)]; rfl
      show if inV (V.str ⟨#[c]⟩) [V.str (Str.ofString "\""), V.str (Str.ofString "\\")] = true then _ else _
      rw [e1]
      by_cases hq : c = 34 ∨ c = 92
      · rw [decide_eq_true hq]
        refine iteT ⟨_, rfl, _, _, rfl, rfl, (by rw [ofs_b, one_S, S_length, S_length]; exact small (by show 1 + 1 ≤ _; decide)), ?_⟩
        refine ⟨_, by rw [upd_ne npD]; exact hd, hlen, ?_, ?_⟩
        · exact same_put (same_put sm (Same.free sm hp) _) hD _
        · rw [upd_same, et]
          have : Str.ofString "\\" ++ (⟨#[c]⟩ : Str) = S (esc1 c) := by rw [ofs_b, one_S, S_append]; unfold esc1; rw [if_pos hq]; rfl
          rw [this]
      · rw [decide_eq_false hq]
        refine iteF ⟨_, rfl, ?_⟩
        refine ⟨_, by rw [upd_ne npD]; exact hd, hlen, ?_, ?_⟩
        · exact same_put (same_put sm (Same.free sm hp) _) hD _
        · rw [upd_same, et]
          have : (⟨#[c]⟩ : Str) = S (esc1 c) := by rw [one_S]; unfold esc1; rw [if_neg hq]
          rw [this]
    · rintro H1 ⟨sm, hd⟩
      have el : (S l).cps.size = l.length := by simp [S]
      rw [el, List.take_length] at hd
      have em : (l.map esc1).map (fun c => V.str (S c)) = ((l.map esc1).map S).map V.str := by simp
      rw [em] at hd
      have le := escT_len l
      refine ⟨⟨_, rfl⟩, _, rfl, _, D, (l.map esc1).map S, rfl, rfl, .inl (SqL.of hd), ?_, ?_⟩
      · rw [sum_lens, ofs_e]
        show (escT l).length + _ * 0 ≤ _
        omega
      rw [ofs_e, join_empty, ofs_q]
      refine ⟨_, _, rfl, rfl, ?_, _, _, rfl, rfl, ?_, ?_⟩
      · rw [S_length, S_length]; exact small (by show 1 + (escT l).length ≤ _; omega)
      · rw [S_append, S_length, S_length]; exact small (by show (escT l).length + 1 + 1 ≤ _; omega)
      · rw [S_append, S_append]
        exact q H1 sm
end
end DS
set_option Elab.async false
set_option linter.all false
set_option maxRecDepth 100000
set_option maxHeartbeats 4000000
namespace DS
open PySem L2
/-! ### trees in the heap -/
theorem sqT_same {K : PySem.W.Frag} {H H' : Hp} {a : Addr} {xs : List V} (e : Same H H') (h : SqT K H a xs) : SqT K H' a xs := by
  rcases h with (h | ⟨o, h⟩) | h
  · exact .inl (.inl (e _ _ h))
  · exact .inl (.inr ⟨o, e _ _ h⟩)
  · exact .inr h
mutual
theorem dp_same {K : PySem.W.Frag} {H H' : Hp} (e : Same H H') : ∀ (d : PyData) (v : V), Dp K H v d → Dp K H' v d
  | .none, _, h => by cases h; exact .non
  | .bool b, _, h => by cases h; exact .bl b
  | .int i, _, h => by cases h; exact .int i
  | .str x, _, h => by cases h; exact .str x
  | .list ds, _, h => by
    cases h with
    | lst hs ha => exact .lst (e.seq hs) (dp_sameAll e ds _ ha)
  | .tuple ds, _, h => by
    cases h with
    | tup hs ha => exact .tup (sqT_same e hs) (dp_sameAll e ds _ ha)
  | .dict _, _, h => by cases h
theorem dp_sameAll {K : PySem.W.Frag} {H H' : Hp} (e : Same H H') : ∀ (ds : List PyData) (vs : List V), DpAll K H vs ds → DpAll K H' vs ds
  | [], _, h => by cases h; exact .nil
  | d :: ds, _, h => by
    cases h with
    | cons h1 h2 => exact .cons (dp_same e d _ h1) (dp_sameAll e ds _ h2)
end
theorem dp_len {K : PySem.W.Frag} {H : Hp} : ∀ {vs : List V} {ds : List PyData}, DpAll K H vs ds → vs.length = ds.length
  | _, _, .nil => rfl
  | _, _, .cons _ h => by simp [dp_len h]
theorem dp_get {K : PySem.W.Frag} {H : Hp} : ∀ {vs : List V} {ds : List PyData} {i : Nat} {x : V}, DpAll K H vs ds → vs[i]? = some x → ∃ d, ds[i]? = some d ∧ Dp K H x d
  | _, _, _, _, .nil, h => by simp at h
  | _, _, 0, _, .cons h1 _, h => by simp at h; subst h; exact ⟨_, rfl, h1⟩
  | _, _, i + 1, x, .cons _ h2, h => by simpa using dp_get (i := i) h2 (by simpa using h)
theorem dp_snoc {K : PySem.W.Frag} {H : Hp} : ∀ {vs : List V} {ds : List PyData} {x : V} {d : PyData}, DpAll K H vs ds → Dp K H x d → DpAll K H (vs ++ [x]) (ds ++ [d])
  | _, _, _, _, .nil, h => .cons h .nil
  | _, _, _, _, .cons h1 h2, h => .cons h1 (dp_snoc h2 h)
/-- its class -/
def tyN : PyData → String
  | .none => "NoneType" | .bool _ => "bool" | .int _ => "int" | .str _ => "str" | .list _ => "list" | .tuple _ => "tuple" | .dict _ => "dict"
theorem ty_sqT {K : PySem.W.Frag} {H : Hp} {a : Addr} {xs : List V} (h : SqT K H a xs) : TyX K H (.ref a) (.type "tuple") := by
  rcases h with (h | ⟨o, h⟩) | ⟨o, its, n, h1, h2, _⟩
  · exact .base (.tup h)
  · exact .fTuple h
  · exact .kTuple h1 h2
theorem dp_ty {K : PySem.W.Frag} {H : Hp} : ∀ {d : PyData} {v : V}, good d → Dp K H v d → TyX K H v (.type (tyN d))
  | .none, _, _, h => by cases h; exact .base .non
  | .bool b, _, _, h => by cases h; exact .base (.bl b)
  | .int i, _, _, h => by cases h; exact .base (.int i)
  | .str x, _, _, h => by cases h; exact .base (.str x)
  | .list ds, _, g, _ => by simp [good] at g
  | .dict _, _, g, _ => by simp [good] at g
  | .tuple ds, _, _, h => by
    cases h with
    | tup hs ha => exact ty_sqT hs
theorem good_get : ∀ {ds : List PyData} {i : Nat} {d : PyData}, goodAll ds → ds[i]? = some d → good d
  | [], _, _, _, h => by simp at h
  | d :: ds, 0, e, g, h => by simp at h; subst h; simp [goodAll] at g; exact g.1
  | d :: ds, i + 1, e, g, h => by simp [goodAll] at g; exact good_get g.2 (by simpa using h)
theorem hgt_get : ∀ {ds : List PyData} {i : Nat} {d : PyData}, ds[i]? = some d → hgt d ≤ hgtAll ds
  | [], _, _, h => by simp at h
  | d :: ds, 0, e, h => by simp at h; subst h; simp only [hgtAll]; omega
  | d :: ds, i + 1, e, h => by have := hgt_get (ds := ds) (i := i) (by simpa using h); simp only [hgtAll]; omega
theorem txtMore_len : ∀ {ds : List PyData} {i : Nat} {d : PyData}, ds[i]? = some d → (txt d).length ≤ (txtMore ds).length
  | [], _, _, h => by simp at h
  | d :: ds, 0, e, h => by simp at h; subst h; simp only [txtMore, List.length_cons, List.length_append]; omega
  | d :: ds, i + 1, e, h => by have := txtMore_len (ds := ds) (i := i) (by simpa using h); simp only [txtMore, List.length_cons, List.length_append]; omega
theorem txtAll_len {ds : List PyData} {i : Nat} {d : PyData} (h : ds[i]? = some d) : (txt d).length ≤ (txtAll ds).length := by
  cases ds with
  | nil => simp at h
  | cons x xs =>
    cases i with
    | zero => simp at h; subst h; simp only [txtAll, List.length_append]; omega
    | succ i => have := txtMore_len (ds := xs) (i := i) (by simpa using h); simp only [txtAll, List.length_append]; omega
theorem glu_more : ∀ (x : PyData) (xs : List PyData), gluS [32] ((x :: xs).map txt) = txt x ++ txtMore xs
  | x, [] => by simp [gluS, txtMore]
  | x, y :: r => by
    have := glu_more y r
    simp only [List.map_cons] at this ⊢
    simp [gluS, this, txtMore]
theorem glu_all : ∀ xs : List PyData, gluS [32] (xs.map txt) = txtAll xs
  | [] => rfl
  | x :: xs => by rw [glu_more]; rfl
theorem txtMore_ge : ∀ ds : List PyData, (ds.map txt).flatten.length + ds.length = (txtMore ds).length
  | [] => rfl
  | d :: ds => by
    have := txtMore_ge ds
    simp only [List.map_cons, List.flatten_cons, List.length_append, List.length_cons, txtMore]
    omega
theorem txtAll_ge : ∀ ds : List PyData, (ds.map txt).flatten.length + ds.length ≤ (txtAll ds).length + 1
  | [] => by simp
  | d :: ds => by
    have := txtMore_ge ds
    simp only [List.map_cons, List.flatten_cons, List.length_append, List.length_cons, txtAll]
    omega
theorem escT_ge : ∀ l : Cs, l.length ≤ (escT l).length
  | [] => by simp [escT]
  | c :: l => by
    have := escT_ge l
    have h : 1 ≤ (esc1 c).length := by unfold esc1; split <;> simp
    rw [escT_cons, List.length_append, List.length_cons]
    omega
theorem good_log {i : Int} (h : i.natAbs < 10 ^ 100) : i.natAbs.log2 < 1920 := by
  by_cases h0 : i.natAbs = 0
  · rw [h0]; decide
  · exact (Nat.log2_lt h0).mpr (Nat.lt_of_lt_of_le h (by decide +kernel))
/-- built-in names that the text does not bind -/
structure Bn (mg : Str → Option Value) : Prop where
  isi : mg "isinstance" = none
  tup : mg "tuple" = none
  str : mg "str" = none
  bl : mg "bool" = none
  len : mg "len" = none
  int : mg "int" = none
  range : mg "range" = none
  repr : mg "repr" = none
  list : mg "list" = none
  abs : mg "abs" = none
  min : mg "min" = none
theorem boot_isi : bootBuiltins "isinstance" = some (.builtin "isinstance") := by decide +kernel
section
variable {P : Program} {w : World} {K : PySem.W.Frag} {mg : Str → Option Value} {base : Heap}
theorem ofs_op : Str.ofString "(" = S [40] := by decide +kernel
theorem ofs_cl : Str.ofString ")" = S [41] := by decide +kernel
theorem ofs_sp : Str.ofString " " = S [32] := by decide +kernel
theorem ofs_mi : Str.ofString "-" = S [45] := by decide +kernel
theorem ofs_yes : Str.ofString "yes" = S [121, 101, 115] := by decide +kernel
theorem ofs_no : Str.ofString "no" = S [110, 111] := by decide +kernel
theorem k_NoneType_str : kitB "NoneType" "str" = some false := by decide +kernel
theorem k_NoneType_tuple : kitB "NoneType" "tuple" = some false := by decide +kernel
theorem k_bool_bool : kitB "bool" "bool" = some true := by decide +kernel
theorem k_bool_str : kitB "bool" "str" = some false := by decide +kernel
theorem k_bool_tuple : kitB "bool" "tuple" = some false := by decide +kernel
theorem k_int_bool : kitB "int" "bool" = some false := by decide +kernel
theorem k_int_str : kitB "int" "str" = some false := by decide +kernel
theorem k_int_tuple : kitB "int" "tuple" = some false := by decide +kernel
theorem k_str_str : kitB "str" "str" = some true := by decide +kernel
theorem k_str_tuple : kitB "str" "tuple" = some false := by decide +kernel
theorem k_tuple_tuple : kitB "tuple" "tuple" = some true := by decide +kernel
/-! ### write_tree -/
theorem scWT : FnScope ["tree", "part"] ["tree"] (defScope sWT) := ⟨rfl, rfl, rfl, by decide +kernel, rfl, by decide +kernel, by decide +kernel⟩
def spWT (K : PySem.W.Frag) (n : Nat) : Sp := fun vs H Q _ => ∃ v t, vs = [v] ∧ Dp K H v t ∧ good t ∧ hgt t ≤ n ∧ (txt t).length ≤ 1000000 ∧ ∀ H', Same H H' → Q (.str (S (txt t))) H'
theorem wt_step {f fs : Addr} {fd fds : FuncData} {n : Nat} (B : Bn mg) (F : Fun K "write_tree" "write_tree" sWT f fd) (mT : mg "write_tree" = some (.ref f)) (bT : Binds K fd ["tree"] [])
    (FS : Fun K "write_string" "write_string" sWS fs fds) (mS : mg "write_string" = some (.ref fs)) (bS : Binds K fds ["text"] [])
    (G : FnOk P w K mg base CX0 (n + 1) f fd ["tree"] (spWT K n)) : FnOk P w K mg base CX0 (n + 2) f fd ["tree"] (spWT K (n + 1)) := by
  have GS : FnOk P w K mg base CX0 1 fs fds ["text"] spWS := ok_ws FS
  refine F.ok scWT (fun vs H Q E h => ?_) (fun cdv A outer s H vs Q E hr h => ?_)
  · obtain ⟨v, t, rfl, _⟩ := h
    rfl
  · obtain ⟨v, t, rfl, hd, hg, hh, hl, q⟩ := h
    refine ⟨_, pss_cons (ps_if (pt_val (pe_callB call_isi (by rfl) B.isi boot_isi (pa_cons (pv 0) (pa_cons (pe_bltn (v := .ty "tuple") (by rfl) B.tup PyProof.Rows.boot_tuple rfl) pa_nil))))
          (pss_one (ps_ret (pe_op op_add_str (pe_op op_add_str pe_str (pe_join pe_str
            (pe_lc (own := [("part", 1)]) (g := gName 1) (tt := tYes) rfl scWT.nd (pi_tup (pv 0)) (blkOk_by (N := ["tree", "part"]) (sc := defScope sWT) (by decide +kernel))
              (fun _ _ _ _ _ => pg_name (i := 1) scWT.nd rfl (Or.inl rfl)) (fun _ _ _ _ _ => pts_nil)
              (fun _ _ _ _ _ => pe_call G hr rfl mT F.kp bT .nil pass0 (pa_cons (pv 1) pa_nil))))) pe_str))) pss_nil)
      (pss_cons (ps_if (pt_val (pe_callB call_isi (by rfl) B.isi boot_isi (pa_cons (pv 0) (pa_cons (pe_bltn (v := .ty "str") (by rfl) B.str PyProof.Rows.boot_str rfl) pa_nil))))
          (pss_one (ps_ret (pe_call GS (hr.mono (by omega)) rfl mS FS.kp bS .nil pass0 (pa_cons (pv 0) pa_nil)))) pss_nil)
      (pss_cons (ps_if (pt_cmp (pc_isN (pv 0))) (pss_one (ps_ret pe_str)) pss_nil)
      (pss_cons (ps_if (pt_val (pe_callB call_isi (by rfl) B.isi boot_isi (pa_cons (pv 0) (pa_cons (pe_bltn (v := .ty "bool") (by rfl) B.bl PyProof.Rows.boot_bool rfl) pa_nil))))
          (pss_one (ps_ret (pe_ifExp (pt_truth (pv 0) (by intro _; rfl)) pe_str pe_str))) pss_nil)
      (pss_one (ps_ret (pe_callTy call_str_int (by rfl) B.str PyProof.Rows.boot_str (pa_cons (pv 0) pa_nil))))))), ?_⟩
    have hty := dp_ty hg hd
    cases t with
    | tuple ds =>
      cases hd with
      | @tup a xs _ hs ha =>
      refine ⟨_, rfl, _, _, _, _, true, rfl, .ty _, hty, kit_ty k_tuple_tuple, _, rfl, iteT ?_⟩
      refine ⟨⟨_, rfl⟩, _, rfl, a, rfl, ⟨_, hs⟩, fun D hD => ?_⟩
      have hL := dp_len ha
      simp only [txt, List.length_cons, List.length_append] at hl
      simp only [hgt] at hh
      have hga : goodAll ds := by simpa [good] using hg
      have hge := txtAll_ge ds
      refine lc_it (walk_tup (a := a) (xs := xs)) (fun i H' => Same H H' ∧ H' D = some (.lst (((ds.take i).map txt).map fun c => V.str (S c)))) ⟨same_new hD _, by rw [upd_same]; rfl⟩ (fun i H' _ p => sqT_same p.1 hs) ?_ ?_
      · rintro i x H1 H2 hi ⟨sm, hd⟩ ⟨rfl, hx⟩
        obtain ⟨d, ed, dd⟩ := dp_get ha hx
        have et : ((ds.take (i + 1)).map txt).map (fun c => V.str (S c)) = ((ds.take i).map txt).map (fun c => V.str (S c)) ++ [V.str (S (txt d))] := by
          rw [List.take_add_one, ed]; simp
        have hz := txtAll_len ed
        refine ⟨rfl, ?_⟩
        refine ⟨_, rfl, x, d, rfl, dp_same sm d x dd, good_get hga ed, by have := hgt_get ed; omega, by omega, fun H3 sm3 => ?_⟩
        refine ⟨_, sm3 _ _ hd, small' (by simp; omega), same_put (sm.trans sm3) hD _, ?_⟩
        rw [upd_same, et]
      · rintro H1 ⟨sm, hd⟩
        rw [hL, List.take_length] at hd
        have em : (ds.map txt).map (fun c => V.str (S c)) = ((ds.map txt).map S).map V.str := by simp
        rw [em] at hd
        refine ⟨_, D, (ds.map txt).map S, rfl, rfl, .inl (SqL.of hd), ?_, ?_⟩
        · rw [sum_lens, ofs_sp, S_length]
          simp only [List.length_map, List.length_cons, List.length_nil]
          omega
        rw [ofs_sp, glue_cps, glu_all, ofs_op, ofs_cl]
        refine ⟨_, _, rfl, rfl, ?_, _, _, rfl, rfl, ?_, ?_⟩
        · rw [S_length, S_length]; exact small (by show 1 + _ ≤ _; omega)
        · rw [S_append, S_length, S_length]; exact small (by show (txtAll ds).length + 1 + 1 ≤ _; omega)
        · rw [S_append, S_append]
          exact q H1 sm
    | str z =>
      cases hd
      refine ⟨_, rfl, _, _, _, _, false, rfl, .ty _, hty, kit_ty k_str_tuple, _, rfl, iteF ?_⟩
      refine ⟨_, rfl, _, _, _, _, true, rfl, .ty _, hty, kit_ty k_str_str, _, rfl, iteT ?_⟩
      refine ⟨_, rfl, z.cps.toList, by rw [S_eta]; rfl, ?_, fun H' sm => q H' sm⟩
      simp only [txt, List.length_cons, List.length_append] at hl
      have := escT_ge z.cps.toList
      omega
    | none =>
      cases hd
      refine ⟨_, rfl, _, _, _, _, false, rfl, .ty _, hty, kit_ty k_NoneType_tuple, _, rfl, iteF ?_⟩
      refine ⟨_, rfl, _, _, _, _, false, rfl, .ty _, hty, kit_ty k_NoneType_str, _, rfl, iteF ?_⟩
      refine ⟨_, rfl, _, rfl, iteT ?_⟩
      have := q H (Same.refl H)
      rw [show txt PyData.none = [45] from rfl, ← ofs_mi] at this
      exact this
    | bool b =>
      cases hd
      refine ⟨_, rfl, _, _, _, _, false, rfl, .ty _, hty, kit_ty k_bool_tuple, _, rfl, iteF ?_⟩
      refine ⟨_, rfl, _, _, _, _, false, rfl, .ty _, hty, kit_ty k_bool_str, _, rfl, iteF ?_⟩
      refine ⟨_, rfl, _, rfl, iteF ?_⟩
      refine ⟨_, rfl, _, _, _, _, true, rfl, .ty _, hty, kit_ty k_bool_bool, _, rfl, iteT ?_⟩
      refine ⟨_, rfl, b, rfl, ?_⟩
      have := q H (Same.refl H)
      cases b with
      | true =>
        refine iteT ?_
        rw [show txt (PyData.bool true) = [121, 101, 115] from rfl, ← ofs_yes] at this
        exact this
      | false =>
        refine iteF ?_
        rw [show txt (PyData.bool false) = [110, 111] from rfl, ← ofs_no] at this
        exact this
    | int i =>
      cases hd
      refine ⟨_, rfl, _, _, _, _, false, rfl, .ty _, hty, kit_ty k_int_tuple, _, rfl, iteF ?_⟩
      refine ⟨_, rfl, _, _, _, _, false, rfl, .ty _, hty, kit_ty k_int_str, _, rfl, iteF ?_⟩
      refine ⟨_, rfl, _, rfl, iteF ?_⟩
      refine ⟨_, rfl, _, _, _, _, false, rfl, .ty _, hty, kit_ty k_int_bool, _, rfl, iteF ?_⟩
      refine ⟨_, rfl, i, rfl, good_log (by simpa [good] using hg), ?_⟩
      have := q H (Same.refl H)
      rw [show txt (PyData.int i) = numT i from rfl, ← toString_int] at this
      exact this
    | list ds => simp [good] at hg
    | dict ds => simp [good] at hg
/-- write_tree at any depth -/
theorem ok_wt {f fs : Addr} {fd fds : FuncData} (B : Bn mg) (F : Fun K "write_tree" "write_tree" sWT f fd) (mT : mg "write_tree" = some (.ref f)) (bT : Binds K fd ["tree"] [])
    (FS : Fun K "write_string" "write_string" sWS fs fds) (mS : mg "write_string" = some (.ref fs)) (bS : Binds K fds ["text"] []) :
    ∀ n : Nat, FnOk P w K mg base CX0 (n + 1) f fd ["tree"] (spWT K n)
  | 0 => by
    have no : ∀ vs H Q E, ¬ spWT K 0 vs H Q E := fun vs H Q E h => by
      obtain ⟨v, t, _, _, _, h1, _⟩ := h
      have := hgt_pos t
      omega
    exact ⟨fun vs H Q E h => absurd h (no vs H Q E), fun A outer s H args us vs Q E _ _ _ _ h => absurd h (no vs H Q E)⟩
  | n + 1 => wt_step B F mT bT FS mS bS (ok_wt B F mT bT FS mS bS n)
end
end DS
set_option Elab.async false
set_option linter.all false
set_option maxRecDepth 100000
set_option maxHeartbeats 4000000
namespace DS
open PySem L2
abbrev rdS (j : Nat) : Stmt := inClass (top 12) j
/-! ### what is kept -/
/-- all but p is as it was -/
def Sb (p : Addr) (H H' : Hp) : Prop := ∀ b o, H b = some o → b ≠ p → H' b = some o
theorem Sb.refl (p : Addr) (H : Hp) : Sb p H H := fun _ _ h _ => h
theorem Sb.trans {p : Addr} {H H1 H2 : Hp} (a : Sb p H H1) (b : Sb p H1 H2) : Sb p H H2 := fun c o h n => b c o (a c o h n) n
theorem Same.sb {p : Addr} {H H' : Hp} (s : Same H H') : Sb p H H' := fun b o h _ => s b o h
theorem sb_upd {p : Addr} {H : Hp} (o : HO) : Sb p H (upd H p o) := fun b u h n => by rw [upd_ne n]; exact h
theorem sb_free {p q : Addr} {H H' : Hp} {o : HO} (s : Sb p H H') (hp : H p = some o) (h : H' q = none) (hp' : H' p ≠ none) : H q = none := by
  cases e : H q with
  | none => rfl
  | some u =>
    by_cases n : q = p
    · subst n; exact absurd h hp'
    · rw [s q u e n] at h; cases h
theorem sqT_sb {K : PySem.W.Frag} {p : Addr} {H H' : Hp} {a : Addr} {xs : List V} (s : Sb p H H') (hp : ∀ xs, H p ≠ some (.tup xs)) (hp2 : ∀ o xs, H p ≠ some (.frz o (.tup xs))) (h : SqT K H a xs) : SqT K H' a xs := by
  rcases h with (h | ⟨o, h⟩) | h
  · exact .inl (.inl (s _ _ h fun e => hp xs (e ▸ h)))
  · exact .inl (.inr ⟨o, s _ _ h fun e => hp2 o xs (e ▸ h)⟩)
  · exact .inr h
mutual
theorem dp_sb {K : PySem.W.Frag} {p : Addr} {H H' : Hp} (s : Sb p H H') (hp : ∀ xs, H p ≠ some (.tup xs)) (hp2 : ∀ o xs, H p ≠ some (.frz o (.tup xs))) : ∀ (d : PyData) (v : V), good d → Dp K H v d → Dp K H' v d
  | .none, _, _, h => by cases h; exact .non
  | .bool b, _, _, h => by cases h; exact .bl b
  | .int i, _, _, h => by cases h; exact .int i
  | .str x, _, _, h => by cases h; exact .str x
  | .list ds, _, g, h => by simp [good] at g
  | .tuple ds, _, g, h => by
    cases h with
    | tup hs ha => exact .tup (sqT_sb s hp hp2 hs) (dp_sbAll s hp hp2 ds _ (by simpa [good] using g) ha)
  | .dict _, _, _, h => by cases h
theorem dp_sbAll {K : PySem.W.Frag} {p : Addr} {H H' : Hp} (s : Sb p H H') (hp : ∀ xs, H p ≠ some (.tup xs)) (hp2 : ∀ o xs, H p ≠ some (.frz o (.tup xs))) : ∀ (ds : List PyData) (vs : List V), goodAll ds → DpAll K H vs ds → DpAll K H' vs ds
  | [], _, _, h => by cases h; exact .nil
  | d :: ds, _, g, h => by
    simp only [goodAll] at g
    cases h with
    | cons h1 h2 => exact .cons (dp_sb s hp hp2 d _ g.1 h1) (dp_sbAll s hp hp2 ds _ g.2 h2)
end
/-! ### the reader -/
def flds (z : Cs) (a n : Nat) : List (Str × V) := [("text", .str (S z)), ("at", .int a), ("parts", .int n), ("is_bounded", .bl true)]
theorem fl_text (z : Cs) (a n : Nat) : (flds z a n).lookup ("text" : Str) = some (.str (S z)) := by rfl
theorem fl_at (z : Cs) (a n : Nat) : (flds z a n).lookup ("at" : Str) = some (.int a) := by rfl
theorem fl_parts (z : Cs) (a n : Nat) : (flds z a n).lookup ("parts" : Str) = some (.int n) := by rfl
theorem fl_bd (z : Cs) (a n : Nat) : (flds z a n).lookup ("is_bounded" : Str) = some (.bl true) := by rfl
theorem fl_no (z : Cs) (a n : Nat) {m : Str} (h1 : (m == "text") = false) (h2 : (m == "at") = false) (h3 : (m == "parts") = false) (h4 : (m == "is_bounded") = false) : (flds z a n).lookup m = none := by
  simp only [flds, List.lookup, h1, h2, h3, h4]
theorem fl_putAt (z : Cs) (a a' n : Nat) : putF "at" (.int (a' : Nat)) (flds z a n) = flds z a' n := by rfl
theorem fl_putParts (z : Cs) (a n n' : Nat) : putF "parts" (.int (n' : Nat)) (flds z a n) = flds z a n' := by rfl
theorem fl_init (z : Cs) : putF "is_bounded" (.bl true) (putF "parts" (.int 0) (putF "at" (.int 0) (putF "text" (.str (S z)) []))) = flds z 0 0 := by rfl
/-- a Reader stands at p -/
def RdAt (C : Addr) (H : Hp) (p : Addr) (z : Cs) (a n : Nat) : Prop := ∃ dx, H p = some (.ins C dx (flds z a n))
theorem RdAt.noT {C : Addr} {H : Hp} {p : Addr} {z : Cs} {a n : Nat} (R : RdAt C H p z a n) : ∀ xs, H p ≠ some (.tup xs) := fun xs e => by
  obtain ⟨dx, h⟩ := R; rw [h] at e; cases e
theorem RdAt.noF {C : Addr} {H : Hp} {p : Addr} {z : Cs} {a n : Nat} (R : RdAt C H p z a n) : ∀ o xs, H p ≠ some (.frz o (.tup xs)) := fun o xs e => by
  obtain ⟨dx, h⟩ := R; rw [h] at e; cases e
theorem RdAt.ne {C : Addr} {H : Hp} {p : Addr} {z : Cs} {a n : Nat} (R : RdAt C H p z a n) : H p ≠ none := by
  obtain ⟨dx, h⟩ := R; rw [h]; simp
/-- the sign at a -/
def sg (z : Cs) (a : Nat) : Cs := (z.drop a).take 1
theorem sg_some {z : Cs} {a c : Nat} {r : Cs} (h : z.drop a = c :: r) : sg z a = [c] := by unfold sg; rw [h]; rfl
theorem sg_nil {z : Cs} {a : Nat} (h : z.drop a = []) : sg z a = [] := by unfold sg; rw [h]; rfl
theorem lt_of_drop {z : Cs} {a c : Nat} {r : Cs} (h : z.drop a = c :: r) : a < z.length := by
  have := congrArg List.length h
  rw [List.length_drop, List.length_cons] at this
  omega
theorem drop_more {z : Cs} {a c : Nat} {r : Cs} (h : z.drop a = c :: r) : z.drop (a + 1) = r := by
  rw [← List.drop_drop, h]; rfl
theorem drop_app {z : Cs} {a : Nat} {l r : Cs} (h : z.drop a = l ++ r) : z.drop (a + l.length) = r := by
  rw [← List.drop_drop, h]; simp
theorem cut_sg (z : Cs) (a : Nat) : cutS (S z) (some (a : Int)) (some ((a : Int) + 1)) = S (sg z a) := by
  unfold cutS
  rw [show ((a : Int) + 1) = ((a + 1 : Nat) : Int) by omega, HT.sIx_nat, HT.sIx_nat, S_cps, S_length]
  show S _ = S _
  congr 1
  unfold sg
  by_cases h : a < z.length
  · rw [Nat.min_eq_left (by omega), Nat.min_eq_left (by omega), show a + 1 - a = 1 by omega]
  · rw [List.drop_eq_nil_of_le (show z.length ≤ a by omega), List.drop_eq_nil_of_le (by omega)]
    simp
/-- the class, and the global names -/
structure RTxt (K : PySem.W.Frag) (mg : Str → Option Value) (C : Addr) : Prop where
  cl : Cls K C
  nT : NoAttr K C "text"
  nA : NoAttr K C "at"
  nP : NoAttr K C "parts"
  nB : NoAttr K C "is_bounded"
  mgC : mg "Reader" = some (.ref C)
  mParts : ∃ t, mg "MAX_PARTS" = some (.int 2000 t)
  mDepth : ∃ t, mg "MAX_DEPTH" = some (.int 30 t)
  mMore : ∃ t, mg "MORE_DEPTH" = some (.int 4 t)
  mDigs : ∃ t, mg "MAX_DIGITS" = some (.int 100 t)
  mDig : ∃ t, mg "DIGITS" = some (.str (S [48, 49, 50, 51, 52, 53, 54, 55, 56, 57]) t)
  mSig : ∃ t, mg "SIGNS" = some (.str (S sgnList) t)
structure MM (K : PySem.W.Frag) (C : Addr) (x qual : Str) (st : Stmt) (ps : List Str) (f : Addr) (fd : FuncData) : Prop where
  F : Fun K x qual st f fd
  m : Meth K C x f
  b : Binds K fd ps []
section
variable {P : Program} {w : World} {K : PySem.W.Frag} {mg : Str → Option Value} {base : Heap} {C : Addr}
theorem scSign : FnScope ["self"] ["self"] (defScope (rdS 1)) := ⟨rfl, rfl, rfl, by decide +kernel, rfl, by decide +kernel, by decide +kernel⟩
def spSign (C : Addr) : Sp := fun vs H Q _ => ∃ p z a n, vs = [.ref p] ∧ RdAt C H p z a n ∧ z.length ≤ 1000000 ∧ Q (.str (S (sg z a))) H
theorem ok_sign {f : Addr} {fd : FuncData} {k : Nat} (T : RTxt K mg C) (F : Fun K "sign" "Reader.sign" (rdS 1) f fd) : FnOk P w K mg base CX0 (k + 1) f fd ["self"] (spSign C) := by
  refine F.ok scSign (fun vs H Q E h => ?_) (fun cdv A outer s H vs Q E hr h => ?_)
  · obtain ⟨p, z, a, n, rfl, _⟩ := h
    rfl
  · obtain ⟨p, z, a, n, rfl, ⟨dx, hp⟩, hz, q⟩ := h
    refine ⟨_, pss_one (ps_ret (pe_slice sl_str (pe_fld (pv 0) rfl) (po_some (pe_fld (pv 0) rfl)) (po_some (pe_op op_add (pe_fld (pv 0) rfl) pe_int)))), ?_⟩
    refine ⟨_, rfl, p, C, dx, _, _, rfl, hp, T.cl, T.nT, fl_text _ _ _, _, rfl, p, C, dx, _, _, rfl, hp, T.cl, T.nA, fl_at _ _ _, _, rfl, _, rfl, p, C, dx, _, _, rfl, hp, T.cl, T.nA, fl_at _ _ _, _, _, rfl, rfl, _, rfl, _, rfl, ?_, ?_⟩
    · rw [S_length]; exact small (by omega)
    · rw [cut_sg]; exact q
/-! need -/
theorem scNeed : FnScope ["self", "fits"] ["self", "fits"] (defScope (rdS 2)) := ⟨rfl, rfl, rfl, by decide +kernel, rfl, by decide +kernel, by decide +kernel⟩
def spNeed (C : Addr) : Sp := fun vs H Q _ => ∃ p z a n, vs = [.ref p, .bl true] ∧ RdAt C H p z a n ∧ z.length ≤ 1000000 ∧ a < z.length ∧ Q .non H
theorem ok_need {f : Addr} {fd : FuncData} {k : Nat} (B : Bn mg) (T : RTxt K mg C) (F : Fun K "need" "Reader.need" (rdS 2) f fd) : FnOk P w K mg base CX0 (k + 1) f fd ["self", "fits"] (spNeed C) := by
  refine F.ok scNeed (fun vs H Q E h => ?_) (fun cdv A outer s H vs Q E hr h => ?_)
  · obtain ⟨p, z, a, n, rfl, _⟩ := h
    rfl
  · obtain ⟨p, z, a, n, rfl, ⟨dx, hp⟩, hz, ha, q⟩ := h
    refine ⟨_, pss_one (ps_if (PW.pt (pw_or (pt_not (pt_val (pv 1))) (pw_or1 (pt_cmpR op_ge (pe_fld (pv 0) rfl) (pe_callB call_len_str (by rfl) B.len PySem.boot_len (pa_cons (pe_fld (pv 0) rfl) pa_nil)) (nomark _))))) pss_never pss_nil), ?_⟩
    refine ⟨_, rfl, _, rfl, iteF ?_⟩
    refine ⟨_, rfl, p, C, dx, _, _, rfl, hp, T.cl, T.nA, fl_at _ _ _, _, rfl, p, C, dx, _, _, rfl, hp, T.cl, T.nT, fl_text _ _ _, _, rfl, ?_, _, _, rfl, rfl, _, rfl, ?_⟩
    · rw [S_length]; exact small (by omega)
    · refine ite2 (fun e => ?_) (fun _ => q)
      have := of_decide_eq_true e
      rw [S_length] at this
      omega
/-! has_room -/
theorem scRoom : FnScope ["self"] ["self"] (defScope (rdS 3)) := ⟨rfl, rfl, rfl, by decide +kernel, rfl, by decide +kernel, by decide +kernel⟩
def spRoom (C : Addr) : Sp := fun vs H Q _ => ∃ p z a n, vs = [.ref p] ∧ RdAt C H p z a n ∧ Q (.bl (decide ((n : Int) < 2000))) H
theorem ok_room {f : Addr} {fd : FuncData} {k : Nat} (T : RTxt K mg C) (F : Fun K "has_room" "Reader.has_room" (rdS 3) f fd) : FnOk P w K mg base CX0 (k + 1) f fd ["self"] (spRoom C) := by
  refine F.ok scRoom (fun vs H Q E h => ?_) (fun cdv A outer s H vs Q E hr h => ?_)
  · obtain ⟨p, z, a, n, rfl, _⟩ := h
    rfl
  · obtain ⟨p, z, a, n, rfl, ⟨dx, hp⟩, q⟩ := h
    obtain ⟨tP, mP⟩ := T.mParts
    refine ⟨_, pss_one (ps_ret (pe_or (pe_not (pe_fld (pv 0) rfl)) (pe_one (pe_cmpR op_lt (pe_fld (pv 0) rfl) (pe_glob (v := .int 2000) rfl mP ⟨_, rfl⟩) (nomark _))))), ?_⟩
    refine ⟨_, rfl, p, C, dx, _, _, rfl, hp, T.cl, T.nB, fl_bd _ _ _, _, rfl, _, rfl, iteF ?_⟩
    exact ⟨_, rfl, p, C, dx, _, _, rfl, hp, T.cl, T.nP, fl_parts _ _ _, _, _, rfl, rfl, q⟩
/-! step -/
theorem scStep : FnScope ["self"] ["self"] (defScope (rdS 4)) := ⟨rfl, rfl, rfl, by decide +kernel, rfl, by decide +kernel, by decide +kernel⟩
def spStep (C : Addr) : Sp := fun vs H Q _ => ∃ p z a n c r, vs = [.ref p] ∧ RdAt C H p z a n ∧ z.length ≤ 1000000 ∧ z.drop a = c :: r ∧ ∀ H', Sb p H H' → RdAt C H' p z (a + 1) n → Q (.str (S [c])) H'
theorem ok_step {f fN : Addr} {fd fdN : FuncData} {k : Nat} (B : Bn mg) (T : RTxt K mg C) (F : Fun K "step" "Reader.step" (rdS 4) f fd) (MN : MM K C "need" "Reader.need" (rdS 2) ["self", "fits"] fN fdN) :
    FnOk P w K mg base CX0 (k + 2) f fd ["self"] (spStep C) := by
  have GN : FnOk P w K mg base CX0 (k + 1) fN fdN ["self", "fits"] (spNeed C) := ok_need B T MN.F
  refine F.ok scStep (fun vs H Q E h => ?_) (fun cdv A outer s H vs Q E hr h => ?_)
  · obtain ⟨p, z, a, n, c, r, rfl, _⟩ := h
    rfl
  · obtain ⟨p, z, a, n, c, r, rfl, ⟨dx, hp⟩, hz, hd, q⟩ := h
    refine ⟨_, pss_cons (ps_expr (pe_meth (pv 0) T.cl MN.m GN hr MN.b .nil pass0 (pa_cons pe_bl pa_nil))) (pss_cons (ps_fldaug (pv 0) pe_int in_add)
      (pss_one (ps_ret (pe_ix ix_str (pe_fld (pv 0) rfl) (pe_op op_sub (pe_fld (pv 0) rfl) pe_int) (fun _ _ => rfl))))), ?_⟩
    have hlt := lt_of_drop hd
    refine ⟨_, rfl, p, dx, _, rfl, hp, by rfl, p, z, a, n, rfl, ⟨dx, hp⟩, hz, hlt, ?_⟩
    refine ⟨_, rfl, p, C, dx, _, _, rfl, hp, T.cl, T.nA, fl_at _ _ _, _, _, rfl, rfl, dx, _, hp, (by show 4 < 1000; decide), ?_⟩
    rw [show ((a : Int) + 1) = ((a + 1 : Nat) : Int) by omega, fl_putAt]
    refine ⟨_, rfl, p, C, dx, _, _, rfl, upd_same, T.cl, T.nT, fl_text _ _ _, _, rfl, p, C, dx, _, _, rfl, upd_same, T.cl, T.nA, fl_at _ _ _, _, _, rfl, rfl, S z, _, c, rfl, rfl, ?_, ?_, ?_⟩
    · rw [S_length]; exact small (by omega)
    · rw [show (((a + 1 : Nat) : Int) - 1) = (a : Int) by omega]
      refine atI_nat ?_
      rw [S_cps, ← List.head?_drop, hd]; rfl
    · exact q _ (sb_upd _) ⟨dx, upd_same⟩
end
end DS
set_option Elab.async false
set_option linter.all false
set_option maxRecDepth 100000
set_option maxHeartbeats 4000000
namespace DS
open PySem L2
/-- the reader's small methods, at a level -/
structure Smalls (P : Program) (w : World) (K : PySem.W.Frag) (mg : Str → Option Value) (base : Heap) (C fG fN fR fS : Addr) (fdG fdN fdR fdS : FuncData) : Prop where
  G : MM K C "sign" "Reader.sign" (rdS 1) ["self"] fG fdG
  N : MM K C "need" "Reader.need" (rdS 2) ["self", "fits"] fN fdN
  R : MM K C "has_room" "Reader.has_room" (rdS 3) ["self"] fR fdR
  S : MM K C "step" "Reader.step" (rdS 4) ["self"] fS fdS
  oG : FnOk P w K mg base CX0 1 fG fdG ["self"] (spSign C)
  oN : FnOk P w K mg base CX0 1 fN fdN ["self", "fits"] (spNeed C)
  oR : FnOk P w K mg base CX0 1 fR fdR ["self"] (spRoom C)
  oS : FnOk P w K mg base CX0 2 fS fdS ["self"] (spStep C)
theorem mem_esc {c : Nat} : inV (V.str (S [c])) [V.str (Str.ofString "\""), V.str (Str.ofString "\\")] = decide (c = 34 ∨ c = 92) := by
  simp only [inV, List.any, eqV, ofs_q, ofs_b, Bool.or_false]
  by_cases h1 : c = 34
  · subst h1; decide
  · by_cases h2 : c = 92
    · subst h2; decide
    · have n1 : (S [34] == S [c]) = false := by rw [beq_eq_false_iff_ne]; intro z; have := S_inj z; simp at this; omega
      have n2 : (S [92] == S [c]) = false := by rw [beq_eq_false_iff_ne]; intro z; have := S_inj z; simp at this; omega
      rw [n1, n2, decide_eq_false (by omega)]; rfl
theorem flat_one : ∀ s : Cs, (s.map fun c => [c]).flatten = s
  | [] => rfl
  | c :: s => by simp [flat_one s]
theorem vS_inj {a b : Cs} (h : V.str (S a) = V.str (S b)) : a = b := S_inj (V.str.inj h)
section
variable {P : Program} {w : World} {K : PySem.W.Frag} {mg : Str → Option Value} {base : Heap} {C fG fN fR fS : Addr} {fdG fdN fdR fdS : FuncData}
theorem scStr : FnScope ["self", "found", "sign"] ["self"] (defScope (rdS 7)) := ⟨rfl, rfl, rfl, by decide +kernel, rfl, by decide +kernel, by decide +kernel⟩
def spStr (C : Addr) : Sp := fun vs H Q _ => ∃ p z a n s rest, vs = [.ref p] ∧ RdAt C H p z a n ∧ z.length ≤ 1000000 ∧ z.drop a = 34 :: (escT s ++ 34 :: rest) ∧ (∀ c ∈ s, c ∈ sgnList) ∧
  ∀ H', Sb p H H' → RdAt C H' p z (a + (2 + (escT s).length)) n → Q (.str (S s)) H'
theorem ok_str {f : Addr} {fd : FuncData} {k : Nat} (T : RTxt K mg C) (M : Smalls P w K mg base C fG fN fR fS fdG fdN fdR fdS) (F : Fun K "read_string" "Reader.read_string" (rdS 7) f fd) :
    FnOk P w K mg base CX0 (k + 3) f fd ["self"] (spStr C) := by
  refine F.ok scStr (fun vs H Q E h => ?_) (fun cdv A outer s H vs Q E hr h => ?_)
  · obtain ⟨p, z, a, n, s, rest, rfl, _⟩ := h
    rfl
  · obtain ⟨p, z, a, n, s, rest, rfl, ⟨dx, hp⟩, hz, hd, hs, q⟩ := h
    obtain ⟨tS, mS⟩ := T.mSig
    have hr1 : Room 1 _ := hr.mono (show 1 ≤ k + 2 by omega)
    have hr2 : Room 2 _ := hr.mono (show 2 ≤ k + 2 by omega)
    refine ⟨_, pss_cons (ps_expr (pe_meth0 (pv 0) T.cl M.S.m M.oS hr2 M.S.b .nil pass0))
      (pss_cons (ps_set (i := 1) scStr.nd rfl (Or.inl rfl) (pe_lst pa_nil))
      (pss_cons (ps_whileW PassesOwn.never (ptw_cmp op_ne (pew_named (i := 2) scStr.nd rfl (Or.inl rfl) (pew_of (pe_meth0 (pv 0) T.cl M.G.m M.oG hr1 M.G.b .nil pass0))) pe_str (nomark _))
        (pss_cons (ps_expr (pe_meth (pv 0) T.cl M.N.m M.oN hr1 M.N.b .nil pass0 (pa_cons (pe_cmpR op_in_sign (pv 2) (pe_glob (v := .str (S sgnList)) rfl mS ⟨_, rfl⟩) rfl) pa_nil)))
        (pss_cons (ps_expr (pe_meth0 (pv 0) T.cl M.S.m M.oS hr2 M.S.b .nil pass0))
        (pss_cons (ps_if (pt_cmpR op_eq (pv 2) pe_str (nomark _))
          (pss_cons (ps_set (i := 2) scStr.nd rfl (Or.inl rfl) (pe_meth0 (pv 0) T.cl M.G.m M.oG hr1 M.G.b .nil pass0))
          (pss_cons (ps_expr (pe_meth (pv 0) T.cl M.N.m M.oN hr1 M.N.b .nil pass0 (pa_cons (pe_cmpR op_in_seq (pv 2) (pe_tup (pa_cons pe_str (pa_cons pe_str pa_nil))) (by rfl)) pa_nil)))
          (pss_one (ps_expr (pe_meth0 (pv 0) T.cl M.S.m M.oS hr2 M.S.b .nil pass0))))) pss_nil)
        (pss_one (ps_expr (pe_bm PySem.F.plainAttrs_list PySem.F.slot_list_append PySem.F.type_list_append mt_append (pv 1) (pa_cons (pv 2) pa_nil))))))) pss_nil)
      (pss_cons (ps_expr (pe_meth0 (pv 0) T.cl M.S.m M.oS hr2 M.S.b .nil pass0))
      (pss_one (ps_ret (pe_join pe_str (pv 1))))))), ?_⟩
    -- self.step(); found = []
    refine ⟨_, rfl, p, dx, _, rfl, hp, by rfl, p, z, a, n, 34, _, rfl, ⟨dx, hp⟩, hz, hd, fun H1 b1 R1 => ?_⟩
    refine ⟨Nat.zero_le _, fun l hl => ?_⟩
    have hd1 := drop_more hd
    have nlp : l ≠ p := fun e => R1.ne (e ▸ hl)
    have hlH : H l = none := sb_free b1 hp hl R1.ne
    -- the loop
    refine ⟨fun m σ H2 => ∃ s1 s2 y, σ = [some (.ref p), some (.ref l), y] ∧ m = s2.length ∧ s = s1 ++ s2 ∧ Sb p H H2 ∧ RdAt C H2 p z (a + 1 + (escT s1).length) n ∧ z.drop (a + 1 + (escT s1).length) = escT s2 ++ 34 :: rest ∧ H2 l = some (.lst (s1.map fun c => V.str (S [c]))),
      ⟨s.length, [], s, none, rfl, rfl, rfl, b1.trans (Same.sb (same_new hl _)), ?_, by simpa [escT] using hd1, by rw [upd_same]; rfl⟩, ?_⟩
    · obtain ⟨dx1, h1⟩ := R1
      exact ⟨dx1, by rw [upd_ne nlp.symm]; simpa [escT] using h1⟩
    · rintro m σ H2 ⟨s1, s2, y, rfl, rfl, es, b2, ⟨dx2, hp2⟩, hd2, hl2⟩
      refine ⟨_, rfl, p, dx2, _, rfl, hp2, by rfl, p, z, _, n, rfl, ⟨dx2, hp2⟩, hz, rfl, _, rfl, ?_⟩
      cases s2 with
      | nil =>
        have e0 : sg z (a + 1 + (escT s1).length) = [34] := sg_some (r := rest) (by simpa [escT] using hd2)
        have es' : s = s1 := by simpa using es
        rw [e0, ofs_q]
        refine iteF ?_
        -- self.step(); return "".join(found)
        refine ⟨_, rfl, p, dx2, _, rfl, hp2, by rfl, p, z, _, n, 34, rest, rfl, ⟨dx2, hp2⟩, hz, by simpa [escT] using hd2, fun H3 b3 R3 => ?_⟩
        have hl3 := b3 l _ hl2 nlp
        have em : s1.map (fun c => V.str (S [c])) = ((s1.map fun c => [c]).map S).map V.str := by simp
        rw [em] at hl3
        refine ⟨⟨_, rfl⟩, _, rfl, _, l, (s1.map fun c => [c]).map S, rfl, rfl, .inl (SqL.of hl3), ?_, ?_⟩
        · rw [sum_lens, ofs_e, S_length]
          have h1 := escT_ge s1
          have h2 := congrArg List.length hd
          rw [List.length_drop, List.length_cons, List.length_append, es'] at h2
          rw [flat_one]
          show s1.length + _ * 0 ≤ _
          omega
        · rw [ofs_e, join_empty, flat_one, ← es']
          refine q H3 (b2.trans b3) ?_
          rw [show a + (2 + (escT s).length) = a + 1 + (escT s1).length + 1 by rw [es']; omega]
          exact R3
      | cons c s2 =>
        rw [escT_cons, List.append_assoc] at hd2
        have hc : c ∈ sgnList := hs c (by rw [es]; simp)
        have lenb : s1.length < 1000000 := by
          have h1 := escT_ge s1
          have h2 := congrArg List.length hd2
          rw [List.length_drop] at h2
          simp only [List.length_append, List.length_cons] at h2
          omega
        have fin : ∀ H4 : Hp, Sb p H H4 → RdAt C H4 p z (a + 1 + (escT (s1 ++ [c])).length) n → H4 l = some (.lst (s1.map fun c => V.str (S [c]))) →
            ∃ s1' s2' y', [some (V.ref p), some (V.ref l), some (V.str (S [c]))] = [some (V.ref p), some (V.ref l), y'] ∧ s2.length = s2'.length ∧ s = s1' ++ s2' ∧ Sb p H (upd H4 l (.lst (s1.map (fun c => V.str (S [c])) ++ [V.str (S [c])]))) ∧
              RdAt C (upd H4 l (.lst (s1.map (fun c => V.str (S [c])) ++ [V.str (S [c])]))) p z (a + 1 + (escT s1').length) n ∧ z.drop (a + 1 + (escT s1').length) = escT s2' ++ 34 :: rest ∧ (upd H4 l (.lst (s1.map (fun c => V.str (S [c])) ++ [V.str (S [c])]))) l = some (.lst (s1'.map fun c => V.str (S [c]))) := by
          intro H4 b4 R4 hl4
          refine ⟨s1 ++ [c], s2, _, rfl, rfl, by rw [es]; simp, ?_, ?_, ?_, by rw [upd_same]; simp⟩
          · intro b o e n
            rw [upd_ne (ne_of_none e hlH)]
            exact b4 b o e n
          · obtain ⟨dx4, h4⟩ := R4
            exact ⟨dx4, by rw [upd_ne nlp.symm]; exact h4⟩
          · have e1 : escT (s1 ++ [c]) = escT s1 ++ esc1 c := by simp [escT]
            rw [e1, List.length_append, ← Nat.add_assoc]
            exact drop_app hd2
        have e1 : (escT (s1 ++ [c])).length = (escT s1).length + (esc1 c).length := by simp [escT]
        by_cases hq : c = 34 ∨ c = 92
        · have hes : esc1 c = [92, c] := by unfold esc1; rw [if_pos hq]
          rw [hes] at hd2 e1
          have e0 : sg z (a + 1 + (escT s1).length) = [92] := sg_some hd2
          rw [e0, ofs_q]
          refine iteT ⟨fun σ' H' => ∃ s1' s2' y', σ' = [some (.ref p), some (.ref l), y'] ∧ s2.length = s2'.length ∧ s = s1' ++ s2' ∧ Sb p H H' ∧ RdAt C H' p z (a + 1 + (escT s1').length) n ∧ z.drop (a + 1 + (escT s1').length) = escT s2' ++ 34 :: rest ∧ H' l = some (.lst (s1'.map fun c => V.str (S [c]))),
            fun σ' H' h => ?_, ?_⟩
          · obtain ⟨t1, t2, y', h1, h2, h3⟩ := h
            exact ⟨t2.length, by rw [← h2]; simp, t1, t2, y', h1, rfl, h3⟩
          -- self.need(sign in SIGNS); self.step()
          refine ⟨_, rfl, p, dx2, _, rfl, hp2, by rfl, _, rfl, 92, _, rfl, rfl, p, z, _, n, by show [V.ref p, V.bl (decide (92 ∈ sgnList))] = _; rw [decide_eq_true sgn_b], ⟨dx2, hp2⟩, hz, lt_of_drop hd2, ?_⟩
          refine ⟨_, rfl, p, dx2, _, rfl, hp2, by rfl, p, z, _, n, 92, _, rfl, ⟨dx2, hp2⟩, hz, hd2, fun H3 b3 R3 => ?_⟩
          obtain ⟨dx3, hp3⟩ := id R3
          have hd3 := drop_more hd2
          -- if sign == "\\"
          refine ⟨_, rfl, rfl, _, rfl, ?_⟩
          rw [ofs_b]
          refine iteT ?_
          have e3 : sg z (a + 1 + (escT s1).length + 1) = [c] := sg_some hd3
          refine ⟨_, rfl, p, dx3, _, rfl, hp3, by rfl, p, z, _, n, rfl, R3, hz, ?_⟩
          rw [e3]
          refine ⟨_, rfl, p, dx3, _, rfl, hp3, by rfl, _, rfl, by show 2 ≤ sizeLine; decide, fun t ht => ?_⟩
          have ntp : p ≠ t := fun e => R3.ne (e ▸ ht)
          have hp3' : (upd H3 t (.tup [.str (Str.ofString "\""), .str (Str.ofString "\\")])) p = some (.ins C dx3 (flds z (a + 1 + (escT s1).length + 1) n)) := by rw [upd_ne ntp]; exact hp3
          refine ⟨t, _, rfl, .inr (SqT.of upd_same), rfl, rfl, p, z, _, n, ?_, ⟨dx3, hp3'⟩, hz, lt_of_drop hd3, ?_⟩
          · show [V.ref p, V.bl (inV (V.str (S [c])) [V.str (Str.ofString "\""), V.str (Str.ofString "\\")])] = _
            rw [mem_esc, decide_eq_true hq]
          refine ⟨_, rfl, p, dx3, _, rfl, hp3', by rfl, p, z, _, n, c, _, rfl, ⟨dx3, hp3'⟩, hz, hd3, fun H4 b4 R4 => ?_⟩
          have hl4 : H4 l = some (.lst (s1.map fun c => V.str (S [c]))) := b4 l _ (by rw [upd_ne (ne_of_none (b3 l _ hl2 nlp) ht)]; exact b3 l _ hl2 nlp) nlp
          refine ⟨_, rfl, .inl ⟨rfl, _, SqL.of hl4⟩, _, rfl, l, _, _, rfl, rfl, hl4, small' (by simp; omega), ?_⟩
          refine fin H4 ((b2.trans b3).trans ((Same.sb (same_new ht _)).trans b4)) ?_ hl4
          rw [e1]
          exact R4
        · have hes : esc1 c = [c] := by unfold esc1; rw [if_neg hq]
          rw [hes] at hd2 e1
          have e0 : sg z (a + 1 + (escT s1).length) = [c] := sg_some hd2
          rw [e0, ofs_q]
          have nq : ¬ (V.str (S [c]) = V.str (S [34])) := fun e => by have := vS_inj e; simp at this; omega
          rw [decide_eq_false nq]
          refine iteT ⟨fun σ' H' => ∃ s1' s2' y', σ' = [some (.ref p), some (.ref l), y'] ∧ s2.length = s2'.length ∧ s = s1' ++ s2' ∧ Sb p H H' ∧ RdAt C H' p z (a + 1 + (escT s1').length) n ∧ z.drop (a + 1 + (escT s1').length) = escT s2' ++ 34 :: rest ∧ H' l = some (.lst (s1'.map fun c => V.str (S [c]))),
            fun σ' H' h => ?_, ?_⟩
          · obtain ⟨t1, t2, y', h1, h2, h3⟩ := h
            exact ⟨t2.length, by rw [← h2]; simp, t1, t2, y', h1, rfl, h3⟩
          refine ⟨_, rfl, p, dx2, _, rfl, hp2, by rfl, _, rfl, c, _, rfl, rfl, p, z, _, n, by show [V.ref p, V.bl (decide (c ∈ sgnList))] = _; rw [decide_eq_true hc], ⟨dx2, hp2⟩, hz, lt_of_drop hd2, ?_⟩
          refine ⟨_, rfl, p, dx2, _, rfl, hp2, by rfl, p, z, _, n, c, _, rfl, ⟨dx2, hp2⟩, hz, hd2, fun H3 b3 R3 => ?_⟩
          refine ⟨_, rfl, rfl, _, rfl, ?_⟩
          have nb : ¬ (V.str (S [c]) = V.str (S [92])) := fun e => by have := vS_inj e; simp at this; omega
          rw [ofs_b, decide_eq_false nb]
          refine iteF ?_
          have hl3 := b3 l _ hl2 nlp
          refine ⟨_, rfl, .inl ⟨rfl, _, SqL.of hl3⟩, _, rfl, l, _, _, rfl, rfl, hl3, small' (by simp; omega), ?_⟩
          refine fin H3 (b2.trans b3) ?_ hl3
          rw [e1]
          exact R3
end
end DS
set_option Elab.async false
set_option linter.all false
set_option maxRecDepth 100000
set_option maxHeartbeats 4000000
namespace DS
open PySem L2 PySem.NumText
/-- WRITTEN, as the top has made it -/
structure WTxt (K : PySem.W.Frag) (w : World) (mg : Str → Option Value) (d tY tN : Addr) : Prop where
  mgW : mg "WRITTEN" = some (.ref d)
  D : ∃ es n, KDict K w d es n
  y : PySem.W.nsIn K d (S [121]) = some (some (.ref tY))
  n : PySem.W.nsIn K d (S [110]) = some (some (.ref tN))
  no : ∀ c, c ≠ 121 → c ≠ 110 → PySem.W.nsIn K d (S [c]) = some none
  tY : ∀ H, SqT K H tY [.str (S [121, 101, 115]), .bl true]
  tN : ∀ H, SqT K H tN [.str (S [110, 111]), .bl false]
def Stop (rest : Cs) : Prop := ∀ c r, rest = c :: r → ¬ isDig c
def wd (b : Bool) : Cs := if b then [121, 101, 115] else [110, 111]
theorem drop_at {z : Cs} {a i : Nat} {l r : Cs} (h : z.drop a = l ++ r) (hi : i ≤ l.length) : z.drop (a + i) = l.drop i ++ r := by
  rw [← List.drop_drop, h, List.drop_append_of_le_length hi]
theorem ip_str {X : Cx} : PIp X .Add rAddS := fun pins s σ H x y v u Q I rx ry h => iop_add_str pins s σ H x y v u Q I rx ry h
def digL : Cs := [48, 49, 50, 51, 52, 53, 54, 55, 56, 57]
theorem mem_dig {c : Nat} : c ∈ digL ↔ isDig c := by
  simp [digL, isDig]
  omega
section
variable {P : Program} {w : World} {K : PySem.W.Frag} {mg : Str → Option Value} {base : Heap} {C fG fN fR fS : Addr} {fdG fdN fdR fdS : FuncData}
/-! read_written -/
theorem scWr : FnScope ["self", "sign", "word", "value", "one"] ["self", "sign"] (defScope (rdS 8)) := ⟨rfl, rfl, rfl, by decide +kernel, rfl, by decide +kernel, by decide +kernel⟩
def spWr (C : Addr) : Sp := fun vs H Q _ => ∃ p z a n b rest, vs = [.ref p, .str (S [if b then 121 else 110])] ∧ RdAt C H p z a n ∧ z.length ≤ 1000000 ∧ z.drop a = wd b ++ rest ∧
  ∀ H', Sb p H H' → RdAt C H' p z (a + (wd b).length) n → Q (.bl b) H'
theorem ok_wr {f d tY tN : Addr} {fd : FuncData} {k : Nat} (T : RTxt K mg C) (Wt : WTxt K w mg d tY tN) (M : Smalls P w K mg base C fG fN fR fS fdG fdN fdR fdS) (F : Fun K "read_written" "Reader.read_written" (rdS 8) f fd) :
    FnOk P w K mg base CX0 (k + 3) f fd ["self", "sign"] (spWr C) := by
  refine F.ok scWr (fun vs H Q E h => ?_) (fun cdv A outer s H vs Q E hr h => ?_)
  · obtain ⟨p, z, a, n, b, rest, rfl, _⟩ := h
    rfl
  · obtain ⟨p, z, a, n, b, rest, rfl, ⟨dx, hp⟩, hz, hd, q⟩ := h
    have hr1 : Room 1 _ := hr.mono (show 1 ≤ k + 2 by omega)
    have hr2 : Room 2 _ := hr.mono (show 2 ≤ k + 2 by omega)
    refine ⟨_, pss_cons (ps_asg (pe_ix ix_kdict (pe_glob (v := .ref d) rfl Wt.mgW rfl) (pv 1) (fun _ _ => rfl)) (pg_tup (by rfl) (pgs_cons (pg_name (i := 2) scWr.nd rfl (Or.inl rfl)) (pgs_cons (pg_name (i := 3) scWr.nd rfl (Or.inl rfl)) pgs_nil))))
      (pss_cons (ps_for PassesOwn.never rfl (pi_str (pv 2)) (pg_name (i := 4) scWr.nd rfl (Or.inl rfl))
        (pss_cons (ps_expr (pe_meth (pv 0) T.cl M.N.m M.oN hr1 M.N.b .nil pass0 (pa_cons (pe_cmpR op_eq (pe_meth0 (pv 0) T.cl M.G.m M.oG hr1 M.G.b .nil pass0) (pv 4) (nomark _)) pa_nil)))
        (pss_one (ps_expr (pe_meth0 (pv 0) T.cl M.S.m M.oS hr2 M.S.b .nil pass0)))))
      (pss_one (ps_ret (pv 3)))), ?_⟩
    obtain ⟨es, nn, KD⟩ := Wt.D
    have key : ∃ tp, KDct K w d (S [if b then 121 else 110]) (.ref tp) ∧ SqT K H tp [.str (S (wd b)), .bl b] := by
      cases b with
      | true => exact ⟨tY, ⟨es, nn, _, KD.at_, KD.lit, Wt.y, rfl⟩, Wt.tY H⟩
      | false => exact ⟨tN, ⟨es, nn, _, KD.at_, KD.lit, Wt.n, rfl⟩, Wt.tN H⟩
    obtain ⟨tp, kd, hT⟩ := key
    refine ⟨_, rfl, d, _, _, rfl, rfl, kd, tp, _, rfl, hT, rfl, _, _, rfl, _, [], rfl, rfl, ?_⟩
    refine ⟨_, rfl, _, rfl, for_it (walk_str (z := S (wd b))) (fun i σ H2 => ∃ y, σ = [some (.ref p), some (.str (S [if b then 121 else 110])), some (.str (S (wd b))), some (.bl b), y] ∧ Sb p H H2 ∧ RdAt C H2 p z (a + i) n)
      ⟨none, rfl, Sb.refl _ _, ⟨dx, hp⟩⟩ (fun _ _ _ _ _ => trivial) ?_ ?_⟩
    · rintro i x σ H2 H3 hi ⟨y, rfl, b2, R2⟩ ⟨rfl, c, hc, rfl⟩
      obtain ⟨dx2, hp2⟩ := id R2
      have hi' : i < (wd b).length := by simpa [S] using hi
      have ec : (wd b)[i]? = some c := by simpa [S] using hc
      have hdi := drop_at hd (Nat.le_of_lt hi')
      have edc : (wd b).drop i = c :: (wd b).drop (i + 1) := by
        rw [List.drop_eq_getElem_cons hi']
        rw [List.getElem?_eq_getElem hi'] at ec
        rw [Option.some.inj ec]
      rw [edc, List.cons_append] at hdi
      have e0 : sg z (a + i) = [c] := sg_some hdi
      refine ⟨_, rfl, p, dx2, _, rfl, hp2, by rfl, _, rfl, p, dx2, _, rfl, hp2, by rfl, p, z, _, n, rfl, R2, hz, ?_⟩
      rw [e0]
      refine ⟨_, rfl, rfl, p, z, _, n, ?_, R2, hz, lt_of_drop hdi, ?_⟩
      · show [V.ref p, V.bl (decide (V.str (S [c]) = V.str (S [c])))] = _
        rw [decide_eq_true rfl]
      refine ⟨_, rfl, p, dx2, _, rfl, hp2, by rfl, p, z, _, n, c, _, rfl, R2, hz, hdi, fun H4 b4 R4 => ?_⟩
      exact ⟨_, rfl, b2.trans b4, R4⟩
    · rintro σ H2 ⟨y, rfl, b2, R2⟩
      have el : (S (wd b)).cps.size = (wd b).length := by simp [S]
      rw [el] at R2
      exact ⟨_, rfl, q H2 b2 R2⟩
/-! read_digits -/
theorem scDg : FnScope ["self", "found"] ["self"] (defScope (rdS 10)) := ⟨rfl, rfl, rfl, by decide +kernel, rfl, by decide +kernel, by decide +kernel⟩
def spDg (C : Addr) : Sp := fun vs H Q _ => ∃ p z a n ds rest, vs = [.ref p] ∧ RdAt C H p z a n ∧ z.length ≤ 1000000 ∧ z.drop a = ds ++ rest ∧ ds ≠ [] ∧ AllDigits ds ∧ ds.length ≤ 100 ∧ (ds.head? = some 48 → ds.length = 1) ∧ Stop rest ∧
  ∀ H', Sb p H H' → RdAt C H' p z (a + ds.length) n → Q (.str (S ds)) H'
theorem ofs_0 : Str.ofString "0" = S [48] := by decide +kernel
theorem ok_dg {f : Addr} {fd : FuncData} {k : Nat} (B : Bn mg) (T : RTxt K mg C) (M : Smalls P w K mg base C fG fN fR fS fdG fdN fdR fdS) (F : Fun K "read_digits" "Reader.read_digits" (rdS 10) f fd) :
    FnOk P w K mg base CX0 (k + 3) f fd ["self"] (spDg C) := by
  refine F.ok scDg (fun vs H Q E h => ?_) (fun cdv A outer s H vs Q E hr h => ?_)
  · obtain ⟨p, z, a, n, ds, rest, rfl, _⟩ := h
    rfl
  · obtain ⟨p, z, a, n, ds, rest, rfl, ⟨dx, hp⟩, hz, hd, hne, hal, hlen, hz0, hst, q⟩ := h
    have hr1 : Room 1 _ := hr.mono (show 1 ≤ k + 2 by omega)
    have hr2 : Room 2 _ := hr.mono (show 2 ≤ k + 2 by omega)
    obtain ⟨tD, mD⟩ := T.mDig
    obtain ⟨tM, mM⟩ := T.mDigs
    refine ⟨_, pss_cons (ps_set (i := 1) scDg.nd rfl (Or.inl rfl) (pe_meth0 (pv 0) T.cl M.S.m M.oS hr2 M.S.b .nil pass0))
      (pss_cons (ps_while PassesOwn.never (PW.pt (pw_and (pt_cmpR op_ne (pe_meth0 (pv 0) T.cl M.G.m M.oG hr1 M.G.b .nil pass0) pe_str (nomark _)) (pw_and1 (pt_cmpR op_in_sign (pe_meth0 (pv 0) T.cl M.G.m M.oG hr1 M.G.b .nil pass0) (pe_glob (v := .str (S digL)) rfl mD ⟨_, rfl⟩) rfl))))
        (pss_cons (ps_expr (pe_meth (pv 0) T.cl M.N.m M.oN hr1 M.N.b .nil pass0 (pa_cons (pe_and (pe_cmpR op_ne (pv 1) pe_str (nomark _)) (pe_one (pe_cmpR op_lt (pe_callB call_len_str (by rfl) B.len PySem.boot_len (pa_cons (pv 1) pa_nil)) (pe_glob (v := .int 100) rfl mM ⟨_, rfl⟩) (nomark _)))) pa_nil)))
        (pss_one (ps_aug (i := 1) scDg.nd rfl (Or.inl rfl) (pe_meth0 (pv 0) T.cl M.S.m M.oS hr2 M.S.b .nil pass0) ip_str))))
      (pss_one (ps_ret (pv 1)))), ?_⟩
    obtain ⟨c0, ds', rfl⟩ : ∃ c0 ds', ds = c0 :: ds' := by
      cases ds with
      | nil => exact absurd rfl hne
      | cons c r => exact ⟨c, r, rfl⟩
    refine ⟨_, rfl, p, dx, _, rfl, hp, by rfl, p, z, a, n, c0, _, rfl, ⟨dx, hp⟩, hz, hd, fun H1 b1 R1 => ?_⟩
    refine ⟨fun m σ H2 => ∃ d1 d2, σ = [some (.ref p), some (.str (S d1))] ∧ m = d2.length ∧ c0 :: ds' = d1 ++ d2 ∧ d1 ≠ [] ∧ Sb p H H2 ∧ RdAt C H2 p z (a + d1.length) n, ⟨ds'.length, [c0], ds', rfl, rfl, rfl, by simp, b1, R1⟩, ?_⟩
    rintro m σ H2 ⟨d1, d2, rfl, rfl, ed, hd1, b2, R2⟩
    obtain ⟨dx2, hp2⟩ := id R2
    have hd2 : z.drop (a + d1.length) = d2 ++ rest := by
      rw [ed, List.append_assoc] at hd
      exact drop_app hd
    refine ⟨_, rfl, p, dx2, _, rfl, hp2, by rfl, p, z, _, n, rfl, R2, hz, rfl, _, rfl, ?_⟩
    have fin : z.drop (a + d1.length) = rest → d2 = [] → Q (.str (S d1)) H2 := fun _ e => by
      subst e
      rw [List.append_nil] at ed
      rw [← ed] at R2 ⊢
      exact q H2 b2 R2
    cases d2 with
    | nil =>
      cases rest with
      | nil =>
        have e0 : sg z (a + d1.length) = [] := sg_nil (by simpa using hd2)
        rw [e0, ofs_e]
        refine iteF ?_
        show if (!decide (V.str (S []) = V.str (S []))) = true then _ else _
        rw [decide_eq_true rfl]
        exact iteF ⟨_, rfl, fin (by simpa using hd2) rfl⟩
      | cons c r =>
        have e0 : sg z (a + d1.length) = [c] := sg_some (by simpa using hd2)
        rw [e0, ofs_e]
        have nb : ¬ (V.str (S [c]) = V.str (S [])) := fun e => by have := vS_inj e; simp at this
        rw [decide_eq_false nb]
        refine iteT ?_
        refine ⟨_, rfl, p, dx2, _, rfl, hp2, by rfl, p, z, _, n, rfl, R2, hz, ?_⟩
        rw [e0]
        refine ⟨c, _, rfl, rfl, _, rfl, ?_⟩
        have nc : ¬ c ∈ digL := fun e => hst c r rfl (mem_dig.mp e)
        show if decide (c ∈ digL) = true then _ else _
        rw [decide_eq_false nc]
        exact iteF ⟨_, rfl, fin (by simpa using hd2) rfl⟩
    | cons c d2 =>
      have e0 : sg z (a + d1.length) = [c] := sg_some hd2
      rw [e0, ofs_e]
      have nb : ¬ (V.str (S [c]) = V.str (S [])) := fun e => by have := vS_inj e; simp at this
      rw [decide_eq_false nb]
      refine iteT ?_
      refine ⟨_, rfl, p, dx2, _, rfl, hp2, by rfl, p, z, _, n, rfl, R2, hz, ?_⟩
      rw [e0]
      refine ⟨c, _, rfl, rfl, _, rfl, ?_⟩
      have yc : c ∈ digL := mem_dig.mpr (hal c (by rw [ed]; simp))
      show if decide (c ∈ digL) = true then _ else _
      rw [decide_eq_true yc]
      refine iteT ⟨fun σ' H' => ∃ e1 e2, σ' = [some (.ref p), some (.str (S e1))] ∧ d2.length = e2.length ∧ c0 :: ds' = e1 ++ e2 ∧ e1 ≠ [] ∧ Sb p H H' ∧ RdAt C H' p z (a + e1.length) n, fun σ' H' h => ?_, ?_⟩
      · obtain ⟨e1, e2, h1, h2, h3⟩ := h
        exact ⟨e2.length, by rw [← h2]; simp, e1, e2, h1, rfl, h3⟩
      have l1 := congrArg List.length ed
      rw [List.length_append, List.length_cons (as := d2)] at l1
      have n0 : ¬ (V.str (S d1) = V.str (S [48])) := fun e => by
        have := vS_inj e
        subst this
        have h48 : c0 = 48 := by simpa using congrArg List.head? ed
        subst h48
        have := hz0 rfl
        simp only [List.length_cons] at l1 this
        omega
      refine ⟨_, rfl, p, dx2, _, rfl, hp2, by rfl, _, rfl, rfl, _, rfl, ?_⟩
      rw [ofs_0, decide_eq_false n0]
      refine iteT ⟨_, rfl, _, rfl, ?_, _, _, rfl, rfl, p, z, _, n, ?_, R2, hz, lt_of_drop hd2, ?_⟩
      · rw [S_length]; exact small (by omega)
      · rw [S_length]
        show [V.ref p, V.bl (decide ((d1.length : Int) < 100))] = _
        rw [decide_eq_true (by omega)]
      refine ⟨_, rfl, _, rfl, p, dx2, _, rfl, hp2, by rfl, p, z, _, n, c, _, rfl, R2, hz, hd2, fun H3 b3 R3 => ?_⟩
      refine ⟨_, _, rfl, rfl, by rw [S_length, S_length]; exact small (by simp only [List.length_cons, List.length_nil]; omega), ?_⟩
      refine ⟨d1 ++ [c], d2, by rw [S_append]; rfl, rfl, by rw [ed]; simp, by simp, b2.trans b3, ?_⟩
      rw [List.length_append]
      exact R3
end
end DS
set_option Elab.async false
set_option linter.all false
set_option maxRecDepth 100000
set_option maxHeartbeats 4000000
namespace DS
open PySem L2 PySem.NumText
section
variable {P : Program} {w : World} {K : PySem.W.Frag} {mg : Str → Option Value} {base : Heap} {C fG fN fR fS : Addr} {fdG fdN fdR fdS : FuncData}
/-! read_number -/
theorem scNm : FnScope ["self", "is_negative", "digits"] ["self"] (defScope (rdS 9)) := ⟨rfl, rfl, rfl, by decide +kernel, rfl, by decide +kernel, by decide +kernel⟩
/-- what a number's or None's text is read as -/
inductive LeafV : PyData → V → Prop where
  | non : LeafV .none .non
  | int (i : Int) : LeafV (.int i) (.int i)
theorem LeafV.dp {K : PySem.W.Frag} {H : Hp} {t : PyData} {v : V} (h : LeafV t v) : Dp K H v t := by
  cases h with
  | non => exact .non
  | int i => exact .int i
def spNm (C : Addr) : Sp := fun vs H Q _ => ∃ p z a n t v rest, vs = [.ref p] ∧ RdAt C H p z a n ∧ z.length ≤ 1000000 ∧ LeafV t v ∧ good t ∧ z.drop a = txt t ++ rest ∧ Stop rest ∧
  ∀ H', Sb p H H' → RdAt C H' p z (a + (txt t).length) n → Q v H'
theorem dg_int {m : Nat} (h : m < 10 ^ 100) : PySem.intText? (S (decD m)) = some (m : Int) := by
  have hl := decD_len 100 m h (by decide)
  have := PySem.intText_digits (x := S (decD m)) (by rw [S_cps]; exact decD_digits m) (by rw [S_cps]; exact decD_ne m) (by rw [S_length]; omega)
  rw [this, S_cps, decD_val]
theorem ok_nm {f fD : Addr} {fd fdD : FuncData} {k : Nat} (B : Bn mg) (T : RTxt K mg C) (M : Smalls P w K mg base C fG fN fR fS fdG fdN fdR fdS) (MD : MM K C "read_digits" "Reader.read_digits" (rdS 10) ["self"] fD fdD) (F : Fun K "read_number" "Reader.read_number" (rdS 9) f fd) :
    FnOk P w K mg base CX0 (k + 4) f fd ["self"] (spNm C) := by
  have GD : FnOk P w K mg base CX0 3 fD fdD ["self"] (spDg C) := ok_dg (k := 0) B T M MD.F
  refine F.ok scNm (fun vs H Q E h => ?_) (fun cdv A outer s H vs Q E hr h => ?_)
  · obtain ⟨p, z, a, n, t, v, rest, rfl, _⟩ := h
    rfl
  · obtain ⟨p, z, a, n, t, v, rest, rfl, R, hz, hv, hg, hd, hst, q⟩ := h
    have hr1 : Room 1 _ := hr.mono (show 1 ≤ k + 3 by omega)
    have hr2 : Room 2 _ := hr.mono (show 2 ≤ k + 3 by omega)
    have hr3 : Room 3 _ := hr.mono (show 3 ≤ k + 3 by omega)
    obtain ⟨tD, mD⟩ := T.mDig
    obtain ⟨dx, hp⟩ := id R
    have nD : ∀ c : Nat, c ≠ 45 → ¬ (V.str (S [c]) = V.str (S [45])) := fun c hc e => by have := vS_inj e; simp at this; omega
    -- the digits, from a state behind the sign
    obtain ⟨tl, dtl, tail⟩ : ∃ tl : TS, PSs (cxOf CX0 P w K mg base ["self", "is_negative", "digits"] "Reader.read_number" (defScope (rdS 9)) f cdv A outer s H E).nox ((defBody (rdS 9)).drop 2) tl ∧
        ∀ (H1 : Hp) (a1 m : Nat) (ng : Bool), Sb p H H1 → RdAt C H1 p z a1 n → m < 10 ^ 100 → z.drop a1 = decD m ++ rest → a1 + (decD m).length = a + (txt t).length → v = .int (if ng then -(m : Int) else m) →
          tl { nx := fun _ H' => Q .non H', rt := Q } [some (.ref p), some (.bl ng), none] H1 := by
      refine ⟨_, pss_cons (ps_expr (pe_meth (pv 0) T.cl M.N.m M.oN hr1 M.N.b .nil pass0 (pa_cons (pe_cmpR op_in_sign (pe_meth0 (pv 0) T.cl M.G.m M.oG hr1 M.G.b .nil pass0) (pe_glob (v := .str (S digL)) rfl mD ⟨_, rfl⟩) rfl) pa_nil)))
        (pss_cons (ps_set (i := 2) scNm.nd rfl (Or.inl rfl) (pe_meth0 (pv 0) T.cl MD.m GD hr3 MD.b .nil pass0))
        (pss_one (ps_ret (pe_ifExp (pt_val (pv 1)) (pe_un un_neg (pe_callTy call_int_str (by rfl) B.int PyProof.Rows.boot_int (pa_cons (pv 2) pa_nil))) (pe_callTy call_int_str (by rfl) B.int PyProof.Rows.boot_int (pa_cons (pv 2) pa_nil)))))), ?_⟩
      intro H1 a1 m ng b1 R1 hm hd1 ea ev
      obtain ⟨dx1, hp1⟩ := id R1
      obtain ⟨c0, r0, e0⟩ : ∃ c0 r0, decD m = c0 :: r0 := by
        cases e : decD m with
        | nil => exact absurd e (decD_ne m)
        | cons c r => exact ⟨c, r, rfl⟩
      have hdig := decD_digits m
      have s0 : sg z a1 = [c0] := sg_some (by rw [hd1, e0]; rfl)
      have y0 : c0 ∈ digL := mem_dig.mpr (hdig c0 (by rw [e0]; simp))
      refine ⟨_, rfl, p, dx1, _, rfl, hp1, by rfl, _, rfl, p, dx1, _, rfl, hp1, by rfl, p, z, _, n, rfl, R1, hz, ?_⟩
      rw [s0]
      refine ⟨c0, _, rfl, rfl, p, z, _, n, ?_, R1, hz, lt_of_drop (by rw [hd1, e0]; rfl), ?_⟩
      · show [V.ref p, V.bl (decide (c0 ∈ digL))] = _
        rw [decide_eq_true y0]
      refine ⟨_, rfl, p, dx1, _, rfl, hp1, by rfl, p, z, _, n, decD m, rest, rfl, R1, hz, hd1, decD_ne m, hdig, decD_len 100 m hm (by decide), fun h48 => ?_, hst, fun H2 b2 R2 => ?_⟩
      · by_cases h0 : 0 < m
        · exact absurd h48 (decD_head m h0)
        · have : m = 0 := by omega
          subst this
          rfl
      have hle : (S (decD m)).length ≤ 640 := by rw [S_length]; have := decD_len 100 m hm (by decide); omega
      have fin : Q v H2 := q H2 (b1.trans b2) (by rw [← ea]; exact R2)
      cases ng with
      | true =>
        refine ⟨_, rfl, _, rfl, iteT ?_⟩
        refine ⟨_, rfl, _, _, rfl, dg_int hm, hle, _, rfl, ?_⟩
        rw [ev] at fin
        exact fin
      | false =>
        refine ⟨_, rfl, _, rfl, iteF ?_⟩
        refine ⟨_, rfl, _, _, rfl, dg_int hm, hle, ?_⟩
        rw [ev] at fin
        exact fin
    refine ⟨_, pss_cons (ps_set (i := 1) scNm.nd rfl (Or.inl rfl) (pe_cmpR op_eq (pe_meth0 (pv 0) T.cl M.G.m M.oG hr1 M.G.b .nil pass0) pe_str (nomark _)))
      (pss_cons (ps_if (pt_val (pv 1))
        (pss_cons (ps_expr (pe_meth0 (pv 0) T.cl M.S.m M.oS hr2 M.S.b .nil pass0))
        (pss_cons (ps_if (PW.pt (pw_or (pt_cmpR op_eq (pe_meth0 (pv 0) T.cl M.G.m M.oG hr1 M.G.b .nil pass0) pe_str (nomark _)) (pw_or1 (pt_cmpR op_notIn_sign (pe_meth0 (pv 0) T.cl M.G.m M.oG hr1 M.G.b .nil pass0) (pe_glob (v := .str (S digL)) rfl mD ⟨_, rfl⟩) rfl)))) (pss_one (ps_ret pe_non)) pss_nil)
        (pss_one (ps_expr (pe_meth (pv 0) T.cl M.N.m M.oN hr1 M.N.b .nil pass0 (pa_cons (pe_cmpR op_ne (pe_meth0 (pv 0) T.cl M.G.m M.oG hr1 M.G.b .nil pass0) pe_str (nomark _)) pa_nil)))))) pss_nil)
      dtl), ?_⟩
    refine ⟨_, rfl, p, dx, _, rfl, hp, by rfl, p, z, _, n, rfl, R, hz, rfl, ?_⟩
    cases hv with
    | non =>
      have hd' : z.drop a = 45 :: rest := hd
      have s0 : sg z a = [45] := sg_some hd'
      rw [s0, ofs_mi, decide_eq_true rfl]
      refine ⟨_, rfl, _, rfl, iteT ?_⟩
      refine ⟨_, rfl, p, dx, _, rfl, hp, by rfl, p, z, _, n, 45, rest, rfl, R, hz, hd', fun H1 b1 R1 => ?_⟩
      obtain ⟨dx1, hp1⟩ := id R1
      have hd1 := drop_more hd'
      refine ⟨_, rfl, p, dx1, _, rfl, hp1, by rfl, p, z, _, n, rfl, R1, hz, rfl, _, rfl, ?_⟩
      cases rest with
      | nil =>
        rw [sg_nil hd1, ofs_e, decide_eq_true rfl]
        exact iteT (iteT (q H1 b1 R1))
      | cons c r =>
        rw [sg_some hd1, ofs_e]
        have nb : ¬ (V.str (S [c]) = V.str (S [])) := fun e => by have := vS_inj e; simp at this
        rw [decide_eq_false nb]
        refine iteF ?_
        refine ⟨_, rfl, p, dx1, _, rfl, hp1, by rfl, p, z, _, n, rfl, R1, hz, ?_⟩
        rw [sg_some hd1]
        refine ⟨c, _, rfl, rfl, _, rfl, ?_⟩
        have nc : ¬ c ∈ digL := fun e => hst c r rfl (mem_dig.mp e)
        show if (!decide (c ∈ digL)) = true then _ else _
        rw [decide_eq_false nc]
        exact iteT (q H1 b1 R1)
    | int i =>
      have hg' : i.natAbs < 10 ^ 100 := by simpa [good] using hg
      by_cases hi : i < 0
      · have et : txt (.int i) = 45 :: decD i.natAbs := by show numT i = _; unfold numT; rw [if_pos hi]
        rw [et, List.cons_append] at hd
        have s0 : sg z a = [45] := sg_some hd
        rw [s0, ofs_mi, decide_eq_true rfl]
        refine ⟨_, rfl, _, rfl, iteT ?_⟩
        refine ⟨_, rfl, p, dx, _, rfl, hp, by rfl, p, z, _, n, 45, _, rfl, R, hz, hd, fun H1 b1 R1 => ?_⟩
        obtain ⟨dx1, hp1⟩ := id R1
        have hd1 := drop_more hd
        obtain ⟨c0, r0, e0⟩ : ∃ c0 r0, decD i.natAbs = c0 :: r0 := by
          cases e : decD i.natAbs with
          | nil => exact absurd e (decD_ne _)
          | cons c r => exact ⟨c, r, rfl⟩
        have s1 : sg z (a + 1) = [c0] := sg_some (by rw [hd1, e0]; rfl)
        have y0 : c0 ∈ digL := mem_dig.mpr (decD_digits _ c0 (by rw [e0]; simp))
        have n0 : c0 ≠ 48 := fun e => decD_head i.natAbs (by omega) (by rw [e0, e]; rfl)
        refine ⟨_, rfl, p, dx1, _, rfl, hp1, by rfl, p, z, _, n, rfl, R1, hz, rfl, _, rfl, ?_⟩
        rw [s1, ofs_e]
        have nb : ¬ (V.str (S [c0]) = V.str (S [])) := fun e => by have := vS_inj e; simp at this
        rw [decide_eq_false nb]
        refine iteF ?_
        refine ⟨_, rfl, p, dx1, _, rfl, hp1, by rfl, p, z, _, n, rfl, R1, hz, ?_⟩
        rw [s1]
        refine ⟨c0, _, rfl, rfl, _, rfl, ?_⟩
        show if (!decide (c0 ∈ digL)) = true then _ else _
        rw [decide_eq_true y0]
        refine iteF ?_
        refine ⟨_, rfl, p, dx1, _, rfl, hp1, by rfl, _, rfl, p, dx1, _, rfl, hp1, by rfl, p, z, _, n, rfl, R1, hz, ?_⟩
        rw [s1]
        refine ⟨rfl, p, z, _, n, ?_, R1, hz, lt_of_drop (by rw [hd1, e0]; rfl), ?_⟩
        · have nn : ¬ (V.str (S [c0]) = V.str (S [48])) := fun e => by have := vS_inj e; simp at this; exact n0 this
          show [V.ref p, V.bl (!decide (V.str (S [c0]) = V.str (Str.ofString "0")))] = _
          rw [ofs_0, decide_eq_false nn]; rfl
        exact tail H1 (a + 1) i.natAbs true b1 R1 hg' hd1 (by rw [et, List.length_cons]; omega) (by simp; omega)
      · have et : txt (.int i) = decD i.natAbs := by show numT i = _; unfold numT; rw [if_neg hi]
        rw [et] at hd
        obtain ⟨c0, r0, e0⟩ : ∃ c0 r0, decD i.natAbs = c0 :: r0 := by
          cases e : decD i.natAbs with
          | nil => exact absurd e (decD_ne _)
          | cons c r => exact ⟨c, r, rfl⟩
        have y0 := decD_digits _ c0 (by rw [e0]; simp)
        have s1 : sg z a = [c0] := sg_some (by rw [hd, e0]; rfl)
        rw [s1, ofs_mi, decide_eq_false (nD c0 (by omega))]
        refine ⟨_, rfl, _, rfl, iteF ?_⟩
        exact tail H a i.natAbs false (Sb.refl _ _) R hg' hd (by rw [et]) (by simp; omega)
end
end DS
set_option Elab.async false
set_option linter.all false
set_option maxRecDepth 100000
set_option maxHeartbeats 4000000
namespace DS
open PySem L2 PySem.NumText
/-! ### read and read_tuple -/
def spRead (K : PySem.W.Frag) (C : Addr) (m : Nat) : Sp := fun vs H Q _ => ∃ p z a n d t rest, vs = [.ref p, .int ((d : Nat) : Int)] ∧ RdAt C H p z a n ∧ z.length ≤ 1000000 ∧ good t ∧ z.drop a = txt t ++ rest ∧ Stop rest ∧
  d + hgt t ≤ 30 ∧ n + cnt t ≤ 2000 ∧ hgt t ≤ m ∧ ∀ H' v, Sb p H H' → RdAt C H' p z (a + (txt t).length) (n + cnt t) → Dp K H' v t → Q v H'
def spTup (K : PySem.W.Frag) (C : Addr) (m : Nat) : Sp := fun vs H Q _ => ∃ p z a n d ts rest, vs = [.ref p, .int ((d : Nat) : Int)] ∧ RdAt C H p z a n ∧ z.length ≤ 1000000 ∧ goodAll ts ∧ z.drop a = 40 :: (txtAll ts ++ 41 :: rest) ∧
  d + hgtAll ts ≤ 30 ∧ n + cntAll ts ≤ 2000 ∧ hgtAll ts ≤ m ∧ ∀ H' v, Sb p H H' → RdAt C H' p z (a + (2 + (txtAll ts).length)) (n + cntAll ts) → Dp K H' v (.tuple ts) → Q v H'
theorem txtAll_ne {ts : List PyData} (h : ts ≠ []) (g : goodAll ts) : ∃ c r, txtAll ts = c :: r ∧ c ≠ 41 := by
  cases ts with
  | nil => exact absurd rfl h
  | cons t ts =>
    simp only [goodAll] at g
    obtain ⟨c, r, e, hc⟩ := txt_head t g.1
    refine ⟨c, r ++ txtMore ts, by simp only [txtAll, e, List.cons_append], ?_⟩
    unfold isDig at hc
    omega
theorem stop_more (ts : List PyData) (rest : Cs) : Stop (txtMore ts ++ 41 :: rest) := by
  intro c r e
  unfold isDig
  cases ts with
  | nil => simp [txtMore] at e; omega
  | cons t ts => simp [txtMore] at e; omega
theorem cntAll_app : ∀ a b : List PyData, cntAll (a ++ b) = cntAll a + cntAll b
  | [], b => by simp [cntAll]
  | x :: a, b => by simp [cntAll, cntAll_app a b]; omega
theorem cntAll_pos {ts : List PyData} (h : ts ≠ []) : 1 ≤ cntAll ts := by
  cases ts with
  | nil => exact absurd rfl h
  | cons t ts => have := cnt_pos t; simp only [cntAll]; omega
theorem goodAll_app : ∀ {a b : List PyData}, goodAll (a ++ b) → goodAll a ∧ goodAll b
  | [], b, h => ⟨by simp [goodAll], by simpa using h⟩
  | x :: a, b, h => by
    simp only [List.cons_append, goodAll] at h ⊢
    have := goodAll_app h.2
    exact ⟨⟨h.1, this.1⟩, this.2⟩
theorem hgtAll_app (a b : List PyData) : hgtAll b ≤ hgtAll (a ++ b) := by
  induction a with
  | nil => exact Nat.le_refl _
  | cons x a ih => simp only [List.cons_append, hgtAll]; omega
theorem len_lt : ∀ ts : List PyData, goodAll ts → ts.length ≤ (txtMore ts).length
  | [], _ => Nat.zero_le _
  | t :: ts, g => by
    simp only [goodAll] at g
    have := len_lt ts g.2
    simp only [txtMore, List.length_cons, List.length_append]
    omega
section
variable {P : Program} {w : World} {K : PySem.W.Frag} {mg : Str → Option Value} {base : Heap} {C fG fN fR fS : Addr} {fdG fdN fdR fdS : FuncData}
theorem scTp : FnScope ["self", "depth", "found"] ["self", "depth"] (defScope (rdS 6)) := ⟨rfl, rfl, rfl, by decide +kernel, rfl, by decide +kernel, by decide +kernel⟩
theorem ok_tup {f fA : Addr} {fd fdA : FuncData} {k m : Nat} (B : Bn mg) (T : RTxt K mg C) (M : Smalls P w K mg base C fG fN fR fS fdG fdN fdR fdS) (MA : MM K C "read" "Reader.read" (rdS 5) ["self", "depth"] fA fdA)
    (GA : FnOk P w K mg base CX0 (k + 2) fA fdA ["self", "depth"] (spRead K C m)) (F : Fun K "read_tuple" "Reader.read_tuple" (rdS 6) f fd) :
    FnOk P w K mg base CX0 (k + 3) f fd ["self", "depth"] (spTup K C m) := by
  refine F.ok scTp (fun vs H Q E h => ?_) (fun cdv A outer s H vs Q E hr h => ?_)
  · obtain ⟨p, z, a, n, d, ts, rest, rfl, _⟩ := h
    rfl
  · obtain ⟨p, z, a, n, d, ts, rest, rfl, ⟨dx, hp⟩, hz, hg, hd, hdep, hcnt, hm, q⟩ := h
    have hr1 : Room 1 _ := hr.mono (show 1 ≤ k + 2 by omega)
    have hr2 : Room 2 _ := hr.mono (show 2 ≤ k + 2 by omega)
    refine ⟨_, pss_cons (ps_expr (pe_meth0 (pv 0) T.cl M.S.m M.oS hr2 M.S.b .nil pass0))
      (pss_cons (ps_set (i := 2) scTp.nd rfl (Or.inl rfl) (pe_lst pa_nil))
      (pss_cons (ps_if (pt_cmpR op_eq (pe_meth0 (pv 0) T.cl M.G.m M.oG hr1 M.G.b .nil pass0) pe_str (nomark _))
        (pss_cons (ps_expr (pe_meth0 (pv 0) T.cl M.S.m M.oS hr2 M.S.b .nil pass0)) (pss_one (ps_ret (pe_tup pa_nil)))) pss_nil)
      (pss_one (ps_while PassesOwn.never (pt_val pe_bl)
        (pss_cons (ps_expr (pe_bm PySem.F.plainAttrs_list PySem.F.slot_list_append PySem.F.type_list_append mt_append (pv 2) (pa_cons (pe_meth (pv 0) T.cl MA.m GA hr MA.b .nil pass0 (pa_cons (pv 1) pa_nil)) pa_nil)))
        (pss_cons (ps_expr (pe_meth (pv 0) T.cl M.N.m M.oN hr1 M.N.b .nil pass0 (pa_cons
          (pe_or (pe_cmpR op_eq (pe_meth0 (pv 0) T.cl M.G.m M.oG hr1 M.G.b .nil pass0) pe_str (nomark _)) (pe_one (pe_and (pe_cmpR op_eq (pe_meth0 (pv 0) T.cl M.G.m M.oG hr1 M.G.b .nil pass0) pe_str (nomark _)) (pe_one (pe_meth0 (pv 0) T.cl M.R.m M.oR hr1 M.R.b .nil pass0))))) pa_nil)))
        (pss_one (ps_if (pt_cmpR op_eq (pe_meth0 (pv 0) T.cl M.S.m M.oS hr2 M.S.b .nil pass0) pe_str (nomark _))
          (pss_one (ps_ret (pe_callTy call_tuple_of (by rfl) B.tup PyProof.Rows.boot_tuple (pa_cons (pv 2) pa_nil)))) pss_nil)))))))), ?_⟩
    refine ⟨_, rfl, p, dx, _, rfl, hp, by rfl, p, z, a, n, 40, _, rfl, ⟨dx, hp⟩, hz, hd, fun H1 b1 R1 => ?_⟩
    refine ⟨Nat.zero_le _, fun l hl => ?_⟩
    have hd1 := drop_more hd
    have nlp : l ≠ p := fun e => R1.ne (e ▸ hl)
    have hlH : H l = none := sb_free b1 hp hl R1.ne
    obtain ⟨dx1, hp1⟩ := id R1
    have hp1' : (upd H1 l (.lst [])) p = some (.ins C dx1 (flds z (a + 1) n)) := by rw [upd_ne nlp.symm]; exact hp1
    have b1' : Sb p H (upd H1 l (.lst [])) := b1.trans (Same.sb (same_new hl _))
    refine ⟨_, rfl, p, dx1, _, rfl, hp1', by rfl, p, z, _, n, rfl, ⟨dx1, hp1'⟩, hz, rfl, _, rfl, ?_⟩
    by_cases hts : ts = []
    · subst hts
      have hd1' : z.drop (a + 1) = 41 :: rest := by simpa [txtAll] using hd1
      rw [sg_some hd1', ofs_cl, decide_eq_true rfl]
      refine iteT ?_
      refine ⟨_, rfl, p, dx1, _, rfl, hp1', by rfl, p, z, _, n, 41, rest, rfl, ⟨dx1, hp1'⟩, hz, hd1', fun H2 b2 R2 => ?_⟩
      refine ⟨Nat.zero_le _, fun e he => ?_⟩
      have nep : e ≠ p := fun x => R2.ne (x ▸ he)
      refine q _ _ ((b1'.trans b2).trans (Same.sb (same_new he _))) ?_ (.tup (SqT.of upd_same) .nil)
      obtain ⟨dx2, hp2⟩ := R2
      exact ⟨dx2, by rw [upd_ne nep.symm]; simpa [txtAll, cntAll] using hp2⟩
    · obtain ⟨c0, r0, e0, n41⟩ := txtAll_ne hts hg
      have s0 : sg z (a + 1) = [c0] := sg_some (by rw [hd1, e0]; rfl)
      have nq : ¬ (V.str (S [c0]) = V.str (S [41])) := fun e => by have := vS_inj e; simp at this; omega
      rw [s0, ofs_cl, decide_eq_false nq]
      refine iteF ?_
      refine ⟨fun m σ H2 => ∃ t1 t2 vs1 a2, σ = [some (.ref p), some (.int (d : Nat)), some (.ref l)] ∧ m = t2.length ∧ ts = t1 ++ t2 ∧ t2 ≠ [] ∧ Sb p H H2 ∧ RdAt C H2 p z a2 (n + cntAll t1) ∧
          z.drop a2 = txtAll t2 ++ 41 :: rest ∧ a2 + (txtAll t2).length = a + 1 + (txtAll ts).length ∧ H2 l = some (.lst vs1) ∧ DpAll K H2 vs1 t1,
        ⟨ts.length, [], ts, [], a + 1, rfl, rfl, rfl, hts, b1', ⟨dx1, by simpa [cntAll] using hp1'⟩, hd1, rfl, upd_same, .nil⟩, ?_⟩
      rintro m' σ H2 ⟨t1, t2, vs1, a2, rfl, rfl, ets, hne, b2, R2, hd2, ea, hl2, hD⟩
      obtain ⟨dx2, hp2⟩ := id R2
      obtain ⟨t, t3, rfl⟩ : ∃ t t3, t2 = t :: t3 := by
        cases t2 with
        | nil => exact absurd rfl hne
        | cons t t3 => exact ⟨t, t3, rfl⟩
      have hgs := goodAll_app (ets ▸ hg)
      have hgt1 := hgs.1
      have hg2 : good t ∧ goodAll t3 := by simpa [goodAll] using hgs.2
      have hh := hgtAll_app t1 (t :: t3)
      rw [← ets] at hh
      simp only [hgtAll] at hh
      have hc : cntAll ts = cntAll t1 + (cnt t + cntAll t3) := by rw [ets, cntAll_app]; rfl
      have hd2' : z.drop a2 = txt t ++ (txtMore t3 ++ 41 :: rest) := by rw [hd2]; simp [txtAll]
      refine ⟨true, rfl, iteT ?_⟩
      refine ⟨fun σ' H' => ∃ s1 s2 ws1 a3, σ' = [some (.ref p), some (.int (d : Nat)), some (.ref l)] ∧ t3.length = s2.length ∧ ts = s1 ++ s2 ∧ s2 ≠ [] ∧ Sb p H H' ∧ RdAt C H' p z a3 (n + cntAll s1) ∧
          z.drop a3 = txtAll s2 ++ 41 :: rest ∧ a3 + (txtAll s2).length = a + 1 + (txtAll ts).length ∧ H' l = some (.lst ws1) ∧ DpAll K H' ws1 s1, fun σ' H' h => ?_, ?_⟩
      · obtain ⟨s1, s2, ws1, a3, h1, h2, h3⟩ := h
        exact ⟨s2.length, by rw [← h2]; simp, s1, s2, ws1, a3, h1, rfl, h3⟩
      -- found.append(self.read(depth))
      refine ⟨_, rfl, .inl ⟨rfl, _, SqL.of hl2⟩, _, rfl, p, dx2, _, rfl, hp2, by rfl, _, rfl, p, z, a2, _, d, t, _, rfl, R2, hz, hg2.1, hd2', stop_more t3 rest, by omega, by omega, by omega, fun H3 v b3 R3 hv => ?_⟩
      have hl3 := b3 l _ hl2 nlp
      have hL := dp_len hD
      have hsz : vs1.length < sizeLine := by
        have h1 := txtAll_ge ts
        have h2 := congrArg List.length hd1
        rw [List.length_drop] at h2
        simp only [List.length_append, List.length_cons] at h2
        have h3 := congrArg List.length ets
        rw [List.length_append] at h3
        exact small' (by omega)
      refine ⟨l, _, _, rfl, rfl, hl3, hsz, ?_⟩
      obtain ⟨dx3, hp3⟩ := id R3
      have hp4 : (upd H3 l (.lst (vs1 ++ [v]))) p = some (.ins C dx3 (flds z (a2 + (txt t).length) (n + cntAll t1 + cnt t))) := by rw [upd_ne nlp.symm]; exact hp3
      have R4 : RdAt C (upd H3 l (.lst (vs1 ++ [v]))) p z (a2 + (txt t).length) (n + cntAll t1 + cnt t) := ⟨dx3, hp4⟩
      have nT : ∀ xs, H3 l ≠ some (.tup xs) := fun xs e => by rw [hl3] at e; cases e
      have nF : ∀ o xs, H3 l ≠ some (.frz o (.tup xs)) := fun o xs e => by rw [hl3] at e; cases e
      have D3 : DpAll K H3 vs1 t1 := dp_sbAll b3 R2.noT R2.noF t1 vs1 hgt1 hD
      have D4 : DpAll K (upd H3 l (.lst (vs1 ++ [v]))) (vs1 ++ [v]) (t1 ++ [t]) := dp_snoc (dp_sbAll (sb_upd _) nT nF t1 vs1 hgt1 D3) (dp_sb (sb_upd _) nT nF t v hg2.1 hv)
      have b4 : Sb p H (upd H3 l (.lst (vs1 ++ [v]))) := fun b o e hb => by
        rw [upd_ne (ne_of_none e hlH)]
        exact (b2.trans b3) b o e hb
      have hd4 := drop_app hd2'
      -- self.need(..)
      refine ⟨_, rfl, p, dx3, _, rfl, hp4, by rfl, _, rfl, p, dx3, _, rfl, hp4, by rfl, p, z, _, _, rfl, R4, hz, rfl, _, rfl, ?_⟩
      cases t3 with
      | nil =>
        have hd5 : z.drop (a2 + (txt t).length) = 41 :: rest := by simpa [txtMore] using hd4
        rw [sg_some hd5, decide_eq_true rfl]
        refine iteT ?_
        refine ⟨p, z, _, _, rfl, R4, hz, lt_of_drop hd5, ?_⟩
        refine ⟨_, rfl, p, dx3, _, rfl, hp4, by rfl, p, z, _, _, 41, rest, rfl, R4, hz, hd5, fun H5 b5 R5 => ?_⟩
        refine ⟨rfl, _, rfl, ?_⟩
        rw [decide_eq_true rfl]
        refine iteT ?_
        have hl5 := b5 l _ upd_same nlp
        refine ⟨_, rfl, l, _, rfl, .inl ⟨SqL.of hl5, fun e he => ?_⟩⟩
        have nep : e ≠ p := fun x => R5.ne (x ▸ he)
        have D5 := dp_sbAll b5 R4.noT R4.noF (t1 ++ [t]) _ (ets ▸ hg) D4
        have D6 := dp_sameAll (same_new he (.tup (vs1 ++ [v]))) (t1 ++ [t]) _ D5
        refine q _ _ ((b4.trans b5).trans (Same.sb (same_new he _))) ?_ (.tup (SqT.of upd_same) (ets ▸ D6))
        obtain ⟨dx5, hp5⟩ := R5
        refine ⟨dx5, ?_⟩
        rw [upd_ne nep.symm, hp5]
        have e1 : a2 + (txt t).length + 1 = a + (2 + (txtAll ts).length) := by
          simp only [txtAll, txtMore, List.append_nil] at ea
          omega
        have e2 : n + cntAll t1 + cnt t = n + cntAll ts := by rw [hc]; simp [cntAll]; omega
        rw [e1, e2]
      | cons t4 t5 =>
        have hd5 : z.drop (a2 + (txt t).length) = 32 :: (txtAll (t4 :: t5) ++ 41 :: rest) := by
          rw [hd4]; simp [txtMore, txtAll]
        have nq2 : ¬ (V.str (S [32]) = V.str (S [41])) := by decide
        rw [sg_some hd5, decide_eq_false nq2]
        refine iteF ?_
        refine ⟨_, rfl, p, dx3, _, rfl, hp4, by rfl, p, z, _, _, rfl, R4, hz, ?_⟩
        rw [sg_some hd5]
        refine ⟨rfl, _, rfl, ?_⟩
        rw [ofs_sp, decide_eq_true rfl]
        refine iteT ?_
        have hpos : 1 ≤ cntAll (t4 :: t5) := cntAll_pos (by simp)
        refine ⟨_, rfl, p, dx3, _, rfl, hp4, by rfl, p, z, _, _, rfl, R4, ?_⟩
        refine ⟨p, z, _, _, ?_, R4, hz, lt_of_drop hd5, ?_⟩
        · rw [decide_eq_true (by omega)]; rfl
        refine ⟨_, rfl, p, dx3, _, rfl, hp4, by rfl, p, z, _, _, 32, _, rfl, R4, hz, hd5, fun H5 b5 R5 => ?_⟩
        refine ⟨rfl, _, rfl, ?_⟩
        rw [decide_eq_false nq2]
        refine iteF ?_
        have hl5 := b5 l _ upd_same nlp
        refine ⟨t1 ++ [t], t4 :: t5, vs1 ++ [v], a2 + (txt t).length + 1, rfl, rfl, by rw [ets]; simp, by simp, b4.trans b5, ?_, drop_more hd5, ?_, hl5, dp_sbAll b5 R4.noT R4.noF (t1 ++ [t]) _ ?_ D4⟩
        · have e2 : n + cntAll t1 + cnt t = n + cntAll (t1 ++ [t]) := by rw [cntAll_app]; simp [cntAll]; omega
          rw [← e2]; exact R5
        · simp only [txtAll, txtMore, List.length_append, List.length_cons] at ea ⊢
          omega
        · have : ts = (t1 ++ [t]) ++ (t4 :: t5) := by rw [ets]; simp
          exact (goodAll_app (this ▸ hg)).1
end
end DS
set_option Elab.async false
set_option linter.all false
set_option maxRecDepth 100000
set_option maxHeartbeats 4000000
namespace DS
open PySem L2 PySem.NumText
abbrev sRW : Stmt := top 13
abbrev sRT : Stmt := top 14
section
variable {P : Program} {w : World} {K : PySem.W.Frag} {mg : Str → Option Value} {base : Heap} {C fG fN fR fS : Addr} {fdG fdN fdR fdS : FuncData}
theorem scRd : FnScope ["self", "depth", "sign"] ["self", "depth"] (defScope (rdS 5)) := ⟨rfl, rfl, rfl, by decide +kernel, rfl, by decide +kernel, by decide +kernel⟩
theorem nsg {c d : Nat} (h : c ≠ d) : ¬ (V.str (S [c]) = V.str (S [d])) := fun e => by have := vS_inj e; simp at this; omega
theorem ok_read {f fT fQ fW fM d tY tN : Addr} {fd fdT fdQ fdW fdM : FuncData} {k m : Nat} (T : RTxt K mg C) (Wt : WTxt K w mg d tY tN) (M : Smalls P w K mg base C fG fN fR fS fdG fdN fdR fdS)
    (MT : MM K C "read_tuple" "Reader.read_tuple" (rdS 6) ["self", "depth"] fT fdT) (GT : FnOk P w K mg base CX0 (k + 4) fT fdT ["self", "depth"] (spTup K C m))
    (MQ : MM K C "read_string" "Reader.read_string" (rdS 7) ["self"] fQ fdQ) (GQ : FnOk P w K mg base CX0 3 fQ fdQ ["self"] (spStr C))
    (MW : MM K C "read_written" "Reader.read_written" (rdS 8) ["self", "sign"] fW fdW) (GW : FnOk P w K mg base CX0 3 fW fdW ["self", "sign"] (spWr C))
    (MM_ : MM K C "read_number" "Reader.read_number" (rdS 9) ["self"] fM fdM) (GM : FnOk P w K mg base CX0 4 fM fdM ["self"] (spNm C))
    (F : Fun K "read" "Reader.read" (rdS 5) f fd) : FnOk P w K mg base CX0 (k + 5) f fd ["self", "depth"] (spRead K C (m + 1)) := by
  refine F.ok scRd (fun vs H Q E h => ?_) (fun cdv A outer s H vs Q E hr h => ?_)
  · obtain ⟨p, z, a, n, d, t, rest, rfl, _⟩ := h
    rfl
  · obtain ⟨p, z, a, n, dd, t, rest, rfl, R, hz, hg, hd, hst, hdep, hcnt, hm, q⟩ := h
    have hr1 : Room 1 _ := hr.mono (show 1 ≤ k + 4 by omega)
    have hr3 : Room 3 _ := hr.mono (show 3 ≤ k + 4 by omega)
    have hr4 : Room 4 _ := hr.mono (show 4 ≤ k + 4 by omega)
    obtain ⟨tD, mD⟩ := T.mDepth
    obtain ⟨tM, mM⟩ := T.mMore
    obtain ⟨es, nn, KD⟩ := Wt.D
    refine ⟨_, pss_cons (ps_expr (pe_meth (pv 0) T.cl M.N.m M.oN hr1 M.N.b .nil pass0 (pa_cons (pe_cmpR op_lt (pv 1) (pe_ifExp (pt_val (pe_fld (pv 0) rfl)) (pe_glob (v := .int 30) rfl mD ⟨_, rfl⟩) (pe_op op_add (pe_glob (v := .int 30) rfl mD ⟨_, rfl⟩) (pe_glob (v := .int 4) rfl mM ⟨_, rfl⟩))) (nomark _)) pa_nil)))
      (pss_cons (ps_expr (pe_meth (pv 0) T.cl M.N.m M.oN hr1 M.N.b .nil pass0 (pa_cons (pe_meth0 (pv 0) T.cl M.R.m M.oR hr1 M.R.b .nil pass0) pa_nil)))
      (pss_cons (ps_fldaug (pv 0) pe_int in_add)
      (pss_cons (ps_set (i := 2) scRd.nd rfl (Or.inl rfl) (pe_meth0 (pv 0) T.cl M.G.m M.oG hr1 M.G.b .nil pass0))
      (pss_cons (ps_if (pt_cmpR op_eq (pv 2) pe_str (nomark _)) (pss_one (ps_ret (pe_meth (pv 0) T.cl MT.m GT hr MT.b .nil pass0 (pa_cons (pe_op op_add (pv 1) pe_int) pa_nil)))) pss_nil)
      (pss_cons (ps_if (pt_cmpR op_eq (pv 2) pe_str (nomark _)) (pss_one (ps_ret (pe_meth0 (pv 0) T.cl MQ.m GQ hr3 MQ.b .nil pass0))) pss_nil)
      (pss_cons (ps_if (PW.pt (pw_and (pt_cmpR (op_in_kd KD) (pv 2) (pe_glob (v := .ref d) rfl Wt.mgW rfl) (by rfl)) (pw_and1 (pt_cmpR op_ne (pv 2) pe_str (nomark _))))) (pss_one (ps_ret (pe_meth (pv 0) T.cl MW.m GW hr3 MW.b .nil pass0 (pa_cons (pv 2) pa_nil)))) pss_nil)
      (pss_one (ps_ret (pe_meth0 (pv 0) T.cl MM_.m GM hr4 MM_.b .nil pass0))))))))), ?_⟩
    obtain ⟨dx, hp⟩ := id R
    have hh := hgt_pos t
    have hc := cnt_pos t
    obtain ⟨c0, r0, e0, hc0⟩ := txt_head t hg
    have hd0 : z.drop a = c0 :: (r0 ++ rest) := by rw [hd, e0]; rfl
    refine ⟨_, rfl, p, dx, _, rfl, hp, by rfl, _, rfl, _, rfl, p, C, dx, _, _, rfl, hp, T.cl, T.nB, fl_bd _ _ _, _, rfl, ?_⟩
    refine iteT ⟨_, _, rfl, rfl, p, z, _, n, ?_, R, hz, lt_of_drop hd0, ?_⟩
    · show [V.ref p, V.bl (decide ((dd : Int) < 30))] = _
      rw [decide_eq_true (by omega)]
    refine ⟨_, rfl, p, dx, _, rfl, hp, by rfl, _, rfl, p, dx, _, rfl, hp, by rfl, p, z, _, n, rfl, R, p, z, _, n, ?_, R, hz, lt_of_drop hd0, ?_⟩
    · show [V.ref p, V.bl (decide ((n : Int) < 2000))] = _
      rw [decide_eq_true (by omega)]
    refine ⟨_, rfl, p, C, dx, _, _, rfl, hp, T.cl, T.nP, fl_parts _ _ _, _, _, rfl, rfl, dx, _, hp, (by show 4 < 1000; decide), ?_⟩
    rw [show ((n : Int) + 1) = ((n + 1 : Nat) : Int) by omega, fl_putParts]
    have b1 : Sb p H (upd H p (.ins C dx (flds z a (n + 1)))) := sb_upd _
    generalize hH1 : upd H p (.ins C dx (flds z a (n + 1))) = H1 at b1
    have hp1 : H1 p = some (.ins C dx (flds z a (n + 1))) := by rw [← hH1]; exact upd_same
    have R1 : RdAt C H1 p z a (n + 1) := ⟨dx, hp1⟩
    refine ⟨_, rfl, p, dx, _, rfl, hp1, by rfl, p, z, _, _, rfl, R1, hz, ?_⟩
    rw [sg_some hd0]
    refine ⟨_, rfl, rfl, _, rfl, ?_⟩
    rw [ofs_op]
    cases t with
    | list ds => simp [good] at hg
    | dict ds => simp [good] at hg
    | tuple ts =>
      have ec : c0 = 40 := by simp only [txt, List.cons.injEq] at e0; exact e0.1.symm
      subst ec
      rw [decide_eq_true rfl]
      refine iteT ?_
      refine ⟨_, rfl, p, dx, _, rfl, hp1, by rfl, _, rfl, _, _, rfl, rfl, p, z, a, n + 1, dd + 1, ts, rest, rfl, R1, hz, by simpa [good] using hg, by rw [hd]; simp [txt], ?_, ?_, ?_, fun H2 v b2 R2 hv => ?_⟩
      · simp only [hgt] at hdep; omega
      · simp only [cnt] at hcnt; omega
      · simp only [hgt] at hm; omega
      · refine q H2 v (b1.trans b2) ?_ hv
        have e1 : a + (txt (.tuple ts)).length = a + (2 + (txtAll ts).length) := by simp [txt]; omega
        have e2 : n + cnt (.tuple ts) = n + 1 + cntAll ts := by simp [cnt]; omega
        rw [e1, e2]; exact R2
    | str x =>
      have ec : c0 = 34 := by simp only [txt, List.cons.injEq] at e0; exact e0.1.symm
      subst ec
      rw [decide_eq_false (nsg (by decide))]
      refine iteF ⟨_, rfl, rfl, _, rfl, ?_⟩
      rw [ofs_q, decide_eq_true rfl]
      refine iteT ?_
      refine ⟨_, rfl, p, dx, _, rfl, hp1, by rfl, p, z, a, n + 1, x.cps.toList, rest, rfl, R1, hz, by rw [hd]; simp [txt], by simpa [good] using hg, fun H2 b2 R2 => ?_⟩
      have := q H2 (.str x) (b1.trans b2) ?_ (.str x)
      · rw [S_eta]; exact this
      · have e1 : a + (txt (.str x)).length = a + (2 + (escT x.cps.toList).length) := by simp [txt]; omega
        rw [e1]; exact R2
    | bool b =>
      have ec : c0 = if b then 121 else 110 := by cases b <;> (simp only [txt] at e0; simp at e0; exact e0.1.symm)
      have n40 : c0 ≠ 40 := by rw [ec]; cases b <;> decide
      have n34 : c0 ≠ 34 := by rw [ec]; cases b <;> decide
      have ex : ∃ u, PySem.W.nsIn K d (S [c0]) = some (some u) := by rw [ec]; cases b with | true => exact ⟨_, Wt.y⟩ | false => exact ⟨_, Wt.n⟩
      obtain ⟨u, hu⟩ := ex
      rw [decide_eq_false (nsg n40)]
      refine iteF ⟨_, rfl, rfl, _, rfl, ?_⟩
      rw [ofs_q, decide_eq_false (nsg n34)]
      refine iteF ⟨_, rfl, _, _, rfl, rfl, hu, _, rfl, ?_⟩
      refine iteT ⟨_, rfl, rfl, _, rfl, ?_⟩
      have nb : ¬ (V.str (S [c0]) = V.str (S [])) := fun e => by have := vS_inj e; simp at this
      rw [ofs_e, decide_eq_false nb]
      refine iteT ?_
      have et : txt (.bool b) = wd b := by cases b <;> rfl
      refine ⟨_, rfl, p, dx, _, rfl, hp1, by rfl, _, rfl, p, z, a, n + 1, b, rest, by rw [ec]; rfl, R1, hz, by rw [hd, et], fun H2 b2 R2 => ?_⟩
      refine q H2 (.bl b) (b1.trans b2) ?_ (.bl b)
      rw [et]; exact R2
    | none =>
      have ec : c0 = 45 := by simp only [txt, List.cons.injEq] at e0; exact e0.1.symm
      have n40 : c0 ≠ 40 := by omega
      have n34 : c0 ≠ 34 := by omega
      rw [decide_eq_false (nsg n40)]
      refine iteF ⟨_, rfl, rfl, _, rfl, ?_⟩
      rw [ofs_q, decide_eq_false (nsg n34)]
      refine iteF ⟨_, rfl, _, _, rfl, rfl, Wt.no c0 (by omega) (by omega), _, rfl, ?_⟩
      refine iteF ?_
      refine iteF ?_
      refine ⟨_, rfl, p, dx, _, rfl, hp1, by rfl, p, z, a, n + 1, .none, _, rest, rfl, R1, hz, .non, hg, hd, hst, fun H2 b2 R2 => ?_⟩
      exact q H2 _ (b1.trans b2) R2 .non
    | int i =>
      have hci : c0 = 45 ∨ isDig c0 := by
        simp only [txt, numT] at e0
        split at e0
        · simp only [List.cons.injEq] at e0; exact .inl e0.1.symm
        · exact .inr (decD_digits _ c0 (by rw [e0]; simp))
      unfold isDig at hci
      have n40 : c0 ≠ 40 := by omega
      have n34 : c0 ≠ 34 := by omega
      rw [decide_eq_false (nsg n40)]
      refine iteF ⟨_, rfl, rfl, _, rfl, ?_⟩
      rw [ofs_q, decide_eq_false (nsg n34)]
      refine iteF ⟨_, rfl, _, _, rfl, rfl, Wt.no c0 (by omega) (by omega), _, rfl, ?_⟩
      refine iteF ?_
      refine iteF ?_
      refine ⟨_, rfl, p, dx, _, rfl, hp1, by rfl, p, z, a, n + 1, .int i, _, rest, rfl, R1, hz, .int i, hg, hd, hst, fun H2 b2 R2 => ?_⟩
      exact q H2 _ (b1.trans b2) R2 (.int i)
/-- all methods of the reader -/
structure Meths (K : PySem.W.Frag) (C fG fN fR fS fA fT fQ fW fM fD : Addr) (fdG fdN fdR fdS fdA fdT fdQ fdW fdM fdD : FuncData) : Prop where
  G : MM K C "sign" "Reader.sign" (rdS 1) ["self"] fG fdG
  N : MM K C "need" "Reader.need" (rdS 2) ["self", "fits"] fN fdN
  R : MM K C "has_room" "Reader.has_room" (rdS 3) ["self"] fR fdR
  S : MM K C "step" "Reader.step" (rdS 4) ["self"] fS fdS
  A : MM K C "read" "Reader.read" (rdS 5) ["self", "depth"] fA fdA
  T : MM K C "read_tuple" "Reader.read_tuple" (rdS 6) ["self", "depth"] fT fdT
  Q : MM K C "read_string" "Reader.read_string" (rdS 7) ["self"] fQ fdQ
  W : MM K C "read_written" "Reader.read_written" (rdS 8) ["self", "sign"] fW fdW
  M : MM K C "read_number" "Reader.read_number" (rdS 9) ["self"] fM fdM
  D : MM K C "read_digits" "Reader.read_digits" (rdS 10) ["self"] fD fdD
variable {fA fT fQ fW fM fD d tY tN : Addr} {fdA fdT fdQ fdW fdM fdD : FuncData}
theorem smalls (B : Bn mg) (T : RTxt K mg C) (M : Meths K C fG fN fR fS fA fT fQ fW fM fD fdG fdN fdR fdS fdA fdT fdQ fdW fdM fdD) : Smalls P w K mg base C fG fN fR fS fdG fdN fdR fdS :=
  ⟨M.G, M.N, M.R, M.S, ok_sign T M.G.F, ok_need B T M.N.F, ok_room T M.R.F, ok_step B T M.S.F M.N⟩
/-- read at any depth -/
theorem read_all (B : Bn mg) (T : RTxt K mg C) (Wt : WTxt K w mg d tY tN) (M : Meths K C fG fN fR fS fA fT fQ fW fM fD fdG fdN fdR fdS fdA fdT fdQ fdW fdM fdD) :
    ∀ m : Nat, FnOk P w K mg base CX0 (2 * m + 3) fA fdA ["self", "depth"] (spRead K C m)
  | 0 => by
    have no : ∀ vs H Q E, ¬ spRead K C 0 vs H Q E := fun vs H Q E h => by
      obtain ⟨p, z, a, n, d, t, rest, _, _, _, _, _, _, _, _, h1, _⟩ := h
      have := hgt_pos t
      omega
    exact ⟨fun vs H Q E h => absurd h (no vs H Q E), fun A outer s H args us vs Q E _ _ _ _ h => absurd h (no vs H Q E)⟩
  | m + 1 => by
    have Sm : Smalls P w K mg base C fG fN fR fS fdG fdN fdR fdS := smalls B T M
    have ih := read_all B T Wt M m
    have GT : FnOk P w K mg base CX0 (2 * m + 4) fT fdT ["self", "depth"] (spTup K C m) := ok_tup (k := 2 * m + 1) B T Sm M.A ih M.T.F
    exact ok_read (k := 2 * m) T Wt Sm M.T GT M.Q (ok_str (k := 0) T Sm M.Q.F) M.W (ok_wr (k := 0) T Wt Sm M.W.F) M.M (ok_nm (k := 0) B T Sm M.D M.M.F) M.A.F
/-! ### __init__, read_with, read_tree -/
theorem scIn : FnScope ["self", "text", "is_bounded"] ["self", "text", "is_bounded"] (defScope (rdS 0)) := ⟨rfl, rfl, rfl, by decide +kernel, rfl, by decide +kernel, by decide +kernel⟩
def spIn (C : Addr) : Sp := fun vs H Q _ => ∃ p dx z, vs = [.ref p, .str (S z), .bl true] ∧ H p = some (.ins C dx []) ∧ Q .non (upd H p (.ins C dx (flds z 0 0)))
theorem ok_in {f : Addr} {fd : FuncData} {k : Nat} (T : RTxt K mg C) (F : Fun K "__init__" "Reader.__init__" (rdS 0) f fd) : FnOk P w K mg base CX0 (k + 1) f fd ["self", "text", "is_bounded"] (spIn C) := by
  refine F.ok scIn (fun vs H Q E h => ?_) (fun cdv A outer s H vs Q E hr h => ?_)
  · obtain ⟨p, dx, z, rfl, _⟩ := h
    rfl
  · obtain ⟨p, dx, z, rfl, hp, q⟩ := h
    refine ⟨_, pss_cons (ps_fld (pv 0) (pv 1) rfl) (pss_cons (ps_fld (pv 0) pe_int rfl) (pss_cons (ps_fld (pv 0) pe_int rfl) (pss_one (ps_fld (pv 0) (pv 2) rfl)))), ?_⟩
    refine ⟨_, rfl, _, rfl, p, C, dx, _, rfl, hp, T.cl, T.nT, (by show 0 < 1000; decide), ?_⟩
    refine ⟨_, rfl, p, C, dx, _, rfl, upd_same, T.cl, T.nA, (by show 1 < 1000; decide), ?_⟩
    refine ⟨_, rfl, p, C, dx, _, rfl, upd_same, T.cl, T.nP, (by show 2 < 1000; decide), ?_⟩
    refine ⟨_, rfl, _, rfl, p, C, dx, _, rfl, upd_same, T.cl, T.nB, (by show 3 < 1000; decide), ?_⟩
    rw [upd_upd, upd_upd, upd_upd, fl_init]
    exact q
/-- read_with(text, True), read_tree(text): a new tree -/
def spRT (K : PySem.W.Frag) : Sp := fun vs H Q _ => ∃ t, vs = [.str (S (txt t))] ∧ good t ∧ (txt t).length ≤ 1000000 ∧ hgt t ≤ 30 ∧ cnt t ≤ 2000 ∧ ∀ H' v, Same H H' → Dp K H' v t → Q v H'
def spRW (K : PySem.W.Frag) : Sp := fun vs H Q E => ∃ x, vs = [x, .bl true] ∧ spRT K [x] H Q E
theorem scRW : FnScope ["text", "is_bounded", "reader", "tree"] ["text", "is_bounded"] (defScope sRW) := ⟨rfl, rfl, rfl, by decide +kernel, rfl, by decide +kernel, by decide +kernel⟩
theorem ok_rw {f fI : Addr} {fd fdI : FuncData} (B : Bn mg) (T : RTxt K mg C) (Wt : WTxt K w mg d tY tN) (M : Meths K C fG fN fR fS fA fT fQ fW fM fD fdG fdN fdR fdS fdA fdT fdQ fdW fdM fdD)
    (Mi : Mk K C fI) (FI : Fun K "__init__" "Reader.__init__" (rdS 0) fI fdI) (bI : Binds K fdI ["self", "text", "is_bounded"] []) (F : Fun K "read_with" "read_with" sRW f fd) :
    FnOk P w K mg base CX0 64 f fd ["text", "is_bounded"] (spRW K) := by
  have GI : FnOk P w K mg base CX0 1 fI fdI ["self", "text", "is_bounded"] (spIn C) := ok_in T FI
  have GA : FnOk P w K mg base CX0 63 fA fdA ["self", "depth"] (spRead K C 30) := read_all B T Wt M 30
  refine F.ok scRW (fun vs H Q E h => ?_) (fun cdv A outer s H vs Q E hr h => ?_)
  · obtain ⟨x, rfl, _⟩ := h
    rfl
  · obtain ⟨x, rfl, t, ex, hg, hl, hh, hc, q⟩ := h
    obtain rfl : x = .str (S (txt t)) := by simpa using ex
    have hr2 : Room 2 _ := hr.mono (by decide)
    refine ⟨_, pss_cons (ps_if (pt_not (pt_val (pe_callB call_isi (by rfl) B.isi boot_isi (pa_cons (pv 0) (pa_cons (pe_bltn (v := .ty "str") (by rfl) B.str PyProof.Rows.boot_str rfl) pa_nil))))) pss_never pss_nil)
      (pss_cons (ps_set (i := 2) scRW.nd rfl (Or.inl rfl) (pe_make Mi GI hr2 (by rfl) T.mgC bI .nil pass0 (pa_cons (pv 0) (pa_cons (pv 1) pa_nil))))
      (pss_cons (ps_set (i := 3) scRW.nd rfl (Or.inl rfl) (pe_meth (pv 2) T.cl M.A.m GA hr M.A.b .nil pass0 (pa_cons pe_int pa_nil)))
      (pss_cons (ps_if (pt_cmpR op_lt (pe_fld (pv 2) rfl) (pe_callB call_len_str (by rfl) B.len PySem.boot_len (pa_cons (pv 0) pa_nil)) (nomark _)) pss_never pss_nil)
      (pss_one (ps_ret (pv 3)))))), ?_⟩
    refine ⟨_, rfl, _, _, _, _, true, rfl, .ty _, .base (.str _), kit_ty k_str_str, _, rfl, iteF ?_⟩
    refine ⟨_, rfl, _, rfl, fun x dx nx ndx nex => ?_⟩
    refine ⟨x, dx, txt t, rfl, upd_same, rfl, ?_⟩
    rw [upd_upd]
    have s0 : Same H (upd (upd H dx (.own x)) x (.ins C dx (flds (txt t) 0 0))) := fun b o e => by
      rw [upd_ne (ne_of_none e nx), upd_ne (ne_of_none e ndx)]
      exact e
    refine ⟨_, rfl, x, dx, _, rfl, upd_same, by rfl, x, txt t, 0, 0, 0, t, [], rfl, ⟨dx, upd_same⟩, hl, hg, by simp, fun _ _ e => (by cases e), by omega, by omega, hh, fun H2 v b2 R2 hv => ?_⟩
    obtain ⟨dx2, hp2⟩ := R2
    refine ⟨_, rfl, x, C, dx2, _, _, rfl, hp2, T.cl, T.nA, fl_at _ _ _, _, rfl, _, rfl, ?_, _, _, rfl, rfl, _, rfl, ?_⟩
    · rw [S_length]; exact small (by omega)
    · refine ite2 (fun e => ?_) (fun _ => ?_)
      · have := of_decide_eq_true e
        rw [S_length] at this
        omega
      · refine ⟨_, rfl, q H2 v (fun b o e => b2 b o (s0 b o e) (ne_of_none e nx)) hv⟩
theorem scRT : FnScope ["text"] ["text"] (defScope sRT) := ⟨rfl, rfl, rfl, by decide +kernel, rfl, by decide +kernel, by decide +kernel⟩
theorem ok_rt {f fW' : Addr} {fd fdW' : FuncData} (FW : Fun K "read_with" "read_with" sRW fW' fdW') (bW : Binds K fdW' ["text", "is_bounded"] []) (mW : mg "read_with" = some (.ref fW')) (GW : FnOk P w K mg base CX0 64 fW' fdW' ["text", "is_bounded"] (spRW K))
    (F : Fun K "read_tree" "read_tree" sRT f fd) : FnOk P w K mg base CX0 65 f fd ["text"] (spRT K) := by
  refine F.ok scRT (fun vs H Q E h => ?_) (fun cdv A outer s H vs Q E hr h => ?_)
  · obtain ⟨t, rfl, _⟩ := h
    rfl
  · obtain ⟨t, rfl, h⟩ := h
    refine ⟨_, pss_one (ps_ret (pe_call GW hr rfl mW FW.kp bW .nil pass0 (pa_cons (pv 0) (pa_cons pe_bl pa_nil)))), ?_⟩
    exact ⟨_, rfl, _, rfl, t, rfl, h⟩
end
end DS
set_option Elab.async false
set_option linter.all false
set_option maxRecDepth 100000
set_option maxHeartbeats 4000000
namespace DS
open PySem L2 PySem.NumText
abbrev sPen : Stmt := top 21
abbrev sDraw : Stmt := top 22
abbrev sPick : Stmt := top 23
/-! ### the pen -/
def penK (c : Addr) (a r : Int) : List (Key × V) := [(Sum.inr "cells", .ref c), (Sum.inr "at", .int a), (Sum.inr "rest", .int r)]
structure PenAt (H : Hp) (d c : Addr) (ns : List Int) (a : Nat) (r : Int) : Prop where
  dict : H d = some (.dK (penK c a r))
  cells : H c = some (.lst (ns.map V.int))
  len : ns.length ≤ 63
theorem pen_ne {H : Hp} {d c : Addr} {ns : List Int} {a : Nat} {r : Int} (p : PenAt H d c ns a r) : c ≠ d := fun e => by
  have := p.dict; rw [← e, p.cells] at this; cases this
theorem get_cells {H : Hp} {d c : Addr} {a r : Int} (h : H d = some (.dK (penK c a r))) : DGet H d (.str "cells") (some (.ref c)) := DGet.k (k := Sum.inr "cells") h
theorem get_at {H : Hp} {d c : Addr} {a r : Int} (h : H d = some (.dK (penK c a r))) : DGet H d (.str "at") (some (.int a)) := DGet.k (k := Sum.inr "at") h
theorem get_rest {H : Hp} {d c : Addr} {a r : Int} (h : H d = some (.dK (penK c a r))) : DGet H d (.str "rest") (some (.int r)) := DGet.k (k := Sum.inr "rest") h
theorem put_at {H : Hp} {d c : Addr} {a r a' : Int} (h : H d = some (.dK (penK c a r))) : DPut H d (.str "at") (.int a') (upd H d (.dK (penK c a' r))) := DPut.k (k := Sum.inr "at") h (small' (by show 3 < _; decide))
theorem put_rest {H : Hp} {d c : Addr} {a r r' : Int} (h : H d = some (.dK (penK c a r))) : DPut H d (.str "rest") (.int r') (upd H d (.dK (penK c a r'))) := DPut.k (k := Sum.inr "rest") h (small' (by show 3 < _; decide))
theorem pen_upd {H : Hp} {d c : Addr} {ns : List Int} {a a' : Nat} {r r' : Int} (p : PenAt H d c ns a r) : PenAt (upd H d (.dK (penK c a' r'))) d c ns a' r' :=
  ⟨upd_same, by rw [upd_ne (pen_ne p)]; exact p.cells, p.len⟩
theorem dp_ints {K : PySem.W.Frag} {H : Hp} : ∀ ns : List Int, DpAll K H (ns.map V.int) (ns.map PyData.int)
  | [] => .nil
  | n :: ns => .cons (.int n) (dp_ints ns)
theorem lay_ints : ∀ ns : List Int, PyData.canLayAll0 (ns.map PyData.int) = true ∧ PyData.depthAll (ns.map PyData.int) = 0
  | [] => ⟨rfl, rfl⟩
  | n :: ns => by have := lay_ints ns; simp [PyData.canLayAll0, PyData.canLay0, PyData.depthAll, PyData.depth, this.1, this.2]
theorem shaped_ints (ns : List Int) : SeqAt.shaped (.list (ns.map PyData.int)) = true := by
  have := lay_ints ns
  simp [SeqAt.shaped, PyData.canLay0, PyData.depth, this.1, this.2]
theorem fm0 {a b : Int} (h : 0 < b) : 0 ≤ a.fmod b := Int.fmod_nonneg_of_pos a h
theorem fm1 {a b : Int} (h : 0 < b) : a.fmod b < b := Int.fmod_lt_of_pos a h
theorem fmB {a b : Int} (h : 0 < b) (h2 : b < 2 ^ 64) : -(2 ^ 64) < a.fmod b ∧ a.fmod b < 2 ^ 64 := by
  have h3 := fm0 (a := a) h
  have h4 := fm1 (a := a) h
  omega
theorem nz {n : Int} (h : n ≠ 0) : n ≠ 0 := h
theorem boot_abs' : bootBuiltins "abs" = some (.builtin "abs") := by decide +kernel
section
variable {P : Program} {w : World} {K : PySem.W.Frag} {mg : Str → Option Value} {base : Heap}
theorem scDraw : FnScope ["_law_pen_here", "_law_many", "_law_digit", "_law_at", "_law_cell", "_law_mixed"] ["_law_pen_here", "_law_many"] (defScope sDraw) := ⟨rfl, rfl, rfl, by decide +kernel, rfl, by decide +kernel, by decide +kernel⟩
def spDraw : Sp := fun vs H Q _ => ∃ d c ns a r m, vs = [.ref d, .int m] ∧ PenAt H d c ns a r ∧ a ≤ 2 ^ 30 ∧ 0 < m ∧ m < 2 ^ 30 ∧
  ∀ i a' r' H', 0 ≤ i → i < m → a' ≤ a + 1 → Sb d H H' → PenAt H' d c ns a' r' → Q (.int i) H'
theorem ok_draw {f : Addr} {fd : FuncData} {k : Nat} (B : Bn mg) (F : Fun K "_law_draw" "_law_draw" sDraw f fd) : FnOk P w K mg base CX0 (k + 1) f fd ["_law_pen_here", "_law_many"] spDraw := by
  refine F.ok scDraw (fun vs H Q E h => ?_) (fun cdv A outer s H vs Q E hr h => ?_)
  · obtain ⟨d, c, ns, a, r, m, rfl, _⟩ := h
    rfl
  · obtain ⟨d, c, ns, a, r, m, rfl, hp, ha, hm0, hm1, q⟩ := h
    have hu := hu_of hr
    have cm : m ≠ 0 ∧ m.natAbs < 1073741824 := by omega
    -- the mixture
    obtain ⟨mx, dmx, mixed⟩ : ∃ tl : TS, PSs (cxOf CX0 P w K mg base ["_law_pen_here", "_law_many", "_law_digit", "_law_at", "_law_cell", "_law_mixed"] "_law_draw" (defScope sDraw) f cdv A outer s H E).nox ((defBody sDraw).drop 6) tl ∧
        ∀ (H1 : Hp) (cell : Int), Sb d H H1 → PenAt H1 d c ns (a + 1) r →
          tl { nx := fun _ H' => Q .non H', rt := Q } [some (.ref d), some (.int m), none, some (.int (a : Nat)), some (.int cell), none] H1 := by
      refine ⟨_, pss_cons (ps_set (i := 5) scDraw.nd rfl (Or.inl rfl) (pe_op op_add (pe_op op_mul (pe_op op_modN (pe_callTy call_int1 (by rfl) B.int PyProof.Rows.boot_int (pa_cons (pv 4) pa_nil)) pe_int) pe_int) (pe_op op_mul (pe_op op_mul pe_int (pv 3)) (pv 3))))
        (pss_cons (ps_set (i := 5) scDraw.nd rfl (Or.inl rfl) (pe_op op_modN (pe_callTy call_int1 (by rfl) B.int PyProof.Rows.boot_int (pa_cons (pe_op op_add (pe_op op_add (pv 5) (pe_op op_mul pe_int (pv 3))) pe_int) pa_nil)) pe_int))
        (pss_cons (ps_set (i := 5) scDraw.nd rfl (Or.inl rfl) (pe_op op_modN (pe_callTy call_int1 (by rfl) B.int PyProof.Rows.boot_int (pa_cons (pe_op op_add (pe_op op_add (pe_op op_add (pe_op op_mul (pv 5) (pv 5)) (pe_op op_mul pe_int (pv 5))) (pe_op op_mul pe_int (pv 3))) pe_int) pa_nil)) pe_int))
        (pss_one (ps_ret (pe_op op_modN (pe_callTy call_int1 (by rfl) B.int PyProof.Rows.boot_int (pa_cons (pe_op op_fdivN (pe_op op_modN (pe_callTy call_int1 (by rfl) B.int PyProof.Rows.boot_int (pa_cons (pe_op op_mul (pv 5) (pe_op op_add (pv 5) pe_int)) pa_nil)) pe_int) pe_int) pa_nil)) (pv 1)))))), ?_⟩
      intro H1 cell b1 p1
      have c128 : (128 : Int) ≠ 0 ∧ (128 : Int).natAbs < 1073741824 := by decide
      refine ⟨_, rfl, .inl ⟨_, rfl, _, _, rfl, rfl, nz (n := 4294967231) (by decide), _, _, rfl, rfl, .inl (fmB (b := 4294967231) (by decide) (by decide)), _, rfl, _, _, rfl, rfl, .inl (by decide), _, rfl, _, _, rfl, rfl, .inl (by omega), _, _, rfl, rfl, ?_⟩⟩
      refine ⟨_, rfl, _, rfl, _, _, rfl, rfl, .inl (by decide), _, _, rfl, rfl, _, _, rfl, rfl, .inl ⟨_, rfl, _, _, rfl, rfl, nz (n := 4294967197) (by decide), ?_⟩⟩
      refine ⟨_, rfl, _, rfl, _, _, rfl, rfl, .inl (fmB (b := 4294967197) (by decide) (by decide)), _, rfl, _, _, rfl, rfl, .inl (by decide), _, _, rfl, rfl, _, rfl, _, _, rfl, rfl, .inl (by decide), _, _, rfl, rfl, _, _, rfl, rfl, .inl ⟨_, rfl, _, _, rfl, rfl, nz (n := 4294967189) (by decide), ?_⟩⟩
      refine ⟨_, rfl, _, rfl, _, _, rfl, rfl, _, _, rfl, rfl, .inl (fmB (b := 4294967189) (by decide) (by decide)), .inl ⟨_, rfl, _, _, rfl, rfl, nz (n := 4294967161) (by decide), _, _, rfl, rfl, c128, .inl ⟨_, rfl, _, rfl, _, _, rfl, rfl, cm.1, ?_⟩⟩⟩
      exact q _ _ _ H1 (fm0 hm0) (fm1 hm0) (Nat.le_refl _) b1 p1
    -- behind the choice of the cell
    obtain ⟨tl, dtl, tail⟩ : ∃ tl : TS, PSs (cxOf CX0 P w K mg base ["_law_pen_here", "_law_many", "_law_digit", "_law_at", "_law_cell", "_law_mixed"] "_law_draw" (defScope sDraw) f cdv A outer s H E).nox ((defBody sDraw).drop 5) tl ∧
        ∀ (H1 : Hp) (cell : Int), Sb d H H1 → PenAt H1 d c ns (a + 1) r →
          tl { nx := fun _ H' => Q .non H', rt := Q } [some (.ref d), some (.int m), none, some (.int (a : Nat)), some (.int cell), none] H1 := by
      refine ⟨_, pss_cons (ps_if (PW.pt (pw_and (pt_cmpR op_lt (pv 3) (pe_callB call_len (by rfl) B.len PySem.boot_len (pa_cons (pe_dget hu (pv 0) pe_str (fun _ _ => rfl)) pa_nil)) (nomark _))
            (pw_and1 (pt_cmpR op_ge (pe_callB call_abs (by rfl) B.abs boot_abs' (pa_cons (pv 4) pa_nil)) (pe_op op_pow pe_int pe_int) (nomark _)))))
          (pss_cons (ps_dput hu (pv 0) pe_str (pe_op op_fdivN (pe_op op_sub (pe_callB call_abs (by rfl) B.abs boot_abs' (pa_cons (pv 4) pa_nil)) (pe_op op_pow pe_int pe_int)) (pv 1)) rfl)
          (pss_one (ps_ret (pe_op op_modN (pe_op op_sub (pe_callB call_abs (by rfl) B.abs boot_abs' (pa_cons (pv 4) pa_nil)) (pe_op op_pow pe_int pe_int)) (pv 1))))) pss_nil) dmx, ?_⟩
      intro H1 cell b1 p1
      have hp18 : (0 : Int) ≤ 18 ∧ (18 : Int) ≤ 1000000 ∧ (10 : Int).natAbs < 2 ^ 64 := by decide
      refine ⟨_, rfl, _, rfl, d, _, rfl, get_cells p1.dict, _, _, rfl, .inl ⟨_, SqL.of p1.cells, rfl⟩, _, _, rfl, rfl, _, rfl, ?_⟩
      refine ite2 (fun _ => ?_) (fun _ => iteF (mixed H1 cell b1 p1))
      refine ⟨_, rfl, _, rfl, _, _, rfl, rfl, hp18, _, _, rfl, rfl, _, rfl, ?_⟩
      refine ite2 (fun _ => ?_) (fun _ => mixed H1 cell b1 p1)
      refine ⟨_, rfl, _, rfl, _, _, rfl, rfl, hp18, _, _, rfl, rfl, _, rfl, _, _, rfl, rfl, cm, _, rfl, d, _, rfl, put_rest p1.dict, ?_⟩
      refine ⟨_, rfl, _, rfl, _, _, rfl, rfl, hp18, _, _, rfl, rfl, _, rfl, _, _, rfl, rfl, cm.1, ?_⟩
      exact q _ (a + 1) _ _ (fm0 hm0) (fm1 hm0) (Nat.le_refl _) (b1.trans (sb_upd _)) (pen_upd p1)
    refine ⟨_, pss_cons (ps_if (pt_cmpR op_gt (pe_dget hu (pv 0) pe_str (fun _ _ => rfl)) pe_int (nomark _))
          (pss_cons (ps_set (i := 2) scDraw.nd rfl (Or.inl rfl) (pe_op op_modN (pe_callTy call_int1 (by rfl) B.int PyProof.Rows.boot_int (pa_cons (pe_dget hu (pv 0) pe_str (fun _ _ => rfl)) pa_nil)) (pv 1)))
          (pss_cons (ps_dput hu (pv 0) pe_str (pe_op op_fdivN (pe_dget hu (pv 0) pe_str (fun _ _ => rfl)) (pv 1)) rfl)
          (pss_one (ps_ret (pv 2))))) pss_nil)
      (pss_cons (ps_set (i := 3) scDraw.nd rfl (Or.inl rfl) (pe_dget hu (pv 0) pe_str (fun _ _ => rfl)))
      (pss_cons (ps_dput hu (pv 0) pe_str (pe_op op_add (pv 3) pe_int) rfl)
      (pss_cons (ps_set (i := 4) scDraw.nd rfl (Or.inl rfl) (pe_op op_add (pe_op op_mul pe_int (pv 3)) pe_int))
      (pss_cons (ps_if (pt_cmpR (op_neD hr.units) (pe_dget hu (pv 0) pe_str (fun _ _ => rfl)) (pe_lst pa_nil) (nomark _))
          (pss_one (ps_set (i := 4) scDraw.nd rfl (Or.inl rfl) (pe_ix ix_list (pe_dget hu (pv 0) pe_str (fun _ _ => rfl)) (pe_op op_modN (pe_callTy call_int1 (by rfl) B.int PyProof.Rows.boot_int (pa_cons (pv 3) pa_nil)) (pe_callB call_len (by rfl) B.len PySem.boot_len (pa_cons (pe_dget hu (pv 0) pe_str (fun _ _ => rfl)) pa_nil))) (fun _ _ => rfl)))) pss_nil) dtl)))), ?_⟩
    refine ⟨_, rfl, d, _, rfl, get_rest hp.dict, _, _, rfl, rfl, _, rfl, ?_⟩
    refine ite2 (fun _ => ?_) (fun _ => ?_)
    · refine ⟨_, rfl, d, _, rfl, get_rest hp.dict, .inl ⟨_, rfl, _, rfl, _, _, rfl, rfl, cm.1, ?_⟩⟩
      refine ⟨_, rfl, d, _, rfl, get_rest hp.dict, _, rfl, _, _, rfl, rfl, cm, _, rfl, d, _, rfl, put_rest hp.dict, ?_⟩
      exact ⟨_, rfl, q _ a _ _ (fm0 hm0) (fm1 hm0) (Nat.le_succ _) (sb_upd _) (pen_upd hp)⟩
    · refine ⟨_, rfl, d, _, rfl, get_at hp.dict, ?_⟩
      refine ⟨_, rfl, _, _, rfl, rfl, _, rfl, d, _, rfl, put_at hp.dict, ?_⟩
      have p1 : PenAt (upd H d (.dK (penK c (((a : Nat) : Int) + 1) r))) d c ns (a + 1) r := by
        have := pen_upd (a' := a + 1) (r' := r) hp
        rw [show ((a + 1 : Nat) : Int) = ((a : Nat) : Int) + 1 by omega] at this
        exact this
      have b1 : Sb d H (upd H d (.dK (penK c (((a : Nat) : Int) + 1) r))) := sb_upd _
      generalize upd H d (.dK (penK c (((a : Nat) : Int) + 1) r)) = H1 at p1 b1
      refine ⟨_, rfl, _, _, rfl, rfl, .inl (by decide), _, _, rfl, rfl, ?_⟩
      refine ⟨_, rfl, d, _, rfl, get_cells p1.dict, Nat.zero_le _, fun l hl => ?_⟩
      have nlc : c ≠ l := ne_of_none p1.cells hl
      have nld : d ≠ l := ne_of_none p1.dict hl
      have p2 : PenAt (upd H1 l (.lst [])) d c ns (a + 1) r := ⟨by rw [upd_ne nld]; exact p1.dict, by rw [upd_ne nlc]; exact p1.cells, p1.len⟩
      have b2 : Sb d H (upd H1 l (.lst [])) := b1.trans (Same.sb (same_new hl _))
      generalize hH2 : upd H1 l (.lst []) = H2 at p2 b2
      refine ⟨.list (ns.map .int), .list [], .lst (SqL.of p2.cells) (dp_ints ns), .lst (SqL.of (by rw [← hH2]; exact upd_same)) .nil, shaped_ints ns, rfl, _, rfl, ?_⟩
      refine ite2 (fun e => ?_) (fun _ => tail H2 _ b2 p2)
      have hne : 0 < ns.length := by
        cases ns with
        | nil => exact absurd e (by decide)
        | cons n ns => simp
      have hl0 : (0 : Int) < ((ns.map V.int).length : Nat) := by rw [List.length_map]; omega
      have i0 := fm0 (a := ((a : Nat) : Int)) hl0
      have i1 := fm1 (a := ((a : Nat) : Int)) hl0
      obtain ⟨j, hj⟩ : ∃ j : Nat, ((a : Nat) : Int).fmod (((ns.map V.int).length : Nat) : Int) = (j : Int) := ⟨_, (Int.toNat_of_nonneg i0).symm⟩
      have hjl : j < ns.length := by rw [hj, List.length_map] at i1; omega
      refine ⟨_, rfl, d, _, rfl, get_cells p2.dict, _, rfl, .inl ⟨_, rfl, _, rfl, d, _, rfl, get_cells p2.dict, _, _, rfl, .inl ⟨_, SqL.of p2.cells, rfl⟩, _, _, rfl, rfl, by omega, c, _, _, .int ns[j], rfl, rfl, SqL.of p2.cells, ?_, ?_⟩⟩
      · rw [hj]
        exact atI_nat (by rw [List.getElem?_map, List.getElem?_eq_getElem hjl] <;> rfl)
      · exact tail H2 _ b2 p2
end
end DS
set_option Elab.async false
set_option linter.all false
set_option maxRecDepth 100000
set_option maxHeartbeats 4000000
namespace DS
open PySem L2 PySem.NumText
abbrev sString : Stmt := top 16
abbrev sSingle : Stmt := top 17
theorem pen_same {H H' : Hp} {d c : Addr} {ns : List Int} {a : Nat} {r : Int} (p : PenAt H d c ns a r) (s : Same H H') : PenAt H' d c ns a r := ⟨s _ _ p.dict, s _ _ p.cells, p.len⟩
theorem pen_put {H : Hp} {d c D : Addr} {ns : List Int} {a : Nat} {r : Int} {o : HO} (p : PenAt H d c ns a r) (h1 : d ≠ D) (h2 : c ≠ D) : PenAt (upd H D o) d c ns a r := ⟨by rw [upd_ne h1]; exact p.dict, by rw [upd_ne h2]; exact p.cells, p.len⟩
theorem PenAt.noT {H : Hp} {d c : Addr} {ns : List Int} {a : Nat} {r : Int} (p : PenAt H d c ns a r) : ∀ xs, H d ≠ some (.tup xs) := fun xs e => by rw [p.dict] at e; cases e
theorem PenAt.noF {H : Hp} {d c : Addr} {ns : List Int} {a : Nat} {r : Int} (p : PenAt H d c ns a r) : ∀ o xs, H d ≠ some (.frz o (.tup xs)) := fun o xs e => by rw [p.dict] at e; cases e
/-! short strings -/
mutual
def lean : PyData → Prop
  | .str x => x.cps.toList.length ≤ 12
  | .tuple xs => leanAll xs
  | _ => True
def leanAll : List PyData → Prop
  | [] => True
  | x :: xs => lean x ∧ leanAll xs
end
theorem cut63 (xs : List V) (h : xs.length ≤ 63) : cutV xs none (some 63) = xs := by
  unfold cutV
  rw [HT.sIx_none, show HT.sIx xs.length xs.length (some 63) = min 63 xs.length from HT.sIx_nat xs.length xs.length 63, Nat.min_eq_right h]
  simp
section
variable {P : Program} {w : World} {K : PySem.W.Frag} {mg : Str → Option Value} {base : Heap}
/-! _law_pen -/
theorem scPen : FnScope ["_law_script"] ["_law_script"] (defScope sPen) := ⟨rfl, rfl, rfl, by decide +kernel, rfl, by decide +kernel, by decide +kernel⟩
def spPen (K : PySem.W.Frag) : Sp := fun vs H Q _ => ∃ l ns, vs = [.ref l] ∧ SqL K H l (ns.map V.int) ∧ ns.length ≤ 63 ∧ ∀ d c H', Same H H' → PenAt H' d c ns 0 0 → Q (.ref d) H'
theorem ok_pen {f : Addr} {fd : FuncData} {k : Nat} (B : Bn mg) (F : Fun K "_law_pen" "_law_pen" sPen f fd) : FnOk P w K mg base CX0 (k + 1) f fd ["_law_script"] (spPen K) := by
  refine F.ok scPen (fun vs H Q E h => ?_) (fun cdv A outer s H vs Q E hr h => ?_)
  · obtain ⟨l, ns, rfl, _⟩ := h
    rfl
  · obtain ⟨l, ns, rfl, hl, h63, q⟩ := h
    refine ⟨_, pss_one (ps_ret (pe_disp (pps_cons pe_str (pe_callTy call_list_of (by rfl) B.list PyProof.Rows.boot_list (pa_cons (pe_slice sl_list (pv 0) po_none (po_some pe_int)) pa_nil)) (pps_cons pe_str pe_int (pps_cons pe_str pe_int pps_nil))) (by rfl) (by rfl) (fun z => by cases z) (by decide))), ?_⟩
    intro d hd
    have s1 : Same H (upd H d (.dK [])) := same_new hd _
    refine ⟨_, rfl, _, rfl, l, _, rfl, s1.seq hl, fun p hp => ?_⟩
    rw [cut63 _ (by simpa using h63)]
    have s2 := s1.trans (same_new hp (.lst (ns.map V.int)))
    refine ⟨p, _, rfl, .inl (SqL.of upd_same), fun c hc => ?_⟩
    have s3 := s2.trans (same_new hc (.lst (ns.map V.int)))
    have ndp : d ≠ p := ne_of_none upd_same hp
    have ndc : d ≠ c := ne_of_none (show (upd (upd H d (.dK [])) p (.lst (ns.map V.int))) d = some (.dK []) by rw [upd_ne ndp]; exact upd_same) hc
    refine ⟨by rw [upd_ne ndc, upd_ne ndp]; exact upd_same, penK c 0 0, rfl, by show 3 ≤ 15; decide, ?_⟩
    refine q d c _ (same_put s3 hd _) ⟨upd_same, by rw [upd_ne ndc.symm]; exact upd_same, h63⟩
/-! _law_pick -/
theorem scPick : FnScope ["_law_pen_here", "_law_items"] ["_law_pen_here", "_law_items"] (defScope sPick) := ⟨rfl, rfl, rfl, by decide +kernel, rfl, by decide +kernel, by decide +kernel⟩
def spPick : Sp := fun vs H Q _ => ∃ d c ns a r it, vs = [.ref d, it] ∧ PenAt H d c ns a r ∧ a ≤ 2 ^ 30 ∧
  ((∃ z : Cs, it = .str (S z) ∧ z ≠ [] ∧ z.length ≤ 1000 ∧ ∀ ch ∈ z, ∀ a' r' H', a' ≤ a + 1 → Sb d H H' → PenAt H' d c ns a' r' → Q (.str (S [ch])) H') ∨
   (∃ l xs, it = .ref l ∧ H l = some (.lst xs) ∧ xs ≠ [] ∧ xs.length ≤ 1000 ∧ ∀ x ∈ xs, ∀ a' r' H', a' ≤ a + 1 → Sb d H H' → PenAt H' d c ns a' r' → Q x H'))
theorem ok_pick {f fD : Addr} {fd fdD : FuncData} {k : Nat} (B : Bn mg) (FD : Fun K "_law_draw" "_law_draw" sDraw fD fdD) (bD : Binds K fdD ["_law_pen_here", "_law_many"] []) (mD : mg "_law_draw" = some (.ref fD)) (F : Fun K "_law_pick" "_law_pick" sPick f fd) :
    FnOk P w K mg base CX0 (k + 2) f fd ["_law_pen_here", "_law_items"] spPick := by
  have GD : FnOk P w K mg base CX0 1 fD fdD ["_law_pen_here", "_law_many"] spDraw := ok_draw B FD
  refine F.ok scPick (fun vs H Q E h => ?_) (fun cdv A outer s H vs Q E hr h => ?_)
  · obtain ⟨d, c, ns, a, r, it, rfl, _⟩ := h
    rfl
  · obtain ⟨d, c, ns, a, r, it, rfl, hp, ha, h⟩ := h
    refine ⟨_, pss_one (ps_ret (pe_ix ix_seq (pv 1) (pe_call GD (hr.mono (by omega)) rfl mD FD.kp bD .nil pass0 (pa_cons (pv 0) (pa_cons (pe_callB call_len (by rfl) B.len PySem.boot_len (pa_cons (pv 1) pa_nil)) pa_nil))) (fun _ _ => rfl))), ?_⟩
    rcases h with ⟨z, rfl, hne, hlen, q⟩ | ⟨l, xs, rfl, hl, hne, hlen, q⟩
    · have hpos : 0 < z.length := List.length_pos_iff.mpr hne
      refine ⟨_, rfl, _, rfl, _, rfl, _, _, rfl, ⟨by rw [S_length]; exact small (by omega), rfl⟩, d, c, ns, a, r, _, rfl, hp, ha, by rw [S_length]; omega, by rw [S_length]; omega, fun i a' r' H' i0 i1 ha' b' p' => ?_⟩
      rw [S_length] at i1
      obtain ⟨j, rfl⟩ := Int.eq_ofNat_of_zero_le i0
      have hj : j < z.length := by omega
      refine .inr (.inr ⟨S z, _, z[j], rfl, rfl, by rw [S_length]; exact small (by omega), ?_, ?_⟩)
      · exact atI_nat (by rw [S_cps]; exact List.getElem?_eq_getElem hj)
      · exact q z[j] (List.getElem_mem hj) a' r' H' ha' b' p'
    · have hpos : 0 < xs.length := List.length_pos_iff.mpr hne
      refine ⟨_, rfl, _, rfl, _, rfl, _, _, rfl, .inl ⟨_, SqL.of hl, rfl⟩, d, c, ns, a, r, _, rfl, hp, ha, by omega, by omega, fun i a' r' H' i0 i1 ha' b' p' => ?_⟩
      obtain ⟨j, rfl⟩ := Int.eq_ofNat_of_zero_le i0
      have hj : j < xs.length := by omega
      have nld : l ≠ d := ne_of hl hp.dict (by intro e; cases e)
      refine .inl ⟨l, xs, _, xs[j], rfl, rfl, SqL.of (b' l _ hl nld), atI_nat (List.getElem?_eq_getElem hj), ?_⟩
      exact q xs[j] (List.getElem_mem hj) a' r' H' ha' b' p'
/-! _law_string -/
theorem scString : FnScope ["_law_pen_here", "_law_signs", "_law_k"] ["_law_pen_here"] (defScope sString) := ⟨rfl, rfl, rfl, by decide +kernel, rfl, by decide +kernel, by decide +kernel⟩
def spString : Sp := fun vs H Q _ => ∃ d c ns a r, vs = [.ref d] ∧ PenAt H d c ns a r ∧ a + 14 ≤ 2 ^ 30 ∧ ∀ t a' r' H', t.length ≤ 12 → (∀ ch ∈ t, ch ∈ sgnList) → a' ≤ a + 14 → Sb d H H' → PenAt H' d c ns a' r' → Q (.str (S t)) H'
def sigs : List Str := ["\"\\", "ab \"\\", "-()0 ", " !#$&'()*+,-./09:;<=>?@AZ[]^_`az{|}~\"\\"]
theorem sigs_ok : ∀ x ∈ sigs, x.cps.toList ≠ [] ∧ x.cps.toList.length ≤ 1000 ∧ ∀ ch ∈ x.cps.toList, ch ∈ sgnList := by decide +kernel
theorem ok_string {f fP : Addr} {fd fdP : FuncData} {k : Nat} (B : Bn mg) (FP : Fun K "_law_pick" "_law_pick" sPick fP fdP) (bP : Binds K fdP ["_law_pen_here", "_law_items"] []) (mP : mg "_law_pick" = some (.ref fP))
    (GP : FnOk P w K mg base CX0 2 fP fdP ["_law_pen_here", "_law_items"] spPick) (F : Fun K "_law_string" "_law_string" sString f fd) : FnOk P w K mg base CX0 (k + 3) f fd ["_law_pen_here"] spString := by
  refine F.ok scString (fun vs H Q E h => ?_) (fun cdv A outer s H vs Q E hr h => ?_)
  · obtain ⟨d, c, ns, a, r, rfl, _⟩ := h
    rfl
  · obtain ⟨d, c, ns, a, r, rfl, hp, ha, q⟩ := h
    have hr2 : Room 2 _ := hr.mono (show 2 ≤ k + 2 by omega)
    refine ⟨_, pss_cons (ps_set (i := 1) scString.nd rfl (Or.inr rfl) (pe_call GP hr2 rfl mP FP.kp bP .nil pass0 (pa_cons (pv 0) (pa_cons (pe_lst (pa_cons pe_str (pa_cons pe_str (pa_cons pe_str (pa_cons pe_str pa_nil))))) pa_nil))))
      (pss_one (ps_ret (pe_join pe_str (pe_lc (own := [("_law_k", 2)]) (g := gName 2) (tt := tYes) rfl scString.nd
        (pi_range1 (by rfl) B.range (pa_cons (pe_call GP hr2 rfl mP FP.kp bP .nil pass0 (pa_cons (pv 0) (pa_cons (pe_lst (pa_cons pe_int (pa_cons pe_int (pa_cons pe_int (pa_cons pe_int (pa_cons pe_int pa_nil)))))) pa_nil))) pa_nil))
        (blkOk_by (N := ["_law_pen_here", "_law_signs", "_law_k"]) (sc := defScope sString) (by decide +kernel)) (fun _ _ _ _ _ => pg_name (i := 2) scString.nd rfl (Or.inl rfl)) (fun _ _ _ _ _ => pts_nil)
        (fun _ _ _ _ _ => pe_call GP hr2 rfl mP FP.kp bP .nil pass0 (pa_cons (pv 0) (pa_cons (pv 1) pa_nil))))))), ?_⟩
    refine ⟨_, rfl, by show 4 ≤ sizeLine; decide, fun l hl => ?_⟩
    have s1 : Same H (upd H l (.lst (sigs.map V.str))) := same_new hl _
    refine ⟨d, c, ns, a, r, _, rfl, pen_same hp s1, by omega, .inr ⟨l, sigs.map V.str, rfl, upd_same, by simp [sigs], by show 4 ≤ 1000; decide, fun x hx a1 r1 H1 ha1 b1 p1 => ?_⟩⟩
    obtain ⟨sig, hsig, rfl⟩ := List.mem_map.mp hx
    obtain ⟨hne, hlen, hin⟩ := sigs_ok sig hsig
    have b1' : Sb d H H1 := (Same.sb s1).trans b1
    refine ⟨⟨_, rfl⟩, _, rfl, by show 5 ≤ sizeLine; decide, fun l2 hl2 => ?_⟩
    have s2 : Same H1 (upd H1 l2 (.lst [.int 0, .int 1, .int 2, .int 5, .int 12])) := same_new hl2 _
    refine ⟨d, c, ns, a1, r1, _, rfl, pen_same p1 s2, by omega, .inr ⟨l2, _, rfl, upd_same, by simp, by show 5 ≤ 1000; decide, fun x hx2 a2 r2 H2 ha2 b2 p2 => ?_⟩⟩
    have hxi : ∃ j : Nat, x = .int (j : Int) ∧ j ≤ 12 := by
      simp only [List.mem_cons, List.not_mem_nil, or_false] at hx2
      rcases hx2 with rfl | rfl | rfl | rfl | rfl
      · exact ⟨0, rfl, by decide⟩
      · exact ⟨1, rfl, by decide⟩
      · exact ⟨2, rfl, by decide⟩
      · exact ⟨5, rfl, by decide⟩
      · exact ⟨12, rfl, by decide⟩
    obtain ⟨j, rfl, hj⟩ := hxi
    have b2' : Sb d H H2 := (b1'.trans (Same.sb s2)).trans b2
    refine ⟨(j : Int), rfl, by omega, by omega, fun D hD => ?_⟩
    have ndD : d ≠ D := ne_of_none p2.dict hD
    have ncD : c ≠ D := ne_of_none p2.cells hD
    have hDH : H D = none := sb_free b2' hp.dict hD (by rw [p2.dict]; simp)
    refine lc_it (walk_range (lo := 0) (n := (j : Int).toNat)) (fun i H' => ∃ t a' r', t.length = i ∧ (∀ ch ∈ t, ch ∈ sgnList) ∧ a' ≤ a + 2 + i ∧ Sb d H H' ∧ PenAt H' d c ns a' r' ∧ H' D = some (.lst (t.map fun ch => V.str (S [ch]))))
      ⟨[], a2, r2, rfl, by simp, by omega, b2'.trans (Same.sb (same_new hD _)), pen_put p2 ndD ncD, by rw [upd_same]; rfl⟩ (fun _ _ _ _ => trivial) ?_ ?_
    · rintro i x H3 H4 hi ⟨t, a3, r3, hti, hts, ha3, b3, p3, hd3⟩ ⟨rfl, rfl⟩
      have hi' : i < j := by omega
      refine ⟨rfl, ?_⟩
      refine ⟨_, rfl, _, rfl, d, c, ns, a3, r3, _, rfl, p3, by omega, .inl ⟨sig.cps.toList, by rw [S_eta], hne, hlen, fun ch hch a4 r4 H4 ha4 b4 p4 => ?_⟩⟩
      have hd4 := b4 D _ hd3 ndD.symm
      refine ⟨_, hd4, small' (by simp; omega), t ++ [ch], a4, r4, by simp [hti], ?_, by omega, ?_, pen_put p4 ndD ncD, by rw [upd_same]; simp⟩
      · intro y hy
        rcases List.mem_append.mp hy with hy | hy
        · exact hts y hy
        · simp at hy; subst hy; exact hin _ hch
      · intro b o e nb
        rw [upd_ne (ne_of_none e hDH)]
        exact (b3.trans b4) b o e nb
    · rintro H3 ⟨t, a3, r3, hti, hts, ha3, b3, p3, hd3⟩
      have em : t.map (fun c => V.str (S [c])) = ((t.map fun c => [c]).map S).map V.str := by simp
      rw [em] at hd3
      have ht : t.length ≤ 12 := by omega
      refine ⟨_, D, (t.map fun c => [c]).map S, rfl, rfl, .inl (SqL.of hd3), ?_, ?_⟩
      · rw [sum_lens, flat_one, ofs_e, S_length]
        show t.length + _ * 0 ≤ _
        omega
      · rw [ofs_e, join_empty, flat_one]
        exact q t a3 r3 H3 ht hts (by omega) b3 p3
end
end DS
set_option Elab.async false
set_option linter.all false
set_option maxRecDepth 100000
set_option maxHeartbeats 4000000
namespace DS
open PySem L2 PySem.NumText
abbrev sWide : Stmt := top 18
abbrev sWrap : Stmt := top 19
/-- a leaf that the law draws -/
structure Leaf (K : PySem.W.Frag) (H : Hp) (v : V) (t : PyData) : Prop where
  dp : Dp K H v t
  good : good t
  lean : lean t
  hgt : hgt t = 1
  cnt : cnt t = 1
theorem leaf_int {K : PySem.W.Frag} {H : Hp} {i : Int} (h : i.natAbs < 10 ^ 100) : Leaf K H (.int i) (.int i) := ⟨.int i, by simpa [good] using h, by simp [lean], by simp [hgt], by simp [cnt]⟩
theorem leaf_str {K : PySem.W.Frag} {H : Hp} {x : Str} (h : ∀ c ∈ x.cps.toList, c ∈ sgnList) (hl : x.cps.toList.length ≤ 12) : Leaf K H (.str x) (.str x) := ⟨.str x, by simpa [good] using h, by simpa [lean] using hl, by simp [hgt], by simp [cnt]⟩
theorem leaf_bl {K : PySem.W.Frag} {H : Hp} (b : Bool) : Leaf K H (.bl b) (.bool b) := ⟨.bl b, by simp [good], by simp [lean], by simp [hgt], by simp [cnt]⟩
theorem leaf_non {K : PySem.W.Frag} {H : Hp} : Leaf K H .non .none := ⟨.non, by simp [good], by simp [lean], by simp [hgt], by simp [cnt]⟩
theorem leaf_nil {K : PySem.W.Frag} {H : Hp} {e : Addr} (h : H e = some (.tup [])) : Leaf K H (.ref e) (.tuple []) := ⟨.tup (SqT.of h) .nil, by simp [good, goodAll], by simp [lean, leanAll], by simp [hgt, hgtAll], by simp [cnt, cntAll]⟩
theorem big1 : ((10 : Int) ^ (50 : Int).toNat * 10 ^ (49 : Int).toNat).natAbs < 10 ^ 100 := by decide +kernel
theorem big2 : (1 - (10 : Int) ^ (50 : Int).toNat * 10 ^ (50 : Int).toNat).natAbs < 10 ^ 100 := by decide +kernel
theorem w50 : ((10 : Int) ^ (50 : Int).toNat).natAbs < 2 ^ 200 := by decide +kernel
theorem w49 : ((10 : Int) ^ (49 : Int).toNat).natAbs < 2 ^ 200 := by decide +kernel
theorem p9 : (0 : Int) ≤ 9 ∧ (9 : Int) ≤ 1000000 ∧ (10 : Int).natAbs < 2 ^ 64 := by decide
theorem p21 : (0 : Int) ≤ 21 ∧ (21 : Int) ≤ 1000000 ∧ (10 : Int).natAbs < 2 ^ 64 := by decide
theorem p49 : (0 : Int) ≤ 49 ∧ (49 : Int) ≤ 1000000 ∧ (10 : Int).natAbs < 2 ^ 64 := by decide
theorem p50 : (0 : Int) ≤ 50 ∧ (50 : Int) ≤ 1000000 ∧ (10 : Int).natAbs < 2 ^ 64 := by decide
theorem e9 : (10 : Int) ^ (9 : Int).toNat = 1000000000 := by decide
theorem prod_small {i y : Int} (h0 : 0 ≤ i) (h1 : i < 10 ^ (9 : Int).toNat) (hy : y = 1 ∨ y = 10 ^ (9 : Int).toNat ∨ y = 10 ^ (21 : Int).toNat) : (i * y).natAbs < 10 ^ 100 := by
  rw [Int.natAbs_mul]
  have a1 : i.natAbs < 10 ^ 9 := by rw [e9] at h1; omega
  have a2 : y.natAbs ≤ 10 ^ 21 := by rcases hy with rfl | rfl | rfl <;> decide +kernel
  calc i.natAbs * y.natAbs ≤ 10 ^ 9 * 10 ^ 21 := Nat.mul_le_mul (Nat.le_of_lt a1) a2
    _ < 10 ^ 100 := by decide +kernel
def someL (num : Int) : List V := [V.non, V.bl true, V.bl false, V.int 0, V.int 1, V.int (-1), V.int ((10 : Int) ^ (50 : Int).toNat * 10 ^ (49 : Int).toNat), V.int (1 - (10 : Int) ^ (50 : Int).toNat * 10 ^ (50 : Int).toNat), V.int num, V.int (0 - num), V.str (Str.ofString ""), V.str (Str.ofString "yes"), V.str (Str.ofString "no"), V.str (Str.ofString "-")]
theorem st_yes : ∀ x ∈ ([Str.ofString "", Str.ofString "yes", Str.ofString "no", Str.ofString "-"] : List Str), (∀ c ∈ x.cps.toList, c ∈ sgnList) ∧ x.cps.toList.length ≤ 12 := by decide +kernel
section
variable {P : Program} {w : World} {K : PySem.W.Frag} {mg : Str → Option Value} {base : Heap}
/-! _law_single -/
theorem scSingle : FnScope ["_law_pen_here", "_law_number", "_law_high", "_law_some"] ["_law_pen_here"] (defScope sSingle) := ⟨rfl, rfl, rfl, by decide +kernel, rfl, by decide +kernel, by decide +kernel⟩
def spSingle (K : PySem.W.Frag) : Sp := fun vs H Q _ => ∃ d c ns a r, vs = [.ref d] ∧ PenAt H d c ns a r ∧ a + 45 ≤ 2 ^ 30 ∧ ∀ v t a' r' H', Leaf K H' v t → a' ≤ a + 45 → Sb d H H' → PenAt H' d c ns a' r' → Q v H'
theorem ok_single {f fP fD fS : Addr} {fd fdP fdD fdS : FuncData} {k : Nat} (FP : Fun K "_law_pick" "_law_pick" sPick fP fdP) (bP : Binds K fdP ["_law_pen_here", "_law_items"] []) (mP : mg "_law_pick" = some (.ref fP))
    (GP : FnOk P w K mg base CX0 2 fP fdP ["_law_pen_here", "_law_items"] spPick)
    (FD : Fun K "_law_draw" "_law_draw" sDraw fD fdD) (bD : Binds K fdD ["_law_pen_here", "_law_many"] []) (mD : mg "_law_draw" = some (.ref fD)) (GD : FnOk P w K mg base CX0 1 fD fdD ["_law_pen_here", "_law_many"] spDraw)
    (FS : Fun K "_law_string" "_law_string" sString fS fdS) (bS : Binds K fdS ["_law_pen_here"] []) (mS : mg "_law_string" = some (.ref fS)) (GS : FnOk P w K mg base CX0 3 fS fdS ["_law_pen_here"] spString)
    (F : Fun K "_law_single" "_law_single" sSingle f fd) : FnOk P w K mg base CX0 (k + 4) f fd ["_law_pen_here"] (spSingle K) := by
  refine F.ok scSingle (fun vs H Q E h => ?_) (fun cdv A outer s H vs Q E hr h => ?_)
  · obtain ⟨d, c, ns, a, r, rfl, _⟩ := h
    rfl
  · obtain ⟨d, c, ns, a, r, rfl, hp, ha, q⟩ := h
    have hr1 : Room 1 _ := hr.mono (show 1 ≤ k + 3 by omega)
    have hr2 : Room 2 _ := hr.mono (show 2 ≤ k + 3 by omega)
    have hr3 : Room 3 _ := hr.mono (show 3 ≤ k + 3 by omega)
    have wm1 := wide_mul w50 w49 (by decide) (by decide) (by decide)
    have wm2 := wide_mul w50 w50 (by decide) (by decide) (by decide)
    refine ⟨_, pss_cons (ps_par (i := 1) (j := 2) (by rfl) scSingle.nd rfl rfl (by decide) rfl rfl (pa_cons (pe_op op_mul (pe_call GD hr1 rfl mD FD.kp bD .nil pass0 (pa_cons (pv 0) (pa_cons (pe_op op_pow pe_int pe_int) pa_nil)))
          (pe_call GP hr2 rfl mP FP.kp bP .nil pass0 (pa_cons (pv 0) (pa_cons (pe_lst (pa_cons pe_int (pa_cons (pe_op op_pow pe_int pe_int) (pa_cons (pe_op op_pow pe_int pe_int) pa_nil)))) pa_nil)))) (pa_cons (pe_op op_pow pe_int pe_int) pa_nil)) (by rfl))
      (pss_cons (ps_set (i := 3) scSingle.nd rfl (Or.inl rfl) (pe_lst (pa_cons pe_non (pa_cons pe_bl (pa_cons pe_bl (pa_cons pe_int (pa_cons pe_int (pa_cons (pe_un un_neg pe_int) (pa_cons (pe_op op_mulW (pv 2) (pe_op op_pow pe_int pe_int)) (pa_cons (pe_op op_sub pe_int (pe_op op_mulW (pv 2) (pv 2)))
          (pa_cons (pv 1) (pa_cons (pe_op op_sub pe_int (pv 1)) (pa_cons pe_str (pa_cons pe_str (pa_cons pe_str (pa_cons pe_str pa_nil))))))))))))))))
      (pss_one (ps_ret (pe_call GP hr2 rfl mP FP.kp bP .nil pass0 (pa_cons (pv 0) (pa_cons (pe_op op_cat (pv 3) (pe_lst (pa_cons (pe_call GS hr3 rfl mS FS.kp bS .nil pass0 (pa_cons (pv 0) pa_nil)) (pa_cons (pe_call GS hr3 rfl mS FS.kp bS .nil pass0 (pa_cons (pv 0) pa_nil))
          (pa_cons (pe_call GS hr3 rfl mS FS.kp bS .nil pass0 (pa_cons (pv 0) pa_nil)) (pa_cons (pe_tup pa_nil) pa_nil)))))) pa_nil)))))), ?_⟩
    refine ⟨_, rfl, _, _, rfl, rfl, p9, d, c, ns, a, r, _, rfl, hp, by omega, by decide, by decide, fun i a1 r1 H1 i0 i1 ha1 b1 p1 => ?_⟩
    refine ⟨_, rfl, _, _, rfl, rfl, p9, _, _, rfl, rfl, p21, by show 3 ≤ sizeLine; decide, fun l1 hl1 => ?_⟩
    have s2 : Same H1 (upd H1 l1 (.lst [.int 1, .int (10 ^ (9 : Int).toNat), .int (10 ^ (21 : Int).toNat)])) := same_new hl1 _
    refine ⟨d, c, ns, a1, r1, _, rfl, pen_same p1 s2, by omega, .inr ⟨l1, _, rfl, upd_same, by simp, by show 3 ≤ 1000; decide, fun x hx a2 r2 H2 ha2 b2 p2 => ?_⟩⟩
    have b2' : Sb d H H2 := (b1.trans (Same.sb s2)).trans b2
    have hxi : ∃ y : Int, x = .int y ∧ (y = 1 ∨ y = 10 ^ (9 : Int).toNat ∨ y = 10 ^ (21 : Int).toNat) := by
      simp only [List.mem_cons, List.not_mem_nil, or_false] at hx
      rcases hx with rfl | rfl | rfl
      · exact ⟨_, rfl, .inl rfl⟩
      · exact ⟨_, rfl, .inr (.inl rfl)⟩
      · exact ⟨_, rfl, .inr (.inr rfl)⟩
    obtain ⟨y, rfl, hy⟩ := hxi
    have hsm := prod_small i0 i1 hy
    refine ⟨_, _, rfl, rfl, .inl (by rw [e9] at i1; omega), _, _, rfl, rfl, p50, _, _, rfl, ?_⟩
    -- _law_some
    refine ⟨_, rfl, _, rfl, _, _, rfl, rfl, p49, _, _, rfl, rfl, wm1, _, rfl, _, rfl, _, _, rfl, rfl, wm2, _, _, rfl, rfl, _, rfl, _, rfl, _, _, rfl, rfl, by show 14 ≤ sizeLine; decide, fun l2 hl2 => ?_⟩
    refine ⟨_, rfl, _, rfl, ?_⟩
    have hxl : (someL (i * y)).length = 14 := rfl
    have hleaf : ∀ (H' : Hp), ∀ x ∈ someL (i * y), ∃ t, Leaf K H' x t := by
      intro H' x hx
      simp only [someL, List.mem_cons, List.not_mem_nil, or_false] at hx
      rcases hx with rfl | rfl | rfl | rfl | rfl | rfl | rfl | rfl | rfl | rfl | rfl | rfl | rfl | rfl
      · exact ⟨_, leaf_non⟩
      · exact ⟨_, leaf_bl true⟩
      · exact ⟨_, leaf_bl false⟩
      · exact ⟨_, leaf_int (by decide +kernel)⟩
      · exact ⟨_, leaf_int (by decide +kernel)⟩
      · exact ⟨_, leaf_int (by decide +kernel)⟩
      · exact ⟨_, leaf_int big1⟩
      · exact ⟨_, leaf_int big2⟩
      · exact ⟨_, leaf_int hsm⟩
      · exact ⟨_, leaf_int (by omega)⟩
      · exact ⟨_, leaf_str (st_yes _ (by simp)).1 (st_yes _ (by simp)).2⟩
      · exact ⟨_, leaf_str (st_yes _ (by simp)).1 (st_yes _ (by simp)).2⟩
      · exact ⟨_, leaf_str (st_yes _ (by simp)).1 (st_yes _ (by simp)).2⟩
      · exact ⟨_, leaf_str (st_yes _ (by simp)).1 (st_yes _ (by simp)).2⟩
    have s3 : Same H2 (upd H2 l2 (.lst (someL (i * y)))) := same_new hl2 _
    have nl2 : l2 ≠ d := fun e => by rw [e, p2.dict] at hl2; cases hl2
    refine ⟨_, rfl, d, c, ns, a2, r2, rfl, pen_same p2 s3, by omega, fun t1 a3 r3 H3 h1l h1s ha3 b3 p3 => ?_⟩
    refine ⟨_, rfl, d, c, ns, a3, r3, rfl, p3, by omega, fun t2 a4 r4 H4 h2l h2s ha4 b4 p4 => ?_⟩
    refine ⟨_, rfl, d, c, ns, a4, r4, rfl, p4, by omega, fun t3 a5 r5 H5 h3l h3s ha5 b5 p5 => ?_⟩
    refine ⟨Nat.zero_le _, fun e he => ?_⟩
    have s5 : Same H5 (upd H5 e (.tup [])) := same_new he _
    refine ⟨by show 4 ≤ sizeLine; decide, fun l3 hl3 => ?_⟩
    have s6 := s5.trans (same_new hl3 (.lst [.str (S t1), .str (S t2), .str (S t3), .ref e]))
    have hl2' : (upd (upd H5 e (.tup [])) l3 (.lst [.str (S t1), .str (S t2), .str (S t3), .ref e])) l2 = some (.lst (someL (i * y))) := s6 _ _ (b5 _ _ (b4 _ _ (b3 _ _ upd_same nl2) nl2) nl2)
    refine ⟨l2, l3, someL (i * y), _, rfl, rfl, hl2', upd_same, by rw [hxl]; show 18 ≤ sizeLine; decide, fun l4 hl4 => ?_⟩
    have s7 := s6.trans (same_new hl4 (.lst (someL (i * y) ++ [.str (S t1), .str (S t2), .str (S t3), .ref e])))
    have hE : (upd (upd (upd H5 e (.tup [])) l3 (.lst [.str (S t1), .str (S t2), .str (S t3), .ref e])) l4 (.lst (someL (i * y) ++ [.str (S t1), .str (S t2), .str (S t3), .ref e]))) e = some (.tup []) :=
      same_new hl4 _ _ _ (same_new hl3 _ _ _ upd_same)
    have ned : e ≠ d := fun z => by rw [z, p5.dict] at he; cases he
    have b7 : Sb d H _ := (((b2'.trans (Same.sb s3)).trans b3).trans (b4.trans b5)).trans (Same.sb s7)
    refine ⟨d, c, ns, a5, r5, _, rfl, pen_same p5 s7, by omega, .inr ⟨l4, _, rfl, upd_same, by simp, by rw [List.length_append, hxl]; show 18 ≤ 1000; decide, fun x hx a6 r6 H6 ha6 b6 p6 => ?_⟩⟩
    have fin : ∀ t, Leaf K H6 x t → Q x H6 := fun t L => q x t a6 r6 H6 L (by omega) (b7.trans b6) p6
    rcases List.mem_append.mp hx with hx | hx
    · obtain ⟨t, L⟩ := hleaf H6 x hx
      exact fin t L
    · simp only [List.mem_cons, List.not_mem_nil, or_false] at hx
      rcases hx with rfl | rfl | rfl | rfl
      · exact fin _ (leaf_str (by rw [S_cps]; exact h1s) (by rw [S_cps]; exact h1l))
      · exact fin _ (leaf_str (by rw [S_cps]; exact h2s) (by rw [S_cps]; exact h2l))
      · exact fin _ (leaf_str (by rw [S_cps]; exact h3s) (by rw [S_cps]; exact h3l))
      · exact fin _ (leaf_nil (b6 _ _ hE ned))
end
end DS
set_option Elab.async false
set_option linter.all false
set_option maxRecDepth 100000
set_option maxHeartbeats 4000000
namespace DS
open PySem L2 PySem.NumText
/-- how many parts, how many draws -/
def Wc : Nat → Nat
  | 0 => 1
  | n + 1 => 1 + 4 * Wc n
def Wd : Nat → Nat
  | 0 => 46
  | n + 1 => 48 + 4 * Wd n
theorem Wc_pos (n : Nat) : 1 ≤ Wc n := by cases n <;> simp [Wc]
theorem Wd_ge (n : Nat) : 46 ≤ Wd n := by
  cases n with
  | zero => simp [Wd]
  | succ n => simp only [Wd]; omega
theorem goodAll_snoc : ∀ {a : List PyData} {x : PyData}, goodAll a → good x → goodAll (a ++ [x])
  | [], x, _, h => by simp [goodAll, h]
  | y :: a, x, g, h => by simp only [List.cons_append, goodAll] at g ⊢; exact ⟨g.1, goodAll_snoc g.2 h⟩
theorem leanAll_snoc : ∀ {a : List PyData} {x : PyData}, leanAll a → lean x → leanAll (a ++ [x])
  | [], x, _, h => by simp [leanAll, h]
  | y :: a, x, g, h => by simp only [List.cons_append, leanAll] at g ⊢; exact ⟨g.1, leanAll_snoc g.2 h⟩
theorem hgtAll_snoc : ∀ (a : List PyData) (x : PyData), hgtAll (a ++ [x]) = max (hgtAll a) (hgt x)
  | [], x => by simp [hgtAll]
  | y :: a, x => by simp only [List.cons_append, hgtAll, hgtAll_snoc a x]; omega
section
variable {P : Program} {w : World} {K : PySem.W.Frag} {mg : Str → Option Value} {base : Heap}
theorem scWide : FnScope ["_law_pen_here", "_law_deep", "_law_k"] ["_law_pen_here", "_law_deep"] (defScope sWide) := ⟨rfl, rfl, rfl, by decide +kernel, rfl, by decide +kernel, by decide +kernel⟩
def spWide (K : PySem.W.Frag) (m : Nat) : Sp := fun vs H Q _ => ∃ d c ns a r n, vs = [.ref d, .int ((n : Nat) : Int)] ∧ n < m ∧ PenAt H d c ns a r ∧ a + Wd n ≤ 2 ^ 30 ∧
  ∀ v t a' r' H', Dp K H' v t → good t → lean t → hgt t ≤ n + 1 → cnt t ≤ Wc n → a' ≤ a + Wd n → Sb d H H' → PenAt H' d c ns a' r' → Q v H'
theorem wide_step {f fD fS : Addr} {fd fdD fdS : FuncData} {m : Nat} (B : Bn mg) (FD : Fun K "_law_draw" "_law_draw" sDraw fD fdD) (bD : Binds K fdD ["_law_pen_here", "_law_many"] []) (mD : mg "_law_draw" = some (.ref fD)) (GD : FnOk P w K mg base CX0 1 fD fdD ["_law_pen_here", "_law_many"] spDraw)
    (FS : Fun K "_law_single" "_law_single" sSingle fS fdS) (bS : Binds K fdS ["_law_pen_here"] []) (mS : mg "_law_single" = some (.ref fS)) (GS : FnOk P w K mg base CX0 4 fS fdS ["_law_pen_here"] (spSingle K))
    (F : Fun K "_law_wide" "_law_wide" sWide f fd) (bW : Binds K fd ["_law_pen_here", "_law_deep"] []) (mW : mg "_law_wide" = some (.ref f)) (GW : FnOk P w K mg base CX0 (m + 4) f fd ["_law_pen_here", "_law_deep"] (spWide K m)) :
    FnOk P w K mg base CX0 (m + 5) f fd ["_law_pen_here", "_law_deep"] (spWide K (m + 1)) := by
  refine F.ok scWide (fun vs H Q E h => ?_) (fun cdv A outer s H vs Q E hr h => ?_)
  · obtain ⟨d, c, ns, a, r, n, rfl, _⟩ := h
    rfl
  · obtain ⟨d, c, ns, a, r, n, rfl, hn, hp, ha, q⟩ := h
    have hr1 : Room 1 _ := hr.mono (show 1 ≤ m + 4 by omega)
    have hr4 : Room 4 _ := hr.mono (show 4 ≤ m + 4 by omega)
    refine ⟨_, pss_cons (ps_if (PW.pt (pw_or (pt_cmpR op_eq (pv 1) pe_int (nomark _)) (pw_or1 (pt_cmpR op_eq (pe_call GD hr1 rfl mD FD.kp bD .nil pass0 (pa_cons (pv 0) (pa_cons pe_int pa_nil))) pe_int (nomark _)))))
          (pss_one (ps_ret (pe_call GS hr4 rfl mS FS.kp bS .nil pass0 (pa_cons (pv 0) pa_nil)))) pss_nil)
      (pss_one (ps_ret (pe_callTy call_tuple_of (by rfl) B.tup PyProof.Rows.boot_tuple (pa_cons (pe_lc (own := [("_law_k", 2)]) (g := gName 2) (tt := tYes) rfl scWide.nd
        (pi_range1 (by rfl) B.range (pa_cons (pe_call GD hr1 rfl mD FD.kp bD .nil pass0 (pa_cons (pv 0) (pa_cons pe_int pa_nil))) pa_nil))
        (blkOk_by (N := ["_law_pen_here", "_law_deep", "_law_k"]) (sc := defScope sWide) (by decide +kernel)) (fun _ _ _ _ _ => pg_name (i := 2) scWide.nd rfl (Or.inl rfl)) (fun _ _ _ _ _ => pts_nil)
        (fun _ _ _ _ _ => pe_call GW hr rfl mW F.kp bW .nil pass0 (pa_cons (pv 0) (pa_cons (pe_op op_sub (pv 1) pe_int) pa_nil)))) pa_nil)))), ?_⟩
    have hW := Wd_ge n
    have sing : ∀ H1 a1 r1, Sb d H H1 → PenAt H1 d c ns a1 r1 → a1 ≤ a + 1 → spSingle K [.ref d] H1 Q E0 := fun H1 a1 r1 b1 p1 ha1 =>
      ⟨d, c, ns, a1, r1, rfl, p1, by omega, fun v t a' r' H' L ha' b' p' => q v t a' r' H' L.dp L.good L.lean (by rw [L.hgt]; omega) (by rw [L.cnt]; exact Wc_pos n) (by omega) (b1.trans b') p'⟩
    refine ⟨_, rfl, rfl, _, rfl, ?_⟩
    refine ite2 (fun _ => iteT ⟨_, rfl, sing H a r (Sb.refl _ _) hp (by omega)⟩) (fun e0 => ?_)
    have hn0 : n ≠ 0 := fun z => by subst z; exact e0 (decide_eq_true rfl)
    obtain ⟨n, rfl⟩ : ∃ k, n = k + 1 := ⟨n - 1, by omega⟩
    refine ⟨_, rfl, d, c, ns, a, r, _, rfl, hp, by omega, by decide, by decide, fun i a1 r1 H1 i0 i1 ha1 b1 p1 => ?_⟩
    refine ⟨rfl, _, rfl, ?_⟩
    refine ite2 (fun _ => ⟨_, rfl, sing H1 a1 r1 b1 p1 ha1⟩) (fun _ => ?_)
    simp only [Wd] at ha q
    have hW' := Wd_ge n
    refine ⟨_, rfl, d, c, ns, a1, r1, _, rfl, p1, by omega, by decide, by decide, fun j a2 r2 H2 j0 j1 ha2 b2 p2 => ?_⟩
    obtain ⟨j, rfl⟩ := Int.eq_ofNat_of_zero_le j0
    have hj : j ≤ 4 := by omega
    have b2' : Sb d H H2 := b1.trans b2
    refine ⟨(j : Int), rfl, by omega, by omega, fun D hD => ?_⟩
    have ndD : d ≠ D := ne_of_none p2.dict hD
    have ncD : c ≠ D := ne_of_none p2.cells hD
    have hDH : H D = none := sb_free b2' hp.dict hD (by rw [p2.dict]; simp)
    refine lc_it (walk_range (lo := 0) (n := (j : Int).toNat)) (fun i H' => ∃ xs ts a' r', xs.length = i ∧ DpAll K H' xs ts ∧ goodAll ts ∧ leanAll ts ∧ hgtAll ts ≤ n + 1 ∧ cntAll ts ≤ i * Wc n ∧ a' ≤ a + 2 + i * Wd n ∧ Sb d H H' ∧ PenAt H' d c ns a' r' ∧ H' D = some (.lst xs))
      ⟨[], [], a2, r2, rfl, .nil, by simp [goodAll], by simp [leanAll], by simp [hgtAll], by simp [cntAll], by omega, b2'.trans (Same.sb (same_new hD _)), pen_put p2 ndD ncD, upd_same⟩ (fun _ _ _ _ => trivial) ?_ ?_
    · rintro i x H3 H4 hi ⟨xs, ts, a3, r3, hxl, hdp, hg, hle, hh, hcn, ha3, b3, p3, hd3⟩ ⟨rfl, rfl⟩
      have hi' : i < j := by omega
      have him : i * Wd n ≤ 3 * Wd n := Nat.mul_le_mul_right _ (by omega)
      refine ⟨rfl, ?_⟩
      refine ⟨_, rfl, _, rfl, _, _, rfl, rfl, d, c, ns, a3, r3, n, ?_, by omega, p3, by omega, fun v t a4 r4 H4 hv hgt4 hl4 hh4 hc4 ha4 b4 p4 => ?_⟩
      · show [V.ref d, V.int (((n + 1 : Nat) : Int) - 1)] = _
        rw [show (((n + 1 : Nat) : Int) - 1) = (n : Int) by omega]
      have hd4 := b4 D _ hd3 ndD.symm
      have D4 := dp_sbAll b4 p3.noT p3.noF ts xs hg hdp
      have nT : ∀ ys, H4 D ≠ some (.tup ys) := fun ys e => by rw [hd4] at e; cases e
      have nF : ∀ o ys, H4 D ≠ some (.frz o (.tup ys)) := fun o ys e => by rw [hd4] at e; cases e
      refine ⟨_, hd4, small' (by omega), xs ++ [v], ts ++ [t], a4, r4, by simp [hxl], dp_snoc (dp_sbAll (sb_upd _) nT nF ts xs hg D4) (dp_sb (sb_upd _) nT nF t v hgt4 hv), goodAll_snoc hg hgt4, leanAll_snoc hle hl4, ?_, ?_, ?_, ?_, pen_put p4 ndD ncD, upd_same⟩
      · rw [hgtAll_snoc]; omega
      · rw [cntAll_app, Nat.succ_mul]; simp only [cntAll]; omega
      · rw [Nat.succ_mul]; omega
      · intro b o e nb
        rw [upd_ne (ne_of_none e hDH)]
        exact (b3.trans b4) b o e nb
    · rintro H3 ⟨xs, ts, a3, r3, hxl, hdp, hg, hle, hh, hcn, ha3, b3, p3, hd3⟩
      have h1 : (j : Int).toNat = j := by omega
      rw [h1] at hxl hcn ha3
      have hcm : j * Wc n ≤ 4 * Wc n := Nat.mul_le_mul_right _ hj
      have him : j * Wd n ≤ 4 * Wd n := Nat.mul_le_mul_right _ hj
      refine ⟨D, xs, rfl, .inl ⟨SqL.of hd3, fun l hl => ?_⟩⟩
      have sl : Same H3 (upd H3 l (.tup xs)) := same_new hl _
      refine q _ (.tuple ts) a3 r3 _ (.tup (SqT.of upd_same) (dp_sameAll sl ts xs hdp)) (by simpa [good] using hg) (by simpa [lean] using hle) ?_ ?_ ?_ (b3.trans (Same.sb sl)) (pen_same p3 sl)
      · simp only [hgt]; omega
      · simp only [cnt, Wc]; omega
      · omega
theorem ok_wide {f fD fS : Addr} {fd fdD fdS : FuncData} (B : Bn mg) (FD : Fun K "_law_draw" "_law_draw" sDraw fD fdD) (bD : Binds K fdD ["_law_pen_here", "_law_many"] []) (mD : mg "_law_draw" = some (.ref fD)) (GD : FnOk P w K mg base CX0 1 fD fdD ["_law_pen_here", "_law_many"] spDraw)
    (FS : Fun K "_law_single" "_law_single" sSingle fS fdS) (bS : Binds K fdS ["_law_pen_here"] []) (mS : mg "_law_single" = some (.ref fS)) (GS : FnOk P w K mg base CX0 4 fS fdS ["_law_pen_here"] (spSingle K))
    (F : Fun K "_law_wide" "_law_wide" sWide f fd) (bW : Binds K fd ["_law_pen_here", "_law_deep"] []) (mW : mg "_law_wide" = some (.ref f)) : ∀ m : Nat, FnOk P w K mg base CX0 (m + 4) f fd ["_law_pen_here", "_law_deep"] (spWide K m)
  | 0 => by
    have no : ∀ vs H Q E, ¬ spWide K 0 vs H Q E := fun vs H Q E h => by
      obtain ⟨d, c, ns, a, r, n, _, h1, _⟩ := h
      omega
    exact ⟨fun vs H Q E h => absurd h (no vs H Q E), fun A outer s H args us vs Q E _ _ _ _ h => absurd h (no vs H Q E)⟩
  | m + 1 => wide_step B FD bD mD GD FS bS mS GS F bW mW (ok_wide B FD bD mD GD FS bS mS GS F bW mW m)
/-! _law_wrapped -/
theorem scWrap : FnScope ["_law_pen_here", "_law_tree", "_law_many", "_law_k"] ["_law_pen_here", "_law_tree", "_law_many"] (defScope sWrap) := ⟨rfl, rfl, rfl, by decide +kernel, rfl, by decide +kernel, by decide +kernel⟩
def spWrap (K : PySem.W.Frag) : Sp := fun vs H Q _ => ∃ d c ns a r v t n, vs = [.ref d, v, .int ((n : Nat) : Int)] ∧ n ≤ 25 ∧ PenAt H d c ns a r ∧ a + n ≤ 2 ^ 30 ∧ Dp K H v t ∧ good t ∧ lean t ∧
  ∀ v' t' a' r' H', Dp K H' v' t' → good t' → lean t' → hgt t' ≤ hgt t + n → cnt t' ≤ cnt t + 3 * n → a' ≤ a + n → Sb d H H' → PenAt H' d c ns a' r' → Q v' H'
theorem ofs_a : Str.ofString "a" = S [97] := by decide +kernel
theorem ok_wrap {f fP : Addr} {fd fdP : FuncData} {k : Nat} (B : Bn mg) (FP : Fun K "_law_pick" "_law_pick" sPick fP fdP) (bP : Binds K fdP ["_law_pen_here", "_law_items"] []) (mP : mg "_law_pick" = some (.ref fP))
    (GP : FnOk P w K mg base CX0 2 fP fdP ["_law_pen_here", "_law_items"] spPick) (F : Fun K "_law_wrapped" "_law_wrapped" sWrap f fd) : FnOk P w K mg base CX0 (k + 3) f fd ["_law_pen_here", "_law_tree", "_law_many"] (spWrap K) := by
  refine F.ok scWrap (fun vs H Q E h => ?_) (fun cdv A outer s H vs Q E hr h => ?_)
  · obtain ⟨d, c, ns, a, r, v, t, n, rfl, _⟩ := h
    rfl
  · obtain ⟨d, c, ns, a, r, v, t, n, rfl, hn, hp, ha, hv, hg, hl, q⟩ := h
    have hr2 : Room 2 _ := hr.mono (show 2 ≤ k + 2 by omega)
    refine ⟨_, pss_cons (ps_for PassesOwn.never rfl (pi_range1 (by rfl) B.range (pa_cons (pv 2) pa_nil)) (pg_name (i := 3) scWrap.nd rfl (Or.inl rfl))
        (pss_one (ps_set (i := 1) scWrap.nd rfl (Or.inl rfl) (pe_call GP hr2 rfl mP FP.kp bP .nil pass0 (pa_cons (pv 0) (pa_cons (pe_lst (pa_cons (pe_tup (pa_cons (pv 1) pa_nil)) (pa_cons (pe_tup (pa_cons pe_str (pa_cons (pv 1) pa_nil))) (pa_cons (pe_tup (pa_cons (pv 1) (pa_cons pe_int pa_nil)))
          (pa_cons (pe_tup (pa_cons (pe_tup pa_nil) (pa_cons (pv 1) (pa_cons pe_non pa_nil)))) pa_nil))))) pa_nil))))))
      (pss_one (ps_ret (pv 1))), ?_⟩
    refine ⟨_, rfl, (n : Int), rfl, by omega, by omega, for_it (walk_range (lo := 0) (n := (n : Int).toNat)) (fun i σ H' => ∃ v' t' a' r' y, σ = [some (.ref d), some v', some (.int (n : Nat)), y] ∧ Dp K H' v' t' ∧ good t' ∧ lean t' ∧ hgt t' ≤ hgt t + i ∧ cnt t' ≤ cnt t + 3 * i ∧ a' ≤ a + i ∧ Sb d H H' ∧ PenAt H' d c ns a' r')
      ⟨v, t, a, r, none, rfl, hv, hg, hl, by omega, by omega, by omega, Sb.refl _ _, hp⟩ (fun _ _ _ _ _ => trivial) ?_ ?_⟩
    · rintro i x σ H1 H2 hi ⟨v1, t1, a1, r1, y, rfl, hv1, hg1, hl1, hh1, hc1, ha1, b1, p1⟩ ⟨rfl, rfl⟩
      refine ⟨_, rfl, _, rfl, by show 1 ≤ sizeLine; decide, fun e1 he1 => ?_⟩
      have s1 := same_new he1 (.tup [v1])
      refine ⟨_, rfl, by show 2 ≤ sizeLine; decide, fun e2 he2 => ?_⟩
      have s2 := same_new he2 (.tup [.str (Str.ofString "a"), v1])
      refine ⟨_, rfl, by show 2 ≤ sizeLine; decide, fun e3 he3 => ?_⟩
      have s3 := same_new he3 (.tup [v1, .int 0])
      refine ⟨Nat.zero_le _, fun e5 he5 => ?_⟩
      have s5 := same_new he5 (.tup [])
      refine ⟨_, rfl, by show 3 ≤ sizeLine; decide, fun e4 he4 => ?_⟩
      have s4 := same_new he4 (.tup [.ref e5, v1, .non])
      refine ⟨by show 4 ≤ sizeLine; decide, fun l hl' => ?_⟩
      have s6 := same_new hl' (.lst [.ref e1, .ref e2, .ref e3, .ref e4])
      have sA := ((((s1.trans s2).trans s3).trans s5).trans s4).trans s6
      have m5 := s6 _ _ (s4 _ _ (upd_same : (upd _ e5 (.tup [])) e5 = _))
      have m4 := s6 _ _ (upd_same : (upd _ e4 (.tup [.ref e5, v1, .non])) e4 = _)
      have m3 := s6 _ _ (s4 _ _ (s5 _ _ (upd_same : (upd _ e3 (.tup [v1, .int 0])) e3 = _)))
      have m2 := s6 _ _ (s4 _ _ (s5 _ _ (s3 _ _ (upd_same : (upd _ e2 (.tup [.str (Str.ofString "a"), v1])) e2 = _))))
      have m1 := s6 _ _ (s4 _ _ (s5 _ _ (s3 _ _ (s2 _ _ (upd_same : (upd _ e1 (.tup [v1])) e1 = _)))))
      have pA := pen_same p1 sA
      have hvA := dp_same sA t1 v1 hv1
      refine ⟨d, c, ns, a1, r1, _, rfl, pA, by omega, .inr ⟨l, _, rfl, upd_same, by simp, by show 4 ≤ 1000; decide, fun x hx a2 r2 H2 ha2 b2 p2 => ?_⟩⟩
      have fin : ∀ tt, Dp K H2 x tt → good tt → lean tt → hgt tt ≤ hgt t1 + 1 → cnt tt ≤ cnt t1 + 3 →
          ∃ v' t' a' r' y', [some (V.ref d), some x, some (V.int (n : Nat)), some (V.int (0 + (i : Int)))] = [some (.ref d), some v', some (.int (n : Nat)), y'] ∧ Dp K H2 v' t' ∧ good t' ∧ lean t' ∧ hgt t' ≤ hgt t + (i + 1) ∧ cnt t' ≤ cnt t + 3 * (i + 1) ∧ a' ≤ a + (i + 1) ∧ Sb d H H2 ∧ PenAt H2 d c ns a' r' :=
        fun tt h1 h2 h3 h4 h5 => ⟨x, tt, a2, r2, _, rfl, h1, h2, h3, by omega, by omega, by omega, (b1.trans (Same.sb sA)).trans b2, p2⟩
      have tr : ∀ (e : Addr) (us : List V) (ds : List PyData), (upd _ l (.lst [.ref e1, .ref e2, .ref e3, .ref e4])) e = some (.tup us) → DpAll K _ us ds → goodAll ds → Dp K H2 (.ref e) (.tuple ds) := fun e us ds he hd hgd =>
        dp_sb b2 pA.noT pA.noF (.tuple ds) (.ref e) (by simpa [good] using hgd) (.tup (SqT.of he) hd)
      simp only [List.mem_cons, List.not_mem_nil, or_false] at hx
      have n0 : (PyData.int 0) = PyData.int 0 := rfl
      rcases hx with rfl | rfl | rfl | rfl
      · exact fin (.tuple [t1]) (tr e1 [v1] [t1] m1 (.cons hvA .nil) (by simp [goodAll, hg1])) (by simp [good, goodAll, hg1]) (by simp [lean, leanAll, hl1]) (by simp only [hgt, hgtAll]; omega) (by simp only [cnt, cntAll]; omega)
      · exact fin (.tuple [.str (Str.ofString "a"), t1]) (tr e2 _ [.str (Str.ofString "a"), t1] m2 (.cons (.str _) (.cons hvA .nil)) (by simp only [goodAll, good]; exact ⟨by rw [ofs_a]; decide +kernel, hg1, trivial⟩))
          (by simp only [goodAll, good]; exact ⟨by rw [ofs_a]; decide +kernel, hg1, trivial⟩) (by simp only [lean, leanAll]; exact ⟨by rw [ofs_a]; decide +kernel, hl1, trivial⟩) (by simp only [hgt, hgtAll]; have := hgt_pos t1; omega) (by simp only [cnt, cntAll]; omega)
      · exact fin (.tuple [t1, .int 0]) (tr e3 _ [t1, .int 0] m3 (.cons hvA (.cons (.int 0) .nil)) (by simp only [goodAll, good]; exact ⟨hg1, by decide +kernel, trivial⟩))
          (by simp only [goodAll, good]; exact ⟨hg1, by decide +kernel, trivial⟩) (by simp only [lean, leanAll]; exact ⟨hl1, trivial, trivial⟩) (by simp only [hgt, hgtAll]; have := hgt_pos t1; omega) (by simp only [cnt, cntAll]; omega)
      · exact fin (.tuple [.tuple [], t1, .none]) (tr e4 _ [.tuple [], t1, .none] m4 (.cons (.tup (SqT.of m5) .nil) (.cons hvA (.cons .non .nil))) (by simp only [goodAll, good]; exact ⟨trivial, hg1, trivial, trivial⟩))
          (by simp only [goodAll, good]; exact ⟨trivial, hg1, trivial, trivial⟩) (by simp only [lean, leanAll]; exact ⟨trivial, hl1, trivial, trivial⟩) (by simp only [hgt, hgtAll]; have := hgt_pos t1; omega) (by simp only [cnt, cntAll]; omega)
    · rintro σ H1 ⟨v1, t1, a1, r1, y, rfl, hv1, hg1, hl1, hh1, hc1, ha1, b1, p1⟩
      have h1 : (n : Int).toNat = n := by omega
      rw [h1] at hh1 hc1 ha1
      exact ⟨_, rfl, q v1 t1 a1 r1 H1 hv1 hg1 hl1 hh1 hc1 ha1 b1 p1⟩
end
end DS
set_option Elab.async false
set_option linter.all false
set_option maxRecDepth 100000
set_option maxHeartbeats 4000000
namespace DS
open PySem L2 PySem.NumText
abbrev sWritten : Stmt := top 20
/-! ### replacing a sign -/
def sub (y : Nat) (z : Cs) (l : Cs) : Cs := (l.map fun c => if c = y then z else [c]).flatten
theorem replL_one (y : Nat) (z : Cs) : ∀ l : Cs, PySem.StrLaws.replL [y] z l = sub y z l
  | [] => by rw [PySem.StrLaws.replL_nil]; rfl
  | c :: l => by
    by_cases h : c = y
    · subst h
      rw [PySem.StrLaws.replL_hit (by simp) (by simp)]
      simp [sub, replL_one c z l]
    · rw [PySem.StrLaws.replL_miss (by simpa using h), replL_one y z l]
      simp [sub, h]
theorem repl_S (x : Cs) (y : Nat) (z : Cs) : Txt.replace (S x) (S [y]) (S z) = S (sub y z x) := by
  rw [← S_eta (Txt.replace (S x) (S [y]) (S z)), PySem.StrLaws.replace_list (by rw [S_length]; simp)]
  simp only [S_cps]
  rw [replL_one]
theorem sub_sub : ∀ l : Cs, sub 34 [92, 34] (sub 92 [92, 92] l) = escT l
  | [] => rfl
  | c :: l => by
    have ih := sub_sub l
    have e : ∀ a b : Cs, sub 34 [92, 34] (a ++ b) = sub 34 [92, 34] a ++ sub 34 [92, 34] b := fun a b => by simp [sub]
    have h1 : sub 92 [92, 92] (c :: l) = (if c = 92 then [92, 92] else [c]) ++ sub 92 [92, 92] l := rfl
    rw [h1, e, ih, escT_cons]
    congr 1
    unfold esc1
    by_cases h92 : c = 92
    · subst h92; rfl
    · by_cases h34 : c = 34
      · subst h34; rfl
      · simp [sub, h92, h34]
theorem sub_len (y : Nat) (z : Cs) (hz : z.length ≤ 2) : ∀ l : Cs, (sub y z l).length ≤ 2 * l.length
  | [] => by simp [sub]
  | c :: l => by
    have := sub_len y z hz l
    have h1 : sub y z (c :: l) = (if c = y then z else [c]) ++ sub y z l := rfl
    rw [h1, List.length_append, List.length_cons]
    split <;> simp <;> omega
theorem ofs_bb : Str.ofString "\\\\" = S [92, 92] := by decide +kernel
theorem ofs_bq : Str.ofString "\\\"" = S [92, 34] := by decide +kernel
section
variable {P : Program} {w : World} {K : PySem.W.Frag} {mg : Str → Option Value} {base : Heap}
/-- a def that begins with a token out -/
theorem okT {x qual : Str} {st : Stmt} {f : Addr} {fd : FuncData} {N ps : List Str} {k : Nat} {sp : Sp} (F : Fun K x qual st f fd) (Sc : FnScope N ps (defScope st)) (hnc : ∀ y ∈ (defScope st).names, y.2 ≠ .cell) (hps : 1 ≤ ps.length)
    (len : ∀ vs H Q E, sp vs H Q E → vs.length = ps.length)
    (hbody : ∀ (cdv : Value) (A : Around) (outer : List Env) (s : Shared) (H : Hp) (vs : List V) (Q : VK) (E : XK), Room k (A.deeper (PyProof.Rows.envOfC qual (defScope st) s.heap.objs.size f cdv)) → sp vs H Q E →
      ∃ t, PSsT (cxOf CX0 P w K mg base N qual (defScope st) f cdv A outer s H E) (defBody st) t ∧ t { nx := fun _ H' => Q .non H', rt := Q } (L2.start N vs) H) : FnOk P w K mg base CX0 (k + 1) f fd ps sp := by
  obtain ⟨oc, od, kV, doc, pm, an, cdv, ct, osl, rfl, lk, hcd⟩ := F.ex
  exact fn_ofT lk hcd Sc hnc hps len fun A outer s H vs Q E hr hsp => hbody cdv A outer s H vs Q E hr hsp
theorem scWritten : FnScope ["_law_tree", "_law_part"] ["_law_tree"] (defScope sWritten) := ⟨rfl, rfl, rfl, by decide +kernel, rfl, by decide +kernel, by decide +kernel⟩
theorem written_step {f : Addr} {fd : FuncData} {n : Nat} (B : Bn mg) (F : Fun K "_law_written" "_law_written" sWritten f fd) (mT : mg "_law_written" = some (.ref f)) (bT : Binds K fd ["_law_tree"] [])
    (G : FnOk P w K mg base CX0 (n + 1) f fd ["_law_tree"] (spWT K n)) : FnOk P w K mg base CX0 (n + 2) f fd ["_law_tree"] (spWT K (n + 1)) := by
  refine okT F scWritten (by decide +kernel) (by decide) (fun vs H Q E h => ?_) (fun cdv A outer s H vs Q E hr h => ?_)
  · obtain ⟨v, t, rfl, _⟩ := h
    rfl
  · obtain ⟨v, t, rfl, hd, hg, hh, hl, q⟩ := h
    refine ⟨_, psst_cons (PST.of (ps_if (pt_val (pe_callB call_isi (by rfl) B.isi boot_isi (pa_cons (pv 0) (pa_cons (pe_bltn (v := .ty "tuple") (by rfl) B.tup PyProof.Rows.boot_tuple rfl) pa_nil))))
          (pss_one (ps_ret (pe_op op_add_str (pe_op op_add_str pe_str (pe_join pe_str
            (pe_lc (own := [("_law_part", 1)]) (g := gName 1) (tt := tYes) rfl scWritten.nd (pi_tup (pv 0)) (blkOk_by (N := ["_law_tree", "_law_part"]) (sc := defScope sWritten) (by decide +kernel))
              (fun _ _ _ _ _ => pg_name (i := 1) scWritten.nd rfl (Or.inl rfl)) (fun _ _ _ _ _ => pts_nil)
              (fun _ _ _ _ _ => pe_call G hr rfl mT F.kp bT .nil pass0 (pa_cons (pv 1) pa_nil))))) pe_str))) pss_nil))
      (psst_cons (CwR.pst_if (pt_val (pe_callB call_isi (by rfl) B.isi boot_isi (pa_cons (pv 0) (pa_cons (pe_bltn (v := .ty "str") (by rfl) B.str PyProof.Rows.boot_str rfl) pa_nil))))
          (CwR.psst_one (CwR.pst_ret (CwR.pet_op op_add_str (CwR.pet_op op_add_str (CwR.PET.of pe_str) (CwR.pet_replT (CwR.pet_replC (pv 0) (by decide +kernel)) (by decide +kernel))) (CwR.PET.of pe_str)))) CwR.psst_nil)
      (PSsT.of (pss_cons (ps_if (PW.pt (pw_or (pt_val (pe_callB call_isi (by rfl) B.isi boot_isi (pa_cons (pv 0) (pa_cons (pe_bltn (v := .ty "bool") (by rfl) B.bl PyProof.Rows.boot_bool rfl) pa_nil)))) (pw_or1 (pt_cmp (pc_isN (pv 0))))))
          (pss_one (ps_ret (pe_ifExp (pt_cmp (pc_isN (pv 0))) pe_str (pe_ifExp (pt_truth (pv 0) (by intro _; rfl)) pe_str pe_str)))) pss_nil)
      (pss_one (ps_ret (pe_callTy call_str_int (by rfl) B.str PyProof.Rows.boot_str (pa_cons (pv 0) pa_nil))))))), ?_⟩
    have hty := dp_ty hg hd
    cases t with
    | tuple ds =>
      cases hd with
      | @tup a xs _ hs ha =>
      refine ⟨_, rfl, _, _, _, _, true, rfl, .ty _, hty, kit_ty k_tuple_tuple, _, rfl, iteT ?_⟩
      refine ⟨⟨_, rfl⟩, _, rfl, a, rfl, ⟨_, hs⟩, fun D hD => ?_⟩
      have hL := dp_len ha
      simp only [txt, List.length_cons, List.length_append] at hl
      simp only [hgt] at hh
      have hga : goodAll ds := by simpa [good] using hg
      have hge := txtAll_ge ds
      refine lc_it (walk_tup (a := a) (xs := xs)) (fun i H' => Same H H' ∧ H' D = some (.lst (((ds.take i).map txt).map fun c => V.str (S c)))) ⟨same_new hD _, by rw [upd_same]; rfl⟩ (fun i H' _ p => sqT_same p.1 hs) ?_ ?_
      · rintro i x H1 H2 hi ⟨sm, hd⟩ ⟨rfl, hx⟩
        obtain ⟨d, ed, dd⟩ := dp_get ha hx
        have et : ((ds.take (i + 1)).map txt).map (fun c => V.str (S c)) = ((ds.take i).map txt).map (fun c => V.str (S c)) ++ [V.str (S (txt d))] := by
          rw [List.take_add_one, ed]; simp
        have hz := txtAll_len ed
        refine ⟨rfl, ?_⟩
        refine ⟨_, rfl, x, d, rfl, dp_same sm d x dd, good_get hga ed, by have := hgt_get ed; omega, by omega, fun H3 sm3 => ?_⟩
        refine ⟨_, sm3 _ _ hd, small' (by simp; omega), same_put (sm.trans sm3) hD _, ?_⟩
        rw [upd_same, et]
      · rintro H1 ⟨sm, hd⟩
        rw [hL, List.take_length] at hd
        have em : (ds.map txt).map (fun c => V.str (S c)) = ((ds.map txt).map S).map V.str := by simp
        rw [em] at hd
        refine ⟨_, D, (ds.map txt).map S, rfl, rfl, .inl (SqL.of hd), ?_, ?_⟩
        · rw [sum_lens, ofs_sp, S_length]
          simp only [List.length_map, List.length_cons, List.length_nil]
          omega
        rw [ofs_sp, glue_cps, glu_all, ofs_op, ofs_cl]
        refine ⟨_, _, rfl, rfl, ?_, _, _, rfl, rfl, ?_, ?_⟩
        · rw [S_length, S_length]; exact small (by show 1 + _ ≤ _; omega)
        · rw [S_append, S_length, S_length]; exact small (by show (txtAll ds).length + 1 + 1 ≤ _; omega)
        · rw [S_append, S_append]
          exact q H1 sm
    | str z =>
      cases hd
      refine ⟨_, rfl, _, _, _, _, false, rfl, .ty _, hty, kit_ty k_str_tuple, _, rfl, iteF ?_⟩
      refine ⟨_, rfl, _, _, _, _, true, rfl, .ty _, hty, kit_ty k_str_str, _, rfl, iteT ?_⟩
      simp only [txt, List.length_cons, List.length_append] at hl
      have h1 := escT_ge z.cps.toList
      have h2 := sub_len 92 [92, 92] (by simp) z.cps.toList
      have h3 := escT_len z.cps.toList
      obtain ⟨l, rfl⟩ : ∃ l, z = S l := ⟨z.cps.toList, (S_eta z).symm⟩
      rw [S_cps] at h1 h2 h3 hl
      refine ⟨_, rfl, S l, rfl, ?_, ?_⟩
      · rw [ofs_bb, S_length, S_length]; simp only [List.length_cons, List.length_nil]; omega
      rw [ofs_b, ofs_bb, repl_S]
      refine ⟨_, rfl, ?_, ?_⟩
      · rw [ofs_bq, S_length, S_length]; simp only [List.length_cons, List.length_nil]; omega
      rw [ofs_q, ofs_bq, repl_S, sub_sub]
      refine ⟨_, _, rfl, rfl, ?_, _, _, rfl, rfl, ?_, ?_⟩
      · rw [S_length, S_length]; exact small (by show 1 + _ ≤ _; omega)
      · rw [S_append, S_length, S_length]; exact small (by show (escT l).length + 1 + 1 ≤ _; omega)
      · rw [S_append, S_append]
        have := q H (Same.refl H)
        rw [show txt (PyData.str (S l)) = 34 :: (escT l ++ [34]) by simp only [txt, S_cps]] at this
        exact this
    | none =>
      cases hd
      refine ⟨_, rfl, _, _, _, _, false, rfl, .ty _, hty, kit_ty k_NoneType_tuple, _, rfl, iteF ?_⟩
      refine ⟨_, rfl, _, _, _, _, false, rfl, .ty _, hty, kit_ty k_NoneType_str, _, rfl, iteF ?_⟩
      refine ⟨_, rfl, _, _, _, _, false, rfl, .ty _, hty, kit_ty (show kitB "NoneType" "bool" = some false by decide +kernel), _, rfl, iteF ?_⟩
      refine ⟨_, rfl, _, rfl, iteT ?_⟩
      refine ⟨_, rfl, _, rfl, iteT ?_⟩
      have := q H (Same.refl H)
      rw [show txt PyData.none = [45] from rfl, ← ofs_mi] at this
      exact this
    | bool b =>
      cases hd
      refine ⟨_, rfl, _, _, _, _, false, rfl, .ty _, hty, kit_ty k_bool_tuple, _, rfl, iteF ?_⟩
      refine ⟨_, rfl, _, _, _, _, false, rfl, .ty _, hty, kit_ty k_bool_str, _, rfl, iteF ?_⟩
      refine ⟨_, rfl, _, _, _, _, true, rfl, .ty _, hty, kit_ty k_bool_bool, _, rfl, iteT ?_⟩
      refine iteT ?_
      refine ⟨_, rfl, _, rfl, iteF ?_⟩
      refine ⟨_, rfl, b, rfl, ?_⟩
      have := q H (Same.refl H)
      cases b with
      | true =>
        refine iteT ?_
        rw [show txt (PyData.bool true) = [121, 101, 115] from rfl, ← ofs_yes] at this
        exact this
      | false =>
        refine iteF ?_
        rw [show txt (PyData.bool false) = [110, 111] from rfl, ← ofs_no] at this
        exact this
    | int i =>
      cases hd
      refine ⟨_, rfl, _, _, _, _, false, rfl, .ty _, hty, kit_ty k_int_tuple, _, rfl, iteF ?_⟩
      refine ⟨_, rfl, _, _, _, _, false, rfl, .ty _, hty, kit_ty k_int_str, _, rfl, iteF ?_⟩
      refine ⟨_, rfl, _, _, _, _, false, rfl, .ty _, hty, kit_ty k_int_bool, _, rfl, iteF ?_⟩
      refine ⟨_, rfl, _, rfl, iteF ?_⟩
      refine ⟨_, rfl, i, rfl, good_log (by simpa [good] using hg), ?_⟩
      have := q H (Same.refl H)
      rw [show txt (PyData.int i) = numT i from rfl, ← toString_int] at this
      exact this
    | list ds => simp [good] at hg
    | dict ds => simp [good] at hg
theorem ok_written {f : Addr} {fd : FuncData} (B : Bn mg) (F : Fun K "_law_written" "_law_written" sWritten f fd) (mT : mg "_law_written" = some (.ref f)) (bT : Binds K fd ["_law_tree"] []) : ∀ n : Nat, FnOk P w K mg base CX0 (n + 1) f fd ["_law_tree"] (spWT K n)
  | 0 => by
    have no : ∀ vs H Q E, ¬ spWT K 0 vs H Q E := fun vs H Q E h => by
      obtain ⟨v, t, _, _, _, h1, _⟩ := h
      have := hgt_pos t
      omega
    exact ⟨fun vs H Q E h => absurd h (no vs H Q E), fun A outer s H args us vs Q E _ _ _ _ h => absurd h (no vs H Q E)⟩
  | n + 1 => written_step B F mT bT (ok_written B F mT bT n)
end
end DS
set_option Elab.async false
set_option linter.all false
set_option maxRecDepth 100000
set_option maxHeartbeats 4000000
namespace DS
open PySem L2 PyProof.Rows
/-! ### the law's own def, called by the claim: here no repr is under way (the guards are empty) -/
theorem run_law {P : Program} {w : World} {K : PySem.W.Frag} {mg : Str → Option Value} {bs : Heap} {f a : Addr} {fd : FuncData} {N : List Str} {st : Stmt} {s : Shared} {H : Hp} {x y : Str} {lv : Nat}
    (F : Fun K x x st f fd) (Sc : FnScope N [y] (defScope st)) (room : Room (lv + 1) callerA) (e0 : Env0 P w K mg bs callerA [] s H) (bind : BindsTo s fd ⟨[.ref a], []⟩ [(y, .ref a)])
    (body : ∀ cdv : Value, Room lv (callerA.deeper (envOfC x (defScope st) s.heap.objs.size f cdv)) →
      ∃ t, PSs (cxOf CX0 P w K mg bs N x (defScope st) f cdv callerA [] s H E0).nox (defBody st) t ∧ t { nx := fun _ _ => False, rt := fun v _ => v = .bl true } (L2.start N [.ref a]) H) :
    codeAny (model P w) callerA (.call (.ref f) ⟨[.ref a], []⟩) (CR CX0 [] P w H s (fun v _ => v = .bl true) E0) s := by
  obtain ⟨oc, od, kV, doc, pm, an, cdv, ct, osl, rfl, lk, hcd⟩ := F.ex
  have kin : K.In s.heap := e0.mod.kin.keeps fun _ _ e => (e0.bs _ _ e).1
  have nol : s.heap.NoLimit := e0.mod.nolimit.keeps fun _ _ e => (e0.bs _ _ e).1
  have kinds : ∀ p ∈ [y].zip [Value.ref a], (defScope st).names.lookup p.1 = some .local ∨ ((defScope st).names.lookup p.1 = some .cell ∧ ((cellsFrom (s.heap.objs.size + 1) (defScope st).names []).lookup p.1).isSome = true) := by
    intro p hp
    obtain rfl : p = (y, Value.ref a) := by simpa using hp
    exact (Sc.par y (by simp)).imp id fun q => ⟨q, PySem.W.cellsFrom_some _ _ _ (.inl q)⟩
  refine codeAny_call_function room.depth (kin _ _ lk) rfl Sc.co Sc.gen rfl (PySem.W.codeRec_of kin hcd) (bind _ _ _ _ ?_)
  refine wpAny_newFunctionEnv_cells Sc.kind kinds ?_
  rintro env rfl s' ic
  refine ⟨nol.keeps ic.toInCall.keep, codeAny_func ?_⟩
  obtain ⟨t, dt, ht⟩ := body cdv (room.deeper _)
  have J0 : Inv (cxOf CX0 P w K mg bs N x (defScope st) f cdv callerA [] s H E0) [] (L2.start N [.ref a]) H s' := inv_start (us := [.ref a]) Sc room.hd e0 rfl (.cons rfl .nil) ic
  refine wpAny_mono (dt.nox.run [] s' (L2.start N [.ref a]) H _ J0 ht) (fun fl s2 z => ?_) fun _ _ z => z
  cases fl with
  | ret u =>
    obtain ⟨v, σ2, H2, J, rv, q⟩ := z
    exact ⟨v, H2, J.os, J.bare, J.base, J.hok, rv, q⟩
  | next => obtain ⟨_, _, _, q⟩ := z; exact q.elim
  | brk => obtain ⟨_, _, _, q⟩ := z; exact q.elim
  | cont => obtain ⟨_, _, _, q⟩ := z; exact q.elim
/-- the claim's call from the body's reading -/
theorem law_at {P : Program} {w : World} {K : PySem.W.Frag} {mg mb : Str → Option Value} {f a : Addr} {fd : FuncData} {N : List Str} {st : Stmt} {s : Shared} {us : List Value} {ns : List Int} {x y : Str} {lv : Nat}
    (F : Fun K x x st f fd) (Sc : FnScope N [y] (defScope st)) (room : Room (lv + 1) callerA) (bind : BindsTo s fd ⟨[.ref a], []⟩ [(y, .ref a)])
    (kin : K.In s.heap) (gns : s.heap.Ns mainGlobals mg) (bns : s.heap.Ns builtinsNs mb) (bb : ∀ x : Str, x ≠ "__name__" → mb x = bootBuiltins x) (nol : s.heap.NoLimit) (gens : s.gens = #[])
    (obj : s.heap.get? a = some { cls := .type "list", data := .seq us.toArray }) (hints : IntsAre us ns) (len : ns.length ≤ sizeLine)
    (body : ∀ (bs : Heap) (H : Hp) (cdv : Value), K.In bs → bs.Ns mainGlobals mg → SqL K H a (ns.map V.int) → Room lv (callerA.deeper (envOfC x (defScope st) s.heap.objs.size f cdv)) →
      ∃ t, PSs (cxOf CX0 P w K mg bs N x (defScope st) f cdv callerA [] s H E0).nox (defBody st) t ∧ t { nx := fun _ _ => False, rt := fun v _ => v = .bl true } (L2.start N [.ref a]) H) :
    codeAny (model P w) callerA (.call (.ref f) ⟨[.ref a], []⟩) (fun r s' => r = .ok (.ret (.bool true)) ∧ OldK s.heap s'.heap ∧ s'.os = s.os ∧ AllBare s'.gens) s := by
  have vals := vals_ints hints
  have ulen := hints.length
  -- H tracks the script (frozen), or nothing
  have main : ∀ H : Hp, (∀ b, H b = none ∨ (b = a ∧ K.lookup a = none ∧ ∃ o xs, H b = some (.frz o (.lst xs)))) → SqL K H a (ns.map V.int) → HOk P w H s.heap →
      codeAny (model P w) callerA (.call (.ref f) ⟨[.ref a], []⟩) (fun r s' => r = .ok (.ret (.bool true)) ∧ OldK s.heap s'.heap ∧ s'.os = s.os ∧ AllBare s'.gens) s := by
    intro H only hS hok
    have dicts : ∀ {b : Addr} {o : Obj} {es : Array DictEntry} {ep : Nat}, s.heap.get? b = some o → o.data = .dict es ep → H b = none := by
      intro b o es ep e de
      rcases only b with z | ⟨rfl, _⟩
      · exact z
      · rw [obj] at e
        obtain rfl := Option.some.inj e
        exact Data.noConfusion (show Data.seq us.toArray _ = Data.dict es ep from de)
    have ns' : ∀ {b : Addr} {m : Str → Option Value}, s.heap.Ns b m → (hidT s.heap H).Ns b m := by
      rintro b m ⟨o, es, ep, e, de, r⟩
      exact ⟨o, es, ep, hidT_get e (dicts e de), de, r⟩
    have kin' : K.In (hidT s.heap H) := by
      intro b o e
      refine hidT_get (kin b o e) ?_
      rcases only b with z | ⟨rfl, z, _⟩
      · exact z
      · rw [z] at e; cases e
    have md : Mod K mg (hidT s.heap H) := ⟨kin', ns' gns, ⟨mb, ns' bns, bb⟩, nol.imp fun mc h => ⟨ns' h.1, h.2⟩⟩
    have e0 : Env0 P w K mg (hidT s.heap H) callerA [] s H := ⟨rfl, md, fun _ _ e => of_hidT e, Nat.le_of_eq (hidT_size _ _), trivial, fun b hb => absurd (show b ∈ ([] : List Addr) from hb) (by simp), hok, .of_eq gens⟩
    refine codeAny_mono (run_law F Sc room e0 bind fun cdv hr => body _ H cdv kin' (ns' gns) hS hr) fun r s' z => ?_
    match r, z with
    | .error _, z => exact z.elim
    | .ok .next, z => exact z.elim
    | .ok .brk, z => exact z.elim
    | .ok .cont, z => exact z.elim
    | .ok (.ret u), z =>
      obtain ⟨v, H', hos, hbare, un, hok', rv, rfl⟩ := z
      cases (show u = Value.bool true from rv)
      refine ⟨rfl, OldK.of_keep fun b o e => ?_, hos, hbare⟩
      rcases only b with q | ⟨_, _, ob, xs, q⟩
      · exact un.keep b o e q (fun z => absurd (show b ∈ ([] : List Addr) from z) (by simp)) (by simp)
      · have z1 : s.heap.get? b = some ob := (hok b _ q).1
        have z2 : s'.heap.get? b = some ob := (hok' b _ (un.frzs b ob _ q)).1
        rw [z1] at e
        rw [z2, ← Option.some.inj e]
  cases hk : K.lookup a with
  | some o =>
    obtain rfl := Option.some.inj (obj.symm.trans (kin a o hk))
    exact main (fun _ => none) (fun _ => .inl rfl) (.inr ⟨_, us.toArray, _, hk, rfl, rfl, rfl, by rw [List.size_toArray, ulen]; exact len, by simpa using vals⟩) fun b o z => nomatch (show (none : Option HO) = some o from z)
  | none =>
    refine main (upd (fun _ => none) a (.frz { cls := .type "list", data := .seq us.toArray } (.lst (ns.map V.int)))) (fun b => ?_) (.inl (.inr ⟨_, upd_same⟩)) fun b o z => ?_
    · by_cases e : b = a
      · subst e; exact .inr ⟨rfl, hk, _, _, upd_same⟩
      · exact .inl (by rw [upd_ne e])
    · by_cases e : b = a
      · subst e
        rw [upd_same] at z
        obtain rfl := Option.some.inj z
        exact ⟨obj, by rw [List.length_map]; exact len, us, _, vals, obj⟩
      · rw [upd_ne e] at z; cases z
/-- the goal behind k_head -/
theorem walk_at {l : PySem.W.OpenLaw} {q : Program} {loose : List Str} {XP : (Str → Option Value) → Heap → Prop} {YP : World → Heap → Prop} {d : DefRec} {K : Params → PySem.W.Frag} {N : List Str} {st : Stmt} {y : Str} {lv : Nat}
    (hn : l.most = some 63) (hdf : d.params.defaults = []) (Sc : FnScope N [y] (defScope st)) (room : Room (lv + 1) callerA) (hY : ∀ (w : World) (h : Heap), YP w h → (K w.params).In h)
    (give : ∀ (w : World) (mg : Str → Option Value) (f : Addr) (h : Heap), (K w.params).In h → h.Ns mainGlobals mg → mg d.name = some (.ref f) →
      ∃ fd : FuncData, Fun (K w.params) d.name d.name st f fd ∧ (∀ (s : Shared) (u : Value), BindsTo s fd ⟨[u], []⟩ [(y, u)]) ∧
        ∀ (bs : Heap) (s : Shared) (H : Hp) (cdv : Value) (a : Addr) (ns : List Int), (K w.params).In bs → bs.Ns mainGlobals mg → ns.length ≤ 63 → SqL (K w.params) H a (ns.map V.int) → Room lv (callerA.deeper (envOfC d.name (defScope st) s.heap.objs.size f cdv)) →
          ∃ t, PSs (cxOf CX0 l.prog w (K w.params) mg bs N d.name (defScope st) f cdv callerA [] s H E0).nox (defBody st) t ∧ t { nx := fun _ _ => False, rt := fun v _ => v = .bl true } (L2.start N [.ref a]) H) :
    PySem.W.WalkO q loose XP YP l.row.toRowW d [] (fun f vs => PySem.call f vs) := by
  refine Att.attach_call hn hdf ?_
  intro w s₀ s mg mb f o pm cd doc a us ns G Y ho hd hcd hmg obj hints hlen gens
  have kin := hY w _ Y
  obtain ⟨fd, F, bind, body⟩ := give w mg f _ kin G.T.g hmg
  exact law_at F Sc room (bind s _) kin G.T.g G.T.b G.T.builtins G.T.nolimit gens obj hints (Nat.le_trans hlen (by decide)) fun bs H cdv h1 h2 h3 h4 => body bs s H cdv a ns h1 h2 hlen h3 h4
/-! ### repr of data -/
theorem call_reprD {X : Cx} (hg : X.A.guards = some []) {n : Nat} (hu : X.A.units + (n + 1) < cLine) :
    CallR X (.builtin "repr") (fun xs H Q => ∃ v d, xs = [v] ∧ Dp X.K H v d ∧ d.showable = true ∧ d.hasDict = false ∧ d.depth ≤ n ∧ d.shown.length ≤ sizeLine ∧ Q (.str d.shown) H) := by
  intro pins s σ H xs us Q I r h
  obtain ⟨v, d, rfl, hd, hs, hnd, hdep, hlen, q⟩ := h
  obtain ⟨u, rfl, rv⟩ := vals1 r
  have fin : ∀ h' t tk, (∀ b o, s.heap.get? b = some o → h'.get? b = some o) → EP X pins σ Q (.str d.shown t) { s with heap := h', toks := tk } := fun h' t tk k => ⟨.str d.shown, H, I.kept k, ⟨t, rfl⟩, q⟩
  have fin0 : ∀ t tk, EP X pins σ Q (.str d.shown t) { s with toks := tk } := fun t tk => fin s.heap t tk fun _ _ e => e
  obtain ⟨as, rd⟩ := Dp.reads I d v u hd rv
  cases hd with
  | non => cases (show u = Value.none from rv); exact PySem.P.repr_of_none (fin0 _ _)
  | bl b => cases (show u = Value.bool b from rv); exact PySem.P.repr_of_bool (by have := fin0 s.toks (s.toks + 1); simpa only [PyData.shown] using this)
  | int i =>
    obtain ⟨t, rfl⟩ := (show ∃ t, u = Value.int i t from rv)
    exact PySem.P.repr_of_int (by simpa [PyData.showable] using hs) (fin0 _ _)
  | str z =>
    obtain ⟨t, rfl⟩ := (show ∃ t, u = Value.str z t from rv)
    exact PySem.P.repr_of_str (fin0 _ _) (by simpa only [PyData.shown] using hlen)
  | @lst a xs ds h1 h2 =>
    cases (show u = Value.ref a from rv)
    exact repr_of_reads' rd hs (PyData.noDict_hsm hnd) hg (by omega) (fun _ _ e => e) fin hlen
  | @tup a xs ds h1 h2 =>
    cases (show u = Value.ref a from rv)
    exact repr_of_reads' rd hs (PyData.noDict_hsm hnd) hg (by omega) (fun _ _ e => e) fin hlen
end DS
set_option Elab.async false
set_option linter.all false
set_option maxRecDepth 100000
set_option maxHeartbeats 4000000
namespace DS
open PySem L2 PySem.NumText
abbrev sLaw : Stmt := top 24
/-! ### sizes -/
theorem numT_len {i : Int} (h : i.natAbs < 10 ^ 100) : (numT i).length ≤ 101 := by
  have := decD_len 100 i.natAbs h (by decide)
  unfold numT
  split <;> simp <;> omega
theorem len_app (a b : Str) : (a ++ b).length = a.length + b.length := by
  show (a.cps ++ b.cps).size = a.cps.size + b.cps.size
  simp
theorem join_len (sep : Str) : ∀ l : List Str, (Str.join sep l).length ≤ (l.map fun x => x.length + sep.length).sum
  | [] => by simp [Str.join, Str.empty, Str.length]
  | [x] => by simp [Str.join]
  | x :: y :: r => by
    have := join_len sep (y :: r)
    rw [show Str.join sep (x :: y :: r) = x ++ sep ++ Str.join sep (y :: r) from rfl, len_app, len_app]
    simp only [List.map_cons, List.sum_cons] at this ⊢
    omega
theorem sgn_small : ∀ c ∈ sgnList, c < 16 ^ 8 := by decide +kernel
mutual
theorem txt_bd : ∀ t : PyData, good t → lean t → (txt t).length + 1 ≤ 112 * cnt t
  | .none, _, _ => by simp [txt, cnt]
  | .bool b, _, _ => by cases b <;> simp [txt, cnt]
  | .int i, g, _ => by
    have := numT_len (by simpa [good] using g)
    simp only [txt, cnt]; omega
  | .str x, _, l => by
    have h1 := escT_len x.cps.toList
    have h2 : x.cps.toList.length ≤ 12 := by simpa [lean] using l
    simp only [txt, cnt, List.length_cons, List.length_append, List.length_nil]; omega
  | .tuple ts, g, l => by
    have := txtMore_bd ts (by simpa [good] using g) (by simpa [lean] using l)
    have h2 : (txtAll ts).length ≤ (txtMore ts).length := by cases ts <;> simp [txtAll, txtMore]
    simp only [txt, cnt, List.length_cons, List.length_append, List.length_nil]; omega
  | .list _, g, _ => by simp [good] at g
  | .dict _, g, _ => by simp [good] at g
theorem txtMore_bd : ∀ ts : List PyData, goodAll ts → leanAll ts → (txtMore ts).length ≤ 112 * cntAll ts
  | [], _, _ => by simp [txtMore]
  | t :: ts, g, l => by
    simp only [goodAll] at g
    simp only [leanAll] at l
    have h1 := txt_bd t g.1 l.1
    have h2 := txtMore_bd ts g.2 l.2
    simp only [txtMore, cntAll, List.length_cons, List.length_append]; omega
end
mutual
theorem shown_bd : ∀ t : PyData, good t → lean t → t.shown.length + 2 ≤ 204 * cnt t
  | .none, _, _ => by simp only [PyData.shown, cnt]; decide
  | .bool b, _, _ => by cases b <;> (simp only [PyData.shown, cnt]; decide)
  | .int i, g, _ => by
    have := numT_len (by simpa [good] using g)
    simp only [PyData.shown, cnt]
    rw [toString_int, S_length]; omega
  | .str x, g, l => by
    have h1 := PySem.StrLaws.reprText_len x fun c hc => sgn_small c ((by simpa [good] using g : ∀ c ∈ x.cps.toList, c ∈ sgnList) c hc)
    have h2 : x.cps.toList.length ≤ 12 := by simpa [lean] using l
    have h3 : x.length = x.cps.toList.length := by simp [Str.length]
    simp only [PyData.shown, cnt]; omega
  | .tuple ts, g, l => by
    have h1 := shownAll_bd ts (by simpa [good] using g) (by simpa [lean] using l)
    have h2 := join_len (Str.ofString ", ") (PyData.shownAll ts)
    have h3 : (Str.ofString ", ").length = 2 := by decide
    rw [h3] at h2
    simp only [PyData.shown, tupleText, cnt]
    rw [len_app, len_app]
    have h4 : (Str.ofString "(").length = 1 := by decide
    have h5 : (Str.ofString (if (PyData.shownAll ts).length == 1 then ",)" else ")" : String)).length ≤ 2 := by split <;> decide
    omega
  | .list _, g, _ => by simp [good] at g
  | .dict _, g, _ => by simp [good] at g
theorem shownAll_bd : ∀ ts : List PyData, goodAll ts → leanAll ts → ((PyData.shownAll ts).map fun x => x.length + 2).sum ≤ 204 * cntAll ts
  | [], _, _ => by simp [PyData.shownAll]
  | t :: ts, g, l => by
    simp only [goodAll] at g
    simp only [leanAll] at l
    have h1 := shown_bd t g.1 l.1
    have h2 := shownAll_bd ts g.2 l.2
    simp only [PyData.shownAll, cntAll, List.map_cons, List.sum_cons]; omega
end
mutual
theorem good_show : ∀ t : PyData, good t → t.showable = true ∧ t.hasDict = false ∧ t.depth ≤ hgt t
  | .none, _ => by simp [PyData.showable, PyData.hasDict, PyData.depth]
  | .bool b, _ => by simp [PyData.showable, PyData.hasDict, PyData.depth]
  | .int i, g => by simp [PyData.showable, PyData.hasDict, PyData.depth, good_log (by simpa [good] using g)]
  | .str x, _ => by simp [PyData.showable, PyData.hasDict, PyData.depth]
  | .tuple ts, g => by
    have := good_showAll ts (by simpa [good] using g)
    simp only [PyData.showable, PyData.hasDict, PyData.depth, hgt]
    exact ⟨this.1, this.2.1, by omega⟩
  | .list _, g => by simp [good] at g
  | .dict _, g => by simp [good] at g
theorem good_showAll : ∀ ts : List PyData, goodAll ts → PyData.showableAll ts = true ∧ PyData.hasDictAll ts = false ∧ PyData.depthAll ts ≤ hgtAll ts
  | [], _ => by simp [PyData.showableAll, PyData.hasDictAll, PyData.depthAll]
  | t :: ts, g => by
    simp only [goodAll] at g
    have h1 := good_show t g.1
    have h2 := good_showAll ts g.2
    simp only [PyData.showableAll, PyData.hasDictAll, PyData.depthAll, hgtAll, h1.1, h1.2.1, h2.1, h2.2.1]
    exact ⟨rfl, rfl, by omega⟩
end
theorem Wd_mono : ∀ {m n : Nat}, m ≤ n → Wd m ≤ Wd n := by
  intro m n h
  induction n with
  | zero => have : m = 0 := by omega
            subst this; exact Nat.le_refl _
  | succ n ih =>
    by_cases e : m = n + 1
    · subst e; exact Nat.le_refl _
    · have := ih (by omega)
      simp only [Wd]; omega
theorem Wc_mono : ∀ {m n : Nat}, m ≤ n → Wc m ≤ Wc n := by
  intro m n h
  induction n with
  | zero => have : m = 0 := by omega
            subst this; exact Nat.le_refl _
  | succ n ih =>
    by_cases e : m = n + 1
    · subst e; exact Nat.le_refl _
    · have := ih (by omega)
      simp only [Wc]; omega
theorem boot_min' : bootBuiltins "min" = some (.builtin "min") := by decide +kernel
theorem boot_repr' : bootBuiltins "repr" = some (.builtin "repr") := by decide +kernel
section
variable {P : Program} {w : World} {K : PySem.W.Frag} {mg : Str → Option Value} {base : Heap}
theorem scLaw : FnScope ["_law_script", "_law_pen_here", "_law_turn", "_law_tree", "_law_text", "_law_kept"] ["_law_script"] (defScope sLaw) := ⟨rfl, rfl, rfl, by decide +kernel, rfl, by decide +kernel, by decide +kernel⟩
/-- a def of the top, called by its name -/
structure Df (P : Program) (w : World) (K : PySem.W.Frag) (mg : Str → Option Value) (bs : Heap) (k : Nat) (x : Str) (ps : List Str) (sp : Sp) : Prop where
  ex : ∃ (f : Addr) (fd : FuncData), mg x = some (.ref f) ∧ PySem.W.keepIn K (.ref f) = true ∧ Binds K fd ps [] ∧ FnOk P w K mg bs CX0 k f fd ps sp
theorem law_body {f : Addr} {cdv : Value} {s : Shared} {H : Hp} {a : Addr} {ns : List Int} (B : Bn mg)
    (DPen : Df P w K mg base 1 "_law_pen" ["_law_script"] (spPen K)) (DPick : Df P w K mg base 2 "_law_pick" ["_law_pen_here", "_law_items"] spPick) (DWide : Df P w K mg base 9 "_law_wide" ["_law_pen_here", "_law_deep"] (spWide K 5))
    (DWrap : Df P w K mg base 3 "_law_wrapped" ["_law_pen_here", "_law_tree", "_law_many"] (spWrap K)) (DWr : Df P w K mg base 31 "_law_written" ["_law_tree"] (spWT K 30)) (DWT : Df P w K mg base 31 "write_tree" ["tree"] (spWT K 30))
    (DRT : Df P w K mg base 65 "read_tree" ["text"] (spRT K)) (h63 : ns.length ≤ 63) (hS : SqL K H a (ns.map V.int)) (hr : Room 65 (callerA.deeper (PyProof.Rows.envOfC "law" (defScope sLaw) s.heap.objs.size f cdv))) :
    ∃ t, PSs (cxOf CX0 P w K mg base ["_law_script", "_law_pen_here", "_law_turn", "_law_tree", "_law_text", "_law_kept"] "law" (defScope sLaw) f cdv callerA [] s H E0).nox (defBody sLaw) t ∧
      t { nx := fun _ _ => False, rt := fun v _ => v = .bl true } (L2.start ["_law_script", "_law_pen_here", "_law_turn", "_law_tree", "_law_text", "_law_kept"] [.ref a]) H := by
  obtain ⟨f1, fd1, m1, k1, b1, G1⟩ := DPen.ex
  obtain ⟨f2, fd2, m2, k2, b2, G2⟩ := DPick.ex
  obtain ⟨f3, fd3, m3, k3, b3, G3⟩ := DWide.ex
  obtain ⟨f4, fd4, m4, k4, b4, G4⟩ := DWrap.ex
  obtain ⟨f5, fd5, m5, k5, b5, G5⟩ := DWr.ex
  obtain ⟨f6, fd6, m6, k6, b6, G6⟩ := DWT.ex
  obtain ⟨f7, fd7, m7, k7, b7, G7⟩ := DRT.ex
  have hu31 : (callerA.deeper (PyProof.Rows.envOfC "law" (defScope sLaw) s.heap.objs.size f cdv)).units + (30 + 1) < cLine := Nat.lt_of_le_of_lt (Nat.add_le_add_left (by decide) _) hr.units
  have r1 : Room 1 _ := hr.mono (by decide)
  have r2 : Room 2 _ := hr.mono (by decide)
  have r3 : Room 3 _ := hr.mono (by decide)
  have r9 : Room 9 _ := hr.mono (by decide)
  have r31 : Room 31 _ := hr.mono (by decide)
  refine ⟨_, pss_cons (ps_set (i := 1) scLaw.nd rfl (Or.inl rfl) (pe_call G1 r1 rfl m1 k1 b1 .nil pass0 (pa_cons (pv 0) pa_nil)))
    (pss_cons (ps_for PassesOwn.never rfl (pi_range1 (by rfl) B.range (pa_cons (pe_op op_add pe_int (pe_callB (call_min2 rfl) (by rfl) B.min boot_min' (pa_cons pe_int (pa_cons (pe_callB call_len (by rfl) B.len PySem.boot_len (pa_cons (pv 0) pa_nil)) pa_nil)))) pa_nil)) (pg_name (i := 2) scLaw.nd rfl (Or.inl rfl))
      (pss_cons (ps_set (i := 3) scLaw.nd rfl (Or.inl rfl) (pe_call G3 r9 rfl m3 k3 b3 .nil pass0 (pa_cons (pv 1) (pa_cons (pe_call G2 r2 rfl m2 k2 b2 .nil pass0 (pa_cons (pv 1) (pa_cons (pe_lst (pa_cons pe_int (pa_cons pe_int (pa_cons pe_int (pa_cons pe_int pa_nil))))) pa_nil))) pa_nil))))
      (pss_cons (ps_set (i := 3) scLaw.nd rfl (Or.inl rfl) (pe_call G4 r3 rfl m4 k4 b4 .nil pass0 (pa_cons (pv 1) (pa_cons (pv 3) (pa_cons (pe_call G2 r2 rfl m2 k2 b2 .nil pass0 (pa_cons (pv 1) (pa_cons (pe_lst (pa_cons pe_int (pa_cons pe_int (pa_cons pe_int (pa_cons pe_int pa_nil))))) pa_nil))) pa_nil)))))
      (pss_cons (ps_par (i := 4) (j := 5) (by rfl) scLaw.nd rfl rfl (by decide) rfl rfl (pa_cons (pe_call G5 r31 rfl m5 k5 b5 .nil pass0 (pa_cons (pv 3) pa_nil)) (pa_cons (pe_callB (call_reprD (n := 30) (by rfl) hu31) (by rfl) B.repr boot_repr' (pa_cons (pv 3) pa_nil)) pa_nil)) (by rfl))
      (pss_cons (ps_if (PW.pt (pw_or (pt_cmpR op_ne (pe_call G6 r31 rfl m6 k6 b6 .nil pass0 (pa_cons (pv 3) pa_nil)) (pv 4) (nomark _))
          (pw_or (pt_cmpR op_ne (pe_callB (call_reprD (n := 30) (by rfl) hu31) (by rfl) B.repr boot_repr' (pa_cons (pe_call G7 hr rfl m7 k7 b7 .nil pass0 (pa_cons (pv 4) pa_nil)) pa_nil)) (pv 5) (nomark _))
          (pw_or1 (pt_cmpR op_ne (pe_callB (call_reprD (n := 30) (by rfl) hu31) (by rfl) B.repr boot_repr' (pa_cons (pv 3) pa_nil)) (pv 5) (nomark _)))))) (pss_one (ps_ret pe_bl)) pss_nil)
      (pss_one (ps_if (pt_cmpR op_ne (pe_call G6 r31 rfl m6 k6 b6 .nil pass0 (pa_cons (pe_call G7 hr rfl m7 k7 b7 .nil pass0 (pa_cons (pv 4) pa_nil)) pa_nil)) (pv 4) (nomark _)) (pss_one (ps_ret pe_bl)) pss_nil)))))))
    (pss_one (ps_ret pe_bl))), ?_⟩
  refine ⟨_, rfl, a, ns, rfl, hS, h63, fun d c H1 sm1 p1 => ?_⟩
  have hS1 := sm1.seq hS
  -- the number of turns
  refine ⟨_, rfl, _, _, rfl, .inl ⟨_, hS1, rfl⟩, _, _, rfl, _, _, rfl, rfl, _, rfl, ?_, ?_, ?_⟩
  · split <;> omega
  · split <;> omega
  generalize hN : (6 + (if (((ns.map V.int).length : Nat) : Int) < 20 then (((ns.map V.int).length : Nat) : Int) else 20)).toNat = N
  have hN26 : N ≤ 26 := by rw [← hN]; split <;> omega
  have e4 : Wd 4 = 15856 := by decide
  have c4 : Wc 4 = 341 := by decide
  refine for_it (walk_range (lo := 0) (n := N)) (fun i σ H' => ∃ a' r' y2 y3 y4 y5, σ = [some (.ref a), some (.ref d), y2, y3, y4, y5] ∧ a' ≤ i * 16000 ∧ PenAt H' d c ns a' r')
    ⟨0, 0, none, none, none, none, rfl, by omega, p1⟩ (fun _ _ _ _ _ => trivial) ?_ ?_
  · rintro i x σ H2 H3 hi ⟨a2, r2', y2, y3, y4, y5, rfl, ha2, p2⟩ ⟨rfl, rfl⟩
    have hi25 : i ≤ 25 := by omega
    -- _law_wide(pen, _law_pick(pen, [0, 1, 3, 4]))
    refine ⟨_, rfl, _, rfl, by show 4 ≤ sizeLine; decide, fun l1 hl1 => ?_⟩
    have s1 := same_new hl1 (.lst [.int 0, .int 1, .int 3, .int 4])
    refine ⟨d, c, ns, a2, r2', _, rfl, pen_same p2 s1, by omega, .inr ⟨l1, _, rfl, upd_same, by simp, by show 4 ≤ 1000; decide, fun x hx a3 r3' H4 ha3 b4 p4 => ?_⟩⟩
    have hxn : ∃ n : Nat, x = .int (n : Int) ∧ n ≤ 4 := by
      simp only [List.mem_cons, List.not_mem_nil, or_false] at hx
      rcases hx with rfl | rfl | rfl | rfl
      · exact ⟨0, rfl, by decide⟩
      · exact ⟨1, rfl, by decide⟩
      · exact ⟨3, rfl, by decide⟩
      · exact ⟨4, rfl, by decide⟩
    obtain ⟨n, rfl, hn⟩ := hxn
    have wd := Wd_mono hn
    have wc := Wc_mono hn
    refine ⟨d, c, ns, a3, r3', n, rfl, by omega, p4, by omega, fun v t a5 r5 H5 hv hg hl hh hc ha5 b5 p5 => ?_⟩
    -- _law_wrapped(pen, tree, _law_pick(pen, [0, 0, 3, 25]))
    refine ⟨_, rfl, _, rfl, _, rfl, by show 4 ≤ sizeLine; decide, fun l2 hl2 => ?_⟩
    have s2 := same_new hl2 (.lst [.int 0, .int 0, .int 3, .int 25])
    refine ⟨d, c, ns, a5, r5, _, rfl, pen_same p5 s2, by omega, .inr ⟨l2, _, rfl, upd_same, by simp, by show 4 ≤ 1000; decide, fun x hx a6 r6 H6 ha6 b6 p6 => ?_⟩⟩
    have hxn : ∃ k : Nat, x = .int (k : Int) ∧ k ≤ 25 := by
      simp only [List.mem_cons, List.not_mem_nil, or_false] at hx
      rcases hx with rfl | rfl | rfl | rfl
      · exact ⟨0, rfl, by decide⟩
      · exact ⟨0, rfl, by decide⟩
      · exact ⟨3, rfl, by decide⟩
      · exact ⟨25, rfl, by decide⟩
    obtain ⟨k, rfl, hk⟩ := hxn
    have hv6 : Dp K H6 v t := dp_sb b6 (pen_same p5 s2).noT (pen_same p5 s2).noF t v hg (dp_same s2 t v hv)
    refine ⟨d, c, ns, a6, r6, v, t, k, rfl, hk, p6, by omega, hv6, hg, hl, fun v' t' a7 r7 H7 hv' hg' hl' hh' hc' ha7 b7 p7 => ?_⟩
    have hh30 : hgt t' ≤ 30 := by omega
    have hcn : cnt t' ≤ 416 := by omega
    have hbd := txt_bd t' hg' hl'
    have hsb := shown_bd t' hg' hl'
    obtain ⟨hs1, hs2, hs3⟩ := good_show t' hg'
    have hsz : t'.shown.length ≤ sizeLine := small (by omega)
    -- text, kept
    refine ⟨_, rfl, v', t', rfl, hv', hg', hh30, by omega, fun H8 sm8 => ?_⟩
    have hv8 := dp_same sm8 t' v' hv'
    refine ⟨_, rfl, v', t', rfl, hv8, hs1, hs2, by omega, hsz, _, _, rfl, ?_⟩
    -- write_tree(tree) != text
    refine ⟨_, rfl, v', t', rfl, hv8, hg', hh30, by omega, fun H9 sm9 => ?_⟩
    refine ⟨_, rfl, rfl, _, rfl, ?_⟩
    rw [decide_eq_true rfl]
    refine iteF ?_
    -- repr(read_tree(text)) != kept
    refine ⟨_, rfl, t', rfl, hg', by omega, hh30, by omega, fun H10 u sm10 hu => ?_⟩
    refine ⟨u, t', rfl, hu, hs1, hs2, by omega, hsz, _, rfl, rfl, _, rfl, ?_⟩
    rw [decide_eq_true rfl]
    refine iteF ?_
    have sm7 := (sm8.trans sm9).trans sm10
    refine ⟨_, rfl, v', t', rfl, dp_same sm7 t' v' hv', hs1, hs2, by omega, hsz, _, rfl, rfl, _, rfl, ?_⟩
    rw [decide_eq_true rfl]
    refine iteF ?_
    -- write_tree(read_tree(text)) != text
    refine ⟨_, rfl, t', rfl, hg', by omega, hh30, by omega, fun H11 u2 sm11 hu2 => ?_⟩
    refine ⟨u2, t', rfl, hu2, hg', hh30, by omega, fun H12 sm12 => ?_⟩
    refine ⟨_, rfl, rfl, _, rfl, ?_⟩
    rw [decide_eq_true rfl]
    refine iteF ?_
    exact ⟨a7, r7, _, _, _, _, rfl, by omega, pen_same p7 ((sm7.trans sm11).trans sm12)⟩
  · rintro σ H2 ⟨a2, r2', y2, y3, y4, y5, rfl, ha2, p2⟩
    rfl
end
end DS
set_option Elab.async false
set_option linter.all false
set_option maxRecDepth 100000
set_option maxHeartbeats 4000000
namespace DS
open PySem L2
theorem sgn_ofs : Str.ofString " !\"#$&'()*+,-./0123456789:;<=>?@ABCDEFGHIJKLMNOPQRSTUVWXYZ[\\]^_`abcdefghijklmnopqrstuvwxyz{|}~" = S sgnList := by decide +kernel
theorem dig_ofs : Str.ofString "0123456789" = S [48, 49, 50, 51, 52, 53, 54, 55, 56, 57] := by decide +kernel
theorem ofs_y : Str.ofString "y" = S [121] := by decide +kernel
theorem ofs_n : Str.ofString "n" = S [110] := by decide +kernel
theorem isStr_S {c : Nat} {z : Cs} {t : Tok} : (Value.str (S z) t).isStr (S [c]) = decide (z = [c]) := by
  show (S z == S [c]) = _
  by_cases h : z = [c]
  · subst h; rw [decide_eq_true rfl]; exact beq_self_eq_true _
  · rw [decide_eq_false h, beq_eq_false_iff_ne]; exact fun e => h (S_inj e)
theorem wtxt {K : PySem.W.Frag} {w : World} {mg : Str → Option Value} {dW tY tN : Addr} {h1 h2 : Int} {u1 u2 u3 u4 : Tok} {nW nY nN : Nat} {odY odN : Option Addr} {slY slN : Array (Option Value)} (mW : mg "WRITTEN" = some (.ref dW))
    (lW : K.lookup dW = some ⟨.type "dict", none, .dict #[⟨h1, .str (Str.ofString "y") u1, .ref tY⟩, ⟨h2, .str (Str.ofString "n") u2, .ref tN⟩] nW, #[]⟩)
    (lY : K.lookup tY = some ⟨.type "tuple", odY, .seq #[.str (Str.ofString "yes") u3, .bool true] nY, slY⟩) (lN : K.lookup tN = some ⟨.type "tuple", odN, .seq #[.str (Str.ofString "no") u4, .bool false] nN, slN⟩)
    (w1 : h1 = PyData.keyHash w.params (Str.ofString "y")) (w2 : h2 = PyData.keyHash w.params (Str.ofString "n")) (w3 : (dW == sysModules) = false) : WTxt K w mg dW tY tN := by
  have ns : ∀ c : Nat, PySem.W.nsIn K dW (S [c]) = if c = 121 then some (some (.ref tY)) else if c = 110 then some (some (.ref tN)) else some none := by
    intro c
    unfold PySem.W.nsIn
    rw [lW]
    show (match List.find? (fun e : DictEntry => e.key.isStr (S [c])) [⟨h1, .str (Str.ofString "y") u1, .ref tY⟩, ⟨h2, .str (Str.ofString "n") u2, .ref tN⟩] with
      | some e => some (some e.val)
      | none => if _ then none else some none) = _
    rw [ofs_y, ofs_n]
    simp only [List.find?, isStr_S]
    by_cases e1 : c = 121
    · subst e1; rfl
    · by_cases e2 : c = 110
      · subst e2; rfl
      · have q1 : decide (([121] : Cs) = [c]) = false := decide_eq_false (by simpa using fun e => e1 e.symm)
        have q2 : decide (([110] : Cs) = [c]) = false := decide_eq_false (by simpa using fun e => e2 e.symm)
        rw [q1, q2, if_neg e1, if_neg e2]
        rfl
  refine ⟨mW, ⟨_, nW, ⟨lW, ⟨⟨_, _, rfl, w1⟩, ⟨_, _, rfl, w2⟩, trivial⟩, w3⟩⟩, ns 121, ns 110, fun c h1 h2 => by rw [ns c, if_neg h1, if_neg h2], fun H => ?_, fun H => ?_⟩
  · refine .inr ⟨_, _, _, lY, rfl, rfl, by show 2 ≤ sizeLine; decide, ?_⟩
    rw [← ofs_yes]
    exact .cons ⟨_, rfl⟩ (.cons rfl .nil)
  · refine .inr ⟨_, _, _, lN, rfl, rfl, by show 2 ≤ sizeLine; decide, ?_⟩
    rw [← ofs_no]
    exact .cons ⟨_, rfl⟩ (.cons rfl .nil)

theorem all_mk {P : Program} {w : World} {K : PySem.W.Frag} {h : Heap} {mg : Str → Option Value} {fa C dW tY tN f1 f2 f3 f4 f5 f6 f7 f8 f9 f10 f11 f12 f13 f14 f15 f16 f17 f18 f19 f20 f21 f22 f23 f24 : Addr} (X : K.In h) (G : h.Ns mainGlobals mg) (hfa : mg "law" = some (.ref fa))
    {od1 an1 od2 an2 od3 an3 od4 an4 od5 an5 od6 an6 od7 an7 od8 an8 od9 an9 od10 an10 od11 an11 od12 an12 od13 an13 od14 an14 od15 an15 od16 an16 od17 an17 od18 an18 od19 an19 od20 an20 od21 an21 od22 an22 od23 an23 od24 an24 odY odN : Option Addr} {sl1 sl2 sl3 sl4 sl5 sl6 sl7 sl8 sl9 sl10 sl11 sl12 sl13 sl14 sl15 sl16 sl17 sl18 sl19 sl20 sl21 sl22 sl23 sl24 slY slN : Array (Option Value)} {oc1 kV1 dc1 pm1 cd1 ct1 oc2 kV2 dc2 pm2 cd2 ct2 oc3 kV3 dc3 pm3 cd3 ct3 oc4 kV4 dc4 pm4 cd4 ct4 oc5 kV5 dc5 pm5 cd5 ct5 oc6 kV6 dc6 pm6 cd6 ct6 oc7 kV7 dc7 pm7 cd7 ct7 oc8 kV8 dc8 pm8 cd8 ct8 oc9 kV9 dc9 pm9 cd9 ct9 oc10 kV10 dc10 pm10 cd10 ct10 oc11 kV11 dc11 pm11 cd11 ct11 oc12 kV12 dc12 pm12 cd12 ct12 oc13 kV13 dc13 pm13 cd13 ct13 oc14 kV14 dc14 pm14 cd14 ct14 oc15 kV15 dc15 pm15 cd15 ct15 oc16 kV16 dc16 pm16 cd16 ct16 oc17 kV17 dc17 pm17 cd17 ct17 oc18 kV18 dc18 pm18 cd18 ct18 oc19 kV19 dc19 pm19 cd19 ct19 oc20 kV20 dc20 pm20 cd20 ct20 oc21 kV21 dc21 pm21 cd21 ct21 oc22 kV22 dc22 pm22 cd22 ct22 oc23 kV23 dc23 pm23 cd23 ct23 oc24 kV24 dc24 pm24 cd24 ct24 : Value} {t1 t2 t3 t4 t5 t6 u1 u2 u3 u4 : Tok} {h1 h2 : Int} {nW nY nN : Nat}
    (aC : PySem.W.nsIn K mainGlobals "Reader" = some (some (.ref C)))
    (a1 : PySem.W.nsIn K mainGlobals "write_string" = some (some (.ref f1)))
    (l1 : K.lookup f1 = some ⟨oc1, od1, .func (PySem.W.fnOf "write_string" "write_string" (defArgs sWS) (defBody sWS) (defScope sWS) .none kV1 dc1 pm1 an1 cd1 ct1), sl1⟩)
    (c1 : PySem.W.codeIn K cd1 "write_string" = true)
    (k1 : PySem.W.keepIn K (.ref f1) = true)
    (a2 : PySem.W.nsIn K mainGlobals "write_tree" = some (some (.ref f2)))
    (l2 : K.lookup f2 = some ⟨oc2, od2, .func (PySem.W.fnOf "write_tree" "write_tree" (defArgs sWT) (defBody sWT) (defScope sWT) .none kV2 dc2 pm2 an2 cd2 ct2), sl2⟩)
    (c2 : PySem.W.codeIn K cd2 "write_tree" = true)
    (k2 : PySem.W.keepIn K (.ref f2) = true)
    (a3 : PySem.W.nsIn K mainGlobals "read_with" = some (some (.ref f3)))
    (l3 : K.lookup f3 = some ⟨oc3, od3, .func (PySem.W.fnOf "read_with" "read_with" (defArgs sRW) (defBody sRW) (defScope sRW) .none kV3 dc3 pm3 an3 cd3 ct3), sl3⟩)
    (c3 : PySem.W.codeIn K cd3 "read_with" = true)
    (k3 : PySem.W.keepIn K (.ref f3) = true)
    (a4 : PySem.W.nsIn K mainGlobals "read_tree" = some (some (.ref f4)))
    (l4 : K.lookup f4 = some ⟨oc4, od4, .func (PySem.W.fnOf "read_tree" "read_tree" (defArgs sRT) (defBody sRT) (defScope sRT) .none kV4 dc4 pm4 an4 cd4 ct4), sl4⟩)
    (c4 : PySem.W.codeIn K cd4 "read_tree" = true)
    (k4 : PySem.W.keepIn K (.ref f4) = true)
    (a5 : PySem.W.nsIn K mainGlobals "_law_string" = some (some (.ref f5)))
    (l5 : K.lookup f5 = some ⟨oc5, od5, .func (PySem.W.fnOf "_law_string" "_law_string" (defArgs sString) (defBody sString) (defScope sString) .none kV5 dc5 pm5 an5 cd5 ct5), sl5⟩)
    (c5 : PySem.W.codeIn K cd5 "_law_string" = true)
    (k5 : PySem.W.keepIn K (.ref f5) = true)
    (a6 : PySem.W.nsIn K mainGlobals "_law_single" = some (some (.ref f6)))
    (l6 : K.lookup f6 = some ⟨oc6, od6, .func (PySem.W.fnOf "_law_single" "_law_single" (defArgs sSingle) (defBody sSingle) (defScope sSingle) .none kV6 dc6 pm6 an6 cd6 ct6), sl6⟩)
    (c6 : PySem.W.codeIn K cd6 "_law_single" = true)
    (k6 : PySem.W.keepIn K (.ref f6) = true)
    (a7 : PySem.W.nsIn K mainGlobals "_law_wide" = some (some (.ref f7)))
    (l7 : K.lookup f7 = some ⟨oc7, od7, .func (PySem.W.fnOf "_law_wide" "_law_wide" (defArgs sWide) (defBody sWide) (defScope sWide) .none kV7 dc7 pm7 an7 cd7 ct7), sl7⟩)
    (c7 : PySem.W.codeIn K cd7 "_law_wide" = true)
    (k7 : PySem.W.keepIn K (.ref f7) = true)
    (a8 : PySem.W.nsIn K mainGlobals "_law_wrapped" = some (some (.ref f8)))
    (l8 : K.lookup f8 = some ⟨oc8, od8, .func (PySem.W.fnOf "_law_wrapped" "_law_wrapped" (defArgs sWrap) (defBody sWrap) (defScope sWrap) .none kV8 dc8 pm8 an8 cd8 ct8), sl8⟩)
    (c8 : PySem.W.codeIn K cd8 "_law_wrapped" = true)
    (k8 : PySem.W.keepIn K (.ref f8) = true)
    (a9 : PySem.W.nsIn K mainGlobals "_law_written" = some (some (.ref f9)))
    (l9 : K.lookup f9 = some ⟨oc9, od9, .func (PySem.W.fnOf "_law_written" "_law_written" (defArgs sWritten) (defBody sWritten) (defScope sWritten) .none kV9 dc9 pm9 an9 cd9 ct9), sl9⟩)
    (c9 : PySem.W.codeIn K cd9 "_law_written" = true)
    (k9 : PySem.W.keepIn K (.ref f9) = true)
    (a10 : PySem.W.nsIn K mainGlobals "_law_pen" = some (some (.ref f10)))
    (l10 : K.lookup f10 = some ⟨oc10, od10, .func (PySem.W.fnOf "_law_pen" "_law_pen" (defArgs sPen) (defBody sPen) (defScope sPen) .none kV10 dc10 pm10 an10 cd10 ct10), sl10⟩)
    (c10 : PySem.W.codeIn K cd10 "_law_pen" = true)
    (k10 : PySem.W.keepIn K (.ref f10) = true)
    (a11 : PySem.W.nsIn K mainGlobals "_law_draw" = some (some (.ref f11)))
    (l11 : K.lookup f11 = some ⟨oc11, od11, .func (PySem.W.fnOf "_law_draw" "_law_draw" (defArgs sDraw) (defBody sDraw) (defScope sDraw) .none kV11 dc11 pm11 an11 cd11 ct11), sl11⟩)
    (c11 : PySem.W.codeIn K cd11 "_law_draw" = true)
    (k11 : PySem.W.keepIn K (.ref f11) = true)
    (a12 : PySem.W.nsIn K mainGlobals "_law_pick" = some (some (.ref f12)))
    (l12 : K.lookup f12 = some ⟨oc12, od12, .func (PySem.W.fnOf "_law_pick" "_law_pick" (defArgs sPick) (defBody sPick) (defScope sPick) .none kV12 dc12 pm12 an12 cd12 ct12), sl12⟩)
    (c12 : PySem.W.codeIn K cd12 "_law_pick" = true)
    (k12 : PySem.W.keepIn K (.ref f12) = true)
    (a13 : PySem.W.nsIn K mainGlobals "law" = some (some (.ref f13)))
    (l13 : K.lookup f13 = some ⟨oc13, od13, .func (PySem.W.fnOf "law" "law" (defArgs sLaw) (defBody sLaw) (defScope sLaw) .none kV13 dc13 pm13 an13 cd13 ct13), sl13⟩)
    (c13 : PySem.W.codeIn K cd13 "law" = true)
    (k13 : PySem.W.keepIn K (.ref f13) = true)
    (a14 : PySem.W.findIn K (.ref C) "__init__" = some (some (.ref f14)))
    (i14 : PySem.W.isFn K (.ref f14) = true)
    (l14 : K.lookup f14 = some ⟨oc14, od14, .func (PySem.W.fnOf "__init__" "Reader.__init__" (defArgs (rdS 0)) (defBody (rdS 0)) (defScope (rdS 0)) .none kV14 dc14 pm14 an14 cd14 ct14), sl14⟩)
    (c14 : PySem.W.codeIn K cd14 "Reader.__init__" = true)
    (k14 : PySem.W.keepIn K (.ref f14) = true)
    (a15 : PySem.W.findIn K (.ref C) "sign" = some (some (.ref f15)))
    (i15 : PySem.W.isFn K (.ref f15) = true)
    (l15 : K.lookup f15 = some ⟨oc15, od15, .func (PySem.W.fnOf "sign" "Reader.sign" (defArgs (rdS 1)) (defBody (rdS 1)) (defScope (rdS 1)) .none kV15 dc15 pm15 an15 cd15 ct15), sl15⟩)
    (c15 : PySem.W.codeIn K cd15 "Reader.sign" = true)
    (k15 : PySem.W.keepIn K (.ref f15) = true)
    (a16 : PySem.W.findIn K (.ref C) "need" = some (some (.ref f16)))
    (i16 : PySem.W.isFn K (.ref f16) = true)
    (l16 : K.lookup f16 = some ⟨oc16, od16, .func (PySem.W.fnOf "need" "Reader.need" (defArgs (rdS 2)) (defBody (rdS 2)) (defScope (rdS 2)) .none kV16 dc16 pm16 an16 cd16 ct16), sl16⟩)
    (c16 : PySem.W.codeIn K cd16 "Reader.need" = true)
    (k16 : PySem.W.keepIn K (.ref f16) = true)
    (a17 : PySem.W.findIn K (.ref C) "has_room" = some (some (.ref f17)))
    (i17 : PySem.W.isFn K (.ref f17) = true)
    (l17 : K.lookup f17 = some ⟨oc17, od17, .func (PySem.W.fnOf "has_room" "Reader.has_room" (defArgs (rdS 3)) (defBody (rdS 3)) (defScope (rdS 3)) .none kV17 dc17 pm17 an17 cd17 ct17), sl17⟩)
    (c17 : PySem.W.codeIn K cd17 "Reader.has_room" = true)
    (k17 : PySem.W.keepIn K (.ref f17) = true)
    (a18 : PySem.W.findIn K (.ref C) "step" = some (some (.ref f18)))
    (i18 : PySem.W.isFn K (.ref f18) = true)
    (l18 : K.lookup f18 = some ⟨oc18, od18, .func (PySem.W.fnOf "step" "Reader.step" (defArgs (rdS 4)) (defBody (rdS 4)) (defScope (rdS 4)) .none kV18 dc18 pm18 an18 cd18 ct18), sl18⟩)
    (c18 : PySem.W.codeIn K cd18 "Reader.step" = true)
    (k18 : PySem.W.keepIn K (.ref f18) = true)
    (a19 : PySem.W.findIn K (.ref C) "read" = some (some (.ref f19)))
    (i19 : PySem.W.isFn K (.ref f19) = true)
    (l19 : K.lookup f19 = some ⟨oc19, od19, .func (PySem.W.fnOf "read" "Reader.read" (defArgs (rdS 5)) (defBody (rdS 5)) (defScope (rdS 5)) .none kV19 dc19 pm19 an19 cd19 ct19), sl19⟩)
    (c19 : PySem.W.codeIn K cd19 "Reader.read" = true)
    (k19 : PySem.W.keepIn K (.ref f19) = true)
    (a20 : PySem.W.findIn K (.ref C) "read_tuple" = some (some (.ref f20)))
    (i20 : PySem.W.isFn K (.ref f20) = true)
    (l20 : K.lookup f20 = some ⟨oc20, od20, .func (PySem.W.fnOf "read_tuple" "Reader.read_tuple" (defArgs (rdS 6)) (defBody (rdS 6)) (defScope (rdS 6)) .none kV20 dc20 pm20 an20 cd20 ct20), sl20⟩)
    (c20 : PySem.W.codeIn K cd20 "Reader.read_tuple" = true)
    (k20 : PySem.W.keepIn K (.ref f20) = true)
    (a21 : PySem.W.findIn K (.ref C) "read_string" = some (some (.ref f21)))
    (i21 : PySem.W.isFn K (.ref f21) = true)
    (l21 : K.lookup f21 = some ⟨oc21, od21, .func (PySem.W.fnOf "read_string" "Reader.read_string" (defArgs (rdS 7)) (defBody (rdS 7)) (defScope (rdS 7)) .none kV21 dc21 pm21 an21 cd21 ct21), sl21⟩)
    (c21 : PySem.W.codeIn K cd21 "Reader.read_string" = true)
    (k21 : PySem.W.keepIn K (.ref f21) = true)
    (a22 : PySem.W.findIn K (.ref C) "read_written" = some (some (.ref f22)))
    (i22 : PySem.W.isFn K (.ref f22) = true)
    (l22 : K.lookup f22 = some ⟨oc22, od22, .func (PySem.W.fnOf "read_written" "Reader.read_written" (defArgs (rdS 8)) (defBody (rdS 8)) (defScope (rdS 8)) .none kV22 dc22 pm22 an22 cd22 ct22), sl22⟩)
    (c22 : PySem.W.codeIn K cd22 "Reader.read_written" = true)
    (k22 : PySem.W.keepIn K (.ref f22) = true)
    (a23 : PySem.W.findIn K (.ref C) "read_number" = some (some (.ref f23)))
    (i23 : PySem.W.isFn K (.ref f23) = true)
    (l23 : K.lookup f23 = some ⟨oc23, od23, .func (PySem.W.fnOf "read_number" "Reader.read_number" (defArgs (rdS 9)) (defBody (rdS 9)) (defScope (rdS 9)) .none kV23 dc23 pm23 an23 cd23 ct23), sl23⟩)
    (c23 : PySem.W.codeIn K cd23 "Reader.read_number" = true)
    (k23 : PySem.W.keepIn K (.ref f23) = true)
    (a24 : PySem.W.findIn K (.ref C) "read_digits" = some (some (.ref f24)))
    (i24 : PySem.W.isFn K (.ref f24) = true)
    (l24 : K.lookup f24 = some ⟨oc24, od24, .func (PySem.W.fnOf "read_digits" "Reader.read_digits" (defArgs (rdS 10)) (defBody (rdS 10)) (defScope (rdS 10)) .none kV24 dc24 pm24 an24 cd24 ct24), sl24⟩)
    (c24 : PySem.W.codeIn K cd24 "Reader.read_digits" = true)
    (k24 : PySem.W.keepIn K (.ref f24) = true)
    (pg : PySem.W.plainGet K C Str.empty = true)
    (hd : PySem.W.hasDictIn K C = true)
    (po : PySem.W.plainOver K C = true)
    (sa : PySem.W.findIn K (.ref C) "__setattr__" = some (some (.builtin "object.__setattr__")))
    (mk : PySem.W.makesIn K C = true)
    (kc : PySem.W.keepIn K (.ref C) = true)
    (nT : PySem.W.findIn K (.ref C) "text" = some none)
    (nA : PySem.W.findIn K (.ref C) "at" = some none)
    (nP : PySem.W.findIn K (.ref C) "parts" = some none)
    (nB : PySem.W.findIn K (.ref C) "is_bounded" = some none)
    (g1 : PySem.W.nsIn K mainGlobals "MAX_PARTS" = some (some (.int 2000 t1)))
    (g2 : PySem.W.nsIn K mainGlobals "MAX_DEPTH" = some (some (.int 30 t2)))
    (g3 : PySem.W.nsIn K mainGlobals "MORE_DEPTH" = some (some (.int 4 t3)))
    (g4 : PySem.W.nsIn K mainGlobals "MAX_DIGITS" = some (some (.int 100 t4)))
    (g5 : PySem.W.nsIn K mainGlobals "DIGITS" = some (some (.str (Str.ofString "0123456789") t5)))
    (g6 : PySem.W.nsIn K mainGlobals "SIGNS" = some (some (.str (Str.ofString " !\"#$&'()*+,-./0123456789:;<=>?@ABCDEFGHIJKLMNOPQRSTUVWXYZ[\\]^_`abcdefghijklmnopqrstuvwxyz{|}~") t6)))
    (aW : PySem.W.nsIn K mainGlobals "WRITTEN" = some (some (.ref dW)))
    (lW : K.lookup dW = some ⟨.type "dict", none, .dict #[⟨h1, .str (Str.ofString "y") u1, .ref tY⟩, ⟨h2, .str (Str.ofString "n") u2, .ref tN⟩] nW, #[]⟩)
    (lY : K.lookup tY = some ⟨.type "tuple", odY, .seq #[.str (Str.ofString "yes") u3, .bool true] nY, slY⟩)
    (lN : K.lookup tN = some ⟨.type "tuple", odN, .seq #[.str (Str.ofString "no") u4, .bool false] nN, slN⟩)
    (w1 : h1 = PyData.keyHash w.params (Str.ofString "y"))
    (w2 : h2 = PyData.keyHash w.params (Str.ofString "n"))
    (w3 : (dW == sysModules) = false)
    (z1 : PySem.W.nsIn K mainGlobals "isinstance" = some none)
    (z2 : PySem.W.nsIn K mainGlobals "tuple" = some none)
    (z3 : PySem.W.nsIn K mainGlobals "str" = some none)
    (z4 : PySem.W.nsIn K mainGlobals "bool" = some none)
    (z5 : PySem.W.nsIn K mainGlobals "len" = some none)
    (z6 : PySem.W.nsIn K mainGlobals "int" = some none)
    (z7 : PySem.W.nsIn K mainGlobals "range" = some none)
    (z8 : PySem.W.nsIn K mainGlobals "repr" = some none)
    (z9 : PySem.W.nsIn K mainGlobals "list" = some none)
    (z10 : PySem.W.nsIn K mainGlobals "abs" = some none)
    (z11 : PySem.W.nsIn K mainGlobals "min" = some none) :
    ∃ fd : FuncData, Fun K "law" "law" sLaw fa fd ∧ (∀ (s : Shared) (u : Value), BindsTo s fd ⟨[u], []⟩ [("_law_script", u)]) ∧
      ∀ (bs : Heap) (s : Shared) (H : Hp) (cdv : Value) (a : Addr) (ns : List Int), K.In bs → bs.Ns mainGlobals mg → ns.length ≤ 63 → SqL K H a (ns.map V.int) → Room 65 (callerA.deeper (PyProof.Rows.envOfC "law" (defScope sLaw) s.heap.objs.size fa cdv)) →
        ∃ t, PSs (cxOf CX0 P w K mg bs ["_law_script", "_law_pen_here", "_law_turn", "_law_tree", "_law_text", "_law_kept"] "law" (defScope sLaw) fa cdv callerA [] s H E0).nox (defBody sLaw) t ∧
          t { nx := fun _ _ => False, rt := fun v _ => v = .bl true } (L2.start ["_law_script", "_law_pen_here", "_law_turn", "_law_tree", "_law_text", "_law_kept"] [.ref a]) H := by
  have e := hfa.symm.trans (PySem.W.mg_of X G a13)
  cases e
  have B : Bn mg := ⟨PySem.W.mg_none_of X G z1, PySem.W.mg_none_of X G z2, PySem.W.mg_none_of X G z3, PySem.W.mg_none_of X G z4, PySem.W.mg_none_of X G z5, PySem.W.mg_none_of X G z6, PySem.W.mg_none_of X G z7, PySem.W.mg_none_of X G z8, PySem.W.mg_none_of X G z9, PySem.W.mg_none_of X G z10, PySem.W.mg_none_of X G z11⟩
  have T : RTxt K mg C := ⟨⟨pg, hd, po, sa⟩, nT, nA, nP, nB, PySem.W.mg_of X G aC, ⟨t1, PySem.W.mg_of X G g1⟩, ⟨t2, PySem.W.mg_of X G g2⟩, ⟨t3, PySem.W.mg_of X G g3⟩, ⟨t4, PySem.W.mg_of X G g4⟩, ⟨t5, by rw [← dig_ofs]; exact PySem.W.mg_of X G g5⟩, ⟨t6, by rw [← sgn_ofs]; exact PySem.W.mg_of X G g6⟩⟩
  have Wt : WTxt K w mg dW tY tN := wtxt (PySem.W.mg_of X G aW) lW lY lN w1 w2 w3
  have F1 := fun_mk (st := sWS) l1 c1 k1
  have b1 := F1.binds (ps := ["text"]) fun _ _ _ _ _ _ us hl => match us, hl with | [_], _ => rfl
  have m1 := PySem.W.mg_of X G a1
  have F2 := fun_mk (st := sWT) l2 c2 k2
  have b2 := F2.binds (ps := ["tree"]) fun _ _ _ _ _ _ us hl => match us, hl with | [_], _ => rfl
  have m2 := PySem.W.mg_of X G a2
  have F3 := fun_mk (st := sRW) l3 c3 k3
  have b3 := F3.binds (ps := ["text", "is_bounded"]) fun _ _ _ _ _ _ us hl => match us, hl with | [_, _], _ => rfl
  have m3 := PySem.W.mg_of X G a3
  have F4 := fun_mk (st := sRT) l4 c4 k4
  have b4 := F4.binds (ps := ["text"]) fun _ _ _ _ _ _ us hl => match us, hl with | [_], _ => rfl
  have m4 := PySem.W.mg_of X G a4
  have F5 := fun_mk (st := sString) l5 c5 k5
  have b5 := F5.binds (ps := ["_law_pen_here"]) fun _ _ _ _ _ _ us hl => match us, hl with | [_], _ => rfl
  have m5 := PySem.W.mg_of X G a5
  have F6 := fun_mk (st := sSingle) l6 c6 k6
  have b6 := F6.binds (ps := ["_law_pen_here"]) fun _ _ _ _ _ _ us hl => match us, hl with | [_], _ => rfl
  have m6 := PySem.W.mg_of X G a6
  have F7 := fun_mk (st := sWide) l7 c7 k7
  have b7 := F7.binds (ps := ["_law_pen_here", "_law_deep"]) fun _ _ _ _ _ _ us hl => match us, hl with | [_, _], _ => rfl
  have m7 := PySem.W.mg_of X G a7
  have F8 := fun_mk (st := sWrap) l8 c8 k8
  have b8 := F8.binds (ps := ["_law_pen_here", "_law_tree", "_law_many"]) fun _ _ _ _ _ _ us hl => match us, hl with | [_, _, _], _ => rfl
  have m8 := PySem.W.mg_of X G a8
  have F9 := fun_mk (st := sWritten) l9 c9 k9
  have b9 := F9.binds (ps := ["_law_tree"]) fun _ _ _ _ _ _ us hl => match us, hl with | [_], _ => rfl
  have m9 := PySem.W.mg_of X G a9
  have F10 := fun_mk (st := sPen) l10 c10 k10
  have b10 := F10.binds (ps := ["_law_script"]) fun _ _ _ _ _ _ us hl => match us, hl with | [_], _ => rfl
  have m10 := PySem.W.mg_of X G a10
  have F11 := fun_mk (st := sDraw) l11 c11 k11
  have b11 := F11.binds (ps := ["_law_pen_here", "_law_many"]) fun _ _ _ _ _ _ us hl => match us, hl with | [_, _], _ => rfl
  have m11 := PySem.W.mg_of X G a11
  have F12 := fun_mk (st := sPick) l12 c12 k12
  have b12 := F12.binds (ps := ["_law_pen_here", "_law_items"]) fun _ _ _ _ _ _ us hl => match us, hl with | [_, _], _ => rfl
  have m12 := PySem.W.mg_of X G a12
  have F13 := fun_mk (st := sLaw) l13 c13 k13
  have b13 := F13.binds (ps := ["_law_script"]) fun _ _ _ _ _ _ us hl => match us, hl with | [_], _ => rfl
  have m13 := PySem.W.mg_of X G a13
  have F14 := fun_mk (st := rdS 0) l14 c14 k14
  have b14 := F14.binds (ps := ["self", "text", "is_bounded"]) fun _ _ _ _ _ _ us hl => match us, hl with | [_, _, _], _ => rfl
  have F15 := fun_mk (st := rdS 1) l15 c15 k15
  have b15 := F15.binds (ps := ["self"]) fun _ _ _ _ _ _ us hl => match us, hl with | [_], _ => rfl
  have F16 := fun_mk (st := rdS 2) l16 c16 k16
  have b16 := F16.binds (ps := ["self", "fits"]) fun _ _ _ _ _ _ us hl => match us, hl with | [_, _], _ => rfl
  have F17 := fun_mk (st := rdS 3) l17 c17 k17
  have b17 := F17.binds (ps := ["self"]) fun _ _ _ _ _ _ us hl => match us, hl with | [_], _ => rfl
  have F18 := fun_mk (st := rdS 4) l18 c18 k18
  have b18 := F18.binds (ps := ["self"]) fun _ _ _ _ _ _ us hl => match us, hl with | [_], _ => rfl
  have F19 := fun_mk (st := rdS 5) l19 c19 k19
  have b19 := F19.binds (ps := ["self", "depth"]) fun _ _ _ _ _ _ us hl => match us, hl with | [_, _], _ => rfl
  have F20 := fun_mk (st := rdS 6) l20 c20 k20
  have b20 := F20.binds (ps := ["self", "depth"]) fun _ _ _ _ _ _ us hl => match us, hl with | [_, _], _ => rfl
  have F21 := fun_mk (st := rdS 7) l21 c21 k21
  have b21 := F21.binds (ps := ["self"]) fun _ _ _ _ _ _ us hl => match us, hl with | [_], _ => rfl
  have F22 := fun_mk (st := rdS 8) l22 c22 k22
  have b22 := F22.binds (ps := ["self", "sign"]) fun _ _ _ _ _ _ us hl => match us, hl with | [_, _], _ => rfl
  have F23 := fun_mk (st := rdS 9) l23 c23 k23
  have b23 := F23.binds (ps := ["self"]) fun _ _ _ _ _ _ us hl => match us, hl with | [_], _ => rfl
  have F24 := fun_mk (st := rdS 10) l24 c24 k24
  have b24 := F24.binds (ps := ["self"]) fun _ _ _ _ _ _ us hl => match us, hl with | [_], _ => rfl
  have M : Meths K C f15 f16 f17 f18 f19 f20 f21 f22 f23 f24 _ _ _ _ _ _ _ _ _ _ := ⟨⟨F15, ⟨a15, i15, k15⟩, b15⟩, ⟨F16, ⟨a16, i16, k16⟩, b16⟩, ⟨F17, ⟨a17, i17, k17⟩, b17⟩, ⟨F18, ⟨a18, i18, k18⟩, b18⟩, ⟨F19, ⟨a19, i19, k19⟩, b19⟩, ⟨F20, ⟨a20, i20, k20⟩, b20⟩, ⟨F21, ⟨a21, i21, k21⟩, b21⟩, ⟨F22, ⟨a22, i22, k22⟩, b22⟩, ⟨F23, ⟨a23, i23, k23⟩, b23⟩, ⟨F24, ⟨a24, i24, k24⟩, b24⟩⟩
  refine ⟨_, F13, fun s u => .of_eq rfl, fun bs s H cdv a ns _ _ h63 hS hr => ?_⟩
  have gDraw : FnOk P w K mg bs CX0 1 f11 _ ["_law_pen_here", "_law_many"] spDraw := ok_draw B F11
  have gPick : FnOk P w K mg bs CX0 2 f12 _ ["_law_pen_here", "_law_items"] spPick := ok_pick (k := 0) B F11 b11 m11 F12
  have gString : FnOk P w K mg bs CX0 3 f5 _ ["_law_pen_here"] spString := ok_string (k := 0) B F12 b12 m12 gPick F5
  have gSingle : FnOk P w K mg bs CX0 4 f6 _ ["_law_pen_here"] (spSingle K) := ok_single (k := 0) F12 b12 m12 gPick F11 b11 m11 gDraw F5 b5 m5 gString F6
  have gRW : FnOk P w K mg bs CX0 64 f3 _ ["text", "is_bounded"] (spRW K) := ok_rw B T Wt M ⟨mk, a14, i14, kc⟩ F14 b14 F3
  exact law_body B ⟨⟨f10, _, m10, k10, b10, ok_pen (k := 0) B F10⟩⟩ ⟨⟨f12, _, m12, k12, b12, gPick⟩⟩ ⟨⟨f7, _, m7, k7, b7, ok_wide B F11 b11 m11 gDraw F6 b6 m6 gSingle F7 b7 m7 5⟩⟩ ⟨⟨f8, _, m8, k8, b8, ok_wrap (k := 0) B F12 b12 m12 gPick F8⟩⟩ ⟨⟨f9, _, m9, k9, b9, ok_written B F9 m9 b9 30⟩⟩ ⟨⟨f2, _, m2, k2, b2, ok_wt B F2 m2 b2 F1 m1 b1 30⟩⟩ ⟨⟨f4, _, m4, k4, b4, ok_rt F3 b3 m3 gRW F4⟩⟩ h63 hS hr
end DS
open PySem PySem.W PyProof.Rows
set_option Elab.async false
set_option maxRecDepth 100000 in
set_option maxHeartbeats 0 in
theorem PySem.Challenge.cw_deedstore_k00_trees_written_and_read_holds : PySem.Challenge.rw_deedstore_k00_trees_written_and_read.Holds := by
  w_on; o_law; k_head; (case hw => w_witness2)
  k_fill
  refine DS.walk_at (l := PySem.Challenge.rw_deedstore_k00_trees_written_and_read) (st := DS.sLaw) (lv := 65) rfl rfl DS.scLaw ⟨rfl, by decide, by decide⟩ (fun w h Y => PySem.W.kIn_of Y) ?F
  case F =>
    intro w mg fa h KX G hmg
    refine' DS.all_mk KX G hmg ?aC ?a1 ?l1 ?c1 ?k1 ?a2 ?l2 ?c2 ?k2 ?a3 ?l3 ?c3 ?k3 ?a4 ?l4 ?c4 ?k4 ?a5 ?l5 ?c5 ?k5 ?a6 ?l6 ?c6 ?k6 ?a7 ?l7 ?c7 ?k7 ?a8 ?l8 ?c8 ?k8 ?a9 ?l9 ?c9 ?k9 ?a10 ?l10 ?c10 ?k10 ?a11 ?l11 ?c11 ?k11 ?a12 ?l12 ?c12 ?k12 ?a13 ?l13 ?c13 ?k13 ?a14 ?i14 ?l14 ?c14 ?k14 ?a15 ?i15 ?l15 ?c15 ?k15 ?a16 ?i16 ?l16 ?c16 ?k16 ?a17 ?i17 ?l17 ?c17 ?k17 ?a18 ?i18 ?l18 ?c18 ?k18 ?a19 ?i19 ?l19 ?c19 ?k19 ?a20 ?i20 ?l20 ?c20 ?k20 ?a21 ?i21 ?l21 ?c21 ?k21 ?a22 ?i22 ?l22 ?c22 ?k22 ?a23 ?i23 ?l23 ?c23 ?k23 ?a24 ?i24 ?l24 ?c24 ?k24 ?pg ?hd ?po ?sa ?mk ?kc ?nT ?nA ?nP ?nB ?g1 ?g2 ?g3 ?g4 ?g5 ?g6 ?aW ?lW ?lY ?lN ?w1 ?w2 ?w3 ?z1 ?z2 ?z3 ?z4 ?z5 ?z6 ?z7 ?z8 ?z9 ?z10 ?z11
    (case aC => k_is)
    (case a1 => k_is)
    (case l1 => k_is)
    (case c1 => k_is)
    (case k1 => k_is)
    (case a2 => k_is)
    (case l2 => k_is)
    (case c2 => k_is)
    (case k2 => k_is)
    (case a3 => k_is)
    (case l3 => k_is)
    (case c3 => k_is)
    (case k3 => k_is)
    (case a4 => k_is)
    (case l4 => k_is)
    (case c4 => k_is)
    (case k4 => k_is)
    (case a5 => k_is)
    (case l5 => k_is)
    (case c5 => k_is)
    (case k5 => k_is)
    (case a6 => k_is)
    (case l6 => k_is)
    (case c6 => k_is)
    (case k6 => k_is)
    (case a7 => k_is)
    (case l7 => k_is)
    (case c7 => k_is)
    (case k7 => k_is)
    (case a8 => k_is)
    (case l8 => k_is)
    (case c8 => k_is)
    (case k8 => k_is)
    (case a9 => k_is)
    (case l9 => k_is)
    (case c9 => k_is)
    (case k9 => k_is)
    (case a10 => k_is)
    (case l10 => k_is)
    (case c10 => k_is)
    (case k10 => k_is)
    (case a11 => k_is)
    (case l11 => k_is)
    (case c11 => k_is)
    (case k11 => k_is)
    (case a12 => k_is)
    (case l12 => k_is)
    (case c12 => k_is)
    (case k12 => k_is)
    (case a13 => k_is)
    (case l13 => k_is)
    (case c13 => k_is)
    (case k13 => k_is)
    (case a14 => k_is)
    (case i14 => k_is)
    (case l14 => k_is)
    (case c14 => k_is)
    (case k14 => k_is)
    (case a15 => k_is)
    (case i15 => k_is)
    (case l15 => k_is)
    (case c15 => k_is)
    (case k15 => k_is)
    (case a16 => k_is)
    (case i16 => k_is)
    (case l16 => k_is)
    (case c16 => k_is)
    (case k16 => k_is)
    (case a17 => k_is)
    (case i17 => k_is)
    (case l17 => k_is)
    (case c17 => k_is)
    (case k17 => k_is)
    (case a18 => k_is)
    (case i18 => k_is)
    (case l18 => k_is)
    (case c18 => k_is)
    (case k18 => k_is)
    (case a19 => k_is)
    (case i19 => k_is)
    (case l19 => k_is)
    (case c19 => k_is)
    (case k19 => k_is)
    (case a20 => k_is)
    (case i20 => k_is)
    (case l20 => k_is)
    (case c20 => k_is)
    (case k20 => k_is)
    (case a21 => k_is)
    (case i21 => k_is)
    (case l21 => k_is)
    (case c21 => k_is)
    (case k21 => k_is)
    (case a22 => k_is)
    (case i22 => k_is)
    (case l22 => k_is)
    (case c22 => k_is)
    (case k22 => k_is)
    (case a23 => k_is)
    (case i23 => k_is)
    (case l23 => k_is)
    (case c23 => k_is)
    (case k23 => k_is)
    (case a24 => k_is)
    (case i24 => k_is)
    (case l24 => k_is)
    (case c24 => k_is)
    (case k24 => k_is)
    (case pg => k_is)
    (case hd => k_is)
    (case po => k_is)
    (case sa => k_is)
    (case mk => k_is)
    (case kc => k_is)
    (case nT => k_is)
    (case nA => k_is)
    (case nP => k_is)
    (case nB => k_is)
    (case g1 => k_is)
    (case g2 => k_is)
    (case g3 => k_is)
    (case g4 => k_is)
    (case g5 => k_is)
    (case g6 => k_is)
    (case aW => k_is)
    (case lW => k_is)
    (case lY => k_is)
    (case lN => k_is)
    (case w1 => rfl)
    (case w2 => rfl)
    (case w3 => first | rfl | decide)
    (case z1 => k_is)
    (case z2 => k_is)
    (case z3 => k_is)
    (case z4 => k_is)
    (case z5 => k_is)
    (case z6 => k_is)
    (case z7 => k_is)
    (case z8 => k_is)
    (case z9 => k_is)
    (case z10 => k_is)
    (case z11 => k_is)
