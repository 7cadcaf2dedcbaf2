import PyProof.Rows.All
import Wide.All
import OpenK.AllK
import Wide.FinOn
import KE.KEqDat
import Lean
import PySem.Challenge.RW_sy0021_01
set_option Elab.async false
set_option genInjectivity false
set_option genSizeOf false
set_option linter.unusedVariables false
section
open PySem PyProof.Rows
namespace Mine
-- 10p_base
theorem byC {P : Prop} (h : (P → False) → False) : P := Classical.byContradiction h

/-- line and column at a place of a text, both from 1 on -/
noncomputable def lc (T : List Nat) : Nat → Nat × Nat
  | 0 => (1, 1)
  | i + 1 =>
    let p := lc T i
    match T[i]? with
    | some c =>
      if c = 10 ∨ c = 12 then (p.1 + 1, 1)
      else if c = 13 ∧ T[i + 1]? ≠ some 10 then (p.1 + 1, 1)
      else if c = 9 then (p.1, (p.2 - 1) / 8 * 8 + 8 + 1)
      else (p.1, p.2 + 1)
    | none => (p.1, p.2 + 1)

theorem lc_step0 {l c i l' c' : Nat} (h : 1 ≤ l ∧ 1 ≤ c ∧ l ≤ 1 + i ∧ c ≤ 1 + 16 * i) (h1 : l ≤ l') (h2 : l' ≤ l + 1) (h3 : 1 ≤ c') (h4 : c' ≤ c + 8) : 1 ≤ l' ∧ 1 ≤ c' ∧ l' ≤ 1 + (i + 1) ∧ c' ≤ 1 + 16 * (i + 1) :=
  ⟨Nat.le_trans h.1 h1, h3, Nat.le_trans h2 (Nat.add_le_add_right h.2.2.1 1), Nat.le_trans h4 (Nat.le_trans (Nat.add_le_add_right h.2.2.2 8) (Nat.add_le_add_left (show 8 ≤ 16 by decide) (1 + 16 * i)))⟩
theorem tab_le : ∀ c : Nat, (c - 1) / 8 * 8 + 8 + 1 ≤ c + 8 ∨ c = 0
  | 0 => .inr rfl
  | d + 1 => .inl (Nat.add_le_add_right (Nat.div_mul_le_self d 8) 9)
theorem lc_bound (T : List Nat) : ∀ i, 1 ≤ (lc T i).1 ∧ 1 ≤ (lc T i).2 ∧ (lc T i).1 ≤ 1 + i ∧ (lc T i).2 ≤ 1 + 16 * i
  | 0 => ⟨Nat.le_refl _, Nat.le_refl _, Nat.le_refl _, Nat.le_refl _⟩
  | i + 1 => by
    have h := lc_bound T i
    have hn : 1 ≤ (lc T i).2 + 8 := Nat.le_add_left 1 _
    have hc : 1 ≤ (lc T i).2 + 1 ∧ (lc T i).2 + 1 ≤ (lc T i).2 + 8 := ⟨Nat.le_add_left _ _, Nat.add_le_add_left (by decide) _⟩
    unfold lc
    dsimp only
    split
    · split
      · exact lc_step0 h (Nat.le_succ _) (Nat.le_refl _) (Nat.le_refl _) hn
      · split
        · exact lc_step0 h (Nat.le_succ _) (Nat.le_refl _) (Nat.le_refl _) hn
        · split
          · exact lc_step0 h (Nat.le_refl _) (Nat.le_succ _) (Nat.le_add_left _ _) ((tab_le _).resolve_right fun e => absurd (e ▸ h.2.1) (by decide))
          · exact lc_step0 h (Nat.le_refl _) (Nat.le_succ _) hc.1 hc.2
    · exact lc_step0 h (Nat.le_refl _) (Nat.le_succ _) hc.1 hc.2

/-- the sign as the program holds it: one sign, or the empty text -/
noncomputable def sgo : Option Nat → Str
  | some c => ⟨#[c]⟩
  | none => ⟨#[]⟩
noncomputable def amg (o : Option Nat) (l : List Nat) : Bool := match o with
  | some c => l.contains c
  | none => false

noncomputable def tx (T : List Nat) : Str := ⟨T.toArray⟩
theorem tx_len (T : List Nat) : (tx T).length = T.length := by simp [tx, Str.length]

theorem sgo_none_iff (o : Option Nat) : (sgo o == Str.ofString "") = o.isNone := by
  have e : Str.ofString "" = ⟨#[]⟩ := by decide +kernel
  rw [e]
  cases o with
  | none => decide
  | some c => 
    apply beq_eq_false_iff_ne.mpr
    intro h
    simp [sgo] at h

theorem item_tx {T : List Nat} {i : Int} {j : Nat} (h : i = (j : Int)) (hj : j < T.length) : Txt.item (tx T) i = sgo T[j]? := by
  subst h
  unfold Txt.item Txt.charAt seqIndex?
  have h2 : ¬ ((j : Int) < 0) := by omega
  have h3 : ((j : Int) < (T.toArray.size : Int)) := by simpa using hj
  simp [tx, sgo, hj, h2, Str.length]

theorem contains_sgo (y : Str) (o : Option Nat) (h : o ≠ none) : (!(Builtin.Str.occurrences y (sgo o) 0 y.length 1).isEmpty) = amg o y.cps.toList := by
  cases o with
  | none => exact absurd rfl h
  | some c =>
    show (!(Builtin.Str.occurrences y ⟨#[c]⟩ 0 y.length 1).isEmpty) = y.cps.toList.contains c
    rw [StrLaws.found_one]
    simp
noncomputable def SYM : List Nat := (Str.ofString "!#$%&*+./<=>?@\\^|-~:").cps.toList
noncomputable def symO : Option Nat → Bool
  | none => false
  | some c => SYM.contains c || (decide (127 < c) && !Txt.isalnum (sgo (some c)) && !Txt.isspace (sgo (some c)))
noncomputable def bareO : Option Nat → Bool
  | none => false
  | some c => decide (32 ≤ c) && decide (c ≠ 127)

theorem sgo_eq (o : Option Nat) (c : Nat) : (sgo o == ⟨#[c]⟩) = (o == some c) := by
  cases o with
  | none => simp [sgo]
  | some a => rw [Bool.eq_iff_iff]; simp [sgo]

-- 32p_step
theorem s_empty : Str.ofString "" = ⟨#[]⟩ := by decide +kernel
theorem s_nl : Str.ofString "\n" = ⟨#[10]⟩ := by decide +kernel
theorem s_cr : Str.ofString "\r" = ⟨#[13]⟩ := by decide +kernel
theorem s_tab : Str.ofString "\t" = ⟨#[9]⟩ := by decide +kernel
theorem s_ff : Str.ofString "\x0c" = ⟨#[12]⟩ := by decide +kernel
theorem l_nlff : (Str.ofString "\n\x0c").cps.toList = [10, 12] := by decide +kernel
theorem nlff_iff (o : Option Nat) (h : (sgo o != Str.ofString "") = true) : (Builtin.Str.occurrences (Str.ofString "\n\x0c") (sgo o) 0 (Str.ofString "\n\x0c").length 1).isEmpty = !(o == some 10 || o == some 12) := by
  have ho : o ≠ none := by
    intro e; subst e; rw [bne, sgo_none_iff] at h; simp at h
  have := contains_sgo (Str.ofString "\n\x0c") o ho
  rw [l_nlff] at this
  rw [← Bool.not_not (b := (Builtin.Str.occurrences _ _ _ _ _).isEmpty), this]
  cases o with
  | none => exact absurd rfl ho
  | some c => rw [Bool.eq_iff_iff]; simp [amg]
theorem nonempty_iff (o : Option Nat) : (sgo o != Str.ofString "") = o.isSome := by
  rw [bne, sgo_none_iff]; cases o <;> rfl
theorem lc_nl {T : List Nat} {i : Nat} (h : (!(T[i]? == some 10 || T[i]? == some 12)) = false) : lc T (i + 1) = ((lc T i).1 + 1, 1) := by
  rcases hc : T[i]? with _ | c
  · simp [hc] at h
  · have e1 : c = 10 ∨ c = 12 := by simp [hc] at h; omega
    simp only [lc, hc]
    rw [if_pos e1]
theorem lc_cr {T : List Nat} {i : Nat} (h : (T[i]? == some 13) = true) (h2 : (T[i + 1]? != some 10) = true) : lc T (i + 1) = ((lc T i).1 + 1, 1) := by
  have h := beq_iff_eq.mp h
  have h2 : T[i + 1]? ≠ some 10 := by simpa using h2
  simp only [lc, h]
  rw [if_neg (by decide), if_pos ⟨trivial, h2⟩]
theorem lc_tab {T : List Nat} {i : Nat} (h : (T[i]? == some 9) = true) : lc T (i + 1) = ((lc T i).1, ((lc T i).2 - 1) / 8 * 8 + 8 + 1) := by
  have h := beq_iff_eq.mp h
  simp only [lc, h]
  rw [if_neg (by decide), if_neg (fun h => absurd h.1 (by decide)), if_pos trivial]
theorem lc_more {T : List Nat} {i : Nat} (h1 : (!(T[i]? == some 10 || T[i]? == some 12)) = true) (h2 : (T[i]? == some 13) = true → (T[i + 1]? != some 10) = false) (h3 : (T[i]? == some 9) = false) : lc T (i + 1) = ((lc T i).1, (lc T i).2 + 1) := by
  rcases hc : T[i]? with _ | c
  · simp only [lc, hc]
  · simp only [hc] at h1 h2 h3
    have e1 : ¬ (c = 10 ∨ c = 12) := by simp at h1; omega
    have e2 : ¬ (c = 13 ∧ T[i + 1]? ≠ some 10) := by
      intro ⟨a, b⟩; simp [a] at h2; exact b h2
    have e3 : ¬ c = 9 := by simpa using h3
    simp only [lc, hc]
    rw [if_neg e1, if_neg e2, if_neg e3]
theorem none_of_ne {o : Option Nat} (h : (sgo o != Str.ofString "") = false) : o = none := by
  rw [nonempty_iff] at h
  cases o with
  | none => rfl
  | some c => cases h
theorem tab_eq {n : Nat} (h : 1 ≤ n) : ((n : Int) - 1).fdiv 8 * 8 + 8 + 1 = (((n - 1) / 8 * 8 + 8 + 1 : Nat) : Int) := by
  obtain ⟨d, rfl⟩ : ∃ d, n = d + 1 := ⟨n - 1, (Nat.sub_add_cancel h).symm⟩
  have e : (((d + 1 : Nat) : Int) - 1) = (d : Int) := Int.add_sub_cancel (d : Int) 1
  rw [Int.fdiv_eq_ediv_of_nonneg _ (by decide), e]
  rfl

-- 34p_slice
theorem slice_clip (x : Str) (i j : Int) (hj : 0 ≤ j) : Txt.slice x (some i) (some j) = Txt.slice x (some i) (some (min j x.length)) := by
  have e : Builtin.Str.strSliceIndices (some i) (some j) 1 x.length = Builtin.Str.strSliceIndices (some i) (some (min j x.length)) 1 x.length := by
    unfold Builtin.Str.strSliceIndices
    have h1 : ¬ j < 0 := Int.not_lt.mpr hj
    have h2 : ¬ min j (x.length : Int) < 0 := Int.not_lt.mpr (Int.le_min.mpr ⟨hj, Int.natCast_nonneg _⟩)
    have h3 : min (min j (x.length : Int)) (x.length : Int) = min j x.length := Int.min_eq_left (Int.min_le_right _ _)
    simp only [if_neg h1, if_neg h2, h3, if_pos (show (1 : Int) > 0 by decide)]
  unfold Txt.slice
  rw [e]
theorem slice_tx {T : List Nat} {i j : Nat} {zi zj : Int} (hi : zi = (i : Int)) (hj : zj = (j : Int)) (h1 : i ≤ T.length) (h2 : i ≤ j) : Txt.slice (tx T) (some zi) (some zj) = tx ((T.drop i).take (j - i)) := by
  subst hi hj
  rw [slice_clip _ _ _ (Int.natCast_nonneg _), tx_len]
  have hm : min (j : Int) (T.length : Int) = ((min j T.length : Nat) : Int) := by
    rcases Nat.le_total j T.length with h | h
    · rw [Nat.min_eq_left h, Int.min_eq_left (Int.ofNat_le.mpr h)]
    · rw [Nat.min_eq_right h, Int.min_eq_right (Int.ofNat_le.mpr h)]
  rw [hm]
  have h3 : i ≤ min j T.length := Nat.le_min.mpr ⟨h2, h1⟩
  have hc := slice_closes (x := tx T) (i := (i : Int)) (j := ((min j T.length : Nat) : Int)) ⟨Int.natCast_nonneg _, Int.ofNat_le.mpr h3, Int.ofNat_le.mpr (Nat.min_le_right _ _)⟩
  rw [beq_iff_eq.mp hc]
  unfold tx
  congr 1
  show ((T.drop i).take (((min j T.length : Nat) : Int) - (i : Int)).toNat).toArray = _
  congr 1
  rw [Int.toNat_sub]
  rcases Nat.le_total j T.length with h | h
  · rw [Nat.min_eq_left h]
  · rw [Nat.min_eq_right h, List.take_of_length_le (by rw [List.length_drop]; exact Nat.le_refl _), List.take_of_length_le (by rw [List.length_drop]; exact Nat.sub_le_sub_right h i)]
/-- the text goes on with these signs -/
noncomputable def startsB (T : List Nat) (i : Nat) (y : Str) : Bool := (T.drop i).take y.length == y.cps.toList
theorem starts_eq {T : List Nat} {i : Nat} {zi zj : Int} {y : Str} (hi : zi = (i : Int)) (hj : zj = ((i + y.length : Nat) : Int)) (h1 : i ≤ T.length) : (Txt.slice (tx T) (some zi) (some zj) == y) = startsB T i y := by
  rw [slice_tx hi hj h1 (by omega)]
  unfold startsB tx
  rw [show i + y.length - i = y.length by omega]
  rw [Bool.eq_iff_iff, beq_iff_eq, beq_iff_eq]
  obtain ⟨⟨l⟩⟩ := y
  simp

-- 36p_take
/-- where a run of these signs ends -/
noncomputable def takeEnd (T : List Nat) (l : List Nat) (i : Nat) : Nat := i + ((T.drop i).takeWhile fun c => l.contains c).length
theorem take_go {T l : List Nat} {i : Nat} (h : amg T[i]? l = true) : takeEnd T l (i + 1) = takeEnd T l i := by
  unfold takeEnd
  rcases hc : T[i]? with _ | c
  · rw [hc] at h; cases h
  · obtain ⟨hlt, he⟩ := List.getElem?_eq_some_iff.mp hc
    rw [hc] at h
    rw [List.drop_eq_getElem_cons hlt, he, List.takeWhile_cons]
    simp only [amg] at h
    rw [if_pos h, List.length_cons]
    omega
theorem take_stop {T l : List Nat} {i : Nat} (h : amg T[i]? l = false) : takeEnd T l i = i := by
  unfold takeEnd
  rcases hc : T[i]? with _ | c
  · rw [List.getElem?_eq_none_iff] at hc
    rw [List.drop_eq_nil_of_le hc]; rfl
  · obtain ⟨hlt, he⟩ := List.getElem?_eq_some_iff.mp hc
    rw [hc] at h
    rw [List.drop_eq_getElem_cons hlt, he, List.takeWhile_cons]
    simp only [amg] at h
    rw [if_neg (by rw [h]; decide)]
    rfl
theorem lt_of_amg {T l : List Nat} {i : Nat} (h : amg T[i]? l = true) : i < T.length := by
  rcases hc : T[i]? with _ | c
  · rw [hc] at h; cases h
  · exact (List.getElem?_eq_some_iff.mp hc).1
/-- the text between two places -/
noncomputable def cut (T : List Nat) (i j : Nat) : List Nat := (T.drop i).take (j - i)
theorem amg_of {o : Option Nat} {y : Str} (h : (sgo o != Str.ofString "") = true) : (!(Builtin.Str.occurrences y (sgo o) 0 y.length 1).isEmpty) = amg o y.cps.toList := contains_sgo y o (by intro e; subst e; rw [bne, sgo_none_iff] at h; simp at h)
theorem amg_none {o : Option Nat} {l : List Nat} (h : (sgo o != Str.ofString "") = false) : amg o l = false := by rw [none_of_ne h]; rfl

-- 38p_lcm
/-- a comment to the line's end begins here -/
noncomputable def lcm (T : List Nat) (i : Nat) : Bool := startsB T i (Str.ofString "--") && !symO T[takeEnd T [45] (i + 2)]?
theorem s_dash : Str.ofString "-" = ⟨#[45]⟩ := by decide +kernel
theorem l_dd : (Str.ofString "--").length = 2 := by decide +kernel
theorem starts_len {T : List Nat} {i : Nat} {y : Str} (h : startsB T i y = true) (hy : 0 < y.length) : i + y.length ≤ T.length := by
  have h := beq_iff_eq.mp h
  have := congrArg List.length h
  rw [List.length_take, List.length_drop] at this
  have h1 : y.length ≤ T.length - i := Nat.le_trans (Nat.le_of_eq (this.trans Array.length_toList).symm) (Nat.min_le_right _ _)
  exact Nat.add_le_of_le_sub' (Nat.le_of_lt (Nat.lt_of_sub_pos (Nat.lt_of_lt_of_le hy h1))) h1
theorem dash_iff (o : Option Nat) : (sgo o == Str.ofString "-") = amg o [45] := by
  rw [s_dash, sgo_eq]
  cases o with
  | none => rfl
  | some c => rw [Bool.eq_iff_iff]; simp [amg]
theorem takeEnd_le {T l : List Nat} {i : Nat} (h : i ≤ T.length) : takeEnd T l i ≤ T.length := by
  unfold takeEnd
  have := (List.takeWhile_prefix (fun c => l.contains c) (l := T.drop i)).length_le
  rw [List.length_drop] at this
  exact Nat.le_trans (Nat.add_le_add_left this i) (Nat.le_of_eq (Nat.add_sub_of_le h))
theorem takeEnd_ge {T l : List Nat} {i : Nat} : i ≤ takeEnd T l i := Nat.le_add_right _ _

-- 40p_skip
noncomputable def WS : List Nat := (Str.ofString " \t\n\r\x0c\x0b").cps.toList
/-- where a line ends -/
noncomputable def lineEnd (T : List Nat) (i : Nat) : Nat := i + ((T.drop i).takeWhile fun c => !(c == 10 || c == 13 || c == 12)).length
noncomputable def endO (o : Option Nat) : Bool := match o with
  | none => true
  | some c => c == 10 || c == 13 || c == 12
theorem line_go {T : List Nat} {i : Nat} (h : endO T[i]? = false) : lineEnd T (i + 1) = lineEnd T i ∧ i < T.length := by
  unfold lineEnd
  rcases hc : T[i]? with _ | c
  · rw [hc] at h; cases h
  · obtain ⟨hlt, he⟩ := List.getElem?_eq_some_iff.mp hc
    rw [hc] at h
    rw [List.drop_eq_getElem_cons hlt, he, List.takeWhile_cons]
    simp only [endO] at h
    rw [if_pos (by rw [h]; rfl), List.length_cons]
    exact ⟨Nat.succ_add_eq_add_succ _ _, hlt⟩
theorem line_stop {T : List Nat} {i : Nat} (h : endO T[i]? = true) : lineEnd T i = i := by
  unfold lineEnd
  rcases hc : T[i]? with _ | c
  · rw [List.getElem?_eq_none_iff] at hc
    rw [List.drop_eq_nil_of_le hc]; rfl
  · obtain ⟨hlt, he⟩ := List.getElem?_eq_some_iff.mp hc
    rw [hc] at h
    rw [List.drop_eq_getElem_cons hlt, he, List.takeWhile_cons]
    simp only [endO] at h
    rw [if_neg (by rw [h]; decide)]
    rfl
theorem lineEnd_le {T : List Nat} {i : Nat} (h : i ≤ T.length) : lineEnd T i ≤ T.length := by
  unfold lineEnd
  have := (List.takeWhile_prefix (fun c => !(c == 10 || c == 13 || c == 12)) (l := T.drop i)).length_le
  rw [List.length_drop] at this
  exact Nat.le_trans (Nat.add_le_add_left this i) (Nat.le_of_eq (Nat.add_sub_of_le h))
theorem lcm_first {T : List Nat} {i : Nat} (h : lcm T i = true) : T[i]? = some 45 := by
  unfold lcm at h
  have h := (Bool.and_eq_true_iff.mp h).1
  have h := beq_iff_eq.mp h
  have e : (Str.ofString "--").cps.toList = [45, 45] := by decide +kernel
  rw [e, l_dd] at h
  have : ((T.drop i).take 2)[0]? = some 45 := by rw [h]; rfl
  rw [List.getElem?_take, if_pos (by omega), List.getElem?_drop] at this
  simpa using this
theorem lineEnd_gt {T : List Nat} {i : Nat} (h : lcm T i = true) : i < lineEnd T i := by
  have e := lcm_first h
  have := (line_go (T := T) (i := i) (by rw [e]; rfl)).1
  have h2 : i + 1 ≤ lineEnd T (i + 1) := Nat.le_add_right _ _
  exact Nat.le_trans h2 (Nat.le_of_eq this)
noncomputable def skipF (T : List Nat) : Nat → Nat → Nat
  | 0, i => i
  | n + 1, i => if amg T[i]? WS then skipF T n (i + 1) else if lcm T i then skipF T n (lineEnd T i) else i
theorem fuel_lt {l n i j : Nat} (h : i < j) (hn : l + 1 - i ≤ n + 1) : l + 1 - j ≤ n := Nat.le_trans (Nat.sub_le_sub_left h (l + 1)) (Nat.pred_le_pred hn)
theorem skipF_any (T : List Nat) : ∀ n m i, i ≤ T.length → T.length + 1 - i ≤ n → T.length + 1 - i ≤ m → skipF T n i = skipF T m i
  | 0, _, i, hi, hn, _ => absurd hn (Nat.not_le_of_lt (Nat.sub_pos_of_lt (Nat.lt_succ_of_le hi)))
  | _ + 1, 0, i, hi, _, hm => absurd hm (Nat.not_le_of_lt (Nat.sub_pos_of_lt (Nat.lt_succ_of_le hi)))
  | n + 1, m + 1, i, hi, hn, hm => by
    unfold skipF
    split
    · rename_i h
      exact skipF_any T n m (i + 1) (lt_of_amg h) (fuel_lt (Nat.lt_succ_self i) hn) (fuel_lt (Nat.lt_succ_self i) hm)
    · split
      · rename_i h
        have h1 := lineEnd_gt h
        exact skipF_any T n m _ (lineEnd_le hi) (fuel_lt h1 hn) (fuel_lt h1 hm)
      · rfl
/-- where the next word may begin -/
noncomputable def skipEnd (T : List Nat) (i : Nat) : Nat := skipF T (T.length + 1 - i) i
theorem skip_ws {T : List Nat} {i : Nat} (h : amg T[i]? WS = true) : skipEnd T (i + 1) = skipEnd T i := by
  have hl := lt_of_amg h
  unfold skipEnd
  rw [show T.length + 1 - i = (T.length + 1 - (i + 1)) + 1 by rw [Nat.add_sub_add_right]; exact Nat.succ_sub (Nat.le_of_lt hl)]
  conv => rhs; unfold skipF
  rw [if_pos h]
theorem skip_lc {T : List Nat} {i : Nat} (hi : i ≤ T.length) (h0 : amg T[i]? WS = false) (h : lcm T i = true) : skipEnd T (lineEnd T i) = skipEnd T i := by
  have h1 := lineEnd_gt h
  have h2 := lineEnd_le hi
  unfold skipEnd
  rw [show T.length + 1 - i = (T.length - i) + 1 from Nat.succ_sub hi]
  conv => rhs; unfold skipF
  rw [if_neg (by rw [h0]; decide), if_pos h]
  exact skipF_any T _ _ _ h2 (Nat.le_refl _) (fuel_lt h1 (Nat.le_of_eq (Nat.succ_sub hi)))
theorem skip_stop {T : List Nat} {i : Nat} (hi : i ≤ T.length) (h0 : amg T[i]? WS = false) (h : lcm T i = false) : skipEnd T i = i := by
  unfold skipEnd
  rw [show T.length + 1 - i = (T.length - i) + 1 from Nat.succ_sub hi]
  unfold skipF
  rw [if_neg (by rw [h0]; decide), if_neg (by rw [h]; decide)]
theorem no_brace {T : List Nat} {i : Nat} (h : 123 ∉ T) : startsB T i (Str.ofString "{-") = false := by
  have e : (Str.ofString "{-").cps.toList = [123, 45] := by decide +kernel
  apply Bool.eq_false_iff.mpr
  intro hs
  have hs := beq_iff_eq.mp hs
  rw [e] at hs
  have : 123 ∈ (T.drop i).take (Str.ofString "{-").length := by rw [hs]; simp
  exact h (List.mem_of_mem_drop (List.mem_of_mem_take this))
theorem endO_iff (o : Option Nat) : ([Str.ofString "", Str.ofString "\n", Str.ofString "\r", Str.ofString "\x0c"].any fun x => x == sgo o) = endO o := by
  rw [s_empty, s_nl, s_cr, s_ff]
  cases o with
  | none => rfl
  | some c =>
    have q : ∀ n : Nat, ((⟨#[n]⟩ : Str) == sgo (some c)) = (c == n) := fun n => (BEq.comm).trans (sgo_eq (some c) n)
    have q0 : ((⟨#[]⟩ : Str) == sgo (some c)) = false := (BEq.comm).trans (s_empty ▸ sgo_none_iff (some c))
    show ((⟨#[]⟩ : Str) == sgo (some c) || ((⟨#[10]⟩ : Str) == sgo (some c) || ((⟨#[13]⟩ : Str) == sgo (some c) || ((⟨#[12]⟩ : Str) == sgo (some c) || false)))) = (c == 10 || c == 13 || c == 12)
    rw [q0, q, q, q, Bool.or_false, Bool.or_assoc]; rfl

-- 42p_num
noncomputable def HEX : List Nat := [48, 49, 50, 51, 52, 53, 54, 55, 56, 57, 97, 98, 99, 100, 101, 102, 65, 66, 67, 68, 69, 70]
noncomputable def hexv (c : Nat) : Nat := if c ≤ 57 then c - 48 else if 97 ≤ c then c - 87 else c - 55
noncomputable def numN (base : Nat) (ds : List Nat) : Nat := ds.foldl (fun a c => a * base + hexv c) 0
theorem hexv_lt : ∀ c ∈ HEX, hexv c < 16 := by decide +kernel
theorem numN_snoc (base : Nat) (ds : List Nat) (c : Nat) : numN base (ds ++ [c]) = numN base ds * base + hexv c := by
  simp [numN, List.foldl_append]
theorem numN_lt {base : Nat} (hb : base ≤ 16) : ∀ (n : Nat) (ds : List Nat), ds.length = n → (∀ c ∈ ds, c ∈ HEX) → numN base ds < 16 ^ n
  | 0, ds, h, _ => by
    rw [List.length_eq_zero_iff.mp h]; exact Nat.one_pos
  | n + 1, ds, h, hh => by
    have hne : ds ≠ [] := by intro e; rw [e] at h; simp at h
    obtain ⟨pre, c, rfl⟩ : ∃ pre c, ds = pre ++ [c] := ⟨ds.dropLast, ds.getLast hne, (List.dropLast_concat_getLast hne).symm⟩
    rw [numN_snoc]
    have h1 := numN_lt hb n pre (by simpa using h) (fun c hc => hh c (List.mem_append_left _ hc))
    have h2 := hexv_lt c (hh c (by simp))
    have h3 : numN base pre * base ≤ numN base pre * 16 := Nat.mul_le_mul_left _ hb
    rw [Nat.pow_succ]
    exact Nat.lt_of_lt_of_le (Nat.add_lt_add_of_le_of_lt h3 h2) (Nat.le_trans (Nat.le_of_eq (Nat.succ_mul _ 16).symm) (Nat.mul_le_mul_right 16 h1))
theorem lower_hex : ∀ c ∈ HEX, Txt.lower ⟨#[c]⟩ = ⟨#[if 65 ≤ c ∧ c ≤ 70 then c + 32 else c]⟩ := by decide +kernel
noncomputable def lowc (c : Nat) : Nat := if 65 ≤ c ∧ c ≤ 70 then c + 32 else c
theorem find_hex : ∀ c ∈ HEX, Txt.find (Str.ofString "0123456789abcdef") ⟨#[lowc c]⟩ = (hexv c : Int) ∧ (Builtin.Str.occurrences (Str.ofString "0123456789abcdef") ⟨#[lowc c]⟩ 0 (Str.ofString "0123456789abcdef").length 1).isEmpty = false := by decide +kernel
theorem map_cast_inj {l l' : List Nat} (h : l.map (fun (z : Nat) => (z : Int)) = l'.map (fun (z : Nat) => (z : Int))) : l = l' := by
  have := congrArg (List.map Int.toNat) h
  simpa [List.map_map, Function.comp_def] using this
theorem num_small {bs n : Nat} {l : List Nat} (hb : bs ≤ 16) (hl : l.length + 1 ≤ 20) (hh : ∀ c ∈ l ++ [n], c ∈ HEX) : numN bs l * bs + hexv n < 1208925819614629174706176 := by
  have := numN_lt hb _ (l ++ [n]) rfl hh
  rw [numN_snoc, List.length_append, List.length_singleton] at this
  have h2 : 16 ^ (l.length + 1) ≤ 16 ^ 20 := Nat.pow_le_pow_right (by decide) hl
  have h3 : (16 : Nat) ^ 20 = 1208925819614629174706176 := by decide
  omega
theorem num_smallZ {bs n : Nat} {l : List Nat} (hb : bs ≤ 16) (hl : l.length + 1 ≤ 20) (hh : ∀ c ∈ l ++ [n], c ∈ HEX) : ((numN bs l : Nat) : Int) * (bs : Int) + ((hexv n : Nat) : Int) < 1208925819614629174706176 := by
  have := num_small hb hl hh
  rw [← Int.natCast_mul, ← Int.natCast_add]
  omega

-- 44p_float
noncomputable def DIG : List Nat := (Str.ofString "0123456789").cps.toList
noncomputable def floatB (T : List Nat) (i : Nat) : Bool :=
  if (T[i]? == some 46) = true then amg T[i + 1]? DIG
  else amg T[i]? (Str.ofString "eE").cps.toList && amg T[i + (if amg T[i + 1]? (Str.ofString "+-").cps.toList = true then 2 else 1)]? DIG
theorem s_dot : Str.ofString "." = ⟨#[46]⟩ := by decide +kernel
theorem s_zero : Str.ofString "0" = ⟨#[48]⟩ := by decide +kernel
theorem s_x : Str.ofString "x" = ⟨#[120]⟩ := by decide +kernel
theorem cut_take {T l : List Nat} {i : Nat} : cut T i (takeEnd T l i) = (T.drop i).takeWhile fun c => l.contains c := by
  unfold cut takeEnd
  rw [Nat.add_sub_cancel_left]
  exact List.prefix_iff_eq_take.mp (List.takeWhile_prefix _) |>.symm
theorem tw_mem (p : Nat → Bool) : ∀ (l : List Nat), ∀ c ∈ l.takeWhile p, p c = true
  | [], _, h => nomatch h
  | a :: r, c, h => by
    rw [List.takeWhile_cons] at h
    split at h
    · rcases List.mem_cons.mp h with rfl | h
      · assumption
      · exact tw_mem p r c h
    · cases h
theorem cut_all {T l : List Nat} {i : Nat} : ∀ c ∈ cut T i (takeEnd T l i), c ∈ l := by
  rw [cut_take]
  intro c hc
  have := tw_mem _ _ c hc
  simpa using this
theorem hexl_eq : (Str.ofString "0123456789abcdefABCDEF").cps.toList = HEX := by decide +kernel
theorem lower_x : Txt.lower ⟨#[120]⟩ = Str.ofString "x" := by decide +kernel
theorem dig_hex : ∀ c ∈ (Str.ofString "0123456789").cps.toList, c ∈ HEX := by decide +kernel

-- 50p_calm
/-- a tree without calls, whose writes leave every object's own dict in place -/
noncomputable def Calm {α : Type} : Sem α → Prop
  | .pure _ => True
  | .raise _ => True
  | .unsupported _ => True
  | .finish _ => True
  | .rule _ k => Calm (k ())
  | .at _ k => Calm (k ())
  | .load _ _ k => ∀ x, Calm (k x)
  | .update _ _ f k => (∀ o : Obj, (f o).dict = o.dict ∧ ((f o).isFreed = true → o.isFreed = true)) ∧ Calm (k ())
  | .loadIfAlive _ k => ∀ x, Calm (k x)
  | .point _ k => Calm (k ())
  | .register _ _ => False
  | .alloc _ k => ∀ x, Calm (k x)
  | .fresh k => ∀ x, Calm (k x)
  | .ask k => ∀ x, Calm (k x)
  | .choose _ _ k => ∀ x, Calm (k x)
  | .os _ _ k => ∀ x, Calm (k x)
  | .call _ _ _ _ _ => False
  | .handled _ k => ∀ x, Calm (k x)
  | .genState _ k => ∀ x, Calm (k x)
  | .newGen _ k => ∀ x, Calm (k x)
  | .resume _ _ _ _ => False
  | .yield _ _ _ _ => False
  | .stack k => ∀ x, Calm (k x)
  | .fork _ _ => False
  | .thread k => ∀ x, Calm (k x)
  | .await _ _ _ _ _ => False

noncomputable def DictIs (e dx : Addr) (h : Heap) : Prop := ∃ oe, h.get? e = some oe ∧ oe.dict = some dx

theorem calm_wp {α : Type} {M : Model} {Γ : Ctx} {e dx : Addr} : ∀ {m : Sem α} {Q : α → Pos → Shared → Prop} {E : Value → Pos → Shared → Prop} {p : Pos} {s : Shared}, Calm m → DictIs e dx s.heap → Sem.wp M Γ m Q E p s →
    Sem.wp M Γ m (fun a p' s' => Q a p' s' ∧ DictIs e dx s'.heap) (fun v p' s' => E v p' s' ∧ DictIs e dx s'.heap) p s := by
  intro m
  induction m with
  | pure a => intro Q E p s _ d h; exact ⟨h, d⟩
  | raise v => intro Q E p s _ d h; exact ⟨h, d⟩
  | unsupported _ => intro Q E p s _ d h; exact h
  | finish _ => intro Q E p s _ d h; exact h
  | rule t k ih => intro Q E p s c d h; exact ih () c d h
  | «at» q k ih => intro Q E p s c d h; exact ih () c d h
  | load a q k ih => intro Q E p s c d h; obtain ⟨o, ho, h⟩ := h; exact ⟨o, ho, ih o (c o) d h⟩
  | update a q f k ih =>
    intro Q E p s c d h
    refine ⟨h.1, ih () c.2 ?_ h.2⟩
    obtain ⟨oe, he, hd⟩ := d
    by_cases ha : a = e
    · subst ha
      have hf : (f oe).isFreed = false := by
        rw [Bool.eq_false_iff]
        intro q
        have := (c.1 oe).2 q
        rw [(Heap.get?_some_iff.mp he).2] at this
        cases this
      exact ⟨f oe, Heap.get?_update_self f he hf, ((c.1 oe).1).trans hd⟩
    · exact ⟨oe, (Heap.get?_update_other _ _ ha).trans he, hd⟩
  | loadIfAlive a k ih => intro Q E p s c d h; exact ih _ (c _) d h
  | point l k ih => intro Q E p s c d h; exact ih () c d h
  | register a k ih => intro Q E p s c; exact c.elim
  | alloc o k ih =>
    intro Q E p s c d h
    obtain ⟨oe, he, hd⟩ := d
    exact ih _ (c _) ⟨oe, Heap.get?_push_of_some _ he, hd⟩ h
  | fresh k ih => intro Q E p s c d h; exact ih _ (c _) d h
  | ask k ih => intro Q E p s c d h; exact ih _ (c _) d h
  | choose src n k ih => intro Q E p s c d h; exact ⟨h.1, ih _ (c _) d h.2⟩
  | os q l k ih => intro Q E p s c d h; exact ih _ (c _) d h
  | call c h g l k ih => intro Q E p s c; exact c.elim
  | handled own k ih => intro Q E p s c d h; exact ih _ (c _) d h
  | genState g k ih => intro Q E p s c d h; obtain ⟨st, hs, h⟩ := h; exact ⟨st, hs, ih _ (c _) d h⟩
  | newGen cc k ih => intro Q E p s c d h; exact ih _ (c _) d h
  | resume g r l k ih => intro Q E p s c; exact c.elim
  | yield v g l k ih => intro Q E p s c; exact c.elim
  | stack k ih => intro Q E p s c d h; exact ih _ (c _) d h
  | fork c k ih => intro Q E p s c; exact c.elim
  | thread k ih => intro Q E p s c d h; exact ih _ (c _) d h
  | await a t tm l k ih => intro Q E p s c; exact c.elim

theorem calm_any {α : Type} {M : Model} {A : Around} {e dx : Addr} {m : Sem α} {Q : α → Shared → Prop} {E : Value → Shared → Prop} {s : Shared} (c : Calm m) (d : DictIs e dx s.heap) (h : wpAny M A m Q E s) :
    wpAny M A m (fun a s' => Q a s' ∧ DictIs e dx s'.heap) (fun v s' => E v s' ∧ DictIs e dx s'.heap) s :=
  fun Γ p hΓ => calm_wp c d (h Γ p hΓ)

theorem calm_bind {α β : Type} {m : Sem α} {f : α → Sem β} (c : Calm m) (hf : ∀ a, Calm (f a)) : Calm (m.bind f) := by
  induction m with
  | pure a => exact hf a
  | raise v => exact trivial
  | unsupported _ => exact trivial
  | finish _ => exact trivial
  | rule t k ih => exact ih () c
  | «at» q k ih => exact ih () c
  | load a q k ih => exact fun x => ih x (c x)
  | update a q f k ih => exact ⟨c.1, ih () c.2⟩
  | loadIfAlive a k ih => exact fun x => ih x (c x)
  | point l k ih => exact ih () c
  | register a k ih => exact c.elim
  | alloc o k ih => exact fun x => ih x (c x)
  | fresh k ih => exact fun x => ih x (c x)
  | ask k ih => exact fun x => ih x (c x)
  | choose src n k ih => exact fun x => ih x (c x)
  | os q l k ih => exact fun x => ih x (c x)
  | call cc h g l k ih => exact c.elim
  | handled own k ih => exact fun x => ih x (c x)
  | genState g k ih => exact fun x => ih x (c x)
  | newGen cc k ih => exact fun x => ih x (c x)
  | resume g r l k ih => exact c.elim
  | yield v g l k ih => exact c.elim
  | stack k ih => exact fun x => ih x (c x)
  | fork cc k ih => exact c.elim
  | thread k ih => exact fun x => ih x (c x)
  | await a t tm l k ih => exact c.elim
theorem calm_bind' {α β : Type} {m : Sem α} {f : α → Sem β} (c : Calm m) (hf : ∀ a, Calm (f a)) : Calm (m >>= f) := calm_bind c hf
theorem calm_pure {α : Type} (a : α) : Calm (pure a : Sem α) := trivial
theorem calm_uns {α : Type} (w : String) : Calm (PySem.unsupported w : Sem α) := trivial
theorem calm_load (a : Addr) : Calm (load a) := fun _ => trivial
theorem calm_stack : Calm stack := fun _ => trivial
theorem calm_ite {α : Type} {p : Prop} [Decidable p] {a b : Sem α} (ha : Calm a) (hb : Calm b) : Calm (if p then a else b) := by split <;> assumption
theorem mapFields_dict (g : Array Value → Array Value) (o : Obj) : (Obj.mapFields g o).dict = o.dict ∧ ((Obj.mapFields g o).isFreed = true → o.isFreed = true) := by
  unfold Obj.mapFields
  split <;> (refine ⟨rfl, ?_⟩) <;> simp_all [Obj.isFreed]
theorem calm_fieldsOf (v : Value) : Calm (fieldsOf v) := by
  unfold fieldsOf
  split
  · refine calm_bind' (calm_load _) fun o => ?_
    split
    · exact trivial
    · exact trivial
  · exact trivial
theorem calm_field (v : Value) (i : Nat) : Calm (field v i) := by
  unfold field
  refine calm_bind' (calm_fieldsOf v) fun o => ?_
  split <;> exact trivial
theorem calm_setField (v : Value) (i : Nat) (x : Value) : Calm (setField v i x) := by
  unfold setField
  split
  · unfold updateField
    refine calm_bind' (calm_load _) fun o => ?_
    split
    · refine calm_ite ?_ trivial
      exact ⟨fun o => mapFields_dict _ o, trivial⟩
    · exact trivial
  · exact trivial
theorem calm_setFlight (v : Value) (f : Option Addr) : Calm (setFlight v f) := by
  unfold setFlight
  refine calm_bind' (calm_field _ _) fun tb => ?_
  exact calm_ite (calm_setField _ _ _) trivial
theorem calm_newObj (c : String) (dt : Data) : Calm (newObj (.type c) dt) := by
  have base : ∀ x, Calm (newObjAsIs (.type c) dt x) := by
    intro x
    unfold newObjAsIs
    exact fun _ => trivial
  unfold newObj
  split <;> (first | exact calm_bind' (calm_ite trivial trivial) (fun _ => base _) | skip)
  all_goals first
    | exact base _
    | exact calm_bind' trivial (fun _ => base _)
    | (split <;> first | exact base _ | exact trivial | exact calm_bind' trivial (fun _ => base _))
theorem calm_newEntry (a b c d e : Value) (pl : List Value) : Calm (EntryCells.newEntry a b c d e pl) := by
  unfold EntryCells.newEntry newFields
  exact calm_newObj _ _
theorem calm_entryPlace (f : Addr) (b : Bool) : Calm (entryPlaceOf f b) := by
  unfold entryPlaceOf
  refine calm_bind' calm_stack fun st => ?_
  split
  · exact trivial
  · exact trivial
theorem calm_behind (env : Env) (o : List Env) : Calm (behindIsImport env o) := by
  unfold behindIsImport
  refine calm_ite trivial (calm_ite trivial ?_)
  exact calm_bind' (calm_field _ _) fun _ => trivial
theorem calm_kept (env : Env) (b : Bool) (o : List Env) : Calm (keptBack env b o) := by
  unfold keptBack
  split
  · refine calm_ite trivial ?_
    unfold underTheClaimsCaller
    exact calm_bind' (calm_bind' calm_stack fun _ => trivial) fun _ => trivial
  · exact trivial
theorem calm_ready : ∀ l : List Env, Calm (readyFrames l)
  | [] => trivial
  | env :: outer => by
    unfold readyFrames
    split
    · refine calm_bind' (calm_load _) fun o => calm_ite trivial ?_
      refine calm_bind' (calm_behind _ _) fun b => calm_bind' (calm_kept _ _ _) fun v => ?_
      refine calm_bind' ?_ fun _ => calm_ready outer
      exact ⟨fun o => ⟨rfl, fun h => by obtain ⟨c, d, dt, sl⟩ := o; cases dt <;> exact h⟩, trivial⟩
    · exact trivial
theorem calm_frameOf (env : Env) : Calm (PySem.frameOf env) := by
  unfold PySem.frameOf frameEnvs
  refine calm_bind' (calm_bind' calm_stack fun _ => trivial) fun l => calm_bind' ?_ fun f => ?_
  · unfold frameObject
    split
    · exact trivial
    · exact calm_bind' (calm_ready _) fun _ => trivial
  · split <;> exact trivial
theorem calm_noteFrame (e : Value) (env : Env) : Calm (noteFrame e env) := by
  have tail : ∀ head f, Calm (do let a ← PySem.frameOf env; let pl ← entryPlaceOf f (head != Value.none); let b ← EntryCells.newEntry head a .none (rawInt f) .none pl; setField e 1 b) := by
    intro head f
    exact calm_bind' (calm_frameOf _) fun _ => calm_bind' (calm_entryPlace _ _) fun _ => calm_bind' (calm_newEntry _ _ _ _ _ _) fun _ => calm_setField _ _ _
  unfold noteFrame
  split
  · refine calm_bind' (calm_field _ _) fun head => calm_ite ?_ (tail _ _)
    exact calm_bind' (calm_field _ _) fun _ => calm_ite trivial (calm_bind' (calm_setField _ _ _) fun _ => tail _ _)
  · exact trivial
theorem calm_leaving (env : Env) (e : Value) : Calm (leaving env e) := by
  unfold leaving
  exact calm_bind' (calm_noteFrame _ _) fun _ => calm_setFlight _ _

-- 55p_names
noncomputable abbrev NL : List Str := [Str.ofString "NUL", Str.ofString "SOH", Str.ofString "STX", Str.ofString "ETX", Str.ofString "EOT", Str.ofString "ENQ", Str.ofString "ACK", Str.ofString "BEL", Str.ofString "BS", Str.ofString "HT", Str.ofString "LF", Str.ofString "VT", Str.ofString "FF", Str.ofString "CR", Str.ofString "SO", Str.ofString "SI", Str.ofString "DLE", Str.ofString "DC1", Str.ofString "DC2", Str.ofString "DC3", Str.ofString "DC4", Str.ofString "NAK", Str.ofString "SYN", Str.ofString "ETB", Str.ofString "CAN", Str.ofString "EM", Str.ofString "SUB", Str.ofString "ESC", Str.ofString "FS", Str.ofString "GS", Str.ofString "RS", Str.ofString "US", Str.ofString "SP"]
theorem nl_facts : ∀ y ∈ NL, y.length ≤ 3 ∧ 2 ≤ y.length ∧ y.cps.toList ≠ [68, 69, 76].take y.length := by decide +kernel
theorem nl_mem {n : Nat} (h : n < 33) : NL.getD n Str.empty ∈ NL := by
  have h' : n < NL.length := h
  rw [List.getD_eq_getElem?_getD, List.getElem?_eq_getElem h']
  exact List.getElem_mem h'
theorem nl_len {n : Nat} (h : n < 33) : (NL.getD n Str.empty).length ≤ 100 := Nat.le_trans (nl_facts _ (nl_mem h)).1 (by decide)
theorem l_DEL : (Str.ofString "DEL").cps.toList = [68, 69, 76] := by decide +kernel
theorem take_take3 {l : List Nat} {n : Nat} (h3 : l.take 3 = [68, 69, 76]) (hn : n ≤ 3) : l.take n = [68, 69, 76].take n := by
  rw [← h3, List.take_take, Nat.min_eq_left hn]
theorem nl_no {T : List Nat} {i n : Nat} (h : n < 33) (hd : startsB T i (Str.ofString "DEL") = true) : startsB T i (NL.getD n Str.empty) = false := by
  have f := nl_facts _ (nl_mem h)
  unfold startsB at hd ⊢
  rw [l_DEL, show (Str.ofString "DEL").length = 3 by decide +kernel] at hd
  rw [take_take3 (beq_iff_eq.mp hd) f.1]
  rw [beq_eq_false_iff_ne]
  exact fun e => f.2.2 e.symm

-- 57p_text
/-- an escape of three: its first sign, what it means and where it ends -/
inductive EscR (T : List Nat) (i : Nat) : Nat → Str → Nat → Prop
  | t : EscR T i 116 ⟨#[9]⟩ (i + 1)
  | f : EscR T i 102 ⟨#[12]⟩ (i + 1)
  | del : startsB T i (Str.ofString "DEL") = true → EscR T i 68 ⟨#[127]⟩ (i + 3)
/-- the signs of a text between quotes, from a place behind its opening quote: what is told, and where it ends (Bool: well, or at a sign that may not stand in it) -/
inductive TxtR (T : List Nat) : Nat → List Str → Bool → Nat → Prop
  | stop {i} : T[i]? = some 34 → TxtR T i [] true i
  | bad {i} : bareO T[i]? = false → TxtR T i [] false i
  | plain {i c ps b j} : T[i]? = some c → bareO (some c) = true → c ≠ 34 → c ≠ 92 → TxtR T (i + 1) ps b j → TxtR T i (sgo (some c) :: ps) b j
  | esc {i c ps b j p q} : T[i]? = some 92 → T[i + 1]? = some c → EscR T (i + 1) c p q → TxtR T q ps b j → TxtR T i (p :: ps) b j
  | gap {i ps b j} : T[i]? = some 92 → amg T[i + 1]? WS = true → T[takeEnd T WS (i + 1)]? = some 92 → TxtR T (takeEnd T WS (i + 1) + 1) ps b j → TxtR T i ps b j
theorem EscR.le {T : List Nat} {i c q : Nat} {p : Str} (h : EscR T i c p q) : i + 1 ≤ q := by
  cases h with
  | t => exact Nat.le_refl _
  | f => exact Nat.le_refl _
  | del _ => exact Nat.le_add_right _ 2
/-- values that hold these texts -/
inductive StrsV : List Value → List Str → Prop
  | nil : StrsV [] []
  | snoc {vs ps s t} : StrsV vs ps → StrsV (vs ++ [.str s t]) (ps ++ [s])
theorem TxtR.lt {T : List Nat} {i c : Nat} (h : T[i]? = some c) : i + 1 ≤ T.length := (List.getElem?_eq_some_iff.mp h).1
theorem s_dq : Str.ofString "\"" = ⟨#[34]⟩ := by decide +kernel
theorem s_bs : Str.ofString "\\" = ⟨#[92]⟩ := by decide +kernel
theorem s_am : Str.ofString "&" = ⟨#[38]⟩ := by decide +kernel
theorem ne_c {o : Option Nat} {c n : Nat} {y : Str} (h : o = some c) (hy : y = ⟨#[n]⟩) (hn : c ≠ n) : (sgo o != y) = true := by
  subst h hy; rw [bne, sgo_eq]; simp [hn]
theorem nn_c {o : Option Nat} {n : Nat} {y : Str} (h : o = some n) (hy : y = ⟨#[n]⟩) : (sgo o != y) = false := by
  subst h hy; rw [bne, sgo_eq]; simp
theorem nb_c {o : Option Nat} {n : Nat} {y : Str} (h : bareO o = false) (hn : bareO (some n) = true) (hy : y = ⟨#[n]⟩) : (sgo o != y) = true := by
  subst hy; rw [bne, sgo_eq]
  cases o with
  | none => rfl
  | some a =>
    have : a ≠ n := by rintro rfl; rw [h] at hn; cases hn
    simp [this]
theorem eq_c {o : Option Nat} {c n : Nat} {y : Str} (h : o = some c) (hy : y = ⟨#[n]⟩) (hn : c ≠ n) : (sgo o == y) = false := by
  subst h hy; rw [sgo_eq]; simp [hn]
theorem l_ws : (Str.ofString " \t\n\r\x0c\x0b").cps.toList = [32, 9, 10, 13, 12, 11] := by decide +kernel
theorem amg_c {o : Option Nat} {c : Nat} {y : Str} {l : List Nat} (h : o = some c) (hy : y.cps.toList = l) (hn : l.contains c = false) : amg o y.cps.toList = false := by
  subst h; rw [hy]; exact hn
theorem del_len {T : List Nat} {i : Nat} (h : startsB T i (Str.ofString "DEL") = true) : i + 3 ≤ T.length := by
  have h := starts_len h (by decide +kernel)
  rw [show (Str.ofString "DEL").length = 3 by decide +kernel] at h
  exact h
theorem EscR.len {T : List Nat} {i c q : Nat} {p : Str} (h : EscR T i c p q) : T[i]? = some c → q ≤ T.length := by
  induction h with
  | t => exact TxtR.lt
  | f => exact TxtR.lt
  | del h => exact fun _ => del_len h
theorem EscR.sp {T : List Nat} {i c q : Nat} {p : Str} (h : EscR T i c p q) : c ≠ 38 ∧ [32, 9, 10, 13, 12, 11].contains c = false := by
  cases h <;> decide
theorem bare_ws {o : Option Nat} {c : Nat} (h : o = some c) (hb : bareO (some c) = true) : bareO o = true := by subst h; exact hb
theorem amp_ws {o : Option Nat} (h : amg o WS = true) : (sgo o == Str.ofString "&") = false := by
  cases o with
  | none => cases h
  | some c =>
    refine eq_c rfl s_am ?_
    rintro rfl
    revert h
    decide +kernel
theorem lt_amg {T l : List Nat} {i : Nat} (h : amg T[i]? l = true) : i + 1 ≤ T.length := lt_of_amg h
theorem StrsAre.snoc1 {vs : List Value} {ps : List Str} (h : StrsAre vs ps) (s : Str) (t : Tok) : StrsAre (vs ++ [.str s t]) (ps ++ [s]) := by
  induction h with
  | nil => exact .cons _ _ .nil
  | cons _ _ _ ih => exact .cons _ _ ih
theorem StrsV.are {vs : List Value} {ps : List Str} (h : StrsV vs ps) : StrsAre vs ps := by
  induction h with
  | nil => exact .nil
  | snoc _ ih => exact StrsAre.snoc1 ih _ _
theorem TxtR.len1 {T : List Nat} {i j : Nat} {ps : List Str} {b : Bool} (h : TxtR T i ps b j) : ∀ s ∈ ps, s.length = 1 := by
  induction h with
  | stop _ => intro s hs; cases hs
  | bad _ => intro s hs; cases hs
  | plain _ _ _ _ _ ih => intro s hs; rcases List.mem_cons.mp hs with rfl | hs; rfl; exact ih s hs
  | esc _ _ h _ ih => exact List.forall_mem_cons.mpr ⟨by cases h <;> rfl, ih⟩
  | gap _ _ _ _ ih => exact ih
theorem sum_ones {l : List Str} (h : ∀ s ∈ l, s.length = 1) : (l.map (·.length)).sum = l.length := by
  induction l with
  | nil => rfl
  | cons a l ih => rw [List.map_cons, List.sum_cons, h a (.head _), ih fun s hs => h s (.tail _ hs), List.length_cons]; omega
theorem StrsV.length {vs : List Value} {ps : List Str} (h : StrsV vs ps) : vs.length = ps.length := by
  induction h with
  | nil => rfl
  | snoc _ ih => simp [ih]
theorem StrsV.push {vs : Array Value} {ps : List Str} {s : Str} {t : Tok} (h : StrsV vs.toList ps) : StrsV (vs.push (.str s t)).toList (ps ++ [s]) := by
  rw [Array.toList_push]; exact .snoc h

end Mine
end
section
open PySem PyProof.Rows PySem.W
namespace Mine
-- 61p_word
noncomputable def SPC : List Nat := (Str.ofString "()[],;`{}").cps.toList
noncomputable def SML : List Nat := (Str.ofString "abcdefghijklmnopqrstuvwxyz_").cps.toList
noncomputable def GRT : List Nat := (Str.ofString "ABCDEFGHIJKLMNOPQRSTUVWXYZ").cps.toList
noncomputable def NMS : List Nat := (Str.ofString "abcdefghijklmnopqrstuvwxyz_ABCDEFGHIJKLMNOPQRSTUVWXYZ0123456789'").cps.toList
noncomputable def KEYL : List Str := [Str.ofString "case", Str.ofString "class", Str.ofString "data", Str.ofString "deriving", Str.ofString "do", Str.ofString "else", Str.ofString "if", Str.ofString "\x69mport", Str.ofString "in", Str.ofString "infix", Str.ofString "infixl", Str.ofString "infixr", Str.ofString "\x69nstance", Str.ofString "let", Str.ofString "module", Str.ofString "newtype", Str.ofString "of", Str.ofString "then", Str.ofString "type", Str.ofString "where", Str.ofString "_"]
noncomputable def OPL : List Str := [Str.ofString "..", Str.ofString ":", Str.ofString "::", Str.ofString "=", Str.ofString "\\", Str.ofString "|", Str.ofString "<-", Str.ofString "->", Str.ofString "@", Str.ofString "~", Str.ofString "=>"]
noncomputable def symK (t : List Nat) : Str := if OPL.any (fun y => y == tx t) = true then Str.ofString "op" else if t[0]? = some 58 then Str.ofString "consym" else Str.ofString "varsym"
noncomputable def keyK (t : List Nat) : Str := if KEYL.any (fun y => y == tx t) = true then Str.ofString "key" else Str.ofString "var"

/-- the word that begins at a place: kind, text, value, and where it ends -/
inductive WordR (T : List Nat) : Nat → Str → Str → Dat → Nat → Prop
  | fin {i} : T[i]? = none → WordR T i (Str.ofString "end") (Str.ofString "") .none i
  | special {i} : amg T[i]? SPC = true → WordR T i (Str.ofString "special") (sgo T[i]?) .none (i + 1)
  | dec {i j} : amg T[i]? DIG = true → T[i]? ≠ some 48 → takeEnd T DIG i = j → (cut T i j).length ≤ 20 → floatB T j = false → WordR T i (Str.ofString "int") (tx (cut T i j)) (.int (numN 10 (cut T i j) : Nat)) j
  | hex {i j} : T[i]? = some 48 → T[i + 1]? = some 120 → amg T[i + 2]? HEX = true → takeEnd T HEX (i + 2) = j → (cut T (i + 2) j).length ≤ 20 → WordR T i (Str.ofString "int") (tx (cut T i j)) (.int (numN 16 (cut T (i + 2) j) : Nat)) j
  | small {i j} : amg T[i]? SML = true → takeEnd T NMS i = j → WordR T i (keyK (cut T i j)) (tx (cut T i j)) .none j
  | sym {i j} : amg T[i]? SYM = true → takeEnd T SYM i = j → WordR T i (symK (cut T i j)) (tx (cut T i j)) .none j
  | char {i c} : T[i]? = some 39 → T[i + 1]? = some c → bareO (some c) = true → c ≠ 39 → c ≠ 92 → T[i + 2]? = some 39 → WordR T i (Str.ofString "char") (tx (cut T i (i + 3))) (.str (sgo (some c))) (i + 3)
  | chart {i} : T[i]? = some 39 → T[i + 1]? = some 92 → T[i + 2]? = some 116 → T[i + 3]? = some 39 → WordR T i (Str.ofString "char") (tx (cut T i (i + 4))) (.str (Str.ofString "\t")) (i + 4)
  | text {i j ps} : T[i]? = some 34 → TxtR T (i + 1) ps true j → WordR T i (Str.ofString "text") (tx (cut T i (j + 1))) (.str (Txt.join (Str.ofString "") ps)) (j + 1)
/-- no word begins at this place -/
inductive BadR (T : List Nat) : Nat → Prop
  | float {i} : amg T[i]? DIG = true → T[i]? ≠ some 48 → (cut T i (takeEnd T DIG i)).length ≤ 20 → floatB T (takeEnd T DIG i) = true → BadR T i
  | char {i} : T[i]? = some 39 → i + 2 ≤ T.length → bareO T[i + 1]? = false → BadR T i
  | text {i j ps} : T[i]? = some 34 → TxtR T (i + 1) ps false j → BadR T i
  | other {i c} : T[i]? = some c → SPC.contains c = false → DIG.contains c = false → SML.contains c = false → GRT.contains c = false → SYM.contains c = false → c ≠ 39 → c ≠ 34 → BadR T i
theorem ne_e {o : Option Nat} (h : o ≠ none) : (sgo o == Str.ofString "") = false := by
  rw [sgo_none_iff]; cases o with
  | none => exact absurd rfl h
  | some c => rfl
theorem amg_ne {o : Option Nat} {l : List Nat} (h : amg o l = true) : (sgo o == Str.ofString "") = false := ne_e (by rintro rfl; cases h)
theorem amg_off {o : Option Nat} {l l' : List Nat} (h : amg o l = true) (d : ∀ c ∈ l, l'.contains c = false) : amg o l' = false := by
  cases o with
  | none => cases h
  | some c => exact d c (by simpa [amg] using h)
theorem dig_spc : ∀ c ∈ DIG, SPC.contains c = false := by decide +kernel
theorem sml_spc : ∀ c ∈ SML, SPC.contains c = false := by decide +kernel
theorem sml_dig : ∀ c ∈ SML, DIG.contains c = false := by decide +kernel
theorem sym_spc : ∀ c ∈ SYM, SPC.contains c = false := by decide +kernel
theorem sym_dig : ∀ c ∈ SYM, DIG.contains c = false := by decide +kernel
theorem sym_sml : ∀ c ∈ SYM, SML.contains c = false := by decide +kernel
theorem sym_grt : ∀ c ∈ SYM, GRT.contains c = false := by decide +kernel
theorem le_two {i i' j n : Nat} (h : j + 1 ≤ n ∧ i' ≤ j) (hi : i ≤ i') : j + 1 ≤ n ∧ i ≤ j := ⟨h.1, Nat.le_trans hi h.2⟩
theorem TxtR.le {T : List Nat} {i j : Nat} {ps : List Str} (h : TxtR T i ps true j) : j + 1 ≤ T.length ∧ i ≤ j := by
  generalize hb : true = b at h
  induction h with
  | stop h => exact ⟨TxtR.lt h, Nat.le_refl _⟩
  | bad _ => cases hb
  | plain _ _ _ _ _ ih => exact le_two (ih hb) (Nat.le_add_right _ _)
  | esc _ _ h _ ih => exact le_two (ih hb) (Nat.le_trans (Nat.le_succ _) (Nat.le_trans (Nat.le_succ _) h.le))
  | @gap i _ _ _ _ _ _ _ ih =>
    have := ih hb
    have h2 : i + 1 ≤ takeEnd T WS (i + 1) := Nat.le_add_right _ _
    exact le_two this (Nat.le_trans (Nat.le_succ i) (Nat.le_trans h2 (Nat.le_succ _)))
theorem take_gt {T l : List Nat} {i : Nat} (h : amg T[i]? l = true) : i + 1 ≤ takeEnd T l i := by
  rw [← take_go h]; exact Nat.le_add_right _ _
theorem cut_len {T : List Nat} {i j : Nat} (h : j ≤ T.length) : (cut T i j).length = j - i := by
  unfold cut; rw [List.length_take, List.length_drop]; exact Nat.min_eq_left (Nat.sub_le_sub_right h i)

-- 64p_lex
/-- one word as it is told -/
structure Row where
  (kind text : Str) (val : Dat) (line col : Nat) (first : Bool) (eline ecol : Nat)
/-- what the words of a text are from a place on: rows, and the place of the spoilt word if there is one -/
inductive LexR (T : List Nat) : Nat → Bool → List Row → Option Nat → Prop
  | fin {i f} : T[skipEnd T i]? = none → LexR T i f [⟨Str.ofString "end", Str.ofString "", .none, (lc T (skipEnd T i)).1, (lc T (skipEnd T i)).2, decide ((lc T (skipEnd T i)).1 > (lc T i).1) || f, (lc T (skipEnd T i)).1, (lc T (skipEnd T i)).2⟩] none
  | bad {i f} : BadR T (skipEnd T i) → LexR T i f [] (some (skipEnd T i))
  | word {i f kd tt dv j rows r} : kd ≠ Str.ofString "end" → WordR T (skipEnd T i) kd tt dv j → LexR T j false rows r →
      LexR T i f (⟨kd, tt, dv, (lc T (skipEnd T i)).1, (lc T (skipEnd T i)).2, decide ((lc T (skipEnd T i)).1 > (lc T i).1) || f, (lc T j).1, (lc T j).2⟩ :: rows) r
theorem skipF_le (T : List Nat) : ∀ n i, i ≤ T.length → i ≤ skipF T n i ∧ skipF T n i ≤ T.length
  | 0, i, h => ⟨Nat.le_refl _, h⟩
  | n + 1, i, h => by
    unfold skipF
    split
    · rename_i ha
      have h1 := lt_of_amg ha
      have := skipF_le T n (i + 1) h1
      exact ⟨Nat.le_of_lt this.1, this.2⟩
    · split
      · rename_i hl
        have h1 := lineEnd_gt hl
        have h2 := lineEnd_le h
        have := skipF_le T n _ h2
        exact ⟨Nat.le_trans (Nat.le_of_lt h1) this.1, this.2⟩
      · exact ⟨Nat.le_refl _, h⟩
theorem skipEnd_le {T : List Nat} {i : Nat} (h : i ≤ T.length) : skipEnd T i ≤ T.length := (skipF_le T _ _ h).2
theorem skipEnd_ge {T : List Nat} {i : Nat} (h : i ≤ T.length) : i ≤ skipEnd T i := (skipF_le T _ _ h).1
theorem le3 {P : Prop} {i j n : Nat} (h1 : i < j) (h2 : j ≤ n) : j ≤ n ∧ i ≤ j ∧ (P → i < j) := ⟨h2, Nat.le_of_lt h1, fun _ => h1⟩
theorem WordR.le {T : List Nat} {i j : Nat} {kd tt : Str} {dv : Dat} (h : WordR T i kd tt dv j) (hi : i ≤ T.length) : j ≤ T.length ∧ i ≤ j ∧ (kd ≠ Str.ofString "end" → i < j) := by
  induction h with
  | fin _ => exact ⟨hi, Nat.le_refl _, fun h => absurd rfl h⟩
  | special h => exact le3 (Nat.lt_succ_self i) (lt_of_amg h)
  | dec h _ e _ _ => subst e; have := take_gt h; have h2 := takeEnd_le (l := DIG) hi; exact le3 this h2
  | hex h1 h2 h e _ => subst e; have := take_gt h; have h3 := lt_of_amg h; have h4 := takeEnd_le (l := HEX) (show i + 2 ≤ T.length from Nat.le_of_lt h3); exact le3 (Nat.lt_of_le_of_lt (Nat.le_add_right i 2) this) h4
  | small h e =>
    subst e
    have h1 : amg T[i]? NMS = true := by
      cases ho : T[i]? with
      | none => rw [ho] at h; cases h
      | some c =>
        rw [ho] at h
        have d : ∀ c ∈ SML, NMS.contains c = true := by decide +kernel
        exact d c (by simpa [amg] using h)
    have := take_gt h1; have h2 := takeEnd_le (l := NMS) hi; exact le3 this h2
  | sym h e => subst e; have := take_gt h; have h2 := takeEnd_le (l := SYM) hi; exact le3 this h2
  | char _ _ _ _ _ h => exact le3 (Nat.le_add_right _ 2) (TxtR.lt h)
  | chart _ _ _ h => exact le3 (Nat.le_add_right _ 3) (TxtR.lt h)
  | text _ h => exact le3 (Nat.lt_succ_of_lt h.le.2) h.le.1

-- 65zp_len
theorem LexR.len {T : List Nat} {i : Nat} {f : Bool} {rows : List Row} {r : Option Nat} (h : LexR T i f rows r) (hi : i ≤ T.length) : rows.length ≤ T.length - i + 1 := by
  induction h with
  | fin _ => simp
  | bad _ => simp
  | word h1 h2 _ ih =>
    have h3 := skipEnd_ge hi
    have h4 := h2.le (skipEnd_le hi)
    have h5 := h4.2.2 h1
    have := ih h4.1
    have h6 := Nat.lt_of_le_of_lt h3 h5
    exact Nat.succ_le_succ (Nat.le_trans this (Nat.sub_lt_sub_left (Nat.lt_of_lt_of_le h6 h4.1) h6))

-- 70p_cellar
/-- a word as the law writes it down -/
structure PW where
  (kind text : Str) (val : Dat)
noncomputable def pwD (p : PW) : Dat := .tuple [.str p.kind, .str p.text, p.val]
noncomputable def pn (k t : Str) : PW := ⟨k, t, .none⟩
noncomputable def pi (t : Str) (i : Int) : PW := ⟨Str.ofString "int", t, .int i⟩
noncomputable def ps (k t v : Str) : PW := ⟨k, t, .str v⟩
noncomputable def cellar : List (List PW) :=
  [[pn (Str.ofString "special") (Str.ofString "["), pi (Str.ofString "1") 1, pn (Str.ofString "op") (Str.ofString ".."), pi (Str.ofString "5") 5, pn (Str.ofString "special") (Str.ofString "]")],
   [pi (Str.ofString "1") 1, pn (Str.ofString "varsym") (Str.ofString "."), pn (Str.ofString "var") (Str.ofString "x")],
   [pi (Str.ofString "1") 1, pn (Str.ofString "key") (Str.ofString "else")],
   [pi (Str.ofString "1") 1, pn (Str.ofString "var") (Str.ofString "e")],
   [pi (Str.ofString "2") 2, pn (Str.ofString "var") (Str.ofString "e"), pn (Str.ofString "varsym") (Str.ofString "+"), pn (Str.ofString "var") (Str.ofString "a")],
   [pi (Str.ofString "2") 2, pn (Str.ofString "var") (Str.ofString "e_1"), pn (Str.ofString "varsym") (Str.ofString "-"), pi (Str.ofString "1") 1],
   [pi (Str.ofString "0x1e3") 483],
   [pi (Str.ofString "0x1") 1, pn (Str.ofString "varsym") (Str.ofString "."), pi (Str.ofString "5") 5],
   [pn (Str.ofString "var") (Str.ofString "f1e3")],
   [pn (Str.ofString "varsym") (Str.ofString "."), pi (Str.ofString "5") 5],
   [ps (Str.ofString "char") (Str.ofString "'\\t'") (Str.ofString "\t")],
   [ps (Str.ofString "text") (Str.ofString "\"a\\tb\\DEL\\f\"") (Str.ofString "a\tb\x7f\x0c")],
   [ps (Str.ofString "text") (Str.ofString "\"a\\\t \\b\"") (Str.ofString "ab")],
   [ps (Str.ofString "text") (Str.ofString "\"a\\\n \\b\"") (Str.ofString "ab"), pn (Str.ofString "varsym") (Str.ofString "!"), ps (Str.ofString "text") (Str.ofString "\"c\"") (Str.ofString "c")],
   [pn (Str.ofString "") (Str.ofString "--é x\n")],
   [pn (Str.ofString "var") (Str.ofString "a"), pn (Str.ofString "") (Str.ofString " -- →\r"), pn (Str.ofString "var") (Str.ofString "b")],
   [ps (Str.ofString "char") (Str.ofString "'é'") (Str.ofString "é")]]
noncomputable def cellarD : Dat := .list (cellar.map fun l => .list (l.map pwD))
/-- what is known of the reading of a value -/
noncomputable def inv (news : List (Addr × Obj)) (v : Value) : Dat → Prop
  | .int x => ∃ t, v = .int x t
  | .str x => ∃ t, v = .str x t
  | .bool x => v = .bool x
  | .tuple ds => ∃ a vs n, v = .ref a ∧ (a, ({ cls := .type "tuple", data := .seq vs.toArray n } : Obj)) ∈ news ∧ DatAll news vs ds
  | .list ds => ∃ l vs n, v = .ref l ∧ (l, PySem.W.listOf vs.toArray n) ∈ news ∧ DatAll news vs ds
  | _ => True
noncomputable def invs (news : List (Addr × Obj)) (vs : List Value) : List Dat → Prop
  | [] => vs = []
  | d :: ds => ∃ v vs', vs = v :: vs' ∧ DatIn news v d ∧ DatAll news vs' ds
section
variable {news : List (Addr × Obj)} {v : Value} {vs : List Value} {d : Dat} {ds : List Dat}
theorem DatIn.inv (h : DatIn news v d) : Mine.inv news v d :=
  DatIn.casesOn (motive_1 := fun v d _ => Mine.inv news v d) h trivial (fun _ => rfl) (fun _ t => ⟨t, rfl⟩) (fun _ t => ⟨t, rfl⟩) (fun _ _ => trivial) (fun m r => ⟨_, _, _, rfl, m, r⟩) (fun m r => ⟨_, _, _, rfl, m, r⟩)
theorem DatAll.inv (h : DatAll news vs ds) : invs news vs ds :=
  DatAll.casesOn (motive_2 := fun v d _ => invs news v d) h rfl (fun a b => ⟨_, _, rfl, a, b⟩)
theorem DatIn.asList (h : DatIn news v (.list ds)) : ∃ l vs n, v = .ref l ∧ (l, PySem.W.listOf vs.toArray n) ∈ news ∧ DatAll news vs ds := Mine.DatIn.inv h
theorem DatAll.cons_inv (h : DatAll news vs (d :: ds)) : ∃ v vs', vs = v :: vs' ∧ DatIn news v d ∧ DatAll news vs' ds := Mine.DatAll.inv h
theorem DatAll.nil_inv (h : DatAll news vs []) : vs = [] := Mine.DatAll.inv h
theorem DatIn.str_inv {x : Str} (h : DatIn news v (.str x)) : ∃ t, v = .str x t := Mine.DatIn.inv h
theorem DatIn.int_inv {x : Int} (h : DatIn news v (.int x)) : ∃ t, v = .int x t := Mine.DatIn.inv h
theorem DatIn.bool_inv {x : Bool} (h : DatIn news v (.bool x)) : v = .bool x := Mine.DatIn.inv h
theorem DatIn.tuple_inv (h : DatIn news v (.tuple ds)) : ∃ a vs n, v = .ref a ∧ (a, ({ cls := .type "tuple", data := .seq vs.toArray n } : Obj)) ∈ news ∧ DatAll news vs ds := Mine.DatIn.inv h
theorem DatAll.two {d1 d2 : Dat} (h : DatAll news vs [d1, d2]) : ∃ v1 v2, vs = [v1, v2] ∧ DatIn news v1 d1 ∧ DatIn news v2 d2 := by
  refine byC fun hn => ?_
  obtain ⟨v1, a1, e1, h1, g1⟩ := DatAll.cons_inv h
  obtain ⟨v2, a2, e2, h2, g2⟩ := DatAll.cons_inv g1
  exact hn ⟨v1, v2, e1.trans (congrArg _ (e2.trans (congrArg _ (DatAll.nil_inv g2)))), h1, h2⟩
theorem DatAll.three {d1 d2 d3 : Dat} (h : DatAll news vs [d1, d2, d3]) : ∃ v1 v2 v3, vs = [v1, v2, v3] ∧ DatIn news v1 d1 ∧ DatIn news v2 d2 ∧ DatIn news v3 d3 := by
  refine byC fun hn => ?_
  obtain ⟨v1, a1, e1, h1, g1⟩ := DatAll.cons_inv h
  obtain ⟨v2, v3, e2, h2⟩ := DatAll.two g1
  exact hn ⟨v1, v2, v3, e1.trans (congrArg _ e2), h1, h2⟩
theorem DatAll.four {d1 d2 d3 d4 : Dat} (h : DatAll news vs [d1, d2, d3, d4]) : ∃ v1 v2 v3 v4, vs = [v1, v2, v3, v4] ∧ DatIn news v1 d1 ∧ DatIn news v2 d2 ∧ DatIn news v3 d3 ∧ DatIn news v4 d4 := by
  refine byC fun hn => ?_
  obtain ⟨v1, a1, e1, h1, g1⟩ := DatAll.cons_inv h
  obtain ⟨v2, v3, v4, e2, h2⟩ := DatAll.three g1
  exact hn ⟨v1, v2, v3, v4, e1.trans (congrArg _ e2), h1, h2⟩
theorem DatAll.seven {d1 d2 d3 d4 d5 d6 d7 : Dat} (h : DatAll news vs [d1, d2, d3, d4, d5, d6, d7]) : ∃ v1 v2 v3 v4 v5 v6 v7, vs = [v1, v2, v3, v4, v5, v6, v7] ∧ DatIn news v1 d1 ∧ DatIn news v2 d2 ∧ DatIn news v3 d3 ∧ DatIn news v4 d4 ∧ DatIn news v5 d5 ∧ DatIn news v6 d6 ∧ DatIn news v7 d7 := by
  refine byC fun hn => ?_
  obtain ⟨v1, a1, e1, h1, g1⟩ := DatAll.cons_inv h
  obtain ⟨v2, a2, e2, h2, g2⟩ := DatAll.cons_inv g1
  obtain ⟨v3, a3, e3, h3, g3⟩ := DatAll.cons_inv g2
  obtain ⟨v4, v5, v6, v7, e4, h4⟩ := DatAll.four g3
  exact hn ⟨v1, v2, v3, v4, v5, v6, v7, e1.trans (congrArg _ (e2.trans (congrArg _ (e3.trans (congrArg _ e4))))), h1, h2, h3, h4⟩
end

-- 72p_pour
/-- the law's own count of lines and columns -/
noncomputable def pourF : List Nat → Nat × Nat × Bool → Nat × Nat × Bool
  | [], p => p
  | a :: r, p =>
    if a = 10 ∨ a = 12 then pourF r (p.1 + 1, 1, true)
    else if a = 13 ∧ r[0]? ≠ some 10 then pourF r (p.1 + 1, 1, true)
    else if a = 9 then pourF r (p.1, p.2.1 + 8 - (p.2.1 - 1) % 8, p.2.2)
    else pourF r (p.1, p.2.1 + 1, p.2.2)
theorem pour_nl {y : List Nat} {i : Nat} {p : Nat × Nat × Bool} (h : y[i]? = some 10 ∨ y[i]? = some 12) : pourF (y.drop i) p = pourF (y.drop (i + 1)) (p.1 + 1, 1, true) := by
  obtain ⟨c, hc, h2⟩ : ∃ c, y[i]? = some c ∧ (c = 10 ∨ c = 12) := by rcases h with h | h <;> exact ⟨_, h, by simp⟩
  obtain ⟨hlt, he⟩ := List.getElem?_eq_some_iff.mp hc
  rw [List.drop_eq_getElem_cons hlt, he]
  conv => lhs; unfold pourF
  rw [if_pos h2]
theorem drop0 {y : List Nat} {i : Nat} : (y.drop (i + 1))[0]? = y[i + 1]? := by rw [List.getElem?_drop, Nat.add_zero]
theorem pour_cr {y : List Nat} {i : Nat} {p : Nat × Nat × Bool} (h : y[i]? = some 13) (h2 : y[i + 1]? ≠ some 10) : pourF (y.drop i) p = pourF (y.drop (i + 1)) (p.1 + 1, 1, true) := by
  obtain ⟨hlt, he⟩ := List.getElem?_eq_some_iff.mp h
  rw [List.drop_eq_getElem_cons hlt, he]
  conv => lhs; unfold pourF
  rw [if_neg (by decide), if_pos ⟨rfl, by rw [drop0]; exact h2⟩]
theorem pour_tab {y : List Nat} {i : Nat} {p : Nat × Nat × Bool} (h : y[i]? = some 9) : pourF (y.drop i) p = pourF (y.drop (i + 1)) (p.1, p.2.1 + 8 - (p.2.1 - 1) % 8, p.2.2) := by
  obtain ⟨hlt, he⟩ := List.getElem?_eq_some_iff.mp h
  rw [List.drop_eq_getElem_cons hlt, he]
  conv => lhs; unfold pourF
  rw [if_neg (by decide), if_neg (by rintro ⟨h, _⟩; exact absurd h (by decide)), if_pos rfl]
theorem pour_more {y : List Nat} {i c : Nat} {p : Nat × Nat × Bool} (h : y[i]? = some c) (h1 : ¬ (c = 10 ∨ c = 12)) (h2 : ¬ (c = 13 ∧ y[i + 1]? ≠ some 10)) (h3 : ¬ c = 9) : pourF (y.drop i) p = pourF (y.drop (i + 1)) (p.1, p.2.1 + 1, p.2.2) := by
  obtain ⟨hlt, he⟩ := List.getElem?_eq_some_iff.mp h
  rw [List.drop_eq_getElem_cons hlt, he]
  conv => lhs; unfold pourF
  rw [if_neg h1, if_neg (by rw [drop0]; exact h2), if_neg h3]
theorem tx_app (a b : List Nat) : tx a ++ tx b = tx (a ++ b) := by
  show (⟨a.toArray ++ b.toArray⟩ : Str) = ⟨(a ++ b).toArray⟩
  rw [List.append_toArray]
theorem starts_nl (y : List Nat) (i : Nat) : startsB y i (Str.ofString "\n") = (y[i]? == some 10) := by
  unfold startsB
  rw [show (Str.ofString "\n").cps.toList = [10] by decide +kernel, show (Str.ofString "\n").length = 1 by decide +kernel]
  rcases hc : y[i]? with _ | c
  · rw [List.getElem?_eq_none_iff] at hc
    rw [List.drop_eq_nil_of_le hc]; rfl
  · obtain ⟨hlt, he⟩ := List.getElem?_eq_some_iff.mp hc
    rw [List.drop_eq_getElem_cons hlt, he]
    rw [Bool.eq_iff_iff]
    simp
theorem slice_nl {y : List Nat} {i : Nat} {z1 z2 : Int} (h1 : z1 = ((i + 1 : Nat) : Int)) (h2 : z2 = ((i + 1 + 1 : Nat) : Int)) (hi : i + 1 ≤ y.length) : (Txt.slice (tx y) (some z1) (some z2) != Str.ofString "\n") = !(y[i + 1]? == some 10) := by
  rw [bne, starts_eq h1 (by rw [h2, show (Str.ofString "\n").length = 1 by decide +kernel]) hi, starts_nl]
theorem tabW {c : Nat} (h : 1 ≤ c) : ((c : Int) + 8 - ((c : Int) - 1).fmod 8) = ((c + 8 - (c - 1) % 8 : Nat) : Int) := by
  obtain ⟨d, rfl⟩ : ∃ d, c = d + 1 := ⟨c - 1, (Nat.sub_add_cancel h).symm⟩
  have e : (((d + 1 : Nat) : Int) - 1) = (d : Int) := Int.add_sub_cancel (d : Int) 1
  rw [Int.fmod_eq_emod_of_nonneg _ (by decide), e, Nat.add_sub_cancel]
  exact (Int.ofNat_sub (Nat.le_trans (Nat.mod_le d 8) (Nat.le_trans (Nat.le_succ d) (Nat.le_add_right _ 8)))).symm
theorem nl_or {o : Option Nat} (h : (!(o == some 10 || o == some 12)) = false) : o = some 10 ∨ o = some 12 := by
  have h2 : (o == some 10 || o == some 12) = true := by
    cases hq : (o == some 10 || o == some 12) with
    | true => rfl
    | false => rw [hq] at h; exact absurd h (by decide)
  rcases Bool.or_eq_true_iff.mp h2 with h | h
  · exact .inl (beq_iff_eq.mp h)
  · exact .inr (beq_iff_eq.mp h)

-- 73p_page
/-- the page in the making: its text, line, column, whether a word would be the first on its line, and the rows that are due -/
structure PS where
  (S : List Nat) (p : Nat × Nat × Bool) (ds : List Dat)
noncomputable def rowT (kd : Str) (y : List Nat) (dvv : Dat) (p p' : Nat × Nat × Bool) : Dat :=
  .tuple [.str kd, .str (tx y), dvv, .int (p.1 : Int), .int (p.2.1 : Int), .bool p.2.2, .tuple [.int (p'.1 : Int), .int (p'.2.1 : Int)]]
noncomputable def setW (st : PS) (x : PW) : PS :=
  if (x.kind != Str.ofString "") = true then
    ⟨st.S ++ x.text.cps.toList, ((pourF x.text.cps.toList st.p).1, (pourF x.text.cps.toList st.p).2.1, false), st.ds ++ [rowT x.kind x.text.cps.toList x.val st.p (pourF x.text.cps.toList st.p)]⟩
  else ⟨st.S ++ x.text.cps.toList, pourF x.text.cps.toList st.p, st.ds⟩
noncomputable def gapsL : List (List Nat) := [[32], [32, 32], [10], [13], [13, 10, 32], [12], [32, 12, 13, 32]]
noncomputable def pourG (st : PS) (g : List Nat) : PS := ⟨st.S ++ g, pourF g st.p, st.ds⟩
noncomputable def turnF (st : PS) (q : List PW × List Nat) : PS := pourG (q.1.foldl setW st) q.2
noncomputable def pageF (picks : List (List PW × List Nat)) : PS := picks.foldl turnF ⟨[], (1, 1, true), []⟩
/-- how far a page may have come -/
noncomputable def Bnd (st : PS) (n : Nat) : Prop := st.S.length ≤ n ∧ st.p.1 ≤ 1 + n ∧ 1 ≤ st.p.2.1 ∧ st.p.2.1 ≤ 1 + 8 * n ∧ st.ds.length ≤ n
theorem pour_step0 {l c n l' c' x y : Nat} (h1 : l' ≤ l + 1) (h3 : c' ≤ c + 8) (hx : x ≤ l' + n) (hy : y ≤ c' + 8 * n) : x ≤ l + (n + 1) ∧ y ≤ c + 8 * (n + 1) :=
  ⟨Nat.le_trans hx (Nat.le_trans (Nat.add_le_add_right h1 n) (Nat.le_of_eq (Nat.add_right_comm l 1 n))), Nat.le_trans hy (Nat.le_trans (Nat.add_le_add_right h3 (8 * n)) (Nat.le_of_eq (Nat.add_right_comm c 8 (8 * n))))⟩
theorem tab_ge (c : Nat) : 1 ≤ c + 8 - (c - 1) % 8 := Nat.sub_pos_of_lt (Nat.lt_of_lt_of_le (Nat.mod_lt _ (by decide)) (Nat.le_add_left 8 c))
theorem pourF_bnd0 : ∀ (y : List Nat) (p : Nat × Nat × Bool), 1 ≤ p.2.1 → 1 ≤ (pourF y p).2.1 ∧ (pourF y p).1 ≤ p.1 + y.length ∧ (pourF y p).2.1 ≤ p.2.1 + 8 * y.length
  | [], p, h => ⟨h, Nat.le_refl _, Nat.le_refl _⟩
  | a :: r, p, h => by
    unfold pourF
    split
    · have := pourF_bnd0 r (p.1 + 1, 1, true) (Nat.le_refl _)
      exact ⟨this.1, pour_step0 (Nat.le_refl _) (Nat.le_add_left 1 _) this.2.1 this.2.2⟩
    · split
      · have := pourF_bnd0 r (p.1 + 1, 1, true) (Nat.le_refl _)
        exact ⟨this.1, pour_step0 (Nat.le_refl _) (Nat.le_add_left 1 _) this.2.1 this.2.2⟩
      · split
        · have := pourF_bnd0 r (p.1, p.2.1 + 8 - (p.2.1 - 1) % 8, p.2.2) (tab_ge _)
          exact ⟨this.1, pour_step0 (Nat.le_succ _) (Nat.sub_le _ _) this.2.1 this.2.2⟩
        · have := pourF_bnd0 r (p.1, p.2.1 + 1, p.2.2) (Nat.le_add_left 1 _)
          exact ⟨this.1, pour_step0 (Nat.le_succ _) (Nat.add_le_add_left (by decide) _) this.2.1 this.2.2⟩
theorem pourF_bnd (y : List Nat) (p : Nat × Nat × Bool) (h : 1 ≤ p.2.1) : (pourF y p).1 ≤ p.1 + y.length ∧ 1 ≤ (pourF y p).2.1 ∧ (pourF y p).2.1 ≤ max p.2.1 1 + 8 * y.length := by
  rw [Nat.max_eq_left h]
  exact ⟨(pourF_bnd0 y p h).2.1, (pourF_bnd0 y p h).1, (pourF_bnd0 y p h).2.2⟩
theorem bnd_add {st : PS} {n : Nat} (h : Bnd st n) (y : List Nat) (d : List Dat) (hd : d.length ≤ n + y.length) : Bnd ⟨st.S ++ y, pourF y st.p, d⟩ (n + y.length) := by
  have b := pourF_bnd0 y st.p h.2.2.1
  refine ⟨?_, Nat.le_trans b.2.1 ?_, b.1, Nat.le_trans b.2.2 ?_, hd⟩
  · show (st.S ++ y).length ≤ _
    rw [List.length_append]; exact Nat.add_le_add_right h.1 _
  · rw [← Nat.add_assoc]; exact Nat.add_le_add_right h.2.1 _
  · rw [Nat.mul_add, ← Nat.add_assoc]; exact Nat.add_le_add_right h.2.2.2.1 _
theorem setW_bnd {st : PS} {n : Nat} {x : PW} (h : Bnd st n) (hx : 1 ≤ x.text.cps.toList.length) : Bnd (setW st x) (n + x.text.cps.toList.length) := by
  unfold setW
  split
  · exact bnd_add h _ _ (by rw [List.length_append]; exact Nat.add_le_add h.2.2.2.2 hx)
  · exact bnd_add h _ _ (Nat.le_trans h.2.2.2.2 (Nat.le_add_right _ _))
noncomputable def wlen (l : List PW) : Nat := (l.map fun x => x.text.cps.toList.length).sum
theorem sets_bnd : ∀ {l : List PW} {st : PS} {n : Nat}, Bnd st n → (∀ x ∈ l, 1 ≤ x.text.cps.toList.length) → Bnd (l.foldl setW st) (n + wlen l)
  | [], st, n, h, _ => h
  | x :: l, st, n, h, hx => by
    have h1 := sets_bnd (l := l) (setW_bnd h (hx x (.head _))) fun y hy => hx y (.tail _ hy)
    simp only [wlen, List.map_cons, List.sum_cons] at h1 ⊢
    rw [← Nat.add_assoc]
    exact h1
theorem pourG_bnd {st : PS} {n : Nat} {g : List Nat} (h : Bnd st n) : Bnd (pourG st g) (n + g.length) :=
  bnd_add h _ _ (Nat.le_trans h.2.2.2.2 (Nat.le_add_right _ _))
theorem cellar_len : ∀ l ∈ cellar, wlen l ≤ 40 ∧ ∀ x ∈ l, 1 ≤ x.text.cps.toList.length := by decide +kernel
theorem gaps_len : ∀ g ∈ gapsL, g.length ≤ 4 := by decide
theorem Bnd.up {st : PS} {n m : Nat} (h : Bnd st n) (hm : n ≤ m) : Bnd st m := by
  obtain ⟨h1, h2, h3, h4, h5⟩ := h
  exact ⟨Nat.le_trans h1 hm, Nat.le_trans h2 (Nat.add_le_add_left hm 1), h3, Nat.le_trans h4 (Nat.add_le_add_left (Nat.mul_le_mul_left 8 hm) 1), Nat.le_trans h5 hm⟩
theorem page_bnd : ∀ (picks : List (List PW × List Nat)) (st : PS) (n : Nat), Bnd st n → (∀ q ∈ picks, q.1 ∈ cellar ∧ q.2 ∈ gapsL) → Bnd (picks.foldl turnF st) (n + 44 * picks.length)
  | [], st, n, h, _ => h
  | q :: r, st, n, h, hq => by
    have c := cellar_len q.1 (hq q (.head _)).1
    have g := gaps_len q.2 (hq q (.head _)).2
    have h1 := pourG_bnd (g := q.2) (sets_bnd h c.2)
    have h2 := page_bnd r (turnF st q) (n + 44) (h1.up (show n + wlen q.1 + q.2.length ≤ n + 40 + 4 from Nat.add_le_add (Nat.add_le_add_left c.1 n) g)) fun x hx => hq x (.tail _ hx)
    simp only [List.foldl_cons, List.length_cons]
    exact h2.up (by rw [Nat.mul_succ, ← Nat.add_assoc]; exact Nat.le_of_eq (Nat.add_right_comm n 44 _))
theorem wlen_pre {pre post : List PW} : wlen pre ≤ wlen (pre ++ post) := by
  unfold wlen
  rw [List.map_append, List.sum_append]
  exact Nat.le_add_right _ _
theorem tx_cps (s : Str) : tx s.cps.toList = s := by
  obtain ⟨⟨l⟩⟩ := s; rfl
noncomputable def scal : Dat → Bool
  | .none => true
  | .int _ => true
  | .str _ => true
  | _ => false
theorem scal_in {news : List (Addr × Obj)} {v : Value} {d : Dat} (hs : scal d = true) (h : DatIn news v d) : DatIn [] v d :=
  DatIn.casesOn (motive_1 := fun v d _ => scal d = true → DatIn [] v d) h (fun _ => .none) (fun _ e => nomatch e) (fun i t _ => .int i t) (fun x t _ => .str x t) (fun _ _ e => nomatch e) (fun _ _ e => nomatch e) (fun _ _ e => nomatch e) hs
theorem cellar_scal : ∀ l ∈ cellar, ∀ x ∈ l, scal x.val = true := by decide +kernel
theorem pw_in {news : List (Addr × Obj)} {v : Value} {x : PW} (h : DatIn news v (pwD x)) : ∃ a ta tb v3 n, v = .ref a ∧ (a, ({ cls := .type "tuple", data := .seq #[.str x.kind ta, .str (tx x.text.cps.toList) tb, v3] n } : Obj)) ∈ news ∧ DatIn news v3 x.val := by
  refine byC fun hn => ?_
  obtain ⟨a, vs, n, e, hm, hd⟩ := DatIn.tuple_inv (show DatIn news v (.tuple _) from h)
  obtain ⟨v1, v2, v3, e1, h1, h2, h3⟩ := DatAll.three hd
  obtain ⟨ta, e2⟩ := DatIn.str_inv h1
  obtain ⟨tb, e3⟩ := DatIn.str_inv h2
  exact hn ⟨a, ta, tb, v3, n, e, by rw [tx_cps, ← e2, ← e3, ← e1]; exact hm, h3⟩
theorem word_le {l : List PW} {x : PW} {n : Nat} (h : wlen l ≤ n) (hx : x ∈ l) (hn : n ≤ 1000 := by decide) : x.text.cps.toList.length ≤ 1000 := by
  have : x.text.cps.toList.length ≤ wlen l := by
    unfold wlen
    induction l with
    | nil => cases hx
    | cons y r ih =>
      rw [List.map_cons, List.sum_cons]
      rcases List.mem_cons.mp hx with rfl | hx
      · exact Nat.le_add_right _ _
      · have := ih (by unfold wlen at h ⊢; rw [List.map_cons, List.sum_cons] at h; omega) hx
        omega
  omega

-- 75p_spoilt
/-- the spoilt words, and how far in they are spoilt -/
noncomputable def spoiltL : List (Str × Nat) :=
  [(Str.ofString "1.5", 0), (Str.ofString "1e3", 0), (Str.ofString "2E+7", 0), (Str.ofString "30e-1", 0), (Str.ofString "'\t'", 0), (Str.ofString "'\x00'", 0), (Str.ofString "\"a\tb\"", 0), (Str.ofString "\"\x7f\"", 0), (Str.ofString "\"a\x0cb\"", 0), (Str.ofString "\"a\r\"", 0), (Str.ofString "--→", 2), (Str.ofString "---±x", 3)]
noncomputable def spD (q : Str × Nat) : Dat := .tuple [.str q.1, .int (q.2 : Int)]
theorem sp_in {news : List (Addr × Obj)} {v : Value} {q : Str × Nat} (h : DatIn news v (spD q)) : ∃ a t u n, v = .ref a ∧ (a, ({ cls := .type "tuple", data := .seq #[.str (tx q.1.cps.toList) t, .int (q.2 : Int) u] n } : Obj)) ∈ news := by
  refine byC fun hn => ?_
  obtain ⟨a, vs, n, e, hm, hd⟩ := DatIn.tuple_inv (show DatIn news v (.tuple _) from h)
  obtain ⟨v1, v2, e1, h1, h2⟩ := DatAll.two hd
  obtain ⟨t, e2⟩ := DatIn.str_inv h1
  obtain ⟨u, e3⟩ := DatIn.int_inv h2
  exact hn ⟨a, t, u, n, e, by rw [tx_cps, ← e2, ← e3, ← e1]; exact hm⟩

-- 94p_lx
/-- one sign of a page: where the next one stands -/
noncomputable def stepP (a : Nat) (nx : Option Nat) (p : Nat × Nat × Bool) : Nat × Nat × Bool :=
  if a = 10 ∨ a = 12 then (p.1 + 1, 1, true)
  else if a = 13 ∧ nx ≠ some 10 then (p.1 + 1, 1, true)
  else if a = 9 then (p.1, p.2.1 + 8 - (p.2.1 - 1) % 8, p.2.2)
  else (p.1, p.2.1 + 1, p.2.2)
noncomputable def pourR : List Nat → List Nat → Nat × Nat × Bool → Nat × Nat × Bool
  | [], _, p => p
  | a :: y, R, p => pourR y R (stepP a (y ++ R)[0]? p)
theorem pourF_step (a : Nat) (y : List Nat) (p : Nat × Nat × Bool) : pourF (a :: y) p = pourF y (stepP a y[0]? p) := by
  conv => lhs; unfold pourF
  unfold stepP
  split
  · rfl
  · split
    · rfl
    · split <;> rfl
theorem pourR_eq : ∀ (y R : List Nat) (p : Nat × Nat × Bool), (y.getLast? ≠ some 13 ∨ R[0]? ≠ some 10) → pourR y R p = pourF y p
  | [], _, _, _ => rfl
  | [a], R, p, h => by
    rw [pourF_step]
    show stepP a R[0]? p = stepP a none p
    rcases h with h | h
    · have ha : a ≠ 13 := fun e => h (by rw [e]; rfl)
      unfold stepP
      simp [ha]
    · unfold stepP
      simp [h]
  | a :: b :: y, R, p, h => by
    rw [pourF_step]
    show pourR (b :: y) R (stepP a (some b) p) = pourF (b :: y) (stepP a (some b) p)
    exact pourR_eq (b :: y) R _ (by rwa [List.getLast?_cons_cons] at h)
theorem tab_same {c : Nat} (h : 1 ≤ c) : (c - 1) / 8 * 8 + 8 + 1 = c + 8 - (c - 1) % 8 := by
  obtain ⟨d, rfl⟩ : ∃ d, c = d + 1 := ⟨c - 1, (Nat.sub_add_cancel h).symm⟩
  rw [Nat.add_sub_cancel]
  exact Nat.eq_sub_of_add_eq ((Nat.add_right_comm _ 9 _).trans (congrArg (· + 9) (Nat.div_add_mod' d 8)))
theorem lc_step {T : List Nat} {k a : Nat} (h : T[k]? = some a) (f : Bool) : lc T (k + 1) = ((stepP a T[k + 1]? ((lc T k).1, (lc T k).2, f)).1, (stepP a T[k + 1]? ((lc T k).1, (lc T k).2, f)).2.1) := by
  have hb := (lc_bound T k).2.1
  unfold stepP
  split
  · rename_i h1
    exact lc_nl (by rcases h1 with h1 | h1 <;> simp [h, h1])
  · rename_i h1
    split
    · rename_i h2
      exact lc_cr (by simp [h, h2.1]) (by simp [h2.2])
    · rename_i h2
      split
      · rename_i h3
        rw [lc_tab (by simp [h, h3]), tab_same hb]
      · rename_i h3
        refine lc_more (by simp [h]; omega) (fun h4 => ?_) (by simp [h, h3])
        have : a = 13 := by simpa [h] using h4
        by_cases h5 : T[k + 1]? = some 10
        · simp [h5]
        · exact absurd ⟨this, h5⟩ h2
theorem stepP_flag (a : Nat) (nx : Option Nat) (l c : Nat) (f : Bool) (l0 : Nat) (f0 : Bool) (h0 : l0 ≤ l) (hf : f = (decide (l > l0) || f0)) :
    (stepP a nx (l, c, f)).2.2 = (decide ((stepP a nx (l, c, f)).1 > l0) || f0) ∧ l0 ≤ (stepP a nx (l, c, f)).1 := by
  unfold stepP
  have q : true = (decide (l + 1 > l0) || f0) := by rw [decide_eq_true (Nat.lt_succ_of_le h0)]; rfl
  split
  · exact ⟨q, Nat.le_succ_of_le h0⟩
  · split
    · exact ⟨q, Nat.le_succ_of_le h0⟩
    · split
      · exact ⟨hf, h0⟩
      · exact ⟨hf, h0⟩
/-- where a place of a text stands, seen from a place before it -/
noncomputable def AtP (T : List Nat) (i : Nat) (f : Bool) (k : Nat) (p : Nat × Nat × Bool) : Prop :=
  p = ((lc T k).1, (lc T k).2, decide ((lc T k).1 > (lc T i).1) || f) ∧ (lc T i).1 ≤ (lc T k).1
theorem AtP.step {T : List Nat} {i k a : Nat} {f : Bool} {p : Nat × Nat × Bool} (h : AtP T i f k p) (ha : T[k]? = some a) : AtP T i f (k + 1) (stepP a T[k + 1]? p) := by
  obtain ⟨rfl, h2⟩ := h
  have e := lc_step ha (decide ((lc T k).1 > (lc T i).1) || f)
  have q := stepP_flag a T[k + 1]? (lc T k).1 (lc T k).2 (decide ((lc T k).1 > (lc T i).1) || f) (lc T i).1 f h2 rfl
  generalize stepP a T[k + 1]? ((lc T k).1, (lc T k).2, decide ((lc T k).1 > (lc T i).1) || f) = st at e q
  obtain ⟨a1, a2, a3⟩ := st
  unfold AtP
  rw [e]
  exact ⟨by rw [Prod.mk.injEq, Prod.mk.injEq]; exact ⟨rfl, rfl, q.1⟩, q.2⟩
theorem drop_cons {T S : List Nat} {k a : Nat} (h : T.drop k = a :: S) : T[k]? = some a ∧ T.drop (k + 1) = S ∧ T[k + 1]? = S[0]? := by
  have h1 : T[k]? = some a := by
    have := congrArg (fun l => l[0]?) h
    simpa using this
  have h2 : T.drop (k + 1) = S := by
    have := congrArg (fun l => l.drop 1) h
    simpa [List.drop_drop] using this
  exact ⟨h1, h2, by rw [← h2, List.getElem?_drop]⟩
theorem AtP.pour {T : List Nat} {i : Nat} {f : Bool} : ∀ (y : List Nat) {R : List Nat} {k : Nat} {p : Nat × Nat × Bool}, AtP T i f k p → T.drop k = y ++ R → AtP T i f (k + y.length) (pourR y R p) ∧ T.drop (k + y.length) = R
  | [], _, _, _, h, e => ⟨h, e⟩
  | a :: y, R, k, p, h, e => by
    obtain ⟨h1, h2, h3⟩ := drop_cons e
    have h4 := h.step h1
    rw [h3] at h4
    have := AtP.pour y h4 h2
    rw [List.length_cons, show k + (y.length + 1) = k + 1 + y.length by omega]
    exact this

-- 95p_lx2
theorem amg_drop {T : List Nat} {k a : Nat} {l : List Nat} : amg (T.drop k)[a]? l = amg T[k + a]? l := by rw [List.getElem?_drop]
theorem takeEnd_drop {T l : List Nat} {k a : Nat} : takeEnd T l (k + a) = k + takeEnd (T.drop k) l a := by
  unfold takeEnd
  rw [List.drop_drop, Nat.add_assoc]
theorem lineEnd_drop {T : List Nat} {k a : Nat} : lineEnd T (k + a) = k + lineEnd (T.drop k) a := by
  unfold lineEnd
  rw [List.drop_drop, Nat.add_assoc]
theorem cut_drop {T : List Nat} {k a b : Nat} : cut T (k + a) (k + b) = cut (T.drop k) a b := by
  unfold cut
  rw [List.drop_drop, Nat.add_sub_add_left k b a]
theorem starts_drop {T : List Nat} {k a : Nat} {y : Str} : startsB T (k + a) y = startsB (T.drop k) a y := by
  unfold startsB
  rw [List.drop_drop]
theorem float_drop {T : List Nat} {k a : Nat} : floatB T (k + a) = floatB (T.drop k) a := by
  unfold floatB
  simp only [List.getElem?_drop, Nat.add_assoc]
theorem lcm_drop {T : List Nat} {k a : Nat} : lcm T (k + a) = lcm (T.drop k) a := by
  unfold lcm
  rw [starts_drop, Nat.add_assoc, takeEnd_drop, List.getElem?_drop]
theorem gd {T : List Nat} {k a : Nat} {o : Option Nat} (h : (T.drop k)[a]? = o) : T[k + a]? = o := by rw [← h, List.getElem?_drop]
theorem EscR.shift {T : List Nat} {k i c q : Nat} {p : Str} (h : EscR (T.drop k) i c p q) : EscR T (k + i) c p (k + q) := by
  cases h with
  | t => exact .t
  | f => exact .f
  | del h => exact .del (by rw [starts_drop]; exact h)
theorem TxtR.shift {T : List Nat} {k : Nat} {i : Nat} {ps : List Str} {b : Bool} {j : Nat} (h : TxtR (T.drop k) i ps b j) : TxtR T (k + i) ps b (k + j) := by
  induction h with
  | stop h => exact .stop (gd h)
  | bad h => exact .bad (by rw [List.getElem?_drop] at h; exact h)
  | plain h1 h2 h3 h4 _ ih => exact .plain (gd h1) h2 h3 h4 (by rw [Nat.add_assoc]; exact ih)
  | esc h1 h2 h3 _ ih => exact .esc (gd h1) (by rw [Nat.add_assoc]; exact gd h2) (by rw [Nat.add_assoc]; exact h3.shift) ih
  | gap h1 h2 h3 _ ih =>
    refine .gap (gd h1) (by rw [Nat.add_assoc, ← amg_drop]; exact h2) (by rw [Nat.add_assoc, takeEnd_drop]; exact gd h3) ?_
    rw [Nat.add_assoc, takeEnd_drop, Nat.add_assoc]
    exact ih
theorem WordR.shift {T : List Nat} {k i j : Nat} {kd tt : Str} {dv : Dat} (h : WordR (T.drop k) i kd tt dv j) : WordR T (k + i) kd tt dv (k + j) := by
  induction h with
  | fin h => exact .fin (gd h)
  | special h => rw [List.getElem?_drop]; exact .special (by rw [← amg_drop]; exact h)
  | dec h1 h2 h3 h4 h5 =>
    subst h3
    have := WordR.dec (T := T) (i := k + i) (j := k + takeEnd (T.drop k) DIG i) (by rw [← amg_drop]; exact h1) (by rw [List.getElem?_drop] at h2; exact h2) takeEnd_drop (by rw [cut_drop]; exact h4) (by rw [float_drop]; exact h5)
    rw [cut_drop] at this
    exact this
  | hex h1 h2 h3 h4 h5 =>
    subst h4
    have := WordR.hex (T := T) (i := k + i) (j := k + takeEnd (T.drop k) HEX (i + 2)) (gd h1) (by rw [Nat.add_assoc]; exact gd h2) (by rw [Nat.add_assoc, ← amg_drop]; exact h3) (by rw [Nat.add_assoc]; exact takeEnd_drop) (by rw [Nat.add_assoc, cut_drop]; exact h5)
    rw [cut_drop, Nat.add_assoc, cut_drop] at this
    exact this
  | small h1 h2 =>
    subst h2
    have := WordR.small (T := T) (i := k + i) (j := k + takeEnd (T.drop k) NMS i) (by rw [← amg_drop]; exact h1) takeEnd_drop
    rw [cut_drop] at this
    exact this
  | sym h1 h2 =>
    subst h2
    have := WordR.sym (T := T) (i := k + i) (j := k + takeEnd (T.drop k) SYM i) (by rw [← amg_drop]; exact h1) takeEnd_drop
    rw [cut_drop] at this
    exact this
  | char h1 h2 h3 h4 h5 h6 =>
    have := WordR.char (T := T) (i := k + i) (gd h1) (by rw [Nat.add_assoc]; exact gd h2) h3 h4 h5 (by rw [Nat.add_assoc]; exact gd h6)
    rw [Nat.add_assoc, cut_drop] at this
    exact this
  | chart h1 h2 h3 h4 =>
    have := WordR.chart (T := T) (i := k + i) (gd h1) (by rw [Nat.add_assoc]; exact gd h2) (by rw [Nat.add_assoc]; exact gd h3) (by rw [Nat.add_assoc]; exact gd h4)
    rw [Nat.add_assoc, cut_drop] at this
    exact this
  | @text j ps h1 h2 =>
    have := WordR.text (T := T) (i := k + i) (j := k + j) (gd h1) (by rw [Nat.add_assoc]; exact h2.shift)
    rw [Nat.add_assoc, cut_drop] at this
    exact this
theorem BadR.shift {T : List Nat} {k i : Nat} (h : BadR (T.drop k) i) : BadR T (k + i) := by
  induction h with
  | float h1 h2 h3 h4 =>
    refine .float (by rw [← amg_drop]; exact h1) (by rw [List.getElem?_drop] at h2; exact h2) ?_ ?_
    · rw [takeEnd_drop, cut_drop]; exact h3
    · rw [takeEnd_drop, float_drop]; exact h4
  | char h1 h2 h3 =>
    have hl : k + i < T.length := (List.getElem?_eq_some_iff.mp (gd h1)).1
    refine .char (gd h1) ?_ (by rw [Nat.add_assoc, ← List.getElem?_drop]; exact h3)
    rw [List.length_drop] at h2
    exact show k + (i + 2) ≤ T.length from Nat.add_le_of_le_sub' (Nat.le_of_lt (Nat.lt_of_le_of_lt (Nat.le_add_right k i) hl)) h2
  | text h1 h2 => exact .text (gd h1) (by rw [Nat.add_assoc]; exact h2.shift)
  | other h1 a b c d e f g => exact .other (gd h1) a b c d e f g
/-- no blank and no comment begins here -/
noncomputable def skip0 (S : List Nat) : Prop := amg S[0]? WS = false ∧ lcm S 0 = false
/-- the words of the rest of a page, told from a place that the law has counted -/
inductive LX : List Nat → (Nat × Nat × Bool) → List Row → Option (Nat × Nat) → Prop
  | fin {p} : LX [] p [⟨Str.ofString "end", Str.ofString "", .none, p.1, p.2.1, p.2.2, p.1, p.2.1⟩] none
  | skip {a S p rows r} : amg (some a) WS = true → LX S (stepP a S[0]? p) rows r → LX (a :: S) p rows r
  | com {y S p rows r} : amg (y ++ S)[0]? WS = false → lcm (y ++ S) 0 = true → lineEnd (y ++ S) 0 = y.length → LX S (pourR y S p) rows r → LX (y ++ S) p rows r
  | bad {S p} : skip0 S → BadR S 0 → LX S p [] (some (p.1, p.2.1))
  | word {y S p kd dv rows r} : kd ≠ Str.ofString "end" → skip0 (y ++ S) → WordR (y ++ S) 0 kd (tx y) dv y.length → LX S ((pourR y S p).1, (pourR y S p).2.1, false) rows r →
      LX (y ++ S) p (⟨kd, tx y, dv, p.1, p.2.1, p.2.2, (pourR y S p).1, (pourR y S p).2.1⟩ :: rows) r

theorem skip_at {T : List Nat} {k : Nat} (hk : k ≤ T.length) (h : skip0 (T.drop k)) : skipEnd T k = k := by
  have h1 := h.1
  have h2 := h.2
  rw [amg_drop, Nat.add_zero] at h1
  rw [← lcm_drop, Nat.add_zero] at h2
  exact skip_stop hk h1 h2
theorem drop_len {T S : List Nat} {k : Nat} (h : T.drop k = S) (hk : k ≤ T.length) : k + S.length = T.length := by
  rw [← h, List.length_drop]; exact Nat.add_sub_of_le hk
theorem LX.lex {S : List Nat} {p : Nat × Nat × Bool} {rows : List Row} {r : Option (Nat × Nat)} (h : LX S p rows r) : ∀ {T : List Nat} {i : Nat} {f : Bool} {k : Nat}, T.drop k = S → k ≤ T.length → skipEnd T i = skipEnd T k → AtP T i f k p →
    ∃ r', LexR T i f rows r' ∧ r'.map (lc T) = r := by
  induction h with
  | @fin p =>
    intro T i f k hS hk hs hp
    have hl := drop_len hS hk
    have e : skipEnd T k = k := skip_at hk (by rw [hS]; exact ⟨rfl, by decide +kernel⟩)
    have e2 : skipEnd T i = k := by rw [hs, e]
    have hn : T[skipEnd T i]? = none := by rw [e2]; exact List.getElem?_eq_none (by simp at hl; omega)
    refine ⟨none, ?_, rfl⟩
    have q := LexR.fin (f := f) hn
    rw [e2] at q
    rw [hp.1]
    exact q
  | @skip a S p rows r ha _ ih =>
    intro T i f k hS hk hs hp
    obtain ⟨h1, h2, h3⟩ := drop_cons hS
    have hl := drop_len hS hk
    have h4 := hp.step h1
    rw [h3] at h4
    exact ih h2 (by simp at hl; omega) (by rw [skip_ws (by rw [h1]; exact ha)]; exact hs) h4
  | @com y S p rows r h0 h1 h2 _ ih =>
    intro T i f k hS hk hs hp
    have hl := drop_len hS hk
    have h3 := hp.pour y hS
    have e : lineEnd T k = k + y.length := by
      rw [← Nat.add_zero k, lineEnd_drop, Nat.add_zero, hS, h2]
    refine ih h3.2 (by rw [List.length_append] at hl; omega) ?_ h3.1
    rw [← e, skip_lc hk (by have := h0; rw [← hS, amg_drop, Nat.add_zero] at this; exact this) (by have := h1; rw [← hS, ← lcm_drop, Nat.add_zero] at this; exact this)]
    exact hs
  | @bad S p h0 h1 =>
    intro T i f k hS hk hs hp
    have e : skipEnd T i = k := by rw [hs]; exact skip_at hk (by rw [hS]; exact h0)
    refine ⟨some (skipEnd T i), .bad ?_, ?_⟩
    · rw [e]
      rw [← hS] at h1
      have := h1.shift
      rwa [Nat.add_zero] at this
    · rw [e, hp.1]; rfl
  | @word y S p kd dv rows r hk0 h0 h1 _ ih =>
    intro T i f k hS hk hs hp
    have hl := drop_len hS hk
    have e : skipEnd T i = k := by rw [hs]; exact skip_at hk (by rw [hS]; exact h0)
    have h3 := hp.pour y hS
    have hj : k + y.length ≤ T.length := by rw [List.length_append] at hl; omega
    have hw : WordR T k kd (tx y) dv (k + y.length) := by
      rw [← hS] at h1
      have := h1.shift
      rwa [Nat.add_zero] at this
    have e1 : (pourR y S p).1 = (lc T (k + y.length)).1 := by rw [h3.1.1]
    have e2 : (pourR y S p).2.1 = (lc T (k + y.length)).2 := by rw [h3.1.1]
    obtain ⟨r', a, b⟩ := ih (T := T) (i := k + y.length) (f := false) (k := k + y.length) h3.2 hj rfl ⟨by rw [e1, e2]; simp, Nat.le_refl _⟩
    refine ⟨r', ?_, b⟩
    have q := LexR.word (i := i) (f := f) hk0 (by rw [e]; exact hw) a
    rw [e] at q
    rw [e1, e2, hp.1]
    exact q
/-- from the front of a text -/
theorem LX.top {T : List Nat} {rows : List Row} {r : Option (Nat × Nat)} (h : LX T (1, 1, true) rows r) : ∃ r', LexR T 0 true rows r' ∧ r'.map (lc T) = r :=
  h.lex (k := 0) rfl (Nat.zero_le _) rfl ⟨by simp [lc], Nat.le_refl _⟩

-- 96p_run
theorem tw_all {p : Nat → Bool} : ∀ (w R : List Nat), w.all p = true → (∀ a, R[0]? = some a → p a = false) → (w ++ R).takeWhile p = w
  | [], R, _, h => by
    cases R with
    | nil => rfl
    | cons a R => exact List.takeWhile_cons_of_neg (by rw [h a rfl]; decide)
  | a :: w, R, hw, h => by
    rw [List.all_cons, Bool.and_eq_true] at hw
    rw [List.cons_append, List.takeWhile_cons_of_pos hw.1, tw_all w R hw.2 h]
theorem take_all {w R l : List Nat} (hw : w.all (fun c => l.contains c) = true) (hR : amg R[0]? l = false) : takeEnd (w ++ R) l 0 = w.length := by
  unfold takeEnd
  rw [List.drop_zero, tw_all w R hw (fun a ha => by rw [ha] at hR; exact hR), Nat.zero_add]
theorem cut_it {w R : List Nat} : cut (w ++ R) 0 w.length = w := by
  unfold cut
  rw [List.drop_zero, Nat.sub_zero, List.take_left]
theorem head_w {w R l : List Nat} (h : amg w[0]? l = true) : (w ++ R)[0]? = w[0]? := by
  cases w with
  | nil => cases h
  | cons a w => rfl
theorem w_small {w R : List Nat} {kd : Str} (hk : kd = keyK w) (h1 : amg w[0]? SML = true) (h2 : w.all (fun c => NMS.contains c) = true) (h3 : amg R[0]? NMS = false) : WordR (w ++ R) 0 kd (tx w) .none w.length := by
  have := WordR.small (T := w ++ R) (i := 0) (j := w.length) (by rw [head_w h1]; exact h1) (take_all h2 h3)
  rw [cut_it] at this
  rw [hk]; exact this
theorem w_sym {w R : List Nat} {kd : Str} (hk : kd = symK w) (h1 : amg w[0]? SYM = true) (h2 : w.all (fun c => SYM.contains c) = true) (h3 : amg R[0]? SYM = false) : WordR (w ++ R) 0 kd (tx w) .none w.length := by
  have := WordR.sym (T := w ++ R) (i := 0) (j := w.length) (by rw [head_w h1]; exact h1) (take_all h2 h3)
  rw [cut_it] at this
  rw [hk]; exact this
theorem w_dec {w R : List Nat} {n : Int} (hv : n = ((numN 10 w : Nat) : Int)) (h1 : amg w[0]? DIG = true) (h0 : w[0]? ≠ some 48) (h2 : w.all (fun c => DIG.contains c) = true) (h4 : w.length ≤ 20) (h3 : amg R[0]? DIG = false) (h5 : floatB R 0 = false) : WordR (w ++ R) 0 (Str.ofString "int") (tx w) (.int n) w.length := by
  have := WordR.dec (T := w ++ R) (i := 0) (j := w.length) (by rw [head_w h1]; exact h1) (by rw [head_w h1]; exact h0) (take_all h2 h3) (by rw [cut_it]; exact h4) (by
    rw [← Nat.add_zero w.length, float_drop, List.drop_left]; exact h5)
  rw [cut_it] at this
  rw [hv]; exact this
theorem w_hex {w R : List Nat} {n : Int} (hv : n = ((numN 16 w : Nat) : Int)) (h1 : amg w[0]? HEX = true) (h2 : w.all (fun c => HEX.contains c) = true) (h4 : w.length ≤ 20) (h3 : amg R[0]? HEX = false) : WordR ((48 :: 120 :: w) ++ R) 0 (Str.ofString "int") (tx (48 :: 120 :: w)) (.int n) (48 :: 120 :: w).length := by
  have e1 : ((48 :: 120 :: w) ++ R).drop 2 = w ++ R := rfl
  have e2 : cut ((48 :: 120 :: w) ++ R) 2 (2 + w.length) = w := by
    have := cut_drop (T := (48 :: 120 :: w) ++ R) (k := 2) (a := 0) (b := w.length)
    rw [Nat.add_zero, e1, cut_it] at this
    exact this
  have e3 : takeEnd ((48 :: 120 :: w) ++ R) HEX 2 = 2 + w.length := by
    have := takeEnd_drop (T := (48 :: 120 :: w) ++ R) (l := HEX) (k := 2) (a := 0)
    rw [Nat.add_zero, e1, take_all h2 h3] at this
    exact this
  have hl : (48 :: 120 :: w).length = 2 + w.length := by simp only [List.length_cons]; omega
  have := WordR.hex (T := (48 :: 120 :: w) ++ R) (i := 0) (j := 2 + w.length) rfl rfl (by show amg (w ++ R)[0]? HEX = true; rw [head_w h1]; exact h1) e3 (by rw [e2]; exact h4)
  rw [e2, ← hl, cut_it] at this
  rw [hv]; exact this
theorem w_special {c : Nat} {R : List Nat} (h : amg (some c) SPC = true) : WordR ([c] ++ R) 0 (Str.ofString "special") (tx [c]) .none ([c] : List Nat).length := .special (T := [c] ++ R) (i := 0) h
theorem w_char {c : Nat} {R : List Nat} (h1 : bareO (some c) = true) (h2 : c ≠ 39) (h3 : c ≠ 92) : WordR ([39, c, 39] ++ R) 0 (Str.ofString "char") (tx [39, c, 39]) (.str (sgo (some c))) ([39, c, 39] : List Nat).length :=
  .char (T := [39, c, 39] ++ R) (i := 0) (c := c) rfl rfl h1 h2 h3 rfl
theorem w_chart {R : List Nat} : WordR ([39, 92, 116, 39] ++ R) 0 (Str.ofString "char") (tx [39, 92, 116, 39]) (.str (Str.ofString "\t")) ([39, 92, 116, 39] : List Nat).length :=
  .chart (T := [39, 92, 116, 39] ++ R) (i := 0) rfl rfl rfl rfl
theorem w_text {b R : List Nat} {ps : List Str} {v : Str} (hv : v = Txt.join (Str.ofString "") ps) (h : TxtR ((34 :: b) ++ R) 1 ps true b.length) : WordR ((34 :: b) ++ R) 0 (Str.ofString "text") (tx (34 :: b)) (.str v) (34 :: b).length := by
  have := WordR.text (T := (34 :: b) ++ R) (i := 0) rfl h
  rw [show b.length + 1 = (34 :: b).length from rfl, cut_it] at this
  rw [hv]; exact this
theorem lcm_n1 {a : Nat} {S : List Nat} (h : a ≠ 45) : lcm (a :: S) 0 = false := by
  cases hb : lcm (a :: S) 0 with
  | false => rfl
  | true => have := lcm_first hb; simp at this; exact absurd this h
theorem lcm_n2 {b : Nat} {S : List Nat} (h : b ≠ 45) : lcm (45 :: b :: S) 0 = false := by
  unfold lcm startsB
  rw [l_dd, show (Str.ofString "--").cps.toList = [45, 45] by decide +kernel]
  simp [h]
theorem eE_l : (Str.ofString "eE").cps.toList = [101, 69] := by decide +kernel
theorem pm_l : (Str.ofString "+-").cps.toList = [43, 45] := by decide +kernel
theorem float_n1 {a : Nat} {S : List Nat} (h1 : a ≠ 46) (h2 : a ≠ 101) (h3 : a ≠ 69) : floatB (a :: S) 0 = false := by
  unfold floatB
  rw [eE_l, pm_l]
  simp [amg, h1, h2, h3]
theorem float_n2 {b : Nat} {S : List Nat} (h : amg (some b) DIG = false) : floatB (46 :: b :: S) 0 = false := by
  unfold floatB
  rw [eE_l, pm_l]
  exact h
theorem float_e {b : Nat} {S : List Nat} (h1 : b ≠ 43) (h2 : b ≠ 45) (h : amg (some b) DIG = false) : floatB (101 :: b :: S) 0 = false := by
  unfold floatB
  rw [eE_l, pm_l, if_neg (by simp), if_neg (by simp [amg, h1, h2])]
  show (_ && amg (some b) DIG) = false
  rw [h, Bool.and_false]
theorem float_e2 {b : Nat} {S : List Nat} (h : amg (some b) DIG = false) : floatB (101 :: 43 :: b :: S) 0 = false := by
  unfold floatB
  rw [eE_l, pm_l, if_neg (by simp), if_pos (by rfl)]
  show (_ && amg (some b) DIG) = false
  rw [h, Bool.and_false]
/-- what a row tells, as the law writes it down -/
noncomputable def rowX (r : Row) : Dat := .tuple [.str r.kind, .str r.text, r.val, .int (r.line : Int), .int (r.col : Int), .bool r.first, .tuple [.int (r.eline : Int), .int (r.ecol : Int)]]
noncomputable def ApX (k t : Str) : Prop := (k ≠ Str.ofString "special" ∧ t ≠ Str.ofString "[") ∨ (k = Str.ofString "special" ∧ (t = Str.ofString "[" ∨ t = Str.ofString "]"))
/-- blanks and comments that lead from one place to another -/
noncomputable def Gap (y S : List Nat) : Prop := ∀ p rows r, LX S (pourF y p) rows r → LX (y ++ S) p rows r
inductive Run : List PW → List Nat → List Nat → Prop
  | nil {R} : Run [] R R
  | word {x : PW} {ws : List PW} {y S R : List Nat} : (x.kind != Str.ofString "") = true → x.kind ≠ Str.ofString "end" → x.text = tx y → amg (y ++ S)[0]? WS = false → lcm (y ++ S) 0 = false → WordR (y ++ S) 0 x.kind (tx y) x.val y.length → y.getLast? ≠ some 13 → ApX x.kind x.text → Run ws S R → Run (x :: ws) (y ++ S) R
  | gap {x : PW} {ws : List PW} {y S R : List Nat} : (x.kind != Str.ofString "") = false → x.text = tx y → Gap y S → Run ws S R → Run (x :: ws) (y ++ S) R
theorem Run.lx {ws : List PW} {S R : List Nat} (h : Run ws S R) : ∀ {st : PS} {rows : List Row} {r : Option (Nat × Nat)}, LX R (ws.foldl setW st).p rows r →
    ∃ rows₀ y, S = y ++ R ∧ LX S st.p (rows₀ ++ rows) r ∧ (ws.foldl setW st).ds = st.ds ++ rows₀.map rowX ∧ (ws.foldl setW st).S = st.S ++ y ∧ ∀ q ∈ rows₀, ApX q.kind q.text := by
  induction h with
  | nil => intro st rows r h; exact ⟨[], [], rfl, h, by simp, by simp, fun _ h => absurd h List.not_mem_nil⟩
  | @word x ws y S R h1 h2 h3 h4 h5 h6 h7 h8 _ ih =>
    intro st rows r h
    obtain ⟨rows₀, z, rfl, a, b, c, d⟩ := ih (st := setW st x) h
    have ht : x.text.cps.toList = y := by rw [h3]; rfl
    have hs : setW st x = ⟨st.S ++ y, ((pourF y st.p).1, (pourF y st.p).2.1, false), st.ds ++ [rowT x.kind y x.val st.p (pourF y st.p)]⟩ := by
      unfold setW; rw [if_pos h1, ht]
    rw [hs] at a b c
    have hp := pourR_eq y (z ++ R) st.p (.inl h7)
    refine ⟨⟨x.kind, tx y, x.val, st.p.1, st.p.2.1, st.p.2.2, (pourF y st.p).1, (pourF y st.p).2.1⟩ :: rows₀, y ++ z, by rw [List.append_assoc], ?_, ?_, ?_, ?_⟩
    · have := LX.word (p := st.p) h2 ⟨h4, h5⟩ h6 (by rw [hp]; exact a)
      rw [hp] at this
      exact this
    · rw [List.foldl_cons, hs, b, List.append_assoc]; rfl
    · rw [List.foldl_cons, hs, c, List.append_assoc]
    · intro q hq
      rcases List.mem_cons.mp hq with rfl | hq
      · rw [h3] at h8; exact h8
      · exact d q hq
  | @gap x ws y S R h1 h3 h4 _ ih =>
    intro st rows r h
    obtain ⟨rows₀, z, rfl, a, b, c, d⟩ := ih (st := setW st x) h
    have ht : x.text.cps.toList = y := by rw [h3]; rfl
    have hs : setW st x = ⟨st.S ++ y, pourF y st.p, st.ds⟩ := by
      unfold setW; rw [if_neg (by rw [h1]; decide), ht]
    rw [hs] at a b c
    exact ⟨rows₀, y ++ z, by rw [List.append_assoc], h4 _ _ _ a, by rw [List.foldl_cons, hs, b], by rw [List.foldl_cons, hs, c, List.append_assoc], d⟩
theorem pourR_app : ∀ (y z R : List Nat) (p : Nat × Nat × Bool), pourR (y ++ z) R p = pourR z R (pourR y (z ++ R) p)
  | [], _, _, _ => rfl
  | a :: y, z, R, p => by
    show pourR (y ++ z) R (stepP a (y ++ z ++ R)[0]? p) = pourR z R (pourR y (z ++ R) (stepP a (y ++ (z ++ R))[0]? p))
    rw [pourR_app y z R, List.append_assoc]
theorem lx_ws : ∀ (y : List Nat) {S : List Nat} {p : Nat × Nat × Bool} {rows : List Row} {r : Option (Nat × Nat)}, (∀ a ∈ y, amg (some a) WS = true) → LX S (pourR y S p) rows r → LX (y ++ S) p rows r
  | [], _, _, _, _, _, h => h
  | a :: y, S, p, rows, r, hy, h => .skip (hy a (.head _)) (lx_ws y (fun b hb => hy b (.tail _ hb)) h)
theorem gap_ws {y S : List Nat} (hy : ∀ a ∈ y, amg (some a) WS = true) (h : y.getLast? ≠ some 13 ∨ S[0]? ≠ some 10) : Gap y S := fun p rows r hl => lx_ws y hy (by rw [pourR_eq y S p h]; exact hl)
/-- a comment between blanks -/
theorem gap_com {b y e S : List Nat} (hb : ∀ a ∈ b, amg (some a) WS = true) (he : ∀ a ∈ e, amg (some a) WS = true) (h0 : amg (y ++ (e ++ S))[0]? WS = false) (h1 : lcm (y ++ (e ++ S)) 0 = true) (h2 : lineEnd (y ++ (e ++ S)) 0 = y.length)
    (h : (b ++ (y ++ e)).getLast? ≠ some 13 ∨ S[0]? ≠ some 10) : Gap (b ++ (y ++ e)) S := by
  intro p rows r hl
  rw [← pourR_eq _ S p h, pourR_app, pourR_app] at hl
  rw [List.append_assoc, List.append_assoc]
  refine lx_ws b hb (.com h0 h1 h2 (lx_ws e he ?_))
  rw [List.append_assoc] at hl
  exact hl

-- 97p_pieces
theorem WS_l : WS = [32, 9, 10, 13, 12, 11] := by decide +kernel
theorem dlen : (Str.ofString "DEL").length = 3 := by decide +kernel
theorem dl3 : (Str.ofString "DEL").cps.toList = [68, 69, 76] := by decide +kernel
theorem txt_gap {T : List Nat} {i n : Nat} {ps : List Str} {b : Bool} {j : Nat} (h1 : T[i]? = some 92) (h2 : amg T[i + 1]? WS = true) (h : ((T.drop (i + 1)).takeWhile fun c => WS.contains c).length = n) (h3 : T[i + 1 + n]? = some 92) (h4 : TxtR T (i + 1 + n + 1) ps b j) : TxtR T i ps b j := by
  have e : takeEnd T WS (i + 1) = i + 1 + n := by unfold takeEnd; rw [h]
  exact .gap h1 h2 (by rw [e]; exact h3) (by rw [e]; exact h4)
theorem char_v {T : List Nat} {kd tt : Str} {x y : Str} {j : Nat} (h : x = y) (hw : WordR T 0 kd tt (.str y) j) : WordR T 0 kd tt (.str x) j := h ▸ hw
theorem com_lcm {a : Nat} {S : List Nat} (h : a ≠ 45) : lcm (45 :: 45 :: a :: S) 0 = !symO (some a) := by
  unfold lcm startsB
  rw [l_dd, show (Str.ofString "--").cps.toList = [45, 45] by decide +kernel]
  have e : takeEnd (45 :: 45 :: a :: S) [45] (0 + 2) = 2 := by
    unfold takeEnd
    simp [h]
  rw [e]
  simp
theorem g_DIG : ∀ c ∈ [32, 10, 13, 12], amg (some c) DIG = false := by decide +kernel
theorem g_HEX : ∀ c ∈ [32, 10, 13, 12], amg (some c) HEX = false := by decide +kernel
theorem g_NMS : ∀ c ∈ [32, 10, 13, 12], amg (some c) NMS = false := by decide +kernel
theorem g_SYM : ∀ c ∈ [32, 10, 13, 12], amg (some c) SYM = false := by decide +kernel
theorem g_ne46 : ∀ c ∈ [32, 10, 13, 12], c ≠ 46 := by decide
theorem g_ne101 : ∀ c ∈ [32, 10, 13, 12], c ≠ 101 := by decide
theorem g_ne69 : ∀ c ∈ [32, 10, 13, 12], c ≠ 69 := by decide
theorem g_ne45 : ∀ c ∈ [32, 10, 13, 12], c ≠ 45 := by decide
theorem g_ne43 : ∀ c ∈ [32, 10, 13, 12], c ≠ 43 := by decide
noncomputable def RunTo (ws : List PW) : Prop := ∀ c ∈ [32, 10, 13, 12], ∀ R, ∃ S, Run ws S (c :: R) ∧ S[0]? ≠ some 10
theorem run_0 : RunTo [pn (Str.ofString "special") (Str.ofString "["), pi (Str.ofString "1") 1, pn (Str.ofString "op") (Str.ofString ".."), pi (Str.ofString "5") 5, pn (Str.ofString "special") (Str.ofString "]")] :=
  fun c hc R => ⟨_, .word (y := [91]) (by decide +kernel) (by decide +kernel) (by decide +kernel) (show amg (some 91) WS = false by decide +kernel) (lcm_n1 (show (91 : Nat) ≠ 45 by decide)) (w_special (by decide +kernel)) (by decide) (.inr ⟨rfl, .inl rfl⟩) (.word (y := [49]) (by decide +kernel) (by decide +kernel) (by decide +kernel) (show amg (some 49) WS = false by decide +kernel) (lcm_n1 (show (49 : Nat) ≠ 45 by decide)) (w_dec (w := [49]) (by decide +kernel) (by decide +kernel) (by decide) (by decide +kernel) (by decide) (show amg (some 46) DIG = false by decide +kernel) (float_n2 (show amg (some 46) DIG = false by decide +kernel))) (by decide) (.inl ⟨by decide +kernel, by decide +kernel⟩) (.word (y := [46, 46]) (by decide +kernel) (by decide +kernel) (by decide +kernel) (show amg (some 46) WS = false by decide +kernel) (lcm_n1 (show (46 : Nat) ≠ 45 by decide)) (w_sym (w := [46, 46]) (by decide +kernel) (by decide +kernel) (by decide +kernel) (show amg (some 53) SYM = false by decide +kernel)) (by decide) (.inl ⟨by decide +kernel, by decide +kernel⟩) (.word (y := [53]) (by decide +kernel) (by decide +kernel) (by decide +kernel) (show amg (some 53) WS = false by decide +kernel) (lcm_n1 (show (53 : Nat) ≠ 45 by decide)) (w_dec (w := [53]) (by decide +kernel) (by decide +kernel) (by decide) (by decide +kernel) (by decide) (show amg (some 93) DIG = false by decide +kernel) (float_n1 (show (93 : Nat) ≠ 46 by decide) (show (93 : Nat) ≠ 101 by decide) (show (93 : Nat) ≠ 69 by decide))) (by decide) (.inl ⟨by decide +kernel, by decide +kernel⟩) (.word (y := [93]) (by decide +kernel) (by decide +kernel) (by decide +kernel) (show amg (some 93) WS = false by decide +kernel) (lcm_n1 (show (93 : Nat) ≠ 45 by decide)) (w_special (by decide +kernel)) (by decide) (.inr ⟨rfl, .inr rfl⟩) (.nil))))), fun h => absurd (Option.some.inj h) (by decide)⟩
theorem run_1 : RunTo [pi (Str.ofString "1") 1, pn (Str.ofString "varsym") (Str.ofString "."), pn (Str.ofString "var") (Str.ofString "x")] :=
  fun c hc R => ⟨_, .word (y := [49]) (by decide +kernel) (by decide +kernel) (by decide +kernel) (show amg (some 49) WS = false by decide +kernel) (lcm_n1 (show (49 : Nat) ≠ 45 by decide)) (w_dec (w := [49]) (by decide +kernel) (by decide +kernel) (by decide) (by decide +kernel) (by decide) (show amg (some 46) DIG = false by decide +kernel) (float_n2 (show amg (some 120) DIG = false by decide +kernel))) (by decide) (.inl ⟨by decide +kernel, by decide +kernel⟩) (.word (y := [46]) (by decide +kernel) (by decide +kernel) (by decide +kernel) (show amg (some 46) WS = false by decide +kernel) (lcm_n1 (show (46 : Nat) ≠ 45 by decide)) (w_sym (w := [46]) (by decide +kernel) (by decide +kernel) (by decide +kernel) (show amg (some 120) SYM = false by decide +kernel)) (by decide) (.inl ⟨by decide +kernel, by decide +kernel⟩) (.word (y := [120]) (by decide +kernel) (by decide +kernel) (by decide +kernel) (show amg (some 120) WS = false by decide +kernel) (lcm_n1 (show (120 : Nat) ≠ 45 by decide)) (w_small (w := [120]) (by decide +kernel) (by decide +kernel) (by decide +kernel) (g_NMS c hc)) (by decide) (.inl ⟨by decide +kernel, by decide +kernel⟩) (.nil))), fun h => absurd (Option.some.inj h) (by decide)⟩
theorem run_2 : RunTo [pi (Str.ofString "1") 1, pn (Str.ofString "key") (Str.ofString "else")] :=
  fun c hc R => ⟨_, .word (y := [49]) (by decide +kernel) (by decide +kernel) (by decide +kernel) (show amg (some 49) WS = false by decide +kernel) (lcm_n1 (show (49 : Nat) ≠ 45 by decide)) (w_dec (w := [49]) (by decide +kernel) (by decide +kernel) (by decide) (by decide +kernel) (by decide) (show amg (some 101) DIG = false by decide +kernel) (float_e (show (108 : Nat) ≠ 43 by decide) (show (108 : Nat) ≠ 45 by decide) (show amg (some 108) DIG = false by decide +kernel))) (by decide) (.inl ⟨by decide +kernel, by decide +kernel⟩) (.word (y := [101, 108, 115, 101]) (by decide +kernel) (by decide +kernel) (by decide +kernel) (show amg (some 101) WS = false by decide +kernel) (lcm_n1 (show (101 : Nat) ≠ 45 by decide)) (w_small (w := [101, 108, 115, 101]) (by decide +kernel) (by decide +kernel) (by decide +kernel) (g_NMS c hc)) (by decide) (.inl ⟨by decide +kernel, by decide +kernel⟩) (.nil)), fun h => absurd (Option.some.inj h) (by decide)⟩
theorem run_3 : RunTo [pi (Str.ofString "1") 1, pn (Str.ofString "var") (Str.ofString "e")] :=
  fun c hc R => ⟨_, .word (y := [49]) (by decide +kernel) (by decide +kernel) (by decide +kernel) (show amg (some 49) WS = false by decide +kernel) (lcm_n1 (show (49 : Nat) ≠ 45 by decide)) (w_dec (w := [49]) (by decide +kernel) (by decide +kernel) (by decide) (by decide +kernel) (by decide) (show amg (some 101) DIG = false by decide +kernel) (float_e (g_ne43 c hc) (g_ne45 c hc) (g_DIG c hc))) (by decide) (.inl ⟨by decide +kernel, by decide +kernel⟩) (.word (y := [101]) (by decide +kernel) (by decide +kernel) (by decide +kernel) (show amg (some 101) WS = false by decide +kernel) (lcm_n1 (show (101 : Nat) ≠ 45 by decide)) (w_small (w := [101]) (by decide +kernel) (by decide +kernel) (by decide +kernel) (g_NMS c hc)) (by decide) (.inl ⟨by decide +kernel, by decide +kernel⟩) (.nil)), fun h => absurd (Option.some.inj h) (by decide)⟩
theorem run_4 : RunTo [pi (Str.ofString "2") 2, pn (Str.ofString "var") (Str.ofString "e"), pn (Str.ofString "varsym") (Str.ofString "+"), pn (Str.ofString "var") (Str.ofString "a")] :=
  fun c hc R => ⟨_, .word (y := [50]) (by decide +kernel) (by decide +kernel) (by decide +kernel) (show amg (some 50) WS = false by decide +kernel) (lcm_n1 (show (50 : Nat) ≠ 45 by decide)) (w_dec (w := [50]) (by decide +kernel) (by decide +kernel) (by decide) (by decide +kernel) (by decide) (show amg (some 101) DIG = false by decide +kernel) (float_e2 (show amg (some 97) DIG = false by decide +kernel))) (by decide) (.inl ⟨by decide +kernel, by decide +kernel⟩) (.word (y := [101]) (by decide +kernel) (by decide +kernel) (by decide +kernel) (show amg (some 101) WS = false by decide +kernel) (lcm_n1 (show (101 : Nat) ≠ 45 by decide)) (w_small (w := [101]) (by decide +kernel) (by decide +kernel) (by decide +kernel) (show amg (some 43) NMS = false by decide +kernel)) (by decide) (.inl ⟨by decide +kernel, by decide +kernel⟩) (.word (y := [43]) (by decide +kernel) (by decide +kernel) (by decide +kernel) (show amg (some 43) WS = false by decide +kernel) (lcm_n1 (show (43 : Nat) ≠ 45 by decide)) (w_sym (w := [43]) (by decide +kernel) (by decide +kernel) (by decide +kernel) (show amg (some 97) SYM = false by decide +kernel)) (by decide) (.inl ⟨by decide +kernel, by decide +kernel⟩) (.word (y := [97]) (by decide +kernel) (by decide +kernel) (by decide +kernel) (show amg (some 97) WS = false by decide +kernel) (lcm_n1 (show (97 : Nat) ≠ 45 by decide)) (w_small (w := [97]) (by decide +kernel) (by decide +kernel) (by decide +kernel) (g_NMS c hc)) (by decide) (.inl ⟨by decide +kernel, by decide +kernel⟩) (.nil)))), fun h => absurd (Option.some.inj h) (by decide)⟩
theorem run_5 : RunTo [pi (Str.ofString "2") 2, pn (Str.ofString "var") (Str.ofString "e_1"), pn (Str.ofString "varsym") (Str.ofString "-"), pi (Str.ofString "1") 1] :=
  fun c hc R => ⟨_, .word (y := [50]) (by decide +kernel) (by decide +kernel) (by decide +kernel) (show amg (some 50) WS = false by decide +kernel) (lcm_n1 (show (50 : Nat) ≠ 45 by decide)) (w_dec (w := [50]) (by decide +kernel) (by decide +kernel) (by decide) (by decide +kernel) (by decide) (show amg (some 101) DIG = false by decide +kernel) (float_e (show (95 : Nat) ≠ 43 by decide) (show (95 : Nat) ≠ 45 by decide) (show amg (some 95) DIG = false by decide +kernel))) (by decide) (.inl ⟨by decide +kernel, by decide +kernel⟩) (.word (y := [101, 95, 49]) (by decide +kernel) (by decide +kernel) (by decide +kernel) (show amg (some 101) WS = false by decide +kernel) (lcm_n1 (show (101 : Nat) ≠ 45 by decide)) (w_small (w := [101, 95, 49]) (by decide +kernel) (by decide +kernel) (by decide +kernel) (show amg (some 45) NMS = false by decide +kernel)) (by decide) (.inl ⟨by decide +kernel, by decide +kernel⟩) (.word (y := [45]) (by decide +kernel) (by decide +kernel) (by decide +kernel) (show amg (some 45) WS = false by decide +kernel) (lcm_n2 (show (49 : Nat) ≠ 45 by decide)) (w_sym (w := [45]) (by decide +kernel) (by decide +kernel) (by decide +kernel) (show amg (some 49) SYM = false by decide +kernel)) (by decide) (.inl ⟨by decide +kernel, by decide +kernel⟩) (.word (y := [49]) (by decide +kernel) (by decide +kernel) (by decide +kernel) (show amg (some 49) WS = false by decide +kernel) (lcm_n1 (show (49 : Nat) ≠ 45 by decide)) (w_dec (w := [49]) (by decide +kernel) (by decide +kernel) (by decide) (by decide +kernel) (by decide) (g_DIG c hc) (float_n1 (g_ne46 c hc) (g_ne101 c hc) (g_ne69 c hc))) (by decide) (.inl ⟨by decide +kernel, by decide +kernel⟩) (.nil)))), fun h => absurd (Option.some.inj h) (by decide)⟩
theorem run_6 : RunTo [pi (Str.ofString "0x1e3") 483] :=
  fun c hc R => ⟨_, .word (y := [48, 120, 49, 101, 51]) (by decide +kernel) (by decide +kernel) (by decide +kernel) (show amg (some 48) WS = false by decide +kernel) (lcm_n1 (show (48 : Nat) ≠ 45 by decide)) (w_hex (w := [49, 101, 51]) (by decide +kernel) (by decide +kernel) (by decide +kernel) (by decide) (g_HEX c hc)) (by decide) (.inl ⟨by decide +kernel, by decide +kernel⟩) (.nil), fun h => absurd (Option.some.inj h) (by decide)⟩
theorem run_7 : RunTo [pi (Str.ofString "0x1") 1, pn (Str.ofString "varsym") (Str.ofString "."), pi (Str.ofString "5") 5] :=
  fun c hc R => ⟨_, .word (y := [48, 120, 49]) (by decide +kernel) (by decide +kernel) (by decide +kernel) (show amg (some 48) WS = false by decide +kernel) (lcm_n1 (show (48 : Nat) ≠ 45 by decide)) (w_hex (w := [49]) (by decide +kernel) (by decide +kernel) (by decide +kernel) (by decide) (show amg (some 46) HEX = false by decide +kernel)) (by decide) (.inl ⟨by decide +kernel, by decide +kernel⟩) (.word (y := [46]) (by decide +kernel) (by decide +kernel) (by decide +kernel) (show amg (some 46) WS = false by decide +kernel) (lcm_n1 (show (46 : Nat) ≠ 45 by decide)) (w_sym (w := [46]) (by decide +kernel) (by decide +kernel) (by decide +kernel) (show amg (some 53) SYM = false by decide +kernel)) (by decide) (.inl ⟨by decide +kernel, by decide +kernel⟩) (.word (y := [53]) (by decide +kernel) (by decide +kernel) (by decide +kernel) (show amg (some 53) WS = false by decide +kernel) (lcm_n1 (show (53 : Nat) ≠ 45 by decide)) (w_dec (w := [53]) (by decide +kernel) (by decide +kernel) (by decide) (by decide +kernel) (by decide) (g_DIG c hc) (float_n1 (g_ne46 c hc) (g_ne101 c hc) (g_ne69 c hc))) (by decide) (.inl ⟨by decide +kernel, by decide +kernel⟩) (.nil))), fun h => absurd (Option.some.inj h) (by decide)⟩
theorem run_8 : RunTo [pn (Str.ofString "var") (Str.ofString "f1e3")] :=
  fun c hc R => ⟨_, .word (y := [102, 49, 101, 51]) (by decide +kernel) (by decide +kernel) (by decide +kernel) (show amg (some 102) WS = false by decide +kernel) (lcm_n1 (show (102 : Nat) ≠ 45 by decide)) (w_small (w := [102, 49, 101, 51]) (by decide +kernel) (by decide +kernel) (by decide +kernel) (g_NMS c hc)) (by decide) (.inl ⟨by decide +kernel, by decide +kernel⟩) (.nil), fun h => absurd (Option.some.inj h) (by decide)⟩
theorem run_9 : RunTo [pn (Str.ofString "varsym") (Str.ofString "."), pi (Str.ofString "5") 5] :=
  fun c hc R => ⟨_, .word (y := [46]) (by decide +kernel) (by decide +kernel) (by decide +kernel) (show amg (some 46) WS = false by decide +kernel) (lcm_n1 (show (46 : Nat) ≠ 45 by decide)) (w_sym (w := [46]) (by decide +kernel) (by decide +kernel) (by decide +kernel) (show amg (some 53) SYM = false by decide +kernel)) (by decide) (.inl ⟨by decide +kernel, by decide +kernel⟩) (.word (y := [53]) (by decide +kernel) (by decide +kernel) (by decide +kernel) (show amg (some 53) WS = false by decide +kernel) (lcm_n1 (show (53 : Nat) ≠ 45 by decide)) (w_dec (w := [53]) (by decide +kernel) (by decide +kernel) (by decide) (by decide +kernel) (by decide) (g_DIG c hc) (float_n1 (g_ne46 c hc) (g_ne101 c hc) (g_ne69 c hc))) (by decide) (.inl ⟨by decide +kernel, by decide +kernel⟩) (.nil)), fun h => absurd (Option.some.inj h) (by decide)⟩
theorem run_10 : RunTo [ps (Str.ofString "char") (Str.ofString "'\\t'") (Str.ofString "\t")] :=
  fun c hc R => ⟨_, .word (y := [39, 92, 116, 39]) (by decide +kernel) (by decide +kernel) (by decide +kernel) (show amg (some 39) WS = false by decide +kernel) (lcm_n1 (show (39 : Nat) ≠ 45 by decide)) w_chart (by decide) (.inl ⟨by decide +kernel, by decide +kernel⟩) (.nil), fun h => absurd (Option.some.inj h) (by decide)⟩
theorem run_11 : RunTo [ps (Str.ofString "text") (Str.ofString "\"a\\tb\\DEL\\f\"") (Str.ofString "a\tb\x7f\x0c")] :=
  fun c hc R => ⟨_, .word (y := [34, 97, 92, 116, 98, 92, 68, 69, 76, 92, 102, 34]) (by decide +kernel) (by decide +kernel) (by decide +kernel) (show amg (some 34) WS = false by decide +kernel) (lcm_n1 (show (34 : Nat) ≠ 45 by decide)) (w_text (b := [97, 92, 116, 98, 92, 68, 69, 76, 92, 102, 34]) (ps := [sgo (some 97), Str.ofString "\t", sgo (some 98), ⟨#[127]⟩, Str.ofString "\x0c"]) (by decide +kernel) (.plain (c := 97) rfl (by decide +kernel) (by decide) (by decide) (.esc rfl rfl .t (.plain (c := 98) rfl (by decide +kernel) (by decide) (by decide) (.esc rfl rfl (.del (by unfold startsB; rw [dlen, dl3]; rfl)) (.esc rfl rfl .f (.stop rfl))))))) (by decide) (.inl ⟨by decide +kernel, by decide +kernel⟩) (.nil), fun h => absurd (Option.some.inj h) (by decide)⟩
theorem run_12 : RunTo [ps (Str.ofString "text") (Str.ofString "\"a\\\t \\b\"") (Str.ofString "ab")] :=
  fun c hc R => ⟨_, .word (y := [34, 97, 92, 9, 32, 92, 98, 34]) (by decide +kernel) (by decide +kernel) (by decide +kernel) (show amg (some 34) WS = false by decide +kernel) (lcm_n1 (show (34 : Nat) ≠ 45 by decide)) (w_text (b := [97, 92, 9, 32, 92, 98, 34]) (ps := [sgo (some 97), sgo (some 98)]) (by decide +kernel) (.plain (c := 97) rfl (by decide +kernel) (by decide) (by decide) (txt_gap (n := 2) rfl (by rw [WS_l]; rfl) (by rw [WS_l]; rfl) rfl (.plain (c := 98) rfl (by decide +kernel) (by decide) (by decide) (.stop rfl))))) (by decide) (.inl ⟨by decide +kernel, by decide +kernel⟩) (.nil), fun h => absurd (Option.some.inj h) (by decide)⟩
theorem run_13 : RunTo [ps (Str.ofString "text") (Str.ofString "\"a\\\n \\b\"") (Str.ofString "ab"), pn (Str.ofString "varsym") (Str.ofString "!"), ps (Str.ofString "text") (Str.ofString "\"c\"") (Str.ofString "c")] :=
  fun c hc R => ⟨_, .word (y := [34, 97, 92, 10, 32, 92, 98, 34]) (by decide +kernel) (by decide +kernel) (by decide +kernel) (show amg (some 34) WS = false by decide +kernel) (lcm_n1 (show (34 : Nat) ≠ 45 by decide)) (w_text (b := [97, 92, 10, 32, 92, 98, 34]) (ps := [sgo (some 97), sgo (some 98)]) (by decide +kernel) (.plain (c := 97) rfl (by decide +kernel) (by decide) (by decide) (txt_gap (n := 2) rfl (by rw [WS_l]; rfl) (by rw [WS_l]; rfl) rfl (.plain (c := 98) rfl (by decide +kernel) (by decide) (by decide) (.stop rfl))))) (by decide) (.inl ⟨by decide +kernel, by decide +kernel⟩) (.word (y := [33]) (by decide +kernel) (by decide +kernel) (by decide +kernel) (show amg (some 33) WS = false by decide +kernel) (lcm_n1 (show (33 : Nat) ≠ 45 by decide)) (w_sym (w := [33]) (by decide +kernel) (by decide +kernel) (by decide +kernel) (show amg (some 34) SYM = false by decide +kernel)) (by decide) (.inl ⟨by decide +kernel, by decide +kernel⟩) (.word (y := [34, 99, 34]) (by decide +kernel) (by decide +kernel) (by decide +kernel) (show amg (some 34) WS = false by decide +kernel) (lcm_n1 (show (34 : Nat) ≠ 45 by decide)) (w_text (b := [99, 34]) (ps := [sgo (some 99)]) (by decide +kernel) (.plain (c := 99) rfl (by decide +kernel) (by decide) (by decide) (.stop rfl))) (by decide) (.inl ⟨by decide +kernel, by decide +kernel⟩) (.nil))), fun h => absurd (Option.some.inj h) (by decide)⟩
theorem run_14 : RunTo [pn (Str.ofString "") (Str.ofString "--é x\n")] :=
  fun c hc R => ⟨_, .gap (y := [] ++ ([45, 45, 233, 32, 120] ++ [10])) (by decide +kernel) (by decide +kernel) (gap_com (b := []) (y := [45, 45, 233, 32, 120]) (e := [10]) (by decide +kernel) (by decide +kernel) (show amg (some 45) WS = false by decide +kernel) (by show lcm (45 :: 45 :: 233 :: _) 0 = true; rw [com_lcm (by decide)]; decide +kernel) (by rfl) (.inl (by decide))) (.nil), fun h => absurd (Option.some.inj h) (by decide)⟩
theorem run_15 : RunTo [pn (Str.ofString "var") (Str.ofString "a"), pn (Str.ofString "") (Str.ofString " -- →\r"), pn (Str.ofString "var") (Str.ofString "b")] :=
  fun c hc R => ⟨_, .word (y := [97]) (by decide +kernel) (by decide +kernel) (by decide +kernel) (show amg (some 97) WS = false by decide +kernel) (lcm_n1 (show (97 : Nat) ≠ 45 by decide)) (w_small (w := [97]) (by decide +kernel) (by decide +kernel) (by decide +kernel) (show amg (some 32) NMS = false by decide +kernel)) (by decide) (.inl ⟨by decide +kernel, by decide +kernel⟩) (.gap (y := [32] ++ ([45, 45, 32, 8594] ++ [13])) (by decide +kernel) (by decide +kernel) (gap_com (b := [32]) (y := [45, 45, 32, 8594]) (e := [13]) (by decide +kernel) (by decide +kernel) (show amg (some 45) WS = false by decide +kernel) (by show lcm (45 :: 45 :: 32 :: _) 0 = true; rw [com_lcm (by decide)]; decide +kernel) (by rfl) (.inr (fun h => (show (98 : Nat) ≠ 10 by decide) (Option.some.inj h)))) (.word (y := [98]) (by decide +kernel) (by decide +kernel) (by decide +kernel) (show amg (some 98) WS = false by decide +kernel) (lcm_n1 (show (98 : Nat) ≠ 45 by decide)) (w_small (w := [98]) (by decide +kernel) (by decide +kernel) (by decide +kernel) (g_NMS c hc)) (by decide) (.inl ⟨by decide +kernel, by decide +kernel⟩) (.nil))), fun h => absurd (Option.some.inj h) (by decide)⟩
theorem run_16 : RunTo [ps (Str.ofString "char") (Str.ofString "'é'") (Str.ofString "é")] :=
  fun c hc R => ⟨_, .word (y := [39, 233, 39]) (by decide +kernel) (by decide +kernel) (by decide +kernel) (show amg (some 39) WS = false by decide +kernel) (lcm_n1 (show (39 : Nat) ≠ 45 by decide)) (char_v (by decide +kernel) (w_char (c := 233) (by decide +kernel) (by decide) (by decide))) (by decide) (.inl ⟨by decide +kernel, by decide +kernel⟩) (.nil), fun h => absurd (Option.some.inj h) (by decide)⟩
theorem cellar_run : ∀ ws ∈ cellar, RunTo ws :=
  List.forall_mem_cons.mpr ⟨run_0, List.forall_mem_cons.mpr ⟨run_1, List.forall_mem_cons.mpr ⟨run_2, List.forall_mem_cons.mpr ⟨run_3, List.forall_mem_cons.mpr ⟨run_4, List.forall_mem_cons.mpr ⟨run_5, List.forall_mem_cons.mpr ⟨run_6, List.forall_mem_cons.mpr ⟨run_7, List.forall_mem_cons.mpr ⟨run_8, List.forall_mem_cons.mpr ⟨run_9, List.forall_mem_cons.mpr ⟨run_10, List.forall_mem_cons.mpr ⟨run_11, List.forall_mem_cons.mpr ⟨run_12, List.forall_mem_cons.mpr ⟨run_13, List.forall_mem_cons.mpr ⟨run_14, List.forall_mem_cons.mpr ⟨run_15, List.forall_mem_cons.mpr ⟨run_16, fun _ h => absurd h List.not_mem_nil⟩⟩⟩⟩⟩⟩⟩⟩⟩⟩⟩⟩⟩⟩⟩⟩⟩

-- 98p_law
theorem gaps_head : ∀ g ∈ gapsL, ∃ c t, g = c :: t ∧ c ∈ [32, 10, 13, 12] := by
  intro g hg
  unfold gapsL at hg
  simp only [List.mem_cons, List.not_mem_nil, or_false] at hg
  rcases hg with rfl | rfl | rfl | rfl | rfl | rfl | rfl <;> exact ⟨_, _, rfl, by decide⟩
theorem gaps_ws : ∀ g ∈ gapsL, ∀ a ∈ g, amg (some a) WS = true := by decide +kernel
theorem page_lx : ∀ (picks : List (List PW × List Nat)) (st : PS) (R : List Nat) (rows : List Row) (r : Option (Nat × Nat)), (∀ q ∈ picks, q.1 ∈ cellar ∧ q.2 ∈ gapsL) → R[0]? ≠ some 10 → LX R (picks.foldl turnF st).p rows r →
    ∃ rows₀ y, LX (y ++ R) st.p (rows₀ ++ rows) r ∧ (picks.foldl turnF st).ds = st.ds ++ rows₀.map rowX ∧ (picks.foldl turnF st).S = st.S ++ y ∧ (∀ q ∈ rows₀, ApX q.kind q.text) ∧ (y ++ R)[0]? ≠ some 10
  | [], st, R, rows, r, _, hR, h => ⟨[], [], h, by simp, by simp, fun _ h => absurd h List.not_mem_nil, hR⟩
  | q :: picks, st, R, rows, r, hq, hR, h => by
    obtain ⟨rows₁, y₁, a, b, c, d, e⟩ := page_lx picks (turnF st q) R rows r (fun x hx => hq x (.tail _ hx)) hR h
    obtain ⟨hc, hg⟩ := hq q (.head _)
    have a2 := gap_ws (gaps_ws _ hg) (.inr e) (q.1.foldl setW st).p _ _ a
    obtain ⟨g0, gt, he, hm⟩ := gaps_head _ hg
    obtain ⟨S, hrun, hS⟩ := cellar_run _ hc g0 hm (gt ++ (y₁ ++ R))
    rw [show g0 :: (gt ++ (y₁ ++ R)) = q.2 ++ (y₁ ++ R) by rw [he]; rfl] at hrun
    obtain ⟨rows₀, y, rfl, a', b', c', d'⟩ := hrun.lx a2
    refine ⟨rows₀ ++ rows₁, y ++ q.2 ++ y₁, ?_, ?_, ?_, ?_, ?_⟩
    · rw [show y ++ q.2 ++ y₁ ++ R = y ++ (q.2 ++ (y₁ ++ R)) by simp, List.append_assoc]; exact a'
    · rw [List.foldl_cons, b]
      show (q.1.foldl setW st).ds ++ _ = _
      rw [b', List.map_append, List.append_assoc]
    · rw [List.foldl_cons, c]
      show (q.1.foldl setW st).S ++ q.2 ++ y₁ = _
      rw [c']; simp
    · intro x hx
      rcases List.mem_append.mp hx with hx | hx
      · exact d' x hx
      · exact d x hx
    · rw [show y ++ q.2 ++ y₁ ++ R = y ++ (q.2 ++ (y₁ ++ R)) by simp]; exact hS
theorem ap_end : ApX (Str.ofString "end") (Str.ofString "") := .inl ⟨by decide +kernel, by decide +kernel⟩
/-- the page's words are the rows that are due -/
theorem page_told {picks : List (List PW × List Nat)} (h : ∀ q ∈ picks, q.1 ∈ cellar ∧ q.2 ∈ gapsL) : ∃ rows, LexR (pageF picks).S 0 true rows none ∧ (pageF picks).ds ++ [rowT (Str.ofString "end") [] .none (pageF picks).p (pageF picks).p] = rows.map rowX ∧ ∀ q ∈ rows, ApX q.kind q.text := by
  obtain ⟨rows₀, y, a, b, c, d, _⟩ := page_lx picks ⟨[], (1, 1, true), []⟩ [] _ none h (by simp) .fin
  obtain ⟨r', e, f⟩ := a.top
  cases r' with
  | some x => cases f
  | none =>
    have hS : (pageF picks).S = y ++ [] := by unfold pageF; rw [c]; simp
    rw [hS]
    refine ⟨_, e, ?_, ?_⟩
    · unfold pageF
      rw [b, List.map_append]
      rfl
    · intro x hx
      rcases List.mem_append.mp hx with hx | hx
      · exact d x hx
      · rw [List.mem_singleton.mp hx]; exact ap_end
theorem l_spoilt : ∀ q ∈ spoiltL, ∀ p : Nat × Nat × Bool, ∃ rows, LX q.1.cps.toList p rows (some (p.1, p.2.1 + q.2)) := by
  intro q hq p
  unfold spoiltL at hq
  simp only [List.mem_cons, List.not_mem_nil, or_false] at hq
  have fl : ∀ w : List Nat, amg w[0]? WS = false → lcm w 0 = false → amg w[0]? DIG = true → w[0]? ≠ some 48 → (cut w 0 (takeEnd w DIG 0)).length ≤ 20 → floatB w (takeEnd w DIG 0) = true → LX w p [] (some (p.1, p.2.1 + 0)) := fun w a b c d e f => .bad ⟨a, b⟩ (.float c d e f)
  have ch : ∀ w : List Nat, w[0]? = some 39 → lcm w 0 = false → 2 ≤ w.length → bareO w[1]? = false → LX w p [] (some (p.1, p.2.1 + 0)) := fun w a b c d => .bad ⟨by rw [a]; decide +kernel, b⟩ (.char a c d)
  have te : ∀ (w : List Nat) ps j, w[0]? = some 34 → lcm w 0 = false → TxtR w 1 ps false j → LX w p [] (some (p.1, p.2.1 + 0)) := fun w ps j a b c => .bad ⟨by rw [a]; decide +kernel, b⟩ (.text a c)
  rcases hq with rfl | rfl | rfl | rfl | rfl | rfl | rfl | rfl | rfl | rfl | rfl | rfl
  · exact ⟨_, fl _ (by decide +kernel) (by decide +kernel) (by decide +kernel) (by decide +kernel) (by decide +kernel) (by decide +kernel)⟩
  · exact ⟨_, fl _ (by decide +kernel) (by decide +kernel) (by decide +kernel) (by decide +kernel) (by decide +kernel) (by decide +kernel)⟩
  · exact ⟨_, fl _ (by decide +kernel) (by decide +kernel) (by decide +kernel) (by decide +kernel) (by decide +kernel) (by decide +kernel)⟩
  · exact ⟨_, fl _ (by decide +kernel) (by decide +kernel) (by decide +kernel) (by decide +kernel) (by decide +kernel) (by decide +kernel)⟩
  · exact ⟨_, ch _ (by decide +kernel) (by decide +kernel) (by decide +kernel) (by decide +kernel)⟩
  · exact ⟨_, ch _ (by decide +kernel) (by decide +kernel) (by decide +kernel) (by decide +kernel)⟩
  · exact ⟨_, te _ _ _ (by decide +kernel) (by decide +kernel) (.plain (c := 97) (by decide +kernel) (by decide +kernel) (by decide) (by decide) (.bad (by decide +kernel)))⟩
  · exact ⟨_, te _ _ _ (by decide +kernel) (by decide +kernel) (.bad (by decide +kernel))⟩
  · exact ⟨_, te _ _ _ (by decide +kernel) (by decide +kernel) (.plain (c := 97) (by decide +kernel) (by decide +kernel) (by decide) (by decide) (.bad (by decide +kernel)))⟩
  · exact ⟨_, te _ _ _ (by decide +kernel) (by decide +kernel) (.plain (c := 97) (by decide +kernel) (by decide +kernel) (by decide) (by decide) (.bad (by decide +kernel)))⟩
  · rw [show (Str.ofString "--→", 2).1.cps.toList = [45, 45] ++ [8594] by decide +kernel]
    exact ⟨_, .word (y := [45, 45]) (by decide +kernel) ⟨by decide +kernel, by decide +kernel⟩ (w_sym (w := [45, 45]) rfl (by decide +kernel) (by decide +kernel) (by decide +kernel)) (.bad ⟨by decide +kernel, by decide +kernel⟩ (.other (c := 8594) rfl (by decide +kernel) (by decide +kernel) (by decide +kernel) (by decide +kernel) (by decide +kernel) (by decide) (by decide)))⟩
  · rw [show (Str.ofString "---±x", 3).1.cps.toList = [45, 45, 45] ++ [177, 120] by decide +kernel]
    exact ⟨_, .word (y := [45, 45, 45]) (by decide +kernel) ⟨by decide +kernel, by decide +kernel⟩ (w_sym (w := [45, 45, 45]) rfl (by decide +kernel) (by decide +kernel) (by decide +kernel)) (.bad ⟨by decide +kernel, by decide +kernel⟩ (.other (c := 177) rfl (by decide +kernel) (by decide +kernel) (by decide +kernel) (by decide +kernel) (by decide +kernel) (by decide) (by decide)))⟩
theorem spoilt_head : ∀ q ∈ spoiltL, q.1.cps.toList[0]? ≠ some 10 ∧ q.1.cps.toList.length ≤ 10 ∧ 123 ∉ q.1.cps.toList := by decide +kernel
/-- with a spoilt word at its end the page is told as the place of that word -/
theorem page_bad {picks : List (List PW × List Nat)} (h : ∀ q ∈ picks, q.1 ∈ cellar ∧ q.2 ∈ gapsL) {q : Str × Nat} (hq : q ∈ spoiltL) : ∃ rows pl, LexR ((pageF picks).S ++ q.1.cps.toList) 0 true rows (some pl) ∧ lc ((pageF picks).S ++ q.1.cps.toList) pl = ((pageF picks).p.1, (pageF picks).p.2.1 + q.2) := by
  obtain ⟨rs, hr⟩ := l_spoilt q hq (pageF picks).p
  obtain ⟨rows₀, y, a, b, c, d, _⟩ := page_lx picks ⟨[], (1, 1, true), []⟩ q.1.cps.toList _ _ h (spoilt_head q hq).1 hr
  obtain ⟨r', e, f⟩ := a.top
  have hS : (pageF picks).S = y := by unfold pageF; rw [c]; simp
  rw [hS]
  cases r' with
  | none => cases f
  | some x => exact ⟨_, x, e, Option.some.inj f⟩
theorem cellar_nob : ∀ ws ∈ cellar, ∀ x ∈ ws, 123 ∉ x.text.cps.toList := by decide +kernel
theorem gaps_nob : ∀ g ∈ gapsL, 123 ∉ g := by decide
theorem setW_S (st : PS) (x : PW) : (setW st x).S = st.S ++ x.text.cps.toList := by unfold setW; split <;> rfl
theorem sets_nob : ∀ (ws : List PW) (st : PS), (∀ x ∈ ws, 123 ∉ x.text.cps.toList) → 123 ∉ st.S → 123 ∉ (ws.foldl setW st).S
  | [], _, _, h => h
  | x :: ws, st, hw, h => sets_nob ws (setW st x) (fun y hy => hw y (.tail _ hy)) (by
      rw [setW_S]
      intro hm
      rcases List.mem_append.mp hm with hm | hm
      · exact h hm
      · exact hw x (.head _) hm)
theorem page_nob : ∀ (picks : List (List PW × List Nat)) (st : PS), (∀ q ∈ picks, q.1 ∈ cellar ∧ q.2 ∈ gapsL) → 123 ∉ st.S → 123 ∉ (picks.foldl turnF st).S
  | [], _, _, h => h
  | q :: picks, st, hq, h => page_nob picks (turnF st q) (fun x hx => hq x (.tail _ hx)) (by
      intro hm
      rcases List.mem_append.mp (show 123 ∈ (q.1.foldl setW st).S ++ q.2 from hm) with hm | hm
      · exact sets_nob q.1 st (cellar_nob _ (hq q (.head _)).1) h hm
      · exact gaps_nob _ (hq q (.head _)).2 hm)
theorem page_sizes {picks : List (List PW × List Nat)} (h : ∀ q ∈ picks, q.1 ∈ cellar ∧ q.2 ∈ gapsL) (hl : picks.length ≤ 5) : (pageF picks).S.length ≤ 220 ∧ (pageF picks).p.1 ≤ 221 ∧ 1 ≤ (pageF picks).p.2.1 ∧ (pageF picks).p.2.1 ≤ 1761 ∧ (pageF picks).ds.length ≤ 220 ∧ 123 ∉ (pageF picks).S := by
  have hb := page_bnd picks ⟨[], (1, 1, true), []⟩ 0 ⟨Nat.le_refl _, Nat.le_refl _, Nat.le_refl _, Nat.le_refl _, Nat.le_refl _⟩ h
  obtain ⟨b1, b2, b3, b4, b5⟩ := hb
  have hn := page_nob picks ⟨[], (1, 1, true), []⟩ h List.not_mem_nil
  have hm : 0 + 44 * picks.length ≤ 220 := by rw [Nat.zero_add]; exact Nat.mul_le_mul_left 44 hl
  exact ⟨Nat.le_trans b1 hm, Nat.le_trans b2 (Nat.add_le_add_left hm 1), b3, Nat.le_trans b4 (Nat.add_le_add_left (Nat.mul_le_mul_left 8 hm) 1), Nat.le_trans b5 hm, hn⟩
/-- the law's first two questions -/
theorem first_bad : ∃ rows pl, LexR [120, 32, 49, 46, 53] 0 true rows (some pl) ∧ lc [120, 32, 49, 46, 53] pl = (1, 3) := by
  have h : LX ([120] ++ (32 :: [49, 46, 53])) (1, 1, true) _ (some (1, 3)) :=
    .word (y := [120]) (by decide +kernel) ⟨by decide +kernel, by decide +kernel⟩ (w_small (w := [120]) rfl (by decide +kernel) (by decide +kernel) (by decide +kernel)) (.skip (by decide +kernel) (.bad ⟨by decide +kernel, by decide +kernel⟩ (.float (by decide +kernel) (by decide +kernel) (by decide +kernel) (by decide +kernel))))
  obtain ⟨r', e, f⟩ := h.top
  cases r' with
  | none => cases f
  | some x => exact ⟨_, x, e, Option.some.inj f⟩
theorem first_told : ∃ rows, LexR [91, 49, 46, 46, 53, 93] 0 true rows none ∧ rows.length = 6 := by
  have h : LX ([91] ++ ([49] ++ ([46, 46] ++ ([53] ++ ([93] ++ []))))) (1, 1, true) _ none :=
    .word (y := [91]) (by decide +kernel) ⟨by decide +kernel, by decide +kernel⟩ (w_special (by decide +kernel))
    (.word (y := [49]) (by decide +kernel) ⟨by decide +kernel, by decide +kernel⟩ (w_dec (w := [49]) rfl (by decide +kernel) (by decide) (by decide +kernel) (by decide) (by decide +kernel) (by decide +kernel))
    (.word (y := [46, 46]) (by decide +kernel) ⟨by decide +kernel, by decide +kernel⟩ (w_sym (w := [46, 46]) rfl (by decide +kernel) (by decide +kernel) (by decide +kernel))
    (.word (y := [53]) (by decide +kernel) ⟨by decide +kernel, by decide +kernel⟩ (w_dec (w := [53]) rfl (by decide +kernel) (by decide) (by decide +kernel) (by decide) (by decide +kernel) (by decide +kernel))
    (.word (y := [93]) (by decide +kernel) ⟨by decide +kernel, by decide +kernel⟩ (w_special (by decide +kernel)) .fin))))
  obtain ⟨r', e, f⟩ := h.top
  cases r' with
  | some x => cases f
  | none => exact ⟨_, e, rfl⟩

-- 98p_w_eq
/-- data that two readings can compare -/
noncomputable def kq0 (f : Dat → Bool) : Dat → Bool
  | .str x => PyData.strOk x
  | .tuple ds => ds.all f
  | .list ds => ds.all f
  | .bytes _ => false
  | _ => true
noncomputable def kqB (n : Nat) : Dat → Bool := Nat.rec (fun _ => false) (fun _ f => kq0 f) n
theorem kqB_s : ∀ {n : Nat} {d : Dat}, kqB n d = true → ∃ m, n = m + 1 ∧ kq0 (kqB m) d = true
  | 0, _, h => nomatch h
  | m + 1, _, h => ⟨m, rfl, h⟩
theorem kqB_in {h₀ h : Heap} {L : Addr} {news : List (Addr × Obj)} (N : News h₀ L h news) (n : Nat) {v : Value} {d : Dat} (H : DatIn news v d) (hk : kqB n d = true) : ∃ as, Reads h v (kqdP d) as :=
  DatIn.rec (motive_1 := fun v d _ => ∀ n, kqB n d = true → ∃ as, Reads h v (kqdP d) as) (motive_2 := fun vs ds _ => ∀ n, (∀ d ∈ ds, kqB n d = true) → ∃ as, ReadsAll h vs (kqdPs ds) as)
    (fun _ _ => ⟨_, Reads.none⟩) (fun b _ _ => ⟨_, Reads.bool b⟩) (fun i t _ _ => ⟨_, Reads.int i t⟩) (fun x t _ _ => ⟨_, Reads.str x t⟩)
    (fun _ _ _ h => (kqB_s h).elim fun _ e => nomatch e.2)
    (fun hm _ ih n h => (kqB_s h).elim fun m e => (ih m (List.all_eq_true.mp e.2)).elim fun as q => ⟨as, reads_tuple_at (N.get hm) rfl rfl q⟩)
    (fun hm _ ih n h => (kqB_s h).elim fun m e => (ih m (List.all_eq_true.mp e.2)).elim fun as q => ⟨_, reads_list_at (N.get hm) rfl rfl q⟩)
    (fun _ _ => ⟨_, ReadsAll.nil⟩)
    (fun _ _ i1 i2 n h => (i1 n (h _ (.head _))).elim fun as q => (i2 n fun d hm => h d (.tail _ hm)).elim fun bs p => ⟨_, ReadsAll.cons q p⟩)
    H n hk
theorem kqB_lay : ∀ (n : Nat) (d : Dat), kqB n d = true → (kqdP d).canLay0 = true ∧ (kqdP d).depth ≤ n
  | 0, _, h => nomatch h
  | n + 1, d, h => by
    have all : ∀ ds : List Dat, (∀ d ∈ ds, kqB n d = true) → PyData.canLayAll0 (kqdPs ds) = true ∧ PyData.depthAll (kqdPs ds) ≤ n := by
      intro ds
      induction ds with
      | nil => intro _; exact ⟨rfl, Nat.zero_le _⟩
      | cons d ds ihd =>
        intro h
        have h1 := kqB_lay n d (h d (.head _))
        have h2 := ihd fun e he => h e (.tail _ he)
        exact ⟨Bool.and_eq_true_iff.mpr ⟨h1.1, h2.1⟩, Nat.max_le.mpr ⟨h1.2, h2.2⟩⟩
    cases d with
    | none => exact ⟨rfl, Nat.zero_le _⟩
    | bool b => exact ⟨rfl, Nat.zero_le _⟩
    | int i => exact ⟨rfl, Nat.zero_le _⟩
    | str x => exact ⟨h, Nat.zero_le _⟩
    | bytes b => exact nomatch h
    | tuple ds => exact ⟨(all ds (List.all_eq_true.mp h)).1, Nat.succ_le_succ (all ds (List.all_eq_true.mp h)).2⟩
    | list ds => exact ⟨(all ds (List.all_eq_true.mp h)).1, Nat.succ_le_succ (all ds (List.all_eq_true.mp h)).2⟩
theorem kq0_mono {f g : Dat → Bool} (h : ∀ d, f d = true → g d = true) (d : Dat) (hk : kq0 f d = true) : kq0 g d = true := by
  cases d with
  | tuple ds => exact List.all_eq_true.mpr fun x hx => h x (List.all_eq_true.mp hk x hx)
  | list ds => exact List.all_eq_true.mpr fun x hx => h x (List.all_eq_true.mp hk x hx)
  | none => exact hk
  | bool b => exact hk
  | int i => exact hk
  | str x => exact hk
  | bytes b => exact hk
theorem kqB_mono : ∀ (n : Nat) (d : Dat), kqB n d = true → kqB (n + 1) d = true
  | 0, _, h => nomatch h
  | n + 1, d, h => kq0_mono (kqB_mono n) d h
theorem kqB_up (d : Dat) (h : kqB 3 d = true) : kqB 8 d = true := kqB_mono 7 d (kqB_mono 6 d (kqB_mono 5 d (kqB_mono 4 d (kqB_mono 3 d h))))
/-- two readings of the same data are not unequal -/
theorem ne_self {prog : Program} {w : World} {A : Around} {E : Value → Shared → Prop} {s : Shared} {h₀ : Heap} {L : Addr} {news n₁ n₂ : List (Addr × Obj)} {v v' : Value} {d : Dat} {Q : Value → Shared → Prop} (N : News h₀ L s.heap news)
    (h1 : DatIn n₁ v d) (s1 : ∀ q ∈ n₁, q ∈ news) (h2 : DatIn n₂ v' d) (s2 : ∀ q ∈ n₂, q ∈ news) (hk : kqB 9 d = true) (hu : A.units + 64 < cLine) (h : Q (.bool false) s) : wpAny (model prog w) A (compareOp .NotEq v v') Q E s := by
  obtain ⟨as, ra⟩ := kqB_in N 9 (h1.mono s1) hk
  obtain ⟨bs, rb⟩ := kqB_in N 9 (h2.mono s2) hk
  have la := kqB_lay 9 d hk
  have hs : SeqAt.shaped (kqdP d) = true := by unfold SeqAt.shaped; rw [la.1, Bool.true_and]; exact decide_eq_true (Nat.le_trans la.2 (by decide))
  exact ne_dataH ra rb hs hs hu (by rw [SeqAt.eqv_refl _ la.1]; exact h)
theorem rowT_ok {kd : Str} {y : List Nat} {dv : Dat} {p p' : Nat × Nat × Bool} (h1 : PyData.strOk kd = true) (h2 : PyData.strOk (tx y) = true) (h3 : kqB 2 dv = true) : kqB 3 (rowT kd y dv p p') = true := by
  show (PyData.strOk kd && (PyData.strOk (tx y) && (kqB 2 dv && true))) = true
  rw [h1, h2, h3]; rfl
theorem cellar_ok : ∀ ws ∈ cellar, ∀ x ∈ ws, PyData.strOk x.kind = true ∧ PyData.strOk (tx x.text.cps.toList) = true ∧ kqB 2 x.val = true := by decide +kernel
theorem sets_ok : ∀ (ws : List PW) (st : PS), (∀ x ∈ ws, PyData.strOk x.kind = true ∧ PyData.strOk (tx x.text.cps.toList) = true ∧ kqB 2 x.val = true) → (∀ d ∈ st.ds, kqB 3 d = true) → ∀ d ∈ (ws.foldl setW st).ds, kqB 3 d = true
  | [], _, _, h => h
  | x :: ws, st, hw, h => sets_ok ws (setW st x) (fun y hy => hw y (.tail _ hy)) (by
      have hx := hw x (.head _)
      unfold setW
      split
      · intro d hd
        rcases List.mem_append.mp hd with hd | hd
        · exact h d hd
        · rw [List.mem_singleton.mp hd]; exact rowT_ok hx.1 hx.2.1 hx.2.2
      · exact h)
theorem page_ok : ∀ (picks : List (List PW × List Nat)) (st : PS), (∀ q ∈ picks, q.1 ∈ cellar ∧ q.2 ∈ gapsL) → (∀ d ∈ st.ds, kqB 3 d = true) → ∀ d ∈ (picks.foldl turnF st).ds, kqB 3 d = true
  | [], _, _, h => h
  | q :: picks, st, hq, h => page_ok picks (turnF st q) (fun x hx => hq x (.tail _ hx)) (sets_ok q.1 st (cellar_ok _ (hq q (.head _)).1) h)
theorem due_ok {picks : List (List PW × List Nat)} (h : ∀ q ∈ picks, q.1 ∈ cellar ∧ q.2 ∈ gapsL) {p : Nat × Nat × Bool} : kqB 9 (.list ((pageF picks).ds ++ [rowT (Str.ofString "end") [] .none p p])) = true := by
  have up : ∀ d, kqB 3 d = true → kqB 8 d = true := kqB_up
  show ((pageF picks).ds ++ [_]).all (kqB 8) = true
  rw [List.all_eq_true]
  intro d hd
  rcases List.mem_append.mp hd with hd | hd
  · exact up d (page_ok picks _ h (fun _ h => absurd h List.not_mem_nil) d hd)
  · rw [List.mem_singleton.mp hd]; exact up _ (rowT_ok (by decide +kernel) (by decide +kernel) rfl)

end Mine
end
section
open PySem PySem.W PySem.Calls PyProof.Rows
set_option Elab.async false
set_option maxRecDepth 100000
set_option linter.unusedVariables false
set_option maxHeartbeats 8000000
set_option pp.deepTerms.threshold 8
namespace Mine
section
local macro_rules | `(tactic| refine $f:ident $args*) => `(tactic| assumption)
theorem hd (x : PySem.Challenge.rw_sy0021_01.row.Holds) : PySem.Challenge.rw_sy0021_01.row.Holds := by
  k_head
end
-- 20macros
section
theorem mi {α : Type} {l : List α} {p : α} (i : Nat) (h : l[i]? = some p) : p ∈ l := List.mem_of_getElem? h
theorem news_sub {h₀ h : Heap} {L : Addr} {l l' : List (Addr × Obj)} (N : News h₀ L h l) (hs : ∀ q ∈ l', q ∈ l) : News h₀ L h l' := fun z hz => N z (hs z hz)
theorem rm0 {dp n : Nat} (h : dp + n < recursionLimit) : dp < recursionLimit := Nat.lt_of_le_of_lt (Nat.le_add_right _ _) h
theorem rmA {dp n b : Nat} (h : dp + n < recursionLimit) (k : Nat.ble (b + 1) n = true) : dp + 1 + b < recursionLimit := by
  have := Nat.le_of_ble_eq_true k; omega
theorem umA {un n b : Nat} (h : un + 8 * n < cLine) (k : Nat.ble (b + 1) n = true) : un + 3 + 8 * b < cLine := by
  have := Nat.le_of_ble_eq_true k; omega
noncomputable abbrev lz : List Str := looseW Mine.hd.view_1 [Str.ofString "LazyError", Str.ofString "TOO_GREAT", Str.ofString "PLAIN_ESCAPES"]
end
local macro_rules | `(tactic| walk_at $s:str) => `(tactic| k_extra $s)
local macro_rules | `(tactic| omega) => `(tactic| first | k_extra "M om" | omega (config := {}))
local macro_rules | `(tactic| k_in) => `(tactic| k_extra "M in")
local macro_rules | `(tactic| k_all) => `(tactic| k_extra "M all")
section
section
variable {h₀ h' : Heap} {L : Addr} {m : Str → Option Value} {news : List (Addr × Obj)} {s : Shared} {Q : Value → Shared → Prop} {tk' : Nat}
theorem ret_bool {b b' : Bool} (hret : ∀ h' tk', Fr h₀ L h' m → News h₀ L h' news → Q (.bool b) { s with heap := h', toks := tk' }) (e : b' = b) (F : Fr h₀ L h' m) (N : News h₀ L h' news) : Q (.bool b') { s with heap := h', toks := tk' } := by
  subst e; exact hret _ _ F N
theorem ret_str {b b' : Str} {t : Tok} (hret : ∀ h' tk' t, Fr h₀ L h' m → News h₀ L h' news → Q (.str b t) { s with heap := h', toks := tk' }) (e : b' = b) (F : Fr h₀ L h' m) (N : News h₀ L h' news) : Q (.str b' t) { s with heap := h', toks := tk' } := by
  subst e; exact hret _ _ _ F N
end
section
variable {M : Model} {A : Around} {E : Value → Shared → Prop} {s : Shared} {Q : Value → Shared → Prop} {x y z u : Value} {g : Addr}
theorem call_app0 (h : wpAny M A (call (.ref g) [x]) Q E s) : wpAny M A (call (.ref g) ([x] ++ [])) Q E s := h
theorem call_app1 (h : wpAny M A (call (.ref g) [x, y]) Q E s) : wpAny M A (call (.ref g) ([x] ++ [y])) Q E s := h
theorem call_app2 (h : wpAny M A (call (.ref g) [x, y, z]) Q E s) : wpAny M A (call (.ref g) ([x] ++ [y, z])) Q E s := h
end
end
section
theorem news_tl1 {h₀ h : Heap} {L : Addr} {p : Addr × Obj} {l : List (Addr × Obj)} (N : News h₀ L h (p :: l)) : News h₀ L h l := fun z hz => N z (.tail _ hz)
theorem news_tl2 {h₀ h : Heap} {L : Addr} {p q : Addr × Obj} {l : List (Addr × Obj)} (N : News h₀ L h (p :: q :: l)) : News h₀ L h l := news_tl1 (news_tl1 N)
theorem news_tl3 {h₀ h : Heap} {L : Addr} {p q r : Addr × Obj} {l : List (Addr × Obj)} (N : News h₀ L h (p :: q :: r :: l)) : News h₀ L h l := news_tl1 (news_tl2 N)
theorem news_tl4 {h₀ h : Heap} {L : Addr} {p q r u : Addr × Obj} {l : List (Addr × Obj)} (N : News h₀ L h (p :: q :: r :: u :: l)) : News h₀ L h l := news_tl1 (news_tl3 N)
theorem news_dr1 {h₀ h : Heap} {L : Addr} {p q r : Addr × Obj} {l : List (Addr × Obj)} (N : News h₀ L h (p :: q :: r :: l)) : News h₀ L h (p :: q :: l) := news_sub N (List.forall_mem_cons.mpr ⟨mi 0 rfl, (List.forall_mem_cons.mpr ⟨mi 1 rfl, fun q hq => .tail _ (.tail _ (.tail _ (hq)))⟩)⟩)
theorem news_dr2 {h₀ h : Heap} {L : Addr} {p q r r2 : Addr × Obj} {l : List (Addr × Obj)} (N : News h₀ L h (p :: q :: r :: r2 :: l)) : News h₀ L h (p :: q :: l) := news_dr1 (news_dr1 N)
theorem news_dr3 {h₀ h : Heap} {L : Addr} {p q r r2 r3 : Addr × Obj} {l : List (Addr × Obj)} (N : News h₀ L h (p :: q :: r :: r2 :: r3 :: l)) : News h₀ L h (p :: q :: l) := news_dr1 (news_dr2 N)
end
section
theorem cast1 : (1 : Int) = ((1 : Nat) : Int) := rfl
theorem cast2 : (2 : Int) = ((2 : Nat) : Int) := rfl
theorem apart_of {d : Addr} {l : List (Addr × Obj)} (h : AllLt d l) : ∀ p ∈ l, p.1 ≠ d := fun p hp => Nat.ne_of_lt (ktn_ltOf h p hp)
end

-- 30amg
section
theorem c_is_among {w : World} {dp un : Nat} {gd : Option (List Code)} {cn : Str} {cs : Scope} {a : Addr} {ccd : Value} {cl : List (Str × Addr)} {outer : List Env} {A₀ : Around} {base h₀ : Heap} {L : Addr} {m : Str → Option Value} {s : Shared} {mean : ExcName → Option Value} {mg mb : Str → Option Value} {Q E : Value → Shared → Prop} {news : List (Addr × Obj)} {o : Option Nat} {y : Str} {tx ty : Tok}
  (B : Below A₀ base outer h₀) (F : Fr h₀ L s.heap m) (X : (Mine.hd.heap_1 w.params).In h₀) (N : News h₀ L s.heap (news)) (TT : Top Mine.hd.view_1 lz mean mg mb h₀) (hk : cs.kind = .function) (hd : dp + 1 < recursionLimit) (hu : un + 8 * 1 < cLine)
  (hret : ∀ h' tk', Fr h₀ L h' m → News h₀ L h' news → Q (.bool (amg o y.cps.toList)) { s with heap := h', toks := tk' }) :
  wpAny (model PySem.Challenge.rw_sy0021_01.row.prog w) (ktrTop dp un gd cn cs L a ccd cl outer) (call (.ref 158) [.str (sgo o) tx, .str y ty]) Q E s := by
  have hfill : (Mine.hd.heap_1 = Mine.hd.heap_1 ∧ PySem.Challenge.rw_sy0021_01 = PySem.Challenge.rw_sy0021_01) := by k_fill; exact ⟨rfl, rfl⟩
  clear hfill
  refine wpAny_call ?_
  k_with_none
  k_with "M enter" => (refine' code_def ?k1 ?k2 ?k3 ?k4 ?k5 ?kA ?kF ?kK ?k6 ?k7 ?k8 ?k9 ?kB ?_ ?c2 ?c3 ?c4 ?c5; (case kA => exact rfl); (case kF => exact rfl); (case kK => assumption); (case k1 => k_asm); (case k2 => k_asm); (case k3 => k_asm); (case k4 => k_asm); (case k5 => k_asm); (case k6 => k_is); (case k7 => k_is); (case k8 => first | exact rm0 (by assumption) | ktr_room); (case k9 => first | exact BindsTo.of_eq rfl | exact binds_K (by k_in) rfl (by k_is) rfl rfl rfl); (case c5 => decide); (case kB => exact locs rfl); (case c2 => exact rfl); (case c3 => exact rfl); (case c4 => exact rfl); k_whole; intro g' L' h' FG' F' N' B' X' T'; (try dsimp only); (try k_lift B'); (try k_fold))
  k_dflt (walk_at "M enter")
  k_with_none
  k_with "M in" => (first | with_reducible assumption | exact Frag.In.keeps (by with_reducible assumption) (Fr.keep (by with_reducible assumption)))
  k_with "M all" => (first | assumption | exact apart_of (by first | assumption | exact And.right (by assumption) | exact And.right (And.right (by assumption)) | exact And.right (And.right (And.right (by assumption))) | exact And.right (And.right (And.right (And.right (by assumption))))))
  k_steps
  · rename_i ha kF kN _ _
    have ho : o ≠ none := by
      intro e; subst e
      rw [bne, sgo_none_iff] at ha; simp at ha
    rw [contains_sgo y o ho]
    exact hret _ _ (by assumption) (by assumption)
  · rename_i ha kF kN _ _
    have ho : o = none := by
      rw [bne, sgo_none_iff] at ha; cases o <;> simp at ha ⊢
    subst ho
    exact hret _ _ (by assumption) (by assumption)
end

-- 30sym
section
theorem ord_sgo {prog : Program} {w : World} {A : Around} {E : Value → Shared → Prop} {s : Shared} {c : Nat} {t : Tok} {Q : Value → Shared → Prop} (h : Q (.int (c : Nat) s.toks) { s with toks := s.toks + 1 }) :
    wpAny (model prog w) A (call (.builtin "ord") [.str (sgo (some c)) t]) Q E s := P.ord_of_char h
end
section
theorem c_is_symbol {w : World} {dp un : Nat} {gd : Option (List Code)} {cn : Str} {cs : Scope} {a : Addr} {ccd : Value} {cl : List (Str × Addr)} {outer : List Env} {A₀ : Around} {base h₀ : Heap} {L : Addr} {m : Str → Option Value} {s : Shared} {mean : ExcName → Option Value} {mg mb : Str → Option Value} {Q E : Value → Shared → Prop} {news : List (Addr × Obj)} {o : Option Nat} {tx : Tok}
  (B : Below A₀ base outer h₀) (F : Fr h₀ L s.heap m) (X : (Mine.hd.heap_1 w.params).In h₀) (N : News h₀ L s.heap (news)) (TT : Top Mine.hd.view_1 lz mean mg mb h₀) (hk : cs.kind = .function) (hd : dp + 2 < recursionLimit) (hu : un + 8 * 2 < cLine)
  (hret : ∀ h' tk', Fr h₀ L h' m → News h₀ L h' news → Q (.bool (symO o)) { s with heap := h', toks := tk' }) :
  wpAny (model PySem.Challenge.rw_sy0021_01.row.prog w) (ktrTop dp un gd cn cs L a ccd cl outer) (call (.ref 165) [.str (sgo o) tx]) Q E s := by
  have hfill : (Mine.hd.heap_1 = Mine.hd.heap_1 ∧ PySem.Challenge.rw_sy0021_01 = PySem.Challenge.rw_sy0021_01) := by k_fill; exact ⟨rfl, rfl⟩
  clear hfill
  refine wpAny_call ?_
  k_with_none
  k_with "M enter" => (refine' code_def ?k1 ?k2 ?k3 ?k4 ?k5 ?kA ?kF ?kK ?k6 ?k7 ?k8 ?k9 ?kB ?_ ?c2 ?c3 ?c4 ?c5; (case kA => exact rfl); (case kF => exact rfl); (case kK => assumption); (case k1 => k_asm); (case k2 => k_asm); (case k3 => k_asm); (case k4 => k_asm); (case k5 => k_asm); (case k6 => k_is); (case k7 => k_is); (case k8 => first | exact rm0 (by assumption) | ktr_room); (case k9 => first | exact BindsTo.of_eq rfl | exact binds_K (by k_in) rfl (by k_is) rfl rfl rfl); (case c5 => decide); (case kB => exact locs rfl); (case c2 => exact rfl); (case c3 => exact rfl); (case c4 => exact rfl); k_whole; intro g' L' h' FG' F' N' B' X' T'; (try dsimp only); (try k_lift B'); (try k_fold))
  k_dflt (walk_at "M enter")
  k_with_none
  k_with "M use" => ((case u1x => k_asm); (case u2x => k_asm); (case u3x => k_asm); (case u5x => k_asm); (case uKx => first | assumption | exact rfl); (case udx => first | exact rmA (by assumption) (by decide) | ktr_room); (case uux => first | exact umA (by assumption) (by decide) | ktr_units))
  k_with "M in" => (first | with_reducible assumption | exact Frag.In.keeps (by with_reducible assumption) (Fr.keep (by with_reducible assumption)))
  k_with "call ref" => (k_here; k_extra "M call")
  k_with "call ref" => (k_here; with_reducible first | refine call_app0 ?_ | refine call_app1 ?_ | refine call_app2 ?_)
  k_with "eval Call" => (k_here; k_dflt (refine Call_ ?_))
  k_with "M all" => (first | assumption | exact apart_of (by first | assumption | exact And.right (by assumption) | exact And.right (And.right (by assumption)) | exact And.right (And.right (And.right (by assumption))) | exact And.right (And.right (And.right (And.right (by assumption))))))
  k_with "M call" => ((with_reducible show wpAny _ _ (call (Value.ref 158) _) _ _ _); k_dflt (refine' c_is_among ?u1x ?u2x ?u3x ?u4x ?u5x ?uKx ?udx ?uux ?_; walk_at "M use"; (case u4x => k_asm)); k_whole; intro h' tk' F' N'; (try dsimp only); (try k_sweep))
  k_with "call builtin:ord" => (refine ord_sgo ?_)
  rcases o with _ | c
  all_goals k_steps
  all_goals (refine ret_bool hret ?_ (by assumption) (by assumption); simp_all [bne, sgo_none_iff, symO, amg, SYM]; try (rw [Bool.eq_iff_iff]; simp; try omega))
theorem c_is_bare {w : World} {dp un : Nat} {gd : Option (List Code)} {cn : Str} {cs : Scope} {a : Addr} {ccd : Value} {cl : List (Str × Addr)} {outer : List Env} {A₀ : Around} {base h₀ : Heap} {L : Addr} {m : Str → Option Value} {s : Shared} {mean : ExcName → Option Value} {mg mb : Str → Option Value} {Q E : Value → Shared → Prop} {news : List (Addr × Obj)} {o : Option Nat} {tx : Tok}
  (B : Below A₀ base outer h₀) (F : Fr h₀ L s.heap m) (X : (Mine.hd.heap_1 w.params).In h₀) (N : News h₀ L s.heap (news)) (TT : Top Mine.hd.view_1 lz mean mg mb h₀) (hk : cs.kind = .function) (hd : dp + 2 < recursionLimit) (hu : un + 8 * 2 < cLine)
  (hret : ∀ h' tk', Fr h₀ L h' m → News h₀ L h' news → Q (.bool (bareO o)) { s with heap := h', toks := tk' }) :
  wpAny (model PySem.Challenge.rw_sy0021_01.row.prog w) (ktrTop dp un gd cn cs L a ccd cl outer) (call (.ref 172) [.str (sgo o) tx]) Q E s := by
  have hfill : (Mine.hd.heap_1 = Mine.hd.heap_1 ∧ PySem.Challenge.rw_sy0021_01 = PySem.Challenge.rw_sy0021_01) := by k_fill; exact ⟨rfl, rfl⟩
  clear hfill
  refine wpAny_call ?_
  k_with_none
  k_with "M enter" => (refine' code_def ?k1 ?k2 ?k3 ?k4 ?k5 ?kA ?kF ?kK ?k6 ?k7 ?k8 ?k9 ?kB ?_ ?c2 ?c3 ?c4 ?c5; (case kA => exact rfl); (case kF => exact rfl); (case kK => assumption); (case k1 => k_asm); (case k2 => k_asm); (case k3 => k_asm); (case k4 => k_asm); (case k5 => k_asm); (case k6 => k_is); (case k7 => k_is); (case k8 => first | exact rm0 (by assumption) | ktr_room); (case k9 => first | exact BindsTo.of_eq rfl | exact binds_K (by k_in) rfl (by k_is) rfl rfl rfl); (case c5 => decide); (case kB => exact locs rfl); (case c2 => exact rfl); (case c3 => exact rfl); (case c4 => exact rfl); k_whole; intro g' L' h' FG' F' N' B' X' T'; (try dsimp only); (try k_lift B'); (try k_fold))
  k_dflt (walk_at "M enter")
  k_with_none
  k_with "M in" => (first | with_reducible assumption | exact Frag.In.keeps (by with_reducible assumption) (Fr.keep (by with_reducible assumption)))
  k_with "call ref" => (k_here; k_extra "M call")
  k_with "call ref" => (k_here; with_reducible first | refine call_app0 ?_ | refine call_app1 ?_ | refine call_app2 ?_)
  k_with "eval Call" => (k_here; k_dflt (refine Call_ ?_))
  k_with "M all" => (first | assumption | exact apart_of (by first | assumption | exact And.right (by assumption) | exact And.right (And.right (by assumption)) | exact And.right (And.right (And.right (by assumption))) | exact And.right (And.right (And.right (And.right (by assumption))))))
  k_with "call builtin:ord" => (refine ord_sgo ?_)
  rcases o with _ | c
  all_goals k_steps
  all_goals (refine ret_bool hret ?_ (by assumption) (by assumption); simp_all [bne, sgo_none_iff, bareO]; try (rw [Bool.eq_iff_iff]; simp; try omega))
noncomputable def NAMES : Str := Str.ofString "abcdefghijklmnopqrstuvwxyz_ABCDEFGHIJKLMNOPQRSTUVWXYZ0123456789'"
theorem c_name_letters {w : World} {dp un : Nat} {gd : Option (List Code)} {cn : Str} {cs : Scope} {a : Addr} {ccd : Value} {cl : List (Str × Addr)} {outer : List Env} {A₀ : Around} {base h₀ : Heap} {L : Addr} {m : Str → Option Value} {s : Shared} {mean : ExcName → Option Value} {mg mb : Str → Option Value} {Q E : Value → Shared → Prop} {news : List (Addr × Obj)}
  (B : Below A₀ base outer h₀) (F : Fr h₀ L s.heap m) (X : (Mine.hd.heap_1 w.params).In h₀) (N : News h₀ L s.heap (news)) (TT : Top Mine.hd.view_1 lz mean mg mb h₀) (hk : cs.kind = .function) (hd : dp + 2 < recursionLimit) (hu : un + 8 * 2 < cLine)
  (hret : ∀ h' tk' t, Fr h₀ L h' m → News h₀ L h' news → Q (.str NAMES t) { s with heap := h', toks := tk' }) :
  wpAny (model PySem.Challenge.rw_sy0021_01.row.prog w) (ktrTop dp un gd cn cs L a ccd cl outer) (call (.ref 179) []) Q E s := by
  have hfill : (Mine.hd.heap_1 = Mine.hd.heap_1 ∧ PySem.Challenge.rw_sy0021_01 = PySem.Challenge.rw_sy0021_01) := by k_fill; exact ⟨rfl, rfl⟩
  clear hfill
  refine wpAny_call ?_
  k_with_none
  k_with "M enter" => (refine' code_def ?k1 ?k2 ?k3 ?k4 ?k5 ?kA ?kF ?kK ?k6 ?k7 ?k8 ?k9 ?kB ?_ ?c2 ?c3 ?c4 ?c5; (case kA => exact rfl); (case kF => exact rfl); (case kK => assumption); (case k1 => k_asm); (case k2 => k_asm); (case k3 => k_asm); (case k4 => k_asm); (case k5 => k_asm); (case k6 => k_is); (case k7 => k_is); (case k8 => first | exact rm0 (by assumption) | ktr_room); (case k9 => first | exact BindsTo.of_eq rfl | exact binds_K (by k_in) rfl (by k_is) rfl rfl rfl); (case c5 => decide); (case kB => exact locs rfl); (case c2 => exact rfl); (case c3 => exact rfl); (case c4 => exact rfl); k_whole; intro g' L' h' FG' F' N' B' X' T'; (try dsimp only); (try k_lift B'); (try k_fold))
  k_dflt (walk_at "M enter")
  k_with_none
  k_with "M in" => (first | with_reducible assumption | exact Frag.In.keeps (by with_reducible assumption) (Fr.keep (by with_reducible assumption)))
  k_with "call ref" => (k_here; k_extra "M call")
  k_with "call ref" => (k_here; with_reducible first | refine call_app0 ?_ | refine call_app1 ?_ | refine call_app2 ?_)
  k_with "eval Call" => (k_here; k_dflt (refine Call_ ?_))
  k_with "M all" => (first | assumption | exact apart_of (by first | assumption | exact And.right (by assumption) | exact And.right (And.right (by assumption)) | exact And.right (And.right (And.right (by assumption))) | exact And.right (And.right (And.right (And.right (by assumption))))))
  k_with "call builtin:ord" => (refine ord_sgo ?_)
  k_steps
  all_goals (refine ret_str hret ?_ (by assumption) (by assumption); decide +kernel)
end

-- 31sign
section
structure SgK where
  (h1 h2 h3 h4 : Int) (k1 k2 k3 k4 : Tok)
noncomputable abbrev sgE (k : SgK) (t : Str) (t1 : Tok) (at' : Int) (t2 : Tok) (ln : Int) (t3 : Tok) (cl : Int) (t4 : Tok) : List DictEntry :=
  [⟨k.h1, .str (Str.ofString "text") k.k1, .str t t1⟩, ⟨k.h2, .str (Str.ofString "at") k.k2, .int at' t2⟩, ⟨k.h3, .str (Str.ofString "line") k.k3, .int ln t3⟩, ⟨k.h4, .str (Str.ofString "column") k.k4, .int cl t4⟩]
noncomputable abbrev SGo (k : SgK) (T : List Nat) (i : Nat) (t1 t2 t3 t4 : Tok) : Obj :=
  dictOf (sgE k (tx T) t1 (i : Int) t2 ((lc T i).1 : Int) t3 ((lc T i).2 : Int) t4) 4
theorem ret_sgo {h₀ h' : Heap} {L : Addr} {m : Str → Option Value} {news : List (Addr × Obj)} {s : Shared} {Q : Value → Shared → Prop} {tk' : Nat} {T : List Nat} {i : Nat} {b' : Str} {t : Tok}
   (hret : ∀ h' tk' t, Fr h₀ L h' m → News h₀ L h' news → Q (.str (sgo T[i]?) t) { s with heap := h', toks := tk' }) (e : b' = sgo T[i]?) (F : Fr h₀ L h' m) (N : News h₀ L h' news) : Q (.str b' t) { s with heap := h', toks := tk' } := by
  subst e; exact hret _ _ _ F N
theorem item_end {T : List Nat} {i : Int} {j : Nat} (hj : ¬ i < ((tx T).length : Int)) (h : i = (j : Int)) : Str.ofString "" = sgo T[j]? := by
  subst h
  rw [tx_len] at hj
  have : T[j]? = none := by simp; omega
  rw [this]
  decide +kernel
theorem item_in {T : List Nat} {i : Int} {j : Nat} (hj : i < ((tx T).length : Int)) (h : i = (j : Int)) : Txt.item (tx T) i = sgo T[j]? := by
  refine item_tx h ?_
  subst h
  rw [tx_len] at hj
  omega
theorem c_signG {w : World} {dp un : Nat} {gd : Option (List Code)} {cn : Str} {cs : Scope} {a : Addr} {ccd : Value} {cl : List (Str × Addr)} {outer : List Env} {A₀ : Around} {base h₀ : Heap} {L : Addr} {m : Str → Option Value} {s : Shared} {mean : ExcName → Option Value} {mg mb : Str → Option Value} {Q E : Value → Shared → Prop} {rest : List (Addr × Obj)} {x d : Addr} {k : SgK} {T : List Nat} {t1 t2 t3 t4 tk : Tok} {zi ln co z : Int}
  (B : Below A₀ base outer h₀) (F : Fr h₀ L s.heap m) (X : (Mine.hd.heap_1 w.params).In h₀) (N : News h₀ L s.heap ((d, dictOf (sgE k (tx T) t1 zi t2 ln t3 co t4) 4) :: (x, instObj 147 d) :: rest)) (TT : Top Mine.hd.view_1 lz mean mg mb h₀) (hk : cs.kind = .function) (hd : dp + 1 < recursionLimit) (hu : un + 8 * 1 < cLine)
  (hT : T.length ≤ 10000) (hi0 : 0 ≤ zi) (hi : zi ≤ 20000) (hn0 : 0 ≤ z) (hn : z ≤ 20000)
  (hret : ∀ h' tk' t, Fr h₀ L h' m → News h₀ L h' ((d, dictOf (sgE k (tx T) t1 zi t2 ln t3 co t4) 4) :: (x, instObj 147 d) :: rest) → Q (.str (sgo T[(zi + z).toNat]?) t) { s with heap := h', toks := tk' }) :
  wpAny (model PySem.Challenge.rw_sy0021_01.row.prog w) (ktrTop dp un gd cn cs L a ccd cl outer) (call (.ref 116) [.ref x, .int z tk]) Q E s := by
  have ht : (tx T).length ≤ 10000 := by rw [tx_len]; exact hT
  have hfill : (Mine.hd.heap_1 = Mine.hd.heap_1 ∧ PySem.Challenge.rw_sy0021_01 = PySem.Challenge.rw_sy0021_01) := by k_fill; exact ⟨rfl, rfl⟩
  clear hfill
  refine wpAny_call ?_
  k_with_none
  k_with "M enter" => (refine' code_def ?k1 ?k2 ?k3 ?k4 ?k5 ?kA ?kF ?kK ?k6 ?k7 ?k8 ?k9 ?kB ?_ ?c2 ?c3 ?c4 ?c5; (case kA => exact rfl); (case kF => exact rfl); (case kK => assumption); (case k1 => k_asm); (case k2 => k_asm); (case k3 => k_asm); (case k4 => k_asm); (case k5 => k_asm); (case k6 => k_is); (case k7 => k_is); (case k8 => first | exact rm0 (by assumption) | ktr_room); (case k9 => first | exact BindsTo.of_eq rfl | exact binds_K (by k_in) rfl (by k_is) rfl rfl rfl); (case c5 => decide); (case kB => exact locs rfl); (case c2 => exact rfl); (case c3 => exact rfl); (case c4 => exact rfl); k_whole; intro g' L' h' FG' F' N' B' X' T'; (try dsimp only); (try k_lift B'); (try k_fold))
  k_dflt (walk_at "M enter")
  k_with_none
  k_with "M in" => (first | with_reducible assumption | exact Frag.In.keeps (by with_reducible assumption) (Fr.keep (by with_reducible assumption)))
  k_with "eval Call" => (k_here; k_dflt (refine Call_ ?_))
  k_with "M all" => (first | assumption | exact apart_of (by first | assumption | exact And.right (by assumption) | exact And.right (And.right (by assumption)) | exact And.right (And.right (And.right (by assumption))) | exact And.right (And.right (And.right (And.right (by assumption))))))
  k_steps
  · refine ret_sgo hret (item_in (by assumption) (by omega)) (by assumption) (by assumption)
  · refine ret_sgo hret (item_end (by assumption) (by omega)) (by assumption) (by assumption)
theorem c_signG0 {w : World} {dp un : Nat} {gd : Option (List Code)} {cn : Str} {cs : Scope} {a : Addr} {ccd : Value} {cl : List (Str × Addr)} {outer : List Env} {A₀ : Around} {base h₀ : Heap} {L : Addr} {m : Str → Option Value} {s : Shared} {mean : ExcName → Option Value} {mg mb : Str → Option Value} {Q E : Value → Shared → Prop} {rest : List (Addr × Obj)} {x d : Addr} {k : SgK} {T : List Nat} {t1 t2 t3 t4 : Tok} {zi ln co : Int}
  (B : Below A₀ base outer h₀) (F : Fr h₀ L s.heap m) (X : (Mine.hd.heap_1 w.params).In h₀) (N : News h₀ L s.heap ((d, dictOf (sgE k (tx T) t1 zi t2 ln t3 co t4) 4) :: (x, instObj 147 d) :: rest)) (TT : Top Mine.hd.view_1 lz mean mg mb h₀) (hk : cs.kind = .function) (hd : dp + 1 < recursionLimit) (hu : un + 8 * 1 < cLine)
  (hT : T.length ≤ 10000) (hi0 : 0 ≤ zi) (hi : zi ≤ 20000)
  (hret : ∀ h' tk' t, Fr h₀ L h' m → News h₀ L h' ((d, dictOf (sgE k (tx T) t1 zi t2 ln t3 co t4) 4) :: (x, instObj 147 d) :: rest) → Q (.str (sgo T[zi.toNat]?) t) { s with heap := h', toks := tk' }) :
  wpAny (model PySem.Challenge.rw_sy0021_01.row.prog w) (ktrTop dp un gd cn cs L a ccd cl outer) (call (.ref 116) [.ref x]) Q E s := by
  have ht : (tx T).length ≤ 10000 := by rw [tx_len]; exact hT
  have hfill : (Mine.hd.heap_1 = Mine.hd.heap_1 ∧ PySem.Challenge.rw_sy0021_01 = PySem.Challenge.rw_sy0021_01) := by k_fill; exact ⟨rfl, rfl⟩
  clear hfill
  refine wpAny_call ?_
  k_with_none
  k_with "M enter" => (refine' code_def ?k1 ?k2 ?k3 ?k4 ?k5 ?kA ?kF ?kK ?k6 ?k7 ?k8 ?k9 ?kB ?_ ?c2 ?c3 ?c4 ?c5; (case kA => exact rfl); (case kF => exact rfl); (case kK => assumption); (case k1 => k_asm); (case k2 => k_asm); (case k3 => k_asm); (case k4 => k_asm); (case k5 => k_asm); (case k6 => k_is); (case k7 => k_is); (case k8 => first | exact rm0 (by assumption) | ktr_room); (case k9 => first | exact BindsTo.of_eq rfl | exact binds_K (by k_in) rfl (by k_is) rfl rfl rfl); (case c5 => decide); (case kB => exact locs rfl); (case c2 => exact rfl); (case c3 => exact rfl); (case c4 => exact rfl); k_whole; intro g' L' h' FG' F' N' B' X' T'; (try dsimp only); (try k_lift B'); (try k_fold))
  k_dflt (walk_at "M enter")
  k_with_none
  k_with "M in" => (first | with_reducible assumption | exact Frag.In.keeps (by with_reducible assumption) (Fr.keep (by with_reducible assumption)))
  k_with "eval Call" => (k_here; k_dflt (refine Call_ ?_))
  k_with "M all" => (first | assumption | exact apart_of (by first | assumption | exact And.right (by assumption) | exact And.right (And.right (by assumption)) | exact And.right (And.right (And.right (by assumption))) | exact And.right (And.right (And.right (And.right (by assumption))))))
  k_steps
  · refine ret_sgo hret (item_in (by assumption) (by omega)) (by assumption) (by assumption)
  · refine ret_sgo hret (item_end (by assumption) (by omega)) (by assumption) (by assumption)
theorem c_sign {w : World} {dp un : Nat} {gd : Option (List Code)} {cn : Str} {cs : Scope} {a : Addr} {ccd : Value} {cl : List (Str × Addr)} {outer : List Env} {A₀ : Around} {base h₀ : Heap} {L : Addr} {m : Str → Option Value} {s : Shared} {mean : ExcName → Option Value} {mg mb : Str → Option Value} {Q E : Value → Shared → Prop} {rest : List (Addr × Obj)} {x d : Addr} {k : SgK} {T : List Nat} {t1 t2 t3 t4 tk : Tok} {i n : Nat} {z : Int}
  (B : Below A₀ base outer h₀) (F : Fr h₀ L s.heap m) (X : (Mine.hd.heap_1 w.params).In h₀) (N : News h₀ L s.heap ((d, SGo k T i t1 t2 t3 t4) :: (x, instObj 147 d) :: rest)) (TT : Top Mine.hd.view_1 lz mean mg mb h₀) (hk : cs.kind = .function) (hd : dp + 1 < recursionLimit) (hu : un + 8 * 1 < cLine)
  (hz : z = (n : Int)) (hT : T.length ≤ 10000) (hi : i ≤ 20000) (hn : n ≤ 20000)
  (hret : ∀ h' tk' t, Fr h₀ L h' m → News h₀ L h' ((d, SGo k T i t1 t2 t3 t4) :: (x, instObj 147 d) :: rest) → Q (.str (sgo T[i + n]?) t) { s with heap := h', toks := tk' }) :
  wpAny (model PySem.Challenge.rw_sy0021_01.row.prog w) (ktrTop dp un gd cn cs L a ccd cl outer) (call (.ref 116) [.ref x, .int z tk]) Q E s := by
  refine c_signG B F X N TT hk hd hu hT (by omega) (by omega) (by omega) (by omega) ?_
  have e : ((i : Int) + z).toNat = i + n := by omega
  rw [e]
  exact hret
theorem c_sign0 {w : World} {dp un : Nat} {gd : Option (List Code)} {cn : Str} {cs : Scope} {a : Addr} {ccd : Value} {cl : List (Str × Addr)} {outer : List Env} {A₀ : Around} {base h₀ : Heap} {L : Addr} {m : Str → Option Value} {s : Shared} {mean : ExcName → Option Value} {mg mb : Str → Option Value} {Q E : Value → Shared → Prop} {rest : List (Addr × Obj)} {x d : Addr} {k : SgK} {T : List Nat} {t1 t2 t3 t4 : Tok} {i : Nat}
  (B : Below A₀ base outer h₀) (F : Fr h₀ L s.heap m) (X : (Mine.hd.heap_1 w.params).In h₀) (N : News h₀ L s.heap ((d, SGo k T i t1 t2 t3 t4) :: (x, instObj 147 d) :: rest)) (TT : Top Mine.hd.view_1 lz mean mg mb h₀) (hk : cs.kind = .function) (hd : dp + 1 < recursionLimit) (hu : un + 8 * 1 < cLine)
  (hT : T.length ≤ 10000) (hi : i ≤ 20000)
  (hret : ∀ h' tk' t, Fr h₀ L h' m → News h₀ L h' ((d, SGo k T i t1 t2 t3 t4) :: (x, instObj 147 d) :: rest) → Q (.str (sgo T[i]?) t) { s with heap := h', toks := tk' }) :
  wpAny (model PySem.Challenge.rw_sy0021_01.row.prog w) (ktrTop dp un gd cn cs L a ccd cl outer) (call (.ref 116) [.ref x]) Q E s := by
  refine c_signG0 B F X N TT hk hd hu hT (by omega) (by omega) ?_
  have e : (i : Int).toNat = i := by omega
  rw [e]
  exact hret
theorem news_sg {h₀ h' : Heap} {L : Addr} {r : List (Addr × Obj)} {d : Addr} {k : SgK} {T : List Nat} {t1 t2 t3 t4 : Tok} {z ln co : Int} {j : Nat}
    (N : News h₀ L h' ((d, dictOf (sgE k (tx T) t1 z t2 ln t3 co t4) 4) :: r)) (h1 : z = (j : Nat)) (h2 : ln = ((lc T j).1 : Int)) (h3 : co = ((lc T j).2 : Int)) : News h₀ L h' ((d, SGo k T j t1 t2 t3 t4) :: r) := by
  subst h1 h2 h3; exact N
theorem news_rot1 {h₀ h : Heap} {L : Addr} {p q r : Addr × Obj} {l : List (Addr × Obj)} (N : News h₀ L h (r :: p :: q :: l)) : News h₀ L h (p :: q :: r :: l) := news_sub N (List.forall_mem_cons.mpr ⟨mi 1 rfl, (List.forall_mem_cons.mpr ⟨mi 2 rfl, (List.forall_mem_cons.mpr ⟨mi 0 rfl, fun q hq => .tail _ (.tail _ (.tail _ (hq)))⟩)⟩)⟩)
theorem news_rot2 {h₀ h : Heap} {L : Addr} {p q r r2 : Addr × Obj} {l : List (Addr × Obj)} (N : News h₀ L h (r :: r2 :: p :: q :: l)) : News h₀ L h (p :: q :: r :: r2 :: l) := news_sub N (List.forall_mem_cons.mpr ⟨mi 2 rfl, (List.forall_mem_cons.mpr ⟨mi 3 rfl, (List.forall_mem_cons.mpr ⟨mi 0 rfl, (List.forall_mem_cons.mpr ⟨mi 1 rfl, fun q hq => .tail _ (.tail _ (.tail _ (.tail _ (hq))))⟩)⟩)⟩)⟩)
theorem news_rot3 {h₀ h : Heap} {L : Addr} {p q r r2 r3 : Addr × Obj} {l : List (Addr × Obj)} (N : News h₀ L h (r :: r2 :: r3 :: p :: q :: l)) : News h₀ L h (p :: q :: r :: r2 :: r3 :: l) := news_sub N (List.forall_mem_cons.mpr ⟨mi 3 rfl, (List.forall_mem_cons.mpr ⟨mi 4 rfl, (List.forall_mem_cons.mpr ⟨mi 0 rfl, (List.forall_mem_cons.mpr ⟨mi 1 rfl, (List.forall_mem_cons.mpr ⟨mi 2 rfl, fun q hq => .tail _ (.tail _ (.tail _ (.tail _ (.tail _ (hq)))))⟩)⟩)⟩)⟩)⟩)
theorem news_rot4 {h₀ h : Heap} {L : Addr} {p q r r2 r3 r4 : Addr × Obj} {l : List (Addr × Obj)} (N : News h₀ L h (r :: r2 :: r3 :: r4 :: p :: q :: l)) : News h₀ L h (p :: q :: r :: r2 :: r3 :: r4 :: l) := news_sub N (List.forall_mem_cons.mpr ⟨mi 4 rfl, (List.forall_mem_cons.mpr ⟨mi 5 rfl, (List.forall_mem_cons.mpr ⟨mi 0 rfl, (List.forall_mem_cons.mpr ⟨mi 1 rfl, (List.forall_mem_cons.mpr ⟨mi 2 rfl, (List.forall_mem_cons.mpr ⟨mi 3 rfl, fun q hq => .tail _ (.tail _ (.tail _ (.tail _ (.tail _ (.tail _ (hq))))))⟩)⟩)⟩)⟩)⟩)⟩)
end

-- 33step
section
theorem c_step {w : World} {dp un : Nat} {gd : Option (List Code)} {cn : Str} {cs : Scope} {a : Addr} {ccd : Value} {cl : List (Str × Addr)} {outer : List Env} {A₀ : Around} {base h₀ : Heap} {L : Addr} {m : Str → Option Value} {s : Shared} {mean : ExcName → Option Value} {mg mb : Str → Option Value} {Q E : Value → Shared → Prop} {rest : List (Addr × Obj)} {x d : Addr} {k : SgK} {T : List Nat} {t1 t2 t3 t4 : Tok} {i : Nat}
  (B : Below A₀ base outer h₀) (F : Fr h₀ L s.heap m) (X : (Mine.hd.heap_1 w.params).In h₀) (N : News h₀ L s.heap ((d, SGo k T i t1 t2 t3 t4) :: (x, instObj 147 d) :: rest)) (TT : Top Mine.hd.view_1 lz mean mg mb h₀) (hk : cs.kind = .function) (hd : dp + 2 < recursionLimit) (hu : un + 8 * 2 < cLine)
  (hxd : x ≠ d) (hap : ∀ p ∈ rest, p.1 ≠ d)
  (hT : T.length ≤ 10000) (hi : i ≤ 10000)
  (hret : ∀ h' tk' t t2 t3 t4, Fr h₀ L h' m → News h₀ L h' ((d, SGo k T (i + 1) t1 t2 t3 t4) :: (x, instObj 147 d) :: rest) → Q (.str (sgo T[i]?) t) { s with heap := h', toks := tk' }) :
  wpAny (model PySem.Challenge.rw_sy0021_01.row.prog w) (ktrTop dp un gd cn cs L a ccd cl outer) (call (.ref 130) [.ref x]) Q E s := by
  have ht : (tx T).length ≤ 10000 := by rw [tx_len]; exact hT
  obtain ⟨b1, b2, b3, b4⟩ := lc_bound T i
  have hfill : (Mine.hd.heap_1 = Mine.hd.heap_1 ∧ PySem.Challenge.rw_sy0021_01 = PySem.Challenge.rw_sy0021_01) := by k_fill; exact ⟨rfl, rfl⟩
  clear hfill
  refine wpAny_call ?_
  k_with_none
  k_with "M enter" => (refine' code_def ?k1 ?k2 ?k3 ?k4 ?k5 ?kA ?kF ?kK ?k6 ?k7 ?k8 ?k9 ?kB ?_ ?c2 ?c3 ?c4 ?c5; (case kA => exact rfl); (case kF => exact rfl); (case kK => assumption); (case k1 => k_asm); (case k2 => k_asm); (case k3 => k_asm); (case k4 => k_asm); (case k5 => k_asm); (case k6 => k_is); (case k7 => k_is); (case k8 => first | exact rm0 (by assumption) | ktr_room); (case k9 => first | exact BindsTo.of_eq rfl | exact binds_K (by k_in) rfl (by k_is) rfl rfl rfl); (case c5 => decide); (case kB => exact locs rfl); (case c2 => exact rfl); (case c3 => exact rfl); (case c4 => exact rfl); k_whole; intro g' L' h' FG' F' N' B' X' T'; (try dsimp only); (try k_lift B'); (try k_fold))
  k_dflt (walk_at "M enter")
  k_with_none
  k_with "M om" => (first | with_reducible assumption | exact Nat.le_succ_of_le (by with_reducible assumption) | exact Nat.le_of_lt (by with_reducible assumption) | exact Nat.le_of_succ_le (by with_reducible assumption) | exact Nat.le_trans (by with_reducible assumption) (by decide) | exact Nat.le_trans (Nat.le_of_succ_le (by with_reducible assumption)) (Nat.le_trans (by with_reducible assumption) (by decide)))
  k_with "M use" => ((case u1x => k_asm); (case u2x => k_asm); (case u3x => k_asm); (case u5x => k_asm); (case uKx => first | assumption | exact rfl); (case udx => first | exact rmA (by assumption) (by decide) | ktr_room); (case uux => first | exact umA (by assumption) (by decide) | ktr_units))
  k_with "M in" => (first | with_reducible assumption | exact Frag.In.keeps (by with_reducible assumption) (Fr.keep (by with_reducible assumption)))
  k_with "call ref" => (k_here; k_extra "M call")
  k_with "call ref" => (k_here; with_reducible first | refine call_app0 ?_ | refine call_app1 ?_ | refine call_app2 ?_)
  k_with "M all" => (first | assumption | exact apart_of (by first | assumption | exact And.right (by assumption) | exact And.right (And.right (by assumption)) | exact And.right (And.right (And.right (by assumption))) | exact And.right (And.right (And.right (And.right (by assumption))))))
  k_with "M led" => (first | k_asm | exact news_rot1 (by k_asm) | exact news_rot2 (by k_asm) | exact news_rot3 (by k_asm) | exact news_rot4 (by k_asm))
  k_with "M call" => ((with_reducible show wpAny _ _ (call (Value.ref 116) [_]) _ _ _); k_dflt (refine' c_signG0 ?u1x ?u2x ?u3x ?u4x ?u5x ?uKx ?udx ?uux ?z2 ?z3 ?z4 ?_; walk_at "M use"; (case u4x => walk_at "M led"); (case z2 => omega); (case z3 => omega); (case z4 => omega)); k_whole; intro h' tk' t' F' N'; (try dsimp only); (try k_sweep))
  k_with "M call" => ((with_reducible show wpAny _ _ (call (Value.ref 116) [_, _]) _ _ _); k_dflt (refine' c_sign ?u1x ?u2x ?u3x ?u4x ?u5x ?uKx ?udx ?uux ?z1 ?z2 ?z3 ?z4 ?_; walk_at "M use"; (case u4x => walk_at "M led"); (case z1 => first | exact cast1 | exact cast2 | rfl | omega); (case z2 => omega); (case z3 => omega); (case z4 => omega)); k_whole; intro h' tk' t' F' N'; (try dsimp only); (try k_sweep))
  k_with "M call" => ((with_reducible show wpAny _ _ (call (Value.ref 116) [_]) _ _ _); k_dflt (refine' c_sign0 ?u1x ?u2x ?u3x ?u4x ?u5x ?uKx ?udx ?uux ?z2 ?z3 ?_; walk_at "M use"; (case u4x => walk_at "M led"); (case z2 => omega); (case z3 => omega)); k_whole; intro h' tk' t' F' N'; (try dsimp only); (try k_sweep))
  k_steps
  all_goals (
    (try rename ((sgo T[i]? != Str.ofString "") = _) => hne)
    (try rename ((Builtin.Str.occurrences _ _ _ _ _).isEmpty = _) => hoc)
    (try rename ((sgo T[i]? == Str.ofString "\r") = _) => hcr)
    (try rename ((sgo T[i]? == Str.ofString "\t") = _) => htb)
    (try rename ((sgo T[_]? != Str.ofString "\n") = _) => hnl)
    (try rw [nlff_iff _ (by assumption)] at hoc)
    (try rw [s_cr, sgo_eq] at hcr)
    (try rw [s_tab, sgo_eq] at htb)
    (try rw [s_nl, bne, sgo_eq, ← bne, show ((i : Int) + 1).toNat = i + 1 by omega] at hnl)
    refine hret _ _ _ _ _ _ (by assumption) (news_sg (by assumption) (by omega) ?_ ?_)
    all_goals (clear hret; first
      | (rw [lc_nl hoc]; done)
      | (rw [lc_nl hoc]; dsimp only; omega)
      | (rw [lc_cr hcr hnl]; dsimp only; omega)
      | (rw [lc_tab htb]; done)
      | (rw [lc_tab htb]; exact tab_eq b2)
      | (rw [lc_more (T := T) (i := i) (by first | exact hoc | (rw [none_of_ne hne]; rfl)) (fun z => by first | exact hnl | (rw [hcr] at z; cases z)) htb]; done)
      | (rw [lc_more (T := T) (i := i) (by first | exact hoc | (rw [none_of_ne hne]; rfl)) (fun z => by first | exact hnl | (rw [hcr] at z; cases z)) htb]; dsimp only; omega)))
end

-- 35starts
section
theorem c_starts {w : World} {dp un : Nat} {gd : Option (List Code)} {cn : Str} {cs : Scope} {a : Addr} {ccd : Value} {cl : List (Str × Addr)} {outer : List Env} {A₀ : Around} {base h₀ : Heap} {L : Addr} {m : Str → Option Value} {s : Shared} {mean : ExcName → Option Value} {mg mb : Str → Option Value} {Q E : Value → Shared → Prop} {rest : List (Addr × Obj)} {x d : Addr} {k : SgK} {T : List Nat} {t1 t2 t3 t4 tk : Tok} {i : Nat} {y : Str}
  (B : Below A₀ base outer h₀) (F : Fr h₀ L s.heap m) (X : (Mine.hd.heap_1 w.params).In h₀) (N : News h₀ L s.heap ((d, SGo k T i t1 t2 t3 t4) :: (x, instObj 147 d) :: rest)) (TT : Top Mine.hd.view_1 lz mean mg mb h₀) (hk : cs.kind = .function) (hd : dp + 1 < recursionLimit) (hu : un + 8 * 1 < cLine)
  (hT : T.length ≤ 10000) (hi : i ≤ T.length) (hy : y.length ≤ 100)
  (hret : ∀ h' tk', Fr h₀ L h' m → News h₀ L h' ((d, SGo k T i t1 t2 t3 t4) :: (x, instObj 147 d) :: rest) → Q (.bool (startsB T i y)) { s with heap := h', toks := tk' }) :
  wpAny (model PySem.Challenge.rw_sy0021_01.row.prog w) (ktrTop dp un gd cn cs L a ccd cl outer) (call (.ref 123) [.ref x, .str y tk]) Q E s := by
  have ht : (tx T).length ≤ 10000 := by rw [tx_len]; exact hT
  have hfill : (Mine.hd.heap_1 = Mine.hd.heap_1 ∧ PySem.Challenge.rw_sy0021_01 = PySem.Challenge.rw_sy0021_01) := by k_fill; exact ⟨rfl, rfl⟩
  clear hfill
  refine wpAny_call ?_
  k_with_none
  k_with "M enter" => (refine' code_def ?k1 ?k2 ?k3 ?k4 ?k5 ?kA ?kF ?kK ?k6 ?k7 ?k8 ?k9 ?kB ?_ ?c2 ?c3 ?c4 ?c5; (case kA => exact rfl); (case kF => exact rfl); (case kK => assumption); (case k1 => k_asm); (case k2 => k_asm); (case k3 => k_asm); (case k4 => k_asm); (case k5 => k_asm); (case k6 => k_is); (case k7 => k_is); (case k8 => first | exact rm0 (by assumption) | ktr_room); (case k9 => first | exact BindsTo.of_eq rfl | exact binds_K (by k_in) rfl (by k_is) rfl rfl rfl); (case c5 => decide); (case kB => exact locs rfl); (case c2 => exact rfl); (case c3 => exact rfl); (case c4 => exact rfl); k_whole; intro g' L' h' FG' F' N' B' X' T'; (try dsimp only); (try k_lift B'); (try k_fold))
  k_dflt (walk_at "M enter")
  k_with_none
  k_with "M in" => (first | with_reducible assumption | exact Frag.In.keeps (by with_reducible assumption) (Fr.keep (by with_reducible assumption)))
  k_with "eval Call" => (k_here; k_dflt (refine Call_ ?_))
  k_with "M all" => (first | assumption | exact apart_of (by first | assumption | exact And.right (by assumption) | exact And.right (And.right (by assumption)) | exact And.right (And.right (And.right (by assumption))) | exact And.right (And.right (And.right (And.right (by assumption))))))
  k_steps
  all_goals (refine ret_bool hret (starts_eq rfl (by omega) hi) (by assumption) (by assumption))
noncomputable abbrev tup2 (v1 v2 : Value) : Obj := { cls := .type "tuple", data := .seq #[v1, v2] }
noncomputable abbrev plc (T : List Nat) (i : Nat) (t3 t4 : Tok) : Obj := tup2 (.int ((lc T i).1 : Int) t3) (.int ((lc T i).2 : Int) t4)
theorem c_place {w : World} {dp un : Nat} {gd : Option (List Code)} {cn : Str} {cs : Scope} {a : Addr} {ccd : Value} {cl : List (Str × Addr)} {outer : List Env} {A₀ : Around} {base h₀ : Heap} {L : Addr} {m : Str → Option Value} {s : Shared} {mean : ExcName → Option Value} {mg mb : Str → Option Value} {Q E : Value → Shared → Prop} {rest : List (Addr × Obj)} {x d : Addr} {k : SgK} {T : List Nat} {t1 t2 t3 t4 : Tok} {i : Nat}
  (B : Below A₀ base outer h₀) (F : Fr h₀ L s.heap m) (X : (Mine.hd.heap_1 w.params).In h₀) (N : News h₀ L s.heap ((d, SGo k T i t1 t2 t3 t4) :: (x, instObj 147 d) :: rest)) (TT : Top Mine.hd.view_1 lz mean mg mb h₀) (hk : cs.kind = .function) (hd : dp + 1 < recursionLimit) (hu : un + 8 * 1 < cLine)
  (hret : ∀ h' tk' p u3 u4, Fr h₀ L h' m → News h₀ L h' ((p, plc T i u3 u4) :: (d, SGo k T i t1 t2 t3 t4) :: (x, instObj 147 d) :: rest) →
     (∀ q ∈ (d, SGo k T i t1 t2 t3 t4) :: (x, instObj 147 d) :: rest, q.1 < p) → Q (.ref p) { s with heap := h', toks := tk' }) :
  wpAny (model PySem.Challenge.rw_sy0021_01.row.prog w) (ktrTop dp un gd cn cs L a ccd cl outer) (call (.ref 144) [.ref x]) Q E s := by
  have hfill : (Mine.hd.heap_1 = Mine.hd.heap_1 ∧ PySem.Challenge.rw_sy0021_01 = PySem.Challenge.rw_sy0021_01) := by k_fill; exact ⟨rfl, rfl⟩
  clear hfill
  refine wpAny_call ?_
  k_with_none
  k_with "M enter" => (refine' code_def ?k1 ?k2 ?k3 ?k4 ?k5 ?kA ?kF ?kK ?k6 ?k7 ?k8 ?k9 ?kB ?_ ?c2 ?c3 ?c4 ?c5; (case kA => exact rfl); (case kF => exact rfl); (case kK => assumption); (case k1 => k_asm); (case k2 => k_asm); (case k3 => k_asm); (case k4 => k_asm); (case k5 => k_asm); (case k6 => k_is); (case k7 => k_is); (case k8 => first | exact rm0 (by assumption) | ktr_room); (case k9 => first | exact BindsTo.of_eq rfl | exact binds_K (by k_in) rfl (by k_is) rfl rfl rfl); (case c5 => decide); (case kB => exact locs rfl); (case c2 => exact rfl); (case c3 => exact rfl); (case c4 => exact rfl); k_whole; intro g' L' h' FG' F' N' B' X' T'; (try dsimp only); (try k_lift B'); (try k_fold))
  k_dflt (walk_at "M enter")
  k_with_none
  k_with "M in" => (first | with_reducible assumption | exact Frag.In.keeps (by with_reducible assumption) (Fr.keep (by with_reducible assumption)))
  k_with "eval Call" => (k_here; k_dflt (refine Call_ ?_))
  k_with "M all" => (first | assumption | exact apart_of (by first | assumption | exact And.right (by assumption) | exact And.right (And.right (by assumption)) | exact And.right (And.right (And.right (by assumption))) | exact And.right (And.right (And.right (And.right (by assumption))))))
  k_steps
  all_goals (
    rename (_ < _ ∧ _) => l1
    exact hret _ _ _ _ _ (by assumption) (by assumption) (ktn_ltOf l1))
end

-- 37take
section
theorem c_take {w : World} {dp un : Nat} {gd : Option (List Code)} {cn : Str} {cs : Scope} {a : Addr} {ccd : Value} {cl : List (Str × Addr)} {outer : List Env} {A₀ : Around} {base h₀ : Heap} {L : Addr} {m : Str → Option Value} {s : Shared} {mean : ExcName → Option Value} {mg mb : Str → Option Value} {Q E : Value → Shared → Prop} {rest : List (Addr × Obj)} {x d : Addr} {k : SgK} {T : List Nat} {t1 t2 t3 t4 tk : Tok} {i : Nat} {y : Str}
  (B : Below A₀ base outer h₀) (F : Fr h₀ L s.heap m) (X : (Mine.hd.heap_1 w.params).In h₀) (N : News h₀ L s.heap ((d, SGo k T i t1 t2 t3 t4) :: (x, instObj 147 d) :: rest)) (TT : Top Mine.hd.view_1 lz mean mg mb h₀) (hk : cs.kind = .function) (hd : dp + 3 < recursionLimit) (hu : un + 8 * 3 < cLine)
  (hxd : x ≠ d) (hap : ∀ p ∈ rest, p.1 ≠ d) (hT : T.length ≤ 10000) (hi : i ≤ T.length)
  (hret : ∀ h' tk' t t2 t3 t4, Fr h₀ L h' m → News h₀ L h' ((d, SGo k T (takeEnd T y.cps.toList i) t1 t2 t3 t4) :: (x, instObj 147 d) :: rest) → Q (.str (tx (cut T i (takeEnd T y.cps.toList i))) t) { s with heap := h', toks := tk' }) :
  wpAny (model PySem.Challenge.rw_sy0021_01.row.prog w) (ktrTop dp un gd cn cs L a ccd cl outer) (call (.ref 137) [.ref x, .str y tk]) Q E s := by
  have ht : (tx T).length ≤ 10000 := by rw [tx_len]; exact hT
  have hfill : (Mine.hd.heap_1 = Mine.hd.heap_1 ∧ PySem.Challenge.rw_sy0021_01 = PySem.Challenge.rw_sy0021_01) := by k_fill; exact ⟨rfl, rfl⟩
  clear hfill
  refine wpAny_call ?_
  k_with_none
  k_with "M enter" => (refine' code_def ?k1 ?k2 ?k3 ?k4 ?k5 ?kA ?kF ?kK ?k6 ?k7 ?k8 ?k9 ?kB ?_ ?c2 ?c3 ?c4 ?c5; (case kA => exact rfl); (case kF => exact rfl); (case kK => assumption); (case k1 => k_asm); (case k2 => k_asm); (case k3 => k_asm); (case k4 => k_asm); (case k5 => k_asm); (case k6 => k_is); (case k7 => k_is); (case k8 => first | exact rm0 (by assumption) | ktr_room); (case k9 => first | exact BindsTo.of_eq rfl | exact binds_K (by k_in) rfl (by k_is) rfl rfl rfl); (case c5 => decide); (case kB => exact locs rfl); (case c2 => exact rfl); (case c3 => exact rfl); (case c4 => exact rfl); k_whole; intro g' L' h' FG' F' N' B' X' T'; (try dsimp only); (try k_lift B'); (try k_fold))
  k_dflt (walk_at "M enter")
  k_with_none
  k_with "M use" => ((case u1x => k_asm); (case u2x => k_asm); (case u3x => k_asm); (case u5x => k_asm); (case uKx => first | assumption | exact rfl); (case udx => first | exact rmA (by assumption) (by decide) | ktr_room); (case uux => first | exact umA (by assumption) (by decide) | ktr_units))
  k_with "M in" => (first | with_reducible assumption | exact Frag.In.keeps (by with_reducible assumption) (Fr.keep (by with_reducible assumption)))
  k_with "call ref" => (k_here; k_extra "M call")
  k_with "call ref" => (k_here; with_reducible first | refine call_app0 ?_ | refine call_app1 ?_ | refine call_app2 ?_)
  k_with "M kend4" => (refine' ksw_end ⟨_, _, _, _⟩ (by assumption) (by walk_at "M kN") (fun p hp => hp) trivial (by exact fun _ h => nomatch h) (by ksw_same) ?_ ?_; all_goals (try dsimp only))
  k_with "M kN" => (first | assumption | exact news_tl1 (by assumption) | exact news_tl2 (by assumption) | exact news_tl3 (by assumption) | exact news_tl4 (by assumption) | exact news_dr1 (by assumption) | exact news_dr2 (by assumption) | exact news_dr3 (by assumption))
  k_with "M all" => (first | assumption | exact apart_of (by first | assumption | exact And.right (by assumption) | exact And.right (And.right (by assumption)) | exact And.right (And.right (And.right (by assumption))) | exact And.right (And.right (And.right (And.right (by assumption))))))
  k_with "M led" => (first | k_asm | exact news_rot1 (by k_asm) | exact news_rot2 (by k_asm) | exact news_rot3 (by k_asm) | exact news_rot4 (by k_asm))
  k_with "M call" => ((with_reducible show wpAny _ _ (call (Value.ref 116) [_]) _ _ _); k_dflt (refine' c_signG0 ?u1x ?u2x ?u3x ?u4x ?u5x ?uKx ?udx ?uux ?z2 ?z3 ?z4 ?_; walk_at "M use"; (case u4x => walk_at "M led"); (case z2 => omega); (case z3 => omega); (case z4 => omega)); k_whole; intro h' tk' t' F' N'; (try dsimp only); (try k_sweep))
  k_with "M call" => ((with_reducible show wpAny _ _ (call (Value.ref 116) [_, _]) _ _ _); k_dflt (refine' c_sign ?u1x ?u2x ?u3x ?u4x ?u5x ?uKx ?udx ?uux ?z1 ?z2 ?z3 ?z4 ?_; walk_at "M use"; (case u4x => walk_at "M led"); (case z1 => first | exact cast1 | exact cast2 | rfl | omega); (case z2 => omega); (case z3 => omega); (case z4 => omega)); k_whole; intro h' tk' t' F' N'; (try dsimp only); (try k_sweep))
  k_with "M call" => ((with_reducible show wpAny _ _ (call (Value.ref 116) [_]) _ _ _); k_dflt (refine' c_sign0 ?u1x ?u2x ?u3x ?u4x ?u5x ?uKx ?udx ?uux ?z2 ?z3 ?_; walk_at "M use"; (case u4x => walk_at "M led"); (case z2 => omega); (case z3 => omega)); k_whole; intro h' tk' t' F' N'; (try dsimp only); (try k_sweep))
  k_with "M ap" => (first | k_asm | k_all)
  k_with "M ne" => (first | k_asm | k_ne)
  k_with "M call" => ((with_reducible show wpAny _ _ (call (Value.ref 130) _) _ _ _); k_dflt (refine' c_step ?u1x ?u2x ?u3x ?u4x ?u5x ?uKx ?udx ?uux ?z1 ?z2 ?z3 ?z4 ?_; walk_at "M use"; (case u4x => walk_at "M led"); (case z1 => walk_at "M ne"); (case z2 => walk_at "M ap"); (case z3 => omega); (case z4 => omega)); k_whole; intro h' tk' t' t2' t3' t4' F' N'; (try dsimp only); (try k_sweep))
  k_with "exec While BoolOp cons nil" => (
    rename Fr _ _ _ _ => lF'
    rename News _ _ _ _ => lN'
    with_unfolding_all refine' ksw_while (σ := Nat × Tok × Tok × Tok) (fun c => (d, SGo k T c.1 t1 c.2.1 c.2.2.1 c.2.2.2) :: (x, instObj 147 d) :: rest) (fun _ => []) (fun _ => True) [] (fun c => i ≤ c.1 ∧ c.1 ≤ T.length ∧ takeEnd T y.cps.toList c.1 = takeEnd T y.cps.toList i) (fun c => T.length - c.1) (i, t2, t3, t4) lF' lN' trivial ?kk ?kp ?_
    (case kk => exact fun _ h => nomatch h)
    (case kp => exact ⟨Nat.le_refl _, hi, rfl⟩)
    clear lF' lN'
    intro c u h tk hf hP kFr kNews
    obtain ⟨j, u2, u3, u4⟩ := c
    (try dsimp only [kstB] at kFr); (try dsimp only at hP); (try dsimp only at kNews); (try dsimp only)
    obtain ⟨hj1, hj2, hj3⟩ := hP
    (try k_fold))
  k_steps
  · rename ((sgo T[_]? != Str.ofString "") = true) => hne
    rename ((Builtin.Str.occurrences _ _ _ _ _).isEmpty = true) => hoc
    have ha := amg_of (y := y) hne
    rw [hoc] at ha
    have hj := (take_stop ha.symm).symm.trans hj3
    rw [slice_tx rfl rfl hi hj1]
    rw [← hj] at hret
    exact hret _ _ _ _ _ _ (by assumption) (by assumption)
  · rename ((sgo T[_]? != Str.ofString "") = true) => hne
    rename ((Builtin.Str.occurrences _ _ _ _ _).isEmpty = false) => hoc
    have ha := amg_of (y := y) hne
    rw [hoc] at ha
    have hlt := lt_of_amg ha.symm
    walk_at "M kend4"
    · exact ⟨by omega, by omega, (take_go ha.symm).trans hj3⟩
    · omega
  · rename ((sgo T[_]? != Str.ofString "") = false) => hne
    have hj := (take_stop (amg_none hne)).symm.trans hj3
    rw [slice_tx rfl rfl hi hj1]
    rw [← hj] at hret
    exact hret _ _ _ _ _ _ (by assumption) (by assumption)
end

-- 39lcm
section
theorem c_is_line_comment {w : World} {dp un : Nat} {gd : Option (List Code)} {cn : Str} {cs : Scope} {a : Addr} {ccd : Value} {cl : List (Str × Addr)} {outer : List Env} {A₀ : Around} {base h₀ : Heap} {L : Addr} {m : Str → Option Value} {s : Shared} {mean : ExcName → Option Value} {mg mb : Str → Option Value} {Q E : Value → Shared → Prop} {rest : List (Addr × Obj)} {x d : Addr} {k : SgK} {T : List Nat} {t1 t2 t3 t4 : Tok} {i : Nat}
  (B : Below A₀ base outer h₀) (F : Fr h₀ L s.heap m) (X : (Mine.hd.heap_1 w.params).In h₀) (N : News h₀ L s.heap ((d, SGo k T i t1 t2 t3 t4) :: (x, instObj 147 d) :: rest)) (TT : Top Mine.hd.view_1 lz mean mg mb h₀) (hk : cs.kind = .function) (hd : dp + 3 < recursionLimit) (hu : un + 8 * 3 < cLine)
  (hT : T.length ≤ 9000) (hi : i ≤ T.length)
  (hret : ∀ h' tk', Fr h₀ L h' m → News h₀ L h' ((d, SGo k T i t1 t2 t3 t4) :: (x, instObj 147 d) :: rest) → Q (.bool (lcm T i)) { s with heap := h', toks := tk' }) :
  wpAny (model PySem.Challenge.rw_sy0021_01.row.prog w) (ktrTop dp un gd cn cs L a ccd cl outer) (call (.ref 186) [.ref x]) Q E s := by
  have hfill : (Mine.hd.heap_1 = Mine.hd.heap_1 ∧ PySem.Challenge.rw_sy0021_01 = PySem.Challenge.rw_sy0021_01) := by k_fill; exact ⟨rfl, rfl⟩
  clear hfill
  refine wpAny_call ?_
  k_with_none
  k_with "M enter" => (refine' code_def ?k1 ?k2 ?k3 ?k4 ?k5 ?kA ?kF ?kK ?k6 ?k7 ?k8 ?k9 ?kB ?_ ?c2 ?c3 ?c4 ?c5; (case kA => exact rfl); (case kF => exact rfl); (case kK => assumption); (case k1 => k_asm); (case k2 => k_asm); (case k3 => k_asm); (case k4 => k_asm); (case k5 => k_asm); (case k6 => k_is); (case k7 => k_is); (case k8 => first | exact rm0 (by assumption) | ktr_room); (case k9 => first | exact BindsTo.of_eq rfl | exact binds_K (by k_in) rfl (by k_is) rfl rfl rfl); (case c5 => decide); (case kB => exact locs rfl); (case c2 => exact rfl); (case c3 => exact rfl); (case c4 => exact rfl); k_whole; intro g' L' h' FG' F' N' B' X' T'; (try dsimp only); (try k_lift B'); (try k_fold))
  k_dflt (walk_at "M enter")
  k_with_none
  k_with "M use" => ((case u1x => k_asm); (case u2x => k_asm); (case u3x => k_asm); (case u5x => k_asm); (case uKx => first | assumption | exact rfl); (case udx => first | exact rmA (by assumption) (by decide) | ktr_room); (case uux => first | exact umA (by assumption) (by decide) | ktr_units))
  k_with "M in" => (first | with_reducible assumption | exact Frag.In.keeps (by with_reducible assumption) (Fr.keep (by with_reducible assumption)))
  k_with "call ref" => (k_here; k_extra "M call")
  k_with "call ref" => (k_here; with_reducible first | refine call_app0 ?_ | refine call_app1 ?_ | refine call_app2 ?_)
  k_with "M kend2" => (refine' ksw_end ⟨_, _⟩ (by assumption) (by walk_at "M kN") (fun p hp => hp) trivial (by kst_all) (by ksw_same) ?_ ?_; all_goals (try dsimp only))
  k_with "M kN" => (first | assumption | exact news_tl1 (by assumption) | exact news_tl2 (by assumption) | exact news_tl3 (by assumption) | exact news_tl4 (by assumption) | exact news_dr1 (by assumption) | exact news_dr2 (by assumption) | exact news_dr3 (by assumption))
  k_with "eval Call" => (k_here; k_dflt (refine Call_ ?_))
  k_with "M all" => (first | assumption | exact apart_of (by first | assumption | exact And.right (by assumption) | exact And.right (And.right (by assumption)) | exact And.right (And.right (And.right (by assumption))) | exact And.right (And.right (And.right (And.right (by assumption))))))
  k_with "M call" => ((with_reducible show wpAny _ _ (call (Value.ref 165) _) _ _ _); k_dflt (refine' c_is_symbol ?u1x ?u2x ?u3x ?u4x ?u5x ?uKx ?udx ?uux ?_; walk_at "M use"; (case u4x => k_asm)); k_whole; intro h' tk' F' N'; (try dsimp only); (try k_sweep))
  k_with "M led" => (first | k_asm | exact news_rot1 (by k_asm) | exact news_rot2 (by k_asm) | exact news_rot3 (by k_asm) | exact news_rot4 (by k_asm))
  k_with "M call" => ((with_reducible show wpAny _ _ (call (Value.ref 116) [_]) _ _ _); k_dflt (refine' c_signG0 ?u1x ?u2x ?u3x ?u4x ?u5x ?uKx ?udx ?uux ?z2 ?z3 ?z4 ?_; walk_at "M use"; (case u4x => walk_at "M led"); (case z2 => omega); (case z3 => omega); (case z4 => omega)); k_whole; intro h' tk' t' F' N'; (try dsimp only); (try k_sweep))
  k_with "M call" => ((with_reducible show wpAny _ _ (call (Value.ref 116) [_, _]) _ _ _); k_dflt (refine' c_sign ?u1x ?u2x ?u3x ?u4x ?u5x ?uKx ?udx ?uux ?z1 ?z2 ?z3 ?z4 ?_; walk_at "M use"; (case u4x => walk_at "M led"); (case z1 => first | exact cast1 | exact cast2 | rfl | omega); (case z2 => omega); (case z3 => omega); (case z4 => omega)); k_whole; intro h' tk' t' F' N'; (try dsimp only); (try k_sweep))
  k_with "M call" => ((with_reducible show wpAny _ _ (call (Value.ref 116) [_]) _ _ _); k_dflt (refine' c_sign0 ?u1x ?u2x ?u3x ?u4x ?u5x ?uKx ?udx ?uux ?z2 ?z3 ?_; walk_at "M use"; (case u4x => walk_at "M led"); (case z2 => omega); (case z3 => omega)); k_whole; intro h' tk' t' F' N'; (try dsimp only); (try k_sweep))
  k_with "M call" => ((with_reducible show wpAny _ _ (call (Value.ref 123) _) _ _ _); k_dflt (refine' c_starts ?u1x ?u2x ?u3x ?u4x ?u5x ?uKx ?udx ?uux ?z1 ?z2 ?z3 ?_; walk_at "M use"; (case u4x => walk_at "M led"); (case z1 => omega); (case z2 => omega); (case z3 => first | decide | decide +kernel | omega)); k_whole; intro h' tk' F' N'; (try dsimp only); (try k_sweep))
  k_with "exec While Compare cons nil" => (
    rename Fr _ _ _ _ => lF'
    rename News _ _ _ _ => lN'
    rename (startsB _ _ _ = true) => hst
    have hlen := starts_len hst (by decide +kernel)
    rw [l_dd] at hlen
    with_unfolding_all refine' ksw_while (σ := Int × Tok) (fun c => (d, SGo k T i t1 t2 t3 t4) :: (x, instObj 147 d) :: rest) (fun c => [(Str.ofString "ahead", .int c.1 c.2)]) (fun _ => True) [] (fun c => ∃ n : Nat, c.1 = n ∧ 2 ≤ n ∧ i + n ≤ T.length ∧ takeEnd T [45] (i + n) = takeEnd T [45] (i + 2)) (fun c => T.length - i - c.1.toNat) (2, _) lF' lN' trivial ?kk ?kp ?_
    (case kk => kst_all)
    (case kp => exact ⟨2, rfl, Nat.le_refl _, hlen, rfl⟩)
    clear lF' lN'
    intro c u h tk hf hP kFr kNews
    obtain ⟨zn, u2⟩ := c
    (try dsimp only [kstB] at kFr); (try dsimp only at hP); (try dsimp only at kNews); (try dsimp only)
    obtain ⟨n, hn, hn2, hn3, hn4⟩ := hP
    subst hn
    (try k_fold))
  k_steps
  · rename ((sgo T[_]? == Str.ofString "-") = true) => hc
    rw [dash_iff] at hc
    have hlt := lt_of_amg hc
    walk_at "M kend2"
    · exact ⟨n + 1, by omega, by omega, by omega, (take_go (i := i + n) hc).trans hn4⟩
    · omega
  · rename ((sgo T[_]? == Str.ofString "-") = false) => hc
    rw [dash_iff] at hc
    refine ret_bool hret ?_ (by assumption) (by assumption)
    unfold lcm
    rw [‹startsB T i _ = true›, Bool.true_and, ← (take_stop hc).symm.trans hn4]
  · refine ret_bool hret ?_ (by assumption) (by assumption)
    unfold lcm
    rw [‹startsB T i _ = false›, Bool.false_and]
end

-- 41skip
section
theorem c_skip_between {w : World} {dp un : Nat} {gd : Option (List Code)} {cn : Str} {cs : Scope} {a : Addr} {ccd : Value} {cl : List (Str × Addr)} {outer : List Env} {A₀ : Around} {base h₀ : Heap} {L : Addr} {m : Str → Option Value} {s : Shared} {mean : ExcName → Option Value} {mg mb : Str → Option Value} {Q E : Value → Shared → Prop} {rest : List (Addr × Obj)} {x d : Addr} {k : SgK} {T : List Nat} {t1 t2 t3 t4 : Tok} {i : Nat}
  (B : Below A₀ base outer h₀) (F : Fr h₀ L s.heap m) (X : (Mine.hd.heap_1 w.params).In h₀) (N : News h₀ L s.heap ((d, SGo k T i t1 t2 t3 t4) :: (x, instObj 147 d) :: rest)) (TT : Top Mine.hd.view_1 lz mean mg mb h₀) (hk : cs.kind = .function) (hd : dp + 5 < recursionLimit) (hu : un + 8 * 5 < cLine)
  (hxd : x ≠ d) (hap : ∀ p ∈ rest, p.1 ≠ d) (hT : T.length ≤ 9000) (hi : i ≤ T.length) (hb : 123 ∉ T)
  (hret : ∀ h' tk' t2 t3 t4, Fr h₀ L h' m → News h₀ L h' ((d, SGo k T (skipEnd T i) t1 t2 t3 t4) :: (x, instObj 147 d) :: rest) → Q (.bool (decide ((lc T (skipEnd T i)).1 > (lc T i).1))) { s with heap := h', toks := tk' }) :
  wpAny (model PySem.Challenge.rw_sy0021_01.row.prog w) (ktrTop dp un gd cn cs L a ccd cl outer) (call (.ref 200) [.ref x]) Q E s := by
  have hfill : (Mine.hd.heap_1 = Mine.hd.heap_1 ∧ PySem.Challenge.rw_sy0021_01 = PySem.Challenge.rw_sy0021_01) := by k_fill; exact ⟨rfl, rfl⟩
  clear hfill
  refine wpAny_call ?_
  k_with_none
  k_with "M enter" => (refine' code_def ?k1 ?k2 ?k3 ?k4 ?k5 ?kA ?kF ?kK ?k6 ?k7 ?k8 ?k9 ?kB ?_ ?c2 ?c3 ?c4 ?c5; (case kA => exact rfl); (case kF => exact rfl); (case kK => assumption); (case k1 => k_asm); (case k2 => k_asm); (case k3 => k_asm); (case k4 => k_asm); (case k5 => k_asm); (case k6 => k_is); (case k7 => k_is); (case k8 => first | exact rm0 (by assumption) | ktr_room); (case k9 => first | exact BindsTo.of_eq rfl | exact binds_K (by k_in) rfl (by k_is) rfl rfl rfl); (case c5 => decide); (case kB => exact locs rfl); (case c2 => exact rfl); (case c3 => exact rfl); (case c4 => exact rfl); k_whole; intro g' L' h' FG' F' N' B' X' T'; (try dsimp only); (try k_lift B'); (try k_fold))
  k_dflt (walk_at "M enter")
  k_with_none
  k_with "M om" => (first | with_reducible assumption | exact Nat.le_succ_of_le (by with_reducible assumption) | exact Nat.le_of_lt (by with_reducible assumption) | exact Nat.le_of_succ_le (by with_reducible assumption) | exact Nat.le_trans (by with_reducible assumption) (by decide) | exact Nat.le_trans (Nat.le_of_succ_le (by with_reducible assumption)) (Nat.le_trans (by with_reducible assumption) (by decide)))
  k_with "M use" => ((case u1x => k_asm); (case u2x => k_asm); (case u3x => k_asm); (case u5x => k_asm); (case uKx => first | assumption | exact rfl); (case udx => first | exact rmA (by assumption) (by decide) | ktr_room); (case uux => first | exact umA (by assumption) (by decide) | ktr_units))
  k_with "M in" => (first | with_reducible assumption | exact Frag.In.keeps (by with_reducible assumption) (Fr.keep (by with_reducible assumption)))
  k_with "call ref" => (k_here; k_extra "M call")
  k_with "call ref" => (k_here; with_reducible first | refine call_app0 ?_ | refine call_app1 ?_ | refine call_app2 ?_)
  k_with "M kend4" => (refine' ksw_end ⟨_, _, _, _⟩ (by assumption) (by walk_at "M kN") (fun p hp => hp) trivial (by exact fun _ h => nomatch h) (by ksw_same) ?_ ?_; all_goals (try dsimp only))
  k_with "M kend5" => (refine' ksw_end ⟨_, _, _, _, _⟩ (by assumption) (by walk_at "M kN") (fun p hp => hp) trivial (by kst_all) (by ksw_same) ?_ ?_; all_goals (try dsimp only))
  k_with "M kN" => (first | assumption | exact news_tl1 (by assumption) | exact news_tl2 (by assumption) | exact news_tl3 (by assumption) | exact news_tl4 (by assumption) | exact news_dr1 (by assumption) | exact news_dr2 (by assumption) | exact news_dr3 (by assumption))
  k_with "eval Call" => (k_here; k_dflt (refine Call_ ?_))
  k_with "M all" => (first | assumption | exact apart_of (by first | assumption | exact And.right (by assumption) | exact And.right (And.right (by assumption)) | exact And.right (And.right (And.right (by assumption))) | exact And.right (And.right (And.right (And.right (by assumption))))))
  k_with "M call" => ((with_reducible show wpAny _ _ (call (Value.ref 158) _) _ _ _); k_dflt (refine' c_is_among ?u1x ?u2x ?u3x ?u4x ?u5x ?uKx ?udx ?uux ?_; walk_at "M use"; (case u4x => k_asm)); k_whole; intro h' tk' F' N'; (try dsimp only); (try k_sweep))
  k_with "M led" => (first | k_asm | exact news_rot1 (by k_asm) | exact news_rot2 (by k_asm) | exact news_rot3 (by k_asm) | exact news_rot4 (by k_asm))
  k_with "M call" => ((with_reducible show wpAny _ _ (call (Value.ref 116) [_]) _ _ _); k_dflt (refine' c_signG0 ?u1x ?u2x ?u3x ?u4x ?u5x ?uKx ?udx ?uux ?z2 ?z3 ?z4 ?_; walk_at "M use"; (case u4x => walk_at "M led"); (case z2 => omega); (case z3 => omega); (case z4 => omega)); k_whole; intro h' tk' t' F' N'; (try dsimp only); (try k_sweep))
  k_with "M call" => ((with_reducible show wpAny _ _ (call (Value.ref 116) [_, _]) _ _ _); k_dflt (refine' c_sign ?u1x ?u2x ?u3x ?u4x ?u5x ?uKx ?udx ?uux ?z1 ?z2 ?z3 ?z4 ?_; walk_at "M use"; (case u4x => walk_at "M led"); (case z1 => first | exact cast1 | exact cast2 | rfl | omega); (case z2 => omega); (case z3 => omega); (case z4 => omega)); k_whole; intro h' tk' t' F' N'; (try dsimp only); (try k_sweep))
  k_with "M call" => ((with_reducible show wpAny _ _ (call (Value.ref 116) [_]) _ _ _); k_dflt (refine' c_sign0 ?u1x ?u2x ?u3x ?u4x ?u5x ?uKx ?udx ?uux ?z2 ?z3 ?_; walk_at "M use"; (case u4x => walk_at "M led"); (case z2 => omega); (case z3 => omega)); k_whole; intro h' tk' t' F' N'; (try dsimp only); (try k_sweep))
  k_with "M ap" => (first | k_asm | k_all)
  k_with "M ne" => (first | k_asm | k_ne)
  k_with "M call" => ((with_reducible show wpAny _ _ (call (Value.ref 130) _) _ _ _); k_dflt (refine' c_step ?u1x ?u2x ?u3x ?u4x ?u5x ?uKx ?udx ?uux ?z1 ?z2 ?z3 ?z4 ?_; walk_at "M use"; (case u4x => walk_at "M led"); (case z1 => walk_at "M ne"); (case z2 => walk_at "M ap"); (case z3 => omega); (case z4 => omega)); k_whole; intro h' tk' t' t2' t3' t4' F' N'; (try dsimp only); (try k_sweep))
  k_with "M call" => ((with_reducible show wpAny _ _ (call (Value.ref 123) _) _ _ _); k_dflt (refine' c_starts ?u1x ?u2x ?u3x ?u4x ?u5x ?uKx ?udx ?uux ?z1 ?z2 ?z3 ?_; walk_at "M use"; (case u4x => walk_at "M led"); (case z1 => omega); (case z2 => omega); (case z3 => first | decide | decide +kernel | omega)); k_whole; intro h' tk' F' N'; (try dsimp only); (try k_sweep))
  k_with "M call" => ((with_reducible show wpAny _ _ (call (Value.ref 186) _) _ _ _); k_dflt (refine' c_is_line_comment ?u1x ?u2x ?u3x ?u4x ?u5x ?uKx ?udx ?uux ?z3 ?z4 ?_; walk_at "M use"; (case u4x => walk_at "M led"); (case z3 => omega); (case z4 => omega)); k_whole; intro h' tk' F' N'; (try dsimp only); (try k_sweep))
  k_with "exec While Name cons nil" => (
    rename Fr _ _ _ _ => lF'
    rename News _ _ _ _ => lN'
    with_unfolding_all refine' ksw_while (σ := Bool × Nat × Tok × Tok × Tok) (fun c => (d, SGo k T c.2.1 t1 c.2.2.1 c.2.2.2.1 c.2.2.2.2) :: (x, instObj 147 d) :: rest) (fun c => [(Str.ofString "going", .bool c.1)]) (fun _ => True) [] (fun c => c.2.1 ≤ T.length ∧ skipEnd T c.2.1 = skipEnd T i ∧ (c.1 = false → c.2.1 = skipEnd T i)) (fun c => 2 * (T.length - c.2.1) + cond c.1 1 0) (true, i, t2, t3, t4) lF' lN' trivial ?kk ?kp ?_
    (case kk => kst_all)
    (case kp => exact ⟨hi, rfl, fun h => nomatch h⟩)
    clear lF' lN'
    intro c u h tk hf hP kFr kNews
    obtain ⟨bg, j, u2, u3, u4⟩ := c
    (try dsimp only [kstB] at kFr); (try dsimp only at hP); (try dsimp only at kNews); (try dsimp only)
    obtain ⟨hj1, hj2, hj3⟩ := hP
    (try k_fold))
  k_with "exec While Compare cons nil" => (
    rename Fr _ _ _ _ => lF'
    rename News _ _ _ _ => lN'
    rename (amg _ _ = false) => hnw
    rename (lcm _ _ = true) => hlc
    with_unfolding_all refine' ksw_while (σ := Nat × Tok × Tok × Tok) (fun c => (d, SGo k T c.1 t1 c.2.1 c.2.2.1 c.2.2.2) :: (x, instObj 147 d) :: rest) (fun _ => []) (fun _ => True) [] (fun c => c.1 ≤ T.length ∧ lineEnd T c.1 = lineEnd T j) (fun c => T.length - c.1) (j, _, _, _) lF' lN' trivial ?kk ?kp ?_
    (case kk => exact fun _ h => nomatch h)
    (case kp => exact ⟨hj1, rfl⟩)
    clear lF' lN'
    intro c u h tk hf hP kFr kNews
    obtain ⟨j', u2', u3', u4'⟩ := c
    (try dsimp only [kstB] at kFr); (try dsimp only at hP); (try dsimp only at kNews); (try dsimp only)
    obtain ⟨hl1, hl2⟩ := hP
    (try k_fold))
  k_steps
  · rename (amg _ _ = true) => hw
    have hlt := lt_of_amg hw
    have hbg : bg = true := by assumption
    subst hbg
    walk_at "M kend5"
    · exact ⟨by omega, (skip_ws hw).trans hj2, fun h => nomatch h⟩
    · show 2 * (T.length - (j + 1)) + cond true 1 0 < 2 * (T.length - j) + cond true 1 0
      dsimp only [cond]; omega
  · rename (amg _ _ = false) => hw
    rename (lcm _ _ = true) => hl
    rename (List.any _ _ = true) => he
    rw [endO_iff] at he
    have e := (line_stop he).symm.trans hl2
    have hgt := lineEnd_gt hl
    have hbg : bg = true := by assumption
    subst hbg
    walk_at "M kend5"
    · exact ⟨by omega, by rw [e]; exact (skip_lc hj1 hw hl).trans hj2, fun h => nomatch h⟩
    · show 2 * (T.length - j') + cond true 1 0 < 2 * (T.length - j) + cond true 1 0
      dsimp only [cond]; omega
  · rename (List.any _ _ = false) => he
    rw [endO_iff] at he
    have e := line_go he
    walk_at "M kend4"
    · exact ⟨by omega, e.1.trans hl2⟩
    · omega
  · rename (startsB _ _ _ = true) => hs
    rw [no_brace hb] at hs
    cases hs
  · rename (amg _ _ = false) => hw
    rename (lcm _ _ = false) => hl
    have e := skip_stop hj1 hw hl
    walk_at "M kend5"
    · exact ⟨hj1, hj2, fun _ => e.symm.trans hj2⟩
    · show 2 * (T.length - j) + cond false 1 0 < 2 * (T.length - j) + cond bg 1 0
      rw [‹bg = true›]; dsimp only [cond]; omega
  · have e := hj3 (by assumption)
    rw [← e] at hret
    refine ret_bool (hret · · _ _ _) ?_ (by assumption) (by assumption)
    rw [Bool.eq_iff_iff]; simp
end

-- 43num
section
section
variable {prog : Program} {w : World} {A : Around} {E : Value → Shared → Prop} {s : Shared} {c : Nat} {t u : Tok} {Q : Value → Shared → Prop}
theorem lower_hexK (hc : c ∈ HEX) (h : Q (.str ⟨#[lowc c]⟩ s.toks) { s with toks := s.toks + 1 }) : wpAny (model prog w) A (call (.builtin "str.lower") [.str ⟨#[c]⟩ t]) Q E s := by
  refine SCL.lower (by show 1 ≤ 5592405; omega) ?_
  intro _
  rw [lower_hex c hc]
  exact h
theorem index_hexK (hA : A.handled = none) (hc : c ∈ HEX) (h : Q (.int (hexv c : Nat) s.toks) { s with toks := s.toks + 1 }) : wpAny (model prog w) A (call (.builtin "str.index") [.str (Str.ofString "0123456789abcdef") t, .str ⟨#[lowc c]⟩ u]) Q E s := by
  have hf := find_hex c hc
  refine index_or hA ?_ ?_
  · intro _ e
    rw [hf.2] at e
    cases e
  · intro _ _
    rw [hf.1]
    exact h
end
theorem c_number_of {w : World} {dp un : Nat} {gd : Option (List Code)} {cn : Str} {cs : Scope} {a : Addr} {ccd : Value} {cl : List (Str × Addr)} {outer : List Env} {A₀ : Around} {base h₀ : Heap} {L : Addr} {m : Str → Option Value} {s : Shared} {mean : ExcName → Option Value} {mg mb : Str → Option Value} {Q E : Value → Shared → Prop} {news : List (Addr × Obj)} {ds : List Nat} {bs : Nat} {td tb : Tok} {pl : Value}
  (B : Below A₀ base outer h₀) (F : Fr h₀ L s.heap m) (X : (Mine.hd.heap_1 w.params).In h₀) (N : News h₀ L s.heap (news)) (TT : Top Mine.hd.view_1 lz mean mg mb h₀) (hk : cs.kind = .function) (hd : dp + 2 < recursionLimit) (hu : un + 8 * 2 < cLine)
  (hl : ds.length ≤ 20) (hb : bs ≤ 16) (hh : ∀ c ∈ ds, c ∈ HEX)
  (hret : ∀ h' tk' t, Fr h₀ L h' m → News h₀ L h' news → Q (.int (numN bs ds : Nat) t) { s with heap := h', toks := tk' }) :
  wpAny (model PySem.Challenge.rw_sy0021_01.row.prog w) (ktrTop dp un gd cn cs L a ccd cl outer) (call (.ref 207) [.str (tx ds) td, .int (bs : Nat) tb, pl]) Q E s := by
  have hfill : (Mine.hd.heap_1 = Mine.hd.heap_1 ∧ PySem.Challenge.rw_sy0021_01 = PySem.Challenge.rw_sy0021_01) := by k_fill; exact ⟨rfl, rfl⟩
  clear hfill
  refine wpAny_call ?_
  k_with_none
  k_with "M enter" => (refine' code_def ?k1 ?k2 ?k3 ?k4 ?k5 ?kA ?kF ?kK ?k6 ?k7 ?k8 ?k9 ?kB ?_ ?c2 ?c3 ?c4 ?c5; (case kA => exact rfl); (case kF => exact rfl); (case kK => assumption); (case k1 => k_asm); (case k2 => k_asm); (case k3 => k_asm); (case k4 => k_asm); (case k5 => k_asm); (case k6 => k_is); (case k7 => k_is); (case k8 => first | exact rm0 (by assumption) | ktr_room); (case k9 => first | exact BindsTo.of_eq rfl | exact binds_K (by k_in) rfl (by k_is) rfl rfl rfl); (case c5 => decide); (case kB => exact locs rfl); (case c2 => exact rfl); (case c3 => exact rfl); (case c4 => exact rfl); k_whole; intro g' L' h' FG' F' N' B' X' T'; (try dsimp only); (try k_lift B'); (try k_fold))
  k_dflt (walk_at "M enter")
  k_with_none
  k_with "M in" => (first | with_reducible assumption | exact Frag.In.keeps (by with_reducible assumption) (Fr.keep (by with_reducible assumption)))
  k_with "eval Call" => (k_here; k_dflt (refine Call_ ?_))
  k_with "M all" => (first | assumption | exact apart_of (by first | assumption | exact And.right (by assumption) | exact And.right (And.right (by assumption)) | exact And.right (And.right (And.right (by assumption))) | exact And.right (And.right (And.right (And.right (by assumption))))))
  k_with "call builtin:str.lower" => (refine lower_hexK (by assumption) ?_)
  k_with "call builtin:str.index" => (refine index_hexK (by rfl) (by assumption) ?_)
  k_with "pyIter str" => (
    rename Fr _ _ _ _ => lF'
    rename News _ _ _ _ => lN'
    with_unfolding_all refine' KStt.kst_text (σ := Int × Tok) (fun c => news) (fun c => [(Str.ofString "found", .int c.1 c.2)]) (fun _ => True) [] (fun pre c => ∃ l : List Nat, pre = l.map (fun (z : Nat) => (z : Int)) ∧ c.1 = (numN bs l : Nat)) (0, _) ?kh lF' lN' trivial ?kk ?kp ?kt ?kd
    (case kh => rfl)
    (case kk => kst_all)
    (case kp => exact ⟨[], rfl, rfl⟩)
    all_goals (clear lF' lN')
    case' kt =>
      intro c pre post n tn u h tk own hsp hoff hf hP kFr kNews
      obtain ⟨fz, u2⟩ := c
      (try dsimp only [kstB] at kFr); (try dsimp only at hP); (try dsimp only at kNews); (try dsimp only)
      obtain ⟨l, hl1, hl2⟩ := hP
      subst hl1
      subst hl2
      have hnm : n ∈ HEX := by
        have h1 : (n : Int) ∈ KStt.codes (tx ds) := by rw [hsp]; simp
        obtain ⟨c, hc1, hc2⟩ := List.mem_map.mp h1
        have hc3 : c = n := by omega
        subst hc3
        exact hh c (by simpa [tx] using hc1)
      (try k_fold)
    case' kd =>
      intro c u h tk hf hP kFr kNews
      obtain ⟨fz, u2⟩ := c
      (try dsimp only [kstB] at kFr); (try dsimp only at hP); (try dsimp only at kNews); (try dsimp only)
      obtain ⟨l, hl1, hl2⟩ := hP
      subst hl2
      (try k_fold))
  k_steps
  · have e : l = ds := by
      refine map_cast_inj (hl1.symm.trans ?_)
      simp [KStt.codes, tx]
    subst e
    exact hret _ _ _ (by assumption) (by assumption)
  · exfalso
    have e : ds.map (fun (z : Nat) => (z : Int)) = l.map (fun (z : Nat) => (z : Int)) ++ (n : Int) :: post := by
      rw [← hsp]; simp [KStt.codes, tx]
    have e2 := congrArg List.length e
    simp at e2
    have hs2 := num_smallZ (n := n) (l := l) hb (by omega) (by
      intro c hc
      have : (c : Int) ∈ ds.map (fun (z : Nat) => (z : Int)) := by
        rw [e]
        rcases List.mem_append.mp hc with h | h
        · exact List.mem_append_left _ (List.mem_map.mpr ⟨c, h, rfl⟩)
        · rw [List.mem_singleton.mp h]; simp
      obtain ⟨c', h1, h2⟩ := List.mem_map.mp this
      have h3 : c' = c := by omega
      exact h3 ▸ hh c' h1)
    rename (_ ≤ _ * _ + _) => hbig
    have := Int.lt_of_le_of_lt hbig hs2
    revert this
    decide +kernel
  · refine kst_end ⟨_, _⟩ (by assumption) (by assumption) (fun p hp => List.mem_append_left _ hp) (fun p hp => List.mem_append_right _ hp) rfl trivial (by kst_all) (by kst_same) ?_
    exact ⟨l ++ [n], by simp, by rw [numN_snoc]; rfl⟩
end

-- 45float
section
theorem c_is_float {w : World} {dp un : Nat} {gd : Option (List Code)} {cn : Str} {cs : Scope} {a : Addr} {ccd : Value} {cl : List (Str × Addr)} {outer : List Env} {A₀ : Around} {base h₀ : Heap} {L : Addr} {m : Str → Option Value} {s : Shared} {mean : ExcName → Option Value} {mg mb : Str → Option Value} {Q E : Value → Shared → Prop} {rest : List (Addr × Obj)} {x d : Addr} {k : SgK} {T : List Nat} {t1 t2 t3 t4 : Tok} {i : Nat}
  (B : Below A₀ base outer h₀) (F : Fr h₀ L s.heap m) (X : (Mine.hd.heap_1 w.params).In h₀) (N : News h₀ L s.heap ((d, SGo k T i t1 t2 t3 t4) :: (x, instObj 147 d) :: rest)) (TT : Top Mine.hd.view_1 lz mean mg mb h₀) (hk : cs.kind = .function) (hd : dp + 3 < recursionLimit) (hu : un + 8 * 3 < cLine)
  (hT : T.length ≤ 9000) (hi : i ≤ T.length)
  (hret : ∀ h' tk', Fr h₀ L h' m → News h₀ L h' ((d, SGo k T i t1 t2 t3 t4) :: (x, instObj 147 d) :: rest) → Q (.bool (floatB T i)) { s with heap := h', toks := tk' }) :
  wpAny (model PySem.Challenge.rw_sy0021_01.row.prog w) (ktrTop dp un gd cn cs L a ccd cl outer) (call (.ref 221) [.ref x]) Q E s := by
  have hfill : (Mine.hd.heap_1 = Mine.hd.heap_1 ∧ PySem.Challenge.rw_sy0021_01 = PySem.Challenge.rw_sy0021_01) := by k_fill; exact ⟨rfl, rfl⟩
  clear hfill
  refine wpAny_call ?_
  k_with_none
  k_with "M enter" => (refine' code_def ?k1 ?k2 ?k3 ?k4 ?k5 ?kA ?kF ?kK ?k6 ?k7 ?k8 ?k9 ?kB ?_ ?c2 ?c3 ?c4 ?c5; (case kA => exact rfl); (case kF => exact rfl); (case kK => assumption); (case k1 => k_asm); (case k2 => k_asm); (case k3 => k_asm); (case k4 => k_asm); (case k5 => k_asm); (case k6 => k_is); (case k7 => k_is); (case k8 => first | exact rm0 (by assumption) | ktr_room); (case k9 => first | exact BindsTo.of_eq rfl | exact binds_K (by k_in) rfl (by k_is) rfl rfl rfl); (case c5 => decide); (case kB => exact locs rfl); (case c2 => exact rfl); (case c3 => exact rfl); (case c4 => exact rfl); k_whole; intro g' L' h' FG' F' N' B' X' T'; (try dsimp only); (try k_lift B'); (try k_fold))
  k_dflt (walk_at "M enter")
  k_with_none
  k_with "M use" => ((case u1x => k_asm); (case u2x => k_asm); (case u3x => k_asm); (case u5x => k_asm); (case uKx => first | assumption | exact rfl); (case udx => first | exact rmA (by assumption) (by decide) | ktr_room); (case uux => first | exact umA (by assumption) (by decide) | ktr_units))
  k_with "M in" => (first | with_reducible assumption | exact Frag.In.keeps (by with_reducible assumption) (Fr.keep (by with_reducible assumption)))
  k_with "call ref" => (k_here; k_extra "M call")
  k_with "call ref" => (k_here; with_reducible first | refine call_app0 ?_ | refine call_app1 ?_ | refine call_app2 ?_)
  k_with "eval Call" => (k_here; k_dflt (refine Call_ ?_))
  k_with "M all" => (first | assumption | exact apart_of (by first | assumption | exact And.right (by assumption) | exact And.right (And.right (by assumption)) | exact And.right (And.right (And.right (by assumption))) | exact And.right (And.right (And.right (And.right (by assumption))))))
  k_with "M call" => ((with_reducible show wpAny _ _ (call (Value.ref 158) _) _ _ _); k_dflt (refine' c_is_among ?u1x ?u2x ?u3x ?u4x ?u5x ?uKx ?udx ?uux ?_; walk_at "M use"; (case u4x => k_asm)); k_whole; intro h' tk' F' N'; (try dsimp only); (try k_sweep))
  k_with "M led" => (first | k_asm | exact news_rot1 (by k_asm) | exact news_rot2 (by k_asm) | exact news_rot3 (by k_asm) | exact news_rot4 (by k_asm))
  k_with "M call" => ((with_reducible show wpAny _ _ (call (Value.ref 116) [_]) _ _ _); k_dflt (refine' c_signG0 ?u1x ?u2x ?u3x ?u4x ?u5x ?uKx ?udx ?uux ?z2 ?z3 ?z4 ?_; walk_at "M use"; (case u4x => walk_at "M led"); (case z2 => omega); (case z3 => omega); (case z4 => omega)); k_whole; intro h' tk' t' F' N'; (try dsimp only); (try k_sweep))
  k_with "M call" => ((with_reducible show wpAny _ _ (call (Value.ref 116) [_, _]) _ _ _); k_dflt (refine' c_sign ?u1x ?u2x ?u3x ?u4x ?u5x ?uKx ?udx ?uux ?z1 ?z2 ?z3 ?z4 ?_; walk_at "M use"; (case u4x => walk_at "M led"); (case z1 => first | exact cast1 | exact cast2 | rfl | omega); (case z2 => omega); (case z3 => omega); (case z4 => omega)); k_whole; intro h' tk' t' F' N'; (try dsimp only); (try k_sweep))
  k_with "M call" => ((with_reducible show wpAny _ _ (call (Value.ref 116) [_]) _ _ _); k_dflt (refine' c_sign0 ?u1x ?u2x ?u3x ?u4x ?u5x ?uKx ?udx ?uux ?z2 ?z3 ?_; walk_at "M use"; (case u4x => walk_at "M led"); (case z2 => omega); (case z3 => omega)); k_whole; intro h' tk' t' F' N'; (try dsimp only); (try k_sweep))
  k_steps
  all_goals (
    (try rename ((sgo _ == Str.ofString ".") = _) => hdot)
    (try rw [s_dot, sgo_eq] at hdot)
    refine ret_bool hret ?_ (by assumption) (by assumption)
    unfold floatB
    clear hret
    simp_all [DIG])
end

-- 46based
section
theorem c_based_none {w : World} {dp un : Nat} {gd : Option (List Code)} {cn : Str} {cs : Scope} {a : Addr} {ccd : Value} {cl : List (Str × Addr)} {outer : List Env} {A₀ : Around} {base h₀ : Heap} {L : Addr} {m : Str → Option Value} {s : Shared} {mean : ExcName → Option Value} {mg mb : Str → Option Value} {Q E : Value → Shared → Prop} {rest : List (Addr × Obj)} {x d : Addr} {k : SgK} {T : List Nat} {t1 t2 t3 t4 : Tok} {i : Nat}
  (B : Below A₀ base outer h₀) (F : Fr h₀ L s.heap m) (X : (Mine.hd.heap_1 w.params).In h₀) (N : News h₀ L s.heap ((d, SGo k T i t1 t2 t3 t4) :: (x, instObj 147 d) :: rest)) (TT : Top Mine.hd.view_1 lz mean mg mb h₀) (hk : cs.kind = .function) (hd : dp + 3 < recursionLimit) (hu : un + 8 * 3 < cLine)
  (hT : T.length ≤ 9000) (hi : i ≤ T.length) (h0 : T[i]? ≠ some 48)
  (hret : ∀ h' tk', Fr h₀ L h' m → News h₀ L h' ((d, SGo k T i t1 t2 t3 t4) :: (x, instObj 147 d) :: rest) → Q .none { s with heap := h', toks := tk' }) :
  wpAny (model PySem.Challenge.rw_sy0021_01.row.prog w) (ktrTop dp un gd cn cs L a ccd cl outer) (call (.ref 214) [.ref x]) Q E s := by
  have hfill : (Mine.hd.heap_1 = Mine.hd.heap_1 ∧ PySem.Challenge.rw_sy0021_01 = PySem.Challenge.rw_sy0021_01) := by k_fill; exact ⟨rfl, rfl⟩
  clear hfill
  refine wpAny_call ?_
  k_with_none
  k_with "M enter" => (refine' code_def ?k1 ?k2 ?k3 ?k4 ?k5 ?kA ?kF ?kK ?k6 ?k7 ?k8 ?k9 ?kB ?_ ?c2 ?c3 ?c4 ?c5; (case kA => exact rfl); (case kF => exact rfl); (case kK => assumption); (case k1 => k_asm); (case k2 => k_asm); (case k3 => k_asm); (case k4 => k_asm); (case k5 => k_asm); (case k6 => k_is); (case k7 => k_is); (case k8 => first | exact rm0 (by assumption) | ktr_room); (case k9 => first | exact BindsTo.of_eq rfl | exact binds_K (by k_in) rfl (by k_is) rfl rfl rfl); (case c5 => decide); (case kB => exact locs rfl); (case c2 => exact rfl); (case c3 => exact rfl); (case c4 => exact rfl); k_whole; intro g' L' h' FG' F' N' B' X' T'; (try dsimp only); (try k_lift B'); (try k_fold))
  k_dflt (walk_at "M enter")
  k_with_none
  k_with "M use" => ((case u1x => k_asm); (case u2x => k_asm); (case u3x => k_asm); (case u5x => k_asm); (case uKx => first | assumption | exact rfl); (case udx => first | exact rmA (by assumption) (by decide) | ktr_room); (case uux => first | exact umA (by assumption) (by decide) | ktr_units))
  k_with "M in" => (first | with_reducible assumption | exact Frag.In.keeps (by with_reducible assumption) (Fr.keep (by with_reducible assumption)))
  k_with "call ref" => (k_here; k_extra "M call")
  k_with "call ref" => (k_here; with_reducible first | refine call_app0 ?_ | refine call_app1 ?_ | refine call_app2 ?_)
  k_with "M kN" => (first | assumption | exact news_tl1 (by assumption) | exact news_tl2 (by assumption) | exact news_tl3 (by assumption) | exact news_tl4 (by assumption) | exact news_dr1 (by assumption) | exact news_dr2 (by assumption) | exact news_dr3 (by assumption))
  k_with "M all" => (first | assumption | exact apart_of (by first | assumption | exact And.right (by assumption) | exact And.right (And.right (by assumption)) | exact And.right (And.right (And.right (by assumption))) | exact And.right (And.right (And.right (And.right (by assumption))))))
  k_with "M call" => ((with_reducible show wpAny _ _ (call (Value.ref 158) _) _ _ _); k_dflt (refine' c_is_among ?u1x ?u2x ?u3x ?u4x ?u5x ?uKx ?udx ?uux ?_; walk_at "M use"; (case u4x => k_asm)); k_whole; intro h' tk' F' N'; (try dsimp only); (try k_sweep))
  k_with "M led" => (first | k_asm | exact news_rot1 (by k_asm) | exact news_rot2 (by k_asm) | exact news_rot3 (by k_asm) | exact news_rot4 (by k_asm))
  k_with "M call" => ((with_reducible show wpAny _ _ (call (Value.ref 116) [_]) _ _ _); k_dflt (refine' c_signG0 ?u1x ?u2x ?u3x ?u4x ?u5x ?uKx ?udx ?uux ?z2 ?z3 ?z4 ?_; walk_at "M use"; (case u4x => walk_at "M led"); (case z2 => omega); (case z3 => omega); (case z4 => omega)); k_whole; intro h' tk' t' F' N'; (try dsimp only); (try k_sweep))
  k_with "M call" => ((with_reducible show wpAny _ _ (call (Value.ref 116) [_, _]) _ _ _); k_dflt (refine' c_sign ?u1x ?u2x ?u3x ?u4x ?u5x ?uKx ?udx ?uux ?z1 ?z2 ?z3 ?z4 ?_; walk_at "M use"; (case u4x => walk_at "M led"); (case z1 => first | exact cast1 | exact cast2 | rfl | omega); (case z2 => omega); (case z3 => omega); (case z4 => omega)); k_whole; intro h' tk' t' F' N'; (try dsimp only); (try k_sweep))
  k_with "M call" => ((with_reducible show wpAny _ _ (call (Value.ref 116) [_]) _ _ _); k_dflt (refine' c_sign0 ?u1x ?u2x ?u3x ?u4x ?u5x ?uKx ?udx ?uux ?z2 ?z3 ?_; walk_at "M use"; (case u4x => walk_at "M led"); (case z2 => omega); (case z3 => omega)); k_whole; intro h' tk' t' F' N'; (try dsimp only); (try k_sweep))
  k_with "M ap" => (first | k_asm | k_all)
  k_with "M ne" => (first | k_asm | k_ne)
  k_with "M call" => ((with_reducible show wpAny _ _ (call (Value.ref 130) _) _ _ _); k_dflt (refine' c_step ?u1x ?u2x ?u3x ?u4x ?u5x ?uKx ?udx ?uux ?z1 ?z2 ?z3 ?z4 ?_; walk_at "M use"; (case u4x => walk_at "M led"); (case z1 => walk_at "M ne"); (case z2 => walk_at "M ap"); (case z3 => omega); (case z4 => omega)); k_whole; intro h' tk' t' t2' t3' t4' F' N'; (try dsimp only); (try k_sweep))
  k_with "M call" => ((with_reducible show wpAny _ _ (call (Value.ref 144) _) _ _ _); k_dflt (refine' c_place ?u1x ?u2x ?u3x ?u4x ?u5x ?uKx ?udx ?uux ?_; walk_at "M use"; (case u4x => walk_at "M led")); k_whole; intro h' tk' p' u3' u4' F' N' l1; (try dsimp only); (try k_lt l1); (try k_sweep))
  k_with "M call" => ((with_reducible show wpAny _ _ (call (Value.ref 137) _) _ _ _); k_dflt (refine' c_take ?u1x ?u2x ?u3x ?u4x ?u5x ?uKx ?udx ?uux ?z1 ?z2 ?z3 ?z4 ?_; walk_at "M use"; (case u4x => walk_at "M led"); (case z1 => walk_at "M ne"); (case z2 => walk_at "M ap"); (case z3 => omega); (case z4 => omega)); k_whole; intro h' tk' t' t2' t3' t4' F' N'; (try dsimp only); (try k_sweep))
  k_with "M call" => ((with_reducible show wpAny _ _ (call (Value.ref 207) _) _ _ _); k_dflt (refine' c_number_of ?u1x ?u2x ?u3x ?u4x ?u5x ?uKx ?udx ?uux ?z1 ?z2 ?z3 ?_; walk_at "M use"; (case u4x => k_asm); (case z1 => walk_at "M numlen"); (case z2 => decide); (case z3 => walk_at "M numhex")); k_whole; intro h' tk' t' F' N'; (try dsimp only); (try k_sweep))
  k_steps
  · exfalso
    rename ((sgo _ == Str.ofString "0") = true) => hz
    rw [s_zero, sgo_eq] at hz
    exact h0 (beq_iff_eq.mp hz)
  · exact hret _ _ (by assumption) (by walk_at "M kN")
end

-- 47based
section
section
theorem lower_xK {prog : Program} {w : World} {A : Around} {E : Value → Shared → Prop} {s : Shared} {o : Option Nat} {t : Tok} {Q : Value → Shared → Prop} (h : o = some 120) (hq : Q (.str (Str.ofString "x") s.toks) { s with toks := s.toks + 1 }) : wpAny (model prog w) A (call (.builtin "str.lower") [.str (sgo o) t]) Q E s := by
  subst h
  refine SCL.lower (by show 1 ≤ 5592405; omega) ?_
  intro _
  rw [show Txt.lower (sgo (some 120)) = Str.ofString "x" from lower_x]
  exact hq
theorem c_based_hex {w : World} {dp un : Nat} {gd : Option (List Code)} {cn : Str} {cs : Scope} {a : Addr} {ccd : Value} {cl : List (Str × Addr)} {outer : List Env} {A₀ : Around} {base h₀ : Heap} {L : Addr} {m : Str → Option Value} {s : Shared} {mean : ExcName → Option Value} {mg mb : Str → Option Value} {Q E : Value → Shared → Prop} {rest : List (Addr × Obj)} {x d : Addr} {k : SgK} {T : List Nat} {t1 t2 t3 t4 : Tok} {i : Nat}
  (B : Below A₀ base outer h₀) (F : Fr h₀ L s.heap m) (X : (Mine.hd.heap_1 w.params).In h₀) (N : News h₀ L s.heap ((d, SGo k T i t1 t2 t3 t4) :: (x, instObj 147 d) :: rest)) (TT : Top Mine.hd.view_1 lz mean mg mb h₀) (hk : cs.kind = .function) (hd : dp + 4 < recursionLimit) (hu : un + 8 * 4 < cLine)
  (hxd : x ≠ d) (hap : ∀ p ∈ rest, p.1 ≠ d) (hT : T.length ≤ 9000) (hi : i ≤ T.length) (h0 : T[i]? = some 48) (h1 : T[i + 1]? = some 120) (h2 : amg T[i + 2]? HEX = true) (h3 : (cut T (i + 2) (takeEnd T HEX (i + 2))).length ≤ 20)
  (hret : ∀ h' tk' t t2 t3 t4, Fr h₀ L h' m → News h₀ L h' ((d, SGo k T (takeEnd T HEX (i + 2)) t1 t2 t3 t4) :: (x, instObj 147 d) :: rest) → Q (.int (numN 16 (cut T (i + 2) (takeEnd T HEX (i + 2))) : Nat) t) { s with heap := h', toks := tk' }) :
  wpAny (model PySem.Challenge.rw_sy0021_01.row.prog w) (ktrTop dp un gd cn cs L a ccd cl outer) (call (.ref 214) [.ref x]) Q E s := by
  have hlt := lt_of_amg h2
  rw [← hexl_eq] at h2 h3 hret
  have hfill : (Mine.hd.heap_1 = Mine.hd.heap_1 ∧ PySem.Challenge.rw_sy0021_01 = PySem.Challenge.rw_sy0021_01) := by k_fill; exact ⟨rfl, rfl⟩
  clear hfill
  refine wpAny_call ?_
  k_with_none
  k_with "M enter" => (refine' code_def ?k1 ?k2 ?k3 ?k4 ?k5 ?kA ?kF ?kK ?k6 ?k7 ?k8 ?k9 ?kB ?_ ?c2 ?c3 ?c4 ?c5; (case kA => exact rfl); (case kF => exact rfl); (case kK => assumption); (case k1 => k_asm); (case k2 => k_asm); (case k3 => k_asm); (case k4 => k_asm); (case k5 => k_asm); (case k6 => k_is); (case k7 => k_is); (case k8 => first | exact rm0 (by assumption) | ktr_room); (case k9 => first | exact BindsTo.of_eq rfl | exact binds_K (by k_in) rfl (by k_is) rfl rfl rfl); (case c5 => decide); (case kB => exact locs rfl); (case c2 => exact rfl); (case c3 => exact rfl); (case c4 => exact rfl); k_whole; intro g' L' h' FG' F' N' B' X' T'; (try dsimp only); (try k_lift B'); (try k_fold))
  k_dflt (walk_at "M enter")
  k_with_none
  k_with "M om" => (first | with_reducible assumption | exact Nat.le_succ_of_le (by with_reducible assumption) | exact Nat.le_of_lt (by with_reducible assumption) | exact Nat.le_of_succ_le (by with_reducible assumption) | exact Nat.le_trans (by with_reducible assumption) (by decide) | exact Nat.le_trans (Nat.le_of_succ_le (by with_reducible assumption)) (Nat.le_trans (by with_reducible assumption) (by decide)))
  k_with "M use" => ((case u1x => k_asm); (case u2x => k_asm); (case u3x => k_asm); (case u5x => k_asm); (case uKx => first | assumption | exact rfl); (case udx => first | exact rmA (by assumption) (by decide) | ktr_room); (case uux => first | exact umA (by assumption) (by decide) | ktr_units))
  k_with "M in" => (first | with_reducible assumption | exact Frag.In.keeps (by with_reducible assumption) (Fr.keep (by with_reducible assumption)))
  k_with "call ref" => (k_here; k_extra "M call")
  k_with "call ref" => (k_here; with_reducible first | refine call_app0 ?_ | refine call_app1 ?_ | refine call_app2 ?_)
  k_with "M kN" => (first | assumption | exact news_tl1 (by assumption) | exact news_tl2 (by assumption) | exact news_tl3 (by assumption) | exact news_tl4 (by assumption) | exact news_dr1 (by assumption) | exact news_dr2 (by assumption) | exact news_dr3 (by assumption))
  k_with "eval Call" => (k_here; k_dflt (refine Call_ ?_))
  k_with "M all" => (first | assumption | exact apart_of (by first | assumption | exact And.right (by assumption) | exact And.right (And.right (by assumption)) | exact And.right (And.right (And.right (by assumption))) | exact And.right (And.right (And.right (And.right (by assumption))))))
  k_with "M call" => ((with_reducible show wpAny _ _ (call (Value.ref 158) _) _ _ _); k_dflt (refine' c_is_among ?u1x ?u2x ?u3x ?u4x ?u5x ?uKx ?udx ?uux ?_; walk_at "M use"; (case u4x => k_asm)); k_whole; intro h' tk' F' N'; (try dsimp only); (try k_sweep))
  k_with "M led" => (first | k_asm | exact news_rot1 (by k_asm) | exact news_rot2 (by k_asm) | exact news_rot3 (by k_asm) | exact news_rot4 (by k_asm))
  k_with "M call" => ((with_reducible show wpAny _ _ (call (Value.ref 116) [_]) _ _ _); k_dflt (refine' c_signG0 ?u1x ?u2x ?u3x ?u4x ?u5x ?uKx ?udx ?uux ?z2 ?z3 ?z4 ?_; walk_at "M use"; (case u4x => walk_at "M led"); (case z2 => omega); (case z3 => omega); (case z4 => omega)); k_whole; intro h' tk' t' F' N'; (try dsimp only); (try k_sweep))
  k_with "M call" => ((with_reducible show wpAny _ _ (call (Value.ref 116) [_, _]) _ _ _); k_dflt (refine' c_sign ?u1x ?u2x ?u3x ?u4x ?u5x ?uKx ?udx ?uux ?z1 ?z2 ?z3 ?z4 ?_; walk_at "M use"; (case u4x => walk_at "M led"); (case z1 => first | exact cast1 | exact cast2 | rfl | omega); (case z2 => omega); (case z3 => omega); (case z4 => omega)); k_whole; intro h' tk' t' F' N'; (try dsimp only); (try k_sweep))
  k_with "M call" => ((with_reducible show wpAny _ _ (call (Value.ref 116) [_]) _ _ _); k_dflt (refine' c_sign0 ?u1x ?u2x ?u3x ?u4x ?u5x ?uKx ?udx ?uux ?z2 ?z3 ?_; walk_at "M use"; (case u4x => walk_at "M led"); (case z2 => omega); (case z3 => omega)); k_whole; intro h' tk' t' F' N'; (try dsimp only); (try k_sweep))
  k_with "M ap" => (first | k_asm | k_all)
  k_with "M ne" => (first | k_asm | k_ne)
  k_with "M call" => ((with_reducible show wpAny _ _ (call (Value.ref 130) _) _ _ _); k_dflt (refine' c_step ?u1x ?u2x ?u3x ?u4x ?u5x ?uKx ?udx ?uux ?z1 ?z2 ?z3 ?z4 ?_; walk_at "M use"; (case u4x => walk_at "M led"); (case z1 => walk_at "M ne"); (case z2 => walk_at "M ap"); (case z3 => omega); (case z4 => omega)); k_whole; intro h' tk' t' t2' t3' t4' F' N'; (try dsimp only); (try k_sweep))
  k_with "M call" => ((with_reducible show wpAny _ _ (call (Value.ref 144) _) _ _ _); k_dflt (refine' c_place ?u1x ?u2x ?u3x ?u4x ?u5x ?uKx ?udx ?uux ?_; walk_at "M use"; (case u4x => walk_at "M led")); k_whole; intro h' tk' p' u3' u4' F' N' l1; (try dsimp only); (try k_lt l1); (try k_sweep))
  k_with "M call" => ((with_reducible show wpAny _ _ (call (Value.ref 137) _) _ _ _); k_dflt (refine' c_take ?u1x ?u2x ?u3x ?u4x ?u5x ?uKx ?udx ?uux ?z1 ?z2 ?z3 ?z4 ?_; walk_at "M use"; (case u4x => walk_at "M led"); (case z1 => walk_at "M ne"); (case z2 => walk_at "M ap"); (case z3 => omega); (case z4 => omega)); k_whole; intro h' tk' t' t2' t3' t4' F' N'; (try dsimp only); (try k_sweep))
  k_with "M call" => ((with_reducible show wpAny _ _ (call (Value.ref 207) _) _ _ _); k_dflt (refine' c_number_of ?u1x ?u2x ?u3x ?u4x ?u5x ?uKx ?udx ?uux ?z1 ?z2 ?z3 ?_; walk_at "M use"; (case u4x => k_asm); (case z1 => walk_at "M numlen"); (case z2 => decide); (case z3 => walk_at "M numhex")); k_whole; intro h' tk' t' F' N'; (try dsimp only); (try k_sweep))
  k_with "M numlen" => (first | assumption | omega)
  k_with "M numhex" => (first | assumption | exact cut_all | (rw [← hexl_eq]; exact cut_all) | exact fun c hc => dig_hex c (cut_all c hc))
  k_with "call builtin:str.lower" => (refine lower_xK (by assumption) ?_)
  k_steps
  · exact hret _ _ _ _ _ _ (by assumption) (by walk_at "M kN")
  · exfalso
    rename ((sgo _ == Str.ofString "0") = false) => hz
    rw [s_zero, sgo_eq, h0] at hz
    simp at hz
end
end

-- 51exc
section
noncomputable abbrev wordErr : Obj := excClassObj (Str.ofString "WordError") (Str.ofString "WordError") 52 51 [.ref 39] [.ref 39, .type "Exception", .type "BaseException", .type "object"] true [] [] false none none (some (.ref 43)) none (some (.str (Str.ofString "WordError") 227)) (some (.str (Str.ofString "WordError") 235)) (some (.bool true)) "Exception.__new__"
section
variable {prog : Program} {w : World} {A : Around} {E : Value → Shared → Prop} {h : Heap} {g : Array GenState} {dr : Drawn} {t : Nat} {os : OsState}
theorem e52 {P : Params} (X : (Mine.hd.heap_1 P).In h) : h.get? 52 = some wordErr := X _ _ (by rfl)
theorem new52 {R : Result → Shared → Prop} {v1 v2 : Value} (hC : h.get? 52 = some wordErr)
    (hq : R (.ok (.ret (.ref (h.objs.size + 1)))) ⟨(h.push { cls := .type "tuple", data := .seq #[v1, v2] }).push { cls := .ref 52, data := .fields #[.ref h.objs.size, .none, .none, .none, .bool false, .none] }, g, dr, t, os⟩) :
    codeAny (model prog w) A (.builtin "Exception.__new__" ⟨[.ref 52, v1, v2], []⟩) R ⟨h, g, dr, t, os⟩ := by
  have hb : (Value.ref 52 :: [Value.ref 39, .type "Exception", .type "BaseException", .type "object"]).contains (.type "Exception") = true := by decide
  have ha : (Value.ref 52 :: [Value.ref 39, .type "Exception", .type "BaseException", .type "object"]).contains (.type "AttributeError") = false := by decide
  have hn : (Value.ref 52 :: [Value.ref 39, .type "Exception", .type "BaseException", .type "object"]).contains (.type "NameError") = false := by decide
  have ends := PySem.F.excBase_Exception.ends
  refine codeAny_builtinAt PySem.F.excBase_Exception.entry ?_
  unfold Builtin.«BaseException.__new__»
  refine PySem.wpAt_bind ?_
  show PySem.wpAt _ _ _ (stack >>= _) _ _ _
  refine PySem.wpAt_bind (PySem.wpAt_stack fun p below => PySem.wpAt_of_wpAny ?_)
  wp_walk
  refine PySem.wpAt_of_wpAny ?_
  rw [PySem.F.excBase_Exception.owner]
  repeat (first | with_reducible refine wpAny_madeHere_exc PySem.F.excBase_Exception.canon hC ?_ | with_reducible refine wpAny_loadPart_at hC ?_ | (with_reducible refine wpAny_isSubtype_exc hC ?_; first | rw [hb] | rw [ha] | rw [hn]) | wp_step)
  show R _ _
  rw [Heap.size_push]
  exact hq
theorem check52 {M : Model} {Q : Unit → Shared → Prop} {v1 v2 : Value} (hC : h.get? 52 = some wordErr) (hq : Q () ⟨h, g, dr, t, os⟩) :
    wpAny M A (checkBuiltinCall "Exception.__new__" ⟨[.ref 52, v1, v2], []⟩) Q E ⟨h, g, dr, t, os⟩ := by
  have hb : (Value.ref 52 :: [Value.ref 39, .type "Exception", .type "BaseException", .type "object"]).contains (.type "Exception") = true := by decide
  have hstar := PySem.F.excBase_Exception.noStar
  simp only [checkBuiltinCall, PySem.F.excBase_Exception.newKind, PySem.F.excBase_Exception.newSplit, PySem.F.excBase_Exception.newRow]
  repeat (first | refine wpAny_loadPart_at hC ?_ | (refine wpAny_isSubtype_exc hC ?_; rw [hb]) | refine wpAny_staticBase_exc hC ?_ | refine wpAny_madeBy_exc hC ?_ | simp only [bne_self_eq_false, Bool.false_eq_true, if_false] | wp_step)
  exact hq
/-- a WordError is made: its own __init__ is called upon the bare object -/
theorem make52 {Q : Value → Shared → Prop} {v1 v2 : Value} (X : (Mine.hd.heap_1 w.params).In h)
    (hq : ∀ h' e, Heap.MadeExcOf h h' e (.ref 52) [v1, v2] →
      wpAny (model prog w) (A.under (.builtin "type.__call__" ⟨[.ref 52, v1, v2], []⟩)) (call (.ref 36) [.ref e, v1, v2]) (fun r s' => r = .none ∧ Q (.ref e) s') E ⟨h', g, dr, t, os⟩) :
    wpAny (model prog w) A (call (.ref 52) [v1, v2]) Q E ⟨h, g, dr, t, os⟩ := by
  have hC := e52 X
  have f1 := tc_lookup
  have f2 := tc_bind (.ref 52)
  have hT : (⟨h, g, dr, t, os⟩ : Shared).TypeIs (.ref 52) "type" := ⟨_, hC, rfl⟩
  refine wpAny_call (codeAny_of_tree ?_)
  show wpAny _ _ (callAny (.ref 52) _) _ _ _
  repeat (any_goals (first | assumption | with_reducible refine wpAny_loadPart_at hC ?_ | wp_step))
  refine ⟨rfl, ?_⟩
  refine codeAny_call_builtin_at (Code.quiet_builtin _ (by decide +kernel)) entry_typeCall (wpAny_check_type_call_sub hC ?_)
  repeat (first | with_reducible refine wpAny_loadPart_at hC ?_ | with_reducible refine wpAny_madeBy_exc hC ?_ | wp_step)
  refine codeAny_call_builtin_code (Code.quiet_builtin _ PySem.F.excBase_Exception.quiet) (check52 hC ?_)
  refine new52 hC ?_
  show wpAny _ _ _ _ _ _
  have kp : ∀ b o, h.get? b = some o → ((h.push { cls := .type "tuple", data := .seq #[v1, v2] }).push { cls := .ref 52, data := .fields #[.ref h.objs.size, .none, .none, .none, .bool false, .none] }).get? b = some o :=
    fun b o hb => Heap.get?_push_of_some _ (Heap.get?_push_of_some _ hb)
  have hC₁ := kp _ _ hC
  have X₁ := X.keeps kp
  have hget : ((h.push { cls := .type "tuple", data := .seq #[v1, v2] }).push { cls := .ref 52, data := .fields #[.ref h.objs.size, .none, .none, .none, .bool false, .none] }).get? (h.objs.size + 1) = some
      { cls := .ref 52, data := .fields #[.ref h.objs.size, .none, .none, .none, .bool false, .none] } := by heap_get
  have hcC : (Value.ref 52 :: [Value.ref 39, .type "Exception", .type "BaseException", .type "object"]).contains (.ref 52) = true := by decide
  unfold isInstance
  repeat (first | with_reducible refine wpAny_loadPart_at hget ?_ | (with_reducible refine wpAny_isSubtype_exc hC₁ ?_; rw [hcC]) | wp_step)
  show wpAny _ _ (typeLookup (.ref 52) (Str.ofString "__init__")) _ _ _
  refine (looks_findIn X₁ (r := some (.ref 36)) (by rfl)).here ?_
  refine wpAny_holding (wpAny_bind ?_)
  unfold bindSpecial
  refine wpAny_bind (wpAny_typeOf (T := "function") ⟨_, X₁ 36 _ (by rfl), rfl⟩ ?_)
  rw [if_pos (by decide)]
  refine wpAny_pure (wpAny_bind (wpAny_mono (hq _ (h.objs.size + 1) ⟨kp, Heap.get?_none_of_le (Nat.le_succ _), h.objs.size, hget, Heap.get?_none_of_le (Nat.le_refl _), ?_⟩) (fun r s' hr => ?_) fun _ _ x => x))
  · exact Heap.get?_push_of_some _ (Heap.get?_push_at rfl rfl)
  · obtain ⟨rfl, hQ⟩ := hr
    wp_walk
    exact hQ
end
end

-- 52set
section
section
variable {w : World} {A : Around} {E : Value → Shared → Prop} {s : Shared} {R : Result → Shared → Prop} {e : Addr} {oe : Obj} {name : Str} {tk : Tok} {v : Value}
theorem mro52 {prog : Program} {P : Params} {h : Heap} (X : (Mine.hd.heap_1 P).In h) : Looks (model prog w) h (mroOf (.ref 52)) [.ref 52, .ref 39, .type "Exception", .type "BaseException", .type "object"] :=
  (looks_clsIn X (cd := { name := Str.ofString "WordError", bases := [.ref 39], mro := [.ref 52, .ref 39, .type "Exception", .type "BaseException", .type "object"], ns := 51, qualname := Str.ofString "WordError", hasDict := true, slotNames := [], subclasses := [], abstract := false, collection := none, hasDel := false }) (by rfl)).andThen .now
theorem type52 {M : Model} {h : Heap} (he : h.get? e = some oe) (hc : oe.cls = .ref 52) : Looks M h (typeOf (.ref e)) (.ref 52) := by
  have := (Looks.ld (M := M) (part := some headPart) he).andThen (f := fun o => pure o.cls) (.now)
  rw [hc] at this
  exact this
/-- object.__setattr__ upon a WordError comes to its own dict -/
theorem osa52 {prog : Program} (X : (Mine.hd.heap_1 w.params).In s.heap) (he : s.heap.get? e = some oe) (hc : oe.cls = .ref 52) (hn : findIn (Mine.hd.heap_1 w.params) (.ref 52) name = some none)
    (h : wpAny (model prog w) A.in1 (Builtin.ObjectAttr.storeInOwnDict (.ref e) (.ref 52) (.str name tk) name v false)
      (fun fin s' => match fin with | .done f => R (.ok f) s' | .again c' => c'.quiet = true ∧ codeAny (model prog w) A c' R s') (fun e s' => R (.error e) s') s) :
    codeAny (model prog w) A (.call (.builtin "object.__setattr__") ⟨[.ref e, .str name tk, v], []⟩) R s := by
  have SF := PySem.F.store_object
  have T := type52 (M := model prog w) he hc
  have sub : Looks (model prog w) s.heap (isInstance (.ref e) (.type "object")) true := T.andThen (looks_mroIn X (by rfl))
  refine codeAny_call_builtin SF.slot.plain SF.entry (@check_slot (model prog w) _ _ s "object.__setattr__" "object" "__setattr__" (.ref e) [.str name tk, v] [] _ SF.kind SF.split sub (SF.args (.ref e) (.str name tk) v) ?_)
  rw [osa_eq, refuse_eq]
  refine wpAny_bind (wpAny_bind (T.here (wpAny_bind ((mro52 X).here ?_))))
  rw [refuseLoop_ref, refuseLoop_ref, PySem.F.store_Exception.passes]
  refine wpAny_pure (wpAny_bind (T.here (wpAny_bind ((looks_findIn X hn).here (wpAny_bind (wpAny_pure ?_))))))
  exact h
/-- one entry laid into the dict at dx -/
theorem nset52 {prog : Program} {dx : Addr} {es : List DictEntry} {n : Nat} {Q : PySem.Fin → Shared → Prop} {A : Around} (hd : s.heap.get? dx = some (dictOf es n)) (hk : ∀ x ∈ es, x.refKey = false) (hz : es.length ≤ 100)
    (hq : Q (.done (.ret .none)) { s with heap := s.heap.update dx (Obj.putName name (PyData.keyHash w.params name) (.str name s.toks) v), toks := s.toks + 1 }) :
    wpAny (model prog w) A (Builtin.ObjectAttr.storeInDict dx (.str name tk) name v) Q E s := by
  have hfr : (Obj.putName name (PyData.keyHash w.params name) (.str name s.toks) v (dictOf es n)).isFreed = false := by rw [putName_dict]; rfl
  have D' := Heap.get?_update_self (Obj.putName name (PyData.keyHash w.params name) (.str name s.toks) v) hd hfr
  unfold Builtin.ObjectAttr.storeInDict
  refine wpAny_bind (wpAny_pure (wpAny_bind ?_))
  unfold nsSet
  refine wpAny_bind (wpAny_bind (wpAny_askSetting (wpAny_pure (wpAny_bind (wpAny_mkText (wpAny_bind (wpAny_loadPart hd ?_)))))))
  dsimp only
  have c : (!es.toArray.any (·.key.isStr name) && es.toArray.any (·.refKey)) = false := by
    have : es.toArray.any (·.refKey) = false := by
      rw [← Array.any_toList]
      simp only [List.any_eq_false]
      intro x hx
      rw [hk x hx]; decide
    rw [this, Bool.and_false]
  rw [aRefKeyMayBeTheName_at, c]
  refine wpAny_updatePart hd ?_
  refine wpAny_bind (wpAny_lookBehind D' ?_ ?_)
  · rw [putName_dict]
    refine pastItsLine_dict ?_
    rw [List.size_toArray, sizeLine_eq]
    have : ∀ es : List DictEntry, (putL name (PyData.keyHash w.params name) (.str name s.toks) v es).length ≤ es.length + 1 := by
      intro es
      induction es with
      | nil => exact Nat.le_refl _
      | cons x r ih =>
        unfold putL
        split
        · exact Nat.le_succ _
        · simp only [List.length_cons]; omega
    have := this es
    omega
  · exact wpAny_pure hq
theorem cls52 {prog : Program} {P : Params} {h : Heap} (X : (Mine.hd.heap_1 P).In h) : Looks (model prog w) h (classData 52) { name := Str.ofString "WordError", bases := [.ref 39], mro := [.ref 52, .ref 39, .type "Exception", .type "BaseException", .type "object"], ns := 51, qualname := Str.ofString "WordError", hasDict := true, slotNames := [], subclasses := [], abstract := false, collection := none, hasDel := false } :=
  looks_clsIn X (by rfl)
/-- its own dict stands -/
theorem sto52b {prog : Program} {A : Around} {dx : Addr} {es : List DictEntry} {n : Nat} {b : Bool} {Q : PySem.Fin → Shared → Prop} (X : (Mine.hd.heap_1 w.params).In s.heap) (he : s.heap.get? e = some oe) (hc : oe.cls = .ref 52) (hdx : oe.dict = some dx)
    (hd : s.heap.get? dx = some (dictOf es n)) (hk : ∀ x ∈ es, x.refKey = false) (hz : es.length ≤ 100)
    (hq : Q (.done (.ret .none)) { s with heap := s.heap.update dx (Obj.putName name (PyData.keyHash w.params name) (.str name s.toks) v), toks := s.toks + 1 }) :
    wpAny (model prog w) A (Builtin.ObjectAttr.storeInOwnDict (.ref e) (.ref 52) (.str name tk) name v b) Q E s := by
  unfold Builtin.ObjectAttr.storeInOwnDict ownStreamTells
  refine wpAny_bind (wpAny_pure ?_)
  rw [if_neg (by decide)]
  refine wpAny_bind ?_
  unfold Builtin.ObjectAttr.ownDictForStores instanceDict
  refine wpAny_bind (wpAny_loadPart he ?_)
  rw [hc]
  dsimp only
  refine wpAny_bind ((cls52 X).here ?_)
  dsimp only
  rw [if_neg (by decide), hdx]
  refine wpAny_pure ?_
  exact nset52 hd hk hz hq
/-- its own dict is made -/
theorem sto52a {prog : Program} {A : Around} {b : Bool} {Q : PySem.Fin → Shared → Prop} (X : (Mine.hd.heap_1 w.params).In s.heap) (he : s.heap.get? e = some oe) (hc : oe.cls = .ref 52) (hdx : oe.dict = none) (hfl : ∃ vs, oe.data = .fields vs)
    (hq : Q (.done (.ret .none)) { s with heap := ((s.heap.push (dictOf [] 0)).update e fun o => { o with dict := some s.heap.objs.size }).update s.heap.objs.size (Obj.putName name (PyData.keyHash w.params name) (.str name s.toks) v), toks := s.toks + 1 }) :
    wpAny (model prog w) A (Builtin.ObjectAttr.storeInOwnDict (.ref e) (.ref 52) (.str name tk) name v b) Q E s := by
  obtain ⟨vs, hv⟩ := hfl
  obtain ⟨oc, od, oda, osl⟩ := oe
  dsimp only at hc hdx hv
  subst hc hdx hv
  have hlt := Heap.lt_size he
  have he₁ : (s.heap.push (dictOf [] 0)).get? e = some ⟨.ref 52, none, .fields vs, osl⟩ := Heap.get?_push_of_some _ he
  have hd₁ : ((s.heap.push (dictOf [] 0)).update e fun o => { o with dict := some s.heap.objs.size }).get? s.heap.objs.size = some (dictOf [] 0) :=
    (Heap.get?_update_other _ _ (Nat.ne_of_lt hlt)).trans (Heap.get?_push_size _ rfl)
  unfold Builtin.ObjectAttr.storeInOwnDict ownStreamTells
  refine wpAny_bind (wpAny_pure ?_)
  rw [if_neg (by decide)]
  refine wpAny_bind ?_
  unfold Builtin.ObjectAttr.ownDictForStores instanceDict
  refine wpAny_bind (wpAny_loadPart he ?_)
  dsimp only
  refine wpAny_bind ((cls52 X).here ?_)
  dsimp only
  rw [if_neg (by decide), if_neg (by decide)]
  refine wpAny_bind (wpAny_alloc ?_)
  refine wpAny_bind (wpAny_update he₁ ?_)
  refine wpAny_pure ?_
  exact nset52 (s := { s with heap := (s.heap.push (dictOf [] 0)).update e fun o => { o with dict := some s.heap.objs.size } }) hd₁ (fun _ h => nomatch h) (by decide) hq
end
end

-- 53make
section
noncomputable abbrev excO (t : Addr) : Obj := { cls := .ref 52, data := .fields #[.ref t, .none, .none, .none, .bool false, .none] }
noncomputable abbrev excD (t dx : Addr) : Obj := { cls := .ref 52, dict := some dx, data := .fields #[.ref t, .none, .none, .none, .bool false, .none] }
section
variable {w : World} {A : Around} {E : Value → Shared → Prop} {s : Shared} {Q : Unit → Shared → Prop} {e t dx L : Addr} {name : Str} {v : Value} {h₀ : Heap} {m : Str → Option Value} {rest : List (Addr × Obj)}
theorem set52a {prog : Program} (F : Fr h₀ L s.heap m) (X₀ : (Mine.hd.heap_1 w.params).In h₀) (N : News h₀ L s.heap ((e, excO t) :: rest)) (hap : ∀ p ∈ rest, p.1 ≠ e) (hn : findIn (Mine.hd.heap_1 w.params) (.ref 52) name = some none)
    (h : ∀ h' dx hsh k k2, Fr h₀ L h' m → News h₀ L h' ((dx, dictOf [⟨hsh, .str name k, v⟩] 1) :: (e, excD t dx) :: rest) → (∀ q ∈ (e, excO t) :: rest, q.1 < dx) → Q () { s with heap := h', toks := k2 }) :
    wpAny (model prog w) A (setAttr (.ref e) name v) Q E s := by
  have X := X₀.keeps F.keep
  have he := (N _ (.head _)).1
  refine set_plain (od := none) X ⟨he, rfl, rfl, trivial⟩ (by rfl) (osa52 (s := { s with toks := s.toks + 1 }) X he rfl hn (sto52a (s := { s with toks := s.toks + 1 }) X he rfl rfl ⟨_, rfl⟩ ?_))
  have F₁ := F.push (dictOf [] 0)
  have N₁ := N.push F (dictOf [] 0)
  have lt : ∀ q ∈ (e, excO t) :: rest, q.1 < s.heap.objs.size := fun q hq => Heap.lt_size (N q hq).1
  have up1 := news_upd (pre := [(s.heap.objs.size, dictOf [] 0)]) (post := rest) (f := fun o => { o with dict := some s.heap.objs.size }) (o' := excD t s.heap.objs.size) F₁ N₁
    (fun p hp => by rw [List.mem_singleton.mp hp]; exact Nat.ne_of_gt (lt _ (.head _))) hap rfl rfl
  have up2 := news_upd (pre := []) (post := (e, excD t s.heap.objs.size) :: rest) (f := Obj.putName name (PyData.keyHash w.params name) (.str name (s.toks + 1)) v) (o' := dictOf [⟨PyData.keyHash w.params name, .str name (s.toks + 1), v⟩] 1) up1.1 up1.2
    (fun _ hp => nomatch hp) (fun p hp => by
      rcases List.mem_cons.mp hp with rfl | hp
      · exact Nat.ne_of_lt (lt (e, excO t) (.head _))
      · exact Nat.ne_of_lt (lt _ (.tail _ hp))) (by rw [putName_dict]; rfl) rfl
  exact h _ _ _ _ _ up2.1 up2.2 lt
theorem set52b {prog : Program} {es : List DictEntry} {n : Nat} (F : Fr h₀ L s.heap m) (X₀ : (Mine.hd.heap_1 w.params).In h₀) (N : News h₀ L s.heap ((dx, dictOf es n) :: (e, excD t dx) :: rest)) (hap : ∀ p ∈ (e, excD t dx) :: rest, p.1 ≠ dx) (hn : findIn (Mine.hd.heap_1 w.params) (.ref 52) name = some none)
    (hk : ∀ x ∈ es, x.refKey = false) (hz : es.length ≤ 100)
    (h : ∀ h' hsh k k2, Fr h₀ L h' m → News h₀ L h' ((dx, dictOf (putL name hsh (.str name k) v es) (putN name es n)) :: (e, excD t dx) :: rest) → Q () { s with heap := h', toks := k2 }) :
    wpAny (model prog w) A (setAttr (.ref e) name v) Q E s := by
  have X := X₀.keeps F.keep
  have he := (N _ (.tail _ (.head _))).1
  have hd := (N _ (.head _)).1
  refine set_plain (od := some (dictOf es n)) X ⟨he, rfl, rfl, hd⟩ (by rfl) (osa52 (s := { s with toks := s.toks + 1 }) X he rfl hn (sto52b (s := { s with toks := s.toks + 1 }) X he rfl rfl hd hk hz ?_))
  have up := news_upd (pre := []) (post := (e, excD t dx) :: rest) (f := Obj.putName name (PyData.keyHash w.params name) (.str name (s.toks + 1)) v) F N (fun _ hp => nomatch hp) hap (putName_dict _ _ _ _ _ _) rfl
  exact h _ _ _ _ up.1 up.2
/-- Exception.__init__ upon a WordError: its args are laid anew -/
theorem init52 {prog : Program} {Q : Value → Shared → Prop} (F : Fr h₀ L s.heap m) (X₀ : (Mine.hd.heap_1 w.params).In h₀) (N : News h₀ L s.heap ((e, excO t) :: rest)) (hap : ∀ p ∈ rest, p.1 ≠ e)
    (h : ∀ h' t', Fr h₀ L h' m → News h₀ L h' ((e, excO t') :: (t', { cls := .type "tuple", data := .seq #[v] }) :: rest) → (∀ q ∈ (e, excO t) :: rest, q.1 < t') → Q .none { s with heap := h' }) :
    wpAny (model prog w) A (call (.builtin "Exception.__init__") [.ref e, v]) Q E s := by
  have X := X₀.keeps F.keep
  have hC := e52 X
  have he := (N _ (.head _)).1
  have hb : (Value.ref 52 :: [Value.ref 39, .type "Exception", .type "BaseException", .type "object"]).contains (.type "Exception") = true := by decide
  have FB := PySem.F.excBase_Exception
  have N₁ := N.push F { cls := .type "tuple", data := .seq #[v] }
  have F₁ := F.push { cls := .type "tuple", data := .seq #[v] }
  have lt : ∀ q ∈ (e, excO t) :: rest, q.1 < s.heap.objs.size := fun q hq => Heap.lt_size (N q hq).1
  obtain ⟨hp, g, dr, tk, os⟩ := s
  refine wpAny_call (codeAny_call_builtin FB.init.plain FB.initEntry ?_)
  have hshort := FB.noStar
  simp only [checkBuiltinCall, FB.initKind, FB.initSplit, FB.initRow]
  repeat (first | (with_reducible refine wpAny_loadPart_at he ?_; try dsimp only) | with_reducible refine wpAny_loadPart_at hC ?_ | (with_reducible refine wpAny_isSubtype_exc hC ?_; rw [hb]) | wp_step)
  have up := news_upd (pre := [(hp.objs.size, { cls := .type "tuple", data := .seq #[v] })]) (post := rest) (f := Obj.mapFields fun x => x.setIfInBounds 0 (.ref hp.objs.size)) (o' := excO hp.objs.size) F₁ N₁
    (fun p hq => by rw [List.mem_singleton.mp hq]; exact Nat.ne_of_gt (lt _ (.head _))) hap rfl rfl
  exact h _ _ up.1 (fun q hq => up.2 q (by
    simp only [List.mem_cons, List.cons_append, List.nil_append] at hq ⊢
    rcases hq with hq | hq | hq <;> simp [hq])) lt
end
theorem metaExc : typeOf (.type "Exception") = pure (.type "type") := by rfl
section
noncomputable abbrev excM (h1 h2 : Int) (k1 k2 : Tok) (v1 v2 : Value) : Obj := dictOf [⟨h1, .str (Str.ofString "message") k1, v1⟩, ⟨h2, .str (Str.ofString "place") k2, v2⟩] 2
theorem c_make {w : World} {dp un : Nat} {gd : Option (List Code)} {cn : Str} {cs : Scope} {a : Addr} {ccd : Value} {cl : List (Str × Addr)} {outer : List Env} {A₀ : Around} {base h₀ : Heap} {L : Addr} {m : Str → Option Value} {s : Shared} {mean : ExcName → Option Value} {mg mb : Str → Option Value} {Q E : Value → Shared → Prop} {news : List (Addr × Obj)} {v1 v2 : Value}
  (B : Below A₀ base outer h₀) (F : Fr h₀ L s.heap m) (X : (Mine.hd.heap_1 w.params).In h₀) (N : News h₀ L s.heap (news)) (TT : Top Mine.hd.view_1 lz mean mg mb h₀) (hk : cs.kind = .function) (hd : dp + 4 < recursionLimit) (hu : un + 8 * 4 < cLine)
  (hret : ∀ h' tk' e t dx h1 h2 k1 k2, Fr h₀ L h' m → News h₀ L h' ((dx, excM h1 h2 k1 k2 v1 v2) :: (e, excD t dx) :: news) → (∀ p ∈ news, p.1 ≠ e) → e < dx → Q (.ref e) { s with heap := h', toks := tk' }) :
  wpAny (model PySem.Challenge.rw_sy0021_01.row.prog w) (ktrTop dp un gd cn cs L a ccd cl outer) (call (.ref 52) [v1, v2]) Q E s := by
  have hfill : (Mine.hd.heap_1 = Mine.hd.heap_1 ∧ PySem.Challenge.rw_sy0021_01 = PySem.Challenge.rw_sy0021_01) := by k_fill; exact ⟨rfl, rfl⟩
  clear hfill
  obtain ⟨hp, g, dr, tk, os⟩ := s
  refine make52 (X.keeps F.keep) ?_
  intro h₁ e hm
  obtain ⟨t, he, htn, ht⟩ := hm.there
  have F₁ : Fr h₀ L h₁ m := F.keeps hm.keeps
  have fresh : ∀ b o, hp.get? b = none → h₁.get? b = some o → b ≠ L ∧ h₀.get? b = none := by
    intro b o hb _
    obtain ⟨oL, _, _, hL, _⟩ := F.ns
    refine ⟨fun z => (by rw [z, hL] at hb; cases hb), ?_⟩
    cases hq : h₀.get? b with
    | none => rfl
    | some o' => rw [F.keep _ _ hq] at hb; cases hb
  have N₁ : News h₀ L h₁ ((e, excO t) :: news) := by
    intro q hq
    rcases List.mem_cons.mp hq with rfl | hq
    · exact ⟨he, fresh _ _ hm.new he⟩
    · exact ⟨hm.keeps _ _ (N q hq).1, (N q hq).2⟩
  have ape : ∀ p ∈ news, p.1 ≠ e := by
    intro p hp z
    have := (N p hp).1
    rw [z] at this
    have h2 := hm.new
    rw [this] at h2
    cases h2
  clear F N fresh
  refine wpAny_call ?_
  k_with_none
  k_with "M enter" => (refine' code_def ?k1 ?k2 ?k3 ?k4 ?k5 ?kA ?kF ?kK ?k6 ?k7 ?k8 ?k9 ?kB ?_ ?c2 ?c3 ?c4 ?c5; (case kA => exact rfl); (case kF => exact rfl); (case kK => assumption); (case k1 => k_asm); (case k2 => k_asm); (case k3 => k_asm); (case k4 => k_asm); (case k5 => k_asm); (case k6 => k_is); (case k7 => k_is); (case k8 => first | exact rm0 (by assumption) | ktr_room); (case k9 => first | exact BindsTo.of_eq rfl | exact binds_K (by k_in) rfl (by k_is) rfl rfl rfl); (case c5 => decide); (case kB => exact locs rfl); (case c2 => exact rfl); (case c3 => exact rfl); (case c4 => exact rfl); k_whole; intro g' L' h' FG' F' N' B' X' T'; (try dsimp only); (try k_lift B'); (try k_fold))
  k_dflt (walk_at "M enter")
  k_with_none
  k_with "M in" => (first | with_reducible assumption | exact Frag.In.keeps (by with_reducible assumption) (Fr.keep (by with_reducible assumption)))
  k_with "M all" => (first | assumption | exact apart_of (by first | assumption | exact And.right (by assumption) | exact And.right (And.right (by assumption)) | exact And.right (And.right (And.right (by assumption))) | exact And.right (And.right (And.right (And.right (by assumption))))))
  k_with "getMethod" => (k_here; refine' method_type (T := "Exception") ?F ?X metaExc (by decide +kernel) ?e ?h ?_; (case F => k_asm); (case X => k_asm); (case e => k_dflt k_is); (case h => k_handed))
  k_with "call builtin:Exception.__init__" => (k_here; refine' init52 ?F ?X ?N ?a ?_; (case F => k_asm); (case X => k_asm); (case N => k_asm); (case a => k_all); intro h' t' F' N' l1; (try k_lt l1); (try k_sweep))
  k_with "setAttr ref" => (k_here; refine' set52a ?F ?X ?N ?a ?n ?_; (case F => k_asm); (case X => k_asm); (case N => k_asm); (case a => k_all); (case n => k_dflt k_is); intro h' dx' hsh' k' k2' F' N' l1; (try k_lt l1); (try k_sweep))
  k_with "setAttr ref" => (k_here; refine' set52b ?F ?X ?N ?a ?n ?k ?z ?_; (case F => k_asm); (case X => k_asm); (case N => k_asm); (case a => k_all); (case n => k_dflt k_is); (case k => (intro x hx; rw [List.mem_singleton.mp hx]; rfl)); (case z => simp); intro h' hsh' k' k2' F' N'; (try dsimp only); (try k_sweep))
  k_steps
  rename News h₀ L _ _ => NN
  rename (_ < _ ∧ _ < _ ∧ _) => ll
  exact hret _ _ _ _ _ _ _ _ _ (by assumption) (news_dr1 NN) ape ll.1
end
end

-- 54raise
section
noncomputable def RaiseQ (P : Params) (E : Value → Shared → Prop) (v : Value) (s₁ : Shared) : Prop :=
  ∃ e t dx, v = .ref e ∧ (Mine.hd.heap_1 P).In s₁.heap ∧ s₁.heap.get? e = some (excD t dx) ∧ E (.ref e) s₁
section
variable {w : World} {A : Around} {E : Value → Shared → Prop} {s : Shared} {env : Env} {Q : Flow → Shared → Prop}
theorem raise52 {prog : Program} {exc : Expr} {pos : Pos} (hh : A.handled = none) (h : wpAny (model prog w) A (eval exc env) (RaiseQ w.params E) E s) :
    wpAny (model prog w) A (exec (.Raise (some exc) none pos) env) Q E s := by
  have hb : (Value.ref 52 :: [Value.ref 39, .type "Exception", .type "BaseException", .type "object"]).contains (.type "BaseException") = true := by decide
  rw [arm_exec_Raise]
  refine wpAny_bind (wpAny_standAt ?_)
  show wpAny _ _ (raiseStmt env (some (do let v ← eval exc env; standAt pos; pure v)) none) _ _ _
  unfold raiseStmt
  refine wpAny_bind (wpAny_bind (wpAny_mono h (fun v s₁ h₁ => ?_) fun _ _ x => x))
  obtain ⟨e, t, dx, rfl, X, he, hE⟩ := h₁
  have hC := e52 X
  refine wpAny_bind (wpAny_standAt (wpAny_pure ?_))
  obtain ⟨hp, g, d, tk, os⟩ := s₁
  repeat (first | with_reducible refine wpAny_loadPart_at he ?_ | with_reducible refine wpAny_loadPart_at hC ?_ | (with_reducible refine wpAny_isSubtype_exc hC ?_; rw [hb]) | wp_step)
  exact wpAny_raiseNew_none hh hE
end
/-- a WordError in flight over these frames; what the caller holds is kept -/
noncomputable def ErrR (base G : Heap) (l : List Env) (e dx : Addr) (news : List (Addr × Obj)) (h : Heap) : Prop :=
  ∃ B a0, base.StaysIn B ∧ (∀ b o, G.get? b = some o → b ∉ l.filterMap (·.frame) → B.get? b = some o) ∧ (∀ q ∈ news, B.get? q.1 = some q.2 ∧ G.get? q.1 = none ∧ base.get? q.1 = none) ∧ Heap.FlyingW B l e (.ref 52) a0 h ∧ DictIs e dx h
theorem ErrR.sub {base G : Heap} {l : List Env} {e dx : Addr} {news news' : List (Addr × Obj)} {h : Heap} (R : ErrR base G l e dx news h) (hs : ∀ q ∈ news', q ∈ news) : ErrR base G l e dx news' h := by
  obtain ⟨B, a0, h1, hg, h2, h3, h4⟩ := R
  exact ⟨B, a0, h1, hg, fun q hq => h2 q (hs q hq), h3, h4⟩
section
variable {M : Model} {A : Around} {E : Value → Shared → Prop} {s' : Shared} {base g g₂ h : Heap} {outer : List Env} {L a e dx : Addr} {m : Str → Option Value} {name : Str} {scope : Scope} {cd : Value} {Q : Unit → Shared → Prop} {news : List (Addr × Obj)}
theorem leave52 {t : Addr} (K : Below A base outer g) (F : Fr g L s'.heap m) (N : News g L s'.heap ((e, excD t dx) :: news)) (hap : ∀ p ∈ news, p.1 ≠ e)
    (hQ : ∀ h', ErrR base g outer e dx news h' → g.UpToSlots h' → Q () { s' with heap := h' }) (hk : scope.kind = .function := by rfl) :
    wpAny M (A.deeper (envOf name scope L a cd)) (leaving (envOf name scope L a cd) (.ref e)) Q E s' := by
  have K' := K.push (name := name) (a := a) (cd := cd) F hk
  have fr : ∀ env ∈ (envOf name scope L a cd :: outer), ∀ b, env.frame = some b → b ∈ e :: (envOf name scope L a cd :: outer).filterMap (·.frame) := fun env he b hb => .tail _ (List.mem_filterMap.mpr ⟨env, he, hb⟩)
  have eE := N _ (.head _)
  have ebase : base.get? e = none := fresh_of_stays K.stays eE.2.2
  have st : base.StaysIn (hideAll s'.heap (e :: (envOf name scope L a cd :: outer).filterMap (·.frame))) := fun b o q => hideAll_get _ (K'.stays b o q) fun hm => by
    rcases List.mem_cons.mp hm with rfl | hm
    · rw [ebase] at q; cases q
    · rw [(K'.frames.mem hm).1] at q; cases q
  have hl : ∀ q ∈ news, (hideAll s'.heap (e :: (envOf name scope L a cd :: outer).filterMap (·.frame))).get? q.1 = some q.2 ∧ g.get? q.1 = none ∧ base.get? q.1 = none := fun q hq => by
    have Nq := N q (.tail _ hq)
    refine ⟨hideAll_get _ Nq.1 fun hm => ?_, Nq.2.2, fresh_of_stays K.stays Nq.2.2⟩
    rcases List.mem_cons.mp hm with z | hm
    · exact hap q hq z
    · obtain ⟨env, he, hf⟩ := List.mem_filterMap.mp hm
      rcases List.mem_cons.mp he with rfl | he
      · exact Nq.2.1 (Option.some.inj hf).symm
      · obtain ⟨o, ho, _⟩ := (K.frames.mem (List.mem_filterMap.mpr ⟨env, he, hf⟩)).2
        rw [Nq.2.2] at ho; cases ho
  have hen : (hideAll s'.heap (e :: (envOf name scope L a cd :: outer).filterMap (·.frame))).get? e = none := hideAll_none _ (.head _)
  have sg : ∀ b o, g.get? b = some o → b ∉ outer.filterMap (·.frame) → (hideAll s'.heap (e :: (envOf name scope L a cd :: outer).filterMap (·.frame))).get? b = some o := fun b o q nm => hideAll_get _ (F.keep b o q) fun hm => by
    rcases List.mem_cons.mp hm with rfl | hm
    · rw [eE.2.2] at q; cases q
    · rcases kts_mem hm with z | z
      · rw [z, kts_self F] at q; cases q
      · exact nm z
  have d0 : DictIs e dx s'.heap := ⟨_, eE.1, rfl⟩
  refine wpAny_mono (calm_any (calm_leaving _ _) d0 (wpAny_leaving_firstW (Q := fun _ s₂ => ∃ h', s₂ = { s' with heap := h' } ∧ Heap.LeftW (hideAll s'.heap (e :: (envOf name scope L a cd :: outer).filterMap (·.frame))) (envOf name scope L a cd :: outer) e (.ref 52) (.ref t) s'.heap h')
    K'.stack (funFrames_hide K'.frames fr) rfl eE.1 (fun b o q => of_hideAll _ q) hen rfl rfl rfl fun h' hL => ⟨h', rfl, hL⟩)) (fun _ s₂ x => ?_) fun _ _ x => x.1
  obtain ⟨⟨h', rfl, k1, ⟨_, _, k2⟩, k3, k4⟩, d1⟩ := x
  exact hQ h' ⟨_, _, st, sg, hl, ⟨k1, hen, k2, k3⟩, d1⟩ ((Heap.UpToSlots.of_keeps F.keep).trans k4)
theorem leaveOn52 (K : Below A base outer g) (F : Fr g L g₂ m) (R : ErrR base g₂ (envOf name scope L a cd :: outer) e dx news s'.heap) (hsm : g₂.UpToSlots s'.heap)
    (hQ : ∀ h', ErrR base g outer e dx news h' → g.UpToSlots h' → Q () { s' with heap := h' }) :
    wpAny M (A.deeper (envOf name scope L a cd)) (leaving (envOf name scope L a cd) (.ref e)) Q E s' := by
  obtain ⟨B, a0, hB, hBG, hl, hfl, d0⟩ := R
  refine wpAny_mono (calm_any (calm_leaving _ _) d0 (wpAny_leaves_onW (Q := fun _ s₂ => ∃ h', s₂ = { s' with heap := h' } ∧ Heap.FlyingW B outer e (.ref 52) a0 h' ∧ s'.heap.UpToSlots h') (Around.frames_deeper K.stack) rfl hfl fun h' x1 x2 => ⟨h', rfl, x1, x2⟩)) (fun _ s₂ x => ?_) fun _ _ x => x.1
  obtain ⟨⟨h', rfl, x1, x2⟩, d1⟩ := x
  exact hQ h' ⟨B, a0, hB, fun b o q nm => hBG b o (F.keep b o q) (fun hm => by
    rcases kts_mem hm with z | z
    · rw [z, kts_self F] at q; cases q
    · exact nm z), fun q hq => ⟨(hl q hq).1, kts_none F.keep (hl q hq).2.1, (hl q hq).2.2⟩, x1, d1⟩ ((Heap.UpToSlots.of_keeps F.keep).trans (hsm.trans x2))
end
noncomputable def ErrAt (base G : Heap) (l : List Env) (e : Addr) (T : List Nat) (i : Nat) (rest : List (Addr × Obj)) (h : Heap) : Prop :=
  ∃ dx p u3 u4 h1 h2 k1 k2 msg, ErrR base G l e dx ((dx, excM h1 h2 k1 k2 msg (.ref p)) :: (p, plc T i u3 u4) :: rest) h
theorem ErrAt.sub {base G : Heap} {l : List Env} {e : Addr} {T : List Nat} {i : Nat} {rest rest' : List (Addr × Obj)} {h : Heap} (R : ErrAt base G l e T i rest h) (hs : ∀ q ∈ rest', q ∈ rest) : ErrAt base G l e T i rest' h := by
  obtain ⟨dx, p, u3, u4, h1, h2, k1, k2, msg, R⟩ := R
  refine ⟨dx, p, u3, u4, h1, h2, k1, k2, msg, R.sub ?_⟩
  intro q hq
  rcases List.mem_cons.mp hq with rfl | hq
  · exact .head _
  · rcases List.mem_cons.mp hq with rfl | hq
    · exact .tail _ (.head _)
    · exact .tail _ (.tail _ (hs q hq))
theorem errAt_of {base G : Heap} {l : List Env} {e dx p : Addr} {T : List Nat} {i : Nat} {u3 u4 : Tok} {h1 h2 : Int} {k1 k2 : Tok} {msg : Value} {news rest : List (Addr × Obj)} {h : Heap} (R : ErrR base G l e dx ((dx, excM h1 h2 k1 k2 msg (.ref p)) :: news) h) (hp : (p, plc T i u3 u4) ∈ news) (hs : ∀ q ∈ rest, q ∈ news) : ErrAt base G l e T i rest h := by
  refine ⟨dx, p, u3, u4, h1, h2, k1, k2, msg, R.sub ?_⟩
  intro q hq
  rcases List.mem_cons.mp hq with rfl | hq
  · exact .head _
  · rcases List.mem_cons.mp hq with rfl | hq
    · exact .tail _ hp
    · exact .tail _ (hs q hq)
theorem news_swap {h₀ h : Heap} {L : Addr} {p q : Addr × Obj} {l : List (Addr × Obj)} (N : News h₀ L h (p :: q :: l)) : News h₀ L h (q :: p :: l) := fun z hz => N z (by simp only [List.mem_cons] at hz ⊢; rcases hz with h | h | h <;> simp [h])
theorem leaveOnAt {M : Model} {A : Around} {E : Value → Shared → Prop} {s' : Shared} {base g g₂ : Heap} {outer : List Env} {L a e : Addr} {m : Str → Option Value} {name : Str} {scope : Scope} {cd : Value} {Q : Unit → Shared → Prop} {T : List Nat} {i : Nat} {rest : List (Addr × Obj)}
    (K : Below A base outer g) (F : Fr g L g₂ m) (R : ErrAt base g₂ (envOf name scope L a cd :: outer) e T i rest s'.heap) (hsm : g₂.UpToSlots s'.heap)
    (hQ : ∀ h', ErrAt base g outer e T i rest h' → g.UpToSlots h' → Q () { s' with heap := h' }) :
    wpAny M (A.deeper (envOf name scope L a cd)) (leaving (envOf name scope L a cd) (.ref e)) Q E s' := by
  obtain ⟨dx, p, u3, u4, h1, h2, k1, k2, msg, R⟩ := R
  exact leaveOn52 K F R hsm fun h' R' U => hQ h' ⟨dx, p, u3, u4, h1, h2, k1, k2, msg, R'⟩ U
theorem leaveNew {M : Model} {A : Around} {E : Value → Shared → Prop} {s' : Shared} {base g : Heap} {outer : List Env} {L a e : Addr} {m : Str → Option Value} {name : Str} {scope : Scope} {cd : Value} {Q : Unit → Shared → Prop} {rest : List (Addr × Obj)}
    {t dx : Addr} {h1 h2 : Int} {k1 k2 : Tok} {v1 v2 : Value} (K : Below A base outer g) (F : Fr g L s'.heap m) (N : News g L s'.heap ((dx, excM h1 h2 k1 k2 v1 v2) :: (e, excD t dx) :: rest)) (ap : ∀ p ∈ rest, p.1 ≠ e) (l1 : e < dx)
    (hQ : ∀ h', ErrR base g outer e dx ((dx, excM h1 h2 k1 k2 v1 v2) :: rest) h' → g.UpToSlots h' → Q () { s' with heap := h' }) (hk : scope.kind = .function := by rfl) :
    wpAny M (A.deeper (envOf name scope L a cd)) (leaving (envOf name scope L a cd) (.ref e)) Q E s' :=
  leave52 K F (news_swap N) (List.forall_mem_cons.mpr ⟨Nat.ne_of_gt l1, ap⟩) hQ hk
end

-- 55number
section
theorem c_read_dec {w : World} {dp un : Nat} {gd : Option (List Code)} {cn : Str} {cs : Scope} {a : Addr} {ccd : Value} {cl : List (Str × Addr)} {outer : List Env} {A₀ : Around} {base h₀ : Heap} {L : Addr} {m : Str → Option Value} {s : Shared} {mean : ExcName → Option Value} {mg mb : Str → Option Value} {Q E : Value → Shared → Prop} {rest : List (Addr × Obj)} {x d : Addr} {k : SgK} {T : List Nat} {t1 t2 t3 t4 : Tok} {i : Nat}
  (B : Below A₀ base outer h₀) (F : Fr h₀ L s.heap m) (X : (Mine.hd.heap_1 w.params).In h₀) (N : News h₀ L s.heap ((d, SGo k T i t1 t2 t3 t4) :: (x, instObj 147 d) :: rest)) (TT : Top Mine.hd.view_1 lz mean mg mb h₀) (hk : cs.kind = .function) (hd : dp + 5 < recursionLimit) (hu : un + 8 * 5 < cLine)
  (hxd : x ≠ d) (hap : ∀ p ∈ rest, p.1 ≠ d) (hT : T.length ≤ 9000) (hi : i ≤ T.length) (h0 : T[i]? ≠ some 48) (h3 : (cut T i (takeEnd T DIG i)).length ≤ 20)
  (hret : floatB T (takeEnd T DIG i) = false → ∀ h' tk' t t2 t3 t4, Fr h₀ L h' m → News h₀ L h' ((d, SGo k T (takeEnd T DIG i) t1 t2 t3 t4) :: (x, instObj 147 d) :: rest) → Q (.int (numN 10 (cut T i (takeEnd T DIG i)) : Nat) t) { s with heap := h', toks := tk' })
  (hraise : floatB T (takeEnd T DIG i) = true → ∀ e g₂ h' tk', Fr h₀ L g₂ m → g₂.UpToSlots h' → ErrAt base g₂ (envX cn cs L a ccd cl :: outer) e T i rest h' → E (.ref e) { s with heap := h', toks := tk' }) :
  wpAny (model PySem.Challenge.rw_sy0021_01.row.prog w) (ktrTop dp un gd cn cs L a ccd cl outer) (call (.ref 228) [.ref x]) Q E s := by
  unfold DIG at *
  have hte := takeEnd_le (l := (Str.ofString "0123456789").cps.toList) hi
  have hfill : (Mine.hd.heap_1 = Mine.hd.heap_1 ∧ PySem.Challenge.rw_sy0021_01 = PySem.Challenge.rw_sy0021_01) := by k_fill; exact ⟨rfl, rfl⟩
  clear hfill
  refine wpAny_call ?_
  k_with_none
  k_with "M enter" => (refine' code_def ?k1 ?k2 ?k3 ?k4 ?k5 ?kA ?kF ?kK ?k6 ?k7 ?k8 ?k9 ?kB ?_ ?c2 ?c3 ?c4 ?c5; (case kA => exact rfl); (case kF => exact rfl); (case kK => assumption); (case k1 => k_asm); (case k2 => k_asm); (case k3 => k_asm); (case k4 => k_asm); (case k5 => k_asm); (case k6 => k_is); (case k7 => k_is); (case k8 => first | exact rm0 (by assumption) | ktr_room); (case k9 => first | exact BindsTo.of_eq rfl | exact binds_K (by k_in) rfl (by k_is) rfl rfl rfl); (case c5 => decide); (case kB => exact locs rfl); (case c2 => exact rfl); (case c3 => exact rfl); (case c4 => exact rfl); k_whole; intro g' L' h' FG' F' N' B' X' T'; (try dsimp only); (try k_lift B'); (try k_fold))
  k_dflt (walk_at "M enter")
  k_with_none
  k_with "M use" => ((case u1x => k_asm); (case u2x => k_asm); (case u3x => k_asm); (case u5x => k_asm); (case uKx => first | assumption | exact rfl); (case udx => first | exact rmA (by assumption) (by decide) | ktr_room); (case uux => first | exact umA (by assumption) (by decide) | ktr_units))
  k_with "M in" => (first | with_reducible assumption | exact Frag.In.keeps (by with_reducible assumption) (Fr.keep (by with_reducible assumption)))
  k_with "call ref" => (k_here; k_extra "M call")
  k_with "call ref" => (k_here; with_reducible first | refine call_app0 ?_ | refine call_app1 ?_ | refine call_app2 ?_)
  k_with "M kN" => (first | assumption | exact news_tl1 (by assumption) | exact news_tl2 (by assumption) | exact news_tl3 (by assumption) | exact news_tl4 (by assumption) | exact news_dr1 (by assumption) | exact news_dr2 (by assumption) | exact news_dr3 (by assumption))
  k_with "eval Call" => (k_here; k_dflt (refine Call_ ?_))
  k_with "M all" => (first | assumption | exact apart_of (by first | assumption | exact And.right (by assumption) | exact And.right (And.right (by assumption)) | exact And.right (And.right (And.right (by assumption))) | exact And.right (And.right (And.right (And.right (by assumption))))))
  k_with "M led" => (first | k_asm | exact news_rot1 (by k_asm) | exact news_rot2 (by k_asm) | exact news_rot3 (by k_asm) | exact news_rot4 (by k_asm))
  k_with "M ap" => (first | k_asm | k_all)
  k_with "M ne" => (first | k_asm | k_ne)
  k_with "M call" => ((with_reducible show wpAny _ _ (call (Value.ref 144) _) _ _ _); k_dflt (refine' c_place ?u1x ?u2x ?u3x ?u4x ?u5x ?uKx ?udx ?uux ?_; walk_at "M use"; (case u4x => walk_at "M led")); k_whole; intro h' tk' p' u3' u4' F' N' l1; (try dsimp only); (try k_lt l1); (try k_sweep))
  k_with "M call" => ((with_reducible show wpAny _ _ (call (Value.ref 137) _) _ _ _); k_dflt (refine' c_take ?u1x ?u2x ?u3x ?u4x ?u5x ?uKx ?udx ?uux ?z1 ?z2 ?z3 ?z4 ?_; walk_at "M use"; (case u4x => walk_at "M led"); (case z1 => walk_at "M ne"); (case z2 => walk_at "M ap"); (case z3 => omega); (case z4 => omega)); k_whole; intro h' tk' t' t2' t3' t4' F' N'; (try dsimp only); (try k_sweep))
  k_with "M call" => ((with_reducible show wpAny _ _ (call (Value.ref 207) _) _ _ _); k_dflt (refine' c_number_of ?u1x ?u2x ?u3x ?u4x ?u5x ?uKx ?udx ?uux ?z1 ?z2 ?z3 ?_; walk_at "M use"; (case u4x => k_asm); (case z1 => walk_at "M numlen"); (case z2 => decide); (case z3 => walk_at "M numhex")); k_whole; intro h' tk' t' F' N'; (try dsimp only); (try k_sweep))
  k_with "M call" => ((with_reducible show wpAny _ _ (call (Value.ref 221) _) _ _ _); k_dflt (refine' c_is_float ?u1x ?u2x ?u3x ?u4x ?u5x ?uKx ?udx ?uux ?z3 ?z4 ?_; walk_at "M use"; (case u4x => walk_at "M led"); (case z3 => omega); (case z4 => omega)); k_whole; intro h' tk' F' N'; (try dsimp only); (try k_sweep))
  k_with "M numlen" => (first | assumption | omega)
  k_with "M numhex" => (first | assumption | exact cut_all | (rw [← hexl_eq]; exact cut_all) | exact fun c hc => dig_hex c (cut_all c hc))
  k_with "M call" => ((with_reducible show wpAny _ _ (call (Value.ref 214) _) _ _ _); k_dflt (refine' c_based_none ?u1x ?u2x ?u3x ?u4x ?u5x ?uKx ?udx ?uux ?z3 ?z4 ?z5 ?_; walk_at "M use"; (case u4x => walk_at "M led"); (case z3 => omega); (case z4 => omega); (case z5 => assumption)); k_whole; intro h' tk' F' N'; (try dsimp only); (try k_sweep))
  k_with "M call" => ((with_reducible show wpAny _ _ (call (Value.ref 214) _) _ _ _); k_dflt (refine' c_based_hex ?u1x ?u2x ?u3x ?u4x ?u5x ?uKx ?udx ?uux ?z1 ?z2 ?z3 ?z4 ?z5 ?z6 ?z7 ?z8 ?_; walk_at "M use"; (case u4x => walk_at "M led"); (case z1 => walk_at "M ne"); (case z2 => walk_at "M ap"); (case z3 => omega); (case z4 => omega); (case z5 => assumption); (case z6 => assumption); (case z7 => assumption); (case z8 => assumption)); k_whole; intro h' tk' t' t2' t3' t4' F' N'; (try dsimp only); (try k_sweep))
  k_with "M call" => ((with_reducible show wpAny _ _ (call (Value.ref 52) _) _ _ _); k_dflt (refine' c_make ?u1x ?u2x ?u3x ?u4x ?u5x ?uKx ?udx ?uux ?_; walk_at "M use"; (case u4x => k_asm)); k_whole; intro h' tk' e' t' dx' h1' h2' k1' k2' F' N' ap' l1; (try dsimp only); (try k_sweep))
  k_with "M mem" => (repeat (first | exact List.mem_cons_self | assumption | refine List.mem_cons_of_mem _ ?_))
  k_with "M sub" => (intro q hq; repeat (first | assumption | refine List.mem_cons_of_mem _ ?_))
  k_with "exec Raise some none" => (k_here; k_dflt (refine raise52 (by rfl) ?_))
  k_with "RaiseQ" => (k_here; (rename News _ _ _ _ => nX'); refine ⟨_, _, _, rfl, by k_in, (nX' _ (.tail _ (.head _))).1, ?_⟩)
  k_with "leaving ref" => (k_here; k_dflt (refine' leaveNew ?K ?F ?N ?ap ?l ?_; (case N => assumption); (case F => k_asm); (case K => k_asm); (case ap => assumption); (case l => assumption)); intro h' R' U'; (try dsimp only))
  k_with "leaving ref" => (k_here; k_dflt (refine' leaveOnAt ?K ?F ?R ?U ?_; (case K => k_asm); (case R => assumption); (case U => assumption); (case F => assumption)); intro h' R' U'; (try dsimp only))
  k_steps
  · exact hraise (by assumption) _ _ _ _ (by assumption) (by assumption) (errAt_of (by assumption) (by walk_at "M mem") (by walk_at "M sub"))
  · exact hret (by assumption) _ _ _ _ _ _ (by assumption) (by walk_at "M kN")
theorem c_read_hex {w : World} {dp un : Nat} {gd : Option (List Code)} {cn : Str} {cs : Scope} {a : Addr} {ccd : Value} {cl : List (Str × Addr)} {outer : List Env} {A₀ : Around} {base h₀ : Heap} {L : Addr} {m : Str → Option Value} {s : Shared} {mean : ExcName → Option Value} {mg mb : Str → Option Value} {Q E : Value → Shared → Prop} {rest : List (Addr × Obj)} {x d : Addr} {k : SgK} {T : List Nat} {t1 t2 t3 t4 : Tok} {i : Nat}
  (B : Below A₀ base outer h₀) (F : Fr h₀ L s.heap m) (X : (Mine.hd.heap_1 w.params).In h₀) (N : News h₀ L s.heap ((d, SGo k T i t1 t2 t3 t4) :: (x, instObj 147 d) :: rest)) (TT : Top Mine.hd.view_1 lz mean mg mb h₀) (hk : cs.kind = .function) (hd : dp + 5 < recursionLimit) (hu : un + 8 * 5 < cLine)
  (hxd : x ≠ d) (hap : ∀ p ∈ rest, p.1 ≠ d) (hT : T.length ≤ 9000) (hi : i ≤ T.length) (h0 : T[i]? = some 48) (h1 : T[i + 1]? = some 120) (h2 : amg T[i + 2]? HEX = true) (h3 : (cut T (i + 2) (takeEnd T HEX (i + 2))).length ≤ 20)
  (hret : ∀ h' tk' t t2 t3 t4, Fr h₀ L h' m → News h₀ L h' ((d, SGo k T (takeEnd T HEX (i + 2)) t1 t2 t3 t4) :: (x, instObj 147 d) :: rest) → Q (.int (numN 16 (cut T (i + 2) (takeEnd T HEX (i + 2))) : Nat) t) { s with heap := h', toks := tk' }) :
  wpAny (model PySem.Challenge.rw_sy0021_01.row.prog w) (ktrTop dp un gd cn cs L a ccd cl outer) (call (.ref 228) [.ref x]) Q E s := by
  have hlt := lt_of_amg h2
  have hte := takeEnd_le (l := HEX) (show i + 2 ≤ T.length by omega)
  have hfill : (Mine.hd.heap_1 = Mine.hd.heap_1 ∧ PySem.Challenge.rw_sy0021_01 = PySem.Challenge.rw_sy0021_01) := by k_fill; exact ⟨rfl, rfl⟩
  clear hfill
  refine wpAny_call ?_
  k_with_none
  k_with "M enter" => (refine' code_def ?k1 ?k2 ?k3 ?k4 ?k5 ?kA ?kF ?kK ?k6 ?k7 ?k8 ?k9 ?kB ?_ ?c2 ?c3 ?c4 ?c5; (case kA => exact rfl); (case kF => exact rfl); (case kK => assumption); (case k1 => k_asm); (case k2 => k_asm); (case k3 => k_asm); (case k4 => k_asm); (case k5 => k_asm); (case k6 => k_is); (case k7 => k_is); (case k8 => first | exact rm0 (by assumption) | ktr_room); (case k9 => first | exact BindsTo.of_eq rfl | exact binds_K (by k_in) rfl (by k_is) rfl rfl rfl); (case c5 => decide); (case kB => exact locs rfl); (case c2 => exact rfl); (case c3 => exact rfl); (case c4 => exact rfl); k_whole; intro g' L' h' FG' F' N' B' X' T'; (try dsimp only); (try k_lift B'); (try k_fold))
  k_dflt (walk_at "M enter")
  k_with_none
  k_with "M use" => ((case u1x => k_asm); (case u2x => k_asm); (case u3x => k_asm); (case u5x => k_asm); (case uKx => first | assumption | exact rfl); (case udx => first | exact rmA (by assumption) (by decide) | ktr_room); (case uux => first | exact umA (by assumption) (by decide) | ktr_units))
  k_with "M in" => (first | with_reducible assumption | exact Frag.In.keeps (by with_reducible assumption) (Fr.keep (by with_reducible assumption)))
  k_with "call ref" => (k_here; k_extra "M call")
  k_with "call ref" => (k_here; with_reducible first | refine call_app0 ?_ | refine call_app1 ?_ | refine call_app2 ?_)
  k_with "M kN" => (first | assumption | exact news_tl1 (by assumption) | exact news_tl2 (by assumption) | exact news_tl3 (by assumption) | exact news_tl4 (by assumption) | exact news_dr1 (by assumption) | exact news_dr2 (by assumption) | exact news_dr3 (by assumption))
  k_with "eval Call" => (k_here; k_dflt (refine Call_ ?_))
  k_with "M all" => (first | assumption | exact apart_of (by first | assumption | exact And.right (by assumption) | exact And.right (And.right (by assumption)) | exact And.right (And.right (And.right (by assumption))) | exact And.right (And.right (And.right (And.right (by assumption))))))
  k_with "M led" => (first | k_asm | exact news_rot1 (by k_asm) | exact news_rot2 (by k_asm) | exact news_rot3 (by k_asm) | exact news_rot4 (by k_asm))
  k_with "M ap" => (first | k_asm | k_all)
  k_with "M ne" => (first | k_asm | k_ne)
  k_with "M call" => ((with_reducible show wpAny _ _ (call (Value.ref 144) _) _ _ _); k_dflt (refine' c_place ?u1x ?u2x ?u3x ?u4x ?u5x ?uKx ?udx ?uux ?_; walk_at "M use"; (case u4x => walk_at "M led")); k_whole; intro h' tk' p' u3' u4' F' N' l1; (try dsimp only); (try k_lt l1); (try k_sweep))
  k_with "M call" => ((with_reducible show wpAny _ _ (call (Value.ref 137) _) _ _ _); k_dflt (refine' c_take ?u1x ?u2x ?u3x ?u4x ?u5x ?uKx ?udx ?uux ?z1 ?z2 ?z3 ?z4 ?_; walk_at "M use"; (case u4x => walk_at "M led"); (case z1 => walk_at "M ne"); (case z2 => walk_at "M ap"); (case z3 => omega); (case z4 => omega)); k_whole; intro h' tk' t' t2' t3' t4' F' N'; (try dsimp only); (try k_sweep))
  k_with "M call" => ((with_reducible show wpAny _ _ (call (Value.ref 207) _) _ _ _); k_dflt (refine' c_number_of ?u1x ?u2x ?u3x ?u4x ?u5x ?uKx ?udx ?uux ?z1 ?z2 ?z3 ?_; walk_at "M use"; (case u4x => k_asm); (case z1 => walk_at "M numlen"); (case z2 => decide); (case z3 => walk_at "M numhex")); k_whole; intro h' tk' t' F' N'; (try dsimp only); (try k_sweep))
  k_with "M call" => ((with_reducible show wpAny _ _ (call (Value.ref 221) _) _ _ _); k_dflt (refine' c_is_float ?u1x ?u2x ?u3x ?u4x ?u5x ?uKx ?udx ?uux ?z3 ?z4 ?_; walk_at "M use"; (case u4x => walk_at "M led"); (case z3 => omega); (case z4 => omega)); k_whole; intro h' tk' F' N'; (try dsimp only); (try k_sweep))
  k_with "M numlen" => (first | assumption | omega)
  k_with "M numhex" => (first | assumption | exact cut_all | (rw [← hexl_eq]; exact cut_all) | exact fun c hc => dig_hex c (cut_all c hc))
  k_with "M call" => ((with_reducible show wpAny _ _ (call (Value.ref 214) _) _ _ _); k_dflt (refine' c_based_none ?u1x ?u2x ?u3x ?u4x ?u5x ?uKx ?udx ?uux ?z3 ?z4 ?z5 ?_; walk_at "M use"; (case u4x => walk_at "M led"); (case z3 => omega); (case z4 => omega); (case z5 => assumption)); k_whole; intro h' tk' F' N'; (try dsimp only); (try k_sweep))
  k_with "M call" => ((with_reducible show wpAny _ _ (call (Value.ref 214) _) _ _ _); k_dflt (refine' c_based_hex ?u1x ?u2x ?u3x ?u4x ?u5x ?uKx ?udx ?uux ?z1 ?z2 ?z3 ?z4 ?z5 ?z6 ?z7 ?z8 ?_; walk_at "M use"; (case u4x => walk_at "M led"); (case z1 => walk_at "M ne"); (case z2 => walk_at "M ap"); (case z3 => omega); (case z4 => omega); (case z5 => assumption); (case z6 => assumption); (case z7 => assumption); (case z8 => assumption)); k_whole; intro h' tk' t' t2' t3' t4' F' N'; (try dsimp only); (try k_sweep))
  k_with "M call" => ((with_reducible show wpAny _ _ (call (Value.ref 52) _) _ _ _); k_dflt (refine' c_make ?u1x ?u2x ?u3x ?u4x ?u5x ?uKx ?udx ?uux ?_; walk_at "M use"; (case u4x => k_asm)); k_whole; intro h' tk' e' t' dx' h1' h2' k1' k2' F' N' ap' l1; (try dsimp only); (try k_sweep))
  k_with "exec Raise some none" => (k_here; k_dflt (refine raise52 (by rfl) ?_))
  k_with "RaiseQ" => (k_here; (rename News _ _ _ _ => nX'); refine ⟨_, _, _, rfl, by k_in, (nX' _ (.tail _ (.head _))).1, ?_⟩)
  k_with "leaving ref" => (k_here; k_dflt (refine' leaveNew ?K ?F ?N ?ap ?l ?_; (case N => assumption); (case F => k_asm); (case K => k_asm); (case ap => assumption); (case l => assumption)); intro h' R' U'; (try dsimp only))
  k_with "leaving ref" => (k_here; k_dflt (refine' leaveOnAt ?K ?F ?R ?U ?_; (case K => k_asm); (case R => assumption); (case U => assumption); (case F => assumption)); intro h' R' U'; (try dsimp only))
  k_steps
  exact hret _ _ _ _ _ _ (by assumption) (by walk_at "M kN")
end

-- 56del
section
theorem own_apart {rest own : List (Addr × Obj)} {d : Addr} {o : Obj} {l : List (Addr × Obj)} (hap : ∀ p ∈ rest, p.1 ≠ d) (h : OwnOff own (List.map (fun x => x.1) ((d, o) :: l))) : ∀ p ∈ rest ++ own, p.1 ≠ d := by
  intro p hp
  rcases List.mem_append.mp hp with hp | hp
  · exact hap p hp
  · exact h p hp d List.mem_cons_self
theorem rk3 : (rangeKs 0 3).length = 3 := rfl
end
section
theorem c_startsF {w : World} {dp un : Nat} {gd : Option (List Code)} {cn : Str} {cs : Scope} {a : Addr} {ccd : Value} {cl : List (Str × Addr)} {outer : List Env} {A₀ : Around} {base h₀ : Heap} {L : Addr} {m : Str → Option Value} {s : Shared} {mean : ExcName → Option Value} {mg mb : Str → Option Value} {Q E : Value → Shared → Prop} {rest : List (Addr × Obj)} {x d : Addr} {k : SgK} {T : List Nat} {t1 t2 t3 t4 tk : Tok} {i : Nat} {y : Str}
  (B : Below A₀ base outer h₀) (F : Fr h₀ L s.heap m) (X : (Mine.hd.heap_1 w.params).In h₀) (N : News h₀ L s.heap ((d, SGo k T i t1 t2 t3 t4) :: (x, instObj 147 d) :: rest)) (TT : Top Mine.hd.view_1 lz mean mg mb h₀) (hk : cs.kind = .function) (hd : dp + 1 < recursionLimit) (hu : un + 8 * 1 < cLine)
  (hT : T.length ≤ 10000) (hi : i ≤ T.length) (hy : y.length ≤ 100) (hn : startsB T i y = false)
  (hret : ∀ h' tk', Fr h₀ L h' m → News h₀ L h' ((d, SGo k T i t1 t2 t3 t4) :: (x, instObj 147 d) :: rest) → Q (.bool false) { s with heap := h', toks := tk' }) :
  wpAny (model PySem.Challenge.rw_sy0021_01.row.prog w) (ktrTop dp un gd cn cs L a ccd cl outer) (call (.ref 123) [.ref x, .str y tk]) Q E s := by
  refine c_starts B F X N TT hk hd hu hT hi hy ?_
  rw [hn]
  exact hret
section
theorem c_named_del {w : World} {dp un : Nat} {gd : Option (List Code)} {cn : Str} {cs : Scope} {a : Addr} {ccd : Value} {cl : List (Str × Addr)} {outer : List Env} {A₀ : Around} {base h₀ : Heap} {L : Addr} {m : Str → Option Value} {s : Shared} {mean : ExcName → Option Value} {mg mb : Str → Option Value} {Q E : Value → Shared → Prop} {rest : List (Addr × Obj)} {x d : Addr} {k : SgK} {T : List Nat} {t1 t2 t3 t4 : Tok} {i : Nat}
  (B : Below A₀ base outer h₀) (F : Fr h₀ L s.heap m) (X : (Mine.hd.heap_1 w.params).In h₀) (N : News h₀ L s.heap ((d, SGo k T i t1 t2 t3 t4) :: (x, instObj 147 d) :: rest)) (TT : Top Mine.hd.view_1 lz mean mg mb h₀) (hk : cs.kind = .function) (hd : dp + 4 < recursionLimit) (hu : un + 8 * 4 < cLine)
  (hxd : x ≠ d) (hap : ∀ p ∈ rest, p.1 ≠ d) (hT : T.length ≤ 9000) (hi : i + 3 ≤ T.length) (hdel : startsB T i (Str.ofString "DEL") = true)
  (hret : ∀ h' tk' t t2 t3 t4, Fr h₀ L h' m → News h₀ L h' ((d, SGo k T (i + 3) t1 t2 t3 t4) :: (x, instObj 147 d) :: rest) → Q (.str ⟨#[127]⟩ t) { s with heap := h', toks := tk' }) :
  wpAny (model PySem.Challenge.rw_sy0021_01.row.prog w) (ktrTop dp un gd cn cs L a ccd cl outer) (call (.ref 242) [.ref x]) Q E s := by
  have hfill : (Mine.hd.heap_1 = Mine.hd.heap_1 ∧ PySem.Challenge.rw_sy0021_01 = PySem.Challenge.rw_sy0021_01) := by k_fill; exact ⟨rfl, rfl⟩
  clear hfill
  refine wpAny_call ?_
  k_with_none
  k_with "M enter" => (refine' code_def ?k1 ?k2 ?k3 ?k4 ?k5 ?kA ?kF ?kK ?k6 ?k7 ?k8 ?k9 ?kB ?_ ?c2 ?c3 ?c4 ?c5; (case kA => exact rfl); (case kF => exact rfl); (case kK => assumption); (case k1 => k_asm); (case k2 => k_asm); (case k3 => k_asm); (case k4 => k_asm); (case k5 => k_asm); (case k6 => k_is); (case k7 => k_is); (case k8 => first | exact rm0 (by assumption) | ktr_room); (case k9 => first | exact BindsTo.of_eq rfl | exact binds_K (by k_in) rfl (by k_is) rfl rfl rfl); (case c5 => decide); (case kB => exact locs rfl); (case c2 => exact rfl); (case c3 => exact rfl); (case c4 => exact rfl); k_whole; intro g' L' h' FG' F' N' B' X' T'; (try dsimp only); (try k_lift B'); (try k_fold))
  k_dflt (walk_at "M enter")
  k_with_none
  k_with "M use" => ((case u1x => k_asm); (case u2x => k_asm); (case u3x => k_asm); (case u5x => k_asm); (case uKx => first | assumption | exact rfl); (case udx => first | exact rmA (by assumption) (by decide) | ktr_room); (case uux => first | exact umA (by assumption) (by decide) | ktr_units))
  k_with "M in" => (first | with_reducible assumption | exact Frag.In.keeps (by with_reducible assumption) (Fr.keep (by with_reducible assumption)))
  k_with "call ref" => (k_here; k_extra "M call")
  k_with "call ref" => (k_here; with_reducible first | refine call_app0 ?_ | refine call_app1 ?_ | refine call_app2 ?_)
  k_with "eval Call" => (k_here; k_dflt (refine Call_ ?_))
  k_with "M all" => (first | assumption | exact apart_of (by first | assumption | exact And.right (by assumption) | exact And.right (And.right (by assumption)) | exact And.right (And.right (And.right (by assumption))) | exact And.right (And.right (And.right (And.right (by assumption))))))
  k_with "M led" => (first | k_asm | exact news_rot1 (by k_asm) | exact news_rot2 (by k_asm) | exact news_rot3 (by k_asm) | exact news_rot4 (by k_asm))
  k_with "M ap" => (first | k_asm | k_all)
  k_with "M ne" => (first | k_asm | k_ne)
  k_with "M call" => ((with_reducible show wpAny _ _ (call (Value.ref 130) _) _ _ _); k_dflt (refine' c_step ?u1x ?u2x ?u3x ?u4x ?u5x ?uKx ?udx ?uux ?z1 ?z2 ?z3 ?z4 ?_; walk_at "M use"; (case u4x => walk_at "M led"); (case z1 => walk_at "M ne"); (case z2 => walk_at "M ap"); (case z3 => omega); (case z4 => omega)); k_whole; intro h' tk' t' t2' t3' t4' F' N'; (try dsimp only); (try k_sweep))
  k_with "M call" => ((with_reducible show wpAny _ _ (call (Value.ref 123) _) _ _ _); k_dflt (refine' c_starts ?u1x ?u2x ?u3x ?u4x ?u5x ?uKx ?udx ?uux ?z1 ?z2 ?z3 ?_; walk_at "M use"; (case u4x => walk_at "M led"); (case z1 => omega); (case z2 => omega); (case z3 => first | decide | decide +kernel | omega)); k_whole; intro h' tk' F' N'; (try dsimp only); (try k_sweep))
  k_with "pyIter ref" => (k_here; k_extra "M rng")
  k_with "M call" => ((with_reducible show wpAny _ _ (call (Value.ref 123) _) _ _ _); k_dflt (refine' c_startsF ?u1x ?u2x ?u3x ?u4x ?u5x ?uKx ?udx ?uux ?z1 ?z2 ?z3 ?z4 ?_; walk_at "M use"; (case u4x => walk_at "M led"); (case z1 => omega); (case z2 => omega); (case z3 => with_unfolding_all exact nl_len (by omega)); (case z4 => with_unfolding_all exact nl_no (by omega) (by assumption))); k_whole; intro h' tk' F' N'; (try dsimp only); (try k_sweep))
  k_with "M rng" => (
    rename Fr _ _ _ _ => lF'
    rename News _ _ _ _ => lN'
    rename (IsRange _ _ _ _ _ _ _ _) => lR'
    (first
     | ((with_unfolding_all refine' kst_range (σ := Unit) (n := 33) (fun _ => (d, SGo k T i t1 t2 t3 t4) :: (x, instObj 147 d) :: rest) (fun _ => []) (fun _ => True) [] (fun _ _ => True) () ?kh lR' ?ks ?kz lF' (news_tl1 lN') trivial ?kk ?kp ?kt ?kd); (case kh => with_unfolding_all exact rfl); (case ks => with_unfolding_all exact rfl); (case kz => with_unfolding_all exact rfl); (case kk => kst_all); (case kp => exact trivial); (all_goals (clear lF' lN' lR')); (case' kt => (intro c pre kz tk u h tk own hz hlen hoff hf hP kFr kNews)); (case' kd => (intro c u h tk hf hP kFr kNews)); (case' kt => ((try dsimp only [kstB] at kFr); (try dsimp only at kNews); (try dsimp only); (try simp only [List.cons_append] at kNews); (try k_fold))); (case' kd => ((try dsimp only [kstB] at kFr); (try dsimp only at kNews); (try dsimp only); (try k_fold))))
     | ((with_unfolding_all refine' kst_range (σ := Nat × Tok × Tok × Tok) (n := 3) (fun c => (d, SGo k T c.1 t1 c.2.1 c.2.2.1 c.2.2.2) :: (x, instObj 147 d) :: rest) (fun _ => []) (fun _ => True) [] (fun pre c => c.1 = i + pre.length) (i, t2, t3, t4) ?jh lR' ?js ?jz lF' (news_tl1 lN') trivial ?jk ?jp ?jt ?jd); (case jh => with_unfolding_all exact rfl); (case js => with_unfolding_all exact rfl); (case jz => with_unfolding_all exact rfl); (case jk => kst_all); (case jp => with_unfolding_all exact rfl); (all_goals (clear lF' lN' lR')); (case' jt => (intro c pre kz tk u h tk own hz hlen hoff hf hP kFr kNews)); (case' jd => (intro c u h tk hf hP kFr kNews)); (case' jt => (obtain ⟨j, u2, u3, u4⟩ := c; (try dsimp only [kstB] at kFr); (try dsimp only at kNews); (try dsimp only at hP); (try dsimp only); (try simp only [List.cons_append] at kNews); subst hP; have hapo := own_apart hap hoff; (try k_fold))); (case' jd => (obtain ⟨j, u2, u3, u4⟩ := c; (try dsimp only [kstB] at kFr); (try dsimp only at kNews); (try dsimp only at hP); (try dsimp only); rw [rk3] at hP; subst hP; (try k_fold))))
     | (exfalso; omega)))
  k_steps
  exact hret _ _ _ _ _ _ (by assumption) (by assumption)
end
end

-- 57esc
section
theorem c_signS {w : World} {dp un : Nat} {gd : Option (List Code)} {cn : Str} {cs : Scope} {a : Addr} {ccd : Value} {cl : List (Str × Addr)} {outer : List Env} {A₀ : Around} {base h₀ : Heap} {L : Addr} {m : Str → Option Value} {s : Shared} {mean : ExcName → Option Value} {mg mb : Str → Option Value} {Q E : Value → Shared → Prop} {rest : List (Addr × Obj)} {x d : Addr} {k : SgK} {T : List Nat} {t1 t2 t3 t4 : Tok} {i : Nat} {v : Str}
  (B : Below A₀ base outer h₀) (F : Fr h₀ L s.heap m) (X : (Mine.hd.heap_1 w.params).In h₀) (N : News h₀ L s.heap ((d, SGo k T i t1 t2 t3 t4) :: (x, instObj 147 d) :: rest)) (TT : Top Mine.hd.view_1 lz mean mg mb h₀) (hk : cs.kind = .function) (hd : dp + 1 < recursionLimit) (hu : un + 8 * 1 < cLine)
  (hT : T.length ≤ 10000) (hi : i ≤ 20000) (hv : sgo T[i]? = v)
  (hret : ∀ h' tk' t, Fr h₀ L h' m → News h₀ L h' ((d, SGo k T i t1 t2 t3 t4) :: (x, instObj 147 d) :: rest) → Q (.str v t) { s with heap := h', toks := tk' }) :
  wpAny (model PySem.Challenge.rw_sy0021_01.row.prog w) (ktrTop dp un gd cn cs L a ccd cl outer) (call (.ref 116) [.ref x]) Q E s := by
  refine c_sign0 B F X N TT hk hd hu hT hi ?_
  rw [hv]
  exact hret
theorem c_is_amongF {w : World} {dp un : Nat} {gd : Option (List Code)} {cn : Str} {cs : Scope} {a : Addr} {ccd : Value} {cl : List (Str × Addr)} {outer : List Env} {A₀ : Around} {base h₀ : Heap} {L : Addr} {m : Str → Option Value} {s : Shared} {mean : ExcName → Option Value} {mg mb : Str → Option Value} {Q E : Value → Shared → Prop} {news : List (Addr × Obj)} {o : Option Nat} {v y : Str} {tx ty : Tok}
  (B : Below A₀ base outer h₀) (F : Fr h₀ L s.heap m) (X : (Mine.hd.heap_1 w.params).In h₀) (N : News h₀ L s.heap (news)) (TT : Top Mine.hd.view_1 lz mean mg mb h₀) (hk : cs.kind = .function) (hd : dp + 1 < recursionLimit) (hu : un + 8 * 1 < cLine)
  (hv : sgo o = v) (hf : amg o y.cps.toList = false)
  (hret : ∀ h' tk', Fr h₀ L h' m → News h₀ L h' news → Q (.bool false) { s with heap := h', toks := tk' }) :
  wpAny (model PySem.Challenge.rw_sy0021_01.row.prog w) (ktrTop dp un gd cn cs L a ccd cl outer) (call (.ref 158) [.str v tx, .str y ty]) Q E s := by
  subst hv
  refine c_is_among B F X N TT hk hd hu ?_
  rw [hf]
  exact hret
end
section
section
theorem c_esc_t {w : World} {dp un : Nat} {gd : Option (List Code)} {cn : Str} {cs : Scope} {a : Addr} {ccd : Value} {cl : List (Str × Addr)} {outer : List Env} {A₀ : Around} {base h₀ : Heap} {L : Addr} {m : Str → Option Value} {s : Shared} {mean : ExcName → Option Value} {mg mb : Str → Option Value} {Q E : Value → Shared → Prop} {rest : List (Addr × Obj)} {x d : Addr} {k : SgK} {T : List Nat} {t1 t2 t3 t4 : Tok} {i : Nat}
  (B : Below A₀ base outer h₀) (F : Fr h₀ L s.heap m) (X : (Mine.hd.heap_1 w.params).In h₀) (N : News h₀ L s.heap ((d, SGo k T i t1 t2 t3 t4) :: (x, instObj 147 d) :: rest)) (TT : Top Mine.hd.view_1 lz mean mg mb h₀) (hk : cs.kind = .function) (hd : dp + 5 < recursionLimit) (hu : un + 8 * 5 < cLine)
  (hxd : x ≠ d) (hap : ∀ p ∈ rest, p.1 ≠ d) (hT : T.length ≤ 9000) (hi : i + 1 ≤ T.length) (he : T[i]? = some 116)
  (hret : ∀ h' tk' t t2 t3 t4, Fr h₀ L h' m → News h₀ L h' ((d, SGo k T (i + 1) t1 t2 t3 t4) :: (x, instObj 147 d) :: rest) → Q (.str ⟨#[9]⟩ t) { s with heap := h', toks := tk' }) :
  wpAny (model PySem.Challenge.rw_sy0021_01.row.prog w) (ktrTop dp un gd cn cs L a ccd cl outer) (call (.ref 249) [.ref x]) Q E s := by
  have hs : sgo T[i]? = Str.ofString "t" := by rw [he]; decide +kernel
  have hfill : (Mine.hd.heap_1 = Mine.hd.heap_1 ∧ PySem.Challenge.rw_sy0021_01 = PySem.Challenge.rw_sy0021_01) := by k_fill; exact ⟨rfl, rfl⟩
  clear hfill
  refine wpAny_call ?_
  k_with_none
  k_with "M enter" => (refine' code_def ?k1 ?k2 ?k3 ?k4 ?k5 ?kA ?kF ?kK ?k6 ?k7 ?k8 ?k9 ?kB ?_ ?c2 ?c3 ?c4 ?c5; (case kA => exact rfl); (case kF => exact rfl); (case kK => assumption); (case k1 => k_asm); (case k2 => k_asm); (case k3 => k_asm); (case k4 => k_asm); (case k5 => k_asm); (case k6 => k_is); (case k7 => k_is); (case k8 => first | exact rm0 (by assumption) | ktr_room); (case k9 => first | exact BindsTo.of_eq rfl | exact binds_K (by k_in) rfl (by k_is) rfl rfl rfl); (case c5 => decide); (case kB => exact locs rfl); (case c2 => exact rfl); (case c3 => exact rfl); (case c4 => exact rfl); k_whole; intro g' L' h' FG' F' N' B' X' T'; (try dsimp only); (try k_lift B'); (try k_fold))
  k_dflt (walk_at "M enter")
  k_with_none
  k_with "M om" => (first | with_reducible assumption | exact Nat.le_succ_of_le (by with_reducible assumption) | exact Nat.le_of_lt (by with_reducible assumption) | exact Nat.le_of_succ_le (by with_reducible assumption) | exact Nat.le_trans (by with_reducible assumption) (by decide) | exact Nat.le_trans (Nat.le_of_succ_le (by with_reducible assumption)) (Nat.le_trans (by with_reducible assumption) (by decide)))
  k_with "M use" => ((case u1x => k_asm); (case u2x => k_asm); (case u3x => k_asm); (case u5x => k_asm); (case uKx => first | assumption | exact rfl); (case udx => first | exact rmA (by assumption) (by decide) | ktr_room); (case uux => first | exact umA (by assumption) (by decide) | ktr_units))
  k_with "M in" => (first | with_reducible assumption | exact Frag.In.keeps (by with_reducible assumption) (Fr.keep (by with_reducible assumption)))
  k_with "call ref" => (k_here; k_extra "M call")
  k_with "call ref" => (k_here; with_reducible first | refine call_app0 ?_ | refine call_app1 ?_ | refine call_app2 ?_)
  k_with "M kN" => (first | assumption | exact news_tl1 (by assumption) | exact news_tl2 (by assumption) | exact news_tl3 (by assumption) | exact news_tl4 (by assumption) | exact news_dr1 (by assumption) | exact news_dr2 (by assumption) | exact news_dr3 (by assumption))
  k_with "eval Call" => (k_here; k_dflt (refine Call_ ?_))
  k_with "M all" => (first | assumption | exact apart_of (by first | assumption | exact And.right (by assumption) | exact And.right (And.right (by assumption)) | exact And.right (And.right (And.right (by assumption))) | exact And.right (And.right (And.right (And.right (by assumption))))))
  k_with "M call" => ((with_reducible show wpAny _ _ (call (Value.ref 158) _) _ _ _); k_dflt (refine' c_is_among ?u1x ?u2x ?u3x ?u4x ?u5x ?uKx ?udx ?uux ?_; walk_at "M use"; (case u4x => k_asm)); k_whole; intro h' tk' F' N'; (try dsimp only); (try k_sweep))
  k_with "M led" => (first | k_asm | exact news_rot1 (by k_asm) | exact news_rot2 (by k_asm) | exact news_rot3 (by k_asm) | exact news_rot4 (by k_asm))
  k_with "M call" => ((with_reducible show wpAny _ _ (call (Value.ref 116) [_]) _ _ _); k_dflt (refine' c_signG0 ?u1x ?u2x ?u3x ?u4x ?u5x ?uKx ?udx ?uux ?z2 ?z3 ?z4 ?_; walk_at "M use"; (case u4x => walk_at "M led"); (case z2 => omega); (case z3 => omega); (case z4 => omega)); k_whole; intro h' tk' t' F' N'; (try dsimp only); (try k_sweep))
  k_with "M call" => ((with_reducible show wpAny _ _ (call (Value.ref 116) [_, _]) _ _ _); k_dflt (refine' c_sign ?u1x ?u2x ?u3x ?u4x ?u5x ?uKx ?udx ?uux ?z1 ?z2 ?z3 ?z4 ?_; walk_at "M use"; (case u4x => walk_at "M led"); (case z1 => first | exact cast1 | exact cast2 | rfl | omega); (case z2 => omega); (case z3 => omega); (case z4 => omega)); k_whole; intro h' tk' t' F' N'; (try dsimp only); (try k_sweep))
  k_with "M call" => ((with_reducible show wpAny _ _ (call (Value.ref 116) [_]) _ _ _); k_dflt (refine' c_sign0 ?u1x ?u2x ?u3x ?u4x ?u5x ?uKx ?udx ?uux ?z2 ?z3 ?_; walk_at "M use"; (case u4x => walk_at "M led"); (case z2 => omega); (case z3 => omega)); k_whole; intro h' tk' t' F' N'; (try dsimp only); (try k_sweep))
  k_with "M ap" => (first | k_asm | k_all)
  k_with "M ne" => (first | k_asm | k_ne)
  k_with "M call" => ((with_reducible show wpAny _ _ (call (Value.ref 130) _) _ _ _); k_dflt (refine' c_step ?u1x ?u2x ?u3x ?u4x ?u5x ?uKx ?udx ?uux ?z1 ?z2 ?z3 ?z4 ?_; walk_at "M use"; (case u4x => walk_at "M led"); (case z1 => walk_at "M ne"); (case z2 => walk_at "M ap"); (case z3 => omega); (case z4 => omega)); k_whole; intro h' tk' t' t2' t3' t4' F' N'; (try dsimp only); (try k_sweep))
  k_with "M call" => ((with_reducible show wpAny _ _ (call (Value.ref 144) _) _ _ _); k_dflt (refine' c_place ?u1x ?u2x ?u3x ?u4x ?u5x ?uKx ?udx ?uux ?_; walk_at "M use"; (case u4x => walk_at "M led")); k_whole; intro h' tk' p' u3' u4' F' N' l1; (try dsimp only); (try k_lt l1); (try k_sweep))
  k_with "M call" => ((with_reducible show wpAny _ _ (call (Value.ref 137) _) _ _ _); k_dflt (refine' c_take ?u1x ?u2x ?u3x ?u4x ?u5x ?uKx ?udx ?uux ?z1 ?z2 ?z3 ?z4 ?_; walk_at "M use"; (case u4x => walk_at "M led"); (case z1 => walk_at "M ne"); (case z2 => walk_at "M ap"); (case z3 => omega); (case z4 => omega)); k_whole; intro h' tk' t' t2' t3' t4' F' N'; (try dsimp only); (try k_sweep))
  k_with "M call" => ((with_reducible show wpAny _ _ (call (Value.ref 207) _) _ _ _); k_dflt (refine' c_number_of ?u1x ?u2x ?u3x ?u4x ?u5x ?uKx ?udx ?uux ?z1 ?z2 ?z3 ?_; walk_at "M use"; (case u4x => k_asm); (case z1 => walk_at "M numlen"); (case z2 => decide); (case z3 => walk_at "M numhex")); k_whole; intro h' tk' t' F' N'; (try dsimp only); (try k_sweep))
  k_with "M numlen" => (first | assumption | omega)
  k_with "M numhex" => (first | assumption | exact cut_all | (rw [← hexl_eq]; exact cut_all) | exact fun c hc => dig_hex c (cut_all c hc))
  k_with "M call" => ((with_reducible show wpAny _ _ (call (Value.ref 52) _) _ _ _); k_dflt (refine' c_make ?u1x ?u2x ?u3x ?u4x ?u5x ?uKx ?udx ?uux ?_; walk_at "M use"; (case u4x => k_asm)); k_whole; intro h' tk' e' t' dx' h1' h2' k1' k2' F' N' ap' l1; (try dsimp only); (try k_sweep))
  k_with "M mem" => (repeat (first | exact List.mem_cons_self | assumption | refine List.mem_cons_of_mem _ ?_))
  k_with "M sub" => (intro q hq; repeat (first | assumption | refine List.mem_cons_of_mem _ ?_))
  k_with "pyIter ref" => (k_here; k_extra "M rng")
  k_with "M call" => ((with_reducible show wpAny _ _ (call (Value.ref 242) _) _ _ _); k_dflt (refine' c_named_del ?u1x ?u2x ?u3x ?u4x ?u5x ?uKx ?udx ?uux ?z1 ?z2 ?z3 ?z4 ?z5 ?_; walk_at "M use"; (case u4x => walk_at "M led"); (case z1 => walk_at "M ne"); (case z2 => walk_at "M ap"); (case z3 => omega); (case z4 => omega); (case z5 => assumption)); k_whole; intro h' tk' t' t2' t3' t4' F' N'; (try dsimp only); (try k_sweep))
  k_with "M kN" => (first | assumption | (refine news_sub (by assumption) ?_; (repeat refine List.forall_mem_cons.mpr (And.intro (by walk_at "M mem") ?_)); walk_at "M sub"))
  k_with "pyIter ref" => (k_here; (with_reducible show wpAny _ _ (pyIter (Value.ref _)) (fun it s₂ => TurnsAt _ _ _ _ _ _ _ _ _ it s₂) _ _); (rename Fr _ _ _ _ => lF'); (rename News _ _ _ _ => lN'); (with_unfolding_all refine' iter_tupTurns ?th lF' lN' List.mem_cons_self ?tc ?td ?_; (case th => exact rfl); (case tc => exact rfl); (case td => exact rfl)); clear lF' lN'; intro i' l1)
  k_with "UnrEndW" => (k_here; (rename (∀ p ∈ _, @LT.lt Nat _ (Prod.fst (p : Addr × Obj)) _) => lI'); (with_unfolding_all refine' ⟨_, _, _, _, rfl, ?uF, ?uN, fun p hp q hq => (List.mem_singleton.mp hq).symm ▸ Nat.ne_of_lt (lI' p hp), ?uS, ?_⟩; (case uF => assumption); (case uN => assumption); (case uS => exact And.intro List.mem_cons_self trivial)))
  k_with "M call" => ((with_reducible show wpAny _ _ (call (Value.ref 158) _) _ _ _); k_dflt (refine' c_is_amongF ?u1x ?u2x ?u3x ?u4x ?u5x ?uKx ?udx ?uux ?z1 ?z2 ?_; walk_at "M use"; (case u4x => k_asm); (case z1 => assumption); (case z2 => (rename ((_ : List Nat)[_]? = some _) => he'; rw [he']; decide +kernel))); k_whole; intro h' tk' F' N'; (try dsimp only); (try k_sweep))
  k_with "M call" => ((with_reducible show wpAny _ _ (call (Value.ref 116) [_]) _ _ _); k_dflt (refine' c_signS ?u1x ?u2x ?u3x ?u4x ?u5x ?uKx ?udx ?uux ?z2 ?z3 ?z4 ?_; walk_at "M use"; (case u4x => walk_at "M led"); (case z2 => omega); (case z3 => omega); (case z4 => assumption)); k_whole; intro h' tk' t' F' N'; (try dsimp only); (try k_sweep))
  k_steps
  exact hret _ _ _ _ _ _ (by assumption) (by walk_at "M kN")
theorem c_esc_f {w : World} {dp un : Nat} {gd : Option (List Code)} {cn : Str} {cs : Scope} {a : Addr} {ccd : Value} {cl : List (Str × Addr)} {outer : List Env} {A₀ : Around} {base h₀ : Heap} {L : Addr} {m : Str → Option Value} {s : Shared} {mean : ExcName → Option Value} {mg mb : Str → Option Value} {Q E : Value → Shared → Prop} {rest : List (Addr × Obj)} {x d : Addr} {k : SgK} {T : List Nat} {t1 t2 t3 t4 : Tok} {i : Nat}
  (B : Below A₀ base outer h₀) (F : Fr h₀ L s.heap m) (X : (Mine.hd.heap_1 w.params).In h₀) (N : News h₀ L s.heap ((d, SGo k T i t1 t2 t3 t4) :: (x, instObj 147 d) :: rest)) (TT : Top Mine.hd.view_1 lz mean mg mb h₀) (hk : cs.kind = .function) (hd : dp + 5 < recursionLimit) (hu : un + 8 * 5 < cLine)
  (hxd : x ≠ d) (hap : ∀ p ∈ rest, p.1 ≠ d) (hT : T.length ≤ 9000) (hi : i + 1 ≤ T.length) (he : T[i]? = some 102)
  (hret : ∀ h' tk' t t2 t3 t4, Fr h₀ L h' m → News h₀ L h' ((d, SGo k T (i + 1) t1 t2 t3 t4) :: (x, instObj 147 d) :: rest) → Q (.str ⟨#[12]⟩ t) { s with heap := h', toks := tk' }) :
  wpAny (model PySem.Challenge.rw_sy0021_01.row.prog w) (ktrTop dp un gd cn cs L a ccd cl outer) (call (.ref 249) [.ref x]) Q E s := by
  have hs : sgo T[i]? = Str.ofString "f" := by rw [he]; decide +kernel
  have hfill : (Mine.hd.heap_1 = Mine.hd.heap_1 ∧ PySem.Challenge.rw_sy0021_01 = PySem.Challenge.rw_sy0021_01) := by k_fill; exact ⟨rfl, rfl⟩
  clear hfill
  refine wpAny_call ?_
  k_with_none
  k_with "M enter" => (refine' code_def ?k1 ?k2 ?k3 ?k4 ?k5 ?kA ?kF ?kK ?k6 ?k7 ?k8 ?k9 ?kB ?_ ?c2 ?c3 ?c4 ?c5; (case kA => exact rfl); (case kF => exact rfl); (case kK => assumption); (case k1 => k_asm); (case k2 => k_asm); (case k3 => k_asm); (case k4 => k_asm); (case k5 => k_asm); (case k6 => k_is); (case k7 => k_is); (case k8 => first | exact rm0 (by assumption) | ktr_room); (case k9 => first | exact BindsTo.of_eq rfl | exact binds_K (by k_in) rfl (by k_is) rfl rfl rfl); (case c5 => decide); (case kB => exact locs rfl); (case c2 => exact rfl); (case c3 => exact rfl); (case c4 => exact rfl); k_whole; intro g' L' h' FG' F' N' B' X' T'; (try dsimp only); (try k_lift B'); (try k_fold))
  k_dflt (walk_at "M enter")
  k_with_none
  k_with "M om" => (first | with_reducible assumption | exact Nat.le_succ_of_le (by with_reducible assumption) | exact Nat.le_of_lt (by with_reducible assumption) | exact Nat.le_of_succ_le (by with_reducible assumption) | exact Nat.le_trans (by with_reducible assumption) (by decide) | exact Nat.le_trans (Nat.le_of_succ_le (by with_reducible assumption)) (Nat.le_trans (by with_reducible assumption) (by decide)))
  k_with "M use" => ((case u1x => k_asm); (case u2x => k_asm); (case u3x => k_asm); (case u5x => k_asm); (case uKx => first | assumption | exact rfl); (case udx => first | exact rmA (by assumption) (by decide) | ktr_room); (case uux => first | exact umA (by assumption) (by decide) | ktr_units))
  k_with "M in" => (first | with_reducible assumption | exact Frag.In.keeps (by with_reducible assumption) (Fr.keep (by with_reducible assumption)))
  k_with "call ref" => (k_here; k_extra "M call")
  k_with "call ref" => (k_here; with_reducible first | refine call_app0 ?_ | refine call_app1 ?_ | refine call_app2 ?_)
  k_with "M kN" => (first | assumption | exact news_tl1 (by assumption) | exact news_tl2 (by assumption) | exact news_tl3 (by assumption) | exact news_tl4 (by assumption) | exact news_dr1 (by assumption) | exact news_dr2 (by assumption) | exact news_dr3 (by assumption))
  k_with "eval Call" => (k_here; k_dflt (refine Call_ ?_))
  k_with "M all" => (first | assumption | exact apart_of (by first | assumption | exact And.right (by assumption) | exact And.right (And.right (by assumption)) | exact And.right (And.right (And.right (by assumption))) | exact And.right (And.right (And.right (And.right (by assumption))))))
  k_with "M call" => ((with_reducible show wpAny _ _ (call (Value.ref 158) _) _ _ _); k_dflt (refine' c_is_among ?u1x ?u2x ?u3x ?u4x ?u5x ?uKx ?udx ?uux ?_; walk_at "M use"; (case u4x => k_asm)); k_whole; intro h' tk' F' N'; (try dsimp only); (try k_sweep))
  k_with "M led" => (first | k_asm | exact news_rot1 (by k_asm) | exact news_rot2 (by k_asm) | exact news_rot3 (by k_asm) | exact news_rot4 (by k_asm))
  k_with "M call" => ((with_reducible show wpAny _ _ (call (Value.ref 116) [_]) _ _ _); k_dflt (refine' c_signG0 ?u1x ?u2x ?u3x ?u4x ?u5x ?uKx ?udx ?uux ?z2 ?z3 ?z4 ?_; walk_at "M use"; (case u4x => walk_at "M led"); (case z2 => omega); (case z3 => omega); (case z4 => omega)); k_whole; intro h' tk' t' F' N'; (try dsimp only); (try k_sweep))
  k_with "M call" => ((with_reducible show wpAny _ _ (call (Value.ref 116) [_, _]) _ _ _); k_dflt (refine' c_sign ?u1x ?u2x ?u3x ?u4x ?u5x ?uKx ?udx ?uux ?z1 ?z2 ?z3 ?z4 ?_; walk_at "M use"; (case u4x => walk_at "M led"); (case z1 => first | exact cast1 | exact cast2 | rfl | omega); (case z2 => omega); (case z3 => omega); (case z4 => omega)); k_whole; intro h' tk' t' F' N'; (try dsimp only); (try k_sweep))
  k_with "M call" => ((with_reducible show wpAny _ _ (call (Value.ref 116) [_]) _ _ _); k_dflt (refine' c_sign0 ?u1x ?u2x ?u3x ?u4x ?u5x ?uKx ?udx ?uux ?z2 ?z3 ?_; walk_at "M use"; (case u4x => walk_at "M led"); (case z2 => omega); (case z3 => omega)); k_whole; intro h' tk' t' F' N'; (try dsimp only); (try k_sweep))
  k_with "M ap" => (first | k_asm | k_all)
  k_with "M ne" => (first | k_asm | k_ne)
  k_with "M call" => ((with_reducible show wpAny _ _ (call (Value.ref 130) _) _ _ _); k_dflt (refine' c_step ?u1x ?u2x ?u3x ?u4x ?u5x ?uKx ?udx ?uux ?z1 ?z2 ?z3 ?z4 ?_; walk_at "M use"; (case u4x => walk_at "M led"); (case z1 => walk_at "M ne"); (case z2 => walk_at "M ap"); (case z3 => omega); (case z4 => omega)); k_whole; intro h' tk' t' t2' t3' t4' F' N'; (try dsimp only); (try k_sweep))
  k_with "M call" => ((with_reducible show wpAny _ _ (call (Value.ref 144) _) _ _ _); k_dflt (refine' c_place ?u1x ?u2x ?u3x ?u4x ?u5x ?uKx ?udx ?uux ?_; walk_at "M use"; (case u4x => walk_at "M led")); k_whole; intro h' tk' p' u3' u4' F' N' l1; (try dsimp only); (try k_lt l1); (try k_sweep))
  k_with "M call" => ((with_reducible show wpAny _ _ (call (Value.ref 137) _) _ _ _); k_dflt (refine' c_take ?u1x ?u2x ?u3x ?u4x ?u5x ?uKx ?udx ?uux ?z1 ?z2 ?z3 ?z4 ?_; walk_at "M use"; (case u4x => walk_at "M led"); (case z1 => walk_at "M ne"); (case z2 => walk_at "M ap"); (case z3 => omega); (case z4 => omega)); k_whole; intro h' tk' t' t2' t3' t4' F' N'; (try dsimp only); (try k_sweep))
  k_with "M call" => ((with_reducible show wpAny _ _ (call (Value.ref 207) _) _ _ _); k_dflt (refine' c_number_of ?u1x ?u2x ?u3x ?u4x ?u5x ?uKx ?udx ?uux ?z1 ?z2 ?z3 ?_; walk_at "M use"; (case u4x => k_asm); (case z1 => walk_at "M numlen"); (case z2 => decide); (case z3 => walk_at "M numhex")); k_whole; intro h' tk' t' F' N'; (try dsimp only); (try k_sweep))
  k_with "M numlen" => (first | assumption | omega)
  k_with "M numhex" => (first | assumption | exact cut_all | (rw [← hexl_eq]; exact cut_all) | exact fun c hc => dig_hex c (cut_all c hc))
  k_with "M call" => ((with_reducible show wpAny _ _ (call (Value.ref 52) _) _ _ _); k_dflt (refine' c_make ?u1x ?u2x ?u3x ?u4x ?u5x ?uKx ?udx ?uux ?_; walk_at "M use"; (case u4x => k_asm)); k_whole; intro h' tk' e' t' dx' h1' h2' k1' k2' F' N' ap' l1; (try dsimp only); (try k_sweep))
  k_with "M mem" => (repeat (first | exact List.mem_cons_self | assumption | refine List.mem_cons_of_mem _ ?_))
  k_with "M sub" => (intro q hq; repeat (first | assumption | refine List.mem_cons_of_mem _ ?_))
  k_with "pyIter ref" => (k_here; k_extra "M rng")
  k_with "M call" => ((with_reducible show wpAny _ _ (call (Value.ref 242) _) _ _ _); k_dflt (refine' c_named_del ?u1x ?u2x ?u3x ?u4x ?u5x ?uKx ?udx ?uux ?z1 ?z2 ?z3 ?z4 ?z5 ?_; walk_at "M use"; (case u4x => walk_at "M led"); (case z1 => walk_at "M ne"); (case z2 => walk_at "M ap"); (case z3 => omega); (case z4 => omega); (case z5 => assumption)); k_whole; intro h' tk' t' t2' t3' t4' F' N'; (try dsimp only); (try k_sweep))
  k_with "M kN" => (first | assumption | (refine news_sub (by assumption) ?_; (repeat refine List.forall_mem_cons.mpr (And.intro (by walk_at "M mem") ?_)); walk_at "M sub"))
  k_with "pyIter ref" => (k_here; (with_reducible show wpAny _ _ (pyIter (Value.ref _)) (fun it s₂ => TurnsAt _ _ _ _ _ _ _ _ _ it s₂) _ _); (rename Fr _ _ _ _ => lF'); (rename News _ _ _ _ => lN'); (with_unfolding_all refine' iter_tupTurns ?th lF' lN' List.mem_cons_self ?tc ?td ?_; (case th => exact rfl); (case tc => exact rfl); (case td => exact rfl)); clear lF' lN'; intro i' l1)
  k_with "UnrEndW" => (k_here; (rename (∀ p ∈ _, @LT.lt Nat _ (Prod.fst (p : Addr × Obj)) _) => lI'); (with_unfolding_all refine' ⟨_, _, _, _, rfl, ?uF, ?uN, fun p hp q hq => (List.mem_singleton.mp hq).symm ▸ Nat.ne_of_lt (lI' p hp), ?uS, ?_⟩; (case uF => assumption); (case uN => assumption); (case uS => exact And.intro List.mem_cons_self trivial)))
  k_with "M call" => ((with_reducible show wpAny _ _ (call (Value.ref 158) _) _ _ _); k_dflt (refine' c_is_amongF ?u1x ?u2x ?u3x ?u4x ?u5x ?uKx ?udx ?uux ?z1 ?z2 ?_; walk_at "M use"; (case u4x => k_asm); (case z1 => assumption); (case z2 => (rename ((_ : List Nat)[_]? = some _) => he'; rw [he']; decide +kernel))); k_whole; intro h' tk' F' N'; (try dsimp only); (try k_sweep))
  k_with "M call" => ((with_reducible show wpAny _ _ (call (Value.ref 116) [_]) _ _ _); k_dflt (refine' c_signS ?u1x ?u2x ?u3x ?u4x ?u5x ?uKx ?udx ?uux ?z2 ?z3 ?z4 ?_; walk_at "M use"; (case u4x => walk_at "M led"); (case z2 => omega); (case z3 => omega); (case z4 => assumption)); k_whole; intro h' tk' t' F' N'; (try dsimp only); (try k_sweep))
  k_steps
  exact hret _ _ _ _ _ _ (by assumption) (by walk_at "M kN")
theorem c_esc_del {w : World} {dp un : Nat} {gd : Option (List Code)} {cn : Str} {cs : Scope} {a : Addr} {ccd : Value} {cl : List (Str × Addr)} {outer : List Env} {A₀ : Around} {base h₀ : Heap} {L : Addr} {m : Str → Option Value} {s : Shared} {mean : ExcName → Option Value} {mg mb : Str → Option Value} {Q E : Value → Shared → Prop} {rest : List (Addr × Obj)} {x d : Addr} {k : SgK} {T : List Nat} {t1 t2 t3 t4 : Tok} {i : Nat}
  (B : Below A₀ base outer h₀) (F : Fr h₀ L s.heap m) (X : (Mine.hd.heap_1 w.params).In h₀) (N : News h₀ L s.heap ((d, SGo k T i t1 t2 t3 t4) :: (x, instObj 147 d) :: rest)) (TT : Top Mine.hd.view_1 lz mean mg mb h₀) (hk : cs.kind = .function) (hd : dp + 5 < recursionLimit) (hu : un + 8 * 5 < cLine)
  (hxd : x ≠ d) (hap : ∀ p ∈ rest, p.1 ≠ d) (hT : T.length ≤ 9000) (hi : i + 3 ≤ T.length) (hdel : startsB T i (Str.ofString "DEL") = true) (he : T[i]? = some 68)
  (hret : ∀ h' tk' t t2 t3 t4, Fr h₀ L h' m → News h₀ L h' ((d, SGo k T (i + 3) t1 t2 t3 t4) :: (x, instObj 147 d) :: rest) → Q (.str ⟨#[127]⟩ t) { s with heap := h', toks := tk' }) :
  wpAny (model PySem.Challenge.rw_sy0021_01.row.prog w) (ktrTop dp un gd cn cs L a ccd cl outer) (call (.ref 249) [.ref x]) Q E s := by
  have hs : sgo T[i]? = Str.ofString "D" := by rw [he]; decide +kernel
  have hfill : (Mine.hd.heap_1 = Mine.hd.heap_1 ∧ PySem.Challenge.rw_sy0021_01 = PySem.Challenge.rw_sy0021_01) := by k_fill; exact ⟨rfl, rfl⟩
  clear hfill
  refine wpAny_call ?_
  k_with_none
  k_with "M enter" => (refine' code_def ?k1 ?k2 ?k3 ?k4 ?k5 ?kA ?kF ?kK ?k6 ?k7 ?k8 ?k9 ?kB ?_ ?c2 ?c3 ?c4 ?c5; (case kA => exact rfl); (case kF => exact rfl); (case kK => assumption); (case k1 => k_asm); (case k2 => k_asm); (case k3 => k_asm); (case k4 => k_asm); (case k5 => k_asm); (case k6 => k_is); (case k7 => k_is); (case k8 => first | exact rm0 (by assumption) | ktr_room); (case k9 => first | exact BindsTo.of_eq rfl | exact binds_K (by k_in) rfl (by k_is) rfl rfl rfl); (case c5 => decide); (case kB => exact locs rfl); (case c2 => exact rfl); (case c3 => exact rfl); (case c4 => exact rfl); k_whole; intro g' L' h' FG' F' N' B' X' T'; (try dsimp only); (try k_lift B'); (try k_fold))
  k_dflt (walk_at "M enter")
  k_with_none
  k_with "M om" => (first | with_reducible assumption | exact Nat.le_succ_of_le (by with_reducible assumption) | exact Nat.le_of_lt (by with_reducible assumption) | exact Nat.le_of_succ_le (by with_reducible assumption) | exact Nat.le_trans (by with_reducible assumption) (by decide) | exact Nat.le_trans (Nat.le_of_succ_le (by with_reducible assumption)) (Nat.le_trans (by with_reducible assumption) (by decide)))
  k_with "M use" => ((case u1x => k_asm); (case u2x => k_asm); (case u3x => k_asm); (case u5x => k_asm); (case uKx => first | assumption | exact rfl); (case udx => first | exact rmA (by assumption) (by decide) | ktr_room); (case uux => first | exact umA (by assumption) (by decide) | ktr_units))
  k_with "M in" => (first | with_reducible assumption | exact Frag.In.keeps (by with_reducible assumption) (Fr.keep (by with_reducible assumption)))
  k_with "call ref" => (k_here; k_extra "M call")
  k_with "call ref" => (k_here; with_reducible first | refine call_app0 ?_ | refine call_app1 ?_ | refine call_app2 ?_)
  k_with "M kN" => (first | assumption | exact news_tl1 (by assumption) | exact news_tl2 (by assumption) | exact news_tl3 (by assumption) | exact news_tl4 (by assumption) | exact news_dr1 (by assumption) | exact news_dr2 (by assumption) | exact news_dr3 (by assumption))
  k_with "eval Call" => (k_here; k_dflt (refine Call_ ?_))
  k_with "M all" => (first | assumption | exact apart_of (by first | assumption | exact And.right (by assumption) | exact And.right (And.right (by assumption)) | exact And.right (And.right (And.right (by assumption))) | exact And.right (And.right (And.right (And.right (by assumption))))))
  k_with "M call" => ((with_reducible show wpAny _ _ (call (Value.ref 158) _) _ _ _); k_dflt (refine' c_is_among ?u1x ?u2x ?u3x ?u4x ?u5x ?uKx ?udx ?uux ?_; walk_at "M use"; (case u4x => k_asm)); k_whole; intro h' tk' F' N'; (try dsimp only); (try k_sweep))
  k_with "M led" => (first | k_asm | exact news_rot1 (by k_asm) | exact news_rot2 (by k_asm) | exact news_rot3 (by k_asm) | exact news_rot4 (by k_asm))
  k_with "M call" => ((with_reducible show wpAny _ _ (call (Value.ref 116) [_]) _ _ _); k_dflt (refine' c_signG0 ?u1x ?u2x ?u3x ?u4x ?u5x ?uKx ?udx ?uux ?z2 ?z3 ?z4 ?_; walk_at "M use"; (case u4x => walk_at "M led"); (case z2 => omega); (case z3 => omega); (case z4 => omega)); k_whole; intro h' tk' t' F' N'; (try dsimp only); (try k_sweep))
  k_with "M call" => ((with_reducible show wpAny _ _ (call (Value.ref 116) [_, _]) _ _ _); k_dflt (refine' c_sign ?u1x ?u2x ?u3x ?u4x ?u5x ?uKx ?udx ?uux ?z1 ?z2 ?z3 ?z4 ?_; walk_at "M use"; (case u4x => walk_at "M led"); (case z1 => first | exact cast1 | exact cast2 | rfl | omega); (case z2 => omega); (case z3 => omega); (case z4 => omega)); k_whole; intro h' tk' t' F' N'; (try dsimp only); (try k_sweep))
  k_with "M call" => ((with_reducible show wpAny _ _ (call (Value.ref 116) [_]) _ _ _); k_dflt (refine' c_sign0 ?u1x ?u2x ?u3x ?u4x ?u5x ?uKx ?udx ?uux ?z2 ?z3 ?_; walk_at "M use"; (case u4x => walk_at "M led"); (case z2 => omega); (case z3 => omega)); k_whole; intro h' tk' t' F' N'; (try dsimp only); (try k_sweep))
  k_with "M ap" => (first | k_asm | k_all)
  k_with "M ne" => (first | k_asm | k_ne)
  k_with "M call" => ((with_reducible show wpAny _ _ (call (Value.ref 130) _) _ _ _); k_dflt (refine' c_step ?u1x ?u2x ?u3x ?u4x ?u5x ?uKx ?udx ?uux ?z1 ?z2 ?z3 ?z4 ?_; walk_at "M use"; (case u4x => walk_at "M led"); (case z1 => walk_at "M ne"); (case z2 => walk_at "M ap"); (case z3 => omega); (case z4 => omega)); k_whole; intro h' tk' t' t2' t3' t4' F' N'; (try dsimp only); (try k_sweep))
  k_with "M call" => ((with_reducible show wpAny _ _ (call (Value.ref 144) _) _ _ _); k_dflt (refine' c_place ?u1x ?u2x ?u3x ?u4x ?u5x ?uKx ?udx ?uux ?_; walk_at "M use"; (case u4x => walk_at "M led")); k_whole; intro h' tk' p' u3' u4' F' N' l1; (try dsimp only); (try k_lt l1); (try k_sweep))
  k_with "M call" => ((with_reducible show wpAny _ _ (call (Value.ref 137) _) _ _ _); k_dflt (refine' c_take ?u1x ?u2x ?u3x ?u4x ?u5x ?uKx ?udx ?uux ?z1 ?z2 ?z3 ?z4 ?_; walk_at "M use"; (case u4x => walk_at "M led"); (case z1 => walk_at "M ne"); (case z2 => walk_at "M ap"); (case z3 => omega); (case z4 => omega)); k_whole; intro h' tk' t' t2' t3' t4' F' N'; (try dsimp only); (try k_sweep))
  k_with "M call" => ((with_reducible show wpAny _ _ (call (Value.ref 207) _) _ _ _); k_dflt (refine' c_number_of ?u1x ?u2x ?u3x ?u4x ?u5x ?uKx ?udx ?uux ?z1 ?z2 ?z3 ?_; walk_at "M use"; (case u4x => k_asm); (case z1 => walk_at "M numlen"); (case z2 => decide); (case z3 => walk_at "M numhex")); k_whole; intro h' tk' t' F' N'; (try dsimp only); (try k_sweep))
  k_with "M numlen" => (first | assumption | omega)
  k_with "M numhex" => (first | assumption | exact cut_all | (rw [← hexl_eq]; exact cut_all) | exact fun c hc => dig_hex c (cut_all c hc))
  k_with "M call" => ((with_reducible show wpAny _ _ (call (Value.ref 52) _) _ _ _); k_dflt (refine' c_make ?u1x ?u2x ?u3x ?u4x ?u5x ?uKx ?udx ?uux ?_; walk_at "M use"; (case u4x => k_asm)); k_whole; intro h' tk' e' t' dx' h1' h2' k1' k2' F' N' ap' l1; (try dsimp only); (try k_sweep))
  k_with "M mem" => (repeat (first | exact List.mem_cons_self | assumption | refine List.mem_cons_of_mem _ ?_))
  k_with "M sub" => (intro q hq; repeat (first | assumption | refine List.mem_cons_of_mem _ ?_))
  k_with "pyIter ref" => (k_here; k_extra "M rng")
  k_with "M call" => ((with_reducible show wpAny _ _ (call (Value.ref 242) _) _ _ _); k_dflt (refine' c_named_del ?u1x ?u2x ?u3x ?u4x ?u5x ?uKx ?udx ?uux ?z1 ?z2 ?z3 ?z4 ?z5 ?_; walk_at "M use"; (case u4x => walk_at "M led"); (case z1 => walk_at "M ne"); (case z2 => walk_at "M ap"); (case z3 => omega); (case z4 => omega); (case z5 => assumption)); k_whole; intro h' tk' t' t2' t3' t4' F' N'; (try dsimp only); (try k_sweep))
  k_with "M kN" => (first | assumption | (refine news_sub (by assumption) ?_; (repeat refine List.forall_mem_cons.mpr (And.intro (by walk_at "M mem") ?_)); walk_at "M sub"))
  k_with "pyIter ref" => (k_here; (with_reducible show wpAny _ _ (pyIter (Value.ref _)) (fun it s₂ => TurnsAt _ _ _ _ _ _ _ _ _ it s₂) _ _); (rename Fr _ _ _ _ => lF'); (rename News _ _ _ _ => lN'); (with_unfolding_all refine' iter_tupTurns ?th lF' lN' List.mem_cons_self ?tc ?td ?_; (case th => exact rfl); (case tc => exact rfl); (case td => exact rfl)); clear lF' lN'; intro i' l1)
  k_with "UnrEndW" => (k_here; (rename (∀ p ∈ _, @LT.lt Nat _ (Prod.fst (p : Addr × Obj)) _) => lI'); (with_unfolding_all refine' ⟨_, _, _, _, rfl, ?uF, ?uN, fun p hp q hq => (List.mem_singleton.mp hq).symm ▸ Nat.ne_of_lt (lI' p hp), ?uS, ?_⟩; (case uF => assumption); (case uN => assumption); (case uS => exact And.intro List.mem_cons_self trivial)))
  k_with "M call" => ((with_reducible show wpAny _ _ (call (Value.ref 158) _) _ _ _); k_dflt (refine' c_is_amongF ?u1x ?u2x ?u3x ?u4x ?u5x ?uKx ?udx ?uux ?z1 ?z2 ?_; walk_at "M use"; (case u4x => k_asm); (case z1 => assumption); (case z2 => (rename ((_ : List Nat)[_]? = some _) => he'; rw [he']; decide +kernel))); k_whole; intro h' tk' F' N'; (try dsimp only); (try k_sweep))
  k_with "M call" => ((with_reducible show wpAny _ _ (call (Value.ref 116) [_]) _ _ _); k_dflt (refine' c_signS ?u1x ?u2x ?u3x ?u4x ?u5x ?uKx ?udx ?uux ?z2 ?z3 ?z4 ?_; walk_at "M use"; (case u4x => walk_at "M led"); (case z2 => omega); (case z3 => omega); (case z4 => assumption)); k_whole; intro h' tk' t' F' N'; (try dsimp only); (try k_sweep))
  k_steps
  exact hret _ _ _ _ _ _ (by assumption) (by walk_at "M kN")
end
theorem c_esc {w : World} {dp un : Nat} {gd : Option (List Code)} {cn : Str} {cs : Scope} {a : Addr} {ccd : Value} {cl : List (Str × Addr)} {outer : List Env} {A₀ : Around} {base h₀ : Heap} {L : Addr} {m : Str → Option Value} {s : Shared} {mean : ExcName → Option Value} {mg mb : Str → Option Value} {Q E : Value → Shared → Prop} {rest : List (Addr × Obj)} {x d : Addr} {k : SgK} {T : List Nat} {t1 t2 t3 t4 : Tok} {i c q : Nat} {p : Str}
  (B : Below A₀ base outer h₀) (F : Fr h₀ L s.heap m) (X : (Mine.hd.heap_1 w.params).In h₀) (N : News h₀ L s.heap ((d, SGo k T i t1 t2 t3 t4) :: (x, instObj 147 d) :: rest)) (TT : Top Mine.hd.view_1 lz mean mg mb h₀) (hk : cs.kind = .function) (hd : dp + 5 < recursionLimit) (hu : un + 8 * 5 < cLine)
  (hxd : x ≠ d) (hap : ∀ p ∈ rest, p.1 ≠ d) (hT : T.length ≤ 9000) (hi : q ≤ T.length) (he : T[i]? = some c) (hx : EscR T i c p q)
  (hret : ∀ h' tk' t t2 t3 t4, Fr h₀ L h' m → News h₀ L h' ((d, SGo k T q t1 t2 t3 t4) :: (x, instObj 147 d) :: rest) → Q (.str p t) { s with heap := h', toks := tk' }) :
  wpAny (model PySem.Challenge.rw_sy0021_01.row.prog w) (ktrTop dp un gd cn cs L a ccd cl outer) (call (.ref 249) [.ref x]) Q E s := by
  induction hx with
  | t => exact c_esc_t B F X N TT hk hd hu hxd hap hT hi he hret
  | f => exact c_esc_f B F X N TT hk hd hu hxd hap hT hi he hret
  | del h => exact c_esc_del B F X N TT hk hd hu hxd hap hT hi h he hret
end

-- 58char
section
theorem s_q : Str.ofString "'" = ⟨#[39]⟩ := by decide +kernel
theorem c_char_plain {w : World} {dp un : Nat} {gd : Option (List Code)} {cn : Str} {cs : Scope} {a : Addr} {ccd : Value} {cl : List (Str × Addr)} {outer : List Env} {A₀ : Around} {base h₀ : Heap} {L : Addr} {m : Str → Option Value} {s : Shared} {mean : ExcName → Option Value} {mg mb : Str → Option Value} {Q E : Value → Shared → Prop} {rest : List (Addr × Obj)} {x d : Addr} {k : SgK} {T : List Nat} {t1 t2 t3 t4 : Tok} {i c : Nat}
  (B : Below A₀ base outer h₀) (F : Fr h₀ L s.heap m) (X : (Mine.hd.heap_1 w.params).In h₀) (N : News h₀ L s.heap ((d, SGo k T i t1 t2 t3 t4) :: (x, instObj 147 d) :: rest)) (TT : Top Mine.hd.view_1 lz mean mg mb h₀) (hk : cs.kind = .function) (hd : dp + 6 < recursionLimit) (hu : un + 8 * 6 < cLine)
  (hxd : x ≠ d) (hap : ∀ p ∈ rest, p.1 ≠ d) (hT : T.length ≤ 9000) (hi : i + 3 ≤ T.length) (hc : T[i + 1]? = some c) (hb : bareO (some c) = true) (h39 : c ≠ 39) (h92 : c ≠ 92) (hq : T[i + 2]? = some 39)
  (hret : ∀ h' tk' t t2 t3 t4, Fr h₀ L h' m → News h₀ L h' ((d, SGo k T (i + 3) t1 t2 t3 t4) :: (x, instObj 147 d) :: rest) → Q (.str (sgo T[i + 1]?) t) { s with heap := h', toks := tk' }) :
  wpAny (model PySem.Challenge.rw_sy0021_01.row.prog w) (ktrTop dp un gd cn cs L a ccd cl outer) (call (.ref 256) [.ref x]) Q E s := by
  rw [← hc] at hb
  have hfill : (Mine.hd.heap_1 = Mine.hd.heap_1 ∧ PySem.Challenge.rw_sy0021_01 = PySem.Challenge.rw_sy0021_01) := by k_fill; exact ⟨rfl, rfl⟩
  clear hfill
  refine wpAny_call ?_
  k_with_none
  k_with "M enter" => (refine' code_def ?k1 ?k2 ?k3 ?k4 ?k5 ?kA ?kF ?kK ?k6 ?k7 ?k8 ?k9 ?kB ?_ ?c2 ?c3 ?c4 ?c5; (case kA => exact rfl); (case kF => exact rfl); (case kK => assumption); (case k1 => k_asm); (case k2 => k_asm); (case k3 => k_asm); (case k4 => k_asm); (case k5 => k_asm); (case k6 => k_is); (case k7 => k_is); (case k8 => first | exact rm0 (by assumption) | ktr_room); (case k9 => first | exact BindsTo.of_eq rfl | exact binds_K (by k_in) rfl (by k_is) rfl rfl rfl); (case c5 => decide); (case kB => exact locs rfl); (case c2 => exact rfl); (case c3 => exact rfl); (case c4 => exact rfl); k_whole; intro g' L' h' FG' F' N' B' X' T'; (try dsimp only); (try k_lift B'); (try k_fold))
  k_dflt (walk_at "M enter")
  k_with_none
  k_with "M use" => ((case u1x => k_asm); (case u2x => k_asm); (case u3x => k_asm); (case u5x => k_asm); (case uKx => first | assumption | exact rfl); (case udx => first | exact rmA (by assumption) (by decide) | ktr_room); (case uux => first | exact umA (by assumption) (by decide) | ktr_units))
  k_with "M in" => (first | with_reducible assumption | exact Frag.In.keeps (by with_reducible assumption) (Fr.keep (by with_reducible assumption)))
  k_with "call ref" => (k_here; k_extra "M call")
  k_with "call ref" => (k_here; with_reducible first | refine call_app0 ?_ | refine call_app1 ?_ | refine call_app2 ?_)
  k_with "M kN" => (first | assumption | exact news_tl1 (by assumption) | exact news_tl2 (by assumption) | exact news_tl3 (by assumption) | exact news_tl4 (by assumption) | exact news_dr1 (by assumption) | exact news_dr2 (by assumption) | exact news_dr3 (by assumption))
  k_with "eval Call" => (k_here; k_dflt (refine Call_ ?_))
  k_with "M all" => (first | assumption | exact apart_of (by first | assumption | exact And.right (by assumption) | exact And.right (And.right (by assumption)) | exact And.right (And.right (And.right (by assumption))) | exact And.right (And.right (And.right (And.right (by assumption))))))
  k_with "M call" => ((with_reducible show wpAny _ _ (call (Value.ref 172) _) _ _ _); k_dflt (refine' c_is_bare ?u1x ?u2x ?u3x ?u4x ?u5x ?uKx ?udx ?uux ?_; walk_at "M use"; (case u4x => k_asm)); k_whole; intro h' tk' F' N'; (try dsimp only); (try k_sweep))
  k_with "M led" => (first | k_asm | exact news_rot1 (by k_asm) | exact news_rot2 (by k_asm) | exact news_rot3 (by k_asm) | exact news_rot4 (by k_asm))
  k_with "M ap" => (first | k_asm | k_all)
  k_with "M ne" => (first | k_asm | k_ne)
  k_with "M call" => ((with_reducible show wpAny _ _ (call (Value.ref 130) _) _ _ _); k_dflt (refine' c_step ?u1x ?u2x ?u3x ?u4x ?u5x ?uKx ?udx ?uux ?z1 ?z2 ?z3 ?z4 ?_; walk_at "M use"; (case u4x => walk_at "M led"); (case z1 => walk_at "M ne"); (case z2 => walk_at "M ap"); (case z3 => omega); (case z4 => omega)); k_whole; intro h' tk' t' t2' t3' t4' F' N'; (try dsimp only); (try k_sweep))
  k_with "M call" => ((with_reducible show wpAny _ _ (call (Value.ref 144) _) _ _ _); k_dflt (refine' c_place ?u1x ?u2x ?u3x ?u4x ?u5x ?uKx ?udx ?uux ?_; walk_at "M use"; (case u4x => walk_at "M led")); k_whole; intro h' tk' p' u3' u4' F' N' l1; (try dsimp only); (try k_lt l1); (try k_sweep))
  k_with "M call" => ((with_reducible show wpAny _ _ (call (Value.ref 52) _) _ _ _); k_dflt (refine' c_make ?u1x ?u2x ?u3x ?u4x ?u5x ?uKx ?udx ?uux ?_; walk_at "M use"; (case u4x => k_asm)); k_whole; intro h' tk' e' t' dx' h1' h2' k1' k2' F' N' ap' l1; (try dsimp only); (try k_sweep))
  k_with "M mem" => (repeat (first | exact List.mem_cons_self | assumption | refine List.mem_cons_of_mem _ ?_))
  k_with "M sub" => (intro q hq; repeat (first | assumption | refine List.mem_cons_of_mem _ ?_))
  k_with "exec Raise some none" => (k_here; k_dflt (refine raise52 (by rfl) ?_))
  k_with "RaiseQ" => (k_here; (rename News _ _ _ _ => nX'); refine ⟨_, _, _, rfl, by k_in, (nX' _ (.tail _ (.head _))).1, ?_⟩)
  k_with "leaving ref" => (k_here; k_dflt (refine' leaveNew ?K ?F ?N ?ap ?l ?_; (case N => assumption); (case F => k_asm); (case K => k_asm); (case ap => assumption); (case l => assumption)); intro h' R' U'; (try dsimp only))
  k_with "leaving ref" => (k_here; k_dflt (refine' leaveOnAt ?K ?F ?R ?U ?_; (case K => k_asm); (case R => assumption); (case U => assumption); (case F => assumption)); intro h' R' U'; (try dsimp only))
  k_with "M kN" => (first | assumption | (refine news_sub (by assumption) ?_; (repeat refine List.forall_mem_cons.mpr (And.intro (by walk_at "M mem") ?_)); walk_at "M sub"))
  k_with "M call" => ((with_reducible show wpAny _ _ (call (Value.ref 249) _) _ _ _); k_dflt (refine' c_esc_t ?u1x ?u2x ?u3x ?u4x ?u5x ?uKx ?udx ?uux ?z1 ?z2 ?z3 ?z4 ?z5 ?_; walk_at "M use"; (case u4x => walk_at "M led"); (case z1 => walk_at "M ne"); (case z2 => walk_at "M ap"); (case z3 => omega); (case z4 => omega); (case z5 => assumption)); k_whole; intro h' tk' t' t2' t3' t4' F' N'; (try dsimp only); (try k_sweep))
  k_with "M call" => ((with_reducible show wpAny _ _ (call (Value.ref 249) _) _ _ _); k_dflt (refine' c_esc ?u1x ?u2x ?u3x ?u4x ?u5x ?uKx ?udx ?uux ?z1 ?z2 ?z3 ?z4 ?z5 ?z6 ?_; walk_at "M use"; (case u4x => walk_at "M led"); (case z6 => assumption); (case z1 => walk_at "M ne"); (case z2 => walk_at "M ap"); (case z3 => omega); (case z4 => first | assumption | omega); (case z5 => assumption)); k_whole; intro h' tk' t' t2' t3' t4' F' N'; (try dsimp only); (try k_sweep))
  k_steps
  · have h := ‹(sgo T[i + 1]? == Str.ofString "'") = true›
    rw [s_q, sgo_eq, hc] at h
    exact absurd (Option.some.inj (beq_iff_eq.mp h)) h39
  · have h := ‹(sgo T[i + 1]? == Str.ofString "\\") = true›
    rw [s_bs, sgo_eq, hc] at h
    exact absurd (Option.some.inj (beq_iff_eq.mp h)) h92
  · have h := ‹(sgo T[i + 1 + 1]? != Str.ofString "'") = true›
    rw [s_q, bne, sgo_eq, hq] at h
    exact absurd h (by decide)
  · exact hret _ _ _ _ _ _ (by assumption) (by walk_at "M kN")
theorem c_char_bad {w : World} {dp un : Nat} {gd : Option (List Code)} {cn : Str} {cs : Scope} {a : Addr} {ccd : Value} {cl : List (Str × Addr)} {outer : List Env} {A₀ : Around} {base h₀ : Heap} {L : Addr} {m : Str → Option Value} {s : Shared} {mean : ExcName → Option Value} {mg mb : Str → Option Value} {Q E : Value → Shared → Prop} {rest : List (Addr × Obj)} {x d : Addr} {k : SgK} {T : List Nat} {t1 t2 t3 t4 : Tok} {i : Nat}
  (B : Below A₀ base outer h₀) (F : Fr h₀ L s.heap m) (X : (Mine.hd.heap_1 w.params).In h₀) (N : News h₀ L s.heap ((d, SGo k T i t1 t2 t3 t4) :: (x, instObj 147 d) :: rest)) (TT : Top Mine.hd.view_1 lz mean mg mb h₀) (hk : cs.kind = .function) (hd : dp + 6 < recursionLimit) (hu : un + 8 * 6 < cLine)
  (hxd : x ≠ d) (hap : ∀ p ∈ rest, p.1 ≠ d) (hT : T.length ≤ 9000) (hi : i + 2 ≤ T.length) (hb : bareO T[i + 1]? = false)
  (hraise : ∀ e g₂ h' tk', Fr h₀ L g₂ m → g₂.UpToSlots h' → ErrAt base g₂ (envX cn cs L a ccd cl :: outer) e T i rest h' → E (.ref e) { s with heap := h', toks := tk' }) :
  wpAny (model PySem.Challenge.rw_sy0021_01.row.prog w) (ktrTop dp un gd cn cs L a ccd cl outer) (call (.ref 256) [.ref x]) Q E s := by
  have hfill : (Mine.hd.heap_1 = Mine.hd.heap_1 ∧ PySem.Challenge.rw_sy0021_01 = PySem.Challenge.rw_sy0021_01) := by k_fill; exact ⟨rfl, rfl⟩
  clear hfill
  refine wpAny_call ?_
  k_with_none
  k_with "M enter" => (refine' code_def ?k1 ?k2 ?k3 ?k4 ?k5 ?kA ?kF ?kK ?k6 ?k7 ?k8 ?k9 ?kB ?_ ?c2 ?c3 ?c4 ?c5; (case kA => exact rfl); (case kF => exact rfl); (case kK => assumption); (case k1 => k_asm); (case k2 => k_asm); (case k3 => k_asm); (case k4 => k_asm); (case k5 => k_asm); (case k6 => k_is); (case k7 => k_is); (case k8 => first | exact rm0 (by assumption) | ktr_room); (case k9 => first | exact BindsTo.of_eq rfl | exact binds_K (by k_in) rfl (by k_is) rfl rfl rfl); (case c5 => decide); (case kB => exact locs rfl); (case c2 => exact rfl); (case c3 => exact rfl); (case c4 => exact rfl); k_whole; intro g' L' h' FG' F' N' B' X' T'; (try dsimp only); (try k_lift B'); (try k_fold))
  k_dflt (walk_at "M enter")
  k_with_none
  k_with "M use" => ((case u1x => k_asm); (case u2x => k_asm); (case u3x => k_asm); (case u5x => k_asm); (case uKx => first | assumption | exact rfl); (case udx => first | exact rmA (by assumption) (by decide) | ktr_room); (case uux => first | exact umA (by assumption) (by decide) | ktr_units))
  k_with "M in" => (first | with_reducible assumption | exact Frag.In.keeps (by with_reducible assumption) (Fr.keep (by with_reducible assumption)))
  k_with "call ref" => (k_here; k_extra "M call")
  k_with "call ref" => (k_here; with_reducible first | refine call_app0 ?_ | refine call_app1 ?_ | refine call_app2 ?_)
  k_with "eval Call" => (k_here; k_dflt (refine Call_ ?_))
  k_with "M all" => (first | assumption | exact apart_of (by first | assumption | exact And.right (by assumption) | exact And.right (And.right (by assumption)) | exact And.right (And.right (And.right (by assumption))) | exact And.right (And.right (And.right (And.right (by assumption))))))
  k_with "M call" => ((with_reducible show wpAny _ _ (call (Value.ref 172) _) _ _ _); k_dflt (refine' c_is_bare ?u1x ?u2x ?u3x ?u4x ?u5x ?uKx ?udx ?uux ?_; walk_at "M use"; (case u4x => k_asm)); k_whole; intro h' tk' F' N'; (try dsimp only); (try k_sweep))
  k_with "M led" => (first | k_asm | exact news_rot1 (by k_asm) | exact news_rot2 (by k_asm) | exact news_rot3 (by k_asm) | exact news_rot4 (by k_asm))
  k_with "M ap" => (first | k_asm | k_all)
  k_with "M ne" => (first | k_asm | k_ne)
  k_with "M call" => ((with_reducible show wpAny _ _ (call (Value.ref 130) _) _ _ _); k_dflt (refine' c_step ?u1x ?u2x ?u3x ?u4x ?u5x ?uKx ?udx ?uux ?z1 ?z2 ?z3 ?z4 ?_; walk_at "M use"; (case u4x => walk_at "M led"); (case z1 => walk_at "M ne"); (case z2 => walk_at "M ap"); (case z3 => omega); (case z4 => omega)); k_whole; intro h' tk' t' t2' t3' t4' F' N'; (try dsimp only); (try k_sweep))
  k_with "M call" => ((with_reducible show wpAny _ _ (call (Value.ref 144) _) _ _ _); k_dflt (refine' c_place ?u1x ?u2x ?u3x ?u4x ?u5x ?uKx ?udx ?uux ?_; walk_at "M use"; (case u4x => walk_at "M led")); k_whole; intro h' tk' p' u3' u4' F' N' l1; (try dsimp only); (try k_lt l1); (try k_sweep))
  k_with "M call" => ((with_reducible show wpAny _ _ (call (Value.ref 52) _) _ _ _); k_dflt (refine' c_make ?u1x ?u2x ?u3x ?u4x ?u5x ?uKx ?udx ?uux ?_; walk_at "M use"; (case u4x => k_asm)); k_whole; intro h' tk' e' t' dx' h1' h2' k1' k2' F' N' ap' l1; (try dsimp only); (try k_sweep))
  k_with "M mem" => (repeat (first | exact List.mem_cons_self | assumption | refine List.mem_cons_of_mem _ ?_))
  k_with "M sub" => (intro q hq; repeat (first | assumption | refine List.mem_cons_of_mem _ ?_))
  k_with "exec Raise some none" => (k_here; k_dflt (refine raise52 (by rfl) ?_))
  k_with "RaiseQ" => (k_here; (rename News _ _ _ _ => nX'); refine ⟨_, _, _, rfl, by k_in, (nX' _ (.tail _ (.head _))).1, ?_⟩)
  k_with "leaving ref" => (k_here; k_dflt (refine' leaveNew ?K ?F ?N ?ap ?l ?_; (case N => assumption); (case F => k_asm); (case K => k_asm); (case ap => assumption); (case l => assumption)); intro h' R' U'; (try dsimp only))
  k_with "leaving ref" => (k_here; k_dflt (refine' leaveOnAt ?K ?F ?R ?U ?_; (case K => k_asm); (case R => assumption); (case U => assumption); (case F => assumption)); intro h' R' U'; (try dsimp only))
  k_with "M call" => ((with_reducible show wpAny _ _ (call (Value.ref 249) _) _ _ _); k_dflt (refine' c_esc_t ?u1x ?u2x ?u3x ?u4x ?u5x ?uKx ?udx ?uux ?z1 ?z2 ?z3 ?z4 ?z5 ?_; walk_at "M use"; (case u4x => walk_at "M led"); (case z1 => walk_at "M ne"); (case z2 => walk_at "M ap"); (case z3 => omega); (case z4 => omega); (case z5 => assumption)); k_whole; intro h' tk' t' t2' t3' t4' F' N'; (try dsimp only); (try k_sweep))
  k_with "M call" => ((with_reducible show wpAny _ _ (call (Value.ref 249) _) _ _ _); k_dflt (refine' c_esc ?u1x ?u2x ?u3x ?u4x ?u5x ?uKx ?udx ?uux ?z1 ?z2 ?z3 ?z4 ?z5 ?z6 ?_; walk_at "M use"; (case u4x => walk_at "M led"); (case z6 => assumption); (case z1 => walk_at "M ne"); (case z2 => walk_at "M ap"); (case z3 => omega); (case z4 => first | assumption | omega); (case z5 => assumption)); k_whole; intro h' tk' t' t2' t3' t4' F' N'; (try dsimp only); (try k_sweep))
  k_steps
  exact hraise _ _ _ _ (by assumption) (by assumption) (errAt_of (by assumption) (by walk_at "M mem") (by walk_at "M sub"))
theorem c_char_t {w : World} {dp un : Nat} {gd : Option (List Code)} {cn : Str} {cs : Scope} {a : Addr} {ccd : Value} {cl : List (Str × Addr)} {outer : List Env} {A₀ : Around} {base h₀ : Heap} {L : Addr} {m : Str → Option Value} {s : Shared} {mean : ExcName → Option Value} {mg mb : Str → Option Value} {Q E : Value → Shared → Prop} {rest : List (Addr × Obj)} {x d : Addr} {k : SgK} {T : List Nat} {t1 t2 t3 t4 : Tok} {i : Nat}
  (B : Below A₀ base outer h₀) (F : Fr h₀ L s.heap m) (X : (Mine.hd.heap_1 w.params).In h₀) (N : News h₀ L s.heap ((d, SGo k T i t1 t2 t3 t4) :: (x, instObj 147 d) :: rest)) (TT : Top Mine.hd.view_1 lz mean mg mb h₀) (hk : cs.kind = .function) (hd : dp + 6 < recursionLimit) (hu : un + 8 * 6 < cLine)
  (hxd : x ≠ d) (hap : ∀ p ∈ rest, p.1 ≠ d) (hT : T.length ≤ 9000) (hi : i + 4 ≤ T.length) (hc : T[i + 1]? = some 92) (he : T[i + 2]? = some 116) (hq : T[i + 3]? = some 39)
  (hret : ∀ h' tk' t t2 t3 t4, Fr h₀ L h' m → News h₀ L h' ((d, SGo k T (i + 4) t1 t2 t3 t4) :: (x, instObj 147 d) :: rest) → Q (.str (Str.ofString "\t") t) { s with heap := h', toks := tk' }) :
  wpAny (model PySem.Challenge.rw_sy0021_01.row.prog w) (ktrTop dp un gd cn cs L a ccd cl outer) (call (.ref 256) [.ref x]) Q E s := by
  have hb : bareO T[i + 1]? = true := by rw [hc]; decide
  have hfill : (Mine.hd.heap_1 = Mine.hd.heap_1 ∧ PySem.Challenge.rw_sy0021_01 = PySem.Challenge.rw_sy0021_01) := by k_fill; exact ⟨rfl, rfl⟩
  clear hfill
  refine wpAny_call ?_
  k_with_none
  k_with "M enter" => (refine' code_def ?k1 ?k2 ?k3 ?k4 ?k5 ?kA ?kF ?kK ?k6 ?k7 ?k8 ?k9 ?kB ?_ ?c2 ?c3 ?c4 ?c5; (case kA => exact rfl); (case kF => exact rfl); (case kK => assumption); (case k1 => k_asm); (case k2 => k_asm); (case k3 => k_asm); (case k4 => k_asm); (case k5 => k_asm); (case k6 => k_is); (case k7 => k_is); (case k8 => first | exact rm0 (by assumption) | ktr_room); (case k9 => first | exact BindsTo.of_eq rfl | exact binds_K (by k_in) rfl (by k_is) rfl rfl rfl); (case c5 => decide); (case kB => exact locs rfl); (case c2 => exact rfl); (case c3 => exact rfl); (case c4 => exact rfl); k_whole; intro g' L' h' FG' F' N' B' X' T'; (try dsimp only); (try k_lift B'); (try k_fold))
  k_dflt (walk_at "M enter")
  k_with_none
  k_with "M use" => ((case u1x => k_asm); (case u2x => k_asm); (case u3x => k_asm); (case u5x => k_asm); (case uKx => first | assumption | exact rfl); (case udx => first | exact rmA (by assumption) (by decide) | ktr_room); (case uux => first | exact umA (by assumption) (by decide) | ktr_units))
  k_with "M in" => (first | with_reducible assumption | exact Frag.In.keeps (by with_reducible assumption) (Fr.keep (by with_reducible assumption)))
  k_with "call ref" => (k_here; k_extra "M call")
  k_with "call ref" => (k_here; with_reducible first | refine call_app0 ?_ | refine call_app1 ?_ | refine call_app2 ?_)
  k_with "M kN" => (first | assumption | exact news_tl1 (by assumption) | exact news_tl2 (by assumption) | exact news_tl3 (by assumption) | exact news_tl4 (by assumption) | exact news_dr1 (by assumption) | exact news_dr2 (by assumption) | exact news_dr3 (by assumption))
  k_with "eval Call" => (k_here; k_dflt (refine Call_ ?_))
  k_with "M all" => (first | assumption | exact apart_of (by first | assumption | exact And.right (by assumption) | exact And.right (And.right (by assumption)) | exact And.right (And.right (And.right (by assumption))) | exact And.right (And.right (And.right (And.right (by assumption))))))
  k_with "M call" => ((with_reducible show wpAny _ _ (call (Value.ref 172) _) _ _ _); k_dflt (refine' c_is_bare ?u1x ?u2x ?u3x ?u4x ?u5x ?uKx ?udx ?uux ?_; walk_at "M use"; (case u4x => k_asm)); k_whole; intro h' tk' F' N'; (try dsimp only); (try k_sweep))
  k_with "M led" => (first | k_asm | exact news_rot1 (by k_asm) | exact news_rot2 (by k_asm) | exact news_rot3 (by k_asm) | exact news_rot4 (by k_asm))
  k_with "M ap" => (first | k_asm | k_all)
  k_with "M ne" => (first | k_asm | k_ne)
  k_with "M call" => ((with_reducible show wpAny _ _ (call (Value.ref 130) _) _ _ _); k_dflt (refine' c_step ?u1x ?u2x ?u3x ?u4x ?u5x ?uKx ?udx ?uux ?z1 ?z2 ?z3 ?z4 ?_; walk_at "M use"; (case u4x => walk_at "M led"); (case z1 => walk_at "M ne"); (case z2 => walk_at "M ap"); (case z3 => omega); (case z4 => omega)); k_whole; intro h' tk' t' t2' t3' t4' F' N'; (try dsimp only); (try k_sweep))
  k_with "M call" => ((with_reducible show wpAny _ _ (call (Value.ref 144) _) _ _ _); k_dflt (refine' c_place ?u1x ?u2x ?u3x ?u4x ?u5x ?uKx ?udx ?uux ?_; walk_at "M use"; (case u4x => walk_at "M led")); k_whole; intro h' tk' p' u3' u4' F' N' l1; (try dsimp only); (try k_lt l1); (try k_sweep))
  k_with "M call" => ((with_reducible show wpAny _ _ (call (Value.ref 52) _) _ _ _); k_dflt (refine' c_make ?u1x ?u2x ?u3x ?u4x ?u5x ?uKx ?udx ?uux ?_; walk_at "M use"; (case u4x => k_asm)); k_whole; intro h' tk' e' t' dx' h1' h2' k1' k2' F' N' ap' l1; (try dsimp only); (try k_sweep))
  k_with "M mem" => (repeat (first | exact List.mem_cons_self | assumption | refine List.mem_cons_of_mem _ ?_))
  k_with "M sub" => (intro q hq; repeat (first | assumption | refine List.mem_cons_of_mem _ ?_))
  k_with "exec Raise some none" => (k_here; k_dflt (refine raise52 (by rfl) ?_))
  k_with "RaiseQ" => (k_here; (rename News _ _ _ _ => nX'); refine ⟨_, _, _, rfl, by k_in, (nX' _ (.tail _ (.head _))).1, ?_⟩)
  k_with "leaving ref" => (k_here; k_dflt (refine' leaveNew ?K ?F ?N ?ap ?l ?_; (case N => assumption); (case F => k_asm); (case K => k_asm); (case ap => assumption); (case l => assumption)); intro h' R' U'; (try dsimp only))
  k_with "leaving ref" => (k_here; k_dflt (refine' leaveOnAt ?K ?F ?R ?U ?_; (case K => k_asm); (case R => assumption); (case U => assumption); (case F => assumption)); intro h' R' U'; (try dsimp only))
  k_with "M kN" => (first | assumption | (refine news_sub (by assumption) ?_; (repeat refine List.forall_mem_cons.mpr (And.intro (by walk_at "M mem") ?_)); walk_at "M sub"))
  k_with "M call" => ((with_reducible show wpAny _ _ (call (Value.ref 249) _) _ _ _); k_dflt (refine' c_esc_t ?u1x ?u2x ?u3x ?u4x ?u5x ?uKx ?udx ?uux ?z1 ?z2 ?z3 ?z4 ?z5 ?_; walk_at "M use"; (case u4x => walk_at "M led"); (case z1 => walk_at "M ne"); (case z2 => walk_at "M ap"); (case z3 => omega); (case z4 => omega); (case z5 => assumption)); k_whole; intro h' tk' t' t2' t3' t4' F' N'; (try dsimp only); (try k_sweep))
  k_with "M call" => ((with_reducible show wpAny _ _ (call (Value.ref 249) _) _ _ _); k_dflt (refine' c_esc ?u1x ?u2x ?u3x ?u4x ?u5x ?uKx ?udx ?uux ?z1 ?z2 ?z3 ?z4 ?z5 ?z6 ?_; walk_at "M use"; (case u4x => walk_at "M led"); (case z6 => assumption); (case z1 => walk_at "M ne"); (case z2 => walk_at "M ap"); (case z3 => omega); (case z4 => first | assumption | omega); (case z5 => assumption)); k_whole; intro h' tk' t' t2' t3' t4' F' N'; (try dsimp only); (try k_sweep))
  k_steps
  · have h := ‹(sgo T[i + 1]? == Str.ofString "'") = true›
    rw [s_q, sgo_eq, hc] at h
    exact absurd h (by decide)
  · have h := ‹(sgo T[i + 1 + 1 + 1]? != Str.ofString "'") = true›
    rw [s_q, bne, sgo_eq, hq] at h
    exact absurd h (by decide)
  · exact hret _ _ _ _ _ _ (by assumption) (by walk_at "M kN")
  all_goals (
    have h := ‹(sgo T[i + 1]? == Str.ofString "\\") = false›
    rw [s_bs, sgo_eq, hc] at h
    exact absurd h (by decide))
end

-- 59gap
section
theorem c_skip_gap {w : World} {dp un : Nat} {gd : Option (List Code)} {cn : Str} {cs : Scope} {a : Addr} {ccd : Value} {cl : List (Str × Addr)} {outer : List Env} {A₀ : Around} {base h₀ : Heap} {L : Addr} {m : Str → Option Value} {s : Shared} {mean : ExcName → Option Value} {mg mb : Str → Option Value} {Q E : Value → Shared → Prop} {rest : List (Addr × Obj)} {x d : Addr} {k : SgK} {T : List Nat} {t1 t2 t3 t4 : Tok} {i : Nat} {pl : Value}
  (B : Below A₀ base outer h₀) (F : Fr h₀ L s.heap m) (X : (Mine.hd.heap_1 w.params).In h₀) (N : News h₀ L s.heap ((d, SGo k T i t1 t2 t3 t4) :: (x, instObj 147 d) :: rest)) (TT : Top Mine.hd.view_1 lz mean mg mb h₀) (hk : cs.kind = .function) (hd : dp + 4 < recursionLimit) (hu : un + 8 * 4 < cLine)
  (hxd : x ≠ d) (hap : ∀ p ∈ rest, p.1 ≠ d) (hT : T.length ≤ 9000) (hi : i ≤ T.length) (hq : T[takeEnd T WS i]? = some 92)
  (hret : ∀ h' tk' t2 t3 t4, Fr h₀ L h' m → News h₀ L h' ((d, SGo k T (takeEnd T WS i + 1) t1 t2 t3 t4) :: (x, instObj 147 d) :: rest) → Q .none { s with heap := h', toks := tk' }) :
  wpAny (model PySem.Challenge.rw_sy0021_01.row.prog w) (ktrTop dp un gd cn cs L a ccd cl outer) (call (.ref 263) [.ref x, pl]) Q E s := by
  have hte := takeEnd_le (l := WS) hi
  unfold WS at *
  have hfill : (Mine.hd.heap_1 = Mine.hd.heap_1 ∧ PySem.Challenge.rw_sy0021_01 = PySem.Challenge.rw_sy0021_01) := by k_fill; exact ⟨rfl, rfl⟩
  clear hfill
  refine wpAny_call ?_
  k_with_none
  k_with "M enter" => (refine' code_def ?k1 ?k2 ?k3 ?k4 ?k5 ?kA ?kF ?kK ?k6 ?k7 ?k8 ?k9 ?kB ?_ ?c2 ?c3 ?c4 ?c5; (case kA => exact rfl); (case kF => exact rfl); (case kK => assumption); (case k1 => k_asm); (case k2 => k_asm); (case k3 => k_asm); (case k4 => k_asm); (case k5 => k_asm); (case k6 => k_is); (case k7 => k_is); (case k8 => first | exact rm0 (by assumption) | ktr_room); (case k9 => first | exact BindsTo.of_eq rfl | exact binds_K (by k_in) rfl (by k_is) rfl rfl rfl); (case c5 => decide); (case kB => exact locs rfl); (case c2 => exact rfl); (case c3 => exact rfl); (case c4 => exact rfl); k_whole; intro g' L' h' FG' F' N' B' X' T'; (try dsimp only); (try k_lift B'); (try k_fold))
  k_dflt (walk_at "M enter")
  k_with_none
  k_with "M use" => ((case u1x => k_asm); (case u2x => k_asm); (case u3x => k_asm); (case u5x => k_asm); (case uKx => first | assumption | exact rfl); (case udx => first | exact rmA (by assumption) (by decide) | ktr_room); (case uux => first | exact umA (by assumption) (by decide) | ktr_units))
  k_with "M in" => (first | with_reducible assumption | exact Frag.In.keeps (by with_reducible assumption) (Fr.keep (by with_reducible assumption)))
  k_with "call ref" => (k_here; k_extra "M call")
  k_with "call ref" => (k_here; with_reducible first | refine call_app0 ?_ | refine call_app1 ?_ | refine call_app2 ?_)
  k_with "M kN" => (first | assumption | exact news_tl1 (by assumption) | exact news_tl2 (by assumption) | exact news_tl3 (by assumption) | exact news_tl4 (by assumption) | exact news_dr1 (by assumption) | exact news_dr2 (by assumption) | exact news_dr3 (by assumption))
  k_with "eval Call" => (k_here; k_dflt (refine Call_ ?_))
  k_with "M all" => (first | assumption | exact apart_of (by first | assumption | exact And.right (by assumption) | exact And.right (And.right (by assumption)) | exact And.right (And.right (And.right (by assumption))) | exact And.right (And.right (And.right (And.right (by assumption))))))
  k_with "M led" => (first | k_asm | exact news_rot1 (by k_asm) | exact news_rot2 (by k_asm) | exact news_rot3 (by k_asm) | exact news_rot4 (by k_asm))
  k_with "M ap" => (first | k_asm | k_all)
  k_with "M ne" => (first | k_asm | k_ne)
  k_with "M call" => ((with_reducible show wpAny _ _ (call (Value.ref 130) _) _ _ _); k_dflt (refine' c_step ?u1x ?u2x ?u3x ?u4x ?u5x ?uKx ?udx ?uux ?z1 ?z2 ?z3 ?z4 ?_; walk_at "M use"; (case u4x => walk_at "M led"); (case z1 => walk_at "M ne"); (case z2 => walk_at "M ap"); (case z3 => omega); (case z4 => omega)); k_whole; intro h' tk' t' t2' t3' t4' F' N'; (try dsimp only); (try k_sweep))
  k_with "M call" => ((with_reducible show wpAny _ _ (call (Value.ref 137) _) _ _ _); k_dflt (refine' c_take ?u1x ?u2x ?u3x ?u4x ?u5x ?uKx ?udx ?uux ?z1 ?z2 ?z3 ?z4 ?_; walk_at "M use"; (case u4x => walk_at "M led"); (case z1 => walk_at "M ne"); (case z2 => walk_at "M ap"); (case z3 => omega); (case z4 => omega)); k_whole; intro h' tk' t' t2' t3' t4' F' N'; (try dsimp only); (try k_sweep))
  k_with "M call" => ((with_reducible show wpAny _ _ (call (Value.ref 52) _) _ _ _); k_dflt (refine' c_make ?u1x ?u2x ?u3x ?u4x ?u5x ?uKx ?udx ?uux ?_; walk_at "M use"; (case u4x => k_asm)); k_whole; intro h' tk' e' t' dx' h1' h2' k1' k2' F' N' ap' l1; (try dsimp only); (try k_sweep))
  k_with "M mem" => (repeat (first | exact List.mem_cons_self | assumption | refine List.mem_cons_of_mem _ ?_))
  k_with "M sub" => (intro q hq; repeat (first | assumption | refine List.mem_cons_of_mem _ ?_))
  k_with "exec Raise some none" => (k_here; k_dflt (refine raise52 (by rfl) ?_))
  k_with "M kN" => (first | assumption | (refine news_sub (by assumption) ?_; (repeat refine List.forall_mem_cons.mpr (And.intro (by walk_at "M mem") ?_)); walk_at "M sub"))
  k_steps
  · have h := ‹(sgo T[_]? != Str.ofString "\\") = true›
    rw [s_bs, bne, sgo_eq, hq] at h
    exact absurd h (by decide)
  · exact hret _ _ _ _ _ (by assumption) (by walk_at "M kN")
end

-- 60text
section
section
theorem c_read_text {w : World} {dp un : Nat} {gd : Option (List Code)} {cn : Str} {cs : Scope} {a : Addr} {ccd : Value} {cl : List (Str × Addr)} {outer : List Env} {A₀ : Around} {base h₀ : Heap} {L : Addr} {m : Str → Option Value} {s : Shared} {mean : ExcName → Option Value} {mg mb : Str → Option Value} {Q E : Value → Shared → Prop} {rest : List (Addr × Obj)} {x d : Addr} {k : SgK} {T : List Nat} {t1 t2 t3 t4 : Tok} {i j : Nat} {ps : List Str} {b : Bool}
  (B : Below A₀ base outer h₀) (F : Fr h₀ L s.heap m) (X : (Mine.hd.heap_1 w.params).In h₀) (N : News h₀ L s.heap ((d, SGo k T i t1 t2 t3 t4) :: (x, instObj 147 d) :: rest)) (TT : Top Mine.hd.view_1 lz mean mg mb h₀) (hk : cs.kind = .function) (hd : dp + 6 < recursionLimit) (hu : un + 8 * 6 < cLine)
  (hxd : x ≠ d) (hap : ∀ p ∈ rest, p.1 ≠ d) (hT : T.length ≤ 9000) (hi : i + 1 ≤ T.length) (hr : TxtR T (i + 1) ps b j)
  (hret : b = true → ∀ h' tk' t t2 t3 t4, Fr h₀ L h' m → News h₀ L h' ((d, SGo k T (j + 1) t1 t2 t3 t4) :: (x, instObj 147 d) :: rest) → Q (.str (Txt.join (Str.ofString "") ps) t) { s with heap := h', toks := tk' })
  (hraise : b = false → ∀ e g₂ h' tk', Fr h₀ L g₂ m → g₂.UpToSlots h' → ErrAt base g₂ (envX cn cs L a ccd cl :: outer) e T i rest h' → E (.ref e) { s with heap := h', toks := tk' }) :
  wpAny (model PySem.Challenge.rw_sy0021_01.row.prog w) (ktrTop dp un gd cn cs L a ccd cl outer) (call (.ref 270) [.ref x]) Q E s := by
  have hfill : (Mine.hd.heap_1 = Mine.hd.heap_1 ∧ PySem.Challenge.rw_sy0021_01 = PySem.Challenge.rw_sy0021_01) := by k_fill; exact ⟨rfl, rfl⟩
  clear hfill
  refine wpAny_call ?_
  k_with_none
  k_with "M enter" => (refine' code_def ?k1 ?k2 ?k3 ?k4 ?k5 ?kA ?kF ?kK ?k6 ?k7 ?k8 ?k9 ?kB ?_ ?c2 ?c3 ?c4 ?c5; (case kA => exact rfl); (case kF => exact rfl); (case kK => assumption); (case k1 => k_asm); (case k2 => k_asm); (case k3 => k_asm); (case k4 => k_asm); (case k5 => k_asm); (case k6 => k_is); (case k7 => k_is); (case k8 => first | exact rm0 (by assumption) | ktr_room); (case k9 => first | exact BindsTo.of_eq rfl | exact binds_K (by k_in) rfl (by k_is) rfl rfl rfl); (case c5 => decide); (case kB => exact locs rfl); (case c2 => exact rfl); (case c3 => exact rfl); (case c4 => exact rfl); k_whole; intro g' L' h' FG' F' N' B' X' T'; (try dsimp only); (try k_lift B'); (try k_fold))
  k_dflt (walk_at "M enter")
  k_with_none
  k_with "M om" => (first | with_reducible assumption | exact Nat.le_succ_of_le (by with_reducible assumption) | exact Nat.le_of_lt (by with_reducible assumption) | exact Nat.le_of_succ_le (by with_reducible assumption) | exact Nat.le_trans (by with_reducible assumption) (by decide) | exact Nat.le_trans (Nat.le_of_succ_le (by with_reducible assumption)) (Nat.le_trans (by with_reducible assumption) (by decide)))
  k_with "M use" => ((case u1x => k_asm); (case u2x => k_asm); (case u3x => k_asm); (case u5x => k_asm); (case uKx => first | assumption | exact rfl); (case udx => first | exact rmA (by assumption) (by decide) | ktr_room); (case uux => first | exact umA (by assumption) (by decide) | ktr_units))
  k_with "M in" => (first | with_reducible assumption | exact Frag.In.keeps (by with_reducible assumption) (Fr.keep (by with_reducible assumption)))
  k_with "call ref" => (k_here; k_extra "M call")
  k_with "call ref" => (k_here; with_reducible first | refine call_app0 ?_ | refine call_app1 ?_ | refine call_app2 ?_)
  k_with "M kN" => (first | assumption | exact news_tl1 (by assumption) | exact news_tl2 (by assumption) | exact news_tl3 (by assumption) | exact news_tl4 (by assumption) | exact news_dr1 (by assumption) | exact news_dr2 (by assumption) | exact news_dr3 (by assumption))
  k_with "eval Call" => (k_here; k_dflt (refine Call_ ?_))
  k_with "M all" => (first | assumption | exact apart_of (by first | assumption | exact And.right (by assumption) | exact And.right (And.right (by assumption)) | exact And.right (And.right (And.right (by assumption))) | exact And.right (And.right (And.right (And.right (by assumption))))))
  k_with "M call" => ((with_reducible show wpAny _ _ (call (Value.ref 158) _) _ _ _); k_dflt (refine' c_is_among ?u1x ?u2x ?u3x ?u4x ?u5x ?uKx ?udx ?uux ?_; walk_at "M use"; (case u4x => k_asm)); k_whole; intro h' tk' F' N'; (try dsimp only); (try k_sweep))
  k_with "M call" => ((with_reducible show wpAny _ _ (call (Value.ref 172) _) _ _ _); k_dflt (refine' c_is_bare ?u1x ?u2x ?u3x ?u4x ?u5x ?uKx ?udx ?uux ?_; walk_at "M use"; (case u4x => k_asm)); k_whole; intro h' tk' F' N'; (try dsimp only); (try k_sweep))
  k_with "M led" => (first | k_asm | exact news_rot1 (by k_asm) | exact news_rot2 (by k_asm) | exact news_rot3 (by k_asm) | exact news_rot4 (by k_asm))
  k_with "M call" => ((with_reducible show wpAny _ _ (call (Value.ref 116) [_]) _ _ _); k_dflt (refine' c_signG0 ?u1x ?u2x ?u3x ?u4x ?u5x ?uKx ?udx ?uux ?z2 ?z3 ?z4 ?_; walk_at "M use"; (case u4x => walk_at "M led"); (case z2 => omega); (case z3 => omega); (case z4 => omega)); k_whole; intro h' tk' t' F' N'; (try dsimp only); (try k_sweep))
  k_with "M call" => ((with_reducible show wpAny _ _ (call (Value.ref 116) [_, _]) _ _ _); k_dflt (refine' c_sign ?u1x ?u2x ?u3x ?u4x ?u5x ?uKx ?udx ?uux ?z1 ?z2 ?z3 ?z4 ?_; walk_at "M use"; (case u4x => walk_at "M led"); (case z1 => first | exact cast1 | exact cast2 | rfl | omega); (case z2 => omega); (case z3 => omega); (case z4 => omega)); k_whole; intro h' tk' t' F' N'; (try dsimp only); (try k_sweep))
  k_with "M call" => ((with_reducible show wpAny _ _ (call (Value.ref 116) [_]) _ _ _); k_dflt (refine' c_sign0 ?u1x ?u2x ?u3x ?u4x ?u5x ?uKx ?udx ?uux ?z2 ?z3 ?_; walk_at "M use"; (case u4x => walk_at "M led"); (case z2 => omega); (case z3 => omega)); k_whole; intro h' tk' t' F' N'; (try dsimp only); (try k_sweep))
  k_with "M ap" => (first | k_asm | k_all)
  k_with "M ne" => (first | k_asm | k_ne)
  k_with "M call" => ((with_reducible show wpAny _ _ (call (Value.ref 130) _) _ _ _); k_dflt (refine' c_step ?u1x ?u2x ?u3x ?u4x ?u5x ?uKx ?udx ?uux ?z1 ?z2 ?z3 ?z4 ?_; walk_at "M use"; (case u4x => walk_at "M led"); (case z1 => walk_at "M ne"); (case z2 => walk_at "M ap"); (case z3 => omega); (case z4 => omega)); k_whole; intro h' tk' t' t2' t3' t4' F' N'; (try dsimp only); (try k_sweep))
  k_with "M call" => ((with_reducible show wpAny _ _ (call (Value.ref 144) _) _ _ _); k_dflt (refine' c_place ?u1x ?u2x ?u3x ?u4x ?u5x ?uKx ?udx ?uux ?_; walk_at "M use"; (case u4x => walk_at "M led")); k_whole; intro h' tk' p' u3' u4' F' N' l1; (try dsimp only); (try k_lt l1); (try k_sweep))
  k_with "M call" => ((with_reducible show wpAny _ _ (call (Value.ref 52) _) _ _ _); k_dflt (refine' c_make ?u1x ?u2x ?u3x ?u4x ?u5x ?uKx ?udx ?uux ?_; walk_at "M use"; (case u4x => k_asm)); k_whole; intro h' tk' e' t' dx' h1' h2' k1' k2' F' N' ap' l1; (try dsimp only); (try k_sweep))
  k_with "M mem" => (repeat (first | exact List.mem_cons_self | assumption | refine List.mem_cons_of_mem _ ?_))
  k_with "M sub" => (intro q hq; repeat (first | assumption | refine List.mem_cons_of_mem _ ?_))
  k_with "exec Raise some none" => (k_here; k_dflt (refine raise52 (by rfl) ?_))
  k_with "RaiseQ" => (k_here; (rename News _ _ _ _ => nX'); refine ⟨_, _, _, rfl, by k_in, (nX' _ (.tail _ (.head _))).1, ?_⟩)
  k_with "leaving ref" => (k_here; k_dflt (refine' leaveNew ?K ?F ?N ?ap ?l ?_; (case N => assumption); (case F => k_asm); (case K => k_asm); (case ap => assumption); (case l => assumption)); intro h' R' U'; (try dsimp only))
  k_with "leaving ref" => (k_here; k_dflt (refine' leaveOnAt ?K ?F ?R ?U ?_; (case K => k_asm); (case R => assumption); (case U => assumption); (case F => assumption)); intro h' R' U'; (try dsimp only))
  k_with "M kN" => (first | assumption | (refine news_sub (by assumption) ?_; (repeat refine List.forall_mem_cons.mpr (And.intro (by walk_at "M mem") ?_)); walk_at "M sub"))
  k_with "M call" => ((with_reducible show wpAny _ _ (call (Value.ref 249) _) _ _ _); k_dflt (refine' c_esc_t ?u1x ?u2x ?u3x ?u4x ?u5x ?uKx ?udx ?uux ?z1 ?z2 ?z3 ?z4 ?z5 ?_; walk_at "M use"; (case u4x => walk_at "M led"); (case z1 => walk_at "M ne"); (case z2 => walk_at "M ap"); (case z3 => omega); (case z4 => omega); (case z5 => assumption)); k_whole; intro h' tk' t' t2' t3' t4' F' N'; (try dsimp only); (try k_sweep))
  k_with "M call" => ((with_reducible show wpAny _ _ (call (Value.ref 249) _) _ _ _); k_dflt (refine' c_esc ?u1x ?u2x ?u3x ?u4x ?u5x ?uKx ?udx ?uux ?z1 ?z2 ?z3 ?z4 ?z5 ?z6 ?_; walk_at "M use"; (case u4x => walk_at "M led"); (case z6 => assumption); (case z1 => walk_at "M ne"); (case z2 => walk_at "M ap"); (case z3 => omega); (case z4 => first | assumption | omega); (case z5 => assumption)); k_whole; intro h' tk' t' t2' t3' t4' F' N'; (try dsimp only); (try k_sweep))
  k_with "M call" => ((with_reducible show wpAny _ _ (call (Value.ref 263) _) _ _ _); k_dflt (refine' c_skip_gap ?u1x ?u2x ?u3x ?u4x ?u5x ?uKx ?udx ?uux ?z1 ?z2 ?z3 ?z4 ?z5 ?_; walk_at "M use"; (case u4x => walk_at "M led"); (case z1 => walk_at "M ne"); (case z2 => walk_at "M ap"); (case z3 => omega); (case z4 => omega); (case z5 => assumption)); k_whole; intro h' tk' t2' t3' t4' F' N'; (try dsimp only); (try k_sweep))
  k_with "call builtin:str.join" => (k_here; (with_reducible show wpAny _ _ (call (Value.builtin _) [Value.str _ _, Value.ref _]) _ _ _); k_dflt (refine join_listW (News.isList (by assumption) (by walk_at "M mem")) (by assumption) (by decide +kernel) (by assumption) ?_); intro _ _)
  k_with "M kendT" => (refine' ksw_end ⟨⟨_, _⟩, _, _, _, _⟩ (by assumption) (by walk_at "M kN") (fun p hp => hp) trivial (by kst_all) (by ksw_same) ?_ ?_; all_goals (try dsimp only))
  k_with "exec While Compare cons nil" => (
    rename Fr _ _ _ _ => lF'
    rename News _ _ _ _ => lN'
    rename_i lA _ llA _
    with_unfolding_all refine' ksw_while (σ := (Array Value × Nat) × Nat × Tok × Tok × Tok) (fun c => (lA, W.listOf c.1.1 c.1.2) :: (d, SGo k T c.2.1 t1 c.2.2.1 c.2.2.2.1 c.2.2.2.2) :: (x, instObj 147 d) :: (p', plc T i u3' u4') :: rest) (fun _ => []) (fun _ => True) [Str.ofString "sign"] (fun c => ∃ pre ps', TxtR T c.2.1 ps' b j ∧ pre ++ ps' = ps ∧ StrsV c.1.1.toList pre ∧ c.2.1 ≤ T.length ∧ c.1.1.size ≤ c.2.1) (fun c => T.length - c.2.1) ((#[], 0), i + 1, t2', t3', t4') lF' lN' trivial ?kk ?kp ?_
    (case kk => kst_all)
    (case kp => exact ⟨[], ps, hr, rfl, .nil, hi, Nat.zero_le _⟩)
    clear lF' lN'
    intro c u h tk hf hP kFr kNews
    obtain ⟨⟨vs, vn⟩, pos, v2, v3, v4⟩ := c
    (try dsimp only [kstB] at kFr); (try dsimp only at hP); (try dsimp only at kNews); (try dsimp only)
    refine byC fun hn9 => ?_
    obtain ⟨pre, ps', hr', hps, hvs, hpos, hsz⟩ := hP
    refine hn9 ?_
    clear hn9
    (try k_fold)
    rcases hr' with h1 | h1 | ⟨h1, h2, h3, h4, h5⟩ | ⟨h1, h2, h3, h5⟩ | ⟨h1, h2, h3, h5⟩
    (have f0 := TxtR.lt h1; have f1 := nn_c h1 s_dq; have f10 : StrsAre vs.toList ps := (by rw [← hps, List.append_nil]; exact hvs.are); have f9 : (ps.map (·.length)).sum + ps.length ≤ 1048576 := (by rw [sum_ones hr.len1, ← hps, List.append_nil]; have e := hvs.length; rw [Array.length_toList] at e; omega))
    rotate_left
    (have f1 := nb_c h1 (by decide) s_dq)
    rotate_left
    (have f0 := TxtR.lt h1; have f1 := ne_c h1 s_dq h3; have f2 := bare_ws h1 h2; have f3 := ne_c h1 s_bs h4)
    rotate_left
    (have f0 := TxtR.lt h1; have f00 := TxtR.lt h2; have f1 := ne_c h1 s_dq (by decide); have f2 := bare_ws h1 (by decide); have f3 := nn_c h1 s_bs; have f4 := eq_c h2 s_am h3.sp.1; have f5 := amg_c h2 l_ws h3.sp.2; have f6 := h3.len h2; have f7 := h3.le)
    rotate_left
    (have f0 := TxtR.lt h1; have f00 := lt_amg h2; have f1 := ne_c h1 s_dq (by decide); have f2 := bare_ws h1 (by decide); have f3 := nn_c h1 s_bs; have f4 := amp_ws h2; have f6 := TxtR.lt h3; unfold WS at h2 h3)
    rotate_left)
  k_steps
  · exact hret rfl _ _ _ _ _ _ (by assumption) (by walk_at "M kN")
  · exact hraise rfl _ _ _ _ (by assumption) (by assumption) (errAt_of (by assumption) (by walk_at "M mem") (by walk_at "M sub"))
  · walk_at "M kendT"
    · exact ⟨pre ++ [sgo T[pos]?], _, h5, by rw [h1, ← hps]; simp, hvs.push, by omega, by simp; omega⟩
    · omega
  · walk_at "M kendT"
    · exact ⟨pre ++ [_], _, h5, by rw [← hps]; simp, hvs.push, f6, by simp; omega⟩
    · omega
  · have hge : pos + 1 ≤ takeEnd T WS (pos + 1) := Nat.le_add_right _ _
    walk_at "M kendT"
    · exact ⟨pre, _, h5, hps, hvs, by omega, by omega⟩
    · omega
end
theorem c_text_ok {w : World} {dp un : Nat} {gd : Option (List Code)} {cn : Str} {cs : Scope} {a : Addr} {ccd : Value} {cl : List (Str × Addr)} {outer : List Env} {A₀ : Around} {base h₀ : Heap} {L : Addr} {m : Str → Option Value} {s : Shared} {mean : ExcName → Option Value} {mg mb : Str → Option Value} {Q E : Value → Shared → Prop} {rest : List (Addr × Obj)} {x d : Addr} {k : SgK} {T : List Nat} {t1 t2 t3 t4 : Tok} {i j : Nat} {ps : List Str}
  (B : Below A₀ base outer h₀) (F : Fr h₀ L s.heap m) (X : (Mine.hd.heap_1 w.params).In h₀) (N : News h₀ L s.heap ((d, SGo k T i t1 t2 t3 t4) :: (x, instObj 147 d) :: rest)) (TT : Top Mine.hd.view_1 lz mean mg mb h₀) (hk : cs.kind = .function) (hd : dp + 6 < recursionLimit) (hu : un + 8 * 6 < cLine)
  (hxd : x ≠ d) (hap : ∀ p ∈ rest, p.1 ≠ d) (hT : T.length ≤ 9000) (hi : i + 1 ≤ T.length) (hr : TxtR T (i + 1) ps true j)
  (hret : ∀ h' tk' t t2 t3 t4, Fr h₀ L h' m → News h₀ L h' ((d, SGo k T (j + 1) t1 t2 t3 t4) :: (x, instObj 147 d) :: rest) → Q (.str (Txt.join (Str.ofString "") ps) t) { s with heap := h', toks := tk' }) :
  wpAny (model PySem.Challenge.rw_sy0021_01.row.prog w) (ktrTop dp un gd cn cs L a ccd cl outer) (call (.ref 270) [.ref x]) Q E s :=
  c_read_text B F X N TT hk hd hu hxd hap hT hi hr (fun _ => hret) (fun h => absurd h (by decide))
theorem c_text_bad {w : World} {dp un : Nat} {gd : Option (List Code)} {cn : Str} {cs : Scope} {a : Addr} {ccd : Value} {cl : List (Str × Addr)} {outer : List Env} {A₀ : Around} {base h₀ : Heap} {L : Addr} {m : Str → Option Value} {s : Shared} {mean : ExcName → Option Value} {mg mb : Str → Option Value} {Q E : Value → Shared → Prop} {rest : List (Addr × Obj)} {x d : Addr} {k : SgK} {T : List Nat} {t1 t2 t3 t4 : Tok} {i j : Nat} {ps : List Str}
  (B : Below A₀ base outer h₀) (F : Fr h₀ L s.heap m) (X : (Mine.hd.heap_1 w.params).In h₀) (N : News h₀ L s.heap ((d, SGo k T i t1 t2 t3 t4) :: (x, instObj 147 d) :: rest)) (TT : Top Mine.hd.view_1 lz mean mg mb h₀) (hk : cs.kind = .function) (hd : dp + 6 < recursionLimit) (hu : un + 8 * 6 < cLine)
  (hxd : x ≠ d) (hap : ∀ p ∈ rest, p.1 ≠ d) (hT : T.length ≤ 9000) (hi : i + 1 ≤ T.length) (hr : TxtR T (i + 1) ps false j)
  (hraise : ∀ e g₂ h' tk', Fr h₀ L g₂ m → g₂.UpToSlots h' → ErrAt base g₂ (envX cn cs L a ccd cl :: outer) e T i rest h' → E (.ref e) { s with heap := h', toks := tk' }) :
  wpAny (model PySem.Challenge.rw_sy0021_01.row.prog w) (ktrTop dp un gd cn cs L a ccd cl outer) (call (.ref 270) [.ref x]) Q E s :=
  c_read_text B F X N TT hk hd hu hxd hap hT hi hr (fun h => absurd h (by decide)) (fun _ => hraise)
end

-- 62kind
section
theorem ops_tup {P : Params} {h : Heap} (X : (Mine.hd.heap_1 P).In h) : ∃ items, IsTup h 56 items ∧ StrsAre items.toList OPL := ⟨_, ⟨_, X 56 _ (by rfl), rfl, _, rfl⟩, by repeat constructor⟩
theorem in_ops {prog : Program} {P : Params} {w : World} {A : Around} {E : Value → Shared → Prop} {s : Shared} {x : Str} {u : Tok} {Q : Value → Shared → Prop} (X : (Mine.hd.heap_1 P).In s.heap)
    (h : Q (.bool (OPL.any (· == x))) s) : wpAny (model prog w) A (compareOp .In (.str x u) (.ref 56)) Q E s := by
  obtain ⟨its, h1, h2⟩ := ops_tup X
  exact in_tuple_strs h1 h2 h
theorem symK_op {t : List Nat} (h : (OPL.any fun y => y == tx t) = true) : Str.ofString "op" = symK t := by unfold symK; rw [if_pos h]
theorem symK_con {t : List Nat} (h : (OPL.any fun y => y == tx t) = false) (h2 : t[0]? = some 58) : Str.ofString "consym" = symK t := by unfold symK; rw [if_neg (by rw [h]; decide), if_pos h2]
theorem symK_var {t : List Nat} (h : (OPL.any fun y => y == tx t) = false) (h2 : ¬ t[0]? = some 58) : Str.ofString "varsym" = symK t := by unfold symK; rw [if_neg (by rw [h]; decide), if_neg h2]
theorem s_colon : Str.ofString ":" = ⟨#[58]⟩ := by decide +kernel
section
theorem c_symbol_kind {w : World} {dp un : Nat} {gd : Option (List Code)} {cn : Str} {cs : Scope} {a : Addr} {ccd : Value} {cl : List (Str × Addr)} {outer : List Env} {A₀ : Around} {base h₀ : Heap} {L : Addr} {m : Str → Option Value} {s : Shared} {mean : ExcName → Option Value} {mg mb : Str → Option Value} {Q E : Value → Shared → Prop} {news : List (Addr × Obj)} {t : List Nat} {tt : Tok}
  (B : Below A₀ base outer h₀) (F : Fr h₀ L s.heap m) (X : (Mine.hd.heap_1 w.params).In h₀) (N : News h₀ L s.heap (news)) (TT : Top Mine.hd.view_1 lz mean mg mb h₀) (hk : cs.kind = .function) (hd : dp + 1 < recursionLimit) (hu : un + 8 * 1 < cLine)
  (h1 : 1 ≤ t.length) (h2 : t.length ≤ 10000)
  (hret : ∀ h' tk' t', Fr h₀ L h' m → News h₀ L h' news → Q (.str (symK t) t') { s with heap := h', toks := tk' }) :
  wpAny (model PySem.Challenge.rw_sy0021_01.row.prog w) (ktrTop dp un gd cn cs L a ccd cl outer) (call (.ref 277) [.str (tx t) tt]) Q E s := by
  have ht : (tx t).length ≤ 10000 := by rw [tx_len]; exact h2
  have ht1 : 1 ≤ (tx t).length := by rw [tx_len]; exact h1
  have hfill : (Mine.hd.heap_1 = Mine.hd.heap_1 ∧ PySem.Challenge.rw_sy0021_01 = PySem.Challenge.rw_sy0021_01) := by k_fill; exact ⟨rfl, rfl⟩
  clear hfill
  refine wpAny_call ?_
  k_with_none
  k_with "M enter" => (refine' code_def ?k1 ?k2 ?k3 ?k4 ?k5 ?kA ?kF ?kK ?k6 ?k7 ?k8 ?k9 ?kB ?_ ?c2 ?c3 ?c4 ?c5; (case kA => exact rfl); (case kF => exact rfl); (case kK => assumption); (case k1 => k_asm); (case k2 => k_asm); (case k3 => k_asm); (case k4 => k_asm); (case k5 => k_asm); (case k6 => k_is); (case k7 => k_is); (case k8 => first | exact rm0 (by assumption) | ktr_room); (case k9 => first | exact BindsTo.of_eq rfl | exact binds_K (by k_in) rfl (by k_is) rfl rfl rfl); (case c5 => decide); (case kB => exact locs rfl); (case c2 => exact rfl); (case c3 => exact rfl); (case c4 => exact rfl); k_whole; intro g' L' h' FG' F' N' B' X' T'; (try dsimp only); (try k_lift B'); (try k_fold))
  k_dflt (walk_at "M enter")
  k_with_none
  k_with "M in" => (first | with_reducible assumption | exact Frag.In.keeps (by with_reducible assumption) (Fr.keep (by with_reducible assumption)))
  k_with "M all" => (first | assumption | exact apart_of (by first | assumption | exact And.right (by assumption) | exact And.right (And.right (by assumption)) | exact And.right (And.right (And.right (by assumption))) | exact And.right (And.right (And.right (And.right (by assumption))))))
  k_with "compareOp In str ref" => (k_here; (with_reducible show wpAny _ _ (compareOp CmpOp.In (Value.str _ _) (Value.ref 56)) _ _ _); k_dflt (refine in_ops (by k_in) ?_))
  k_steps
  · exact ret_str hret (symK_op (by assumption)) (by assumption) (by assumption)
  · refine ret_str hret (symK_con (by assumption) ?_) (by assumption) (by assumption)
    have h := ‹(Txt.item (tx t) 0 == Str.ofString ":") = true›
    rw [item_tx (T := t) (i := 0) (j := 0) rfl (by omega), s_colon, sgo_eq] at h
    exact beq_iff_eq.mp h
  · refine ret_str hret (symK_var (by assumption) ?_) (by assumption) (by assumption)
    have h := ‹(Txt.item (tx t) 0 == Str.ofString ":") = false›
    rw [item_tx (T := t) (i := 0) (j := 0) rfl (by omega), s_colon, sgo_eq] at h
    exact beq_eq_false_iff_ne.mp h
end
end

-- 63word
section
noncomputable abbrev tup3 (v1 v2 v3 : Value) : Obj := { cls := .type "tuple", data := .seq #[v1, v2, v3] }
theorem keys_tup {P : Params} {h : Heap} (X : (Mine.hd.heap_1 P).In h) : ∃ items, IsTup h 55 items ∧ StrsAre items.toList KEYL := ⟨_, ⟨_, X 55 _ (by rfl), rfl, _, rfl⟩, by repeat constructor⟩
theorem in_keys {prog : Program} {P : Params} {w : World} {A : Around} {E : Value → Shared → Prop} {s : Shared} {x : Str} {u : Tok} {Q : Value → Shared → Prop} (X : (Mine.hd.heap_1 P).In s.heap)
    (h : Q (.bool (KEYL.any (· == x))) s) : wpAny (model prog w) A (compareOp .In (.str x u) (.ref 55)) Q E s := by
  obtain ⟨its, h1, h2⟩ := keys_tup X
  exact in_tuple_strs h1 h2 h
theorem keyK_key {t : List Nat} (h : (KEYL.any fun y => y == tx t) = true) : Str.ofString "key" = keyK t := by unfold keyK; rw [if_pos h]
theorem keyK_var {t : List Nat} (h : (KEYL.any fun y => y == tx t) = false) : Str.ofString "var" = keyK t := by unfold keyK; rw [if_neg (by rw [h]; decide)]
section
variable {h₀ h' : Heap} {L p : Addr} {m : Str → Option Value} {l : List (Addr × Obj)} {ta tb : Tok} {v : Value} {kd kd' tx tx' : Str}
theorem news_t3 (N : News h₀ L h' ((p, tup3 (.str kd ta) (.str tx tb) v) :: l)) (h1 : kd = kd') (h2 : tx = tx') : News h₀ L h' ((p, tup3 (.str kd' ta) (.str tx' tb) v) :: l) := by subst h1 h2; exact N
end
section
theorem c_word_fin {w : World} {dp un : Nat} {gd : Option (List Code)} {cn : Str} {cs : Scope} {a : Addr} {ccd : Value} {cl : List (Str × Addr)} {outer : List Env} {A₀ : Around} {base h₀ : Heap} {L : Addr} {m : Str → Option Value} {s : Shared} {mean : ExcName → Option Value} {mg mb : Str → Option Value} {Q E : Value → Shared → Prop} {rest : List (Addr × Obj)} {x d : Addr} {k : SgK} {T : List Nat} {t1 t2 t3 t4 : Tok} {i : Nat}
  (B : Below A₀ base outer h₀) (F : Fr h₀ L s.heap m) (X : (Mine.hd.heap_1 w.params).In h₀) (N : News h₀ L s.heap ((d, SGo k T i t1 t2 t3 t4) :: (x, instObj 147 d) :: rest)) (TT : Top Mine.hd.view_1 lz mean mg mb h₀) (hk : cs.kind = .function) (hd : dp + 7 < recursionLimit) (hu : un + 8 * 7 < cLine)
  (hxd : x ≠ d) (hap : ∀ p ∈ rest, p.1 ≠ d) (hT : T.length ≤ 9000) (hi : i ≤ T.length) (h1 : T[i]? = none)
  (hret : ∀ h' tk' p ta tb v t2 t3 t4, Fr h₀ L h' m → News h₀ L h' ((p, tup3 (.str (Str.ofString "end") ta) (.str (Str.ofString "") tb) v) :: (d, SGo k T i t1 t2 t3 t4) :: (x, instObj 147 d) :: rest) → DatIn [] v .none → d < p → x < p → (∀ q ∈ rest, q.1 < p) → Q (.ref p) { s with heap := h', toks := tk' }) :
  wpAny (model PySem.Challenge.rw_sy0021_01.row.prog w) (ktrTop dp un gd cn cs L a ccd cl outer) (call (.ref 305) [.ref x]) Q E s := by
  have f1 : (sgo T[i]? == Str.ofString "") = true := by rw [h1]; decide +kernel
  have hfill : (Mine.hd.heap_1 = Mine.hd.heap_1 ∧ PySem.Challenge.rw_sy0021_01 = PySem.Challenge.rw_sy0021_01) := by k_fill; exact ⟨rfl, rfl⟩
  clear hfill
  refine wpAny_call ?_
  k_with_none
  k_with "M enter" => (refine' code_def ?k1 ?k2 ?k3 ?k4 ?k5 ?kA ?kF ?kK ?k6 ?k7 ?k8 ?k9 ?kB ?_ ?c2 ?c3 ?c4 ?c5; (case kA => exact rfl); (case kF => exact rfl); (case kK => assumption); (case k1 => k_asm); (case k2 => k_asm); (case k3 => k_asm); (case k4 => k_asm); (case k5 => k_asm); (case k6 => k_is); (case k7 => k_is); (case k8 => first | exact rm0 (by assumption) | ktr_room); (case k9 => first | exact BindsTo.of_eq rfl | exact binds_K (by k_in) rfl (by k_is) rfl rfl rfl); (case c5 => decide); (case kB => exact locs rfl); (case c2 => exact rfl); (case c3 => exact rfl); (case c4 => exact rfl); k_whole; intro g' L' h' FG' F' N' B' X' T'; (try dsimp only); (try k_lift B'); (try k_fold))
  k_dflt (walk_at "M enter")
  k_with_none
  k_with "M om" => (first | with_reducible assumption | exact Nat.le_succ_of_le (by with_reducible assumption) | exact Nat.le_of_lt (by with_reducible assumption) | exact Nat.le_of_succ_le (by with_reducible assumption) | exact Nat.le_trans (by with_reducible assumption) (by decide) | exact Nat.le_trans (Nat.le_of_succ_le (by with_reducible assumption)) (Nat.le_trans (by with_reducible assumption) (by decide)))
  k_with "M use" => ((case u1x => k_asm); (case u2x => k_asm); (case u3x => k_asm); (case u5x => k_asm); (case uKx => first | assumption | exact rfl); (case udx => first | exact rmA (by assumption) (by decide) | ktr_room); (case uux => first | exact umA (by assumption) (by decide) | ktr_units))
  k_with "M in" => (first | with_reducible assumption | exact Frag.In.keeps (by with_reducible assumption) (Fr.keep (by with_reducible assumption)))
  k_with "call ref" => (k_here; k_extra "M call")
  k_with "call ref" => (k_here; with_reducible first | refine call_app0 ?_ | refine call_app1 ?_ | refine call_app2 ?_)
  k_with "M kN" => (first | assumption | exact news_tl1 (by assumption) | exact news_tl2 (by assumption) | exact news_tl3 (by assumption) | exact news_tl4 (by assumption) | exact news_dr1 (by assumption) | exact news_dr2 (by assumption) | exact news_dr3 (by assumption))
  k_with "eval Call" => (k_here; k_dflt (refine Call_ ?_))
  k_with "M all" => (first | assumption | exact apart_of (by first | assumption | exact And.right (by assumption) | exact And.right (And.right (by assumption)) | exact And.right (And.right (And.right (by assumption))) | exact And.right (And.right (And.right (And.right (by assumption))))))
  k_with "M call" => ((with_reducible show wpAny _ _ (call (Value.ref 158) _) _ _ _); k_dflt (refine' c_is_among ?u1x ?u2x ?u3x ?u4x ?u5x ?uKx ?udx ?uux ?_; walk_at "M use"; (case u4x => k_asm)); k_whole; intro h' tk' F' N'; (try dsimp only); (try k_sweep))
  k_with "M call" => ((with_reducible show wpAny _ _ (call (Value.ref 179) _) _ _ _); k_dflt (refine' c_name_letters ?u1x ?u2x ?u3x ?u4x ?u5x ?uKx ?udx ?uux ?_; walk_at "M use"; (case u4x => k_asm)); k_whole; intro h' tk' t' F' N'; (try dsimp only); (try k_sweep))
  k_with "M led" => (first | k_asm | exact news_rot1 (by k_asm) | exact news_rot2 (by k_asm) | exact news_rot3 (by k_asm) | exact news_rot4 (by k_asm))
  k_with "M call" => ((with_reducible show wpAny _ _ (call (Value.ref 116) [_]) _ _ _); k_dflt (refine' c_signG0 ?u1x ?u2x ?u3x ?u4x ?u5x ?uKx ?udx ?uux ?z2 ?z3 ?z4 ?_; walk_at "M use"; (case u4x => walk_at "M led"); (case z2 => omega); (case z3 => omega); (case z4 => omega)); k_whole; intro h' tk' t' F' N'; (try dsimp only); (try k_sweep))
  k_with "M call" => ((with_reducible show wpAny _ _ (call (Value.ref 116) [_, _]) _ _ _); k_dflt (refine' c_sign ?u1x ?u2x ?u3x ?u4x ?u5x ?uKx ?udx ?uux ?z1 ?z2 ?z3 ?z4 ?_; walk_at "M use"; (case u4x => walk_at "M led"); (case z1 => first | exact cast1 | exact cast2 | rfl | omega); (case z2 => omega); (case z3 => omega); (case z4 => omega)); k_whole; intro h' tk' t' F' N'; (try dsimp only); (try k_sweep))
  k_with "M call" => ((with_reducible show wpAny _ _ (call (Value.ref 116) [_]) _ _ _); k_dflt (refine' c_sign0 ?u1x ?u2x ?u3x ?u4x ?u5x ?uKx ?udx ?uux ?z2 ?z3 ?_; walk_at "M use"; (case u4x => walk_at "M led"); (case z2 => omega); (case z3 => omega)); k_whole; intro h' tk' t' F' N'; (try dsimp only); (try k_sweep))
  k_with "M ap" => (first | k_asm | k_all)
  k_with "M ne" => (first | k_asm | k_ne)
  k_with "M call" => ((with_reducible show wpAny _ _ (call (Value.ref 130) _) _ _ _); k_dflt (refine' c_step ?u1x ?u2x ?u3x ?u4x ?u5x ?uKx ?udx ?uux ?z1 ?z2 ?z3 ?z4 ?_; walk_at "M use"; (case u4x => walk_at "M led"); (case z1 => walk_at "M ne"); (case z2 => walk_at "M ap"); (case z3 => omega); (case z4 => omega)); k_whole; intro h' tk' t' t2' t3' t4' F' N'; (try dsimp only); (try k_sweep))
  k_with "M call" => ((with_reducible show wpAny _ _ (call (Value.ref 144) _) _ _ _); k_dflt (refine' c_place ?u1x ?u2x ?u3x ?u4x ?u5x ?uKx ?udx ?uux ?_; walk_at "M use"; (case u4x => walk_at "M led")); k_whole; intro h' tk' p' u3' u4' F' N' l1; (try dsimp only); (try k_lt l1); (try k_sweep))
  k_with "M call" => ((with_reducible show wpAny _ _ (call (Value.ref 137) _) _ _ _); k_dflt (refine' c_take ?u1x ?u2x ?u3x ?u4x ?u5x ?uKx ?udx ?uux ?z1 ?z2 ?z3 ?z4 ?_; walk_at "M use"; (case u4x => walk_at "M led"); (case z1 => walk_at "M ne"); (case z2 => walk_at "M ap"); (case z3 => omega); (case z4 => omega)); k_whole; intro h' tk' t' t2' t3' t4' F' N'; (try dsimp only); (try k_sweep))
  k_with "M call" => ((with_reducible show wpAny _ _ (call (Value.ref 52) _) _ _ _); k_dflt (refine' c_make ?u1x ?u2x ?u3x ?u4x ?u5x ?uKx ?udx ?uux ?_; walk_at "M use"; (case u4x => k_asm)); k_whole; intro h' tk' e' t' dx' h1' h2' k1' k2' F' N' ap' l1; (try dsimp only); (try k_sweep))
  k_with "M mem" => (repeat (first | exact List.mem_cons_self | assumption | refine List.mem_cons_of_mem _ ?_))
  k_with "M sub" => (intro q hq; repeat (first | assumption | refine List.mem_cons_of_mem _ ?_))
  k_with "exec Raise some none" => (k_here; k_dflt (refine raise52 (by rfl) ?_))
  k_with "RaiseQ" => (k_here; (rename News _ _ _ _ => nX'); refine ⟨_, _, _, rfl, by k_in, (nX' _ (.tail _ (.head _))).1, ?_⟩)
  k_with "leaving ref" => (k_here; k_dflt (refine' leaveNew ?K ?F ?N ?ap ?l ?_; (case N => assumption); (case F => k_asm); (case K => k_asm); (case ap => assumption); (case l => assumption)); intro h' R' U'; (try dsimp only))
  k_with "leaving ref" => (k_here; k_dflt (refine' leaveOnAt ?K ?F ?R ?U ?_; (case K => k_asm); (case R => assumption); (case U => assumption); (case F => assumption)); intro h' R' U'; (try dsimp only))
  k_with "M call" => ((with_reducible show wpAny _ _ (call (Value.ref 228) _) _ _ _); k_dflt (refine' c_read_dec ?u1x ?u2x ?u3x ?u4x ?u5x ?uKx ?udx ?uux ?z1 ?z2 ?z3 ?z4 ?z5 ?z6 ?zR ?zE; walk_at "M use"; (case u4x => walk_at "M led"); (case z1 => walk_at "M ne"); (case z2 => walk_at "M ap"); (case z3 => omega); (case z4 => omega); (case z5 => assumption); (case z6 => assumption)); (case' zR => (k_whole; intro hfl' h' tk' t' t2' t3' t4' F' N'; (try dsimp only); (try k_sweep))); (case' zE => (k_whole; intro hfl' e' g₂' h' tk' F' U' R'; (try dsimp only))))
  k_with "M call" => ((with_reducible show wpAny _ _ (call (Value.ref 228) _) _ _ _); k_dflt (refine' c_read_hex ?u1x ?u2x ?u3x ?u4x ?u5x ?uKx ?udx ?uux ?z1 ?z2 ?z3 ?z4 ?z5 ?z6 ?z7 ?z8 ?_; walk_at "M use"; (case u4x => walk_at "M led"); (case z1 => walk_at "M ne"); (case z2 => walk_at "M ap"); (case z3 => omega); (case z4 => omega); (case z5 => assumption); (case z6 => assumption); (case z7 => assumption); (case z8 => assumption)); k_whole; intro h' tk' t' t2' t3' t4' F' N'; (try dsimp only); (try k_sweep))
  k_with "M kN" => (first | assumption | (refine news_sub (by assumption) ?_; (repeat refine List.forall_mem_cons.mpr (And.intro (by walk_at "M mem") ?_)); walk_at "M sub"))
  k_with "M call" => ((with_reducible show wpAny _ _ (call (Value.ref 256) _) _ _ _); k_dflt (refine' c_char_plain ?u1x ?u2x ?u3x ?u4x ?u5x ?uKx ?udx ?uux ?z1 ?z2 ?z3 ?z4 ?z5 ?z6 ?z7 ?z8 ?z9 ?_; walk_at "M use"; (case u4x => walk_at "M led"); (case z1 => walk_at "M ne"); (case z2 => walk_at "M ap"); (case z3 => omega); (case z4 => omega); (case z5 => first | assumption | omega); (case z6 => first | assumption | omega); (case z7 => first | assumption | omega); (case z8 => first | assumption | omega); (case z9 => first | assumption | omega)); k_whole; intro h' tk' t' t2' t3' t4' F' N'; (try dsimp only); (try k_sweep))
  k_with "M call" => ((with_reducible show wpAny _ _ (call (Value.ref 256) _) _ _ _); k_dflt (refine' c_char_t ?u1x ?u2x ?u3x ?u4x ?u5x ?uKx ?udx ?uux ?z1 ?z2 ?z3 ?z4 ?z5 ?z6 ?z7 ?_; walk_at "M use"; (case u4x => walk_at "M led"); (case z1 => walk_at "M ne"); (case z2 => walk_at "M ap"); (case z3 => omega); (case z4 => omega); (case z5 => first | assumption | omega); (case z6 => first | assumption | omega); (case z7 => first | assumption | omega)); k_whole; intro h' tk' t' t2' t3' t4' F' N'; (try dsimp only); (try k_sweep))
  k_with "M call" => ((with_reducible show wpAny _ _ (call (Value.ref 256) _) _ _ _); k_dflt (refine' c_char_bad ?u1x ?u2x ?u3x ?u4x ?u5x ?uKx ?udx ?uux ?z1 ?z2 ?z3 ?z4 ?z5 ?_; walk_at "M use"; (case u4x => walk_at "M led"); (case z1 => walk_at "M ne"); (case z2 => walk_at "M ap"); (case z3 => omega); (case z4 => omega); (case z5 => first | assumption | omega)); k_whole; intro e' g₂' h' tk' F' U' R'; (try dsimp only))
  k_with "M call" => ((with_reducible show wpAny _ _ (call (Value.ref 270) _) _ _ _); k_dflt (refine' c_text_ok ?u1x ?u2x ?u3x ?u4x ?u5x ?uKx ?udx ?uux ?z1 ?z2 ?z3 ?z4 ?z5 ?_; walk_at "M use"; (case u4x => walk_at "M led"); (case z1 => walk_at "M ne"); (case z2 => walk_at "M ap"); (case z3 => omega); (case z4 => omega); (case z5 => assumption)); k_whole; intro h' tk' t' t2' t3' t4' F' N'; (try dsimp only); (try k_sweep))
  k_with "M call" => ((with_reducible show wpAny _ _ (call (Value.ref 270) _) _ _ _); k_dflt (refine' c_text_bad ?u1x ?u2x ?u3x ?u4x ?u5x ?uKx ?udx ?uux ?z1 ?z2 ?z3 ?z4 ?z5 ?_; walk_at "M use"; (case u4x => walk_at "M led"); (case z1 => walk_at "M ne"); (case z2 => walk_at "M ap"); (case z3 => omega); (case z4 => omega); (case z5 => assumption)); k_whole; intro e' g₂' h' tk' F' U' R'; (try dsimp only))
  k_with "M call" => ((with_reducible show wpAny _ _ (call (Value.ref 277) _) _ _ _); k_dflt (refine' c_symbol_kind ?u1x ?u2x ?u3x ?u4x ?u5x ?uKx ?udx ?uux ?z1 ?z2 ?_; walk_at "M use"; (case u4x => k_asm); (case z1 => omega); (case z2 => omega)); k_whole; intro h' tk' t' F' N'; (try dsimp only); (try k_sweep))
  k_with "M lt" => ((rename (_ < _ ∧ _) => l1); first | exact l1.1 | exact l1.2.1 | exact ktn_ltOf l1.2.2)
  k_with "compareOp In str ref" => (k_here; (with_reducible show wpAny _ _ (compareOp CmpOp.In (Value.str _ _) (Value.ref 55)) _ _ _); k_dflt (refine in_keys (by k_in) ?_))
  k_steps
  · exact hret _ _ _ _ _ _ _ _ _ (by assumption) (by walk_at "M kN") .none (by walk_at "M lt") (by walk_at "M lt") (by walk_at "M lt")
theorem c_word_special {w : World} {dp un : Nat} {gd : Option (List Code)} {cn : Str} {cs : Scope} {a : Addr} {ccd : Value} {cl : List (Str × Addr)} {outer : List Env} {A₀ : Around} {base h₀ : Heap} {L : Addr} {m : Str → Option Value} {s : Shared} {mean : ExcName → Option Value} {mg mb : Str → Option Value} {Q E : Value → Shared → Prop} {rest : List (Addr × Obj)} {x d : Addr} {k : SgK} {T : List Nat} {t1 t2 t3 t4 : Tok} {i : Nat}
  (B : Below A₀ base outer h₀) (F : Fr h₀ L s.heap m) (X : (Mine.hd.heap_1 w.params).In h₀) (N : News h₀ L s.heap ((d, SGo k T i t1 t2 t3 t4) :: (x, instObj 147 d) :: rest)) (TT : Top Mine.hd.view_1 lz mean mg mb h₀) (hk : cs.kind = .function) (hd : dp + 7 < recursionLimit) (hu : un + 8 * 7 < cLine)
  (hxd : x ≠ d) (hap : ∀ p ∈ rest, p.1 ≠ d) (hT : T.length ≤ 9000) (hi : i ≤ T.length) (h1 : amg T[i]? SPC = true)
  (hret : ∀ h' tk' p ta tb v t2 t3 t4, Fr h₀ L h' m → News h₀ L h' ((p, tup3 (.str (Str.ofString "special") ta) (.str (sgo T[i]?) tb) v) :: (d, SGo k T (i + 1) t1 t2 t3 t4) :: (x, instObj 147 d) :: rest) → DatIn [] v .none → d < p → x < p → (∀ q ∈ rest, q.1 < p) → Q (.ref p) { s with heap := h', toks := tk' }) :
  wpAny (model PySem.Challenge.rw_sy0021_01.row.prog w) (ktrTop dp un gd cn cs L a ccd cl outer) (call (.ref 305) [.ref x]) Q E s := by
  have f1 := amg_ne h1
  have f4 := lt_of_amg h1
  unfold SPC at *
  have hfill : (Mine.hd.heap_1 = Mine.hd.heap_1 ∧ PySem.Challenge.rw_sy0021_01 = PySem.Challenge.rw_sy0021_01) := by k_fill; exact ⟨rfl, rfl⟩
  clear hfill
  refine wpAny_call ?_
  k_with_none
  k_with "M enter" => (refine' code_def ?k1 ?k2 ?k3 ?k4 ?k5 ?kA ?kF ?kK ?k6 ?k7 ?k8 ?k9 ?kB ?_ ?c2 ?c3 ?c4 ?c5; (case kA => exact rfl); (case kF => exact rfl); (case kK => assumption); (case k1 => k_asm); (case k2 => k_asm); (case k3 => k_asm); (case k4 => k_asm); (case k5 => k_asm); (case k6 => k_is); (case k7 => k_is); (case k8 => first | exact rm0 (by assumption) | ktr_room); (case k9 => first | exact BindsTo.of_eq rfl | exact binds_K (by k_in) rfl (by k_is) rfl rfl rfl); (case c5 => decide); (case kB => exact locs rfl); (case c2 => exact rfl); (case c3 => exact rfl); (case c4 => exact rfl); k_whole; intro g' L' h' FG' F' N' B' X' T'; (try dsimp only); (try k_lift B'); (try k_fold))
  k_dflt (walk_at "M enter")
  k_with_none
  k_with "M om" => (first | with_reducible assumption | exact Nat.le_succ_of_le (by with_reducible assumption) | exact Nat.le_of_lt (by with_reducible assumption) | exact Nat.le_of_succ_le (by with_reducible assumption) | exact Nat.le_trans (by with_reducible assumption) (by decide) | exact Nat.le_trans (Nat.le_of_succ_le (by with_reducible assumption)) (Nat.le_trans (by with_reducible assumption) (by decide)))
  k_with "M use" => ((case u1x => k_asm); (case u2x => k_asm); (case u3x => k_asm); (case u5x => k_asm); (case uKx => first | assumption | exact rfl); (case udx => first | exact rmA (by assumption) (by decide) | ktr_room); (case uux => first | exact umA (by assumption) (by decide) | ktr_units))
  k_with "M in" => (first | with_reducible assumption | exact Frag.In.keeps (by with_reducible assumption) (Fr.keep (by with_reducible assumption)))
  k_with "call ref" => (k_here; k_extra "M call")
  k_with "call ref" => (k_here; with_reducible first | refine call_app0 ?_ | refine call_app1 ?_ | refine call_app2 ?_)
  k_with "M kN" => (first | assumption | exact news_tl1 (by assumption) | exact news_tl2 (by assumption) | exact news_tl3 (by assumption) | exact news_tl4 (by assumption) | exact news_dr1 (by assumption) | exact news_dr2 (by assumption) | exact news_dr3 (by assumption))
  k_with "eval Call" => (k_here; k_dflt (refine Call_ ?_))
  k_with "M all" => (first | assumption | exact apart_of (by first | assumption | exact And.right (by assumption) | exact And.right (And.right (by assumption)) | exact And.right (And.right (And.right (by assumption))) | exact And.right (And.right (And.right (And.right (by assumption))))))
  k_with "M call" => ((with_reducible show wpAny _ _ (call (Value.ref 158) _) _ _ _); k_dflt (refine' c_is_among ?u1x ?u2x ?u3x ?u4x ?u5x ?uKx ?udx ?uux ?_; walk_at "M use"; (case u4x => k_asm)); k_whole; intro h' tk' F' N'; (try dsimp only); (try k_sweep))
  k_with "M call" => ((with_reducible show wpAny _ _ (call (Value.ref 179) _) _ _ _); k_dflt (refine' c_name_letters ?u1x ?u2x ?u3x ?u4x ?u5x ?uKx ?udx ?uux ?_; walk_at "M use"; (case u4x => k_asm)); k_whole; intro h' tk' t' F' N'; (try dsimp only); (try k_sweep))
  k_with "M led" => (first | k_asm | exact news_rot1 (by k_asm) | exact news_rot2 (by k_asm) | exact news_rot3 (by k_asm) | exact news_rot4 (by k_asm))
  k_with "M call" => ((with_reducible show wpAny _ _ (call (Value.ref 116) [_]) _ _ _); k_dflt (refine' c_signG0 ?u1x ?u2x ?u3x ?u4x ?u5x ?uKx ?udx ?uux ?z2 ?z3 ?z4 ?_; walk_at "M use"; (case u4x => walk_at "M led"); (case z2 => omega); (case z3 => omega); (case z4 => omega)); k_whole; intro h' tk' t' F' N'; (try dsimp only); (try k_sweep))
  k_with "M call" => ((with_reducible show wpAny _ _ (call (Value.ref 116) [_, _]) _ _ _); k_dflt (refine' c_sign ?u1x ?u2x ?u3x ?u4x ?u5x ?uKx ?udx ?uux ?z1 ?z2 ?z3 ?z4 ?_; walk_at "M use"; (case u4x => walk_at "M led"); (case z1 => first | exact cast1 | exact cast2 | rfl | omega); (case z2 => omega); (case z3 => omega); (case z4 => omega)); k_whole; intro h' tk' t' F' N'; (try dsimp only); (try k_sweep))
  k_with "M call" => ((with_reducible show wpAny _ _ (call (Value.ref 116) [_]) _ _ _); k_dflt (refine' c_sign0 ?u1x ?u2x ?u3x ?u4x ?u5x ?uKx ?udx ?uux ?z2 ?z3 ?_; walk_at "M use"; (case u4x => walk_at "M led"); (case z2 => omega); (case z3 => omega)); k_whole; intro h' tk' t' F' N'; (try dsimp only); (try k_sweep))
  k_with "M ap" => (first | k_asm | k_all)
  k_with "M ne" => (first | k_asm | k_ne)
  k_with "M call" => ((with_reducible show wpAny _ _ (call (Value.ref 130) _) _ _ _); k_dflt (refine' c_step ?u1x ?u2x ?u3x ?u4x ?u5x ?uKx ?udx ?uux ?z1 ?z2 ?z3 ?z4 ?_; walk_at "M use"; (case u4x => walk_at "M led"); (case z1 => walk_at "M ne"); (case z2 => walk_at "M ap"); (case z3 => omega); (case z4 => omega)); k_whole; intro h' tk' t' t2' t3' t4' F' N'; (try dsimp only); (try k_sweep))
  k_with "M call" => ((with_reducible show wpAny _ _ (call (Value.ref 144) _) _ _ _); k_dflt (refine' c_place ?u1x ?u2x ?u3x ?u4x ?u5x ?uKx ?udx ?uux ?_; walk_at "M use"; (case u4x => walk_at "M led")); k_whole; intro h' tk' p' u3' u4' F' N' l1; (try dsimp only); (try k_lt l1); (try k_sweep))
  k_with "M call" => ((with_reducible show wpAny _ _ (call (Value.ref 137) _) _ _ _); k_dflt (refine' c_take ?u1x ?u2x ?u3x ?u4x ?u5x ?uKx ?udx ?uux ?z1 ?z2 ?z3 ?z4 ?_; walk_at "M use"; (case u4x => walk_at "M led"); (case z1 => walk_at "M ne"); (case z2 => walk_at "M ap"); (case z3 => omega); (case z4 => omega)); k_whole; intro h' tk' t' t2' t3' t4' F' N'; (try dsimp only); (try k_sweep))
  k_with "M call" => ((with_reducible show wpAny _ _ (call (Value.ref 52) _) _ _ _); k_dflt (refine' c_make ?u1x ?u2x ?u3x ?u4x ?u5x ?uKx ?udx ?uux ?_; walk_at "M use"; (case u4x => k_asm)); k_whole; intro h' tk' e' t' dx' h1' h2' k1' k2' F' N' ap' l1; (try dsimp only); (try k_sweep))
  k_with "M mem" => (repeat (first | exact List.mem_cons_self | assumption | refine List.mem_cons_of_mem _ ?_))
  k_with "M sub" => (intro q hq; repeat (first | assumption | refine List.mem_cons_of_mem _ ?_))
  k_with "exec Raise some none" => (k_here; k_dflt (refine raise52 (by rfl) ?_))
  k_with "RaiseQ" => (k_here; (rename News _ _ _ _ => nX'); refine ⟨_, _, _, rfl, by k_in, (nX' _ (.tail _ (.head _))).1, ?_⟩)
  k_with "leaving ref" => (k_here; k_dflt (refine' leaveNew ?K ?F ?N ?ap ?l ?_; (case N => assumption); (case F => k_asm); (case K => k_asm); (case ap => assumption); (case l => assumption)); intro h' R' U'; (try dsimp only))
  k_with "leaving ref" => (k_here; k_dflt (refine' leaveOnAt ?K ?F ?R ?U ?_; (case K => k_asm); (case R => assumption); (case U => assumption); (case F => assumption)); intro h' R' U'; (try dsimp only))
  k_with "M call" => ((with_reducible show wpAny _ _ (call (Value.ref 228) _) _ _ _); k_dflt (refine' c_read_dec ?u1x ?u2x ?u3x ?u4x ?u5x ?uKx ?udx ?uux ?z1 ?z2 ?z3 ?z4 ?z5 ?z6 ?zR ?zE; walk_at "M use"; (case u4x => walk_at "M led"); (case z1 => walk_at "M ne"); (case z2 => walk_at "M ap"); (case z3 => omega); (case z4 => omega); (case z5 => assumption); (case z6 => assumption)); (case' zR => (k_whole; intro hfl' h' tk' t' t2' t3' t4' F' N'; (try dsimp only); (try k_sweep))); (case' zE => (k_whole; intro hfl' e' g₂' h' tk' F' U' R'; (try dsimp only))))
  k_with "M call" => ((with_reducible show wpAny _ _ (call (Value.ref 228) _) _ _ _); k_dflt (refine' c_read_hex ?u1x ?u2x ?u3x ?u4x ?u5x ?uKx ?udx ?uux ?z1 ?z2 ?z3 ?z4 ?z5 ?z6 ?z7 ?z8 ?_; walk_at "M use"; (case u4x => walk_at "M led"); (case z1 => walk_at "M ne"); (case z2 => walk_at "M ap"); (case z3 => omega); (case z4 => omega); (case z5 => assumption); (case z6 => assumption); (case z7 => assumption); (case z8 => assumption)); k_whole; intro h' tk' t' t2' t3' t4' F' N'; (try dsimp only); (try k_sweep))
  k_with "M kN" => (first | assumption | (refine news_sub (by assumption) ?_; (repeat refine List.forall_mem_cons.mpr (And.intro (by walk_at "M mem") ?_)); walk_at "M sub"))
  k_with "M call" => ((with_reducible show wpAny _ _ (call (Value.ref 256) _) _ _ _); k_dflt (refine' c_char_plain ?u1x ?u2x ?u3x ?u4x ?u5x ?uKx ?udx ?uux ?z1 ?z2 ?z3 ?z4 ?z5 ?z6 ?z7 ?z8 ?z9 ?_; walk_at "M use"; (case u4x => walk_at "M led"); (case z1 => walk_at "M ne"); (case z2 => walk_at "M ap"); (case z3 => omega); (case z4 => omega); (case z5 => first | assumption | omega); (case z6 => first | assumption | omega); (case z7 => first | assumption | omega); (case z8 => first | assumption | omega); (case z9 => first | assumption | omega)); k_whole; intro h' tk' t' t2' t3' t4' F' N'; (try dsimp only); (try k_sweep))
  k_with "M call" => ((with_reducible show wpAny _ _ (call (Value.ref 256) _) _ _ _); k_dflt (refine' c_char_t ?u1x ?u2x ?u3x ?u4x ?u5x ?uKx ?udx ?uux ?z1 ?z2 ?z3 ?z4 ?z5 ?z6 ?z7 ?_; walk_at "M use"; (case u4x => walk_at "M led"); (case z1 => walk_at "M ne"); (case z2 => walk_at "M ap"); (case z3 => omega); (case z4 => omega); (case z5 => first | assumption | omega); (case z6 => first | assumption | omega); (case z7 => first | assumption | omega)); k_whole; intro h' tk' t' t2' t3' t4' F' N'; (try dsimp only); (try k_sweep))
  k_with "M call" => ((with_reducible show wpAny _ _ (call (Value.ref 256) _) _ _ _); k_dflt (refine' c_char_bad ?u1x ?u2x ?u3x ?u4x ?u5x ?uKx ?udx ?uux ?z1 ?z2 ?z3 ?z4 ?z5 ?_; walk_at "M use"; (case u4x => walk_at "M led"); (case z1 => walk_at "M ne"); (case z2 => walk_at "M ap"); (case z3 => omega); (case z4 => omega); (case z5 => first | assumption | omega)); k_whole; intro e' g₂' h' tk' F' U' R'; (try dsimp only))
  k_with "M call" => ((with_reducible show wpAny _ _ (call (Value.ref 270) _) _ _ _); k_dflt (refine' c_text_ok ?u1x ?u2x ?u3x ?u4x ?u5x ?uKx ?udx ?uux ?z1 ?z2 ?z3 ?z4 ?z5 ?_; walk_at "M use"; (case u4x => walk_at "M led"); (case z1 => walk_at "M ne"); (case z2 => walk_at "M ap"); (case z3 => omega); (case z4 => omega); (case z5 => assumption)); k_whole; intro h' tk' t' t2' t3' t4' F' N'; (try dsimp only); (try k_sweep))
  k_with "M call" => ((with_reducible show wpAny _ _ (call (Value.ref 270) _) _ _ _); k_dflt (refine' c_text_bad ?u1x ?u2x ?u3x ?u4x ?u5x ?uKx ?udx ?uux ?z1 ?z2 ?z3 ?z4 ?z5 ?_; walk_at "M use"; (case u4x => walk_at "M led"); (case z1 => walk_at "M ne"); (case z2 => walk_at "M ap"); (case z3 => omega); (case z4 => omega); (case z5 => assumption)); k_whole; intro e' g₂' h' tk' F' U' R'; (try dsimp only))
  k_with "M call" => ((with_reducible show wpAny _ _ (call (Value.ref 277) _) _ _ _); k_dflt (refine' c_symbol_kind ?u1x ?u2x ?u3x ?u4x ?u5x ?uKx ?udx ?uux ?z1 ?z2 ?_; walk_at "M use"; (case u4x => k_asm); (case z1 => omega); (case z2 => omega)); k_whole; intro h' tk' t' F' N'; (try dsimp only); (try k_sweep))
  k_with "M lt" => ((rename (_ < _ ∧ _) => l1); first | exact l1.1 | exact l1.2.1 | exact ktn_ltOf l1.2.2)
  k_with "compareOp In str ref" => (k_here; (with_reducible show wpAny _ _ (compareOp CmpOp.In (Value.str _ _) (Value.ref 55)) _ _ _); k_dflt (refine in_keys (by k_in) ?_))
  k_steps
  · exact hret _ _ _ _ _ _ _ _ _ (by assumption) (by walk_at "M kN") .none (by walk_at "M lt") (by walk_at "M lt") (by walk_at "M lt")
theorem c_word_small {w : World} {dp un : Nat} {gd : Option (List Code)} {cn : Str} {cs : Scope} {a : Addr} {ccd : Value} {cl : List (Str × Addr)} {outer : List Env} {A₀ : Around} {base h₀ : Heap} {L : Addr} {m : Str → Option Value} {s : Shared} {mean : ExcName → Option Value} {mg mb : Str → Option Value} {Q E : Value → Shared → Prop} {rest : List (Addr × Obj)} {x d : Addr} {k : SgK} {T : List Nat} {t1 t2 t3 t4 : Tok} {i j : Nat}
  (B : Below A₀ base outer h₀) (F : Fr h₀ L s.heap m) (X : (Mine.hd.heap_1 w.params).In h₀) (N : News h₀ L s.heap ((d, SGo k T i t1 t2 t3 t4) :: (x, instObj 147 d) :: rest)) (TT : Top Mine.hd.view_1 lz mean mg mb h₀) (hk : cs.kind = .function) (hd : dp + 7 < recursionLimit) (hu : un + 8 * 7 < cLine)
  (hxd : x ≠ d) (hap : ∀ p ∈ rest, p.1 ≠ d) (hT : T.length ≤ 9000) (hi : i ≤ T.length) (h1 : amg T[i]? SML = true) (hj : takeEnd T NMS i = j)
  (hret : ∀ h' tk' p ta tb v t2 t3 t4, Fr h₀ L h' m → News h₀ L h' ((p, tup3 (.str (keyK (cut T i j)) ta) (.str (tx (cut T i j)) tb) v) :: (d, SGo k T j t1 t2 t3 t4) :: (x, instObj 147 d) :: rest) → DatIn [] v .none → d < p → x < p → (∀ q ∈ rest, q.1 < p) → Q (.ref p) { s with heap := h', toks := tk' }) :
  wpAny (model PySem.Challenge.rw_sy0021_01.row.prog w) (ktrTop dp un gd cn cs L a ccd cl outer) (call (.ref 305) [.ref x]) Q E s := by
  subst hj
  have f1 := amg_ne h1
  have f2 := amg_off h1 sml_spc
  have f3 := amg_off h1 sml_dig
  have f4 := lt_of_amg h1
  unfold SML SPC DIG at *
  have hfill : (Mine.hd.heap_1 = Mine.hd.heap_1 ∧ PySem.Challenge.rw_sy0021_01 = PySem.Challenge.rw_sy0021_01) := by k_fill; exact ⟨rfl, rfl⟩
  clear hfill
  refine wpAny_call ?_
  k_with_none
  k_with "M enter" => (refine' code_def ?k1 ?k2 ?k3 ?k4 ?k5 ?kA ?kF ?kK ?k6 ?k7 ?k8 ?k9 ?kB ?_ ?c2 ?c3 ?c4 ?c5; (case kA => exact rfl); (case kF => exact rfl); (case kK => assumption); (case k1 => k_asm); (case k2 => k_asm); (case k3 => k_asm); (case k4 => k_asm); (case k5 => k_asm); (case k6 => k_is); (case k7 => k_is); (case k8 => first | exact rm0 (by assumption) | ktr_room); (case k9 => first | exact BindsTo.of_eq rfl | exact binds_K (by k_in) rfl (by k_is) rfl rfl rfl); (case c5 => decide); (case kB => exact locs rfl); (case c2 => exact rfl); (case c3 => exact rfl); (case c4 => exact rfl); k_whole; intro g' L' h' FG' F' N' B' X' T'; (try dsimp only); (try k_lift B'); (try k_fold))
  k_dflt (walk_at "M enter")
  k_with_none
  k_with "M om" => (first | with_reducible assumption | exact Nat.le_succ_of_le (by with_reducible assumption) | exact Nat.le_of_lt (by with_reducible assumption) | exact Nat.le_of_succ_le (by with_reducible assumption) | exact Nat.le_trans (by with_reducible assumption) (by decide) | exact Nat.le_trans (Nat.le_of_succ_le (by with_reducible assumption)) (Nat.le_trans (by with_reducible assumption) (by decide)))
  k_with "M use" => ((case u1x => k_asm); (case u2x => k_asm); (case u3x => k_asm); (case u5x => k_asm); (case uKx => first | assumption | exact rfl); (case udx => first | exact rmA (by assumption) (by decide) | ktr_room); (case uux => first | exact umA (by assumption) (by decide) | ktr_units))
  k_with "M in" => (first | with_reducible assumption | exact Frag.In.keeps (by with_reducible assumption) (Fr.keep (by with_reducible assumption)))
  k_with "call ref" => (k_here; k_extra "M call")
  k_with "call ref" => (k_here; with_reducible first | refine call_app0 ?_ | refine call_app1 ?_ | refine call_app2 ?_)
  k_with "eval Call" => (k_here; k_dflt (refine Call_ ?_))
  k_with "M all" => (first | assumption | exact apart_of (by first | assumption | exact And.right (by assumption) | exact And.right (And.right (by assumption)) | exact And.right (And.right (And.right (by assumption))) | exact And.right (And.right (And.right (And.right (by assumption))))))
  k_with "M call" => ((with_reducible show wpAny _ _ (call (Value.ref 158) _) _ _ _); k_dflt (refine' c_is_among ?u1x ?u2x ?u3x ?u4x ?u5x ?uKx ?udx ?uux ?_; walk_at "M use"; (case u4x => k_asm)); k_whole; intro h' tk' F' N'; (try dsimp only); (try k_sweep))
  k_with "M call" => ((with_reducible show wpAny _ _ (call (Value.ref 179) _) _ _ _); k_dflt (refine' c_name_letters ?u1x ?u2x ?u3x ?u4x ?u5x ?uKx ?udx ?uux ?_; walk_at "M use"; (case u4x => k_asm)); k_whole; intro h' tk' t' F' N'; (try dsimp only); (try k_sweep))
  k_with "M led" => (first | k_asm | exact news_rot1 (by k_asm) | exact news_rot2 (by k_asm) | exact news_rot3 (by k_asm) | exact news_rot4 (by k_asm))
  k_with "M call" => ((with_reducible show wpAny _ _ (call (Value.ref 116) [_]) _ _ _); k_dflt (refine' c_signG0 ?u1x ?u2x ?u3x ?u4x ?u5x ?uKx ?udx ?uux ?z2 ?z3 ?z4 ?_; walk_at "M use"; (case u4x => walk_at "M led"); (case z2 => omega); (case z3 => omega); (case z4 => omega)); k_whole; intro h' tk' t' F' N'; (try dsimp only); (try k_sweep))
  k_with "M call" => ((with_reducible show wpAny _ _ (call (Value.ref 116) [_, _]) _ _ _); k_dflt (refine' c_sign ?u1x ?u2x ?u3x ?u4x ?u5x ?uKx ?udx ?uux ?z1 ?z2 ?z3 ?z4 ?_; walk_at "M use"; (case u4x => walk_at "M led"); (case z1 => first | exact cast1 | exact cast2 | rfl | omega); (case z2 => omega); (case z3 => omega); (case z4 => omega)); k_whole; intro h' tk' t' F' N'; (try dsimp only); (try k_sweep))
  k_with "M call" => ((with_reducible show wpAny _ _ (call (Value.ref 116) [_]) _ _ _); k_dflt (refine' c_sign0 ?u1x ?u2x ?u3x ?u4x ?u5x ?uKx ?udx ?uux ?z2 ?z3 ?_; walk_at "M use"; (case u4x => walk_at "M led"); (case z2 => omega); (case z3 => omega)); k_whole; intro h' tk' t' F' N'; (try dsimp only); (try k_sweep))
  k_with "M ap" => (first | k_asm | k_all)
  k_with "M ne" => (first | k_asm | k_ne)
  k_with "M call" => ((with_reducible show wpAny _ _ (call (Value.ref 130) _) _ _ _); k_dflt (refine' c_step ?u1x ?u2x ?u3x ?u4x ?u5x ?uKx ?udx ?uux ?z1 ?z2 ?z3 ?z4 ?_; walk_at "M use"; (case u4x => walk_at "M led"); (case z1 => walk_at "M ne"); (case z2 => walk_at "M ap"); (case z3 => omega); (case z4 => omega)); k_whole; intro h' tk' t' t2' t3' t4' F' N'; (try dsimp only); (try k_sweep))
  k_with "M call" => ((with_reducible show wpAny _ _ (call (Value.ref 144) _) _ _ _); k_dflt (refine' c_place ?u1x ?u2x ?u3x ?u4x ?u5x ?uKx ?udx ?uux ?_; walk_at "M use"; (case u4x => walk_at "M led")); k_whole; intro h' tk' p' u3' u4' F' N' l1; (try dsimp only); (try k_lt l1); (try k_sweep))
  k_with "M call" => ((with_reducible show wpAny _ _ (call (Value.ref 137) _) _ _ _); k_dflt (refine' c_take ?u1x ?u2x ?u3x ?u4x ?u5x ?uKx ?udx ?uux ?z1 ?z2 ?z3 ?z4 ?_; walk_at "M use"; (case u4x => walk_at "M led"); (case z1 => walk_at "M ne"); (case z2 => walk_at "M ap"); (case z3 => omega); (case z4 => omega)); k_whole; intro h' tk' t' t2' t3' t4' F' N'; (try dsimp only); (try k_sweep))
  k_with "M call" => ((with_reducible show wpAny _ _ (call (Value.ref 52) _) _ _ _); k_dflt (refine' c_make ?u1x ?u2x ?u3x ?u4x ?u5x ?uKx ?udx ?uux ?_; walk_at "M use"; (case u4x => k_asm)); k_whole; intro h' tk' e' t' dx' h1' h2' k1' k2' F' N' ap' l1; (try dsimp only); (try k_sweep))
  k_with "exec Raise some none" => (k_here; k_dflt (refine raise52 (by rfl) ?_))
  k_with "RaiseQ" => (k_here; (rename News _ _ _ _ => nX'); refine ⟨_, _, _, rfl, by k_in, (nX' _ (.tail _ (.head _))).1, ?_⟩)
  k_with "leaving ref" => (k_here; k_dflt (refine' leaveNew ?K ?F ?N ?ap ?l ?_; (case N => assumption); (case F => k_asm); (case K => k_asm); (case ap => assumption); (case l => assumption)); intro h' R' U'; (try dsimp only))
  k_with "leaving ref" => (k_here; k_dflt (refine' leaveOnAt ?K ?F ?R ?U ?_; (case K => k_asm); (case R => assumption); (case U => assumption); (case F => assumption)); intro h' R' U'; (try dsimp only))
  k_with "M call" => ((with_reducible show wpAny _ _ (call (Value.ref 228) _) _ _ _); k_dflt (refine' c_read_dec ?u1x ?u2x ?u3x ?u4x ?u5x ?uKx ?udx ?uux ?z1 ?z2 ?z3 ?z4 ?z5 ?z6 ?zR ?zE; walk_at "M use"; (case u4x => walk_at "M led"); (case z1 => walk_at "M ne"); (case z2 => walk_at "M ap"); (case z3 => omega); (case z4 => omega); (case z5 => assumption); (case z6 => assumption)); (case' zR => (k_whole; intro hfl' h' tk' t' t2' t3' t4' F' N'; (try dsimp only); (try k_sweep))); (case' zE => (k_whole; intro hfl' e' g₂' h' tk' F' U' R'; (try dsimp only))))
  k_with "M call" => ((with_reducible show wpAny _ _ (call (Value.ref 228) _) _ _ _); k_dflt (refine' c_read_hex ?u1x ?u2x ?u3x ?u4x ?u5x ?uKx ?udx ?uux ?z1 ?z2 ?z3 ?z4 ?z5 ?z6 ?z7 ?z8 ?_; walk_at "M use"; (case u4x => walk_at "M led"); (case z1 => walk_at "M ne"); (case z2 => walk_at "M ap"); (case z3 => omega); (case z4 => omega); (case z5 => assumption); (case z6 => assumption); (case z7 => assumption); (case z8 => assumption)); k_whole; intro h' tk' t' t2' t3' t4' F' N'; (try dsimp only); (try k_sweep))
  k_with "M call" => ((with_reducible show wpAny _ _ (call (Value.ref 256) _) _ _ _); k_dflt (refine' c_char_plain ?u1x ?u2x ?u3x ?u4x ?u5x ?uKx ?udx ?uux ?z1 ?z2 ?z3 ?z4 ?z5 ?z6 ?z7 ?z8 ?z9 ?_; walk_at "M use"; (case u4x => walk_at "M led"); (case z1 => walk_at "M ne"); (case z2 => walk_at "M ap"); (case z3 => omega); (case z4 => omega); (case z5 => first | assumption | omega); (case z6 => first | assumption | omega); (case z7 => first | assumption | omega); (case z8 => first | assumption | omega); (case z9 => first | assumption | omega)); k_whole; intro h' tk' t' t2' t3' t4' F' N'; (try dsimp only); (try k_sweep))
  k_with "M call" => ((with_reducible show wpAny _ _ (call (Value.ref 256) _) _ _ _); k_dflt (refine' c_char_t ?u1x ?u2x ?u3x ?u4x ?u5x ?uKx ?udx ?uux ?z1 ?z2 ?z3 ?z4 ?z5 ?z6 ?z7 ?_; walk_at "M use"; (case u4x => walk_at "M led"); (case z1 => walk_at "M ne"); (case z2 => walk_at "M ap"); (case z3 => omega); (case z4 => omega); (case z5 => first | assumption | omega); (case z6 => first | assumption | omega); (case z7 => first | assumption | omega)); k_whole; intro h' tk' t' t2' t3' t4' F' N'; (try dsimp only); (try k_sweep))
  k_with "M call" => ((with_reducible show wpAny _ _ (call (Value.ref 256) _) _ _ _); k_dflt (refine' c_char_bad ?u1x ?u2x ?u3x ?u4x ?u5x ?uKx ?udx ?uux ?z1 ?z2 ?z3 ?z4 ?z5 ?_; walk_at "M use"; (case u4x => walk_at "M led"); (case z1 => walk_at "M ne"); (case z2 => walk_at "M ap"); (case z3 => omega); (case z4 => omega); (case z5 => first | assumption | omega)); k_whole; intro e' g₂' h' tk' F' U' R'; (try dsimp only))
  k_with "M call" => ((with_reducible show wpAny _ _ (call (Value.ref 270) _) _ _ _); k_dflt (refine' c_text_ok ?u1x ?u2x ?u3x ?u4x ?u5x ?uKx ?udx ?uux ?z1 ?z2 ?z3 ?z4 ?z5 ?_; walk_at "M use"; (case u4x => walk_at "M led"); (case z1 => walk_at "M ne"); (case z2 => walk_at "M ap"); (case z3 => omega); (case z4 => omega); (case z5 => assumption)); k_whole; intro h' tk' t' t2' t3' t4' F' N'; (try dsimp only); (try k_sweep))
  k_with "M call" => ((with_reducible show wpAny _ _ (call (Value.ref 270) _) _ _ _); k_dflt (refine' c_text_bad ?u1x ?u2x ?u3x ?u4x ?u5x ?uKx ?udx ?uux ?z1 ?z2 ?z3 ?z4 ?z5 ?_; walk_at "M use"; (case u4x => walk_at "M led"); (case z1 => walk_at "M ne"); (case z2 => walk_at "M ap"); (case z3 => omega); (case z4 => omega); (case z5 => assumption)); k_whole; intro e' g₂' h' tk' F' U' R'; (try dsimp only))
  k_with "M call" => ((with_reducible show wpAny _ _ (call (Value.ref 277) _) _ _ _); k_dflt (refine' c_symbol_kind ?u1x ?u2x ?u3x ?u4x ?u5x ?uKx ?udx ?uux ?z1 ?z2 ?_; walk_at "M use"; (case u4x => k_asm); (case z1 => omega); (case z2 => omega)); k_whole; intro h' tk' t' F' N'; (try dsimp only); (try k_sweep))
  k_with "M lt" => ((rename (_ < _ ∧ _) => l1); first | exact l1.1 | exact l1.2.1 | exact ktn_ltOf l1.2.2)
  k_with "compareOp In str ref" => (k_here; (with_reducible show wpAny _ _ (compareOp CmpOp.In (Value.str _ _) (Value.ref 55)) _ _ _); k_dflt (refine in_keys (by k_in) ?_))
  k_steps
  · exact hret _ _ _ _ _ _ _ _ _ (by assumption) (news_t3 (by assumption) (keyK_key (by assumption)) rfl) .none (by walk_at "M lt") (by walk_at "M lt") (by walk_at "M lt")
  · exact hret _ _ _ _ _ _ _ _ _ (by assumption) (news_t3 (by assumption) (keyK_var (by assumption)) rfl) .none (by walk_at "M lt") (by walk_at "M lt") (by walk_at "M lt")
theorem c_word_sym {w : World} {dp un : Nat} {gd : Option (List Code)} {cn : Str} {cs : Scope} {a : Addr} {ccd : Value} {cl : List (Str × Addr)} {outer : List Env} {A₀ : Around} {base h₀ : Heap} {L : Addr} {m : Str → Option Value} {s : Shared} {mean : ExcName → Option Value} {mg mb : Str → Option Value} {Q E : Value → Shared → Prop} {rest : List (Addr × Obj)} {x d : Addr} {k : SgK} {T : List Nat} {t1 t2 t3 t4 : Tok} {i j : Nat}
  (B : Below A₀ base outer h₀) (F : Fr h₀ L s.heap m) (X : (Mine.hd.heap_1 w.params).In h₀) (N : News h₀ L s.heap ((d, SGo k T i t1 t2 t3 t4) :: (x, instObj 147 d) :: rest)) (TT : Top Mine.hd.view_1 lz mean mg mb h₀) (hk : cs.kind = .function) (hd : dp + 7 < recursionLimit) (hu : un + 8 * 7 < cLine)
  (hxd : x ≠ d) (hap : ∀ p ∈ rest, p.1 ≠ d) (hT : T.length ≤ 9000) (hi : i ≤ T.length) (h1 : amg T[i]? SYM = true) (hj : takeEnd T SYM i = j)
  (hret : ∀ h' tk' p ta tb v t2 t3 t4, Fr h₀ L h' m → News h₀ L h' ((p, tup3 (.str (symK (cut T i j)) ta) (.str (tx (cut T i j)) tb) v) :: (d, SGo k T j t1 t2 t3 t4) :: (x, instObj 147 d) :: rest) → DatIn [] v .none → d < p → x < p → (∀ q ∈ rest, q.1 < p) → Q (.ref p) { s with heap := h', toks := tk' }) :
  wpAny (model PySem.Challenge.rw_sy0021_01.row.prog w) (ktrTop dp un gd cn cs L a ccd cl outer) (call (.ref 305) [.ref x]) Q E s := by
  have f1 := amg_ne h1
  have f2 := amg_off h1 sym_spc
  have f3 := amg_off h1 sym_dig
  have f5 := amg_off h1 sym_sml
  have f6 := amg_off h1 sym_grt
  have f4 := lt_of_amg h1
  have f7 := takeEnd_le (l := SYM) hi
  have f8 : i + 1 ≤ takeEnd T SYM i := take_gt h1
  have f9 : (cut T i j).length = j - i := by rw [← hj]; exact cut_len f7
  subst hj
  unfold SML SPC DIG GRT SYM at *
  have hfill : (Mine.hd.heap_1 = Mine.hd.heap_1 ∧ PySem.Challenge.rw_sy0021_01 = PySem.Challenge.rw_sy0021_01) := by k_fill; exact ⟨rfl, rfl⟩
  clear hfill
  refine wpAny_call ?_
  k_with_none
  k_with "M enter" => (refine' code_def ?k1 ?k2 ?k3 ?k4 ?k5 ?kA ?kF ?kK ?k6 ?k7 ?k8 ?k9 ?kB ?_ ?c2 ?c3 ?c4 ?c5; (case kA => exact rfl); (case kF => exact rfl); (case kK => assumption); (case k1 => k_asm); (case k2 => k_asm); (case k3 => k_asm); (case k4 => k_asm); (case k5 => k_asm); (case k6 => k_is); (case k7 => k_is); (case k8 => first | exact rm0 (by assumption) | ktr_room); (case k9 => first | exact BindsTo.of_eq rfl | exact binds_K (by k_in) rfl (by k_is) rfl rfl rfl); (case c5 => decide); (case kB => exact locs rfl); (case c2 => exact rfl); (case c3 => exact rfl); (case c4 => exact rfl); k_whole; intro g' L' h' FG' F' N' B' X' T'; (try dsimp only); (try k_lift B'); (try k_fold))
  k_dflt (walk_at "M enter")
  k_with_none
  k_with "M om" => (first | with_reducible assumption | exact Nat.le_succ_of_le (by with_reducible assumption) | exact Nat.le_of_lt (by with_reducible assumption) | exact Nat.le_of_succ_le (by with_reducible assumption) | exact Nat.le_trans (by with_reducible assumption) (by decide) | exact Nat.le_trans (Nat.le_of_succ_le (by with_reducible assumption)) (Nat.le_trans (by with_reducible assumption) (by decide)))
  k_with "M use" => ((case u1x => k_asm); (case u2x => k_asm); (case u3x => k_asm); (case u5x => k_asm); (case uKx => first | assumption | exact rfl); (case udx => first | exact rmA (by assumption) (by decide) | ktr_room); (case uux => first | exact umA (by assumption) (by decide) | ktr_units))
  k_with "M in" => (first | with_reducible assumption | exact Frag.In.keeps (by with_reducible assumption) (Fr.keep (by with_reducible assumption)))
  k_with "call ref" => (k_here; k_extra "M call")
  k_with "call ref" => (k_here; with_reducible first | refine call_app0 ?_ | refine call_app1 ?_ | refine call_app2 ?_)
  k_with "M kN" => (first | assumption | exact news_tl1 (by assumption) | exact news_tl2 (by assumption) | exact news_tl3 (by assumption) | exact news_tl4 (by assumption) | exact news_dr1 (by assumption) | exact news_dr2 (by assumption) | exact news_dr3 (by assumption))
  k_with "eval Call" => (k_here; k_dflt (refine Call_ ?_))
  k_with "M all" => (first | assumption | exact apart_of (by first | assumption | exact And.right (by assumption) | exact And.right (And.right (by assumption)) | exact And.right (And.right (And.right (by assumption))) | exact And.right (And.right (And.right (And.right (by assumption))))))
  k_with "M call" => ((with_reducible show wpAny _ _ (call (Value.ref 158) _) _ _ _); k_dflt (refine' c_is_among ?u1x ?u2x ?u3x ?u4x ?u5x ?uKx ?udx ?uux ?_; walk_at "M use"; (case u4x => k_asm)); k_whole; intro h' tk' F' N'; (try dsimp only); (try k_sweep))
  k_with "M call" => ((with_reducible show wpAny _ _ (call (Value.ref 179) _) _ _ _); k_dflt (refine' c_name_letters ?u1x ?u2x ?u3x ?u4x ?u5x ?uKx ?udx ?uux ?_; walk_at "M use"; (case u4x => k_asm)); k_whole; intro h' tk' t' F' N'; (try dsimp only); (try k_sweep))
  k_with "M led" => (first | k_asm | exact news_rot1 (by k_asm) | exact news_rot2 (by k_asm) | exact news_rot3 (by k_asm) | exact news_rot4 (by k_asm))
  k_with "M call" => ((with_reducible show wpAny _ _ (call (Value.ref 116) [_]) _ _ _); k_dflt (refine' c_signG0 ?u1x ?u2x ?u3x ?u4x ?u5x ?uKx ?udx ?uux ?z2 ?z3 ?z4 ?_; walk_at "M use"; (case u4x => walk_at "M led"); (case z2 => omega); (case z3 => omega); (case z4 => omega)); k_whole; intro h' tk' t' F' N'; (try dsimp only); (try k_sweep))
  k_with "M call" => ((with_reducible show wpAny _ _ (call (Value.ref 116) [_, _]) _ _ _); k_dflt (refine' c_sign ?u1x ?u2x ?u3x ?u4x ?u5x ?uKx ?udx ?uux ?z1 ?z2 ?z3 ?z4 ?_; walk_at "M use"; (case u4x => walk_at "M led"); (case z1 => first | exact cast1 | exact cast2 | rfl | omega); (case z2 => omega); (case z3 => omega); (case z4 => omega)); k_whole; intro h' tk' t' F' N'; (try dsimp only); (try k_sweep))
  k_with "M call" => ((with_reducible show wpAny _ _ (call (Value.ref 116) [_]) _ _ _); k_dflt (refine' c_sign0 ?u1x ?u2x ?u3x ?u4x ?u5x ?uKx ?udx ?uux ?z2 ?z3 ?_; walk_at "M use"; (case u4x => walk_at "M led"); (case z2 => omega); (case z3 => omega)); k_whole; intro h' tk' t' F' N'; (try dsimp only); (try k_sweep))
  k_with "M ap" => (first | k_asm | k_all)
  k_with "M ne" => (first | k_asm | k_ne)
  k_with "M call" => ((with_reducible show wpAny _ _ (call (Value.ref 130) _) _ _ _); k_dflt (refine' c_step ?u1x ?u2x ?u3x ?u4x ?u5x ?uKx ?udx ?uux ?z1 ?z2 ?z3 ?z4 ?_; walk_at "M use"; (case u4x => walk_at "M led"); (case z1 => walk_at "M ne"); (case z2 => walk_at "M ap"); (case z3 => omega); (case z4 => omega)); k_whole; intro h' tk' t' t2' t3' t4' F' N'; (try dsimp only); (try k_sweep))
  k_with "M call" => ((with_reducible show wpAny _ _ (call (Value.ref 144) _) _ _ _); k_dflt (refine' c_place ?u1x ?u2x ?u3x ?u4x ?u5x ?uKx ?udx ?uux ?_; walk_at "M use"; (case u4x => walk_at "M led")); k_whole; intro h' tk' p' u3' u4' F' N' l1; (try dsimp only); (try k_lt l1); (try k_sweep))
  k_with "M call" => ((with_reducible show wpAny _ _ (call (Value.ref 137) _) _ _ _); k_dflt (refine' c_take ?u1x ?u2x ?u3x ?u4x ?u5x ?uKx ?udx ?uux ?z1 ?z2 ?z3 ?z4 ?_; walk_at "M use"; (case u4x => walk_at "M led"); (case z1 => walk_at "M ne"); (case z2 => walk_at "M ap"); (case z3 => omega); (case z4 => omega)); k_whole; intro h' tk' t' t2' t3' t4' F' N'; (try dsimp only); (try k_sweep))
  k_with "M call" => ((with_reducible show wpAny _ _ (call (Value.ref 52) _) _ _ _); k_dflt (refine' c_make ?u1x ?u2x ?u3x ?u4x ?u5x ?uKx ?udx ?uux ?_; walk_at "M use"; (case u4x => k_asm)); k_whole; intro h' tk' e' t' dx' h1' h2' k1' k2' F' N' ap' l1; (try dsimp only); (try k_sweep))
  k_with "M mem" => (repeat (first | exact List.mem_cons_self | assumption | refine List.mem_cons_of_mem _ ?_))
  k_with "M sub" => (intro q hq; repeat (first | assumption | refine List.mem_cons_of_mem _ ?_))
  k_with "exec Raise some none" => (k_here; k_dflt (refine raise52 (by rfl) ?_))
  k_with "RaiseQ" => (k_here; (rename News _ _ _ _ => nX'); refine ⟨_, _, _, rfl, by k_in, (nX' _ (.tail _ (.head _))).1, ?_⟩)
  k_with "leaving ref" => (k_here; k_dflt (refine' leaveNew ?K ?F ?N ?ap ?l ?_; (case N => assumption); (case F => k_asm); (case K => k_asm); (case ap => assumption); (case l => assumption)); intro h' R' U'; (try dsimp only))
  k_with "leaving ref" => (k_here; k_dflt (refine' leaveOnAt ?K ?F ?R ?U ?_; (case K => k_asm); (case R => assumption); (case U => assumption); (case F => assumption)); intro h' R' U'; (try dsimp only))
  k_with "M call" => ((with_reducible show wpAny _ _ (call (Value.ref 228) _) _ _ _); k_dflt (refine' c_read_dec ?u1x ?u2x ?u3x ?u4x ?u5x ?uKx ?udx ?uux ?z1 ?z2 ?z3 ?z4 ?z5 ?z6 ?zR ?zE; walk_at "M use"; (case u4x => walk_at "M led"); (case z1 => walk_at "M ne"); (case z2 => walk_at "M ap"); (case z3 => omega); (case z4 => omega); (case z5 => assumption); (case z6 => assumption)); (case' zR => (k_whole; intro hfl' h' tk' t' t2' t3' t4' F' N'; (try dsimp only); (try k_sweep))); (case' zE => (k_whole; intro hfl' e' g₂' h' tk' F' U' R'; (try dsimp only))))
  k_with "M call" => ((with_reducible show wpAny _ _ (call (Value.ref 228) _) _ _ _); k_dflt (refine' c_read_hex ?u1x ?u2x ?u3x ?u4x ?u5x ?uKx ?udx ?uux ?z1 ?z2 ?z3 ?z4 ?z5 ?z6 ?z7 ?z8 ?_; walk_at "M use"; (case u4x => walk_at "M led"); (case z1 => walk_at "M ne"); (case z2 => walk_at "M ap"); (case z3 => omega); (case z4 => omega); (case z5 => assumption); (case z6 => assumption); (case z7 => assumption); (case z8 => assumption)); k_whole; intro h' tk' t' t2' t3' t4' F' N'; (try dsimp only); (try k_sweep))
  k_with "M kN" => (first | assumption | (refine news_sub (by assumption) ?_; (repeat refine List.forall_mem_cons.mpr (And.intro (by walk_at "M mem") ?_)); walk_at "M sub"))
  k_with "M call" => ((with_reducible show wpAny _ _ (call (Value.ref 256) _) _ _ _); k_dflt (refine' c_char_plain ?u1x ?u2x ?u3x ?u4x ?u5x ?uKx ?udx ?uux ?z1 ?z2 ?z3 ?z4 ?z5 ?z6 ?z7 ?z8 ?z9 ?_; walk_at "M use"; (case u4x => walk_at "M led"); (case z1 => walk_at "M ne"); (case z2 => walk_at "M ap"); (case z3 => omega); (case z4 => omega); (case z5 => first | assumption | omega); (case z6 => first | assumption | omega); (case z7 => first | assumption | omega); (case z8 => first | assumption | omega); (case z9 => first | assumption | omega)); k_whole; intro h' tk' t' t2' t3' t4' F' N'; (try dsimp only); (try k_sweep))
  k_with "M call" => ((with_reducible show wpAny _ _ (call (Value.ref 256) _) _ _ _); k_dflt (refine' c_char_t ?u1x ?u2x ?u3x ?u4x ?u5x ?uKx ?udx ?uux ?z1 ?z2 ?z3 ?z4 ?z5 ?z6 ?z7 ?_; walk_at "M use"; (case u4x => walk_at "M led"); (case z1 => walk_at "M ne"); (case z2 => walk_at "M ap"); (case z3 => omega); (case z4 => omega); (case z5 => first | assumption | omega); (case z6 => first | assumption | omega); (case z7 => first | assumption | omega)); k_whole; intro h' tk' t' t2' t3' t4' F' N'; (try dsimp only); (try k_sweep))
  k_with "M call" => ((with_reducible show wpAny _ _ (call (Value.ref 256) _) _ _ _); k_dflt (refine' c_char_bad ?u1x ?u2x ?u3x ?u4x ?u5x ?uKx ?udx ?uux ?z1 ?z2 ?z3 ?z4 ?z5 ?_; walk_at "M use"; (case u4x => walk_at "M led"); (case z1 => walk_at "M ne"); (case z2 => walk_at "M ap"); (case z3 => omega); (case z4 => omega); (case z5 => first | assumption | omega)); k_whole; intro e' g₂' h' tk' F' U' R'; (try dsimp only))
  k_with "M call" => ((with_reducible show wpAny _ _ (call (Value.ref 270) _) _ _ _); k_dflt (refine' c_text_ok ?u1x ?u2x ?u3x ?u4x ?u5x ?uKx ?udx ?uux ?z1 ?z2 ?z3 ?z4 ?z5 ?_; walk_at "M use"; (case u4x => walk_at "M led"); (case z1 => walk_at "M ne"); (case z2 => walk_at "M ap"); (case z3 => omega); (case z4 => omega); (case z5 => assumption)); k_whole; intro h' tk' t' t2' t3' t4' F' N'; (try dsimp only); (try k_sweep))
  k_with "M call" => ((with_reducible show wpAny _ _ (call (Value.ref 270) _) _ _ _); k_dflt (refine' c_text_bad ?u1x ?u2x ?u3x ?u4x ?u5x ?uKx ?udx ?uux ?z1 ?z2 ?z3 ?z4 ?z5 ?_; walk_at "M use"; (case u4x => walk_at "M led"); (case z1 => walk_at "M ne"); (case z2 => walk_at "M ap"); (case z3 => omega); (case z4 => omega); (case z5 => assumption)); k_whole; intro e' g₂' h' tk' F' U' R'; (try dsimp only))
  k_with "M call" => ((with_reducible show wpAny _ _ (call (Value.ref 277) _) _ _ _); k_dflt (refine' c_symbol_kind ?u1x ?u2x ?u3x ?u4x ?u5x ?uKx ?udx ?uux ?z1 ?z2 ?_; walk_at "M use"; (case u4x => k_asm); (case z1 => omega); (case z2 => omega)); k_whole; intro h' tk' t' F' N'; (try dsimp only); (try k_sweep))
  k_with "M lt" => ((rename (_ < _ ∧ _) => l1); first | exact l1.1 | exact l1.2.1 | exact ktn_ltOf l1.2.2)
  k_with "compareOp In str ref" => (k_here; (with_reducible show wpAny _ _ (compareOp CmpOp.In (Value.str _ _) (Value.ref 55)) _ _ _); k_dflt (refine in_keys (by k_in) ?_))
  k_steps
  · exact hret _ _ _ _ _ _ _ _ _ (by assumption) (by walk_at "M kN") .none (by walk_at "M lt") (by walk_at "M lt") (by walk_at "M lt")
theorem c_read_int {w : World} {dp un : Nat} {gd : Option (List Code)} {cn : Str} {cs : Scope} {a : Addr} {ccd : Value} {cl : List (Str × Addr)} {outer : List Env} {A₀ : Around} {base h₀ : Heap} {L : Addr} {m : Str → Option Value} {s : Shared} {mean : ExcName → Option Value} {mg mb : Str → Option Value} {Q E : Value → Shared → Prop} {rest : List (Addr × Obj)} {x d : Addr} {k : SgK} {T : List Nat} {t1 t2 t3 t4 : Tok} {i : Nat}
  (B : Below A₀ base outer h₀) (F : Fr h₀ L s.heap m) (X : (Mine.hd.heap_1 w.params).In h₀) (N : News h₀ L s.heap ((d, SGo k T i t1 t2 t3 t4) :: (x, instObj 147 d) :: rest)) (TT : Top Mine.hd.view_1 lz mean mg mb h₀) (hk : cs.kind = .function) (hd : dp + 5 < recursionLimit) (hu : un + 8 * 5 < cLine)
  (hxd : x ≠ d) (hap : ∀ p ∈ rest, p.1 ≠ d) (hT : T.length ≤ 9000) (hi : i ≤ T.length) (h0 : T[i]? ≠ some 48) (h3 : (cut T i (takeEnd T DIG i)).length ≤ 20) (h4 : floatB T (takeEnd T DIG i) = false)
  (hret : ∀ h' tk' t t2 t3 t4, Fr h₀ L h' m → News h₀ L h' ((d, SGo k T (takeEnd T DIG i) t1 t2 t3 t4) :: (x, instObj 147 d) :: rest) → Q (.int (numN 10 (cut T i (takeEnd T DIG i)) : Nat) t) { s with heap := h', toks := tk' }) :
  wpAny (model PySem.Challenge.rw_sy0021_01.row.prog w) (ktrTop dp un gd cn cs L a ccd cl outer) (call (.ref 228) [.ref x]) Q E s :=
  c_read_dec B F X N TT hk hd hu hxd hap hT hi h0 h3 (fun _ => hret) (fun h => by rw [h4] at h; cases h)
theorem c_read_flt {w : World} {dp un : Nat} {gd : Option (List Code)} {cn : Str} {cs : Scope} {a : Addr} {ccd : Value} {cl : List (Str × Addr)} {outer : List Env} {A₀ : Around} {base h₀ : Heap} {L : Addr} {m : Str → Option Value} {s : Shared} {mean : ExcName → Option Value} {mg mb : Str → Option Value} {Q E : Value → Shared → Prop} {rest : List (Addr × Obj)} {x d : Addr} {k : SgK} {T : List Nat} {t1 t2 t3 t4 : Tok} {i : Nat}
  (B : Below A₀ base outer h₀) (F : Fr h₀ L s.heap m) (X : (Mine.hd.heap_1 w.params).In h₀) (N : News h₀ L s.heap ((d, SGo k T i t1 t2 t3 t4) :: (x, instObj 147 d) :: rest)) (TT : Top Mine.hd.view_1 lz mean mg mb h₀) (hk : cs.kind = .function) (hd : dp + 5 < recursionLimit) (hu : un + 8 * 5 < cLine)
  (hxd : x ≠ d) (hap : ∀ p ∈ rest, p.1 ≠ d) (hT : T.length ≤ 9000) (hi : i ≤ T.length) (h0 : T[i]? ≠ some 48) (h3 : (cut T i (takeEnd T DIG i)).length ≤ 20) (h4 : floatB T (takeEnd T DIG i) = true)
  (hraise : ∀ e g₂ h' tk', Fr h₀ L g₂ m → g₂.UpToSlots h' → ErrAt base g₂ (envX cn cs L a ccd cl :: outer) e T i rest h' → E (.ref e) { s with heap := h', toks := tk' }) :
  wpAny (model PySem.Challenge.rw_sy0021_01.row.prog w) (ktrTop dp un gd cn cs L a ccd cl outer) (call (.ref 228) [.ref x]) Q E s :=
  c_read_dec B F X N TT hk hd hu hxd hap hT hi h0 h3 (fun h => by rw [h4] at h; cases h) (fun _ => hraise)
theorem c_word_dec {w : World} {dp un : Nat} {gd : Option (List Code)} {cn : Str} {cs : Scope} {a : Addr} {ccd : Value} {cl : List (Str × Addr)} {outer : List Env} {A₀ : Around} {base h₀ : Heap} {L : Addr} {m : Str → Option Value} {s : Shared} {mean : ExcName → Option Value} {mg mb : Str → Option Value} {Q E : Value → Shared → Prop} {rest : List (Addr × Obj)} {x d : Addr} {k : SgK} {T : List Nat} {t1 t2 t3 t4 : Tok} {i j : Nat}
  (B : Below A₀ base outer h₀) (F : Fr h₀ L s.heap m) (X : (Mine.hd.heap_1 w.params).In h₀) (N : News h₀ L s.heap ((d, SGo k T i t1 t2 t3 t4) :: (x, instObj 147 d) :: rest)) (TT : Top Mine.hd.view_1 lz mean mg mb h₀) (hk : cs.kind = .function) (hd : dp + 7 < recursionLimit) (hu : un + 8 * 7 < cLine)
  (hxd : x ≠ d) (hap : ∀ p ∈ rest, p.1 ≠ d) (hT : T.length ≤ 9000) (hi : i ≤ T.length) (h1 : amg T[i]? DIG = true) (h2 : T[i]? ≠ some 48) (hj : takeEnd T DIG i = j) (h3 : (cut T i j).length ≤ 20) (h4 : floatB T j = false)
  (hret : ∀ h' tk' p ta tb v t2 t3 t4, Fr h₀ L h' m → News h₀ L h' ((p, tup3 (.str (Str.ofString "int") ta) (.str (tx (cut T i j)) tb) v) :: (d, SGo k T j t1 t2 t3 t4) :: (x, instObj 147 d) :: rest) → DatIn [] v (.int (numN 10 (cut T i j) : Nat)) → d < p → x < p → (∀ q ∈ rest, q.1 < p) → Q (.ref p) { s with heap := h', toks := tk' }) :
  wpAny (model PySem.Challenge.rw_sy0021_01.row.prog w) (ktrTop dp un gd cn cs L a ccd cl outer) (call (.ref 305) [.ref x]) Q E s := by
  subst hj
  have ht : (tx T).length ≤ 10000 := by rw [tx_len]; omega
  have f1 := amg_ne h1
  have f2 : amg T[i]? (Str.ofString "()[],;`{}").cps.toList = false := amg_off h1 dig_spc
  have f3 : amg T[i]? (Str.ofString "0123456789").cps.toList = true := h1
  have f4 := lt_of_amg h1
  have f7 := takeEnd_le (l := DIG) hi
  have f8 : i + 1 ≤ takeEnd T DIG i := take_gt h1
  have hfill : (Mine.hd.heap_1 = Mine.hd.heap_1 ∧ PySem.Challenge.rw_sy0021_01 = PySem.Challenge.rw_sy0021_01) := by k_fill; exact ⟨rfl, rfl⟩
  clear hfill
  refine wpAny_call ?_
  k_with_none
  k_with "M enter" => (refine' code_def ?k1 ?k2 ?k3 ?k4 ?k5 ?kA ?kF ?kK ?k6 ?k7 ?k8 ?k9 ?kB ?_ ?c2 ?c3 ?c4 ?c5; (case kA => exact rfl); (case kF => exact rfl); (case kK => assumption); (case k1 => k_asm); (case k2 => k_asm); (case k3 => k_asm); (case k4 => k_asm); (case k5 => k_asm); (case k6 => k_is); (case k7 => k_is); (case k8 => first | exact rm0 (by assumption) | ktr_room); (case k9 => first | exact BindsTo.of_eq rfl | exact binds_K (by k_in) rfl (by k_is) rfl rfl rfl); (case c5 => decide); (case kB => exact locs rfl); (case c2 => exact rfl); (case c3 => exact rfl); (case c4 => exact rfl); k_whole; intro g' L' h' FG' F' N' B' X' T'; (try dsimp only); (try k_lift B'); (try k_fold))
  k_dflt (walk_at "M enter")
  k_with_none
  k_with "M om" => (first | with_reducible assumption | exact Nat.le_succ_of_le (by with_reducible assumption) | exact Nat.le_of_lt (by with_reducible assumption) | exact Nat.le_of_succ_le (by with_reducible assumption) | exact Nat.le_trans (by with_reducible assumption) (by decide) | exact Nat.le_trans (Nat.le_of_succ_le (by with_reducible assumption)) (Nat.le_trans (by with_reducible assumption) (by decide)))
  k_with "M use" => ((case u1x => k_asm); (case u2x => k_asm); (case u3x => k_asm); (case u5x => k_asm); (case uKx => first | assumption | exact rfl); (case udx => first | exact rmA (by assumption) (by decide) | ktr_room); (case uux => first | exact umA (by assumption) (by decide) | ktr_units))
  k_with "M in" => (first | with_reducible assumption | exact Frag.In.keeps (by with_reducible assumption) (Fr.keep (by with_reducible assumption)))
  k_with "call ref" => (k_here; k_extra "M call")
  k_with "call ref" => (k_here; with_reducible first | refine call_app0 ?_ | refine call_app1 ?_ | refine call_app2 ?_)
  k_with "eval Call" => (k_here; k_dflt (refine Call_ ?_))
  k_with "M all" => (first | assumption | exact apart_of (by first | assumption | exact And.right (by assumption) | exact And.right (And.right (by assumption)) | exact And.right (And.right (And.right (by assumption))) | exact And.right (And.right (And.right (And.right (by assumption))))))
  k_with "M call" => ((with_reducible show wpAny _ _ (call (Value.ref 158) _) _ _ _); k_dflt (refine' c_is_among ?u1x ?u2x ?u3x ?u4x ?u5x ?uKx ?udx ?uux ?_; walk_at "M use"; (case u4x => k_asm)); k_whole; intro h' tk' F' N'; (try dsimp only); (try k_sweep))
  k_with "M call" => ((with_reducible show wpAny _ _ (call (Value.ref 179) _) _ _ _); k_dflt (refine' c_name_letters ?u1x ?u2x ?u3x ?u4x ?u5x ?uKx ?udx ?uux ?_; walk_at "M use"; (case u4x => k_asm)); k_whole; intro h' tk' t' F' N'; (try dsimp only); (try k_sweep))
  k_with "M led" => (first | k_asm | exact news_rot1 (by k_asm) | exact news_rot2 (by k_asm) | exact news_rot3 (by k_asm) | exact news_rot4 (by k_asm))
  k_with "M call" => ((with_reducible show wpAny _ _ (call (Value.ref 116) [_]) _ _ _); k_dflt (refine' c_signG0 ?u1x ?u2x ?u3x ?u4x ?u5x ?uKx ?udx ?uux ?z2 ?z3 ?z4 ?_; walk_at "M use"; (case u4x => walk_at "M led"); (case z2 => omega); (case z3 => omega); (case z4 => omega)); k_whole; intro h' tk' t' F' N'; (try dsimp only); (try k_sweep))
  k_with "M call" => ((with_reducible show wpAny _ _ (call (Value.ref 116) [_, _]) _ _ _); k_dflt (refine' c_sign ?u1x ?u2x ?u3x ?u4x ?u5x ?uKx ?udx ?uux ?z1 ?z2 ?z3 ?z4 ?_; walk_at "M use"; (case u4x => walk_at "M led"); (case z1 => first | exact cast1 | exact cast2 | rfl | omega); (case z2 => omega); (case z3 => omega); (case z4 => omega)); k_whole; intro h' tk' t' F' N'; (try dsimp only); (try k_sweep))
  k_with "M call" => ((with_reducible show wpAny _ _ (call (Value.ref 116) [_]) _ _ _); k_dflt (refine' c_sign0 ?u1x ?u2x ?u3x ?u4x ?u5x ?uKx ?udx ?uux ?z2 ?z3 ?_; walk_at "M use"; (case u4x => walk_at "M led"); (case z2 => omega); (case z3 => omega)); k_whole; intro h' tk' t' F' N'; (try dsimp only); (try k_sweep))
  k_with "M ap" => (first | k_asm | k_all)
  k_with "M ne" => (first | k_asm | k_ne)
  k_with "M call" => ((with_reducible show wpAny _ _ (call (Value.ref 130) _) _ _ _); k_dflt (refine' c_step ?u1x ?u2x ?u3x ?u4x ?u5x ?uKx ?udx ?uux ?z1 ?z2 ?z3 ?z4 ?_; walk_at "M use"; (case u4x => walk_at "M led"); (case z1 => walk_at "M ne"); (case z2 => walk_at "M ap"); (case z3 => omega); (case z4 => omega)); k_whole; intro h' tk' t' t2' t3' t4' F' N'; (try dsimp only); (try k_sweep))
  k_with "M call" => ((with_reducible show wpAny _ _ (call (Value.ref 144) _) _ _ _); k_dflt (refine' c_place ?u1x ?u2x ?u3x ?u4x ?u5x ?uKx ?udx ?uux ?_; walk_at "M use"; (case u4x => walk_at "M led")); k_whole; intro h' tk' p' u3' u4' F' N' l1; (try dsimp only); (try k_lt l1); (try k_sweep))
  k_with "M call" => ((with_reducible show wpAny _ _ (call (Value.ref 137) _) _ _ _); k_dflt (refine' c_take ?u1x ?u2x ?u3x ?u4x ?u5x ?uKx ?udx ?uux ?z1 ?z2 ?z3 ?z4 ?_; walk_at "M use"; (case u4x => walk_at "M led"); (case z1 => walk_at "M ne"); (case z2 => walk_at "M ap"); (case z3 => omega); (case z4 => omega)); k_whole; intro h' tk' t' t2' t3' t4' F' N'; (try dsimp only); (try k_sweep))
  k_with "M call" => ((with_reducible show wpAny _ _ (call (Value.ref 52) _) _ _ _); k_dflt (refine' c_make ?u1x ?u2x ?u3x ?u4x ?u5x ?uKx ?udx ?uux ?_; walk_at "M use"; (case u4x => k_asm)); k_whole; intro h' tk' e' t' dx' h1' h2' k1' k2' F' N' ap' l1; (try dsimp only); (try k_sweep))
  k_with "exec Raise some none" => (k_here; k_dflt (refine raise52 (by rfl) ?_))
  k_with "RaiseQ" => (k_here; (rename News _ _ _ _ => nX'); refine ⟨_, _, _, rfl, by k_in, (nX' _ (.tail _ (.head _))).1, ?_⟩)
  k_with "leaving ref" => (k_here; k_dflt (refine' leaveNew ?K ?F ?N ?ap ?l ?_; (case N => assumption); (case F => k_asm); (case K => k_asm); (case ap => assumption); (case l => assumption)); intro h' R' U'; (try dsimp only))
  k_with "leaving ref" => (k_here; k_dflt (refine' leaveOnAt ?K ?F ?R ?U ?_; (case K => k_asm); (case R => assumption); (case U => assumption); (case F => assumption)); intro h' R' U'; (try dsimp only))
  k_with "M call" => ((with_reducible show wpAny _ _ (call (Value.ref 228) _) _ _ _); k_dflt (refine' c_read_dec ?u1x ?u2x ?u3x ?u4x ?u5x ?uKx ?udx ?uux ?z1 ?z2 ?z3 ?z4 ?z5 ?z6 ?zR ?zE; walk_at "M use"; (case u4x => walk_at "M led"); (case z1 => walk_at "M ne"); (case z2 => walk_at "M ap"); (case z3 => omega); (case z4 => omega); (case z5 => assumption); (case z6 => assumption)); (case' zR => (k_whole; intro hfl' h' tk' t' t2' t3' t4' F' N'; (try dsimp only); (try k_sweep))); (case' zE => (k_whole; intro hfl' e' g₂' h' tk' F' U' R'; (try dsimp only))))
  k_with "M call" => ((with_reducible show wpAny _ _ (call (Value.ref 228) _) _ _ _); k_dflt (refine' c_read_hex ?u1x ?u2x ?u3x ?u4x ?u5x ?uKx ?udx ?uux ?z1 ?z2 ?z3 ?z4 ?z5 ?z6 ?z7 ?z8 ?_; walk_at "M use"; (case u4x => walk_at "M led"); (case z1 => walk_at "M ne"); (case z2 => walk_at "M ap"); (case z3 => omega); (case z4 => omega); (case z5 => assumption); (case z6 => assumption); (case z7 => assumption); (case z8 => assumption)); k_whole; intro h' tk' t' t2' t3' t4' F' N'; (try dsimp only); (try k_sweep))
  k_with "M call" => ((with_reducible show wpAny _ _ (call (Value.ref 256) _) _ _ _); k_dflt (refine' c_char_plain ?u1x ?u2x ?u3x ?u4x ?u5x ?uKx ?udx ?uux ?z1 ?z2 ?z3 ?z4 ?z5 ?z6 ?z7 ?z8 ?z9 ?_; walk_at "M use"; (case u4x => walk_at "M led"); (case z1 => walk_at "M ne"); (case z2 => walk_at "M ap"); (case z3 => omega); (case z4 => omega); (case z5 => first | assumption | omega); (case z6 => first | assumption | omega); (case z7 => first | assumption | omega); (case z8 => first | assumption | omega); (case z9 => first | assumption | omega)); k_whole; intro h' tk' t' t2' t3' t4' F' N'; (try dsimp only); (try k_sweep))
  k_with "M call" => ((with_reducible show wpAny _ _ (call (Value.ref 256) _) _ _ _); k_dflt (refine' c_char_t ?u1x ?u2x ?u3x ?u4x ?u5x ?uKx ?udx ?uux ?z1 ?z2 ?z3 ?z4 ?z5 ?z6 ?z7 ?_; walk_at "M use"; (case u4x => walk_at "M led"); (case z1 => walk_at "M ne"); (case z2 => walk_at "M ap"); (case z3 => omega); (case z4 => omega); (case z5 => first | assumption | omega); (case z6 => first | assumption | omega); (case z7 => first | assumption | omega)); k_whole; intro h' tk' t' t2' t3' t4' F' N'; (try dsimp only); (try k_sweep))
  k_with "M call" => ((with_reducible show wpAny _ _ (call (Value.ref 256) _) _ _ _); k_dflt (refine' c_char_bad ?u1x ?u2x ?u3x ?u4x ?u5x ?uKx ?udx ?uux ?z1 ?z2 ?z3 ?z4 ?z5 ?_; walk_at "M use"; (case u4x => walk_at "M led"); (case z1 => walk_at "M ne"); (case z2 => walk_at "M ap"); (case z3 => omega); (case z4 => omega); (case z5 => first | assumption | omega)); k_whole; intro e' g₂' h' tk' F' U' R'; (try dsimp only))
  k_with "M call" => ((with_reducible show wpAny _ _ (call (Value.ref 270) _) _ _ _); k_dflt (refine' c_text_ok ?u1x ?u2x ?u3x ?u4x ?u5x ?uKx ?udx ?uux ?z1 ?z2 ?z3 ?z4 ?z5 ?_; walk_at "M use"; (case u4x => walk_at "M led"); (case z1 => walk_at "M ne"); (case z2 => walk_at "M ap"); (case z3 => omega); (case z4 => omega); (case z5 => assumption)); k_whole; intro h' tk' t' t2' t3' t4' F' N'; (try dsimp only); (try k_sweep))
  k_with "M call" => ((with_reducible show wpAny _ _ (call (Value.ref 270) _) _ _ _); k_dflt (refine' c_text_bad ?u1x ?u2x ?u3x ?u4x ?u5x ?uKx ?udx ?uux ?z1 ?z2 ?z3 ?z4 ?z5 ?_; walk_at "M use"; (case u4x => walk_at "M led"); (case z1 => walk_at "M ne"); (case z2 => walk_at "M ap"); (case z3 => omega); (case z4 => omega); (case z5 => assumption)); k_whole; intro e' g₂' h' tk' F' U' R'; (try dsimp only))
  k_with "M call" => ((with_reducible show wpAny _ _ (call (Value.ref 277) _) _ _ _); k_dflt (refine' c_symbol_kind ?u1x ?u2x ?u3x ?u4x ?u5x ?uKx ?udx ?uux ?z1 ?z2 ?_; walk_at "M use"; (case u4x => k_asm); (case z1 => omega); (case z2 => omega)); k_whole; intro h' tk' t' F' N'; (try dsimp only); (try k_sweep))
  k_with "M lt" => ((rename (_ < _ ∧ _) => l1); first | exact l1.1 | exact l1.2.1 | exact ktn_ltOf l1.2.2)
  k_with "compareOp In str ref" => (k_here; (with_reducible show wpAny _ _ (compareOp CmpOp.In (Value.str _ _) (Value.ref 55)) _ _ _); k_dflt (refine in_keys (by k_in) ?_))
  k_with "M call" => ((with_reducible show wpAny _ _ (call (Value.ref 228) _) _ _ _); k_dflt (refine' c_read_int ?u1x ?u2x ?u3x ?u4x ?u5x ?uKx ?udx ?uux ?z1 ?z2 ?z3 ?z4 ?z5 ?z6 ?z7 ?_; walk_at "M use"; (case u4x => walk_at "M led"); (case z1 => walk_at "M ne"); (case z2 => walk_at "M ap"); (case z3 => omega); (case z4 => omega); (case z5 => assumption); (case z6 => assumption); (case z7 => assumption)); k_whole; intro h' tk' t' t2' t3' t4' F' N'; (try dsimp only); (try k_sweep))
  k_with "M call" => ((with_reducible show wpAny _ _ (call (Value.ref 228) _) _ _ _); k_dflt (refine' c_read_flt ?u1x ?u2x ?u3x ?u4x ?u5x ?uKx ?udx ?uux ?z1 ?z2 ?z3 ?z4 ?z5 ?z6 ?z7 ?_; walk_at "M use"; (case u4x => walk_at "M led"); (case z1 => walk_at "M ne"); (case z2 => walk_at "M ap"); (case z3 => omega); (case z4 => omega); (case z5 => assumption); (case z6 => assumption); (case z7 => assumption)); k_whole; intro e' g₂' h' tk' F' U' R'; (try dsimp only))
  k_steps
  · exact hret _ _ _ _ _ _ _ _ _ (by assumption) (news_t3 (by assumption) rfl (slice_tx rfl rfl (by omega) (by omega))) (.int _ _) (by walk_at "M lt") (by walk_at "M lt") (by walk_at "M lt")
theorem c_word_flt {w : World} {dp un : Nat} {gd : Option (List Code)} {cn : Str} {cs : Scope} {a : Addr} {ccd : Value} {cl : List (Str × Addr)} {outer : List Env} {A₀ : Around} {base h₀ : Heap} {L : Addr} {m : Str → Option Value} {s : Shared} {mean : ExcName → Option Value} {mg mb : Str → Option Value} {Q E : Value → Shared → Prop} {rest : List (Addr × Obj)} {x d : Addr} {k : SgK} {T : List Nat} {t1 t2 t3 t4 : Tok} {i : Nat}
  (B : Below A₀ base outer h₀) (F : Fr h₀ L s.heap m) (X : (Mine.hd.heap_1 w.params).In h₀) (N : News h₀ L s.heap ((d, SGo k T i t1 t2 t3 t4) :: (x, instObj 147 d) :: rest)) (TT : Top Mine.hd.view_1 lz mean mg mb h₀) (hk : cs.kind = .function) (hd : dp + 7 < recursionLimit) (hu : un + 8 * 7 < cLine)
  (hxd : x ≠ d) (hap : ∀ p ∈ rest, p.1 ≠ d) (hT : T.length ≤ 9000) (hi : i ≤ T.length) (h1 : amg T[i]? DIG = true) (h2 : T[i]? ≠ some 48) (h3 : (cut T i (takeEnd T DIG i)).length ≤ 20) (h4 : floatB T (takeEnd T DIG i) = true)
  (hraise : ∀ e g₂ h' tk', Fr h₀ L g₂ m → g₂.UpToSlots h' → ErrAt base g₂ (envX cn cs L a ccd cl :: outer) e T i rest h' → E (.ref e) { s with heap := h', toks := tk' }) :
  wpAny (model PySem.Challenge.rw_sy0021_01.row.prog w) (ktrTop dp un gd cn cs L a ccd cl outer) (call (.ref 305) [.ref x]) Q E s := by
  have ht : (tx T).length ≤ 10000 := by rw [tx_len]; omega
  have f1 := amg_ne h1
  have f2 : amg T[i]? (Str.ofString "()[],;`{}").cps.toList = false := amg_off h1 dig_spc
  have f3 : amg T[i]? (Str.ofString "0123456789").cps.toList = true := h1
  have f4 := lt_of_amg h1
  have f7 := takeEnd_le (l := DIG) hi

  have hfill : (Mine.hd.heap_1 = Mine.hd.heap_1 ∧ PySem.Challenge.rw_sy0021_01 = PySem.Challenge.rw_sy0021_01) := by k_fill; exact ⟨rfl, rfl⟩
  clear hfill
  refine wpAny_call ?_
  k_with_none
  k_with "M enter" => (refine' code_def ?k1 ?k2 ?k3 ?k4 ?k5 ?kA ?kF ?kK ?k6 ?k7 ?k8 ?k9 ?kB ?_ ?c2 ?c3 ?c4 ?c5; (case kA => exact rfl); (case kF => exact rfl); (case kK => assumption); (case k1 => k_asm); (case k2 => k_asm); (case k3 => k_asm); (case k4 => k_asm); (case k5 => k_asm); (case k6 => k_is); (case k7 => k_is); (case k8 => first | exact rm0 (by assumption) | ktr_room); (case k9 => first | exact BindsTo.of_eq rfl | exact binds_K (by k_in) rfl (by k_is) rfl rfl rfl); (case c5 => decide); (case kB => exact locs rfl); (case c2 => exact rfl); (case c3 => exact rfl); (case c4 => exact rfl); k_whole; intro g' L' h' FG' F' N' B' X' T'; (try dsimp only); (try k_lift B'); (try k_fold))
  k_dflt (walk_at "M enter")
  k_with_none
  k_with "M om" => (first | with_reducible assumption | exact Nat.le_succ_of_le (by with_reducible assumption) | exact Nat.le_of_lt (by with_reducible assumption) | exact Nat.le_of_succ_le (by with_reducible assumption) | exact Nat.le_trans (by with_reducible assumption) (by decide) | exact Nat.le_trans (Nat.le_of_succ_le (by with_reducible assumption)) (Nat.le_trans (by with_reducible assumption) (by decide)))
  k_with "M use" => ((case u1x => k_asm); (case u2x => k_asm); (case u3x => k_asm); (case u5x => k_asm); (case uKx => first | assumption | exact rfl); (case udx => first | exact rmA (by assumption) (by decide) | ktr_room); (case uux => first | exact umA (by assumption) (by decide) | ktr_units))
  k_with "M in" => (first | with_reducible assumption | exact Frag.In.keeps (by with_reducible assumption) (Fr.keep (by with_reducible assumption)))
  k_with "call ref" => (k_here; k_extra "M call")
  k_with "call ref" => (k_here; with_reducible first | refine call_app0 ?_ | refine call_app1 ?_ | refine call_app2 ?_)
  k_with "eval Call" => (k_here; k_dflt (refine Call_ ?_))
  k_with "M all" => (first | assumption | exact apart_of (by first | assumption | exact And.right (by assumption) | exact And.right (And.right (by assumption)) | exact And.right (And.right (And.right (by assumption))) | exact And.right (And.right (And.right (And.right (by assumption))))))
  k_with "M call" => ((with_reducible show wpAny _ _ (call (Value.ref 158) _) _ _ _); k_dflt (refine' c_is_among ?u1x ?u2x ?u3x ?u4x ?u5x ?uKx ?udx ?uux ?_; walk_at "M use"; (case u4x => k_asm)); k_whole; intro h' tk' F' N'; (try dsimp only); (try k_sweep))
  k_with "M call" => ((with_reducible show wpAny _ _ (call (Value.ref 179) _) _ _ _); k_dflt (refine' c_name_letters ?u1x ?u2x ?u3x ?u4x ?u5x ?uKx ?udx ?uux ?_; walk_at "M use"; (case u4x => k_asm)); k_whole; intro h' tk' t' F' N'; (try dsimp only); (try k_sweep))
  k_with "M led" => (first | k_asm | exact news_rot1 (by k_asm) | exact news_rot2 (by k_asm) | exact news_rot3 (by k_asm) | exact news_rot4 (by k_asm))
  k_with "M call" => ((with_reducible show wpAny _ _ (call (Value.ref 116) [_]) _ _ _); k_dflt (refine' c_signG0 ?u1x ?u2x ?u3x ?u4x ?u5x ?uKx ?udx ?uux ?z2 ?z3 ?z4 ?_; walk_at "M use"; (case u4x => walk_at "M led"); (case z2 => omega); (case z3 => omega); (case z4 => omega)); k_whole; intro h' tk' t' F' N'; (try dsimp only); (try k_sweep))
  k_with "M call" => ((with_reducible show wpAny _ _ (call (Value.ref 116) [_, _]) _ _ _); k_dflt (refine' c_sign ?u1x ?u2x ?u3x ?u4x ?u5x ?uKx ?udx ?uux ?z1 ?z2 ?z3 ?z4 ?_; walk_at "M use"; (case u4x => walk_at "M led"); (case z1 => first | exact cast1 | exact cast2 | rfl | omega); (case z2 => omega); (case z3 => omega); (case z4 => omega)); k_whole; intro h' tk' t' F' N'; (try dsimp only); (try k_sweep))
  k_with "M call" => ((with_reducible show wpAny _ _ (call (Value.ref 116) [_]) _ _ _); k_dflt (refine' c_sign0 ?u1x ?u2x ?u3x ?u4x ?u5x ?uKx ?udx ?uux ?z2 ?z3 ?_; walk_at "M use"; (case u4x => walk_at "M led"); (case z2 => omega); (case z3 => omega)); k_whole; intro h' tk' t' F' N'; (try dsimp only); (try k_sweep))
  k_with "M ap" => (first | k_asm | k_all)
  k_with "M ne" => (first | k_asm | k_ne)
  k_with "M call" => ((with_reducible show wpAny _ _ (call (Value.ref 130) _) _ _ _); k_dflt (refine' c_step ?u1x ?u2x ?u3x ?u4x ?u5x ?uKx ?udx ?uux ?z1 ?z2 ?z3 ?z4 ?_; walk_at "M use"; (case u4x => walk_at "M led"); (case z1 => walk_at "M ne"); (case z2 => walk_at "M ap"); (case z3 => omega); (case z4 => omega)); k_whole; intro h' tk' t' t2' t3' t4' F' N'; (try dsimp only); (try k_sweep))
  k_with "M call" => ((with_reducible show wpAny _ _ (call (Value.ref 144) _) _ _ _); k_dflt (refine' c_place ?u1x ?u2x ?u3x ?u4x ?u5x ?uKx ?udx ?uux ?_; walk_at "M use"; (case u4x => walk_at "M led")); k_whole; intro h' tk' p' u3' u4' F' N' l1; (try dsimp only); (try k_lt l1); (try k_sweep))
  k_with "M call" => ((with_reducible show wpAny _ _ (call (Value.ref 137) _) _ _ _); k_dflt (refine' c_take ?u1x ?u2x ?u3x ?u4x ?u5x ?uKx ?udx ?uux ?z1 ?z2 ?z3 ?z4 ?_; walk_at "M use"; (case u4x => walk_at "M led"); (case z1 => walk_at "M ne"); (case z2 => walk_at "M ap"); (case z3 => omega); (case z4 => omega)); k_whole; intro h' tk' t' t2' t3' t4' F' N'; (try dsimp only); (try k_sweep))
  k_with "M call" => ((with_reducible show wpAny _ _ (call (Value.ref 52) _) _ _ _); k_dflt (refine' c_make ?u1x ?u2x ?u3x ?u4x ?u5x ?uKx ?udx ?uux ?_; walk_at "M use"; (case u4x => k_asm)); k_whole; intro h' tk' e' t' dx' h1' h2' k1' k2' F' N' ap' l1; (try dsimp only); (try k_sweep))
  k_with "exec Raise some none" => (k_here; k_dflt (refine raise52 (by rfl) ?_))
  k_with "RaiseQ" => (k_here; (rename News _ _ _ _ => nX'); refine ⟨_, _, _, rfl, by k_in, (nX' _ (.tail _ (.head _))).1, ?_⟩)
  k_with "leaving ref" => (k_here; k_dflt (refine' leaveNew ?K ?F ?N ?ap ?l ?_; (case N => assumption); (case F => k_asm); (case K => k_asm); (case ap => assumption); (case l => assumption)); intro h' R' U'; (try dsimp only))
  k_with "leaving ref" => (k_here; k_dflt (refine' leaveOnAt ?K ?F ?R ?U ?_; (case K => k_asm); (case R => assumption); (case U => assumption); (case F => assumption)); intro h' R' U'; (try dsimp only))
  k_with "M call" => ((with_reducible show wpAny _ _ (call (Value.ref 228) _) _ _ _); k_dflt (refine' c_read_dec ?u1x ?u2x ?u3x ?u4x ?u5x ?uKx ?udx ?uux ?z1 ?z2 ?z3 ?z4 ?z5 ?z6 ?zR ?zE; walk_at "M use"; (case u4x => walk_at "M led"); (case z1 => walk_at "M ne"); (case z2 => walk_at "M ap"); (case z3 => omega); (case z4 => omega); (case z5 => assumption); (case z6 => assumption)); (case' zR => (k_whole; intro hfl' h' tk' t' t2' t3' t4' F' N'; (try dsimp only); (try k_sweep))); (case' zE => (k_whole; intro hfl' e' g₂' h' tk' F' U' R'; (try dsimp only))))
  k_with "M call" => ((with_reducible show wpAny _ _ (call (Value.ref 228) _) _ _ _); k_dflt (refine' c_read_hex ?u1x ?u2x ?u3x ?u4x ?u5x ?uKx ?udx ?uux ?z1 ?z2 ?z3 ?z4 ?z5 ?z6 ?z7 ?z8 ?_; walk_at "M use"; (case u4x => walk_at "M led"); (case z1 => walk_at "M ne"); (case z2 => walk_at "M ap"); (case z3 => omega); (case z4 => omega); (case z5 => assumption); (case z6 => assumption); (case z7 => assumption); (case z8 => assumption)); k_whole; intro h' tk' t' t2' t3' t4' F' N'; (try dsimp only); (try k_sweep))
  k_with "M call" => ((with_reducible show wpAny _ _ (call (Value.ref 256) _) _ _ _); k_dflt (refine' c_char_plain ?u1x ?u2x ?u3x ?u4x ?u5x ?uKx ?udx ?uux ?z1 ?z2 ?z3 ?z4 ?z5 ?z6 ?z7 ?z8 ?z9 ?_; walk_at "M use"; (case u4x => walk_at "M led"); (case z1 => walk_at "M ne"); (case z2 => walk_at "M ap"); (case z3 => omega); (case z4 => omega); (case z5 => first | assumption | omega); (case z6 => first | assumption | omega); (case z7 => first | assumption | omega); (case z8 => first | assumption | omega); (case z9 => first | assumption | omega)); k_whole; intro h' tk' t' t2' t3' t4' F' N'; (try dsimp only); (try k_sweep))
  k_with "M call" => ((with_reducible show wpAny _ _ (call (Value.ref 256) _) _ _ _); k_dflt (refine' c_char_t ?u1x ?u2x ?u3x ?u4x ?u5x ?uKx ?udx ?uux ?z1 ?z2 ?z3 ?z4 ?z5 ?z6 ?z7 ?_; walk_at "M use"; (case u4x => walk_at "M led"); (case z1 => walk_at "M ne"); (case z2 => walk_at "M ap"); (case z3 => omega); (case z4 => omega); (case z5 => first | assumption | omega); (case z6 => first | assumption | omega); (case z7 => first | assumption | omega)); k_whole; intro h' tk' t' t2' t3' t4' F' N'; (try dsimp only); (try k_sweep))
  k_with "M call" => ((with_reducible show wpAny _ _ (call (Value.ref 256) _) _ _ _); k_dflt (refine' c_char_bad ?u1x ?u2x ?u3x ?u4x ?u5x ?uKx ?udx ?uux ?z1 ?z2 ?z3 ?z4 ?z5 ?_; walk_at "M use"; (case u4x => walk_at "M led"); (case z1 => walk_at "M ne"); (case z2 => walk_at "M ap"); (case z3 => omega); (case z4 => omega); (case z5 => first | assumption | omega)); k_whole; intro e' g₂' h' tk' F' U' R'; (try dsimp only))
  k_with "M call" => ((with_reducible show wpAny _ _ (call (Value.ref 270) _) _ _ _); k_dflt (refine' c_text_ok ?u1x ?u2x ?u3x ?u4x ?u5x ?uKx ?udx ?uux ?z1 ?z2 ?z3 ?z4 ?z5 ?_; walk_at "M use"; (case u4x => walk_at "M led"); (case z1 => walk_at "M ne"); (case z2 => walk_at "M ap"); (case z3 => omega); (case z4 => omega); (case z5 => assumption)); k_whole; intro h' tk' t' t2' t3' t4' F' N'; (try dsimp only); (try k_sweep))
  k_with "M call" => ((with_reducible show wpAny _ _ (call (Value.ref 270) _) _ _ _); k_dflt (refine' c_text_bad ?u1x ?u2x ?u3x ?u4x ?u5x ?uKx ?udx ?uux ?z1 ?z2 ?z3 ?z4 ?z5 ?_; walk_at "M use"; (case u4x => walk_at "M led"); (case z1 => walk_at "M ne"); (case z2 => walk_at "M ap"); (case z3 => omega); (case z4 => omega); (case z5 => assumption)); k_whole; intro e' g₂' h' tk' F' U' R'; (try dsimp only))
  k_with "M call" => ((with_reducible show wpAny _ _ (call (Value.ref 277) _) _ _ _); k_dflt (refine' c_symbol_kind ?u1x ?u2x ?u3x ?u4x ?u5x ?uKx ?udx ?uux ?z1 ?z2 ?_; walk_at "M use"; (case u4x => k_asm); (case z1 => omega); (case z2 => omega)); k_whole; intro h' tk' t' F' N'; (try dsimp only); (try k_sweep))
  k_with "compareOp In str ref" => (k_here; (with_reducible show wpAny _ _ (compareOp CmpOp.In (Value.str _ _) (Value.ref 55)) _ _ _); k_dflt (refine in_keys (by k_in) ?_))
  k_with "M call" => ((with_reducible show wpAny _ _ (call (Value.ref 228) _) _ _ _); k_dflt (refine' c_read_int ?u1x ?u2x ?u3x ?u4x ?u5x ?uKx ?udx ?uux ?z1 ?z2 ?z3 ?z4 ?z5 ?z6 ?z7 ?_; walk_at "M use"; (case u4x => walk_at "M led"); (case z1 => walk_at "M ne"); (case z2 => walk_at "M ap"); (case z3 => omega); (case z4 => omega); (case z5 => assumption); (case z6 => assumption); (case z7 => assumption)); k_whole; intro h' tk' t' t2' t3' t4' F' N'; (try dsimp only); (try k_sweep))
  k_with "M call" => ((with_reducible show wpAny _ _ (call (Value.ref 228) _) _ _ _); k_dflt (refine' c_read_flt ?u1x ?u2x ?u3x ?u4x ?u5x ?uKx ?udx ?uux ?z1 ?z2 ?z3 ?z4 ?z5 ?z6 ?z7 ?_; walk_at "M use"; (case u4x => walk_at "M led"); (case z1 => walk_at "M ne"); (case z2 => walk_at "M ap"); (case z3 => omega); (case z4 => omega); (case z5 => assumption); (case z6 => assumption); (case z7 => assumption)); k_whole; intro e' g₂' h' tk' F' U' R'; (try dsimp only))
  k_steps
  · exact hraise _ _ _ _ (by assumption) (by assumption) (by assumption)
theorem c_word_hex {w : World} {dp un : Nat} {gd : Option (List Code)} {cn : Str} {cs : Scope} {a : Addr} {ccd : Value} {cl : List (Str × Addr)} {outer : List Env} {A₀ : Around} {base h₀ : Heap} {L : Addr} {m : Str → Option Value} {s : Shared} {mean : ExcName → Option Value} {mg mb : Str → Option Value} {Q E : Value → Shared → Prop} {rest : List (Addr × Obj)} {x d : Addr} {k : SgK} {T : List Nat} {t1 t2 t3 t4 : Tok} {i j : Nat}
  (B : Below A₀ base outer h₀) (F : Fr h₀ L s.heap m) (X : (Mine.hd.heap_1 w.params).In h₀) (N : News h₀ L s.heap ((d, SGo k T i t1 t2 t3 t4) :: (x, instObj 147 d) :: rest)) (TT : Top Mine.hd.view_1 lz mean mg mb h₀) (hk : cs.kind = .function) (hd : dp + 7 < recursionLimit) (hu : un + 8 * 7 < cLine)
  (hxd : x ≠ d) (hap : ∀ p ∈ rest, p.1 ≠ d) (hT : T.length ≤ 9000) (hi : i ≤ T.length) (h1 : T[i]? = some 48) (h1x : T[i + 1]? = some 120) (h2 : amg T[i + 2]? HEX = true) (hj : takeEnd T HEX (i + 2) = j) (h3 : (cut T (i + 2) j).length ≤ 20)
  (hret : ∀ h' tk' p ta tb v t2 t3 t4, Fr h₀ L h' m → News h₀ L h' ((p, tup3 (.str (Str.ofString "int") ta) (.str (tx (cut T i j)) tb) v) :: (d, SGo k T j t1 t2 t3 t4) :: (x, instObj 147 d) :: rest) → DatIn [] v (.int (numN 16 (cut T (i + 2) j) : Nat)) → d < p → x < p → (∀ q ∈ rest, q.1 < p) → Q (.ref p) { s with heap := h', toks := tk' }) :
  wpAny (model PySem.Challenge.rw_sy0021_01.row.prog w) (ktrTop dp un gd cn cs L a ccd cl outer) (call (.ref 305) [.ref x]) Q E s := by
  subst hj
  have ht : (tx T).length ≤ 10000 := by rw [tx_len]; omega
  have f0 : amg T[i]? DIG = true := by rw [h1]; decide +kernel
  have f1 := amg_ne f0
  have f2 : amg T[i]? (Str.ofString "()[],;`{}").cps.toList = false := amg_off f0 dig_spc
  have f3 : amg T[i]? (Str.ofString "0123456789").cps.toList = true := f0
  have f4 := lt_of_amg h2
  have f7 := takeEnd_le (l := HEX) (show i + 2 ≤ T.length by omega)
  have f8 : i + 2 + 1 ≤ takeEnd T HEX (i + 2) := take_gt h2
  have hfill : (Mine.hd.heap_1 = Mine.hd.heap_1 ∧ PySem.Challenge.rw_sy0021_01 = PySem.Challenge.rw_sy0021_01) := by k_fill; exact ⟨rfl, rfl⟩
  clear hfill
  refine wpAny_call ?_
  k_with_none
  k_with "M enter" => (refine' code_def ?k1 ?k2 ?k3 ?k4 ?k5 ?kA ?kF ?kK ?k6 ?k7 ?k8 ?k9 ?kB ?_ ?c2 ?c3 ?c4 ?c5; (case kA => exact rfl); (case kF => exact rfl); (case kK => assumption); (case k1 => k_asm); (case k2 => k_asm); (case k3 => k_asm); (case k4 => k_asm); (case k5 => k_asm); (case k6 => k_is); (case k7 => k_is); (case k8 => first | exact rm0 (by assumption) | ktr_room); (case k9 => first | exact BindsTo.of_eq rfl | exact binds_K (by k_in) rfl (by k_is) rfl rfl rfl); (case c5 => decide); (case kB => exact locs rfl); (case c2 => exact rfl); (case c3 => exact rfl); (case c4 => exact rfl); k_whole; intro g' L' h' FG' F' N' B' X' T'; (try dsimp only); (try k_lift B'); (try k_fold))
  k_dflt (walk_at "M enter")
  k_with_none
  k_with "M om" => (first | with_reducible assumption | exact Nat.le_succ_of_le (by with_reducible assumption) | exact Nat.le_of_lt (by with_reducible assumption) | exact Nat.le_of_succ_le (by with_reducible assumption) | exact Nat.le_trans (by with_reducible assumption) (by decide) | exact Nat.le_trans (Nat.le_of_succ_le (by with_reducible assumption)) (Nat.le_trans (by with_reducible assumption) (by decide)))
  k_with "M use" => ((case u1x => k_asm); (case u2x => k_asm); (case u3x => k_asm); (case u5x => k_asm); (case uKx => first | assumption | exact rfl); (case udx => first | exact rmA (by assumption) (by decide) | ktr_room); (case uux => first | exact umA (by assumption) (by decide) | ktr_units))
  k_with "M in" => (first | with_reducible assumption | exact Frag.In.keeps (by with_reducible assumption) (Fr.keep (by with_reducible assumption)))
  k_with "call ref" => (k_here; k_extra "M call")
  k_with "call ref" => (k_here; with_reducible first | refine call_app0 ?_ | refine call_app1 ?_ | refine call_app2 ?_)
  k_with "eval Call" => (k_here; k_dflt (refine Call_ ?_))
  k_with "M all" => (first | assumption | exact apart_of (by first | assumption | exact And.right (by assumption) | exact And.right (And.right (by assumption)) | exact And.right (And.right (And.right (by assumption))) | exact And.right (And.right (And.right (And.right (by assumption))))))
  k_with "M call" => ((with_reducible show wpAny _ _ (call (Value.ref 158) _) _ _ _); k_dflt (refine' c_is_among ?u1x ?u2x ?u3x ?u4x ?u5x ?uKx ?udx ?uux ?_; walk_at "M use"; (case u4x => k_asm)); k_whole; intro h' tk' F' N'; (try dsimp only); (try k_sweep))
  k_with "M call" => ((with_reducible show wpAny _ _ (call (Value.ref 179) _) _ _ _); k_dflt (refine' c_name_letters ?u1x ?u2x ?u3x ?u4x ?u5x ?uKx ?udx ?uux ?_; walk_at "M use"; (case u4x => k_asm)); k_whole; intro h' tk' t' F' N'; (try dsimp only); (try k_sweep))
  k_with "M led" => (first | k_asm | exact news_rot1 (by k_asm) | exact news_rot2 (by k_asm) | exact news_rot3 (by k_asm) | exact news_rot4 (by k_asm))
  k_with "M call" => ((with_reducible show wpAny _ _ (call (Value.ref 116) [_]) _ _ _); k_dflt (refine' c_signG0 ?u1x ?u2x ?u3x ?u4x ?u5x ?uKx ?udx ?uux ?z2 ?z3 ?z4 ?_; walk_at "M use"; (case u4x => walk_at "M led"); (case z2 => omega); (case z3 => omega); (case z4 => omega)); k_whole; intro h' tk' t' F' N'; (try dsimp only); (try k_sweep))
  k_with "M call" => ((with_reducible show wpAny _ _ (call (Value.ref 116) [_, _]) _ _ _); k_dflt (refine' c_sign ?u1x ?u2x ?u3x ?u4x ?u5x ?uKx ?udx ?uux ?z1 ?z2 ?z3 ?z4 ?_; walk_at "M use"; (case u4x => walk_at "M led"); (case z1 => first | exact cast1 | exact cast2 | rfl | omega); (case z2 => omega); (case z3 => omega); (case z4 => omega)); k_whole; intro h' tk' t' F' N'; (try dsimp only); (try k_sweep))
  k_with "M call" => ((with_reducible show wpAny _ _ (call (Value.ref 116) [_]) _ _ _); k_dflt (refine' c_sign0 ?u1x ?u2x ?u3x ?u4x ?u5x ?uKx ?udx ?uux ?z2 ?z3 ?_; walk_at "M use"; (case u4x => walk_at "M led"); (case z2 => omega); (case z3 => omega)); k_whole; intro h' tk' t' F' N'; (try dsimp only); (try k_sweep))
  k_with "M ap" => (first | k_asm | k_all)
  k_with "M ne" => (first | k_asm | k_ne)
  k_with "M call" => ((with_reducible show wpAny _ _ (call (Value.ref 130) _) _ _ _); k_dflt (refine' c_step ?u1x ?u2x ?u3x ?u4x ?u5x ?uKx ?udx ?uux ?z1 ?z2 ?z3 ?z4 ?_; walk_at "M use"; (case u4x => walk_at "M led"); (case z1 => walk_at "M ne"); (case z2 => walk_at "M ap"); (case z3 => omega); (case z4 => omega)); k_whole; intro h' tk' t' t2' t3' t4' F' N'; (try dsimp only); (try k_sweep))
  k_with "M call" => ((with_reducible show wpAny _ _ (call (Value.ref 144) _) _ _ _); k_dflt (refine' c_place ?u1x ?u2x ?u3x ?u4x ?u5x ?uKx ?udx ?uux ?_; walk_at "M use"; (case u4x => walk_at "M led")); k_whole; intro h' tk' p' u3' u4' F' N' l1; (try dsimp only); (try k_lt l1); (try k_sweep))
  k_with "M call" => ((with_reducible show wpAny _ _ (call (Value.ref 137) _) _ _ _); k_dflt (refine' c_take ?u1x ?u2x ?u3x ?u4x ?u5x ?uKx ?udx ?uux ?z1 ?z2 ?z3 ?z4 ?_; walk_at "M use"; (case u4x => walk_at "M led"); (case z1 => walk_at "M ne"); (case z2 => walk_at "M ap"); (case z3 => omega); (case z4 => omega)); k_whole; intro h' tk' t' t2' t3' t4' F' N'; (try dsimp only); (try k_sweep))
  k_with "M call" => ((with_reducible show wpAny _ _ (call (Value.ref 52) _) _ _ _); k_dflt (refine' c_make ?u1x ?u2x ?u3x ?u4x ?u5x ?uKx ?udx ?uux ?_; walk_at "M use"; (case u4x => k_asm)); k_whole; intro h' tk' e' t' dx' h1' h2' k1' k2' F' N' ap' l1; (try dsimp only); (try k_sweep))
  k_with "exec Raise some none" => (k_here; k_dflt (refine raise52 (by rfl) ?_))
  k_with "RaiseQ" => (k_here; (rename News _ _ _ _ => nX'); refine ⟨_, _, _, rfl, by k_in, (nX' _ (.tail _ (.head _))).1, ?_⟩)
  k_with "leaving ref" => (k_here; k_dflt (refine' leaveNew ?K ?F ?N ?ap ?l ?_; (case N => assumption); (case F => k_asm); (case K => k_asm); (case ap => assumption); (case l => assumption)); intro h' R' U'; (try dsimp only))
  k_with "leaving ref" => (k_here; k_dflt (refine' leaveOnAt ?K ?F ?R ?U ?_; (case K => k_asm); (case R => assumption); (case U => assumption); (case F => assumption)); intro h' R' U'; (try dsimp only))
  k_with "M call" => ((with_reducible show wpAny _ _ (call (Value.ref 228) _) _ _ _); k_dflt (refine' c_read_dec ?u1x ?u2x ?u3x ?u4x ?u5x ?uKx ?udx ?uux ?z1 ?z2 ?z3 ?z4 ?z5 ?z6 ?zR ?zE; walk_at "M use"; (case u4x => walk_at "M led"); (case z1 => walk_at "M ne"); (case z2 => walk_at "M ap"); (case z3 => omega); (case z4 => omega); (case z5 => assumption); (case z6 => assumption)); (case' zR => (k_whole; intro hfl' h' tk' t' t2' t3' t4' F' N'; (try dsimp only); (try k_sweep))); (case' zE => (k_whole; intro hfl' e' g₂' h' tk' F' U' R'; (try dsimp only))))
  k_with "M call" => ((with_reducible show wpAny _ _ (call (Value.ref 228) _) _ _ _); k_dflt (refine' c_read_hex ?u1x ?u2x ?u3x ?u4x ?u5x ?uKx ?udx ?uux ?z1 ?z2 ?z3 ?z4 ?z5 ?z6 ?z7 ?z8 ?_; walk_at "M use"; (case u4x => walk_at "M led"); (case z1 => walk_at "M ne"); (case z2 => walk_at "M ap"); (case z3 => omega); (case z4 => omega); (case z5 => assumption); (case z6 => assumption); (case z7 => assumption); (case z8 => assumption)); k_whole; intro h' tk' t' t2' t3' t4' F' N'; (try dsimp only); (try k_sweep))
  k_with "M call" => ((with_reducible show wpAny _ _ (call (Value.ref 256) _) _ _ _); k_dflt (refine' c_char_plain ?u1x ?u2x ?u3x ?u4x ?u5x ?uKx ?udx ?uux ?z1 ?z2 ?z3 ?z4 ?z5 ?z6 ?z7 ?z8 ?z9 ?_; walk_at "M use"; (case u4x => walk_at "M led"); (case z1 => walk_at "M ne"); (case z2 => walk_at "M ap"); (case z3 => omega); (case z4 => omega); (case z5 => first | assumption | omega); (case z6 => first | assumption | omega); (case z7 => first | assumption | omega); (case z8 => first | assumption | omega); (case z9 => first | assumption | omega)); k_whole; intro h' tk' t' t2' t3' t4' F' N'; (try dsimp only); (try k_sweep))
  k_with "M call" => ((with_reducible show wpAny _ _ (call (Value.ref 256) _) _ _ _); k_dflt (refine' c_char_t ?u1x ?u2x ?u3x ?u4x ?u5x ?uKx ?udx ?uux ?z1 ?z2 ?z3 ?z4 ?z5 ?z6 ?z7 ?_; walk_at "M use"; (case u4x => walk_at "M led"); (case z1 => walk_at "M ne"); (case z2 => walk_at "M ap"); (case z3 => omega); (case z4 => omega); (case z5 => first | assumption | omega); (case z6 => first | assumption | omega); (case z7 => first | assumption | omega)); k_whole; intro h' tk' t' t2' t3' t4' F' N'; (try dsimp only); (try k_sweep))
  k_with "M call" => ((with_reducible show wpAny _ _ (call (Value.ref 256) _) _ _ _); k_dflt (refine' c_char_bad ?u1x ?u2x ?u3x ?u4x ?u5x ?uKx ?udx ?uux ?z1 ?z2 ?z3 ?z4 ?z5 ?_; walk_at "M use"; (case u4x => walk_at "M led"); (case z1 => walk_at "M ne"); (case z2 => walk_at "M ap"); (case z3 => omega); (case z4 => omega); (case z5 => first | assumption | omega)); k_whole; intro e' g₂' h' tk' F' U' R'; (try dsimp only))
  k_with "M call" => ((with_reducible show wpAny _ _ (call (Value.ref 270) _) _ _ _); k_dflt (refine' c_text_ok ?u1x ?u2x ?u3x ?u4x ?u5x ?uKx ?udx ?uux ?z1 ?z2 ?z3 ?z4 ?z5 ?_; walk_at "M use"; (case u4x => walk_at "M led"); (case z1 => walk_at "M ne"); (case z2 => walk_at "M ap"); (case z3 => omega); (case z4 => omega); (case z5 => assumption)); k_whole; intro h' tk' t' t2' t3' t4' F' N'; (try dsimp only); (try k_sweep))
  k_with "M call" => ((with_reducible show wpAny _ _ (call (Value.ref 270) _) _ _ _); k_dflt (refine' c_text_bad ?u1x ?u2x ?u3x ?u4x ?u5x ?uKx ?udx ?uux ?z1 ?z2 ?z3 ?z4 ?z5 ?_; walk_at "M use"; (case u4x => walk_at "M led"); (case z1 => walk_at "M ne"); (case z2 => walk_at "M ap"); (case z3 => omega); (case z4 => omega); (case z5 => assumption)); k_whole; intro e' g₂' h' tk' F' U' R'; (try dsimp only))
  k_with "M call" => ((with_reducible show wpAny _ _ (call (Value.ref 277) _) _ _ _); k_dflt (refine' c_symbol_kind ?u1x ?u2x ?u3x ?u4x ?u5x ?uKx ?udx ?uux ?z1 ?z2 ?_; walk_at "M use"; (case u4x => k_asm); (case z1 => omega); (case z2 => omega)); k_whole; intro h' tk' t' F' N'; (try dsimp only); (try k_sweep))
  k_with "M lt" => ((rename (_ < _ ∧ _) => l1); first | exact l1.1 | exact l1.2.1 | exact ktn_ltOf l1.2.2)
  k_with "compareOp In str ref" => (k_here; (with_reducible show wpAny _ _ (compareOp CmpOp.In (Value.str _ _) (Value.ref 55)) _ _ _); k_dflt (refine in_keys (by k_in) ?_))
  k_with "M call" => ((with_reducible show wpAny _ _ (call (Value.ref 228) _) _ _ _); k_dflt (refine' c_read_int ?u1x ?u2x ?u3x ?u4x ?u5x ?uKx ?udx ?uux ?z1 ?z2 ?z3 ?z4 ?z5 ?z6 ?z7 ?_; walk_at "M use"; (case u4x => walk_at "M led"); (case z1 => walk_at "M ne"); (case z2 => walk_at "M ap"); (case z3 => omega); (case z4 => omega); (case z5 => assumption); (case z6 => assumption); (case z7 => assumption)); k_whole; intro h' tk' t' t2' t3' t4' F' N'; (try dsimp only); (try k_sweep))
  k_with "M call" => ((with_reducible show wpAny _ _ (call (Value.ref 228) _) _ _ _); k_dflt (refine' c_read_flt ?u1x ?u2x ?u3x ?u4x ?u5x ?uKx ?udx ?uux ?z1 ?z2 ?z3 ?z4 ?z5 ?z6 ?z7 ?_; walk_at "M use"; (case u4x => walk_at "M led"); (case z1 => walk_at "M ne"); (case z2 => walk_at "M ap"); (case z3 => omega); (case z4 => omega); (case z5 => assumption); (case z6 => assumption); (case z7 => assumption)); k_whole; intro e' g₂' h' tk' F' U' R'; (try dsimp only))
  k_steps
  · exact hret _ _ _ _ _ _ _ _ _ (by assumption) (news_t3 (by assumption) rfl (slice_tx rfl rfl (by omega) (by omega))) (.int _ _) (by walk_at "M lt") (by walk_at "M lt") (by walk_at "M lt")
theorem c_word_char {w : World} {dp un : Nat} {gd : Option (List Code)} {cn : Str} {cs : Scope} {a : Addr} {ccd : Value} {cl : List (Str × Addr)} {outer : List Env} {A₀ : Around} {base h₀ : Heap} {L : Addr} {m : Str → Option Value} {s : Shared} {mean : ExcName → Option Value} {mg mb : Str → Option Value} {Q E : Value → Shared → Prop} {rest : List (Addr × Obj)} {x d : Addr} {k : SgK} {T : List Nat} {t1 t2 t3 t4 : Tok} {i c : Nat}
  (B : Below A₀ base outer h₀) (F : Fr h₀ L s.heap m) (X : (Mine.hd.heap_1 w.params).In h₀) (N : News h₀ L s.heap ((d, SGo k T i t1 t2 t3 t4) :: (x, instObj 147 d) :: rest)) (TT : Top Mine.hd.view_1 lz mean mg mb h₀) (hk : cs.kind = .function) (hd : dp + 7 < recursionLimit) (hu : un + 8 * 7 < cLine)
  (hxd : x ≠ d) (hap : ∀ p ∈ rest, p.1 ≠ d) (hT : T.length ≤ 9000) (hi : i ≤ T.length) (h1 : T[i]? = some 39) (h2 : T[i + 1]? = some c) (h3 : bareO (some c) = true) (h39 : c ≠ 39) (h92 : c ≠ 92) (hq : T[i + 2]? = some 39)
  (hret : ∀ h' tk' p ta tb v t2 t3 t4, Fr h₀ L h' m → News h₀ L h' ((p, tup3 (.str (Str.ofString "char") ta) (.str (tx (cut T i (i + 3))) tb) v) :: (d, SGo k T (i + 3) t1 t2 t3 t4) :: (x, instObj 147 d) :: rest) → DatIn [] v (.str (sgo (some c))) → d < p → x < p → (∀ q ∈ rest, q.1 < p) → Q (.ref p) { s with heap := h', toks := tk' }) :
  wpAny (model PySem.Challenge.rw_sy0021_01.row.prog w) (ktrTop dp un gd cn cs L a ccd cl outer) (call (.ref 305) [.ref x]) Q E s := by
  have ht : (tx T).length ≤ 10000 := by rw [tx_len]; omega
  have f1 : (sgo T[i]? == Str.ofString "") = false := ne_e (by rw [h1]; simp)
  have f2 : amg T[i]? (Str.ofString "()[],;`{}").cps.toList = false := by rw [h1]; decide +kernel
  have f3 : amg T[i]? (Str.ofString "0123456789").cps.toList = false := by rw [h1]; decide +kernel
  have f5 : amg T[i]? (Str.ofString "abcdefghijklmnopqrstuvwxyz_").cps.toList = false := by rw [h1]; decide +kernel
  have f6 : amg T[i]? (Str.ofString "ABCDEFGHIJKLMNOPQRSTUVWXYZ").cps.toList = false := by rw [h1]; decide +kernel
  have f7 : amg T[i]? (Str.ofString "!#$%&*+./<=>?@\\^|-~:").cps.toList = false := by rw [h1]; decide +kernel
  have f8 : (sgo T[i]? == Str.ofString "'") = true := by rw [h1]; decide +kernel
  have f10 := TxtR.lt hq
  have hfill : (Mine.hd.heap_1 = Mine.hd.heap_1 ∧ PySem.Challenge.rw_sy0021_01 = PySem.Challenge.rw_sy0021_01) := by k_fill; exact ⟨rfl, rfl⟩
  clear hfill
  refine wpAny_call ?_
  k_with_none
  k_with "M enter" => (refine' code_def ?k1 ?k2 ?k3 ?k4 ?k5 ?kA ?kF ?kK ?k6 ?k7 ?k8 ?k9 ?kB ?_ ?c2 ?c3 ?c4 ?c5; (case kA => exact rfl); (case kF => exact rfl); (case kK => assumption); (case k1 => k_asm); (case k2 => k_asm); (case k3 => k_asm); (case k4 => k_asm); (case k5 => k_asm); (case k6 => k_is); (case k7 => k_is); (case k8 => first | exact rm0 (by assumption) | ktr_room); (case k9 => first | exact BindsTo.of_eq rfl | exact binds_K (by k_in) rfl (by k_is) rfl rfl rfl); (case c5 => decide); (case kB => exact locs rfl); (case c2 => exact rfl); (case c3 => exact rfl); (case c4 => exact rfl); k_whole; intro g' L' h' FG' F' N' B' X' T'; (try dsimp only); (try k_lift B'); (try k_fold))
  k_dflt (walk_at "M enter")
  k_with_none
  k_with "M om" => (first | with_reducible assumption | exact Nat.le_succ_of_le (by with_reducible assumption) | exact Nat.le_of_lt (by with_reducible assumption) | exact Nat.le_of_succ_le (by with_reducible assumption) | exact Nat.le_trans (by with_reducible assumption) (by decide) | exact Nat.le_trans (Nat.le_of_succ_le (by with_reducible assumption)) (Nat.le_trans (by with_reducible assumption) (by decide)))
  k_with "M use" => ((case u1x => k_asm); (case u2x => k_asm); (case u3x => k_asm); (case u5x => k_asm); (case uKx => first | assumption | exact rfl); (case udx => first | exact rmA (by assumption) (by decide) | ktr_room); (case uux => first | exact umA (by assumption) (by decide) | ktr_units))
  k_with "M in" => (first | with_reducible assumption | exact Frag.In.keeps (by with_reducible assumption) (Fr.keep (by with_reducible assumption)))
  k_with "call ref" => (k_here; k_extra "M call")
  k_with "call ref" => (k_here; with_reducible first | refine call_app0 ?_ | refine call_app1 ?_ | refine call_app2 ?_)
  k_with "eval Call" => (k_here; k_dflt (refine Call_ ?_))
  k_with "M all" => (first | assumption | exact apart_of (by first | assumption | exact And.right (by assumption) | exact And.right (And.right (by assumption)) | exact And.right (And.right (And.right (by assumption))) | exact And.right (And.right (And.right (And.right (by assumption))))))
  k_with "M call" => ((with_reducible show wpAny _ _ (call (Value.ref 158) _) _ _ _); k_dflt (refine' c_is_among ?u1x ?u2x ?u3x ?u4x ?u5x ?uKx ?udx ?uux ?_; walk_at "M use"; (case u4x => k_asm)); k_whole; intro h' tk' F' N'; (try dsimp only); (try k_sweep))
  k_with "M call" => ((with_reducible show wpAny _ _ (call (Value.ref 179) _) _ _ _); k_dflt (refine' c_name_letters ?u1x ?u2x ?u3x ?u4x ?u5x ?uKx ?udx ?uux ?_; walk_at "M use"; (case u4x => k_asm)); k_whole; intro h' tk' t' F' N'; (try dsimp only); (try k_sweep))
  k_with "M led" => (first | k_asm | exact news_rot1 (by k_asm) | exact news_rot2 (by k_asm) | exact news_rot3 (by k_asm) | exact news_rot4 (by k_asm))
  k_with "M call" => ((with_reducible show wpAny _ _ (call (Value.ref 116) [_]) _ _ _); k_dflt (refine' c_signG0 ?u1x ?u2x ?u3x ?u4x ?u5x ?uKx ?udx ?uux ?z2 ?z3 ?z4 ?_; walk_at "M use"; (case u4x => walk_at "M led"); (case z2 => omega); (case z3 => omega); (case z4 => omega)); k_whole; intro h' tk' t' F' N'; (try dsimp only); (try k_sweep))
  k_with "M call" => ((with_reducible show wpAny _ _ (call (Value.ref 116) [_, _]) _ _ _); k_dflt (refine' c_sign ?u1x ?u2x ?u3x ?u4x ?u5x ?uKx ?udx ?uux ?z1 ?z2 ?z3 ?z4 ?_; walk_at "M use"; (case u4x => walk_at "M led"); (case z1 => first | exact cast1 | exact cast2 | rfl | omega); (case z2 => omega); (case z3 => omega); (case z4 => omega)); k_whole; intro h' tk' t' F' N'; (try dsimp only); (try k_sweep))
  k_with "M call" => ((with_reducible show wpAny _ _ (call (Value.ref 116) [_]) _ _ _); k_dflt (refine' c_sign0 ?u1x ?u2x ?u3x ?u4x ?u5x ?uKx ?udx ?uux ?z2 ?z3 ?_; walk_at "M use"; (case u4x => walk_at "M led"); (case z2 => omega); (case z3 => omega)); k_whole; intro h' tk' t' F' N'; (try dsimp only); (try k_sweep))
  k_with "M ap" => (first | k_asm | k_all)
  k_with "M ne" => (first | k_asm | k_ne)
  k_with "M call" => ((with_reducible show wpAny _ _ (call (Value.ref 130) _) _ _ _); k_dflt (refine' c_step ?u1x ?u2x ?u3x ?u4x ?u5x ?uKx ?udx ?uux ?z1 ?z2 ?z3 ?z4 ?_; walk_at "M use"; (case u4x => walk_at "M led"); (case z1 => walk_at "M ne"); (case z2 => walk_at "M ap"); (case z3 => omega); (case z4 => omega)); k_whole; intro h' tk' t' t2' t3' t4' F' N'; (try dsimp only); (try k_sweep))
  k_with "M call" => ((with_reducible show wpAny _ _ (call (Value.ref 144) _) _ _ _); k_dflt (refine' c_place ?u1x ?u2x ?u3x ?u4x ?u5x ?uKx ?udx ?uux ?_; walk_at "M use"; (case u4x => walk_at "M led")); k_whole; intro h' tk' p' u3' u4' F' N' l1; (try dsimp only); (try k_lt l1); (try k_sweep))
  k_with "M call" => ((with_reducible show wpAny _ _ (call (Value.ref 137) _) _ _ _); k_dflt (refine' c_take ?u1x ?u2x ?u3x ?u4x ?u5x ?uKx ?udx ?uux ?z1 ?z2 ?z3 ?z4 ?_; walk_at "M use"; (case u4x => walk_at "M led"); (case z1 => walk_at "M ne"); (case z2 => walk_at "M ap"); (case z3 => omega); (case z4 => omega)); k_whole; intro h' tk' t' t2' t3' t4' F' N'; (try dsimp only); (try k_sweep))
  k_with "M call" => ((with_reducible show wpAny _ _ (call (Value.ref 52) _) _ _ _); k_dflt (refine' c_make ?u1x ?u2x ?u3x ?u4x ?u5x ?uKx ?udx ?uux ?_; walk_at "M use"; (case u4x => k_asm)); k_whole; intro h' tk' e' t' dx' h1' h2' k1' k2' F' N' ap' l1; (try dsimp only); (try k_sweep))
  k_with "exec Raise some none" => (k_here; k_dflt (refine raise52 (by rfl) ?_))
  k_with "RaiseQ" => (k_here; (rename News _ _ _ _ => nX'); refine ⟨_, _, _, rfl, by k_in, (nX' _ (.tail _ (.head _))).1, ?_⟩)
  k_with "leaving ref" => (k_here; k_dflt (refine' leaveNew ?K ?F ?N ?ap ?l ?_; (case N => assumption); (case F => k_asm); (case K => k_asm); (case ap => assumption); (case l => assumption)); intro h' R' U'; (try dsimp only))
  k_with "leaving ref" => (k_here; k_dflt (refine' leaveOnAt ?K ?F ?R ?U ?_; (case K => k_asm); (case R => assumption); (case U => assumption); (case F => assumption)); intro h' R' U'; (try dsimp only))
  k_with "M call" => ((with_reducible show wpAny _ _ (call (Value.ref 228) _) _ _ _); k_dflt (refine' c_read_dec ?u1x ?u2x ?u3x ?u4x ?u5x ?uKx ?udx ?uux ?z1 ?z2 ?z3 ?z4 ?z5 ?z6 ?zR ?zE; walk_at "M use"; (case u4x => walk_at "M led"); (case z1 => walk_at "M ne"); (case z2 => walk_at "M ap"); (case z3 => omega); (case z4 => omega); (case z5 => assumption); (case z6 => assumption)); (case' zR => (k_whole; intro hfl' h' tk' t' t2' t3' t4' F' N'; (try dsimp only); (try k_sweep))); (case' zE => (k_whole; intro hfl' e' g₂' h' tk' F' U' R'; (try dsimp only))))
  k_with "M call" => ((with_reducible show wpAny _ _ (call (Value.ref 228) _) _ _ _); k_dflt (refine' c_read_hex ?u1x ?u2x ?u3x ?u4x ?u5x ?uKx ?udx ?uux ?z1 ?z2 ?z3 ?z4 ?z5 ?z6 ?z7 ?z8 ?_; walk_at "M use"; (case u4x => walk_at "M led"); (case z1 => walk_at "M ne"); (case z2 => walk_at "M ap"); (case z3 => omega); (case z4 => omega); (case z5 => assumption); (case z6 => assumption); (case z7 => assumption); (case z8 => assumption)); k_whole; intro h' tk' t' t2' t3' t4' F' N'; (try dsimp only); (try k_sweep))
  k_with "M call" => ((with_reducible show wpAny _ _ (call (Value.ref 256) _) _ _ _); k_dflt (refine' c_char_plain ?u1x ?u2x ?u3x ?u4x ?u5x ?uKx ?udx ?uux ?z1 ?z2 ?z3 ?z4 ?z5 ?z6 ?z7 ?z8 ?z9 ?_; walk_at "M use"; (case u4x => walk_at "M led"); (case z1 => walk_at "M ne"); (case z2 => walk_at "M ap"); (case z3 => omega); (case z4 => omega); (case z5 => first | assumption | omega); (case z6 => first | assumption | omega); (case z7 => first | assumption | omega); (case z8 => first | assumption | omega); (case z9 => first | assumption | omega)); k_whole; intro h' tk' t' t2' t3' t4' F' N'; (try dsimp only); (try k_sweep))
  k_with "M call" => ((with_reducible show wpAny _ _ (call (Value.ref 256) _) _ _ _); k_dflt (refine' c_char_t ?u1x ?u2x ?u3x ?u4x ?u5x ?uKx ?udx ?uux ?z1 ?z2 ?z3 ?z4 ?z5 ?z6 ?z7 ?_; walk_at "M use"; (case u4x => walk_at "M led"); (case z1 => walk_at "M ne"); (case z2 => walk_at "M ap"); (case z3 => omega); (case z4 => omega); (case z5 => first | assumption | omega); (case z6 => first | assumption | omega); (case z7 => first | assumption | omega)); k_whole; intro h' tk' t' t2' t3' t4' F' N'; (try dsimp only); (try k_sweep))
  k_with "M call" => ((with_reducible show wpAny _ _ (call (Value.ref 256) _) _ _ _); k_dflt (refine' c_char_bad ?u1x ?u2x ?u3x ?u4x ?u5x ?uKx ?udx ?uux ?z1 ?z2 ?z3 ?z4 ?z5 ?_; walk_at "M use"; (case u4x => walk_at "M led"); (case z1 => walk_at "M ne"); (case z2 => walk_at "M ap"); (case z3 => omega); (case z4 => omega); (case z5 => first | assumption | omega)); k_whole; intro e' g₂' h' tk' F' U' R'; (try dsimp only))
  k_with "M call" => ((with_reducible show wpAny _ _ (call (Value.ref 270) _) _ _ _); k_dflt (refine' c_text_ok ?u1x ?u2x ?u3x ?u4x ?u5x ?uKx ?udx ?uux ?z1 ?z2 ?z3 ?z4 ?z5 ?_; walk_at "M use"; (case u4x => walk_at "M led"); (case z1 => walk_at "M ne"); (case z2 => walk_at "M ap"); (case z3 => omega); (case z4 => omega); (case z5 => assumption)); k_whole; intro h' tk' t' t2' t3' t4' F' N'; (try dsimp only); (try k_sweep))
  k_with "M call" => ((with_reducible show wpAny _ _ (call (Value.ref 270) _) _ _ _); k_dflt (refine' c_text_bad ?u1x ?u2x ?u3x ?u4x ?u5x ?uKx ?udx ?uux ?z1 ?z2 ?z3 ?z4 ?z5 ?_; walk_at "M use"; (case u4x => walk_at "M led"); (case z1 => walk_at "M ne"); (case z2 => walk_at "M ap"); (case z3 => omega); (case z4 => omega); (case z5 => assumption)); k_whole; intro e' g₂' h' tk' F' U' R'; (try dsimp only))
  k_with "M call" => ((with_reducible show wpAny _ _ (call (Value.ref 277) _) _ _ _); k_dflt (refine' c_symbol_kind ?u1x ?u2x ?u3x ?u4x ?u5x ?uKx ?udx ?uux ?z1 ?z2 ?_; walk_at "M use"; (case u4x => k_asm); (case z1 => omega); (case z2 => omega)); k_whole; intro h' tk' t' F' N'; (try dsimp only); (try k_sweep))
  k_with "M lt" => ((rename (_ < _ ∧ _) => l1); first | exact l1.1 | exact l1.2.1 | exact ktn_ltOf l1.2.2)
  k_with "compareOp In str ref" => (k_here; (with_reducible show wpAny _ _ (compareOp CmpOp.In (Value.str _ _) (Value.ref 55)) _ _ _); k_dflt (refine in_keys (by k_in) ?_))
  k_with "M call" => ((with_reducible show wpAny _ _ (call (Value.ref 228) _) _ _ _); k_dflt (refine' c_read_int ?u1x ?u2x ?u3x ?u4x ?u5x ?uKx ?udx ?uux ?z1 ?z2 ?z3 ?z4 ?z5 ?z6 ?z7 ?_; walk_at "M use"; (case u4x => walk_at "M led"); (case z1 => walk_at "M ne"); (case z2 => walk_at "M ap"); (case z3 => omega); (case z4 => omega); (case z5 => assumption); (case z6 => assumption); (case z7 => assumption)); k_whole; intro h' tk' t' t2' t3' t4' F' N'; (try dsimp only); (try k_sweep))
  k_with "M call" => ((with_reducible show wpAny _ _ (call (Value.ref 228) _) _ _ _); k_dflt (refine' c_read_flt ?u1x ?u2x ?u3x ?u4x ?u5x ?uKx ?udx ?uux ?z1 ?z2 ?z3 ?z4 ?z5 ?z6 ?z7 ?_; walk_at "M use"; (case u4x => walk_at "M led"); (case z1 => walk_at "M ne"); (case z2 => walk_at "M ap"); (case z3 => omega); (case z4 => omega); (case z5 => assumption); (case z6 => assumption); (case z7 => assumption)); k_whole; intro e' g₂' h' tk' F' U' R'; (try dsimp only))
  k_steps
  · exact hret _ _ _ _ _ _ _ _ _ (by assumption) (news_t3 (by assumption) rfl (slice_tx rfl rfl (by omega) (by omega))) (by rw [← h2]; exact .str _ _) (by walk_at "M lt") (by walk_at "M lt") (by walk_at "M lt")
theorem c_word_chart {w : World} {dp un : Nat} {gd : Option (List Code)} {cn : Str} {cs : Scope} {a : Addr} {ccd : Value} {cl : List (Str × Addr)} {outer : List Env} {A₀ : Around} {base h₀ : Heap} {L : Addr} {m : Str → Option Value} {s : Shared} {mean : ExcName → Option Value} {mg mb : Str → Option Value} {Q E : Value → Shared → Prop} {rest : List (Addr × Obj)} {x d : Addr} {k : SgK} {T : List Nat} {t1 t2 t3 t4 : Tok} {i : Nat}
  (B : Below A₀ base outer h₀) (F : Fr h₀ L s.heap m) (X : (Mine.hd.heap_1 w.params).In h₀) (N : News h₀ L s.heap ((d, SGo k T i t1 t2 t3 t4) :: (x, instObj 147 d) :: rest)) (TT : Top Mine.hd.view_1 lz mean mg mb h₀) (hk : cs.kind = .function) (hd : dp + 7 < recursionLimit) (hu : un + 8 * 7 < cLine)
  (hxd : x ≠ d) (hap : ∀ p ∈ rest, p.1 ≠ d) (hT : T.length ≤ 9000) (hi : i ≤ T.length) (h1 : T[i]? = some 39) (h2 : T[i + 1]? = some 92) (h3 : T[i + 2]? = some 116) (hq : T[i + 3]? = some 39)
  (hret : ∀ h' tk' p ta tb v t2 t3 t4, Fr h₀ L h' m → News h₀ L h' ((p, tup3 (.str (Str.ofString "char") ta) (.str (tx (cut T i (i + 4))) tb) v) :: (d, SGo k T (i + 4) t1 t2 t3 t4) :: (x, instObj 147 d) :: rest) → DatIn [] v (.str (Str.ofString "\t")) → d < p → x < p → (∀ q ∈ rest, q.1 < p) → Q (.ref p) { s with heap := h', toks := tk' }) :
  wpAny (model PySem.Challenge.rw_sy0021_01.row.prog w) (ktrTop dp un gd cn cs L a ccd cl outer) (call (.ref 305) [.ref x]) Q E s := by
  have ht : (tx T).length ≤ 10000 := by rw [tx_len]; omega
  have f1 : (sgo T[i]? == Str.ofString "") = false := ne_e (by rw [h1]; simp)
  have f2 : amg T[i]? (Str.ofString "()[],;`{}").cps.toList = false := by rw [h1]; decide +kernel
  have f3 : amg T[i]? (Str.ofString "0123456789").cps.toList = false := by rw [h1]; decide +kernel
  have f5 : amg T[i]? (Str.ofString "abcdefghijklmnopqrstuvwxyz_").cps.toList = false := by rw [h1]; decide +kernel
  have f6 : amg T[i]? (Str.ofString "ABCDEFGHIJKLMNOPQRSTUVWXYZ").cps.toList = false := by rw [h1]; decide +kernel
  have f7 : amg T[i]? (Str.ofString "!#$%&*+./<=>?@\\^|-~:").cps.toList = false := by rw [h1]; decide +kernel
  have f8 : (sgo T[i]? == Str.ofString "'") = true := by rw [h1]; decide +kernel
  have f10 := TxtR.lt hq
  have hfill : (Mine.hd.heap_1 = Mine.hd.heap_1 ∧ PySem.Challenge.rw_sy0021_01 = PySem.Challenge.rw_sy0021_01) := by k_fill; exact ⟨rfl, rfl⟩
  clear hfill
  refine wpAny_call ?_
  k_with_none
  k_with "M enter" => (refine' code_def ?k1 ?k2 ?k3 ?k4 ?k5 ?kA ?kF ?kK ?k6 ?k7 ?k8 ?k9 ?kB ?_ ?c2 ?c3 ?c4 ?c5; (case kA => exact rfl); (case kF => exact rfl); (case kK => assumption); (case k1 => k_asm); (case k2 => k_asm); (case k3 => k_asm); (case k4 => k_asm); (case k5 => k_asm); (case k6 => k_is); (case k7 => k_is); (case k8 => first | exact rm0 (by assumption) | ktr_room); (case k9 => first | exact BindsTo.of_eq rfl | exact binds_K (by k_in) rfl (by k_is) rfl rfl rfl); (case c5 => decide); (case kB => exact locs rfl); (case c2 => exact rfl); (case c3 => exact rfl); (case c4 => exact rfl); k_whole; intro g' L' h' FG' F' N' B' X' T'; (try dsimp only); (try k_lift B'); (try k_fold))
  k_dflt (walk_at "M enter")
  k_with_none
  k_with "M om" => (first | with_reducible assumption | exact Nat.le_succ_of_le (by with_reducible assumption) | exact Nat.le_of_lt (by with_reducible assumption) | exact Nat.le_of_succ_le (by with_reducible assumption) | exact Nat.le_trans (by with_reducible assumption) (by decide) | exact Nat.le_trans (Nat.le_of_succ_le (by with_reducible assumption)) (Nat.le_trans (by with_reducible assumption) (by decide)))
  k_with "M use" => ((case u1x => k_asm); (case u2x => k_asm); (case u3x => k_asm); (case u5x => k_asm); (case uKx => first | assumption | exact rfl); (case udx => first | exact rmA (by assumption) (by decide) | ktr_room); (case uux => first | exact umA (by assumption) (by decide) | ktr_units))
  k_with "M in" => (first | with_reducible assumption | exact Frag.In.keeps (by with_reducible assumption) (Fr.keep (by with_reducible assumption)))
  k_with "call ref" => (k_here; k_extra "M call")
  k_with "call ref" => (k_here; with_reducible first | refine call_app0 ?_ | refine call_app1 ?_ | refine call_app2 ?_)
  k_with "eval Call" => (k_here; k_dflt (refine Call_ ?_))
  k_with "M all" => (first | assumption | exact apart_of (by first | assumption | exact And.right (by assumption) | exact And.right (And.right (by assumption)) | exact And.right (And.right (And.right (by assumption))) | exact And.right (And.right (And.right (And.right (by assumption))))))
  k_with "M call" => ((with_reducible show wpAny _ _ (call (Value.ref 158) _) _ _ _); k_dflt (refine' c_is_among ?u1x ?u2x ?u3x ?u4x ?u5x ?uKx ?udx ?uux ?_; walk_at "M use"; (case u4x => k_asm)); k_whole; intro h' tk' F' N'; (try dsimp only); (try k_sweep))
  k_with "M call" => ((with_reducible show wpAny _ _ (call (Value.ref 179) _) _ _ _); k_dflt (refine' c_name_letters ?u1x ?u2x ?u3x ?u4x ?u5x ?uKx ?udx ?uux ?_; walk_at "M use"; (case u4x => k_asm)); k_whole; intro h' tk' t' F' N'; (try dsimp only); (try k_sweep))
  k_with "M led" => (first | k_asm | exact news_rot1 (by k_asm) | exact news_rot2 (by k_asm) | exact news_rot3 (by k_asm) | exact news_rot4 (by k_asm))
  k_with "M call" => ((with_reducible show wpAny _ _ (call (Value.ref 116) [_]) _ _ _); k_dflt (refine' c_signG0 ?u1x ?u2x ?u3x ?u4x ?u5x ?uKx ?udx ?uux ?z2 ?z3 ?z4 ?_; walk_at "M use"; (case u4x => walk_at "M led"); (case z2 => omega); (case z3 => omega); (case z4 => omega)); k_whole; intro h' tk' t' F' N'; (try dsimp only); (try k_sweep))
  k_with "M call" => ((with_reducible show wpAny _ _ (call (Value.ref 116) [_, _]) _ _ _); k_dflt (refine' c_sign ?u1x ?u2x ?u3x ?u4x ?u5x ?uKx ?udx ?uux ?z1 ?z2 ?z3 ?z4 ?_; walk_at "M use"; (case u4x => walk_at "M led"); (case z1 => first | exact cast1 | exact cast2 | rfl | omega); (case z2 => omega); (case z3 => omega); (case z4 => omega)); k_whole; intro h' tk' t' F' N'; (try dsimp only); (try k_sweep))
  k_with "M call" => ((with_reducible show wpAny _ _ (call (Value.ref 116) [_]) _ _ _); k_dflt (refine' c_sign0 ?u1x ?u2x ?u3x ?u4x ?u5x ?uKx ?udx ?uux ?z2 ?z3 ?_; walk_at "M use"; (case u4x => walk_at "M led"); (case z2 => omega); (case z3 => omega)); k_whole; intro h' tk' t' F' N'; (try dsimp only); (try k_sweep))
  k_with "M ap" => (first | k_asm | k_all)
  k_with "M ne" => (first | k_asm | k_ne)
  k_with "M call" => ((with_reducible show wpAny _ _ (call (Value.ref 130) _) _ _ _); k_dflt (refine' c_step ?u1x ?u2x ?u3x ?u4x ?u5x ?uKx ?udx ?uux ?z1 ?z2 ?z3 ?z4 ?_; walk_at "M use"; (case u4x => walk_at "M led"); (case z1 => walk_at "M ne"); (case z2 => walk_at "M ap"); (case z3 => omega); (case z4 => omega)); k_whole; intro h' tk' t' t2' t3' t4' F' N'; (try dsimp only); (try k_sweep))
  k_with "M call" => ((with_reducible show wpAny _ _ (call (Value.ref 144) _) _ _ _); k_dflt (refine' c_place ?u1x ?u2x ?u3x ?u4x ?u5x ?uKx ?udx ?uux ?_; walk_at "M use"; (case u4x => walk_at "M led")); k_whole; intro h' tk' p' u3' u4' F' N' l1; (try dsimp only); (try k_lt l1); (try k_sweep))
  k_with "M call" => ((with_reducible show wpAny _ _ (call (Value.ref 137) _) _ _ _); k_dflt (refine' c_take ?u1x ?u2x ?u3x ?u4x ?u5x ?uKx ?udx ?uux ?z1 ?z2 ?z3 ?z4 ?_; walk_at "M use"; (case u4x => walk_at "M led"); (case z1 => walk_at "M ne"); (case z2 => walk_at "M ap"); (case z3 => omega); (case z4 => omega)); k_whole; intro h' tk' t' t2' t3' t4' F' N'; (try dsimp only); (try k_sweep))
  k_with "M call" => ((with_reducible show wpAny _ _ (call (Value.ref 52) _) _ _ _); k_dflt (refine' c_make ?u1x ?u2x ?u3x ?u4x ?u5x ?uKx ?udx ?uux ?_; walk_at "M use"; (case u4x => k_asm)); k_whole; intro h' tk' e' t' dx' h1' h2' k1' k2' F' N' ap' l1; (try dsimp only); (try k_sweep))
  k_with "exec Raise some none" => (k_here; k_dflt (refine raise52 (by rfl) ?_))
  k_with "RaiseQ" => (k_here; (rename News _ _ _ _ => nX'); refine ⟨_, _, _, rfl, by k_in, (nX' _ (.tail _ (.head _))).1, ?_⟩)
  k_with "leaving ref" => (k_here; k_dflt (refine' leaveNew ?K ?F ?N ?ap ?l ?_; (case N => assumption); (case F => k_asm); (case K => k_asm); (case ap => assumption); (case l => assumption)); intro h' R' U'; (try dsimp only))
  k_with "leaving ref" => (k_here; k_dflt (refine' leaveOnAt ?K ?F ?R ?U ?_; (case K => k_asm); (case R => assumption); (case U => assumption); (case F => assumption)); intro h' R' U'; (try dsimp only))
  k_with "M call" => ((with_reducible show wpAny _ _ (call (Value.ref 228) _) _ _ _); k_dflt (refine' c_read_dec ?u1x ?u2x ?u3x ?u4x ?u5x ?uKx ?udx ?uux ?z1 ?z2 ?z3 ?z4 ?z5 ?z6 ?zR ?zE; walk_at "M use"; (case u4x => walk_at "M led"); (case z1 => walk_at "M ne"); (case z2 => walk_at "M ap"); (case z3 => omega); (case z4 => omega); (case z5 => assumption); (case z6 => assumption)); (case' zR => (k_whole; intro hfl' h' tk' t' t2' t3' t4' F' N'; (try dsimp only); (try k_sweep))); (case' zE => (k_whole; intro hfl' e' g₂' h' tk' F' U' R'; (try dsimp only))))
  k_with "M call" => ((with_reducible show wpAny _ _ (call (Value.ref 228) _) _ _ _); k_dflt (refine' c_read_hex ?u1x ?u2x ?u3x ?u4x ?u5x ?uKx ?udx ?uux ?z1 ?z2 ?z3 ?z4 ?z5 ?z6 ?z7 ?z8 ?_; walk_at "M use"; (case u4x => walk_at "M led"); (case z1 => walk_at "M ne"); (case z2 => walk_at "M ap"); (case z3 => omega); (case z4 => omega); (case z5 => assumption); (case z6 => assumption); (case z7 => assumption); (case z8 => assumption)); k_whole; intro h' tk' t' t2' t3' t4' F' N'; (try dsimp only); (try k_sweep))
  k_with "M call" => ((with_reducible show wpAny _ _ (call (Value.ref 256) _) _ _ _); k_dflt (refine' c_char_plain ?u1x ?u2x ?u3x ?u4x ?u5x ?uKx ?udx ?uux ?z1 ?z2 ?z3 ?z4 ?z5 ?z6 ?z7 ?z8 ?z9 ?_; walk_at "M use"; (case u4x => walk_at "M led"); (case z1 => walk_at "M ne"); (case z2 => walk_at "M ap"); (case z3 => omega); (case z4 => omega); (case z5 => first | assumption | omega); (case z6 => first | assumption | omega); (case z7 => first | assumption | omega); (case z8 => first | assumption | omega); (case z9 => first | assumption | omega)); k_whole; intro h' tk' t' t2' t3' t4' F' N'; (try dsimp only); (try k_sweep))
  k_with "M call" => ((with_reducible show wpAny _ _ (call (Value.ref 256) _) _ _ _); k_dflt (refine' c_char_t ?u1x ?u2x ?u3x ?u4x ?u5x ?uKx ?udx ?uux ?z1 ?z2 ?z3 ?z4 ?z5 ?z6 ?z7 ?_; walk_at "M use"; (case u4x => walk_at "M led"); (case z1 => walk_at "M ne"); (case z2 => walk_at "M ap"); (case z3 => omega); (case z4 => omega); (case z5 => first | assumption | omega); (case z6 => first | assumption | omega); (case z7 => first | assumption | omega)); k_whole; intro h' tk' t' t2' t3' t4' F' N'; (try dsimp only); (try k_sweep))
  k_with "M call" => ((with_reducible show wpAny _ _ (call (Value.ref 256) _) _ _ _); k_dflt (refine' c_char_bad ?u1x ?u2x ?u3x ?u4x ?u5x ?uKx ?udx ?uux ?z1 ?z2 ?z3 ?z4 ?z5 ?_; walk_at "M use"; (case u4x => walk_at "M led"); (case z1 => walk_at "M ne"); (case z2 => walk_at "M ap"); (case z3 => omega); (case z4 => omega); (case z5 => first | assumption | omega)); k_whole; intro e' g₂' h' tk' F' U' R'; (try dsimp only))
  k_with "M call" => ((with_reducible show wpAny _ _ (call (Value.ref 270) _) _ _ _); k_dflt (refine' c_text_ok ?u1x ?u2x ?u3x ?u4x ?u5x ?uKx ?udx ?uux ?z1 ?z2 ?z3 ?z4 ?z5 ?_; walk_at "M use"; (case u4x => walk_at "M led"); (case z1 => walk_at "M ne"); (case z2 => walk_at "M ap"); (case z3 => omega); (case z4 => omega); (case z5 => assumption)); k_whole; intro h' tk' t' t2' t3' t4' F' N'; (try dsimp only); (try k_sweep))
  k_with "M call" => ((with_reducible show wpAny _ _ (call (Value.ref 270) _) _ _ _); k_dflt (refine' c_text_bad ?u1x ?u2x ?u3x ?u4x ?u5x ?uKx ?udx ?uux ?z1 ?z2 ?z3 ?z4 ?z5 ?_; walk_at "M use"; (case u4x => walk_at "M led"); (case z1 => walk_at "M ne"); (case z2 => walk_at "M ap"); (case z3 => omega); (case z4 => omega); (case z5 => assumption)); k_whole; intro e' g₂' h' tk' F' U' R'; (try dsimp only))
  k_with "M call" => ((with_reducible show wpAny _ _ (call (Value.ref 277) _) _ _ _); k_dflt (refine' c_symbol_kind ?u1x ?u2x ?u3x ?u4x ?u5x ?uKx ?udx ?uux ?z1 ?z2 ?_; walk_at "M use"; (case u4x => k_asm); (case z1 => omega); (case z2 => omega)); k_whole; intro h' tk' t' F' N'; (try dsimp only); (try k_sweep))
  k_with "M lt" => ((rename (_ < _ ∧ _) => l1); first | exact l1.1 | exact l1.2.1 | exact ktn_ltOf l1.2.2)
  k_with "compareOp In str ref" => (k_here; (with_reducible show wpAny _ _ (compareOp CmpOp.In (Value.str _ _) (Value.ref 55)) _ _ _); k_dflt (refine in_keys (by k_in) ?_))
  k_with "M call" => ((with_reducible show wpAny _ _ (call (Value.ref 228) _) _ _ _); k_dflt (refine' c_read_int ?u1x ?u2x ?u3x ?u4x ?u5x ?uKx ?udx ?uux ?z1 ?z2 ?z3 ?z4 ?z5 ?z6 ?z7 ?_; walk_at "M use"; (case u4x => walk_at "M led"); (case z1 => walk_at "M ne"); (case z2 => walk_at "M ap"); (case z3 => omega); (case z4 => omega); (case z5 => assumption); (case z6 => assumption); (case z7 => assumption)); k_whole; intro h' tk' t' t2' t3' t4' F' N'; (try dsimp only); (try k_sweep))
  k_with "M call" => ((with_reducible show wpAny _ _ (call (Value.ref 228) _) _ _ _); k_dflt (refine' c_read_flt ?u1x ?u2x ?u3x ?u4x ?u5x ?uKx ?udx ?uux ?z1 ?z2 ?z3 ?z4 ?z5 ?z6 ?z7 ?_; walk_at "M use"; (case u4x => walk_at "M led"); (case z1 => walk_at "M ne"); (case z2 => walk_at "M ap"); (case z3 => omega); (case z4 => omega); (case z5 => assumption); (case z6 => assumption); (case z7 => assumption)); k_whole; intro e' g₂' h' tk' F' U' R'; (try dsimp only))
  k_steps
  · exact hret _ _ _ _ _ _ _ _ _ (by assumption) (news_t3 (by assumption) rfl (slice_tx rfl rfl (by omega) (by omega))) (.str _ _) (by walk_at "M lt") (by walk_at "M lt") (by walk_at "M lt")
theorem c_word_cbad {w : World} {dp un : Nat} {gd : Option (List Code)} {cn : Str} {cs : Scope} {a : Addr} {ccd : Value} {cl : List (Str × Addr)} {outer : List Env} {A₀ : Around} {base h₀ : Heap} {L : Addr} {m : Str → Option Value} {s : Shared} {mean : ExcName → Option Value} {mg mb : Str → Option Value} {Q E : Value → Shared → Prop} {rest : List (Addr × Obj)} {x d : Addr} {k : SgK} {T : List Nat} {t1 t2 t3 t4 : Tok} {i : Nat}
  (B : Below A₀ base outer h₀) (F : Fr h₀ L s.heap m) (X : (Mine.hd.heap_1 w.params).In h₀) (N : News h₀ L s.heap ((d, SGo k T i t1 t2 t3 t4) :: (x, instObj 147 d) :: rest)) (TT : Top Mine.hd.view_1 lz mean mg mb h₀) (hk : cs.kind = .function) (hd : dp + 7 < recursionLimit) (hu : un + 8 * 7 < cLine)
  (hxd : x ≠ d) (hap : ∀ p ∈ rest, p.1 ≠ d) (hT : T.length ≤ 9000) (hi : i ≤ T.length) (h1 : T[i]? = some 39) (h2 : i + 2 ≤ T.length) (h3 : bareO T[i + 1]? = false)
  (hraise : ∀ e g₂ h' tk', Fr h₀ L g₂ m → g₂.UpToSlots h' → ErrAt base g₂ (envX cn cs L a ccd cl :: outer) e T i rest h' → E (.ref e) { s with heap := h', toks := tk' }) :
  wpAny (model PySem.Challenge.rw_sy0021_01.row.prog w) (ktrTop dp un gd cn cs L a ccd cl outer) (call (.ref 305) [.ref x]) Q E s := by
  have ht : (tx T).length ≤ 10000 := by rw [tx_len]; omega
  have f1 : (sgo T[i]? == Str.ofString "") = false := ne_e (by rw [h1]; simp)
  have f2 : amg T[i]? (Str.ofString "()[],;`{}").cps.toList = false := by rw [h1]; decide +kernel
  have f3 : amg T[i]? (Str.ofString "0123456789").cps.toList = false := by rw [h1]; decide +kernel
  have f5 : amg T[i]? (Str.ofString "abcdefghijklmnopqrstuvwxyz_").cps.toList = false := by rw [h1]; decide +kernel
  have f6 : amg T[i]? (Str.ofString "ABCDEFGHIJKLMNOPQRSTUVWXYZ").cps.toList = false := by rw [h1]; decide +kernel
  have f7 : amg T[i]? (Str.ofString "!#$%&*+./<=>?@\\^|-~:").cps.toList = false := by rw [h1]; decide +kernel
  have f8 : (sgo T[i]? == Str.ofString "'") = true := by rw [h1]; decide +kernel
  have f10 := TxtR.lt h1
  have hfill : (Mine.hd.heap_1 = Mine.hd.heap_1 ∧ PySem.Challenge.rw_sy0021_01 = PySem.Challenge.rw_sy0021_01) := by k_fill; exact ⟨rfl, rfl⟩
  clear hfill
  refine wpAny_call ?_
  k_with_none
  k_with "M enter" => (refine' code_def ?k1 ?k2 ?k3 ?k4 ?k5 ?kA ?kF ?kK ?k6 ?k7 ?k8 ?k9 ?kB ?_ ?c2 ?c3 ?c4 ?c5; (case kA => exact rfl); (case kF => exact rfl); (case kK => assumption); (case k1 => k_asm); (case k2 => k_asm); (case k3 => k_asm); (case k4 => k_asm); (case k5 => k_asm); (case k6 => k_is); (case k7 => k_is); (case k8 => first | exact rm0 (by assumption) | ktr_room); (case k9 => first | exact BindsTo.of_eq rfl | exact binds_K (by k_in) rfl (by k_is) rfl rfl rfl); (case c5 => decide); (case kB => exact locs rfl); (case c2 => exact rfl); (case c3 => exact rfl); (case c4 => exact rfl); k_whole; intro g' L' h' FG' F' N' B' X' T'; (try dsimp only); (try k_lift B'); (try k_fold))
  k_dflt (walk_at "M enter")
  k_with_none
  k_with "M om" => (first | with_reducible assumption | exact Nat.le_succ_of_le (by with_reducible assumption) | exact Nat.le_of_lt (by with_reducible assumption) | exact Nat.le_of_succ_le (by with_reducible assumption) | exact Nat.le_trans (by with_reducible assumption) (by decide) | exact Nat.le_trans (Nat.le_of_succ_le (by with_reducible assumption)) (Nat.le_trans (by with_reducible assumption) (by decide)))
  k_with "M use" => ((case u1x => k_asm); (case u2x => k_asm); (case u3x => k_asm); (case u5x => k_asm); (case uKx => first | assumption | exact rfl); (case udx => first | exact rmA (by assumption) (by decide) | ktr_room); (case uux => first | exact umA (by assumption) (by decide) | ktr_units))
  k_with "M in" => (first | with_reducible assumption | exact Frag.In.keeps (by with_reducible assumption) (Fr.keep (by with_reducible assumption)))
  k_with "call ref" => (k_here; k_extra "M call")
  k_with "call ref" => (k_here; with_reducible first | refine call_app0 ?_ | refine call_app1 ?_ | refine call_app2 ?_)
  k_with "eval Call" => (k_here; k_dflt (refine Call_ ?_))
  k_with "M all" => (first | assumption | exact apart_of (by first | assumption | exact And.right (by assumption) | exact And.right (And.right (by assumption)) | exact And.right (And.right (And.right (by assumption))) | exact And.right (And.right (And.right (And.right (by assumption))))))
  k_with "M call" => ((with_reducible show wpAny _ _ (call (Value.ref 158) _) _ _ _); k_dflt (refine' c_is_among ?u1x ?u2x ?u3x ?u4x ?u5x ?uKx ?udx ?uux ?_; walk_at "M use"; (case u4x => k_asm)); k_whole; intro h' tk' F' N'; (try dsimp only); (try k_sweep))
  k_with "M call" => ((with_reducible show wpAny _ _ (call (Value.ref 179) _) _ _ _); k_dflt (refine' c_name_letters ?u1x ?u2x ?u3x ?u4x ?u5x ?uKx ?udx ?uux ?_; walk_at "M use"; (case u4x => k_asm)); k_whole; intro h' tk' t' F' N'; (try dsimp only); (try k_sweep))
  k_with "M led" => (first | k_asm | exact news_rot1 (by k_asm) | exact news_rot2 (by k_asm) | exact news_rot3 (by k_asm) | exact news_rot4 (by k_asm))
  k_with "M call" => ((with_reducible show wpAny _ _ (call (Value.ref 116) [_]) _ _ _); k_dflt (refine' c_signG0 ?u1x ?u2x ?u3x ?u4x ?u5x ?uKx ?udx ?uux ?z2 ?z3 ?z4 ?_; walk_at "M use"; (case u4x => walk_at "M led"); (case z2 => omega); (case z3 => omega); (case z4 => omega)); k_whole; intro h' tk' t' F' N'; (try dsimp only); (try k_sweep))
  k_with "M call" => ((with_reducible show wpAny _ _ (call (Value.ref 116) [_, _]) _ _ _); k_dflt (refine' c_sign ?u1x ?u2x ?u3x ?u4x ?u5x ?uKx ?udx ?uux ?z1 ?z2 ?z3 ?z4 ?_; walk_at "M use"; (case u4x => walk_at "M led"); (case z1 => first | exact cast1 | exact cast2 | rfl | omega); (case z2 => omega); (case z3 => omega); (case z4 => omega)); k_whole; intro h' tk' t' F' N'; (try dsimp only); (try k_sweep))
  k_with "M call" => ((with_reducible show wpAny _ _ (call (Value.ref 116) [_]) _ _ _); k_dflt (refine' c_sign0 ?u1x ?u2x ?u3x ?u4x ?u5x ?uKx ?udx ?uux ?z2 ?z3 ?_; walk_at "M use"; (case u4x => walk_at "M led"); (case z2 => omega); (case z3 => omega)); k_whole; intro h' tk' t' F' N'; (try dsimp only); (try k_sweep))
  k_with "M ap" => (first | k_asm | k_all)
  k_with "M ne" => (first | k_asm | k_ne)
  k_with "M call" => ((with_reducible show wpAny _ _ (call (Value.ref 130) _) _ _ _); k_dflt (refine' c_step ?u1x ?u2x ?u3x ?u4x ?u5x ?uKx ?udx ?uux ?z1 ?z2 ?z3 ?z4 ?_; walk_at "M use"; (case u4x => walk_at "M led"); (case z1 => walk_at "M ne"); (case z2 => walk_at "M ap"); (case z3 => omega); (case z4 => omega)); k_whole; intro h' tk' t' t2' t3' t4' F' N'; (try dsimp only); (try k_sweep))
  k_with "M call" => ((with_reducible show wpAny _ _ (call (Value.ref 144) _) _ _ _); k_dflt (refine' c_place ?u1x ?u2x ?u3x ?u4x ?u5x ?uKx ?udx ?uux ?_; walk_at "M use"; (case u4x => walk_at "M led")); k_whole; intro h' tk' p' u3' u4' F' N' l1; (try dsimp only); (try k_lt l1); (try k_sweep))
  k_with "M call" => ((with_reducible show wpAny _ _ (call (Value.ref 137) _) _ _ _); k_dflt (refine' c_take ?u1x ?u2x ?u3x ?u4x ?u5x ?uKx ?udx ?uux ?z1 ?z2 ?z3 ?z4 ?_; walk_at "M use"; (case u4x => walk_at "M led"); (case z1 => walk_at "M ne"); (case z2 => walk_at "M ap"); (case z3 => omega); (case z4 => omega)); k_whole; intro h' tk' t' t2' t3' t4' F' N'; (try dsimp only); (try k_sweep))
  k_with "M call" => ((with_reducible show wpAny _ _ (call (Value.ref 52) _) _ _ _); k_dflt (refine' c_make ?u1x ?u2x ?u3x ?u4x ?u5x ?uKx ?udx ?uux ?_; walk_at "M use"; (case u4x => k_asm)); k_whole; intro h' tk' e' t' dx' h1' h2' k1' k2' F' N' ap' l1; (try dsimp only); (try k_sweep))
  k_with "exec Raise some none" => (k_here; k_dflt (refine raise52 (by rfl) ?_))
  k_with "RaiseQ" => (k_here; (rename News _ _ _ _ => nX'); refine ⟨_, _, _, rfl, by k_in, (nX' _ (.tail _ (.head _))).1, ?_⟩)
  k_with "leaving ref" => (k_here; k_dflt (refine' leaveNew ?K ?F ?N ?ap ?l ?_; (case N => assumption); (case F => k_asm); (case K => k_asm); (case ap => assumption); (case l => assumption)); intro h' R' U'; (try dsimp only))
  k_with "leaving ref" => (k_here; k_dflt (refine' leaveOnAt ?K ?F ?R ?U ?_; (case K => k_asm); (case R => assumption); (case U => assumption); (case F => assumption)); intro h' R' U'; (try dsimp only))
  k_with "M call" => ((with_reducible show wpAny _ _ (call (Value.ref 228) _) _ _ _); k_dflt (refine' c_read_dec ?u1x ?u2x ?u3x ?u4x ?u5x ?uKx ?udx ?uux ?z1 ?z2 ?z3 ?z4 ?z5 ?z6 ?zR ?zE; walk_at "M use"; (case u4x => walk_at "M led"); (case z1 => walk_at "M ne"); (case z2 => walk_at "M ap"); (case z3 => omega); (case z4 => omega); (case z5 => assumption); (case z6 => assumption)); (case' zR => (k_whole; intro hfl' h' tk' t' t2' t3' t4' F' N'; (try dsimp only); (try k_sweep))); (case' zE => (k_whole; intro hfl' e' g₂' h' tk' F' U' R'; (try dsimp only))))
  k_with "M call" => ((with_reducible show wpAny _ _ (call (Value.ref 228) _) _ _ _); k_dflt (refine' c_read_hex ?u1x ?u2x ?u3x ?u4x ?u5x ?uKx ?udx ?uux ?z1 ?z2 ?z3 ?z4 ?z5 ?z6 ?z7 ?z8 ?_; walk_at "M use"; (case u4x => walk_at "M led"); (case z1 => walk_at "M ne"); (case z2 => walk_at "M ap"); (case z3 => omega); (case z4 => omega); (case z5 => assumption); (case z6 => assumption); (case z7 => assumption); (case z8 => assumption)); k_whole; intro h' tk' t' t2' t3' t4' F' N'; (try dsimp only); (try k_sweep))
  k_with "M call" => ((with_reducible show wpAny _ _ (call (Value.ref 256) _) _ _ _); k_dflt (refine' c_char_plain ?u1x ?u2x ?u3x ?u4x ?u5x ?uKx ?udx ?uux ?z1 ?z2 ?z3 ?z4 ?z5 ?z6 ?z7 ?z8 ?z9 ?_; walk_at "M use"; (case u4x => walk_at "M led"); (case z1 => walk_at "M ne"); (case z2 => walk_at "M ap"); (case z3 => omega); (case z4 => omega); (case z5 => first | assumption | omega); (case z6 => first | assumption | omega); (case z7 => first | assumption | omega); (case z8 => first | assumption | omega); (case z9 => first | assumption | omega)); k_whole; intro h' tk' t' t2' t3' t4' F' N'; (try dsimp only); (try k_sweep))
  k_with "M call" => ((with_reducible show wpAny _ _ (call (Value.ref 256) _) _ _ _); k_dflt (refine' c_char_t ?u1x ?u2x ?u3x ?u4x ?u5x ?uKx ?udx ?uux ?z1 ?z2 ?z3 ?z4 ?z5 ?z6 ?z7 ?_; walk_at "M use"; (case u4x => walk_at "M led"); (case z1 => walk_at "M ne"); (case z2 => walk_at "M ap"); (case z3 => omega); (case z4 => omega); (case z5 => first | assumption | omega); (case z6 => first | assumption | omega); (case z7 => first | assumption | omega)); k_whole; intro h' tk' t' t2' t3' t4' F' N'; (try dsimp only); (try k_sweep))
  k_with "M call" => ((with_reducible show wpAny _ _ (call (Value.ref 256) _) _ _ _); k_dflt (refine' c_char_bad ?u1x ?u2x ?u3x ?u4x ?u5x ?uKx ?udx ?uux ?z1 ?z2 ?z3 ?z4 ?z5 ?_; walk_at "M use"; (case u4x => walk_at "M led"); (case z1 => walk_at "M ne"); (case z2 => walk_at "M ap"); (case z3 => omega); (case z4 => omega); (case z5 => first | assumption | omega)); k_whole; intro e' g₂' h' tk' F' U' R'; (try dsimp only))
  k_with "M call" => ((with_reducible show wpAny _ _ (call (Value.ref 270) _) _ _ _); k_dflt (refine' c_text_ok ?u1x ?u2x ?u3x ?u4x ?u5x ?uKx ?udx ?uux ?z1 ?z2 ?z3 ?z4 ?z5 ?_; walk_at "M use"; (case u4x => walk_at "M led"); (case z1 => walk_at "M ne"); (case z2 => walk_at "M ap"); (case z3 => omega); (case z4 => omega); (case z5 => assumption)); k_whole; intro h' tk' t' t2' t3' t4' F' N'; (try dsimp only); (try k_sweep))
  k_with "M call" => ((with_reducible show wpAny _ _ (call (Value.ref 270) _) _ _ _); k_dflt (refine' c_text_bad ?u1x ?u2x ?u3x ?u4x ?u5x ?uKx ?udx ?uux ?z1 ?z2 ?z3 ?z4 ?z5 ?_; walk_at "M use"; (case u4x => walk_at "M led"); (case z1 => walk_at "M ne"); (case z2 => walk_at "M ap"); (case z3 => omega); (case z4 => omega); (case z5 => assumption)); k_whole; intro e' g₂' h' tk' F' U' R'; (try dsimp only))
  k_with "M call" => ((with_reducible show wpAny _ _ (call (Value.ref 277) _) _ _ _); k_dflt (refine' c_symbol_kind ?u1x ?u2x ?u3x ?u4x ?u5x ?uKx ?udx ?uux ?z1 ?z2 ?_; walk_at "M use"; (case u4x => k_asm); (case z1 => omega); (case z2 => omega)); k_whole; intro h' tk' t' F' N'; (try dsimp only); (try k_sweep))
  k_with "compareOp In str ref" => (k_here; (with_reducible show wpAny _ _ (compareOp CmpOp.In (Value.str _ _) (Value.ref 55)) _ _ _); k_dflt (refine in_keys (by k_in) ?_))
  k_with "M call" => ((with_reducible show wpAny _ _ (call (Value.ref 228) _) _ _ _); k_dflt (refine' c_read_int ?u1x ?u2x ?u3x ?u4x ?u5x ?uKx ?udx ?uux ?z1 ?z2 ?z3 ?z4 ?z5 ?z6 ?z7 ?_; walk_at "M use"; (case u4x => walk_at "M led"); (case z1 => walk_at "M ne"); (case z2 => walk_at "M ap"); (case z3 => omega); (case z4 => omega); (case z5 => assumption); (case z6 => assumption); (case z7 => assumption)); k_whole; intro h' tk' t' t2' t3' t4' F' N'; (try dsimp only); (try k_sweep))
  k_with "M call" => ((with_reducible show wpAny _ _ (call (Value.ref 228) _) _ _ _); k_dflt (refine' c_read_flt ?u1x ?u2x ?u3x ?u4x ?u5x ?uKx ?udx ?uux ?z1 ?z2 ?z3 ?z4 ?z5 ?z6 ?z7 ?_; walk_at "M use"; (case u4x => walk_at "M led"); (case z1 => walk_at "M ne"); (case z2 => walk_at "M ap"); (case z3 => omega); (case z4 => omega); (case z5 => assumption); (case z6 => assumption); (case z7 => assumption)); k_whole; intro e' g₂' h' tk' F' U' R'; (try dsimp only))
  k_steps
  · exact hraise _ _ _ _ (by assumption) (by assumption) (by assumption)
theorem c_word_text {w : World} {dp un : Nat} {gd : Option (List Code)} {cn : Str} {cs : Scope} {a : Addr} {ccd : Value} {cl : List (Str × Addr)} {outer : List Env} {A₀ : Around} {base h₀ : Heap} {L : Addr} {m : Str → Option Value} {s : Shared} {mean : ExcName → Option Value} {mg mb : Str → Option Value} {Q E : Value → Shared → Prop} {rest : List (Addr × Obj)} {x d : Addr} {k : SgK} {T : List Nat} {t1 t2 t3 t4 : Tok} {i j : Nat}
  (B : Below A₀ base outer h₀) (F : Fr h₀ L s.heap m) (X : (Mine.hd.heap_1 w.params).In h₀) (N : News h₀ L s.heap ((d, SGo k T i t1 t2 t3 t4) :: (x, instObj 147 d) :: rest)) (TT : Top Mine.hd.view_1 lz mean mg mb h₀) (hk : cs.kind = .function) (hd : dp + 7 < recursionLimit) (hu : un + 8 * 7 < cLine)
  (hxd : x ≠ d) (hap : ∀ p ∈ rest, p.1 ≠ d) (hT : T.length ≤ 9000) (hi : i ≤ T.length) {ps : List Str} (h1 : T[i]? = some 34) (h2 : TxtR T (i + 1) ps true j)
  (hret : ∀ h' tk' p ta tb v t2 t3 t4, Fr h₀ L h' m → News h₀ L h' ((p, tup3 (.str (Str.ofString "text") ta) (.str (tx (cut T i (j + 1))) tb) v) :: (d, SGo k T (j + 1) t1 t2 t3 t4) :: (x, instObj 147 d) :: rest) → DatIn [] v (.str (Txt.join (Str.ofString "") ps)) → d < p → x < p → (∀ q ∈ rest, q.1 < p) → Q (.ref p) { s with heap := h', toks := tk' }) :
  wpAny (model PySem.Challenge.rw_sy0021_01.row.prog w) (ktrTop dp un gd cn cs L a ccd cl outer) (call (.ref 305) [.ref x]) Q E s := by
  have ht : (tx T).length ≤ 10000 := by rw [tx_len]; omega
  have f1 : (sgo T[i]? == Str.ofString "") = false := ne_e (by rw [h1]; simp)
  have f2 : amg T[i]? (Str.ofString "()[],;`{}").cps.toList = false := by rw [h1]; decide +kernel
  have f3 : amg T[i]? (Str.ofString "0123456789").cps.toList = false := by rw [h1]; decide +kernel
  have f5 : amg T[i]? (Str.ofString "abcdefghijklmnopqrstuvwxyz_").cps.toList = false := by rw [h1]; decide +kernel
  have f6 : amg T[i]? (Str.ofString "ABCDEFGHIJKLMNOPQRSTUVWXYZ").cps.toList = false := by rw [h1]; decide +kernel
  have f7 : amg T[i]? (Str.ofString "!#$%&*+./<=>?@\\^|-~:").cps.toList = false := by rw [h1]; decide +kernel
  have f8 : (sgo T[i]? == Str.ofString "'") = false := by rw [h1]; decide +kernel
  have f9 : (sgo T[i]? == Str.ofString "\"") = true := by rw [h1]; decide +kernel
  have f10 := h2.le
  have hfill : (Mine.hd.heap_1 = Mine.hd.heap_1 ∧ PySem.Challenge.rw_sy0021_01 = PySem.Challenge.rw_sy0021_01) := by k_fill; exact ⟨rfl, rfl⟩
  clear hfill
  refine wpAny_call ?_
  k_with_none
  k_with "M enter" => (refine' code_def ?k1 ?k2 ?k3 ?k4 ?k5 ?kA ?kF ?kK ?k6 ?k7 ?k8 ?k9 ?kB ?_ ?c2 ?c3 ?c4 ?c5; (case kA => exact rfl); (case kF => exact rfl); (case kK => assumption); (case k1 => k_asm); (case k2 => k_asm); (case k3 => k_asm); (case k4 => k_asm); (case k5 => k_asm); (case k6 => k_is); (case k7 => k_is); (case k8 => first | exact rm0 (by assumption) | ktr_room); (case k9 => first | exact BindsTo.of_eq rfl | exact binds_K (by k_in) rfl (by k_is) rfl rfl rfl); (case c5 => decide); (case kB => exact locs rfl); (case c2 => exact rfl); (case c3 => exact rfl); (case c4 => exact rfl); k_whole; intro g' L' h' FG' F' N' B' X' T'; (try dsimp only); (try k_lift B'); (try k_fold))
  k_dflt (walk_at "M enter")
  k_with_none
  k_with "M om" => (first | with_reducible assumption | exact Nat.le_succ_of_le (by with_reducible assumption) | exact Nat.le_of_lt (by with_reducible assumption) | exact Nat.le_of_succ_le (by with_reducible assumption) | exact Nat.le_trans (by with_reducible assumption) (by decide) | exact Nat.le_trans (Nat.le_of_succ_le (by with_reducible assumption)) (Nat.le_trans (by with_reducible assumption) (by decide)))
  k_with "M use" => ((case u1x => k_asm); (case u2x => k_asm); (case u3x => k_asm); (case u5x => k_asm); (case uKx => first | assumption | exact rfl); (case udx => first | exact rmA (by assumption) (by decide) | ktr_room); (case uux => first | exact umA (by assumption) (by decide) | ktr_units))
  k_with "M in" => (first | with_reducible assumption | exact Frag.In.keeps (by with_reducible assumption) (Fr.keep (by with_reducible assumption)))
  k_with "call ref" => (k_here; k_extra "M call")
  k_with "call ref" => (k_here; with_reducible first | refine call_app0 ?_ | refine call_app1 ?_ | refine call_app2 ?_)
  k_with "eval Call" => (k_here; k_dflt (refine Call_ ?_))
  k_with "M all" => (first | assumption | exact apart_of (by first | assumption | exact And.right (by assumption) | exact And.right (And.right (by assumption)) | exact And.right (And.right (And.right (by assumption))) | exact And.right (And.right (And.right (And.right (by assumption))))))
  k_with "M call" => ((with_reducible show wpAny _ _ (call (Value.ref 158) _) _ _ _); k_dflt (refine' c_is_among ?u1x ?u2x ?u3x ?u4x ?u5x ?uKx ?udx ?uux ?_; walk_at "M use"; (case u4x => k_asm)); k_whole; intro h' tk' F' N'; (try dsimp only); (try k_sweep))
  k_with "M call" => ((with_reducible show wpAny _ _ (call (Value.ref 179) _) _ _ _); k_dflt (refine' c_name_letters ?u1x ?u2x ?u3x ?u4x ?u5x ?uKx ?udx ?uux ?_; walk_at "M use"; (case u4x => k_asm)); k_whole; intro h' tk' t' F' N'; (try dsimp only); (try k_sweep))
  k_with "M led" => (first | k_asm | exact news_rot1 (by k_asm) | exact news_rot2 (by k_asm) | exact news_rot3 (by k_asm) | exact news_rot4 (by k_asm))
  k_with "M call" => ((with_reducible show wpAny _ _ (call (Value.ref 116) [_]) _ _ _); k_dflt (refine' c_signG0 ?u1x ?u2x ?u3x ?u4x ?u5x ?uKx ?udx ?uux ?z2 ?z3 ?z4 ?_; walk_at "M use"; (case u4x => walk_at "M led"); (case z2 => omega); (case z3 => omega); (case z4 => omega)); k_whole; intro h' tk' t' F' N'; (try dsimp only); (try k_sweep))
  k_with "M call" => ((with_reducible show wpAny _ _ (call (Value.ref 116) [_, _]) _ _ _); k_dflt (refine' c_sign ?u1x ?u2x ?u3x ?u4x ?u5x ?uKx ?udx ?uux ?z1 ?z2 ?z3 ?z4 ?_; walk_at "M use"; (case u4x => walk_at "M led"); (case z1 => first | exact cast1 | exact cast2 | rfl | omega); (case z2 => omega); (case z3 => omega); (case z4 => omega)); k_whole; intro h' tk' t' F' N'; (try dsimp only); (try k_sweep))
  k_with "M call" => ((with_reducible show wpAny _ _ (call (Value.ref 116) [_]) _ _ _); k_dflt (refine' c_sign0 ?u1x ?u2x ?u3x ?u4x ?u5x ?uKx ?udx ?uux ?z2 ?z3 ?_; walk_at "M use"; (case u4x => walk_at "M led"); (case z2 => omega); (case z3 => omega)); k_whole; intro h' tk' t' F' N'; (try dsimp only); (try k_sweep))
  k_with "M ap" => (first | k_asm | k_all)
  k_with "M ne" => (first | k_asm | k_ne)
  k_with "M call" => ((with_reducible show wpAny _ _ (call (Value.ref 130) _) _ _ _); k_dflt (refine' c_step ?u1x ?u2x ?u3x ?u4x ?u5x ?uKx ?udx ?uux ?z1 ?z2 ?z3 ?z4 ?_; walk_at "M use"; (case u4x => walk_at "M led"); (case z1 => walk_at "M ne"); (case z2 => walk_at "M ap"); (case z3 => omega); (case z4 => omega)); k_whole; intro h' tk' t' t2' t3' t4' F' N'; (try dsimp only); (try k_sweep))
  k_with "M call" => ((with_reducible show wpAny _ _ (call (Value.ref 144) _) _ _ _); k_dflt (refine' c_place ?u1x ?u2x ?u3x ?u4x ?u5x ?uKx ?udx ?uux ?_; walk_at "M use"; (case u4x => walk_at "M led")); k_whole; intro h' tk' p' u3' u4' F' N' l1; (try dsimp only); (try k_lt l1); (try k_sweep))
  k_with "M call" => ((with_reducible show wpAny _ _ (call (Value.ref 137) _) _ _ _); k_dflt (refine' c_take ?u1x ?u2x ?u3x ?u4x ?u5x ?uKx ?udx ?uux ?z1 ?z2 ?z3 ?z4 ?_; walk_at "M use"; (case u4x => walk_at "M led"); (case z1 => walk_at "M ne"); (case z2 => walk_at "M ap"); (case z3 => omega); (case z4 => omega)); k_whole; intro h' tk' t' t2' t3' t4' F' N'; (try dsimp only); (try k_sweep))
  k_with "M call" => ((with_reducible show wpAny _ _ (call (Value.ref 52) _) _ _ _); k_dflt (refine' c_make ?u1x ?u2x ?u3x ?u4x ?u5x ?uKx ?udx ?uux ?_; walk_at "M use"; (case u4x => k_asm)); k_whole; intro h' tk' e' t' dx' h1' h2' k1' k2' F' N' ap' l1; (try dsimp only); (try k_sweep))
  k_with "exec Raise some none" => (k_here; k_dflt (refine raise52 (by rfl) ?_))
  k_with "RaiseQ" => (k_here; (rename News _ _ _ _ => nX'); refine ⟨_, _, _, rfl, by k_in, (nX' _ (.tail _ (.head _))).1, ?_⟩)
  k_with "leaving ref" => (k_here; k_dflt (refine' leaveNew ?K ?F ?N ?ap ?l ?_; (case N => assumption); (case F => k_asm); (case K => k_asm); (case ap => assumption); (case l => assumption)); intro h' R' U'; (try dsimp only))
  k_with "leaving ref" => (k_here; k_dflt (refine' leaveOnAt ?K ?F ?R ?U ?_; (case K => k_asm); (case R => assumption); (case U => assumption); (case F => assumption)); intro h' R' U'; (try dsimp only))
  k_with "M call" => ((with_reducible show wpAny _ _ (call (Value.ref 228) _) _ _ _); k_dflt (refine' c_read_dec ?u1x ?u2x ?u3x ?u4x ?u5x ?uKx ?udx ?uux ?z1 ?z2 ?z3 ?z4 ?z5 ?z6 ?zR ?zE; walk_at "M use"; (case u4x => walk_at "M led"); (case z1 => walk_at "M ne"); (case z2 => walk_at "M ap"); (case z3 => omega); (case z4 => omega); (case z5 => assumption); (case z6 => assumption)); (case' zR => (k_whole; intro hfl' h' tk' t' t2' t3' t4' F' N'; (try dsimp only); (try k_sweep))); (case' zE => (k_whole; intro hfl' e' g₂' h' tk' F' U' R'; (try dsimp only))))
  k_with "M call" => ((with_reducible show wpAny _ _ (call (Value.ref 228) _) _ _ _); k_dflt (refine' c_read_hex ?u1x ?u2x ?u3x ?u4x ?u5x ?uKx ?udx ?uux ?z1 ?z2 ?z3 ?z4 ?z5 ?z6 ?z7 ?z8 ?_; walk_at "M use"; (case u4x => walk_at "M led"); (case z1 => walk_at "M ne"); (case z2 => walk_at "M ap"); (case z3 => omega); (case z4 => omega); (case z5 => assumption); (case z6 => assumption); (case z7 => assumption); (case z8 => assumption)); k_whole; intro h' tk' t' t2' t3' t4' F' N'; (try dsimp only); (try k_sweep))
  k_with "M call" => ((with_reducible show wpAny _ _ (call (Value.ref 256) _) _ _ _); k_dflt (refine' c_char_plain ?u1x ?u2x ?u3x ?u4x ?u5x ?uKx ?udx ?uux ?z1 ?z2 ?z3 ?z4 ?z5 ?z6 ?z7 ?z8 ?z9 ?_; walk_at "M use"; (case u4x => walk_at "M led"); (case z1 => walk_at "M ne"); (case z2 => walk_at "M ap"); (case z3 => omega); (case z4 => omega); (case z5 => first | assumption | omega); (case z6 => first | assumption | omega); (case z7 => first | assumption | omega); (case z8 => first | assumption | omega); (case z9 => first | assumption | omega)); k_whole; intro h' tk' t' t2' t3' t4' F' N'; (try dsimp only); (try k_sweep))
  k_with "M call" => ((with_reducible show wpAny _ _ (call (Value.ref 256) _) _ _ _); k_dflt (refine' c_char_t ?u1x ?u2x ?u3x ?u4x ?u5x ?uKx ?udx ?uux ?z1 ?z2 ?z3 ?z4 ?z5 ?z6 ?z7 ?_; walk_at "M use"; (case u4x => walk_at "M led"); (case z1 => walk_at "M ne"); (case z2 => walk_at "M ap"); (case z3 => omega); (case z4 => omega); (case z5 => first | assumption | omega); (case z6 => first | assumption | omega); (case z7 => first | assumption | omega)); k_whole; intro h' tk' t' t2' t3' t4' F' N'; (try dsimp only); (try k_sweep))
  k_with "M call" => ((with_reducible show wpAny _ _ (call (Value.ref 256) _) _ _ _); k_dflt (refine' c_char_bad ?u1x ?u2x ?u3x ?u4x ?u5x ?uKx ?udx ?uux ?z1 ?z2 ?z3 ?z4 ?z5 ?_; walk_at "M use"; (case u4x => walk_at "M led"); (case z1 => walk_at "M ne"); (case z2 => walk_at "M ap"); (case z3 => omega); (case z4 => omega); (case z5 => first | assumption | omega)); k_whole; intro e' g₂' h' tk' F' U' R'; (try dsimp only))
  k_with "M call" => ((with_reducible show wpAny _ _ (call (Value.ref 270) _) _ _ _); k_dflt (refine' c_text_ok ?u1x ?u2x ?u3x ?u4x ?u5x ?uKx ?udx ?uux ?z1 ?z2 ?z3 ?z4 ?z5 ?_; walk_at "M use"; (case u4x => walk_at "M led"); (case z1 => walk_at "M ne"); (case z2 => walk_at "M ap"); (case z3 => omega); (case z4 => omega); (case z5 => assumption)); k_whole; intro h' tk' t' t2' t3' t4' F' N'; (try dsimp only); (try k_sweep))
  k_with "M call" => ((with_reducible show wpAny _ _ (call (Value.ref 270) _) _ _ _); k_dflt (refine' c_text_bad ?u1x ?u2x ?u3x ?u4x ?u5x ?uKx ?udx ?uux ?z1 ?z2 ?z3 ?z4 ?z5 ?_; walk_at "M use"; (case u4x => walk_at "M led"); (case z1 => walk_at "M ne"); (case z2 => walk_at "M ap"); (case z3 => omega); (case z4 => omega); (case z5 => assumption)); k_whole; intro e' g₂' h' tk' F' U' R'; (try dsimp only))
  k_with "M call" => ((with_reducible show wpAny _ _ (call (Value.ref 277) _) _ _ _); k_dflt (refine' c_symbol_kind ?u1x ?u2x ?u3x ?u4x ?u5x ?uKx ?udx ?uux ?z1 ?z2 ?_; walk_at "M use"; (case u4x => k_asm); (case z1 => omega); (case z2 => omega)); k_whole; intro h' tk' t' F' N'; (try dsimp only); (try k_sweep))
  k_with "M lt" => ((rename (_ < _ ∧ _) => l1); first | exact l1.1 | exact l1.2.1 | exact ktn_ltOf l1.2.2)
  k_with "compareOp In str ref" => (k_here; (with_reducible show wpAny _ _ (compareOp CmpOp.In (Value.str _ _) (Value.ref 55)) _ _ _); k_dflt (refine in_keys (by k_in) ?_))
  k_with "M call" => ((with_reducible show wpAny _ _ (call (Value.ref 228) _) _ _ _); k_dflt (refine' c_read_int ?u1x ?u2x ?u3x ?u4x ?u5x ?uKx ?udx ?uux ?z1 ?z2 ?z3 ?z4 ?z5 ?z6 ?z7 ?_; walk_at "M use"; (case u4x => walk_at "M led"); (case z1 => walk_at "M ne"); (case z2 => walk_at "M ap"); (case z3 => omega); (case z4 => omega); (case z5 => assumption); (case z6 => assumption); (case z7 => assumption)); k_whole; intro h' tk' t' t2' t3' t4' F' N'; (try dsimp only); (try k_sweep))
  k_with "M call" => ((with_reducible show wpAny _ _ (call (Value.ref 228) _) _ _ _); k_dflt (refine' c_read_flt ?u1x ?u2x ?u3x ?u4x ?u5x ?uKx ?udx ?uux ?z1 ?z2 ?z3 ?z4 ?z5 ?z6 ?z7 ?_; walk_at "M use"; (case u4x => walk_at "M led"); (case z1 => walk_at "M ne"); (case z2 => walk_at "M ap"); (case z3 => omega); (case z4 => omega); (case z5 => assumption); (case z6 => assumption); (case z7 => assumption)); k_whole; intro e' g₂' h' tk' F' U' R'; (try dsimp only))
  k_steps
  · exact hret _ _ _ _ _ _ _ _ _ (by assumption) (news_t3 (by assumption) rfl (slice_tx rfl rfl (by omega) (by omega))) (.str _ _) (by walk_at "M lt") (by walk_at "M lt") (by walk_at "M lt")
theorem c_word_tbad {w : World} {dp un : Nat} {gd : Option (List Code)} {cn : Str} {cs : Scope} {a : Addr} {ccd : Value} {cl : List (Str × Addr)} {outer : List Env} {A₀ : Around} {base h₀ : Heap} {L : Addr} {m : Str → Option Value} {s : Shared} {mean : ExcName → Option Value} {mg mb : Str → Option Value} {Q E : Value → Shared → Prop} {rest : List (Addr × Obj)} {x d : Addr} {k : SgK} {T : List Nat} {t1 t2 t3 t4 : Tok} {i j : Nat}
  (B : Below A₀ base outer h₀) (F : Fr h₀ L s.heap m) (X : (Mine.hd.heap_1 w.params).In h₀) (N : News h₀ L s.heap ((d, SGo k T i t1 t2 t3 t4) :: (x, instObj 147 d) :: rest)) (TT : Top Mine.hd.view_1 lz mean mg mb h₀) (hk : cs.kind = .function) (hd : dp + 7 < recursionLimit) (hu : un + 8 * 7 < cLine)
  (hxd : x ≠ d) (hap : ∀ p ∈ rest, p.1 ≠ d) (hT : T.length ≤ 9000) (hi : i ≤ T.length) {ps : List Str} (h1 : T[i]? = some 34) (h2 : TxtR T (i + 1) ps false j)
  (hraise : ∀ e g₂ h' tk', Fr h₀ L g₂ m → g₂.UpToSlots h' → ErrAt base g₂ (envX cn cs L a ccd cl :: outer) e T i rest h' → E (.ref e) { s with heap := h', toks := tk' }) :
  wpAny (model PySem.Challenge.rw_sy0021_01.row.prog w) (ktrTop dp un gd cn cs L a ccd cl outer) (call (.ref 305) [.ref x]) Q E s := by
  have ht : (tx T).length ≤ 10000 := by rw [tx_len]; omega
  have f1 : (sgo T[i]? == Str.ofString "") = false := ne_e (by rw [h1]; simp)
  have f2 : amg T[i]? (Str.ofString "()[],;`{}").cps.toList = false := by rw [h1]; decide +kernel
  have f3 : amg T[i]? (Str.ofString "0123456789").cps.toList = false := by rw [h1]; decide +kernel
  have f5 : amg T[i]? (Str.ofString "abcdefghijklmnopqrstuvwxyz_").cps.toList = false := by rw [h1]; decide +kernel
  have f6 : amg T[i]? (Str.ofString "ABCDEFGHIJKLMNOPQRSTUVWXYZ").cps.toList = false := by rw [h1]; decide +kernel
  have f7 : amg T[i]? (Str.ofString "!#$%&*+./<=>?@\\^|-~:").cps.toList = false := by rw [h1]; decide +kernel
  have f8 : (sgo T[i]? == Str.ofString "'") = false := by rw [h1]; decide +kernel
  have f9 : (sgo T[i]? == Str.ofString "\"") = true := by rw [h1]; decide +kernel
  have f10 := TxtR.lt h1
  have hfill : (Mine.hd.heap_1 = Mine.hd.heap_1 ∧ PySem.Challenge.rw_sy0021_01 = PySem.Challenge.rw_sy0021_01) := by k_fill; exact ⟨rfl, rfl⟩
  clear hfill
  refine wpAny_call ?_
  k_with_none
  k_with "M enter" => (refine' code_def ?k1 ?k2 ?k3 ?k4 ?k5 ?kA ?kF ?kK ?k6 ?k7 ?k8 ?k9 ?kB ?_ ?c2 ?c3 ?c4 ?c5; (case kA => exact rfl); (case kF => exact rfl); (case kK => assumption); (case k1 => k_asm); (case k2 => k_asm); (case k3 => k_asm); (case k4 => k_asm); (case k5 => k_asm); (case k6 => k_is); (case k7 => k_is); (case k8 => first | exact rm0 (by assumption) | ktr_room); (case k9 => first | exact BindsTo.of_eq rfl | exact binds_K (by k_in) rfl (by k_is) rfl rfl rfl); (case c5 => decide); (case kB => exact locs rfl); (case c2 => exact rfl); (case c3 => exact rfl); (case c4 => exact rfl); k_whole; intro g' L' h' FG' F' N' B' X' T'; (try dsimp only); (try k_lift B'); (try k_fold))
  k_dflt (walk_at "M enter")
  k_with_none
  k_with "M om" => (first | with_reducible assumption | exact Nat.le_succ_of_le (by with_reducible assumption) | exact Nat.le_of_lt (by with_reducible assumption) | exact Nat.le_of_succ_le (by with_reducible assumption) | exact Nat.le_trans (by with_reducible assumption) (by decide) | exact Nat.le_trans (Nat.le_of_succ_le (by with_reducible assumption)) (Nat.le_trans (by with_reducible assumption) (by decide)))
  k_with "M use" => ((case u1x => k_asm); (case u2x => k_asm); (case u3x => k_asm); (case u5x => k_asm); (case uKx => first | assumption | exact rfl); (case udx => first | exact rmA (by assumption) (by decide) | ktr_room); (case uux => first | exact umA (by assumption) (by decide) | ktr_units))
  k_with "M in" => (first | with_reducible assumption | exact Frag.In.keeps (by with_reducible assumption) (Fr.keep (by with_reducible assumption)))
  k_with "call ref" => (k_here; k_extra "M call")
  k_with "call ref" => (k_here; with_reducible first | refine call_app0 ?_ | refine call_app1 ?_ | refine call_app2 ?_)
  k_with "eval Call" => (k_here; k_dflt (refine Call_ ?_))
  k_with "M all" => (first | assumption | exact apart_of (by first | assumption | exact And.right (by assumption) | exact And.right (And.right (by assumption)) | exact And.right (And.right (And.right (by assumption))) | exact And.right (And.right (And.right (And.right (by assumption))))))
  k_with "M call" => ((with_reducible show wpAny _ _ (call (Value.ref 158) _) _ _ _); k_dflt (refine' c_is_among ?u1x ?u2x ?u3x ?u4x ?u5x ?uKx ?udx ?uux ?_; walk_at "M use"; (case u4x => k_asm)); k_whole; intro h' tk' F' N'; (try dsimp only); (try k_sweep))
  k_with "M call" => ((with_reducible show wpAny _ _ (call (Value.ref 179) _) _ _ _); k_dflt (refine' c_name_letters ?u1x ?u2x ?u3x ?u4x ?u5x ?uKx ?udx ?uux ?_; walk_at "M use"; (case u4x => k_asm)); k_whole; intro h' tk' t' F' N'; (try dsimp only); (try k_sweep))
  k_with "M led" => (first | k_asm | exact news_rot1 (by k_asm) | exact news_rot2 (by k_asm) | exact news_rot3 (by k_asm) | exact news_rot4 (by k_asm))
  k_with "M call" => ((with_reducible show wpAny _ _ (call (Value.ref 116) [_]) _ _ _); k_dflt (refine' c_signG0 ?u1x ?u2x ?u3x ?u4x ?u5x ?uKx ?udx ?uux ?z2 ?z3 ?z4 ?_; walk_at "M use"; (case u4x => walk_at "M led"); (case z2 => omega); (case z3 => omega); (case z4 => omega)); k_whole; intro h' tk' t' F' N'; (try dsimp only); (try k_sweep))
  k_with "M call" => ((with_reducible show wpAny _ _ (call (Value.ref 116) [_, _]) _ _ _); k_dflt (refine' c_sign ?u1x ?u2x ?u3x ?u4x ?u5x ?uKx ?udx ?uux ?z1 ?z2 ?z3 ?z4 ?_; walk_at "M use"; (case u4x => walk_at "M led"); (case z1 => first | exact cast1 | exact cast2 | rfl | omega); (case z2 => omega); (case z3 => omega); (case z4 => omega)); k_whole; intro h' tk' t' F' N'; (try dsimp only); (try k_sweep))
  k_with "M call" => ((with_reducible show wpAny _ _ (call (Value.ref 116) [_]) _ _ _); k_dflt (refine' c_sign0 ?u1x ?u2x ?u3x ?u4x ?u5x ?uKx ?udx ?uux ?z2 ?z3 ?_; walk_at "M use"; (case u4x => walk_at "M led"); (case z2 => omega); (case z3 => omega)); k_whole; intro h' tk' t' F' N'; (try dsimp only); (try k_sweep))
  k_with "M ap" => (first | k_asm | k_all)
  k_with "M ne" => (first | k_asm | k_ne)
  k_with "M call" => ((with_reducible show wpAny _ _ (call (Value.ref 130) _) _ _ _); k_dflt (refine' c_step ?u1x ?u2x ?u3x ?u4x ?u5x ?uKx ?udx ?uux ?z1 ?z2 ?z3 ?z4 ?_; walk_at "M use"; (case u4x => walk_at "M led"); (case z1 => walk_at "M ne"); (case z2 => walk_at "M ap"); (case z3 => omega); (case z4 => omega)); k_whole; intro h' tk' t' t2' t3' t4' F' N'; (try dsimp only); (try k_sweep))
  k_with "M call" => ((with_reducible show wpAny _ _ (call (Value.ref 144) _) _ _ _); k_dflt (refine' c_place ?u1x ?u2x ?u3x ?u4x ?u5x ?uKx ?udx ?uux ?_; walk_at "M use"; (case u4x => walk_at "M led")); k_whole; intro h' tk' p' u3' u4' F' N' l1; (try dsimp only); (try k_lt l1); (try k_sweep))
  k_with "M call" => ((with_reducible show wpAny _ _ (call (Value.ref 137) _) _ _ _); k_dflt (refine' c_take ?u1x ?u2x ?u3x ?u4x ?u5x ?uKx ?udx ?uux ?z1 ?z2 ?z3 ?z4 ?_; walk_at "M use"; (case u4x => walk_at "M led"); (case z1 => walk_at "M ne"); (case z2 => walk_at "M ap"); (case z3 => omega); (case z4 => omega)); k_whole; intro h' tk' t' t2' t3' t4' F' N'; (try dsimp only); (try k_sweep))
  k_with "M call" => ((with_reducible show wpAny _ _ (call (Value.ref 52) _) _ _ _); k_dflt (refine' c_make ?u1x ?u2x ?u3x ?u4x ?u5x ?uKx ?udx ?uux ?_; walk_at "M use"; (case u4x => k_asm)); k_whole; intro h' tk' e' t' dx' h1' h2' k1' k2' F' N' ap' l1; (try dsimp only); (try k_sweep))
  k_with "exec Raise some none" => (k_here; k_dflt (refine raise52 (by rfl) ?_))
  k_with "RaiseQ" => (k_here; (rename News _ _ _ _ => nX'); refine ⟨_, _, _, rfl, by k_in, (nX' _ (.tail _ (.head _))).1, ?_⟩)
  k_with "leaving ref" => (k_here; k_dflt (refine' leaveNew ?K ?F ?N ?ap ?l ?_; (case N => assumption); (case F => k_asm); (case K => k_asm); (case ap => assumption); (case l => assumption)); intro h' R' U'; (try dsimp only))
  k_with "leaving ref" => (k_here; k_dflt (refine' leaveOnAt ?K ?F ?R ?U ?_; (case K => k_asm); (case R => assumption); (case U => assumption); (case F => assumption)); intro h' R' U'; (try dsimp only))
  k_with "M call" => ((with_reducible show wpAny _ _ (call (Value.ref 228) _) _ _ _); k_dflt (refine' c_read_dec ?u1x ?u2x ?u3x ?u4x ?u5x ?uKx ?udx ?uux ?z1 ?z2 ?z3 ?z4 ?z5 ?z6 ?zR ?zE; walk_at "M use"; (case u4x => walk_at "M led"); (case z1 => walk_at "M ne"); (case z2 => walk_at "M ap"); (case z3 => omega); (case z4 => omega); (case z5 => assumption); (case z6 => assumption)); (case' zR => (k_whole; intro hfl' h' tk' t' t2' t3' t4' F' N'; (try dsimp only); (try k_sweep))); (case' zE => (k_whole; intro hfl' e' g₂' h' tk' F' U' R'; (try dsimp only))))
  k_with "M call" => ((with_reducible show wpAny _ _ (call (Value.ref 228) _) _ _ _); k_dflt (refine' c_read_hex ?u1x ?u2x ?u3x ?u4x ?u5x ?uKx ?udx ?uux ?z1 ?z2 ?z3 ?z4 ?z5 ?z6 ?z7 ?z8 ?_; walk_at "M use"; (case u4x => walk_at "M led"); (case z1 => walk_at "M ne"); (case z2 => walk_at "M ap"); (case z3 => omega); (case z4 => omega); (case z5 => assumption); (case z6 => assumption); (case z7 => assumption); (case z8 => assumption)); k_whole; intro h' tk' t' t2' t3' t4' F' N'; (try dsimp only); (try k_sweep))
  k_with "M call" => ((with_reducible show wpAny _ _ (call (Value.ref 256) _) _ _ _); k_dflt (refine' c_char_plain ?u1x ?u2x ?u3x ?u4x ?u5x ?uKx ?udx ?uux ?z1 ?z2 ?z3 ?z4 ?z5 ?z6 ?z7 ?z8 ?z9 ?_; walk_at "M use"; (case u4x => walk_at "M led"); (case z1 => walk_at "M ne"); (case z2 => walk_at "M ap"); (case z3 => omega); (case z4 => omega); (case z5 => first | assumption | omega); (case z6 => first | assumption | omega); (case z7 => first | assumption | omega); (case z8 => first | assumption | omega); (case z9 => first | assumption | omega)); k_whole; intro h' tk' t' t2' t3' t4' F' N'; (try dsimp only); (try k_sweep))
  k_with "M call" => ((with_reducible show wpAny _ _ (call (Value.ref 256) _) _ _ _); k_dflt (refine' c_char_t ?u1x ?u2x ?u3x ?u4x ?u5x ?uKx ?udx ?uux ?z1 ?z2 ?z3 ?z4 ?z5 ?z6 ?z7 ?_; walk_at "M use"; (case u4x => walk_at "M led"); (case z1 => walk_at "M ne"); (case z2 => walk_at "M ap"); (case z3 => omega); (case z4 => omega); (case z5 => first | assumption | omega); (case z6 => first | assumption | omega); (case z7 => first | assumption | omega)); k_whole; intro h' tk' t' t2' t3' t4' F' N'; (try dsimp only); (try k_sweep))
  k_with "M call" => ((with_reducible show wpAny _ _ (call (Value.ref 256) _) _ _ _); k_dflt (refine' c_char_bad ?u1x ?u2x ?u3x ?u4x ?u5x ?uKx ?udx ?uux ?z1 ?z2 ?z3 ?z4 ?z5 ?_; walk_at "M use"; (case u4x => walk_at "M led"); (case z1 => walk_at "M ne"); (case z2 => walk_at "M ap"); (case z3 => omega); (case z4 => omega); (case z5 => first | assumption | omega)); k_whole; intro e' g₂' h' tk' F' U' R'; (try dsimp only))
  k_with "M call" => ((with_reducible show wpAny _ _ (call (Value.ref 270) _) _ _ _); k_dflt (refine' c_text_ok ?u1x ?u2x ?u3x ?u4x ?u5x ?uKx ?udx ?uux ?z1 ?z2 ?z3 ?z4 ?z5 ?_; walk_at "M use"; (case u4x => walk_at "M led"); (case z1 => walk_at "M ne"); (case z2 => walk_at "M ap"); (case z3 => omega); (case z4 => omega); (case z5 => assumption)); k_whole; intro h' tk' t' t2' t3' t4' F' N'; (try dsimp only); (try k_sweep))
  k_with "M call" => ((with_reducible show wpAny _ _ (call (Value.ref 270) _) _ _ _); k_dflt (refine' c_text_bad ?u1x ?u2x ?u3x ?u4x ?u5x ?uKx ?udx ?uux ?z1 ?z2 ?z3 ?z4 ?z5 ?_; walk_at "M use"; (case u4x => walk_at "M led"); (case z1 => walk_at "M ne"); (case z2 => walk_at "M ap"); (case z3 => omega); (case z4 => omega); (case z5 => assumption)); k_whole; intro e' g₂' h' tk' F' U' R'; (try dsimp only))
  k_with "M call" => ((with_reducible show wpAny _ _ (call (Value.ref 277) _) _ _ _); k_dflt (refine' c_symbol_kind ?u1x ?u2x ?u3x ?u4x ?u5x ?uKx ?udx ?uux ?z1 ?z2 ?_; walk_at "M use"; (case u4x => k_asm); (case z1 => omega); (case z2 => omega)); k_whole; intro h' tk' t' F' N'; (try dsimp only); (try k_sweep))
  k_with "compareOp In str ref" => (k_here; (with_reducible show wpAny _ _ (compareOp CmpOp.In (Value.str _ _) (Value.ref 55)) _ _ _); k_dflt (refine in_keys (by k_in) ?_))
  k_with "M call" => ((with_reducible show wpAny _ _ (call (Value.ref 228) _) _ _ _); k_dflt (refine' c_read_int ?u1x ?u2x ?u3x ?u4x ?u5x ?uKx ?udx ?uux ?z1 ?z2 ?z3 ?z4 ?z5 ?z6 ?z7 ?_; walk_at "M use"; (case u4x => walk_at "M led"); (case z1 => walk_at "M ne"); (case z2 => walk_at "M ap"); (case z3 => omega); (case z4 => omega); (case z5 => assumption); (case z6 => assumption); (case z7 => assumption)); k_whole; intro h' tk' t' t2' t3' t4' F' N'; (try dsimp only); (try k_sweep))
  k_with "M call" => ((with_reducible show wpAny _ _ (call (Value.ref 228) _) _ _ _); k_dflt (refine' c_read_flt ?u1x ?u2x ?u3x ?u4x ?u5x ?uKx ?udx ?uux ?z1 ?z2 ?z3 ?z4 ?z5 ?z6 ?z7 ?_; walk_at "M use"; (case u4x => walk_at "M led"); (case z1 => walk_at "M ne"); (case z2 => walk_at "M ap"); (case z3 => omega); (case z4 => omega); (case z5 => assumption); (case z6 => assumption); (case z7 => assumption)); k_whole; intro e' g₂' h' tk' F' U' R'; (try dsimp only))
  k_steps
  · exact hraise _ _ _ _ (by assumption) (by assumption) (by assumption)
theorem c_word_other {w : World} {dp un : Nat} {gd : Option (List Code)} {cn : Str} {cs : Scope} {a : Addr} {ccd : Value} {cl : List (Str × Addr)} {outer : List Env} {A₀ : Around} {base h₀ : Heap} {L : Addr} {m : Str → Option Value} {s : Shared} {mean : ExcName → Option Value} {mg mb : Str → Option Value} {Q E : Value → Shared → Prop} {rest : List (Addr × Obj)} {x d : Addr} {k : SgK} {T : List Nat} {t1 t2 t3 t4 : Tok} {i c : Nat}
  (B : Below A₀ base outer h₀) (F : Fr h₀ L s.heap m) (X : (Mine.hd.heap_1 w.params).In h₀) (N : News h₀ L s.heap ((d, SGo k T i t1 t2 t3 t4) :: (x, instObj 147 d) :: rest)) (TT : Top Mine.hd.view_1 lz mean mg mb h₀) (hk : cs.kind = .function) (hd : dp + 7 < recursionLimit) (hu : un + 8 * 7 < cLine)
  (hxd : x ≠ d) (hap : ∀ p ∈ rest, p.1 ≠ d) (hT : T.length ≤ 9000) (hi : i ≤ T.length) (h1 : T[i]? = some c) (hc1 : SPC.contains c = false) (hc2 : DIG.contains c = false) (hc3 : SML.contains c = false) (hc4 : GRT.contains c = false) (hc5 : SYM.contains c = false) (hc6 : c ≠ 39) (hc7 : c ≠ 34)
  (hraise : ∀ e g₂ h' tk', Fr h₀ L g₂ m → g₂.UpToSlots h' → ErrAt base g₂ (envX cn cs L a ccd cl :: outer) e T i rest h' → E (.ref e) { s with heap := h', toks := tk' }) :
  wpAny (model PySem.Challenge.rw_sy0021_01.row.prog w) (ktrTop dp un gd cn cs L a ccd cl outer) (call (.ref 305) [.ref x]) Q E s := by
  have ht : (tx T).length ≤ 10000 := by rw [tx_len]; omega
  have f1 : (sgo T[i]? == Str.ofString "") = false := ne_e (by rw [h1]; simp)
  have f2 : amg T[i]? (Str.ofString "()[],;`{}").cps.toList = false := by rw [h1]; exact hc1
  have f3 : amg T[i]? (Str.ofString "0123456789").cps.toList = false := by rw [h1]; exact hc2
  have f5 : amg T[i]? (Str.ofString "abcdefghijklmnopqrstuvwxyz_").cps.toList = false := by rw [h1]; exact hc3
  have f6 : amg T[i]? (Str.ofString "ABCDEFGHIJKLMNOPQRSTUVWXYZ").cps.toList = false := by rw [h1]; exact hc4
  have f7 : amg T[i]? (Str.ofString "!#$%&*+./<=>?@\\^|-~:").cps.toList = false := by rw [h1]; exact hc5
  have f8 : (sgo T[i]? == Str.ofString "'") = false := eq_c h1 s_q hc6
  have f9 : (sgo T[i]? == Str.ofString "\"") = false := eq_c h1 s_dq hc7
  have f10 := TxtR.lt h1
  have f11 : (sgo T[i]?).length ≤ 1 := by rw [h1]; exact Nat.le_refl _
  have hfill : (Mine.hd.heap_1 = Mine.hd.heap_1 ∧ PySem.Challenge.rw_sy0021_01 = PySem.Challenge.rw_sy0021_01) := by k_fill; exact ⟨rfl, rfl⟩
  clear hfill
  refine wpAny_call ?_
  k_with_none
  k_with "M enter" => (refine' code_def ?k1 ?k2 ?k3 ?k4 ?k5 ?kA ?kF ?kK ?k6 ?k7 ?k8 ?k9 ?kB ?_ ?c2 ?c3 ?c4 ?c5; (case kA => exact rfl); (case kF => exact rfl); (case kK => assumption); (case k1 => k_asm); (case k2 => k_asm); (case k3 => k_asm); (case k4 => k_asm); (case k5 => k_asm); (case k6 => k_is); (case k7 => k_is); (case k8 => first | exact rm0 (by assumption) | ktr_room); (case k9 => first | exact BindsTo.of_eq rfl | exact binds_K (by k_in) rfl (by k_is) rfl rfl rfl); (case c5 => decide); (case kB => exact locs rfl); (case c2 => exact rfl); (case c3 => exact rfl); (case c4 => exact rfl); k_whole; intro g' L' h' FG' F' N' B' X' T'; (try dsimp only); (try k_lift B'); (try k_fold))
  k_dflt (walk_at "M enter")
  k_with_none
  k_with "M om" => (first | with_reducible assumption | exact Nat.le_succ_of_le (by with_reducible assumption) | exact Nat.le_of_lt (by with_reducible assumption) | exact Nat.le_of_succ_le (by with_reducible assumption) | exact Nat.le_trans (by with_reducible assumption) (by decide) | exact Nat.le_trans (Nat.le_of_succ_le (by with_reducible assumption)) (Nat.le_trans (by with_reducible assumption) (by decide)))
  k_with "M use" => ((case u1x => k_asm); (case u2x => k_asm); (case u3x => k_asm); (case u5x => k_asm); (case uKx => first | assumption | exact rfl); (case udx => first | exact rmA (by assumption) (by decide) | ktr_room); (case uux => first | exact umA (by assumption) (by decide) | ktr_units))
  k_with "M in" => (first | with_reducible assumption | exact Frag.In.keeps (by with_reducible assumption) (Fr.keep (by with_reducible assumption)))
  k_with "call ref" => (k_here; k_extra "M call")
  k_with "call ref" => (k_here; with_reducible first | refine call_app0 ?_ | refine call_app1 ?_ | refine call_app2 ?_)
  k_with "eval Call" => (k_here; k_dflt (refine Call_ ?_))
  k_with "M all" => (first | assumption | exact apart_of (by first | assumption | exact And.right (by assumption) | exact And.right (And.right (by assumption)) | exact And.right (And.right (And.right (by assumption))) | exact And.right (And.right (And.right (And.right (by assumption))))))
  k_with "M call" => ((with_reducible show wpAny _ _ (call (Value.ref 158) _) _ _ _); k_dflt (refine' c_is_among ?u1x ?u2x ?u3x ?u4x ?u5x ?uKx ?udx ?uux ?_; walk_at "M use"; (case u4x => k_asm)); k_whole; intro h' tk' F' N'; (try dsimp only); (try k_sweep))
  k_with "M call" => ((with_reducible show wpAny _ _ (call (Value.ref 179) _) _ _ _); k_dflt (refine' c_name_letters ?u1x ?u2x ?u3x ?u4x ?u5x ?uKx ?udx ?uux ?_; walk_at "M use"; (case u4x => k_asm)); k_whole; intro h' tk' t' F' N'; (try dsimp only); (try k_sweep))
  k_with "M led" => (first | k_asm | exact news_rot1 (by k_asm) | exact news_rot2 (by k_asm) | exact news_rot3 (by k_asm) | exact news_rot4 (by k_asm))
  k_with "M call" => ((with_reducible show wpAny _ _ (call (Value.ref 116) [_]) _ _ _); k_dflt (refine' c_signG0 ?u1x ?u2x ?u3x ?u4x ?u5x ?uKx ?udx ?uux ?z2 ?z3 ?z4 ?_; walk_at "M use"; (case u4x => walk_at "M led"); (case z2 => omega); (case z3 => omega); (case z4 => omega)); k_whole; intro h' tk' t' F' N'; (try dsimp only); (try k_sweep))
  k_with "M call" => ((with_reducible show wpAny _ _ (call (Value.ref 116) [_, _]) _ _ _); k_dflt (refine' c_sign ?u1x ?u2x ?u3x ?u4x ?u5x ?uKx ?udx ?uux ?z1 ?z2 ?z3 ?z4 ?_; walk_at "M use"; (case u4x => walk_at "M led"); (case z1 => first | exact cast1 | exact cast2 | rfl | omega); (case z2 => omega); (case z3 => omega); (case z4 => omega)); k_whole; intro h' tk' t' F' N'; (try dsimp only); (try k_sweep))
  k_with "M call" => ((with_reducible show wpAny _ _ (call (Value.ref 116) [_]) _ _ _); k_dflt (refine' c_sign0 ?u1x ?u2x ?u3x ?u4x ?u5x ?uKx ?udx ?uux ?z2 ?z3 ?_; walk_at "M use"; (case u4x => walk_at "M led"); (case z2 => omega); (case z3 => omega)); k_whole; intro h' tk' t' F' N'; (try dsimp only); (try k_sweep))
  k_with "M ap" => (first | k_asm | k_all)
  k_with "M ne" => (first | k_asm | k_ne)
  k_with "M call" => ((with_reducible show wpAny _ _ (call (Value.ref 130) _) _ _ _); k_dflt (refine' c_step ?u1x ?u2x ?u3x ?u4x ?u5x ?uKx ?udx ?uux ?z1 ?z2 ?z3 ?z4 ?_; walk_at "M use"; (case u4x => walk_at "M led"); (case z1 => walk_at "M ne"); (case z2 => walk_at "M ap"); (case z3 => omega); (case z4 => omega)); k_whole; intro h' tk' t' t2' t3' t4' F' N'; (try dsimp only); (try k_sweep))
  k_with "M call" => ((with_reducible show wpAny _ _ (call (Value.ref 144) _) _ _ _); k_dflt (refine' c_place ?u1x ?u2x ?u3x ?u4x ?u5x ?uKx ?udx ?uux ?_; walk_at "M use"; (case u4x => walk_at "M led")); k_whole; intro h' tk' p' u3' u4' F' N' l1; (try dsimp only); (try k_lt l1); (try k_sweep))
  k_with "M call" => ((with_reducible show wpAny _ _ (call (Value.ref 137) _) _ _ _); k_dflt (refine' c_take ?u1x ?u2x ?u3x ?u4x ?u5x ?uKx ?udx ?uux ?z1 ?z2 ?z3 ?z4 ?_; walk_at "M use"; (case u4x => walk_at "M led"); (case z1 => walk_at "M ne"); (case z2 => walk_at "M ap"); (case z3 => omega); (case z4 => omega)); k_whole; intro h' tk' t' t2' t3' t4' F' N'; (try dsimp only); (try k_sweep))
  k_with "M call" => ((with_reducible show wpAny _ _ (call (Value.ref 52) _) _ _ _); k_dflt (refine' c_make ?u1x ?u2x ?u3x ?u4x ?u5x ?uKx ?udx ?uux ?_; walk_at "M use"; (case u4x => k_asm)); k_whole; intro h' tk' e' t' dx' h1' h2' k1' k2' F' N' ap' l1; (try dsimp only); (try k_sweep))
  k_with "M mem" => (repeat (first | exact List.mem_cons_self | assumption | refine List.mem_cons_of_mem _ ?_))
  k_with "M sub" => (intro q hq; repeat (first | assumption | refine List.mem_cons_of_mem _ ?_))
  k_with "exec Raise some none" => (k_here; k_dflt (refine raise52 (by rfl) ?_))
  k_with "RaiseQ" => (k_here; (rename News _ _ _ _ => nX'); refine ⟨_, _, _, rfl, by k_in, (nX' _ (.tail _ (.head _))).1, ?_⟩)
  k_with "leaving ref" => (k_here; k_dflt (refine' leaveNew ?K ?F ?N ?ap ?l ?_; (case N => assumption); (case F => k_asm); (case K => k_asm); (case ap => assumption); (case l => assumption)); intro h' R' U'; (try dsimp only))
  k_with "leaving ref" => (k_here; k_dflt (refine' leaveOnAt ?K ?F ?R ?U ?_; (case K => k_asm); (case R => assumption); (case U => assumption); (case F => assumption)); intro h' R' U'; (try dsimp only))
  k_with "M call" => ((with_reducible show wpAny _ _ (call (Value.ref 228) _) _ _ _); k_dflt (refine' c_read_dec ?u1x ?u2x ?u3x ?u4x ?u5x ?uKx ?udx ?uux ?z1 ?z2 ?z3 ?z4 ?z5 ?z6 ?zR ?zE; walk_at "M use"; (case u4x => walk_at "M led"); (case z1 => walk_at "M ne"); (case z2 => walk_at "M ap"); (case z3 => omega); (case z4 => omega); (case z5 => assumption); (case z6 => assumption)); (case' zR => (k_whole; intro hfl' h' tk' t' t2' t3' t4' F' N'; (try dsimp only); (try k_sweep))); (case' zE => (k_whole; intro hfl' e' g₂' h' tk' F' U' R'; (try dsimp only))))
  k_with "M call" => ((with_reducible show wpAny _ _ (call (Value.ref 228) _) _ _ _); k_dflt (refine' c_read_hex ?u1x ?u2x ?u3x ?u4x ?u5x ?uKx ?udx ?uux ?z1 ?z2 ?z3 ?z4 ?z5 ?z6 ?z7 ?z8 ?_; walk_at "M use"; (case u4x => walk_at "M led"); (case z1 => walk_at "M ne"); (case z2 => walk_at "M ap"); (case z3 => omega); (case z4 => omega); (case z5 => assumption); (case z6 => assumption); (case z7 => assumption); (case z8 => assumption)); k_whole; intro h' tk' t' t2' t3' t4' F' N'; (try dsimp only); (try k_sweep))
  k_with "M call" => ((with_reducible show wpAny _ _ (call (Value.ref 256) _) _ _ _); k_dflt (refine' c_char_plain ?u1x ?u2x ?u3x ?u4x ?u5x ?uKx ?udx ?uux ?z1 ?z2 ?z3 ?z4 ?z5 ?z6 ?z7 ?z8 ?z9 ?_; walk_at "M use"; (case u4x => walk_at "M led"); (case z1 => walk_at "M ne"); (case z2 => walk_at "M ap"); (case z3 => omega); (case z4 => omega); (case z5 => first | assumption | omega); (case z6 => first | assumption | omega); (case z7 => first | assumption | omega); (case z8 => first | assumption | omega); (case z9 => first | assumption | omega)); k_whole; intro h' tk' t' t2' t3' t4' F' N'; (try dsimp only); (try k_sweep))
  k_with "M call" => ((with_reducible show wpAny _ _ (call (Value.ref 256) _) _ _ _); k_dflt (refine' c_char_t ?u1x ?u2x ?u3x ?u4x ?u5x ?uKx ?udx ?uux ?z1 ?z2 ?z3 ?z4 ?z5 ?z6 ?z7 ?_; walk_at "M use"; (case u4x => walk_at "M led"); (case z1 => walk_at "M ne"); (case z2 => walk_at "M ap"); (case z3 => omega); (case z4 => omega); (case z5 => first | assumption | omega); (case z6 => first | assumption | omega); (case z7 => first | assumption | omega)); k_whole; intro h' tk' t' t2' t3' t4' F' N'; (try dsimp only); (try k_sweep))
  k_with "M call" => ((with_reducible show wpAny _ _ (call (Value.ref 256) _) _ _ _); k_dflt (refine' c_char_bad ?u1x ?u2x ?u3x ?u4x ?u5x ?uKx ?udx ?uux ?z1 ?z2 ?z3 ?z4 ?z5 ?_; walk_at "M use"; (case u4x => walk_at "M led"); (case z1 => walk_at "M ne"); (case z2 => walk_at "M ap"); (case z3 => omega); (case z4 => omega); (case z5 => first | assumption | omega)); k_whole; intro e' g₂' h' tk' F' U' R'; (try dsimp only))
  k_with "M call" => ((with_reducible show wpAny _ _ (call (Value.ref 270) _) _ _ _); k_dflt (refine' c_text_ok ?u1x ?u2x ?u3x ?u4x ?u5x ?uKx ?udx ?uux ?z1 ?z2 ?z3 ?z4 ?z5 ?_; walk_at "M use"; (case u4x => walk_at "M led"); (case z1 => walk_at "M ne"); (case z2 => walk_at "M ap"); (case z3 => omega); (case z4 => omega); (case z5 => assumption)); k_whole; intro h' tk' t' t2' t3' t4' F' N'; (try dsimp only); (try k_sweep))
  k_with "M call" => ((with_reducible show wpAny _ _ (call (Value.ref 270) _) _ _ _); k_dflt (refine' c_text_bad ?u1x ?u2x ?u3x ?u4x ?u5x ?uKx ?udx ?uux ?z1 ?z2 ?z3 ?z4 ?z5 ?_; walk_at "M use"; (case u4x => walk_at "M led"); (case z1 => walk_at "M ne"); (case z2 => walk_at "M ap"); (case z3 => omega); (case z4 => omega); (case z5 => assumption)); k_whole; intro e' g₂' h' tk' F' U' R'; (try dsimp only))
  k_with "M call" => ((with_reducible show wpAny _ _ (call (Value.ref 277) _) _ _ _); k_dflt (refine' c_symbol_kind ?u1x ?u2x ?u3x ?u4x ?u5x ?uKx ?udx ?uux ?z1 ?z2 ?_; walk_at "M use"; (case u4x => k_asm); (case z1 => omega); (case z2 => omega)); k_whole; intro h' tk' t' F' N'; (try dsimp only); (try k_sweep))
  k_with "compareOp In str ref" => (k_here; (with_reducible show wpAny _ _ (compareOp CmpOp.In (Value.str _ _) (Value.ref 55)) _ _ _); k_dflt (refine in_keys (by k_in) ?_))
  k_with "M call" => ((with_reducible show wpAny _ _ (call (Value.ref 228) _) _ _ _); k_dflt (refine' c_read_int ?u1x ?u2x ?u3x ?u4x ?u5x ?uKx ?udx ?uux ?z1 ?z2 ?z3 ?z4 ?z5 ?z6 ?z7 ?_; walk_at "M use"; (case u4x => walk_at "M led"); (case z1 => walk_at "M ne"); (case z2 => walk_at "M ap"); (case z3 => omega); (case z4 => omega); (case z5 => assumption); (case z6 => assumption); (case z7 => assumption)); k_whole; intro h' tk' t' t2' t3' t4' F' N'; (try dsimp only); (try k_sweep))
  k_with "M call" => ((with_reducible show wpAny _ _ (call (Value.ref 228) _) _ _ _); k_dflt (refine' c_read_flt ?u1x ?u2x ?u3x ?u4x ?u5x ?uKx ?udx ?uux ?z1 ?z2 ?z3 ?z4 ?z5 ?z6 ?z7 ?_; walk_at "M use"; (case u4x => walk_at "M led"); (case z1 => walk_at "M ne"); (case z2 => walk_at "M ap"); (case z3 => omega); (case z4 => omega); (case z5 => assumption); (case z6 => assumption); (case z7 => assumption)); k_whole; intro e' g₂' h' tk' F' U' R'; (try dsimp only))
  k_steps
  · exact hraise _ _ _ _ (by assumption) (by assumption) (errAt_of (by assumption) (by walk_at "M mem") (by walk_at "M sub"))
theorem c_read_word {w : World} {dp un : Nat} {gd : Option (List Code)} {cn : Str} {cs : Scope} {a : Addr} {ccd : Value} {cl : List (Str × Addr)} {outer : List Env} {A₀ : Around} {base h₀ : Heap} {L : Addr} {m : Str → Option Value} {s : Shared} {mean : ExcName → Option Value} {mg mb : Str → Option Value} {Q E : Value → Shared → Prop} {rest : List (Addr × Obj)} {x d : Addr} {k : SgK} {T : List Nat} {t1 t2 t3 t4 : Tok} {i j : Nat} {kd tt : Str} {dv : Dat}
  (B : Below A₀ base outer h₀) (F : Fr h₀ L s.heap m) (X : (Mine.hd.heap_1 w.params).In h₀) (N : News h₀ L s.heap ((d, SGo k T i t1 t2 t3 t4) :: (x, instObj 147 d) :: rest)) (TT : Top Mine.hd.view_1 lz mean mg mb h₀) (hk : cs.kind = .function) (hd : dp + 7 < recursionLimit) (hu : un + 8 * 7 < cLine)
  (hxd : x ≠ d) (hap : ∀ p ∈ rest, p.1 ≠ d) (hT : T.length ≤ 9000) (hi : i ≤ T.length) (hw : WordR T i kd tt dv j)
  (hret : ∀ h' tk' p ta tb v t2 t3 t4, Fr h₀ L h' m → News h₀ L h' ((p, tup3 (.str kd ta) (.str tt tb) v) :: (d, SGo k T j t1 t2 t3 t4) :: (x, instObj 147 d) :: rest) → DatIn [] v dv → d < p → x < p → (∀ q ∈ rest, q.1 < p) → Q (.ref p) { s with heap := h', toks := tk' }) :
  wpAny (model PySem.Challenge.rw_sy0021_01.row.prog w) (ktrTop dp un gd cn cs L a ccd cl outer) (call (.ref 305) [.ref x]) Q E s := by
  induction hw with
  | fin h1 => exact c_word_fin B F X N TT hk hd hu hxd hap hT hi h1 hret
  | special h1 => exact c_word_special B F X N TT hk hd hu hxd hap hT hi h1 hret
  | dec h1 h2 h3 h4 h5 => exact c_word_dec B F X N TT hk hd hu hxd hap hT hi h1 h2 h3 h4 h5 hret
  | hex h1 h2 h3 h4 h5 => exact c_word_hex B F X N TT hk hd hu hxd hap hT hi h1 h2 h3 h4 h5 hret
  | small h1 h2 => exact c_word_small B F X N TT hk hd hu hxd hap hT hi h1 h2 hret
  | sym h1 h2 => exact c_word_sym B F X N TT hk hd hu hxd hap hT hi h1 h2 hret
  | char h1 h2 h3 h4 h5 h6 => exact c_word_char B F X N TT hk hd hu hxd hap hT hi h1 h2 h3 h4 h5 h6 hret
  | chart h1 h2 h3 h4 => exact c_word_chart B F X N TT hk hd hu hxd hap hT hi h1 h2 h3 h4 hret
  | text h1 h2 => exact c_word_text B F X N TT hk hd hu hxd hap hT hi h1 h2 hret
theorem c_read_bad {w : World} {dp un : Nat} {gd : Option (List Code)} {cn : Str} {cs : Scope} {a : Addr} {ccd : Value} {cl : List (Str × Addr)} {outer : List Env} {A₀ : Around} {base h₀ : Heap} {L : Addr} {m : Str → Option Value} {s : Shared} {mean : ExcName → Option Value} {mg mb : Str → Option Value} {Q E : Value → Shared → Prop} {rest : List (Addr × Obj)} {x d : Addr} {k : SgK} {T : List Nat} {t1 t2 t3 t4 : Tok} {i : Nat}
  (B : Below A₀ base outer h₀) (F : Fr h₀ L s.heap m) (X : (Mine.hd.heap_1 w.params).In h₀) (N : News h₀ L s.heap ((d, SGo k T i t1 t2 t3 t4) :: (x, instObj 147 d) :: rest)) (TT : Top Mine.hd.view_1 lz mean mg mb h₀) (hk : cs.kind = .function) (hd : dp + 7 < recursionLimit) (hu : un + 8 * 7 < cLine)
  (hxd : x ≠ d) (hap : ∀ p ∈ rest, p.1 ≠ d) (hT : T.length ≤ 9000) (hi : i ≤ T.length) (hb : BadR T i)
  (hraise : ∀ e g₂ h' tk', Fr h₀ L g₂ m → g₂.UpToSlots h' → ErrAt base g₂ (envX cn cs L a ccd cl :: outer) e T i rest h' → E (.ref e) { s with heap := h', toks := tk' }) :
  wpAny (model PySem.Challenge.rw_sy0021_01.row.prog w) (ktrTop dp un gd cn cs L a ccd cl outer) (call (.ref 305) [.ref x]) Q E s := by
  cases hb with
  | float h1 h2 h3 h4 => exact c_word_flt B F X N TT hk hd hu hxd hap hT hi h1 h2 h3 h4 hraise
  | char h1 h2 h3 => exact c_word_cbad B F X N TT hk hd hu hxd hap hT hi h1 h2 h3 hraise
  | text h1 h2 => exact c_word_tbad B F X N TT hk hd hu hxd hap hT hi h1 h2 hraise
  | other h1 h2 h3 h4 h5 h6 h7 h8 => exact c_word_other B F X N TT hk hd hu hxd hap hT hi h1 h2 h3 h4 h5 h6 h7 h8 hraise
end
end

-- 64new
section
theorem news_sg0 {h₀ h' : Heap} {L : Addr} {r : List (Addr × Obj)} {d : Addr} {k : SgK} {T : List Nat} {t1 t2 t3 t4 : Tok}
    (N : News h₀ L h' ((d, dictOf (sgE k (tx T) t1 0 t2 1 t3 1 t4) 4) :: r)) : News h₀ L h' ((d, SGo k T 0 t1 t2 t3 t4) :: r) := N
theorem c_signs_new {w : World} {dp un : Nat} {gd : Option (List Code)} {cn : Str} {cs : Scope} {a : Addr} {ccd : Value} {cl : List (Str × Addr)} {outer : List Env} {A₀ : Around} {base h₀ : Heap} {L : Addr} {m : Str → Option Value} {s : Shared} {mean : ExcName → Option Value} {mg mb : Str → Option Value} {Q E : Value → Shared → Prop} {news : List (Addr × Obj)} {T : List Nat} {tk : Tok}
  (B : Below A₀ base outer h₀) (F : Fr h₀ L s.heap m) (X : (Mine.hd.heap_1 w.params).In h₀) (N : News h₀ L s.heap (news)) (TT : Top Mine.hd.view_1 lz mean mg mb h₀) (hk : cs.kind = .function) (hd : dp + 2 < recursionLimit) (hu : un + 8 * 2 < cLine)
  (hret : ∀ h' tk' x d k t1 t2 t3 t4, Fr h₀ L h' m → News h₀ L h' ((d, SGo k T 0 t1 t2 t3 t4) :: (x, instObj 147 d) :: news) → d < x → (∀ p ∈ news, p.1 < d) → Q (.ref x) { s with heap := h', toks := tk' }) :
  wpAny (model PySem.Challenge.rw_sy0021_01.row.prog w) (ktrTop dp un gd cn cs L a ccd cl outer) (call (.ref 147) [.str (tx T) tk]) Q E s := by
  have hfill : (Mine.hd.heap_1 = Mine.hd.heap_1 ∧ PySem.Challenge.rw_sy0021_01 = PySem.Challenge.rw_sy0021_01) := by k_fill; exact ⟨rfl, rfl⟩
  clear hfill
  k_dflt (refine' call_cls ?k1 ?k2 ?k3 ?k4 ?k5 ?k6 ?_; (case k1 => k_asm); (case k2 => k_asm); (case k3 => k_asm); (case k4 => k_is); (case k5 => k_is); (case k6 => k_is); k_whole; intro x' d' h' F' N' l1 l2; (try k_lt l1); (try k_lt2 l2); (try k_sweep))
  k_with_none
  k_with "M enter" => (refine' code_def ?k1 ?k2 ?k3 ?k4 ?k5 ?kA ?kF ?kK ?k6 ?k7 ?k8 ?k9 ?kB ?_ ?c2 ?c3 ?c4 ?c5; (case kA => exact rfl); (case kF => exact rfl); (case kK => assumption); (case k1 => k_asm); (case k2 => k_asm); (case k3 => k_asm); (case k4 => k_asm); (case k5 => k_asm); (case k6 => k_is); (case k7 => k_is); (case k8 => first | exact rm0 (by assumption) | ktr_room); (case k9 => first | exact BindsTo.of_eq rfl | exact binds_K (by k_in) rfl (by k_is) rfl rfl rfl); (case c5 => decide); (case kB => exact locs rfl); (case c2 => exact rfl); (case c3 => exact rfl); (case c4 => exact rfl); k_whole; intro g' L' h' FG' F' N' B' X' T'; (try dsimp only); (try k_lift B'); (try k_fold))
  k_dflt (walk_at "M enter")
  k_with_none
  k_with "M in" => (first | with_reducible assumption | exact Frag.In.keeps (by with_reducible assumption) (Fr.keep (by with_reducible assumption)))
  k_with "M all" => (first | assumption | exact apart_of (by first | assumption | exact And.right (by assumption) | exact And.right (And.right (by assumption)) | exact And.right (And.right (And.right (by assumption))) | exact And.right (And.right (And.right (And.right (by assumption))))))
  k_steps
  rename News h₀ _ _ _ => kN'
  exact hret _ _ _ _ ⟨_, _, _, _, _, _, _, _⟩ _ _ _ _ (by assumption) (news_sg0 (news_swap kN')) l2 l1
structure WdK where
  (h1 h2 h3 h4 h5 h6 h7 : Int) (k1 k2 k3 k4 k5 k6 k7 : Tok)
noncomputable abbrev wdE (k : WdK) (v1 v2 v3 v4 v5 v6 v7 : Value) : List DictEntry :=
  [⟨k.h1, .str (Str.ofString "kind") k.k1, v1⟩, ⟨k.h2, .str (Str.ofString "text") k.k2, v2⟩, ⟨k.h3, .str (Str.ofString "line") k.k3, v3⟩, ⟨k.h4, .str (Str.ofString "column") k.k4, v4⟩, ⟨k.h5, .str (Str.ofString "value") k.k5, v5⟩, ⟨k.h6, .str (Str.ofString "is_first") k.k6, v6⟩, ⟨k.h7, .str (Str.ofString "end") k.k7, v7⟩]
theorem c_word_new {w : World} {dp un : Nat} {gd : Option (List Code)} {cn : Str} {cs : Scope} {a : Addr} {ccd : Value} {cl : List (Str × Addr)} {outer : List Env} {A₀ : Around} {base h₀ : Heap} {L : Addr} {m : Str → Option Value} {s : Shared} {mean : ExcName → Option Value} {mg mb : Str → Option Value} {Q E : Value → Shared → Prop} {news : List (Addr × Obj)} {kd tt : Str} {ln co : Int} {u1 u2 u3 u4 : Tok} {v : Value} {dv : Dat} {f : Bool} {pe : Addr}
  (B : Below A₀ base outer h₀) (F : Fr h₀ L s.heap m) (X : (Mine.hd.heap_1 w.params).In h₀) (N : News h₀ L s.heap (news)) (TT : Top Mine.hd.view_1 lz mean mg mb h₀) (hk : cs.kind = .function) (hd : dp + 2 < recursionLimit) (hu : un + 8 * 2 < cLine)
  (hv : DatIn [] v dv)
  (hret : ∀ h' tk' x d k, Fr h₀ L h' m → News h₀ L h' ((d, dictOf (wdE k (.str kd u1) (.str tt u2) (.int ln u3) (.int co u4) v (.bool f) (.ref pe)) 7) :: (x, instObj 90 d) :: news) → d < x → (∀ p ∈ news, p.1 < d) → Q (.ref x) { s with heap := h', toks := tk' }) :
  wpAny (model PySem.Challenge.rw_sy0021_01.row.prog w) (ktrTop dp un gd cn cs L a ccd cl outer) (call (.ref 90) [.str kd u1, .str tt u2, .int ln u3, .int co u4, v, .bool f, .ref pe]) Q E s := by
  have hfill : (Mine.hd.heap_1 = Mine.hd.heap_1 ∧ PySem.Challenge.rw_sy0021_01 = PySem.Challenge.rw_sy0021_01) := by k_fill; exact ⟨rfl, rfl⟩
  clear hfill
  k_dflt (refine' call_cls ?k1 ?k2 ?k3 ?k4 ?k5 ?k6 ?_; (case k1 => k_asm); (case k2 => k_asm); (case k3 => k_asm); (case k4 => k_is); (case k5 => k_is); (case k6 => k_is); k_whole; intro x' d' h' F' N' l1 l2; (try k_lt l1); (try k_lt2 l2); (try k_sweep))
  k_with_none
  k_with "M enter" => (refine' code_def ?k1 ?k2 ?k3 ?k4 ?k5 ?kA ?kF ?kK ?k6 ?k7 ?k8 ?k9 ?kB ?_ ?c2 ?c3 ?c4 ?c5; (case kA => exact rfl); (case kF => exact rfl); (case kK => assumption); (case k1 => k_asm); (case k2 => k_asm); (case k3 => k_asm); (case k4 => k_asm); (case k5 => k_asm); (case k6 => k_is); (case k7 => k_is); (case k8 => first | exact rm0 (by assumption) | ktr_room); (case k9 => first | exact BindsTo.of_eq rfl | exact binds_K (by k_in) rfl (by k_is) rfl rfl rfl); (case c5 => decide); (case kB => exact locs rfl); (case c2 => exact rfl); (case c3 => exact rfl); (case c4 => exact rfl); k_whole; intro g' L' h' FG' F' N' B' X' T'; (try dsimp only); (try k_lift B'); (try k_fold))
  k_dflt (walk_at "M enter")
  k_with_none
  k_with "M in" => (first | with_reducible assumption | exact Frag.In.keeps (by with_reducible assumption) (Fr.keep (by with_reducible assumption)))
  k_with "M all" => (first | assumption | exact apart_of (by first | assumption | exact And.right (by assumption) | exact And.right (And.right (by assumption)) | exact And.right (And.right (And.right (by assumption))) | exact And.right (And.right (And.right (And.right (by assumption))))))
  k_steps
  rename News h₀ _ _ _ => kN'
  exact hret _ _ _ _ ⟨_, _, _, _, _, _, _, _, _, _, _, _, _, _⟩ (by assumption) (news_swap kN') l2 l1
end

-- 65words
section
noncomputable abbrev wdO (k : WdK) (row : Row) (t1 t2 t3 t4 : Tok) (v : Value) (pe : Addr) : Obj :=
  dictOf (wdE k (.str row.kind t1) (.str row.text t2) (.int (row.line : Int) t3) (.int (row.col : Int) t4) v (.bool row.first) (.ref pe)) 7
noncomputable def WordAt (own : List (Addr × Obj)) (wa : Addr) (row : Row) : Prop :=
  ∃ wd pe k t1 t2 t3 t4 v u1 u2, (wa, instObj 90 wd) ∈ own ∧ (wd, wdO k row t1 t2 t3 t4 v pe) ∈ own ∧ (pe, tup2 (.int (row.eline : Int) u1) (.int (row.ecol : Int) u2)) ∈ own ∧ DatIn [] v row.val
inductive WordsIn (own : List (Addr × Obj)) : List Value → List Row → Prop
  | nil : WordsIn own [] []
  | snoc {vs rows wa row} : WordsIn own vs rows → WordAt own wa row → WordsIn own (vs ++ [.ref wa]) (rows ++ [row])
theorem WordAt.mono {own own' : List (Addr × Obj)} {wa : Addr} {row : Row} (h : WordAt own wa row) (hs : ∀ p ∈ own, p ∈ own') : WordAt own' wa row := by
  obtain ⟨wd, pe, k, t1, t2, t3, t4, v, u1, u2, a, b, c, e⟩ := h
  exact ⟨wd, pe, k, t1, t2, t3, t4, v, u1, u2, hs _ a, hs _ b, hs _ c, e⟩
theorem WordsIn.mono {own own' : List (Addr × Obj)} {vs : List Value} {rows : List Row} (h : WordsIn own vs rows) (hs : ∀ p ∈ own, p ∈ own') : WordsIn own' vs rows := by
  induction h with
  | nil => exact .nil
  | snoc _ h2 ih => exact .snoc ih (h2.mono hs)
structure WSt where
  (vs : List Value) (n pos : Nat) (first : Bool) (own : List (Addr × Obj)) (suf : List Row) (t2 t3 t4 : Tok)
theorem eq_nilS {prog : Program} {w : World} {A : Around} {E : Value → Shared → Prop} {s : Shared} {a b : Addr} {l : List Value} {v : Value} {Q : Value → Shared → Prop} (hl : s.heap.IsList a (l ++ [v]).toArray) (hb : s.heap.IsList b #[]) (hu : A.units + 8 < cLine) (h : Q (.bool false) s) :
    wpAny (model prog w) A (compareOp .Eq (.ref a) (.ref b)) Q E s := SeqAt.RcAt.lists_lengths hl hb (by simp) (by omega) prog w E Q h
theorem eq_nil0 {prog : Program} {w : World} {A : Around} {E : Value → Shared → Prop} {s : Shared} {a b : Addr} {Q : Value → Shared → Prop} (hl : s.heap.IsList a #[]) (hb : s.heap.IsList b #[]) (hu : A.units + 8 < cLine) (h : Q (.bool true) s) :
    wpAny (model prog w) A (compareOp .Eq (.ref a) (.ref b)) Q E s := by
  obtain ⟨o1, e1, c1, n1, d1⟩ := hl
  obtain ⟨o2, e2, c2, n2, d2⟩ := hb
  exact SeqAt.compareEq_reads (reads_list_at e1 c1 d1 .nil) (reads_list_at e2 c2 d2 .nil) rfl rfl (Nat.lt_of_le_of_lt (by show _ ≤ A.units + 8; simp [PyData.depth, PyData.depthAll]) hu) h
theorem sub_last {prog : Program} {w : World} {A : Around} {E : Value → Shared → Prop} {s : Shared} {value slice : PySem.Expr} {a : Addr} {l : List Value} {v : Value} {u : Tok} {Q : Value → Shared → Prop} (hl : s.heap.IsList a (l ++ [v]).toArray) (h : Q v s)
    (hs : subscripted slice false (.ref a) (.int (-1) u) = operate [.ref a, .int (-1) u] (getItem (.ref a) (.int (-1) u)) := by with_unfolding_all rfl) :
    wpAny (model prog w) A (subscriptTail value slice (.ref a) (.int (-1) u)) Q E s :=
  kde_neg hl (by decide) (by decide) (seqIndex?_neg_one (by simp)) (by simp) h hs
noncomputable def EndLast (pre : List Row) : Prop := ∃ ps row, pre = ps ++ [row] ∧ row.kind = Str.ofString "end"
/-- the next word, or the spoilt one -/
noncomputable def Nxt (T : List Nat) (c : WSt) (r : Option Nat) : Prop :=
  (BadR T (skipEnd T c.pos) ∧ r = some (skipEnd T c.pos)) ∨
  ∃ kd tt dv j suf', WordR T (skipEnd T c.pos) kd tt dv j ∧ c.suf = ⟨kd, tt, dv, (lc T (skipEnd T c.pos)).1, (lc T (skipEnd T c.pos)).2, decide ((lc T (skipEnd T c.pos)).1 > (lc T c.pos).1) || c.first, (lc T j).1, (lc T j).2⟩ :: suf' ∧
    ((kd ≠ Str.ofString "end" ∧ LexR T j false suf' r) ∨ (kd = Str.ofString "end" ∧ suf' = [] ∧ r = none))
theorem LexR.nxt {T : List Nat} {i : Nat} {f : Bool} {rows : List Row} {r : Option Nat} {c : WSt} (h : LexR T i f rows r) (h1 : c.pos = i) (h2 : c.first = f) (h3 : c.suf = rows) : Nxt T c r := by
  induction h with
  | fin h => subst h1 h2; exact .inr ⟨_, _, _, _, _, .fin h, h3, .inr ⟨rfl, rfl, rfl⟩⟩
  | bad h => subst h1; exact .inl ⟨h, rfl⟩
  | word g1 g2 g3 _ => subst h1 h2; exact .inr ⟨_, _, _, _, _, g2, h3, .inl ⟨g1, g3⟩⟩
noncomputable def WInv (T : List Nat) (news : List (Addr × Obj)) (lA d : Addr) (rows : List Row) (r : Option Nat) (c : WSt) : Prop :=
  ∃ pre, pre ++ c.suf = rows ∧ WordsIn c.own c.vs pre ∧ (∀ q ∈ c.own ++ news, q.1 ≠ lA) ∧ (∀ q ∈ c.own ++ news, q.1 ≠ d) ∧ c.pos ≤ T.length ∧
    ((c.suf = [] ∧ r = none ∧ EndLast pre) ∨ (LexR T c.pos c.first c.suf r ∧ ¬ EndLast pre ∧ c.vs.length ≤ c.pos))
theorem cond_w {M : Model} {A : Around} {E : Value → Shared → Prop} {s : Shared} {g h : Heap} {L : Addr} {m : Str → Option Value} {led : List (Addr × Obj)} {t : Sem Bool} {Q : Bool → Shared → Prop} {b0 : Bool} {tk : Nat} (_ : Fr g L h m) (_ : News g L h led)
    (hc : wpAny M A t (fun b s₂ => b = b0 ∧ ∃ h' tk', s₂ = { s with heap := h', toks := tk' } ∧ Fr g L h' m ∧ News g L h' led) E { s with heap := h, toks := tk })
    (hb : ∀ h' tk', Fr g L h' m → News g L h' led → Q b0 { s with heap := h', toks := tk' }) : wpAny M A t Q E { s with heap := h, toks := tk } :=
  wpAny_mono hc (fun b s₂ ⟨e, h', tk', e2, F, N⟩ => by subst e e2; exact hb h' tk' F N) fun _ _ e => e
theorem news_pre {h₀ h : Heap} {L : Addr} {l l' : List (Addr × Obj)} (N : News h₀ L h l) (hs : ∀ q ∈ l', q ∈ l) : News h₀ L h (l' ++ l) := fun z hz => by
  rcases List.mem_append.mp hz with hz | hz
  · exact N z (hs z hz)
  · exact N z hz
theorem endlast_nil : ¬ EndLast [] := by rintro ⟨ps, row, h, _⟩; simp at h
theorem endlast_snoc {ps : List Row} {row : Row} : EndLast (ps ++ [row]) ↔ row.kind = Str.ofString "end" := by
  constructor
  · rintro ⟨ps', row', h, e⟩
    obtain ⟨_, h2⟩ := List.append_inj' h rfl
    cases h2; exact e
  · intro e; exact ⟨ps, row, rfl, e⟩
theorem news_w {h₀ h : Heap} {L a1 a2 a3 a4 a5 a6 a7 a8 : Addr} {o1 o2 o3 o4 o5 o6 o7 : Obj} {vs : List Value} {v : Value} {n : Nat} {own news : List (Addr × Obj)}
    (N : News h₀ L h ((a1, o1) :: (a2, o2) :: (a3, o3) :: (a4, o4) :: (a5, o5) :: (a6, o6) :: (a7, o7) :: (a8, W.listOf (vs.toArray.push v) n) :: (own ++ news))) :
    News h₀ L h ((a8, W.listOf (vs ++ [v]).toArray n) :: (a4, o4) :: (a5, o5) :: (((a2, o2) :: (a1, o1) :: (a3, o3) :: own) ++ news)) := by
  rw [List.push_toArray] at N
  exact news_sub N (List.forall_mem_cons.mpr ⟨mi 7 rfl, List.forall_mem_cons.mpr ⟨mi 3 rfl, List.forall_mem_cons.mpr ⟨mi 4 rfl, List.forall_mem_cons.mpr ⟨mi 1 rfl, List.forall_mem_cons.mpr ⟨mi 0 rfl, List.forall_mem_cons.mpr ⟨mi 2 rfl, fun q hq => .tail _ (.tail _ (.tail _ (.tail _ (.tail _ (.tail _ (.tail _ (.tail _ (hq))))))))⟩⟩⟩⟩⟩⟩)
theorem winv_next {T : List Nat} {news own : List (Addr × Obj)} {lA d x' d' p' : Addr} {rows suf suf' pre : List Row} {r : Option Nat} {vs : List Value} {n pos j : Nat} {first fb : Bool} {kd tt : Str} {dv : Dat} {k : WdK} {ta tb u3 u4 e3 e4 t2 t3 t4 : Tok} {v : Value}
    (hpre : pre ++ suf = rows) (hw : WordsIn own vs pre) (hlA : ∀ q ∈ own ++ news, q.1 ≠ lA) (hdA : ∀ q ∈ own ++ news, q.1 ≠ d) (hlen : vs.length ≤ pos) (hT : pos ≤ T.length)
    (hsuf : suf = ⟨kd, tt, dv, (lc T (skipEnd T pos)).1, (lc T (skipEnd T pos)).2, decide ((lc T (skipEnd T pos)).1 > (lc T pos).1) || first, (lc T j).1, (lc T j).2⟩ :: suf')
    (hkd : (kd ≠ Str.ofString "end" ∧ LexR T j false suf' r) ∨ (kd = Str.ofString "end" ∧ suf' = [] ∧ r = none))
    (hk2 : j ≤ T.length ∧ skipEnd T pos ≤ j ∧ (kd ≠ Str.ofString "end" → skipEnd T pos < j)) (hv : DatIn [] v dv) (hf : fb = (decide ((lc T (skipEnd T pos)).1 > (lc T pos).1) || first))
    (g1 : lA < p') (g2 : d < p') (g3 : p' < d') (g4 : d' < x') :
    WInv T news lA d rows r ⟨vs ++ [.ref x'], n, j, false, (x', instObj 90 d') :: (d', dictOf (wdE k (.str kd ta) (.str tt tb) (.int ((lc T (skipEnd T pos)).1 : Int) u3) (.int ((lc T (skipEnd T pos)).2 : Int) u4) v (.bool fb) (.ref p')) 7) :: (p', plc T j e3 e4) :: own, suf', t2, t3, t4⟩ := by
  have ap : ∀ y : Addr, y < p' → (∀ q ∈ own ++ news, q.1 ≠ y) → ∀ o1 o2 o3 : Obj, ∀ q ∈ ((x', o1) :: (d', o2) :: (p', o3) :: own) ++ news, q.1 ≠ y := by
    intro y hy hq o1 o2 o3 q hm
    simp only [List.cons_append, List.mem_cons] at hm
    rcases hm with rfl | rfl | rfl | hm
    · exact Nat.ne_of_gt (Nat.lt_trans hy (Nat.lt_trans g3 g4))
    · exact Nat.ne_of_gt (Nat.lt_trans hy g3)
    · exact Nat.ne_of_gt hy
    · exact hq q hm
  have hge := skipEnd_ge hT
  refine ⟨pre ++ [⟨kd, tt, dv, (lc T (skipEnd T pos)).1, (lc T (skipEnd T pos)).2, fb, (lc T j).1, (lc T j).2⟩], ?_, .snoc (hw.mono fun _ h => .tail _ (.tail _ (.tail _ h))) ?_, ap _ g1 hlA _ _ _, ap _ g2 hdA _ _ _, hk2.1, ?_⟩
  · rw [hf, ← hpre, hsuf]; simp
  · exact ⟨d', p', k, _, _, _, _, v, _, _, .head _, .tail _ (.head _), .tail _ (.tail _ (.head _)), hv⟩
  · rcases hkd with ⟨h1, h2⟩ | ⟨h1, h2, h3⟩
    · refine .inr ⟨h2, fun h => h1 (endlast_snoc.mp h), ?_⟩
      have := hk2.2.2 h1
      simp only [List.length_append, List.length_singleton]
      omega
    · exact .inl ⟨h2, h3, endlast_snoc.mpr h1⟩
theorem suf_lt {row : Row} {suf suf' : List Row} (h : suf = row :: suf') : suf'.length < suf.length := by rw [h]; simp
section
theorem c_words_of {w : World} {dp un : Nat} {gd : Option (List Code)} {cn : Str} {cs : Scope} {a : Addr} {ccd : Value} {cl : List (Str × Addr)} {outer : List Env} {A₀ : Around} {base h₀ : Heap} {L : Addr} {m : Str → Option Value} {s : Shared} {mean : ExcName → Option Value} {mg mb : Str → Option Value} {Q E : Value → Shared → Prop} {news : List (Addr × Obj)} {T : List Nat} {rows : List Row} {r : Option Nat} {tk : Tok}
  (B : Below A₀ base outer h₀) (F : Fr h₀ L s.heap m) (X : (Mine.hd.heap_1 w.params).In h₀) (N : News h₀ L s.heap (news)) (TT : Top Mine.hd.view_1 lz mean mg mb h₀) (hk : cs.kind = .function) (hd : dp + 8 < recursionLimit) (hu : un + 8 * 8 < cLine)
  (hT : T.length ≤ 9000) (hb : 123 ∉ T) (hl : LexR T 0 true rows r)
  (hret : r = none → ∀ h' tk' l vs n own, Fr h₀ L h' m → News h₀ L h' ((l, W.listOf vs n) :: (own ++ news)) → WordsIn own vs.toList rows → (∀ q ∈ own ++ news, q.1 ≠ l) → Q (.ref l) { s with heap := h', toks := tk' })
  (hraise : ∀ p, r = some p → ∀ e g₂ h' tk', Fr h₀ L g₂ m → g₂.UpToSlots h' → ErrAt base g₂ (envX cn cs L a ccd cl :: outer) e T p news h' → E (.ref e) { s with heap := h', toks := tk' }) :
  wpAny (model PySem.Challenge.rw_sy0021_01.row.prog w) (ktrTop dp un gd cn cs L a ccd cl outer) (call (.ref 312) [.str (tx T) tk]) Q E s := by
  have hfill : (Mine.hd.heap_1 = Mine.hd.heap_1 ∧ PySem.Challenge.rw_sy0021_01 = PySem.Challenge.rw_sy0021_01) := by k_fill; exact ⟨rfl, rfl⟩
  clear hfill
  refine wpAny_call ?_
  k_with_none
  k_with "M enter" => (refine' code_def ?k1 ?k2 ?k3 ?k4 ?k5 ?kA ?kF ?kK ?k6 ?k7 ?k8 ?k9 ?kB ?_ ?c2 ?c3 ?c4 ?c5; (case kA => exact rfl); (case kF => exact rfl); (case kK => assumption); (case k1 => k_asm); (case k2 => k_asm); (case k3 => k_asm); (case k4 => k_asm); (case k5 => k_asm); (case k6 => k_is); (case k7 => k_is); (case k8 => first | exact rm0 (by assumption) | ktr_room); (case k9 => first | exact BindsTo.of_eq rfl | exact binds_K (by k_in) rfl (by k_is) rfl rfl rfl); (case c5 => decide); (case kB => exact locs rfl); (case c2 => exact rfl); (case c3 => exact rfl); (case c4 => exact rfl); k_whole; intro g' L' h' FG' F' N' B' X' T'; (try dsimp only); (try k_lift B'); (try k_fold))
  k_dflt (walk_at "M enter")
  k_with_none
  k_with "M use" => ((case u1x => k_asm); (case u2x => k_asm); (case u3x => k_asm); (case u5x => k_asm); (case uKx => first | assumption | exact rfl); (case udx => first | exact rmA (by assumption) (by decide) | ktr_room); (case uux => first | exact umA (by assumption) (by decide) | ktr_units))
  k_with "M in" => (first | with_reducible assumption | exact Frag.In.keeps (by with_reducible assumption) (Fr.keep (by with_reducible assumption)))
  k_with "call ref" => (k_here; k_extra "M call")
  k_with "call ref" => (k_here; with_reducible first | refine call_app0 ?_ | refine call_app1 ?_ | refine call_app2 ?_)
  k_with "M kN" => (first | assumption | exact news_tl1 (by assumption) | exact news_tl2 (by assumption) | exact news_tl3 (by assumption) | exact news_tl4 (by assumption) | exact news_dr1 (by assumption) | exact news_dr2 (by assumption) | exact news_dr3 (by assumption))
  k_with "eval Call" => (k_here; k_dflt (refine Call_ ?_))
  k_with "M all" => (first | assumption | exact apart_of (by first | assumption | exact And.right (by assumption) | exact And.right (And.right (by assumption)) | exact And.right (And.right (And.right (by assumption))) | exact And.right (And.right (And.right (And.right (by assumption))))))
  k_with "M led" => (first | k_asm | exact news_rot1 (by k_asm) | exact news_rot2 (by k_asm) | exact news_rot3 (by k_asm) | exact news_rot4 (by k_asm))
  k_with "M ap" => (first | k_asm | k_all)
  k_with "M ne" => (first | k_asm | k_ne)
  k_with "M call" => ((with_reducible show wpAny _ _ (call (Value.ref 144) _) _ _ _); k_dflt (refine' c_place ?u1x ?u2x ?u3x ?u4x ?u5x ?uKx ?udx ?uux ?_; walk_at "M use"; (case u4x => walk_at "M led")); k_whole; intro h' tk' p' u3' u4' F' N' l1; (try dsimp only); (try k_lt l1); (try k_sweep))
  k_with "M call" => ((with_reducible show wpAny _ _ (call (Value.ref 200) _) _ _ _); k_dflt (refine' c_skip_between ?u1x ?u2x ?u3x ?u4x ?u5x ?uKx ?udx ?uux ?z1 ?z2 ?z3 ?z4 ?z5 ?_; walk_at "M use"; (case u4x => walk_at "M led"); (case z1 => walk_at "M ne"); (case z2 => walk_at "M ap"); (case z3 => omega); (case z4 => omega); (case z5 => assumption)); k_whole; intro h' tk' t2' t3' t4' F' N'; (try dsimp only); (try k_sweep))
  k_with "M mem" => (repeat (first | exact List.mem_cons_self | assumption | refine List.mem_cons_of_mem _ ?_))
  k_with "M sub" => (intro q hq; repeat (first | assumption | refine List.mem_cons_of_mem _ ?_))
  k_with "leaving ref" => (k_here; k_dflt (refine' leaveNew ?K ?F ?N ?ap ?l ?_; (case N => assumption); (case F => k_asm); (case K => k_asm); (case ap => assumption); (case l => assumption)); intro h' R' U'; (try dsimp only))
  k_with "leaving ref" => (k_here; k_dflt (refine' leaveOnAt ?K ?F ?R ?U ?_; (case K => k_asm); (case R => assumption); (case U => assumption); (case F => assumption)); intro h' R' U'; (try dsimp only))
  k_with "M kN" => (first | assumption | (refine news_sub (by assumption) ?_; (repeat refine List.forall_mem_cons.mpr (And.intro (by walk_at "M mem") ?_)); walk_at "M sub"))
  k_with "M call" => ((with_reducible show wpAny _ _ (call (Value.ref 305) _) _ _ _); k_dflt (refine' c_read_word ?u1x ?u2x ?u3x ?u4x ?u5x ?uKx ?udx ?uux ?z1 ?z2 ?z3 ?z4 ?z5 ?_; walk_at "M use"; (case u4x => walk_at "M led"); (case z1 => walk_at "M ne"); (case z2 => walk_at "M ap"); (case z3 => omega); (case z4 => omega); (case z5 => assumption)); k_whole; intro h' tk' p' ta' tb' v' t2' t3' t4' F' N' D' l1 l2 l3; (try dsimp only); (try k_lt l3); (try k_sweep))
  k_with "M call" => ((with_reducible show wpAny _ _ (call (Value.ref 305) _) _ _ _); k_dflt (refine' c_read_bad ?u1x ?u2x ?u3x ?u4x ?u5x ?uKx ?udx ?uux ?z1 ?z2 ?z3 ?z4 ?z5 ?_; walk_at "M use"; (case u4x => walk_at "M led"); (case z1 => walk_at "M ne"); (case z2 => walk_at "M ap"); (case z3 => omega); (case z4 => omega); (case z5 => assumption)); k_whole; intro e' g₂' h' tk' F' U' R'; (try dsimp only))
  k_with "M call" => ((with_reducible show wpAny _ _ (call (Value.ref 147) _) _ _ _); k_dflt (refine' c_signs_new ?u1x ?u2x ?u3x ?u4x ?u5x ?uKx ?udx ?uux ?_; walk_at "M use"; (case u4x => k_asm)); k_whole; intro h' tk' x' d' k' t1' t2' t3' t4' F' N' l1 l2; (try dsimp only); (try k_lt l2); (try k_lt2 l1); (try k_sweep))
  k_with "M call" => ((with_reducible show wpAny _ _ (call (Value.ref 90) _) _ _ _); k_dflt (refine' c_word_new ?u1x ?u2x ?u3x ?u4x ?u5x ?uKx ?udx ?uux ?z1 ?_; walk_at "M use"; (case u4x => k_asm); (case z1 => assumption)); k_whole; intro h' tk' x' d' k' F' N' l1 l2; (try dsimp only); (try k_lt l2); (try k_lt2 l1); (try k_sweep))
  k_with "M kendW" => (refine' ksw_end (⟨_, _, _, _, _, _, _, _, _⟩ : WSt) (by assumption) (by exact news_w (by assumption)) (fun p hp => hp) trivial (by kst_all) (by ksw_same) ?_ ?_; all_goals (try dsimp only))
  k_with "compareOp Eq ref ref" => (k_here; (with_reducible show wpAny _ _ (compareOp CmpOp.Eq (Value.ref _) (Value.ref _)) _ _ _); k_dflt (first | refine eq_nil0 (News.isList (by k_asm) (by walk_at "M mem")) (News.isList (by k_asm) (by walk_at "M mem")) (by ktr_units) ?_ | refine eq_nilS (News.isList (by k_asm) (by walk_at "M mem")) (News.isList (by k_asm) (by walk_at "M mem")) (by ktr_units) ?_))
  k_with "subscriptTail" => (k_here; (with_reducible show wpAny _ _ (subscriptTail _ _ (Value.ref _) (Value.int (-1) _)) _ _ _); k_dflt (refine sub_last (News.isList (by k_asm) (by walk_at "M mem")) ?_))
  k_with "exec While BoolOp cons nil" => (
    rename Fr _ _ _ _ => lF'
    rename News _ _ _ _ => lN'
    rename_i lA _ llA _ _
    with_unfolding_all refine' ksw_while (σ := WSt) (fun c => (lA, W.listOf c.vs.toArray c.n) :: (d', SGo k' T c.pos t1' c.t2 c.t3 c.t4) :: (x', instObj 147 d') :: (c.own ++ news)) (fun c => [(Str.ofString "is_first", .bool c.first)]) (fun _ => True) [Str.ofString "line", Str.ofString "column", Str.ofString "kind", Str.ofString "name", Str.ofString "value"] (WInv T news lA d' rows r) (fun c => c.suf.length) ⟨[], 0, 0, true, [], rows, t2', t3', t4'⟩ lF' lN' trivial ?kk ?kp ?_
    (case kk => kst_all)
    (case kp => exact ⟨[], rfl, .nil, apart_of llA.2.2, (fun q hq => Nat.ne_of_lt (l2 q hq)), Nat.zero_le _, .inr ⟨hl, endlast_nil, Nat.le_refl _⟩⟩)
    clear lF' lN'
    intro c u h tk hf hP kFr kNews
    obtain ⟨vs, n, pos, first, own, suf, v2, v3, v4⟩ := c
    (try dsimp only [kstB] at kFr); (try dsimp only at hP); (try dsimp only at kNews); (try dsimp only)
    refine byC fun hn9 => ?_
    obtain ⟨pre, hpre, hw, hlA, hdA, hpos, hst⟩ := hP
    dsimp only at hpre hlA hdA hpos hst hw
    obtain ⟨b0, hb0⟩ : ∃ b0 : Bool, (b0 = false ∧ suf = [] ∧ r = none ∧ EndLast pre) ∨ (b0 = true ∧ LexR T pos first suf r ∧ ¬ EndLast pre ∧ vs.length ≤ pos) := (by
      rcases hst with ⟨q1, q2, q3⟩ | ⟨q1, q2, q3⟩
      · exact ⟨false, .inl ⟨rfl, q1, q2, q3⟩⟩
      · exact ⟨true, .inr ⟨rfl, q1, q2, q3⟩⟩)
    clear hst
    refine hn9 ?_
    clear hn9
    (try k_fold)
    refine' cond_w (b0 := b0) kFr kNews ?cc ?cb
    (case' cb => (
      intro h' tk' kFr kNews
      rcases hb0 with ⟨rfl, hs1, hs2, hs3⟩ | ⟨rfl, hlex, hne, hlen⟩
      rotate_left
      (rcases (hlex.nxt (c := ⟨vs, n, pos, first, own, suf, v2, v3, v4⟩) rfl rfl rfl) with ⟨hbad, hr⟩ | ⟨kd, tt, dv, j, suf', hwr, hsuf, hkd⟩)
      (dsimp only at hbad hr; have hsk := skipEnd_le hpos)
      rotate_left
      (dsimp only at hwr hsuf hkd; have hsk := skipEnd_le hpos; have hsk2 := hwr.le hsk)
      rotate_left))
    (case' cc => (
      rcases hw with _ | ⟨hw1, hw2⟩
      rotate_left
      (refine byC fun hn9 => ?_
       obtain ⟨wd, pe, kw, w1, w2, w3, w4, wv, w5, w6, wm1, wm2, wm3, wm4⟩ := hw2
       refine hn9 ?_
       clear hn9
       replace kNews := news_pre (l' := [(_, _), (_, _)]) kNews (List.forall_mem_cons.mpr ⟨List.mem_cons_of_mem _ (List.mem_cons_of_mem _ (List.mem_cons_of_mem _ (List.mem_append_left _ wm1))), List.forall_mem_cons.mpr ⟨List.mem_cons_of_mem _ (List.mem_cons_of_mem _ (List.mem_cons_of_mem _ (List.mem_append_left _ wm2))), List.forall_mem_nil _⟩⟩); (try simp only [List.cons_append, List.nil_append] at kNews))
      rotate_left)))
  k_steps
  · rcases hb0 with ⟨_, _, _, q⟩ | ⟨q, _⟩
    · exact absurd q endlast_nil
    · exact q.symm
  · assumption
  · walk_at "M kN"
  · rename ((_ != _) = true) => hke
    rcases hb0 with ⟨_, _, _, q⟩ | ⟨q, _⟩
    · rw [endlast_snoc.mp q] at hke; simp at hke
    · exact q.symm
  · assumption
  · walk_at "M kN"
  · rename ((_ != _) = false) => hke
    rcases hb0 with ⟨q, _⟩ | ⟨_, _, q, _⟩
    · exact q.symm
    · exact absurd (endlast_snoc.mpr (by simpa using hke)) q
  · assumption
  · walk_at "M kN"
  · have hq : pre = rows := by rw [← hpre, hs1, List.append_nil]
    exact hret hs2 _ _ _ _ _ own (by assumption) (by walk_at "M kN") (hq ▸ hw) hlA
  · exact hraise _ hr _ _ _ _ (by assumption) (by assumption) (ErrAt.sub (by assumption) fun q hq => .tail _ (.tail _ (List.mem_append_right _ hq)))
  · exact hraise _ hr _ _ _ _ (by assumption) (by assumption) (ErrAt.sub (by assumption) fun q hq => .tail _ (.tail _ (List.mem_append_right _ hq)))
  · rename ((lc _ _).1 > (lc _ _).1) => hgt
    rename (_ < _ ∧ _ < _ ∧ _ < _ ∧ _ < _ ∧ _ < _ ∧ AllLt _ _) => f1
    rename (_ < _ ∧ _ < _ ∧ _ < _ ∧ _ < _ ∧ _ < _ ∧ _ < _ ∧ AllLt _ _) => f2
    walk_at "M kendW"
    · exact suf'
    · refine winv_next hpre hw hlA hdA hlen hpos hsuf hkd hsk2 (by assumption) ?_ ?_ ?_ ?_ ?_
      · rw [decide_eq_true hgt]; rfl
      · exact f1.2.2.2.2.1
      · exact f1.1
      · exact f2.1
      · assumption
    · exact suf_lt hsuf
  · rename (¬ ((lc _ _).1 > (lc _ _).1)) => hgt
    rename (_ < _ ∧ _ < _ ∧ _ < _ ∧ _ < _ ∧ _ < _ ∧ AllLt _ _) => f1
    rename (_ < _ ∧ _ < _ ∧ _ < _ ∧ _ < _ ∧ _ < _ ∧ _ < _ ∧ AllLt _ _) => f2
    walk_at "M kendW"
    · exact suf'
    · refine winv_next hpre hw hlA hdA hlen hpos hsuf hkd hsk2 (by assumption) ?_ ?_ ?_ ?_ ?_
      · rw [decide_eq_false hgt]; rfl
      · exact f1.2.2.2.2.1
      · exact f1.1
      · exact f2.1
      · assumption
    · exact suf_lt hsuf
end
theorem c_words_none {w : World} {dp un : Nat} {gd : Option (List Code)} {cn : Str} {cs : Scope} {a : Addr} {ccd : Value} {cl : List (Str × Addr)} {outer : List Env} {A₀ : Around} {base h₀ : Heap} {L : Addr} {m : Str → Option Value} {s : Shared} {mean : ExcName → Option Value} {mg mb : Str → Option Value} {Q E : Value → Shared → Prop} {news : List (Addr × Obj)} {T : List Nat} {rows : List Row} {tk : Tok}
  (B : Below A₀ base outer h₀) (F : Fr h₀ L s.heap m) (X : (Mine.hd.heap_1 w.params).In h₀) (N : News h₀ L s.heap (news)) (TT : Top Mine.hd.view_1 lz mean mg mb h₀) (hk : cs.kind = .function) (hd : dp + 8 < recursionLimit) (hu : un + 8 * 8 < cLine)
  (hT : T.length ≤ 9000) (hb : 123 ∉ T) (hl : LexR T 0 true rows none)
  (hret : ∀ h' tk' l vs n own, Fr h₀ L h' m → News h₀ L h' ((l, W.listOf vs n) :: (own ++ news)) → WordsIn own vs.toList rows → (∀ q ∈ own ++ news, q.1 ≠ l) → Q (.ref l) { s with heap := h', toks := tk' }) :
  wpAny (model PySem.Challenge.rw_sy0021_01.row.prog w) (ktrTop dp un gd cn cs L a ccd cl outer) (call (.ref 312) [.str (tx T) tk]) Q E s :=
  c_words_of B F X N TT hk hd hu hT hb hl (fun _ => hret) (fun p h => absurd h.symm (Option.some_ne_none p))
theorem c_words_some {w : World} {dp un : Nat} {gd : Option (List Code)} {cn : Str} {cs : Scope} {a : Addr} {ccd : Value} {cl : List (Str × Addr)} {outer : List Env} {A₀ : Around} {base h₀ : Heap} {L : Addr} {m : Str → Option Value} {s : Shared} {mean : ExcName → Option Value} {mg mb : Str → Option Value} {Q E : Value → Shared → Prop} {news : List (Addr × Obj)} {T : List Nat} {rows : List Row} {p : Nat} {tk : Tok}
  (B : Below A₀ base outer h₀) (F : Fr h₀ L s.heap m) (X : (Mine.hd.heap_1 w.params).In h₀) (N : News h₀ L s.heap (news)) (TT : Top Mine.hd.view_1 lz mean mg mb h₀) (hk : cs.kind = .function) (hd : dp + 8 < recursionLimit) (hu : un + 8 * 8 < cLine)
  (hT : T.length ≤ 9000) (hb : 123 ∉ T) (hl : LexR T 0 true rows (some p))
  (hraise : ∀ e g₂ h' tk', Fr h₀ L g₂ m → g₂.UpToSlots h' → ErrAt base g₂ (envX cn cs L a ccd cl :: outer) e T p news h' → E (.ref e) { s with heap := h', toks := tk' }) :
  wpAny (model PySem.Challenge.rw_sy0021_01.row.prog w) (ktrTop dp un gd cn cs L a ccd cl outer) (call (.ref 312) [.str (tx T) tk]) Q E s :=
  c_words_of B F X N TT hk hd hu hT hb hl (fun h => absurd h (Option.some_ne_none p)) (fun q h => by cases h; exact hraise)
end

-- 65xcaught
section
theorem DictIs.keeps {e dx : Addr} {h h' : Heap} (d : DictIs e dx h) (k : ∀ b o, h.get? b = some o → h'.get? b = some o) : DictIs e dx h' := let ⟨o, e1, e2⟩ := d; ⟨o, k _ _ e1, e2⟩
section
variable {prog : Program} {w : World} {A₀ : Around} {E : Value → Shared → Prop} {s' : Shared} {base g G : Heap} {outer : List Env} {L a e : Addr} {m : Str → Option Value} {name : Str} {scope : Scope} {cd : Value}
  {n : Str} {b₀ : Stmt} {suite : List Stmt} {pos : Pos} {rest : List ExceptHandler} {Q : Flow → Shared → Prop} {news : List (Addr × Obj)} {KF : Frag} {tt : Expr}
  {p : Program} {loose : List Str} {mean : ExcName → Option Value} {mg mb : Str → Option Value} {T : List Nat} {i : Nat}
/-- a WordError is caught under a name -/
theorem caught52 (R : ErrAt base G (envOf name scope L a cd :: outer) e T i news s'.heap) (F : Fr g L G m) (K : Below A₀ base outer g) (hsm : G.UpToSlots s'.heap) (XB : KF.In base) (TB : Top p loose mean mg mb base)
    (D : KtsDicts (outer.filterMap (·.frame)) g) (Tt : KtsTest prog w KF p loose mg mb name scope L a cd (.ref 52) tt true)
    (k : ∀ h' g' tk oe dx pl u3 u4 h1 h2 k1 k2 msg ws, KtsTurn (outer.filterMap (·.frame)) g g' → Fr g' L h' (fun y => if y = n then some (.ref e) else m y) → News g' L h' ((e, oe) :: (dx, excM h1 h2 k1 k2 msg (.ref pl)) :: (pl, plc T i u3 u4) :: news) → oe.cls = .ref 52 → oe.dict = some dx → oe.data = .fields ws →
      Below A₀ base outer g' → KF.In g' → Top p loose mean mg mb g' → KtsDicts (outer.filterMap (·.frame)) g' →
      wpAny (model prog w) ((A₀.deeper (envOf name scope L a cd)).mark (some (.ref e))) (execs (b₀ :: suite) (envOf name scope L a cd))
        (fun f s₄ => wpAny (model prog w) (A₀.deeper (envOf name scope L a cd)) (do bindName (envOf name scope L a cd) n .none; unbindBehindTheSuite (envOf name scope L a cd) n pos) (fun _ s₅ => Q f s₅) E s₄)
        (AsSuiteRaised (model prog w) ((A₀.deeper (envOf name scope L a cd)).mark (some (.ref e))) (envOf name scope L a cd) n pos (notedBy (model prog w) ((A₀.deeper (envOf name scope L a cd)).mark (some (.ref e))) (envOf name scope L a cd) (cameBackBy (model prog w) (A₀.deeper (envOf name scope L a cd)) (envOf name scope L a cd) E)))
        { s' with heap := h', toks := tk })
    (hk : scope.kind = .function := by rfl) (hlo : (envOf name scope L a cd).kindOf n = some .local := by rfl) :
    wpAny (model prog w) (A₀.deeper (envOf name scope L a cd)) (noteFrame (.ref e) (envOf name scope L a cd))
      (fun _ s₂ => wpAny (model prog w) (A₀.deeper (envOf name scope L a cd)) (setFlight (.ref e) none) (fun _ s₃ =>
        wpAny (model prog w) (A₀.deeper (envOf name scope L a cd)) (handleBy (.ref e) (envOf name scope L a cd) (.ExceptHandler (some tt) (some n) (b₀ :: suite) pos :: rest)) Q E s₃) E s₂) E s' := by
  refine byC fun hn9 => ?_
  obtain ⟨dx, pl, u3, u4, h1, h2, k1, k2, msg, B, a0, hB, hBG, hl, hfl, d0⟩ := R
  refine hn9 ?_
  clear hn9
  refine wpAny_mono (calm_any (calm_noteFrame _ _) d0 (wpAny_looks_onW (Q := fun _ s₂ => ∃ h₄, s₂ = { s' with heap := h₄ } ∧ Heap.HeldW B (envOf name scope L a cd :: outer) e (.ref 52) a0 L h₄ ∧ s'.heap.UpToSlots h₄) (Around.frames_deeper K.stack) rfl hfl fun h₄ x1 x2 => ⟨h₄, rfl, x1, x2⟩)) (fun _ s₂ x => ?_) fun _ _ x => x.1
  refine byC fun hn9 => ?_
  obtain ⟨⟨h₄, rfl, hheld₄, hsm₄⟩, d1⟩ := x
  refine hn9 ?_
  clear hn9
  refine wpAny_mono (calm_any (calm_setFlight _ _) d1 (wpAny_landsW (Q := fun _ s₂ => ∃ h₅, s₂ = { s' with heap := h₅ } ∧ Heap.FlyingW B (envOf name scope L a cd :: outer) e (.ref 52) a0 h₅ ∧ h₄.UpToSlots h₅) hheld₄ fun h₅ x1 x2 => ⟨h₅, rfl, x1, x2⟩)) (fun _ s₂ x => ?_) fun _ _ x => x.1
  refine byC fun hn9 => ?_
  obtain ⟨⟨h₅, rfl, hfl₅, hsm₅⟩, d2⟩ := x
  refine hn9 ?_
  clear hn9
  have hsm₅' : G.UpToSlots h₅ := hsm.trans (hsm₄.trans hsm₅)
  obtain ⟨g₅, T₅, F₅, K₅⟩ := kts_ground K F hBG hfl₅.1 hsm₅'
  have ty : Looks (model prog w) h₅ (typeOf (.ref e)) (.ref 52) := by
    obtain ⟨ob, hob, hc⟩ := hfl₅.there
    have := (Looks.ld (M := model prog w) (part := some headPart) hob).andThen (f := fun o => pure o.cls) (.now)
    rw [hc] at this
    exact this
  refine wpAny_handleBy_cons (codeAny_handlers_test (Tt _ _ _ _ g₅ e m F₅ (XB.keeps K₅.stays) (topRead_of (TB.keeps K₅.stays)) ty fun h₆ kp => ?_)) (by intro q; cases q)
  have hsm₆ : G.UpToSlots h₆ := hsm₅'.trans (Heap.UpToSlots.of_keeps kp)
  have hfl₆ := flying_keeps hfl₅ kp
  have d3 := d2.keeps kp
  have hL : B.get? L = none := by
    obtain ⟨_, ⟨L', _, hf, hn', _⟩, _⟩ := hfl₆.2.2.1
    obtain rfl : L = L' := Option.some.inj hf
    exact hn'
  refine codeAny_handlers_suite_as ?_
  refine wpAny_mono (calm_any (calm_setFlight _ _) d3 (lands_againW (Q := fun _ s₂ => ∃ h₇, s₂ = { s' with heap := h₇ } ∧ Heap.FlyingW B (envOf name scope L a cd :: outer) e (.ref 52) a0 h₇ ∧ h₆.UpToSlots h₇) hfl₆ fun h₇ x1 x2 => ⟨h₇, rfl, x1, x2⟩)) (fun _ s₂ x => ?_) fun _ _ x => x.1
  refine byC fun hn9 => ?_
  obtain ⟨⟨h₇, rfl, hfl₇, hsm₇'⟩, d4⟩ := x
  refine hn9 ?_
  clear hn9
  have hsm₇ : G.UpToSlots h₇ := hsm₆.trans hsm₇'
  refine byC fun hn9 => ?_
  obtain ⟨g₇, T₇, F₇, K₇⟩ := kts_ground K F hBG hfl₇.1 hsm₇
  refine hn9 ?_
  clear hn9
  refine byC fun hn9 => ?_
  obtain ⟨oe, ws, hoe, hoec, hoed, hoe0⟩ := hfl₇.first
  refine hn9 ?_
  clear hn9
  obtain ⟨oe', hoe', hdx⟩ := d4
  rw [hoe] at hoe'
  cases hoe'
  have ne₇ : g₇.get? e = none := T₇.none_ _ (kts_fresh F hBG hfl₇.2.1 fun o ho mm => by
    obtain ⟨_, o', ho', hd⟩ := K.frames.mem mm
    rw [ho] at ho'
    cases ho'
    obtain ⟨sl, hs⟩ := hsm₇ _ _ (F.keep _ _ ho) hd
    rw [hoe] at hs
    cases hs
    exact hd _ hoed)
  have Nl : News g₇ L h₇ ((dx, excM h1 h2 k1 k2 msg (.ref pl)) :: (pl, plc T i u3 u4) :: news) := fun q hq => ⟨hfl₇.1 _ _ (hl q hq).1, (fun z => by have := (hl q hq).1; rw [z, hL] at this; cases this), T₇.none_ _ (kts_none F.keep (hl q hq).2.1)⟩
  have N₇ := News.more F₇ Nl hoe (fun es n q => by rw [hoed] at q; cases q) ne₇
  refine stN F₇ N₇ (fun h₈ F₈ N₈ => ?_) hk hlo
  exact k h₈ g₇ _ oe dx pl u3 u4 h1 h2 k1 k2 msg ws T₇ F₈ N₈ hoec hdx hoed K₇ (XB.keeps K₇.stays) (TB.keeps K₇.stays) (D.turn T₇)
end
end

-- 65yplace
section
section
variable {w : World} {A : Around} {E : Value → Shared → Prop} {s : Shared} {e : Addr} {oe : Obj} {h1 h2 : Int} {k1 k2 : Tok} {msg v : Value} {expr : Bool} {Q : Value → Shared → Prop}
theorem ga52 {P : Params} : findIn (Mine.hd.heap_1 P) (.ref 52) "__getattribute__" = some (some (.builtin "BaseException.__getattribute__")) := by rfl
theorem gt52 {P : Params} : findIn (Mine.hd.heap_1 P) (.ref 52) "__getattr__" = some none := by rfl
theorem pl52 {P : Params} : findObj (Mine.hd.heap_1 P) 52 (some (excM h1 h2 k1 k2 msg v)) (Str.ofString "place") = some (.value v) := by rfl
theorem fp52 {P : Params} : findIn (Mine.hd.heap_1 P) (.ref 52) (Str.ofString "place") = some none := by rfl
theorem own52 {P : Params} : ∃ cd, clsIn (Mine.hd.heap_1 P) 52 = some cd ∧ ownOf cd (some (excM h1 h2 k1 k2 msg v)) (Str.ofString "place") = some (some v) := ⟨_, by rfl, by rfl⟩
theorem get_place52 {prog : Program} (X : (Mine.hd.heap_1 w.params).In s.heap) (I : InstAt s.heap e oe 52 (some (excM h1 h2 k1 k2 msg v))) (hv : handedIn v = true) (hq : Q v { s with toks := s.toks + 1 }) :
    wpAny (model prog w) A (getAttr (.ref e) (Str.ofString "place") expr) Q E s := by
  have FB := PySem.F.attrBase_Exception
  have L0 := I.type (M := model prog w)
  have L1 := looks_findIn (M := model prog w) X ga52
  have L2 := looks_findIn (M := model prog w) X gt52
  have L3 := looks_find (M := model prog w) X I pl52
  have L4 := looks_findIn (M := model prog w) X fp52
  obtain ⟨cd, hcd, hown⟩ := own52 (P := w.params) (h1 := h1) (h2 := h2) (k1 := k1) (k2 := k2) (msg := msg) (v := v)
  have L5 := looks_own (M := model prog w) X I hcd hown
  have f3 := FB.ga.bind (.ref e)
  have hx0 : (expr && onTheHeap (Value.builtin "BaseException.__getattribute__")) = false := by cases expr <;> rfl
  have hx2 : (Value.builtin "BaseException.__getattribute__" == Value.builtin "object.__getattribute__") = false := by decide +kernel
  have hx1 : (onTheHeap (Value.ref 52) && Value.builtin "BaseException.__getattribute__" == Value.builtin "object.__getattribute__") = false := by rw [hx2]; rfl
  obtain ⟨hp, g, d, t, os⟩ := s
  unfold getAttr
  repeat (any_goals (first | assumption | with_reducible refine L0.at ?_ | with_reducible refine L1.at ?_ | with_reducible refine L2.at ?_ | with_reducible refine L3.at ?_ | wp_step))
  have hk : builtinKind "BaseException.__getattribute__" = some .slot := by decide +kernel
  have hsplit : splitId "BaseException.__getattribute__" = some ("BaseException", "__getattribute__") := by decide +kernel
  have hcB : (Value.ref 52 :: [Value.ref 39, .type "Exception", .type "BaseException", .type "object"]).contains (.type "BaseException") = true := by decide
  have hC := e52 X
  have ha := PySem.F.args_bexc_ga (.ref e) (.str (Str.ofString "place") t)
  have ho := handedOut_of hv
  have hxe := I.at_
  have hce := I.cls
  refine codeAny_call_builtin FB.ga.plain PySem.F.entry_bexc_ga ?_
  simp only [checkBuiltinCall, hk, hsplit]
  refine wpAny_bind ?_
  unfold isInstance
  repeat (first | (with_reducible refine wpAny_loadPart_at hxe ?_; rw [hce]) | (with_reducible refine wpAny_isSubtype_exc hC ?_; rw [hcB]) | wp_step)
  repeat (any_goals (first | assumption | with_reducible refine L0.at ?_ | with_reducible refine L3.at ?_ | with_reducible refine L4.at ?_ | with_reducible refine L5.at ?_ | wp_step))
end
end

-- 66told
section
noncomputable def rowD (r : Row) : Dat := .tuple [.str r.kind, .str r.text, r.val, .int (r.line : Int), .int (r.col : Int), .bool r.first, .tuple [.int (r.eline : Int), .int (r.ecol : Int)]]
/-- what _law_told tells: the rows, or the place of the spoilt word -/
noncomputable def toldD (T : List Nat) (rows : List Row) : Option Nat → Dat
  | none => .list (rows.map rowD)
  | some p => .tuple [.int ((lc T p).1 : Int), .int ((lc T p).2 : Int)]
theorem WordsIn.length {own : List (Addr × Obj)} {vs : List Value} {rows : List Row} (h : WordsIn own vs rows) : vs.length = rows.length := by
  induction h with
  | nil => rfl
  | snoc _ _ ih => simp [ih]
theorem WordsIn.get {own : List (Addr × Obj)} {vs : List Value} {rows : List Row} (h : WordsIn own vs rows) {i : Nat} {r : Row} {v : Value} (hr : rows[i]? = some r) (hv : vs[i]? = some v) : ∃ wa, v = .ref wa ∧ WordAt own wa r := by
  induction h with
  | nil => simp at hr
  | @snoc vs rows wa row hw ha ih =>
    have hl := hw.length
    by_cases hi : i < rows.length
    · rw [List.getElem?_append_left hi] at hr
      rw [List.getElem?_append_left (by omega)] at hv
      exact ih hr hv
    · have he : i = rows.length := by
        have := (List.getElem?_eq_some_iff.mp hr).1
        simp at this
        omega
      subst he
      rw [List.getElem?_append_right (Nat.le_refl _), Nat.sub_self] at hr
      rw [← hl, List.getElem?_append_right (Nat.le_refl _), Nat.sub_self] at hv
      simp at hr hv
      subst hr hv
      exact ⟨wa, rfl, ha⟩
noncomputable def CompW (h₀ : Heap) (L : Addr) (m : Str → Option Value) (s : Shared) (I : Addr) (oI : Obj) (C : Addr) (oC : Obj) (D : Addr) (ys : List Value) (led : List (Addr × Obj)) (r : Row) (y : Value) (s₂ : Shared) : Prop :=
  ∃ h' tk' led', s₂ = { s with heap := h', toks := tk' } ∧ Fr h₀ L h' m ∧ News h₀ L h' ((I, oI) :: (C, oC) :: (D, LCg.lst ys) :: led') ∧ LCg.Off3 I C D led' ∧ (∀ q ∈ led, q ∈ led') ∧ DatIn led' y (rowD r)
noncomputable abbrev tup7 (v1 v2 v3 v4 v5 v6 v7 : Value) : Obj := { cls := .type "tuple", data := .seq #[v1, v2, v3, v4, v5, v6, v7] }
theorem comp_fin {h₀ h' : Heap} {L : Addr} {m : Str → Option Value} {s : Shared} {tk' : Nat} {I C D p wa wd pe : Addr} {oI oC o1 o2 : Obj} {ys : List Value} {led : List (Addr × Obj)} {r : Row} {w1 w2 w3 w4 w5 w6 : Tok} {wv : Value} (F : Fr h₀ L h' m)
    (N : News h₀ L h' ((p, tup7 (.str r.kind w1) (.str r.text w2) wv (.int (r.line : Int) w3) (.int (r.col : Int) w4) (.bool r.first) (.ref pe)) :: (wa, o1) :: (wd, o2) :: (I, oI) :: (C, oC) :: (D, LCg.lst ys) :: led))
    (l : wa < p ∧ wd < p ∧ I < p ∧ C < p ∧ D < p ∧ AllLt p led) (off : LCg.Off3 I C D led) (wm3 : (pe, tup2 (.int (r.eline : Int) w5) (.int (r.ecol : Int) w6)) ∈ led) (wm4 : DatIn [] wv r.val) :
    CompW h₀ L m s I oI C oC D ys led r (.ref p) { s with heap := h', toks := tk' } := by
  refine ⟨h', tk', (p, tup7 (.str r.kind w1) (.str r.text w2) wv (.int (r.line : Int) w3) (.int (r.col : Int) w4) (.bool r.first) (.ref pe)) :: led, rfl, F, ?_, ⟨⟨Nat.ne_of_gt l.2.2.1, Nat.ne_of_gt l.2.2.2.1, Nat.ne_of_gt l.2.2.2.2.1⟩, off⟩, fun _ h => .tail _ h, ?_⟩
  · intro z hz
    refine N z ?_
    simp only [List.mem_cons] at hz ⊢
    rcases hz with h | h | h | h | h <;> simp [h]
  · exact .tuple (vs := [_, _, _, _, _, _, _]) (n := 0) (.head _) (.cons (.str _ _) (.cons (.str _ _) (.cons (wm4.mono fun _ h => absurd h List.not_mem_nil) (.cons (.int _ _) (.cons (.int _ _) (.cons (.bool _) (.cons (.tuple (vs := [_, _]) (n := 0) (.tail _ wm3) (.cons (.int _ _) (.cons (.int _ _) .nil))) .nil)))))))
theorem comp_rows {prog : Program} {w : World} {A : Around} {h₀ : Heap} {L : Addr} {m : Str → Option Value} {env : Env} {elt : Expr} {x : Str} {scope : Scope} {cl : List (Str × Addr)} {s : Shared} {its : Array Value} {ax : Addr} {n : Nat} {Fin : List Value → List (Addr × Obj) → Prop} (rows : List Row) (Led : List (Addr × Obj)) (hax : (ax, W.listOf its n) ∈ Led)
    (step : ∀ (i : Nat) r ys led v I oI C oC D m₂ h tk (E' : Value → Shared → Prop), rows[i]? = some r → (∀ q ∈ Led, q ∈ led) → its[i]? = some v → LCg.NsObj oC m₂ → m₂ x = some v → Fr h₀ L h m → News h₀ L h ((I, oI) :: (C, oC) :: (D, LCg.lst ys) :: led) → LCg.Off3 I C D led → ((@Ne Nat I C) ∧ (@Ne Nat I D) ∧ (@Ne Nat C D)) →
      wpAny (model prog w) A (eval elt (compEnvC scope cl C env)) (CompW h₀ L m { s with heap := h, toks := tk } I oI C oC D ys led r) E' { s with heap := h, toks := tk })
    (fin : ∀ ys led, (∀ q ∈ Led, q ∈ led) → DatAll led ys (rows.map rowD) → Fin ys led) :
    LCg.CompRest prog w A h₀ L m env elt x scope cl s (LCg.SrcAt h₀ ax its) (fun i v => its[i]? = some v) Fin rows.length 0 [] Led := by
  have gen : ∀ (todo done : List Row) ys led, rows = done ++ todo → (∀ q ∈ Led, q ∈ led) → DatAll led ys (done.map rowD) →
      LCg.CompRest prog w A h₀ L m env elt x scope cl s (LCg.SrcAt h₀ ax its) (fun i v => its[i]? = some v) Fin todo.length done.length ys led := by
    intro todo
    induction todo with
    | nil =>
      intro done ys led e hs hd
      rw [List.append_nil] at e
      subst e
      exact LCg.CompRest.zero (fin ys led hs hd)
    | cons r todo ih =>
      intro done ys led e hs hd
      refine LCg.CompRest.succ ?_
      intro v I oI C oC D m₂ h tk E' hP hns hx F N off ne
      refine wpAny_mono (step done.length r ys led v I oI C oC D m₂ h tk E' (by rw [e, List.getElem?_append_right (Nat.le_refl _), Nat.sub_self]; rfl) hs hP hns hx F N off ne) (fun y s₂ p => ?_) fun _ _ e => e
      obtain ⟨h', tk', led', rfl, F', N', off', hs', hD⟩ := p
      refine ⟨h', tk', led', rfl, F', N', off', .inr ⟨_, hs' _ (hs _ hax), rfl, _, rfl⟩, ?_⟩
      have := ih (done ++ [r]) (ys ++ [y]) led' (by rw [e]; simp) (fun q hq => hs' q (hs q hq)) (by rw [List.map_append]; exact (hd.mono hs').append (.one hD))
      rw [List.length_append] at this
      exact this
  exact gen rows [] [] Led rfl (fun _ h => h) .nil
section
theorem c_told_some {w : World} {dp un : Nat} {gd : Option (List Code)} {cn : Str} {cs : Scope} {a : Addr} {ccd : Value} {A₀ : Around} {base h₀ : Heap} {L : Addr} {m : Str → Option Value} {s : Shared} {mean : ExcName → Option Value} {mg mb : Str → Option Value} {Q E : Value → Shared → Prop} {news : List (Addr × Obj)} {T : List Nat} {rows : List Row} {p : Nat} {tk : Tok}
  (B : Below A₀ base [] h₀) (F : Fr h₀ L s.heap m) (X : (Mine.hd.heap_1 w.params).In h₀) (N : News h₀ L s.heap (news)) (TT : Top Mine.hd.view_1 lz mean mg mb h₀) (hk : cs.kind = .function) (hd : dp + 9 < recursionLimit) (hu : un + 8 * 9 < cLine) (XB : (Mine.hd.heap_1 w.params).In base) (TB : Top Mine.hd.view_1 lz mean mg mb base)
  (hT : T.length ≤ 9000) (hb : 123 ∉ T) (hl : LexR T 0 true rows (some p))
  (hret : ∀ h' tk' pl u3 u4, Fr h₀ L h' m → News h₀ L h' ((pl, plc T p u3 u4) :: news) → Q (.ref pl) { s with heap := h', toks := tk' }) :
  wpAny (model PySem.Challenge.rw_sy0021_01.row.prog w) (ktrTop dp un gd cn cs L a ccd [] []) (call (.ref 373) [.str (tx T) tk]) Q E s := by
  have hfill : (Mine.hd.heap_1 = Mine.hd.heap_1 ∧ PySem.Challenge.rw_sy0021_01 = PySem.Challenge.rw_sy0021_01) := by k_fill; exact ⟨rfl, rfl⟩
  clear hfill
  refine wpAny_call ?_
  k_dflt (refine' code_defS0 ?k1 ?k2 ?k3 ?k4 ?k5 ?kA ?k6 ?k7 ?k8 ?k9 ?kB ?_ ?cK ?c2 ?c3 ?c4 ?c5; (case kA => exact rfl); (case k2 => k_asm); (case k1 => k_asm); (case k3 => k_asm); (case k4 => k_asm); (case k5 => k_asm); (case k6 => k_is); (case k7 => k_is); (case k8 => first | exact rm0 (by assumption) | ktr_room); (case k9 => first | exact BindsTo.of_eq rfl | exact binds_K (by k_in) rfl (by k_is) rfl rfl rfl); (case kB => exact locs rfl); (case cK => assumption); (case c2 => exact rfl); (case c3 => exact rfl); (case c4 => exact rfl); (case c5 => decide); k_whole; intro g' L' h' FG' F' N' B' X' T' D'; (try dsimp only); (try k_lift B'); (try k_fold))
  k_with_none
  k_with "M use" => ((case u1x => k_asm); (case u2x => k_asm); (case u3x => k_asm); (case u5x => k_asm); (case uKx => first | assumption | exact rfl); (case udx => first | exact rmA (by assumption) (by decide) | ktr_room); (case uux => first | exact umA (by assumption) (by decide) | ktr_units))
  k_with "M in" => (first | with_reducible assumption | exact Frag.In.keeps (by with_reducible assumption) (Fr.keep (by with_reducible assumption)))
  k_with "call ref" => (k_here; k_extra "M call")
  k_with "call ref" => (k_here; with_reducible first | refine call_app0 ?_ | refine call_app1 ?_ | refine call_app2 ?_)
  k_with "M kN" => (first | assumption | exact news_tl1 (by assumption) | exact news_tl2 (by assumption) | exact news_tl3 (by assumption) | exact news_tl4 (by assumption) | exact news_dr1 (by assumption) | exact news_dr2 (by assumption) | exact news_dr3 (by assumption))
  k_with "eval Call" => (k_here; k_dflt (refine Call_ ?_))
  k_with "M all" => (first | assumption | exact apart_of (by first | assumption | exact And.right (by assumption) | exact And.right (And.right (by assumption)) | exact And.right (And.right (And.right (by assumption))) | exact And.right (And.right (And.right (And.right (by assumption))))))
  k_with "M mem" => (repeat (first | exact List.mem_cons_self | assumption | refine List.mem_cons_of_mem _ ?_))
  k_with "M sub" => (intro q hq; repeat (first | assumption | refine List.mem_cons_of_mem _ ?_))
  k_with "M kN" => (first | assumption | (refine news_sub (by assumption) ?_; (repeat refine List.forall_mem_cons.mpr (And.intro (by walk_at "M mem") ?_)); walk_at "M sub"))
  k_with "M call" => ((with_reducible show wpAny _ _ (call (Value.ref 312) _) _ _ _); k_dflt (refine' c_words_none ?u1x ?u2x ?u3x ?u4x ?u5x ?uKx ?udx ?uux ?z1 ?z2 ?z3 ?_; walk_at "M use"; (case u4x => k_asm); (case z1 => omega); (case z2 => assumption); (case z3 => assumption)); k_whole; intro h' tk' l' vs' n' own' F' N' I' A'; (try dsimp only); (try k_sweep))
  k_with "M call" => ((with_reducible show wpAny _ _ (call (Value.ref 312) _) _ _ _); k_dflt (refine' c_words_some ?u1x ?u2x ?u3x ?u4x ?u5x ?uKx ?udx ?uux ?z1 ?z2 ?z3 ?_; walk_at "M use"; (case u4x => k_asm); (case z1 => omega); (case z2 => assumption); (case z3 => assumption)); k_whole; intro e' g₂' h' tk' F' U' R'; (try dsimp only))
  k_with "eval ListComp" => (k_here; k_dflt (refine LCg.ListComp_U (F₀ := by k_asm) (by with_unfolding_all rfl) (by decide) (by rfl) (by decide) (by rfl) ?_))
  k_with "noteFrame ref" => (k_here; k_extra "M caught")
  k_with "getAttr ref" => (k_here; k_extra "M get52")
  k_with "bind" => (k_here; k_dflt (refine name_goes (by k_asm) (by k_asm) ?_); intro h' m' F' N')
  k_with "M caught" => (
    k_dflt (refine' caught52 ?R ?F ?K ?U ?XB ?TB ?D ?T ?_; (case R => assumption); (case U => assumption); (case F => assumption); (case K => assumption); (case XB => assumption); (case TB => assumption); (case D => assumption); (case T => refine test_name (.inl (by k_is)) (by rfl) rfl rfl (by decide)))
    intro hK gK tkK oeK dxK plK u3K u4K h1K h2K k1K k2K msgK wsK TK FK NK hcK hdxK hdatK BK XK TTK DK
    (try dsimp only)
    (try k_fold))
  k_with "M get52" => (k_dflt (refine get_place52 (by k_in) ⟨(NK _ (.head _)).1, hcK, by unfold notCls; rw [hdatK], by rw [hdxK]; exact (NK _ (.tail _ (.head _))).1⟩ rfl ?_))
  k_steps
  exact hret _ _ _ _ _ (by assumption) (by walk_at "M kN")
theorem c_told_none {w : World} {dp un : Nat} {gd : Option (List Code)} {cn : Str} {cs : Scope} {a : Addr} {ccd : Value} {A₀ : Around} {base h₀ : Heap} {L : Addr} {m : Str → Option Value} {s : Shared} {mean : ExcName → Option Value} {mg mb : Str → Option Value} {Q E : Value → Shared → Prop} {news : List (Addr × Obj)} {T : List Nat} {rows : List Row} {tk : Tok}
  (B : Below A₀ base [] h₀) (F : Fr h₀ L s.heap m) (X : (Mine.hd.heap_1 w.params).In h₀) (N : News h₀ L s.heap (news)) (TT : Top Mine.hd.view_1 lz mean mg mb h₀) (hk : cs.kind = .function) (hd : dp + 9 < recursionLimit) (hu : un + 8 * 9 < cLine) (XB : (Mine.hd.heap_1 w.params).In base) (TB : Top Mine.hd.view_1 lz mean mg mb base)
  (hT : T.length ≤ 9000) (hb : 123 ∉ T) (hl : LexR T 0 true rows none)
  (hret : ∀ h' tk' v own, Fr h₀ L h' m → News h₀ L h' (own ++ news) → DatIn own v (.list (rows.map rowD)) → Q v { s with heap := h', toks := tk' }) :
  wpAny (model PySem.Challenge.rw_sy0021_01.row.prog w) (ktrTop dp un gd cn cs L a ccd [] []) (call (.ref 373) [.str (tx T) tk]) Q E s := by
  have hfill : (Mine.hd.heap_1 = Mine.hd.heap_1 ∧ PySem.Challenge.rw_sy0021_01 = PySem.Challenge.rw_sy0021_01) := by k_fill; exact ⟨rfl, rfl⟩
  clear hfill
  refine wpAny_call ?_
  k_dflt (refine' code_defS0 ?k1 ?k2 ?k3 ?k4 ?k5 ?kA ?k6 ?k7 ?k8 ?k9 ?kB ?_ ?cK ?c2 ?c3 ?c4 ?c5; (case kA => exact rfl); (case k2 => k_asm); (case k1 => k_asm); (case k3 => k_asm); (case k4 => k_asm); (case k5 => k_asm); (case k6 => k_is); (case k7 => k_is); (case k8 => first | exact rm0 (by assumption) | ktr_room); (case k9 => first | exact BindsTo.of_eq rfl | exact binds_K (by k_in) rfl (by k_is) rfl rfl rfl); (case kB => exact locs rfl); (case cK => assumption); (case c2 => exact rfl); (case c3 => exact rfl); (case c4 => exact rfl); (case c5 => decide); k_whole; intro g' L' h' FG' F' N' B' X' T' D'; (try dsimp only); (try k_lift B'); (try k_fold))
  k_with_none
  k_with "M use" => ((case u1x => k_asm); (case u2x => k_asm); (case u3x => k_asm); (case u5x => k_asm); (case uKx => first | assumption | exact rfl); (case udx => first | exact rmA (by assumption) (by decide) | ktr_room); (case uux => first | exact umA (by assumption) (by decide) | ktr_units))
  k_with "M in" => (first | with_reducible assumption | exact Frag.In.keeps (by with_reducible assumption) (Fr.keep (by with_reducible assumption)))
  k_with "call ref" => (k_here; k_extra "M call")
  k_with "call ref" => (k_here; with_reducible first | refine call_app0 ?_ | refine call_app1 ?_ | refine call_app2 ?_)
  k_with "eval Call" => (k_here; k_dflt (refine Call_ ?_))
  k_with "M all" => (first | assumption | exact apart_of (by first | assumption | exact And.right (by assumption) | exact And.right (And.right (by assumption)) | exact And.right (And.right (And.right (by assumption))) | exact And.right (And.right (And.right (And.right (by assumption))))))
  k_with "M call" => ((with_reducible show wpAny _ _ (call (Value.ref 312) _) _ _ _); k_dflt (refine' c_words_none ?u1x ?u2x ?u3x ?u4x ?u5x ?uKx ?udx ?uux ?z1 ?z2 ?z3 ?_; walk_at "M use"; (case u4x => k_asm); (case z1 => omega); (case z2 => assumption); (case z3 => assumption)); k_whole; intro h' tk' l' vs' n' own' F' N' I' A'; (try dsimp only); (try k_sweep))
  k_with "M call" => ((with_reducible show wpAny _ _ (call (Value.ref 312) _) _ _ _); k_dflt (refine' c_words_some ?u1x ?u2x ?u3x ?u4x ?u5x ?uKx ?udx ?uux ?z1 ?z2 ?z3 ?_; walk_at "M use"; (case u4x => k_asm); (case z1 => omega); (case z2 => assumption); (case z3 => assumption)); k_whole; intro e' g₂' h' tk' F' U' R'; (try dsimp only))
  k_with "eval ListComp" => (k_here; k_dflt (refine LCg.ListComp_U (F₀ := by k_asm) (by with_unfolding_all rfl) (by decide) (by rfl) (by decide) (by rfl) ?_))
  k_with "noteFrame ref" => (k_here; k_extra "M caught")
  k_with "getAttr ref" => (k_here; k_extra "M get52")
  k_with "bind" => (k_here; k_dflt (refine name_goes (by k_asm) (by k_asm) ?_); intro h' m' F' N')
  k_steps
  rename WordsIn _ _ _ => hWs
  rename News _ _ _ ((_, W.listOf _ _) :: _) => nL
  have hlen := hWs.length
  rw [Array.length_toList] at hlen
  have hrl := hl.len (Nat.zero_le _)
  refine LCg.CompSrc.ledger (by rfl) (by assumption) nL (.head _) (by rw [hlen]; exact Nat.le_trans hrl (by rw [sizeLine_eq]; omega)) fun g => ?_
  rw [hlen]
  refine comp_rows rows _ (.head _) ?_ ?_
  · intro i r ys led v I oI C oC D m₂ h tk E' hr hsub hv hns hx FF NN off ne
    obtain ⟨wa, rfl, hw⟩ := hWs.get hr (by rw [Array.getElem?_toList]; exact hv)
    obtain ⟨wd, pe, k, w1, w2, w3, w4, wv, w5, w6, wm1, wm2, wm3, wm4⟩ := hw
    have wm1 := hsub _ (.tail _ (List.mem_append_left _ wm1))
    have wm2 := hsub _ (.tail _ (List.mem_append_left _ wm2))
    have wm3 := hsub _ (.tail _ (List.mem_append_left _ wm3))
    have NN := news_sub (l' := (wa, instObj 90 wd) :: (wd, wdO k r w1 w2 w3 w4 wv pe) :: (I, oI) :: (C, oC) :: (D, LCg.lst ys) :: led) NN (List.forall_mem_cons.mpr ⟨.tail _ (.tail _ (.tail _ wm1)), List.forall_mem_cons.mpr ⟨.tail _ (.tail _ (.tail _ wm2)), fun _ h => h⟩⟩)
    have hwh := wm4.handed
    clear nL hWs hret
    (try k_fold)
    k_steps
    exact comp_fin (by assumption) (by assumption) (by assumption) off wm3 wm4
  · intro ys led hsub hd D h tk FF NN off
    have nO := news_sub (l' := ((D, LCg.lst ys) :: led) ++ news) NN (fun q hq => (List.mem_append.mp hq).elim id fun h => .tail _ (hsub q (.tail _ (List.mem_append_right _ h))))
    clear NN nL hWs
    k_steps
    exact hret _ _ _ _ (by assumption) (by assumption) (.list (.head _) (hd.mono fun _ h => .tail _ h))
end
end

-- 70cask
section
noncomputable abbrev ckO (a b : Int) (u1 u2 : Tok) (n : Nat) : Obj := W.listOf #[.int a u1, .int b u2] n
theorem c_cask {w : World} {dp un : Nat} {gd : Option (List Code)} {cn : Str} {cs : Scope} {a : Addr} {ccd : Value} {cl : List (Str × Addr)} {outer : List Env} {A₀ : Around} {base h₀ : Heap} {L : Addr} {m : Str → Option Value} {s : Shared} {mean : ExcName → Option Value} {mg mb : Str → Option Value} {Q E : Value → Shared → Prop} {news : List (Addr × Obj)} {vs : List Value} {ns : List Int} {sA : Addr} {tn : Nat} {tt : Tok}
  (B : Below A₀ base outer h₀) (F : Fr h₀ L s.heap m) (X : (Mine.hd.heap_1 w.params).In h₀) (N : News h₀ L s.heap (news)) (TT : Top Mine.hd.view_1 lz mean mg mb h₀) (hk : cs.kind = .function) (hd : dp + 2 < recursionLimit) (hu : un + 8 * 2 < cLine)
  (hs : base.IsList sA vs.toArray) (hi : IntsAre vs ns) (hl : ns.length ≤ 63) (ht : tn ≤ 1)
  (hret : ∀ h' tk' c a b u1 u2, 0 ≤ a → 0 ≤ b → Fr h₀ L h' m → News h₀ L h' ((c, ckO a b u1 u2 0) :: news) → (∀ q ∈ news, q.1 < c) → Q (.ref c) { s with heap := h', toks := tk' }) :
  wpAny (model PySem.Challenge.rw_sy0021_01.row.prog w) (ktrTop dp un gd cn cs L a ccd cl outer) (call (.ref 326) [.ref sA, .int (tn : Int) tt]) Q E s := by
  have hfill : (Mine.hd.heap_1 = Mine.hd.heap_1 ∧ PySem.Challenge.rw_sy0021_01 = PySem.Challenge.rw_sy0021_01) := by k_fill; exact ⟨rfl, rfl⟩
  clear hfill
  refine wpAny_call ?_
  k_with_none
  k_with "M enter" => (refine' code_def ?k1 ?k2 ?k3 ?k4 ?k5 ?kA ?kF ?kK ?k6 ?k7 ?k8 ?k9 ?kB ?_ ?c2 ?c3 ?c4 ?c5; (case kA => exact rfl); (case kF => exact rfl); (case kK => assumption); (case k1 => k_asm); (case k2 => k_asm); (case k3 => k_asm); (case k4 => k_asm); (case k5 => k_asm); (case k6 => k_is); (case k7 => k_is); (case k8 => first | exact rm0 (by assumption) | ktr_room); (case k9 => first | exact BindsTo.of_eq rfl | exact binds_K (by k_in) rfl (by k_is) rfl rfl rfl); (case c5 => decide); (case kB => exact locs rfl); (case c2 => exact rfl); (case c3 => exact rfl); (case c4 => exact rfl); k_whole; intro g' L' h' FG' F' N' B' X' T'; (try dsimp only); (try k_lift B'); (try k_fold))
  k_dflt (walk_at "M enter")
  k_with_none
  k_with "M in" => (first | with_reducible assumption | exact Frag.In.keeps (by with_reducible assumption) (Fr.keep (by with_reducible assumption)))
  k_with "eval Call" => (k_here; k_dflt (refine Call_ ?_))
  k_with "M all" => (first | assumption | exact apart_of (by first | assumption | exact And.right (by assumption) | exact And.right (And.right (by assumption)) | exact And.right (And.right (And.right (by assumption))) | exact And.right (And.right (And.right (And.right (by assumption))))))
  k_steps
  all_goals (
    refine hret _ _ _ _ _ _ _ ?_ ?_ (by assumption) (by assumption) (by assumption)
    · omega
    · exact Int.fmod_nonneg_of_pos _ (by decide))
theorem fdiv_nn {a b : Int} (h : 0 ≤ a) (hb : 0 < b) : 0 ≤ a.fdiv b := Int.fdiv_nonneg h (Int.le_of_lt hb)
theorem c_tap {w : World} {dp un : Nat} {gd : Option (List Code)} {cn : Str} {cs : Scope} {a : Addr} {ccd : Value} {cl : List (Str × Addr)} {outer : List Env} {A₀ : Around} {base h₀ : Heap} {L : Addr} {m : Str → Option Value} {s : Shared} {mean : ExcName → Option Value} {mg mb : Str → Option Value} {Q E : Value → Shared → Prop} {rest : List (Addr × Obj)} {c : Addr} {ca cb top : Int} {u1 u2 tt : Tok} {n : Nat}
  (B : Below A₀ base outer h₀) (F : Fr h₀ L s.heap m) (X : (Mine.hd.heap_1 w.params).In h₀) (N : News h₀ L s.heap ((c, ckO ca cb u1 u2 n) :: rest)) (TT : Top Mine.hd.view_1 lz mean mg mb h₀) (hk : cs.kind = .function) (hd : dp + 2 < recursionLimit) (hu : un + 8 * 2 < cLine)
  (ha : 0 ≤ ca) (hb : 0 ≤ cb) (h1 : 1 ≤ top) (h2 : top ≤ 100) (hap : ∀ q ∈ rest, q.1 ≠ c)
  (hret : ∀ h' tk' a' b' u1 u2 n' mug t, 0 ≤ a' → 0 ≤ b' → 0 ≤ mug → mug < top → Fr h₀ L h' m → News h₀ L h' ((c, ckO a' b' u1 u2 n') :: rest) → Q (.int mug t) { s with heap := h', toks := tk' }) :
  wpAny (model PySem.Challenge.rw_sy0021_01.row.prog w) (ktrTop dp un gd cn cs L a ccd cl outer) (call (.ref 333) [.ref c, .int top tt]) Q E s := by
  have hfill : (Mine.hd.heap_1 = Mine.hd.heap_1 ∧ PySem.Challenge.rw_sy0021_01 = PySem.Challenge.rw_sy0021_01) := by k_fill; exact ⟨rfl, rfl⟩
  clear hfill
  refine wpAny_call ?_
  k_with_none
  k_with "M enter" => (refine' code_def ?k1 ?k2 ?k3 ?k4 ?k5 ?kA ?kF ?kK ?k6 ?k7 ?k8 ?k9 ?kB ?_ ?c2 ?c3 ?c4 ?c5; (case kA => exact rfl); (case kF => exact rfl); (case kK => assumption); (case k1 => k_asm); (case k2 => k_asm); (case k3 => k_asm); (case k4 => k_asm); (case k5 => k_asm); (case k6 => k_is); (case k7 => k_is); (case k8 => first | exact rm0 (by assumption) | ktr_room); (case k9 => first | exact BindsTo.of_eq rfl | exact binds_K (by k_in) rfl (by k_is) rfl rfl rfl); (case c5 => decide); (case kB => exact locs rfl); (case c2 => exact rfl); (case c3 => exact rfl); (case c4 => exact rfl); k_whole; intro g' L' h' FG' F' N' B' X' T'; (try dsimp only); (try k_lift B'); (try k_fold))
  k_dflt (walk_at "M enter")
  k_with_none
  k_with "M in" => (first | with_reducible assumption | exact Frag.In.keeps (by with_reducible assumption) (Fr.keep (by with_reducible assumption)))
  k_with "eval Call" => (k_here; k_dflt (refine Call_ ?_))
  k_with "M all" => (first | assumption | exact apart_of (by first | assumption | exact And.right (by assumption) | exact And.right (And.right (by assumption)) | exact And.right (And.right (And.right (by assumption))) | exact And.right (And.right (And.right (And.right (by assumption))))))
  k_steps
  · refine hret _ _ _ _ _ _ _ _ _ ?_ hb ?_ ?_ (by assumption) (by assumption)
    · exact fdiv_nn (show 0 ≤ ca from ha) (by omega)
    · exact Int.fmod_nonneg_of_pos _ (by omega)
    · exact Int.fmod_lt_of_pos _ (by omega)
  · refine hret _ _ _ _ _ _ _ _ _ ha ?_ ?_ ?_ (by assumption) (by assumption)
    · exact Int.fmod_nonneg_of_pos _ (by decide)
    · exact Int.fmod_nonneg_of_pos _ (by omega)
    · exact Int.fmod_lt_of_pos _ (by omega)
end

-- 71cellar
section
/-- expressions that are written data: signs, numbers, None, one name, tuples and lists of such -/
inductive LitA (x : Str) (dx : Dat) : List Expr → List Dat → Prop
  | nil : LitA x dx [] []
  | str {y : Str} {k : Nat} {pos : Pos} {es : List Expr} {ds : List Dat} : LitA x dx es ds → LitA x dx (.Constant (.str y) k pos :: es) (.str y :: ds)
  | int {i : Int} {k : Nat} {pos : Pos} {es : List Expr} {ds : List Dat} : LitA x dx es ds → LitA x dx (.Constant (.int i) k pos :: es) (.int i :: ds)
  | none {k : Nat} {pos : Pos} {es : List Expr} {ds : List Dat} : LitA x dx es ds → LitA x dx (.Constant .none k pos :: es) (.none :: ds)
  | name {pos : Pos} {es : List Expr} {ds : List Dat} : LitA x dx es ds → LitA x dx (.Name x pos :: es) (dx :: ds)
  | tuple {xs : List Expr} {k : Nat} {pos : Pos} {us : List Dat} {es : List Expr} {ds : List Dat} : LitA x dx xs us → Nat.ble us.length 100 = true → LitA x dx es ds → LitA x dx (.Tuple xs k pos :: es) (.tuple us :: ds)
  | list {xs : List Expr} {pos : Pos} {us : List Dat} {es : List Expr} {ds : List Dat} : LitA x dx xs us → Nat.ble us.length 100 = true → LitA x dx es ds → LitA x dx (.List xs pos :: es) (.list us :: ds)
theorem lit_sz {vs : List Value} {ds : List Dat} {own : List (Addr × Obj)} (h : DatAll own vs ds) (k : Nat.ble ds.length 100 = true) : vs.length ≤ sizeLine := by
  rw [h.length, sizeLine_eq]
  exact Nat.le_trans (Nat.le_of_ble_eq_true k) (by decide)
section
variable {prog : Program} {w : World} {A : Around} {E : Value → Shared → Prop} {env : Env} {h₀ : Heap} {L : Addr} {m : Str → Option Value} {x : Str} {dx : Dat} {one : Value} {news own₀ : List (Addr × Obj)}
/-- what is to be shown of a list of them -/
noncomputable def LitQ (prog : Program) (w : World) (A : Around) (E : Value → Shared → Prop) (env : Env) (h₀ : Heap) (L : Addr) (m : Str → Option Value) (news own₀ : List (Addr × Obj)) (es : List Expr) (ds : List Dat) : Prop :=
  ∀ {own : List (Addr × Obj)} {s : Shared} {pos : Pos} {Q : List Value → Shared → Prop}, Fr h₀ L s.heap m → News h₀ L s.heap (own ++ news) → (∀ q ∈ own₀, q ∈ own) → (∀ q ∈ own, ∀ p ∈ news, p.1 < q.1) →
    (∀ h' tk' vs own', Fr h₀ L h' m → News h₀ L h' (own' ++ news) → (∀ q ∈ own, q ∈ own') → (∀ q ∈ own', ∀ p ∈ news, p.1 < q.1) → DatAll own' vs ds → Q vs { s with heap := h', toks := tk' }) →
    wpAny (model prog w) A (spliced (backTo pos (starEach es env))) Q E s
theorem lit_next {es : List Expr} {ds : List Dat} (ih : LitQ prog w A E env h₀ L m news own₀ es ds) {own own₁ : List (Addr × Obj)} {s : Shared} {pos : Pos} {Q : List Value → Shared → Prop} {v : Value} {d : Dat} (h₁ : Heap) (tk₁ : Nat) (F : Fr h₀ L h₁ m) (N : News h₀ L h₁ (own₁ ++ news))
    (s0 : ∀ q ∈ own₀, q ∈ own₁) (lt : ∀ q ∈ own₁, ∀ p ∈ news, p.1 < q.1) (sub : ∀ q ∈ own, q ∈ own₁) (D : DatIn own₁ v d)
    (h : ∀ h' tk' vs own', Fr h₀ L h' m → News h₀ L h' (own' ++ news) → (∀ q ∈ own, q ∈ own') → (∀ q ∈ own', ∀ p ∈ news, p.1 < q.1) → DatAll own' vs (d :: ds) → Q vs { s with heap := h', toks := tk' }) :
    wpAny (model prog w) A (spliced (backTo pos (starEach es env))) (fun vs s' => Q (v :: vs) s') E { s with heap := h₁, toks := tk₁ } :=
  ih (s := { s with heap := h₁, toks := tk₁ }) F N s0 lt fun h'' tk'' vs own'' F'' N'' sub' lt'' D' => h h'' tk'' (v :: vs) own'' F'' N'' (fun q hq => sub' q (sub q hq)) lt'' (.cons (D.mono sub') D')
theorem lit_all (hone : ∀ pos (s : Shared) (Q : Value → Shared → Prop), Fr h₀ L s.heap m → Q one s → wpAny (model prog w) A (eval (.Name x pos) env) Q E s) (hd1 : DatIn own₀ one dx) {es : List Expr} {ds : List Dat} (H : LitA x dx es ds) :
    LitQ prog w A E env h₀ L m news own₀ es ds := by
  induction H with
  | nil => intro own s pos Q F N s0 lt h; exact args_nil (h s.heap s.toks [] own F N (fun _ h => h) lt .nil)
  | str _ ih => intro own s pos Q F N s0 lt h; exact args_cons (Calls.Constant_str (lit_next ih s.heap (s.toks + 1) F N s0 lt (fun _ h => h) (.str _ _) h)) rfl
  | int _ ih => intro own s pos Q F N s0 lt h; exact args_cons (wpAny_Constant_int (lit_next ih s.heap (s.toks + 1) F N s0 lt (fun _ h => h) (.int _ _) h)) rfl
  | none _ ih => intro own s pos Q F N s0 lt h; exact args_cons (wpAny_Constant_none (lit_next ih s.heap s.toks F N s0 lt (fun _ h => h) .none h)) rfl
  | name _ ih => intro own s pos Q F N s0 lt h; exact args_cons (hone _ _ _ F (lit_next ih s.heap s.toks F N s0 lt (fun _ h => h) (hd1.mono s0) h)) rfl
  | tuple _ k _ ih1 ih2 =>
    intro own s pos Q F N s0 lt h
    exact args_cons (Tuple_ (ih1 F N s0 lt fun h' tk' vs own' F' N' sub lt' D =>
      kup_newTuple F' N' (fun D' h'' F'' N'' l => lit_next ih2 (own₁ := (D', _) :: own') h'' tk' F'' N'' (fun q hq => .tail _ (sub q (s0 q hq))) (List.forall_mem_cons.mpr ⟨fun p hp => l p (List.mem_append_right _ hp), lt'⟩) (fun q hq => .tail _ (sub q hq)) (.tuple (.head _) (D.mono fun _ h => .tail _ h)) h) (lit_sz D k))) rfl
  | list _ k _ ih1 ih2 =>
    intro own s pos Q F N s0 lt h
    exact args_cons (List_ (ih1 F N s0 lt fun h' tk' vs own' F' N' sub lt' D =>
      newList_K F' N' (fun D' h'' F'' N'' l => lit_next ih2 (own₁ := (D', _) :: own') h'' tk' F'' N'' (fun q hq => .tail _ (sub q (s0 q hq))) (List.forall_mem_cons.mpr ⟨fun p hp => l p (List.mem_append_right _ hp), lt'⟩) (fun q hq => .tail _ (sub q hq)) (.list (.head _) (D.mono fun _ h => .tail _ h)) h) (lit_sz D k))) rfl
theorem lit_wp (hone : ∀ pos (s : Shared) (Q : Value → Shared → Prop), Fr h₀ L s.heap m → Q one s → wpAny (model prog w) A (eval (.Name x pos) env) Q E s) (hd1 : DatIn own₀ one dx) {es : List Expr} {ds : List Dat} {pos : Pos} (H : LitA x dx es ds) (k : Nat.ble ds.length 100 = true)
    {own : List (Addr × Obj)} {s : Shared} {Q : Value → Shared → Prop} (F : Fr h₀ L s.heap m) (N : News h₀ L s.heap (own ++ news)) (s0 : ∀ q ∈ own₀, q ∈ own) (lt : ∀ q ∈ own, ∀ p ∈ news, p.1 < q.1)
    (h : ∀ h' tk' v own', Fr h₀ L h' m → News h₀ L h' (own' ++ news) → (∀ q ∈ own, q ∈ own') → (∀ q ∈ own', ∀ p ∈ news, p.1 < q.1) → DatIn own' v (.list ds) → Q v { s with heap := h', toks := tk' }) : wpAny (model prog w) A (eval (.List es pos) env) Q E s :=
  List_ (lit_all hone hd1 H F N s0 lt fun h' tk' vs own' F' N' sub lt' D =>
    newList_K F' N' (fun D' h'' F'' N'' l => h h'' tk' _ ((D', _) :: own') F'' N'' (fun q hq => .tail _ (sub q hq)) (List.forall_mem_cons.mpr ⟨fun p hp => l p (List.mem_append_right _ hp), lt'⟩) (.list (.head _) (D.mono fun _ h => .tail _ h))) (lit_sz D k))
end
section
theorem c_cellar {w : World} {dp un : Nat} {gd : Option (List Code)} {cn : Str} {cs : Scope} {a : Addr} {ccd : Value} {cl : List (Str × Addr)} {outer : List Env} {A₀ : Around} {base h₀ : Heap} {L : Addr} {m : Str → Option Value} {s : Shared} {mean : ExcName → Option Value} {mg mb : Str → Option Value} {Q E : Value → Shared → Prop} {news : List (Addr × Obj)}
  (B : Below A₀ base outer h₀) (F : Fr h₀ L s.heap m) (X : (Mine.hd.heap_1 w.params).In h₀) (N : News h₀ L s.heap (news)) (TT : Top Mine.hd.view_1 lz mean mg mb h₀) (hk : cs.kind = .function) (hd : dp + 2 < recursionLimit) (hu : un + 8 * 2 < cLine)
  (hret : ∀ h' tk' v own, Fr h₀ L h' m → News h₀ L h' (own ++ news) → DatIn own v cellarD → (∀ q ∈ own, ∀ p ∈ news, p.1 < q.1) → Q v { s with heap := h', toks := tk' }) :
  wpAny (model PySem.Challenge.rw_sy0021_01.row.prog w) (ktrTop dp un gd cn cs L a ccd cl outer) (call (.ref 340) []) Q E s := by
  have hfill : (Mine.hd.heap_1 = Mine.hd.heap_1 ∧ PySem.Challenge.rw_sy0021_01 = PySem.Challenge.rw_sy0021_01) := by k_fill; exact ⟨rfl, rfl⟩
  clear hfill
  refine wpAny_call ?_
  k_with_none
  k_with "M enter" => (refine' code_def ?k1 ?k2 ?k3 ?k4 ?k5 ?kA ?kF ?kK ?k6 ?k7 ?k8 ?k9 ?kB ?_ ?c2 ?c3 ?c4 ?c5; (case kA => exact rfl); (case kF => exact rfl); (case kK => assumption); (case k1 => k_asm); (case k2 => k_asm); (case k3 => k_asm); (case k4 => k_asm); (case k5 => k_asm); (case k6 => k_is); (case k7 => k_is); (case k8 => first | exact rm0 (by assumption) | ktr_room); (case k9 => first | exact BindsTo.of_eq rfl | exact binds_K (by k_in) rfl (by k_is) rfl rfl rfl); (case c5 => decide); (case kB => exact locs rfl); (case c2 => exact rfl); (case c3 => exact rfl); (case c4 => exact rfl); k_whole; intro g' L' h' FG' F' N' B' X' T'; (try dsimp only); (try k_lift B'); (try k_fold))
  k_dflt (walk_at "M enter")
  k_with_none
  k_with "M in" => (first | with_reducible assumption | exact Frag.In.keeps (by with_reducible assumption) (Fr.keep (by with_reducible assumption)))
  k_with "M all" => (first | assumption | exact apart_of (by first | assumption | exact And.right (by assumption) | exact And.right (And.right (by assumption)) | exact And.right (And.right (And.right (by assumption))) | exact And.right (And.right (And.right (And.right (by assumption))))))
  k_with "eval List" => (k_here; k_extra "M list")
  k_with "M list" => (
    rename Fr _ _ _ _ => lF'
    rename News _ _ _ _ => lN'
    rename (∀ p ∈ news, p.1 < _) => lt1
    k_dflt (refine lit_wp (ds := cellar.map fun l => .list (l.map pwD)) (x := Str.ofString "one") (dx := pwD (pi (Str.ofString "1") 1)) (own := [_]) (own₀ := [_]) ?hone (.tuple (vs := [_, _, _]) (n := 0) (.head _) (.cons (.str _ _) (.cons (.str _ _) (.cons (.int _ _) .nil)))) ?lit rfl lF' lN' (fun _ h => h) (List.forall_mem_cons.mpr ⟨lt1, List.forall_mem_nil _⟩) ?_)
    (case hone => k_dflt (intro pos s9 Q9 F9 h9; exact nameX_L F9 rfl h9 rfl rfl))
    (case lit => k_dflt (unfold cellar; simp only [List.map_cons, List.map_nil]; (repeat (first | exact .nil | refine .str ?_ | refine .int ?_ | refine .none ?_ | refine .name ?_ | refine .tuple ?_ rfl ?_ | refine .list ?_ rfl ?_))))
    k_dflt (intro h' tk' v' own' F' N' sub' lt' D')
    clear lF' lN' lt1)
  k_steps
  exact hret _ _ _ _ (by assumption) (by assumption) (by assumption) (by assumption)
end
theorem c_cellar2 {w : World} {dp un : Nat} {gd : Option (List Code)} {cn : Str} {cs : Scope} {a : Addr} {ccd : Value} {cl : List (Str × Addr)} {outer : List Env} {A₀ : Around} {base h₀ : Heap} {L : Addr} {m : Str → Option Value} {s : Shared} {mean : ExcName → Option Value} {mg mb : Str → Option Value} {Q E : Value → Shared → Prop} {news : List (Addr × Obj)}
  (B : Below A₀ base outer h₀) (F : Fr h₀ L s.heap m) (X : (Mine.hd.heap_1 w.params).In h₀) (N : News h₀ L s.heap (news)) (TT : Top Mine.hd.view_1 lz mean mg mb h₀) (hk : cs.kind = .function) (hd : dp + 2 < recursionLimit) (hu : un + 8 * 2 < cLine)
  (hret : ∀ h' tk' l vs n own, Fr h₀ L h' m → News h₀ L h' (news ++ own) → (l, W.listOf vs.toArray n) ∈ own → DatAll own vs (cellar.map fun l => .list (l.map pwD)) → (∀ q ∈ own, ∀ p ∈ news, p.1 < q.1) → Q (.ref l) { s with heap := h', toks := tk' }) :
  wpAny (model PySem.Challenge.rw_sy0021_01.row.prog w) (ktrTop dp un gd cn cs L a ccd cl outer) (call (.ref 340) []) Q E s := by
  refine c_cellar B F X N TT hk hd hu ?_
  intro h' tk' v own F' N' d a
  obtain ⟨l, vs, n, rfl, hm, hd'⟩ := DatIn.asList (show DatIn own v (.list _) from d)
  exact hret h' tk' l vs n own F' (fun z hz => N' z (List.mem_append.mpr ((List.mem_append.mp hz).symm))) hm hd' a
end

-- 72pour
section
/-- what the page's dict holds -/
noncomputable def pgV (S : List Nat) (ln co : Int) (f : Bool) (dl : Addr) (t1 t2 t3 : Tok) : List (Str × Value) :=
  [(Str.ofString "text", .str (tx S) t1), (Str.ofString "line", .int ln t2), (Str.ofString "column", .int co t3), (Str.ofString "first", .bool f), (Str.ofString "due", .ref dl)]
noncomputable abbrev PgIs (w : World) (o : Obj) (S : List Nat) (p : Nat × Nat × Bool) (dl : Addr) (t1 t2 t3 : Tok) : Prop := o.IsDictOf (strKind PySem.Challenge.rw_sy0021_01.row.prog w) (pgV S (p.1 : Int) (p.2.1 : Int) p.2.2 dl t1 t2 t3)
section
variable {S S' : List Nat} {ln co : Int} {f : Bool} {dl : Addr} {t1 t2 t3 t : Tok}
theorem pg_sz : (pgV S ln co f dl t1 t2 t3).length ≤ sizeLine := by show 5 ≤ 2 ^ 24; decide
theorem pv1 : valueAt (pgV S ln co f dl t1 t2 t3) (Str.ofString "text") = some (.str (tx S) t1) := by with_unfolding_all rfl
theorem pv2 : valueAt (pgV S ln co f dl t1 t2 t3) (Str.ofString "line") = some (.int ln t2) := by with_unfolding_all rfl
theorem pv3 : valueAt (pgV S ln co f dl t1 t2 t3) (Str.ofString "column") = some (.int co t3) := by with_unfolding_all rfl
theorem pv4 : valueAt (pgV S ln co f dl t1 t2 t3) (Str.ofString "first") = some (.bool f) := by with_unfolding_all rfl
theorem pv5 : valueAt (pgV S ln co f dl t1 t2 t3) (Str.ofString "due") = some (.ref dl) := by with_unfolding_all rfl
theorem st1 {y : Str} (e : y = tx S') : stored (pgV S ln co f dl t1 t2 t3) (Str.ofString "text") (.str y t) = pgV S' ln co f dl t t2 t3 := by subst e; with_unfolding_all rfl
theorem st2 {n : Int} : stored (pgV S ln co f dl t1 t2 t3) (Str.ofString "line") (.int n t) = pgV S n co f dl t1 t t3 := by with_unfolding_all rfl
theorem st3 {n : Int} : stored (pgV S ln co f dl t1 t2 t3) (Str.ofString "column") (.int n t) = pgV S ln n f dl t1 t2 t := by with_unfolding_all rfl
theorem st4 {g : Bool} : stored (pgV S ln co f dl t1 t2 t3) (Str.ofString "first") (.bool g) = pgV S ln co g dl t1 t2 t3 := by with_unfolding_all rfl
end
end
section
noncomputable def PourJ (w : World) (m : Str → Option Value) (xi xc : Str) (pg dl : Addr) (S y : List Nat) (p : Nat × Nat × Bool) (t1 : Tok) (rest : List (Addr × Obj)) (i : Nat) (m₁ : Str → Option Value) (n₁ : List (Addr × Obj)) : Prop :=
  ∃ vi vl ln co f t2 t3 o, m₁ = bindM (bindM m xi vi) xc vl ∧ n₁ = (pg, o) :: rest ∧ PgIs w o S (ln, co, f) dl t1 t2 t3 ∧ pourF (y.drop i) (ln, co, f) = pourF y p ∧ 1 ≤ co ∧ ln ≤ p.1 + i ∧ co ≤ p.2.1 + 16 * i
noncomputable def PourE (w : World) (h₀ : Heap) (L : Addr) (m : Str → Option Value) (xi xc : Str) (pg dl : Addr) (S y : List Nat) (p : Nat × Nat × Bool) (t1 : Tok) (rest own : List (Addr × Obj)) (i : Nat) (s : Shared) (fl : Flow) (s₂ : Shared) : Prop :=
  fl = .next ∧ ∃ h' tk' vi vl ln' co' f' t2' t3' o', s₂ = { s with heap := h', toks := tk' } ∧ Fr h₀ L h' (fun z => if z = xc then vl else if z = xi then vi else m z) ∧ News h₀ L h' ((pg, o') :: (rest ++ own)) ∧ PgIs w o' S (ln', co', f') dl t1 t2' t3' ∧
        pourF (y.drop (i + 1)) (ln', co', f') = pourF y p ∧ 1 ≤ co' ∧ ln' ≤ p.1 + (i + 1) ∧ co' ≤ p.2.1 + 16 * (i + 1)
theorem pour_end {w : World} {h₀ h' : Heap} {L : Addr} {m : Str → Option Value} {xi xc : Str} {pg dl : Addr} {S y : List Nat} {p : Nat × Nat × Bool} {t1 t2 t3 : Tok} {rest own : List (Addr × Obj)} {i tk' : Nat} {s : Shared} {vi vl : Option Value} {o' : Obj} {lz cz : Int} {f' : Bool} {q : Nat × Nat × Bool}
    (F : Fr h₀ L h' (fun z => if z = xc then vl else if z = xi then vi else m z)) (N : News h₀ L h' ((pg, o') :: (rest ++ own))) (d : o'.IsDictOf (strKind PySem.Challenge.rw_sy0021_01.row.prog w) (pgV S lz cz f' dl t1 t2 t3))
    (e1 : lz = (q.1 : Int)) (e2 : cz = (q.2.1 : Int)) (e3 : f' = q.2.2) (k1 : pourF (y.drop (i + 1)) q = pourF y p) (k2 : 1 ≤ q.2.1) (k3 : q.1 ≤ p.1 + (i + 1)) (k4 : q.2.1 ≤ p.2.1 + 16 * (i + 1)) :
    PourE w h₀ L m xi xc pg dl S y p t1 rest own i s .next { s with heap := h', toks := tk' } := by
  subst e1 e2 e3
  exact ⟨rfl, h', tk', vi, vl, q.1, q.2.1, q.2.2, t2, t3, o', rfl, F, N, d, k1, k2, k3, k4⟩
theorem news_flip {h₀ h : Heap} {L : Addr} {own rest : List (Addr × Obj)} {q : Addr × Obj} (N : News h₀ L h (own ++ q :: rest)) : News h₀ L h (q :: (rest ++ own)) :=
  news_sub N (List.forall_mem_cons.mpr ⟨List.mem_append_right _ (.head _), fun z hz => (List.mem_append.mp hz).elim (fun h => List.mem_append_right _ (.tail _ h)) fun h => List.mem_append_left _ h⟩)
theorem news_flop {h₀ h : Heap} {L : Addr} {own rest : List (Addr × Obj)} {q : Addr × Obj} (N : News h₀ L h (q :: (rest ++ own))) : News h₀ L h (own ++ q :: rest) :=
  news_sub N fun z hz => (List.mem_append.mp hz).elim (fun h => .tail _ (List.mem_append_right _ h)) fun h => (List.mem_cons.mp h).elim (fun h => h ▸ .head _) fun h => .tail _ (List.mem_append_left _ h)
theorem pair_pour {prog : Program} {w : World} {A : Around} {E : Value → Shared → Prop} {s : Shared} {h₀ : Heap} {env : Env} {m : Str → Option Value} {pg dl : Addr} {o : Obj} {S y : List Nat} {p : Nat × Nat × Bool} {t1 t2 t3 : Tok} {rest : List (Addr × Obj)} {xv : Value} {xi xc : Str} {body : List Stmt} {Q : Flow → Shared → Prop}
    (Sx : PairSrcL prog w A E h₀ env.locals ItemKind.str (signs (tx y)) xv s m ((pg, o) :: rest)) (ho : PgIs w o S p dl t1 t2 t3) (hp : 1 ≤ p.2.1) (hap : ∀ q ∈ rest, q.1 ≠ pg)
    (step : ∀ (i : Nat) c t t' h tk ln co f t2 t3 o own, y[i]? = some c → i + 1 ≤ y.length → pourF (y.drop i) (ln, co, f) = pourF y p → 1 ≤ co → ln ≤ p.1 + i → co ≤ p.2.1 + 16 * i → (∀ q ∈ rest ++ own, q.1 ≠ pg) →
      Fr h₀ env.locals h (fun z => if z = xc then some (.str (sgo (some c)) t') else if z = xi then some (.int (i : Int) t) else m z) → News h₀ env.locals h ((pg, o) :: (rest ++ own)) → PgIs w o S (ln, co, f) dl t1 t2 t3 →
      wpAny (model prog w) A (execs body env) (PourE w h₀ env.locals m xi xc pg dl S y p t1 rest own i { s with heap := h, toks := tk }) E { s with heap := h, toks := tk })
    (done : ∀ h' tk vi vl t2 t3 o', Fr h₀ env.locals h' (fun z => if z = xc then vl else if z = xi then vi else m z) → News h₀ env.locals h' ((pg, o') :: rest) → PgIs w o' S (pourF y p) dl t1 t2 t3 → Q .next { s with heap := h', toks := tk }) :
    wpAny (model prog w) A (pyIter xv) (fun it s₂ => PairAt3 prog w A h₀ env xi xc body Q E it s₂) E s := by
  refine Sx.at _ rfl _ _ _ _ (PourJ w m xi xc pg dl S y p t1 rest) ⟨m xi, m xc, p.1, p.2.1, p.2.2, t2, t3, o, ?_, rfl, ho, rfl, hp, Nat.le_refl _, Nat.le_refl _⟩ ?_ ?_
  · rw [← bindM_start m xi]; exact bindM_start m xc
  · intro i a t v m₁ news₁ s₁ own hs₁ ha ht' hJ hadr hown F₁ N₁
    refine byC fun hn9 => ?_
    obtain ⟨h, tk, rfl⟩ := hs₁
    obtain ⟨t', rfl⟩ := ht'
    obtain ⟨vi, vl, ln, co, f, u2, u3, o₁, rfl, rfl, ho₁, j1, j2, j3, j4⟩ := hJ
    refine hn9 ?_
    clear hn9
    have hlt : i < (signs (tx y)).length := (List.getElem?_eq_some_iff.mp ha).1
    rw [signs_length, tx_len] at hlt
    have hc : y[i]? = some y[i] := List.getElem?_eq_getElem hlt
    have ea : a = sgo (some y[i]) := by
      have := signs_get (y := tx y) (i := i) (c := y[i]) (by simpa [tx] using hc)
      rw [ha] at this
      exact Option.some.inj this
    subst ea
    have hb : (fun z => if z = xc then some (Value.str (sgo (some y[i])) t') else if z = xi then some (.int (i : Int) t) else bindM (bindM m xi vi) xc vl z) = (fun z => if z = xc then some (Value.str (sgo (some y[i])) t') else if z = xi then some (.int (i : Int) t) else m z) := by
      funext z
      unfold bindM
      by_cases h1 : z = xc
      · simp [h1]
      · by_cases h2 : z = xi
        · simp [h1, h2]
        · simp [h1, h2]
    rw [hb] at F₁
    have hq : ∀ q ∈ rest ++ own, q.1 ≠ pg := fun q hq => by
      rcases List.mem_append.mp hq with hq | hq
      · exact hap q hq
      · exact hown q hq _ (.head _)
    refine wpAny_mono (step i _ t t' h tk ln co f u2 u3 o₁ own hc hlt j1 j2 j3 j4 hq F₁ (news_flip N₁) ho₁) (fun fl s₂ x => ?_) fun _ _ e => e
    refine byC fun hn9 => ?_
    obtain ⟨rfl, h', tk', vi', vl', ln', co', f', t2', t3', o', rfl, F₂, N₂, k0, k1, k2, k3, k4⟩ := x
    refine hn9 ?_
    refine LoopStep2.intro F₂ (news_flop N₂) rfl ⟨vi', vl', ln', co', f', t2', t3', o', rfl, rfl, k0, k1, k2, k3, k4⟩
  · rintro h' tk m' news' F' N' _ ⟨vi, vl, ln, co, f, u2, u3, o', rfl, rfl, ho', j1, _⟩
    have e : pourF y p = (ln, co, f) := by
      rw [← j1, signs_length, tx_len, List.drop_eq_nil_of_le (Nat.le_refl _)]; rfl
    exact done h' tk vi vl u2 u3 o' F' N' (by rw [e]; exact ho')
section
theorem c_pour {w : World} {dp un : Nat} {gd : Option (List Code)} {cn : Str} {cs : Scope} {a : Addr} {ccd : Value} {cl : List (Str × Addr)} {outer : List Env} {A₀ : Around} {base h₀ : Heap} {L : Addr} {m : Str → Option Value} {s : Shared} {mean : ExcName → Option Value} {mg mb : Str → Option Value} {Q E : Value → Shared → Prop} {rest : List (Addr × Obj)} {pg dl : Addr} {o : Obj} {S y : List Nat} {p : Nat × Nat × Bool} {t1 t2 t3 ty : Tok}
  (B : Below A₀ base outer h₀) (F : Fr h₀ L s.heap m) (X : (Mine.hd.heap_1 w.params).In h₀) (N : News h₀ L s.heap ((pg, o) :: rest)) (TT : Top Mine.hd.view_1 lz mean mg mb h₀) (hk : cs.kind = .function) (hd : dp + 2 < recursionLimit) (hu : un + 8 * 2 < cLine)
  (ho : PgIs w o S p dl t1 t2 t3)
  (hap : ∀ q ∈ rest, q.1 ≠ pg) (hS : S.length ≤ 5000) (hy : y.length ≤ 1000) (hp1 : p.1 ≤ 20000) (hp2 : p.2.1 ≤ 20000) (hp3 : 1 ≤ p.2.1)
  (hret : ∀ h' tk' t1 t2 t3 o', Fr h₀ L h' m → News h₀ L h' ((pg, o') :: rest) → PgIs w o' (S ++ y) (pourF y p) dl t1 t2 t3 → Q .none { s with heap := h', toks := tk' }) :
  wpAny (model PySem.Challenge.rw_sy0021_01.row.prog w) (ktrTop dp un gd cn cs L a ccd cl outer) (call (.ref 347) [.ref pg, .str (tx y) ty]) Q E s := by
  have hs' : (tx S).length ≤ 5000 := by rw [tx_len]; exact hS
  have hy' : (tx y).length ≤ 1000 := by rw [tx_len]; exact hy
  have hfill : (Mine.hd.heap_1 = Mine.hd.heap_1 ∧ PySem.Challenge.rw_sy0021_01 = PySem.Challenge.rw_sy0021_01) := by k_fill; exact ⟨rfl, rfl⟩
  clear hfill
  refine wpAny_call ?_
  k_with_none
  k_with "M enter" => (refine' code_def ?k1 ?k2 ?k3 ?k4 ?k5 ?kA ?kF ?kK ?k6 ?k7 ?k8 ?k9 ?kB ?_ ?c2 ?c3 ?c4 ?c5; (case kA => exact rfl); (case kF => exact rfl); (case kK => assumption); (case k1 => k_asm); (case k2 => k_asm); (case k3 => k_asm); (case k4 => k_asm); (case k5 => k_asm); (case k6 => k_is); (case k7 => k_is); (case k8 => first | exact rm0 (by assumption) | ktr_room); (case k9 => first | exact BindsTo.of_eq rfl | exact binds_K (by k_in) rfl (by k_is) rfl rfl rfl); (case c5 => decide); (case kB => exact locs rfl); (case c2 => exact rfl); (case c3 => exact rfl); (case c4 => exact rfl); k_whole; intro g' L' h' FG' F' N' B' X' T'; (try dsimp only); (try k_lift B'); (try k_fold))
  k_dflt (walk_at "M enter")
  k_with_none
  k_with "M om" => (first | with_reducible assumption | exact Nat.le_succ_of_le (by with_reducible assumption) | exact Nat.le_of_lt (by with_reducible assumption) | exact Nat.le_of_succ_le (by with_reducible assumption) | exact Nat.le_trans (by with_reducible assumption) (by decide) | exact Nat.le_trans (Nat.le_of_succ_le (by with_reducible assumption)) (Nat.le_trans (by with_reducible assumption) (by decide)))
  k_with "M in" => (first | with_reducible assumption | exact Frag.In.keeps (by with_reducible assumption) (Fr.keep (by with_reducible assumption)))
  k_with "M kN" => (first | assumption | exact news_tl1 (by assumption) | exact news_tl2 (by assumption) | exact news_tl3 (by assumption) | exact news_tl4 (by assumption) | exact news_dr1 (by assumption) | exact news_dr2 (by assumption) | exact news_dr3 (by assumption))
  k_with "eval Call" => (k_here; k_dflt (refine Call_ ?_))
  k_with "M all" => (first | assumption | exact apart_of (by first | assumption | exact And.right (by assumption) | exact And.right (And.right (by assumption)) | exact And.right (And.right (And.right (by assumption))) | exact And.right (And.right (And.right (And.right (by assumption))))))
  k_with "M mem" => (repeat (first | exact List.mem_cons_self | assumption | refine List.mem_cons_of_mem _ ?_))
  k_with "M sub" => (intro q hq; repeat (first | assumption | refine List.mem_cons_of_mem _ ?_))
  k_with "M kN" => (first | assumption | (refine news_sub (by assumption) ?_; (repeat refine List.forall_mem_cons.mpr (And.intro (by walk_at "M mem") ?_)); walk_at "M sub"))
  k_with "subscriptTail" => (k_here; (with_reducible show wpAny _ _ (subscriptTail _ _ (Value.ref _) (Value.str _ _)) _ _ _); k_dflt (first | refine kda_item (knd := PySem.strKind _ _) (by k_asm) (by walk_at "M mem") (by assumption) (strKind_is _ _ _ _) pv1 ?_ | refine kda_item (knd := PySem.strKind _ _) (by k_asm) (by walk_at "M mem") (by assumption) (strKind_is _ _ _ _) pv2 ?_ | refine kda_item (knd := PySem.strKind _ _) (by k_asm) (by walk_at "M mem") (by assumption) (strKind_is _ _ _ _) pv3 ?_ | refine kda_item (knd := PySem.strKind _ _) (by k_asm) (by walk_at "M mem") (by assumption) (strKind_is _ _ _ _) pv4 ?_ | refine kda_item (knd := PySem.strKind _ _) (by k_asm) (by walk_at "M mem") (by assumption) (strKind_is _ _ _ _) pv5 ?_))
  k_with "setItem ref str" => (k_here; (with_reducible show wpAny _ _ (setItem (Value.ref _) (Value.str _ _) _) _ _ _); k_dflt (refine' kda_set (knd := PySem.strKind _ _) ?F ?N ?U ?d (strKind_is _ _ _ _) ?z ?_; (case F => k_asm); (case N => k_asm); (case U => k_updF); (case d => assumption); (case z => exact pg_sz)); intro h' o' F' N' hd'; (try dsimp only at N'); (first | rw [st2] at hd' | rw [st3] at hd' | rw [st4] at hd' | rw [st1 (tx_app _ _)] at hd'))
  k_with "execs nil" => (k_here; refine wpAny_execs_nil ?_)
  k_steps
  rename PairSrcL _ _ _ _ _ _ _ _ _ _ _ _ => S'
  refine pair_pour S' ho hp3 hap ?_ ?_
  · clear S'
    intro i c t t' h tk ln co f u2 u3 o₁ own hc hi j1 j2 j3 j4 hq kFr kNews ho₁
    (try k_fold)
    k_steps
    all_goals (
      (try rename ((Builtin.Str.occurrences _ _ _ _ _).isEmpty = _) => hoc)
      (try rename ((sgo (some _) == Str.ofString "\r") = _) => hcr)
      (try rename ((sgo (some _) == Str.ofString "\t") = _) => htb)
      (try rename ((Txt.slice _ _ _ != _) = _) => hnl)
      (try rw [nlff_iff _ (by rw [nonempty_iff]; rfl), ← hc] at hoc)
      (try rw [s_cr, sgo_eq, ← hc] at hcr)
      (try rw [s_tab, sgo_eq, ← hc] at htb)
      (try rw [slice_nl (i := i) (by omega) (by omega) hi] at hnl)
      first
        | (refine pour_end (q := (ln + 1, 1, true)) (by assumption) (by walk_at "M kN") (by assumption) rfl rfl rfl ((pour_nl (nl_or hoc)).symm.trans j1) (Nat.le_refl _) (by show ln + 1 ≤ _; omega) (by show 1 ≤ _; omega))
        | (refine pour_end (q := (ln + 1, 1, true)) (by assumption) (by walk_at "M kN") (by assumption) rfl rfl rfl ((pour_cr (by simpa using hcr) (by simpa using hnl)).symm.trans j1) (Nat.le_refl _) (by show ln + 1 ≤ _; omega) (by show 1 ≤ _; omega))
        | (refine pour_end (q := (ln, co + 8 - (co - 1) % 8, f)) (by assumption) (by walk_at "M kN") (by assumption) rfl (tabW j2) rfl ((pour_tab (by simpa using htb)).symm.trans j1) (by show 1 ≤ co + 8 - (co - 1) % 8; omega) (by show ln ≤ _; omega) (by show co + 8 - (co - 1) % 8 ≤ _; omega))
        | (refine pour_end (q := (ln, co + 1, f)) (by assumption) (by walk_at "M kN") (by assumption) rfl rfl rfl ((pour_more hc (by rw [hc] at hoc; simpa using hoc) (by rw [hc] at hcr; intro hh; first | (simp [hh.1] at hcr; done) | (simp [hh.2] at hnl; done)) (by rw [hc] at htb; simpa using htb)).symm.trans j1) (by show 1 ≤ co + 1; omega) (by show ln ≤ _; omega) (by show co + 1 ≤ _; omega))
        )
  · clear S'
    intro h' tk vi vl u2 u3 o₁ kFr kNews ho₁
    (try k_fold)
    k_steps
    exact hret _ _ _ _ _ _ (by assumption) (by assumption) (by assumption)
end
end

-- 73set
section
noncomputable abbrev tup3n (v1 v2 v3 : Value) (n : Nat) : Obj := { cls := .type "tuple", data := .seq #[v1, v2, v3] n }
theorem set_fin {h₀ h : Heap} {L D5 D4 D3 D2 D1 wa pg dl : Addr} {o4 o' o2 o1 ow : Obj} {kd : Str} {y : List Nat} {v : Value} {dvv : Dat} {p p' : Nat × Nat × Bool} {ta tb a1 a2 b1 b2 : Tok} {dv : List Value} {n : Nat} {rest : List (Addr × Obj)}
    (N : News h₀ L h ((D5, tup7 (.str kd ta) (.str (tx y) tb) v (.int (p.1 : Int) a1) (.int (p.2.1 : Int) a2) (.bool p.2.2) (.ref D3)) :: (D4, o4) :: (D3, tup2 (.int (p'.1 : Int) b1) (.int (p'.2.1 : Int) b2)) :: (pg, o') :: (dl, W.listOf (dv.toArray.push (Value.ref D5)) n) :: (D2, o2) :: (D1, o1) :: (wa, ow) :: rest)) (hv : DatIn [] v dvv) :
    ∃ add, News h₀ L h ((pg, o') :: (dl, W.listOf (dv ++ [Value.ref D5]).toArray n) :: (add ++ rest)) ∧ DatIn add (.ref D5) (rowT kd y dvv p p') ∧ (∀ q ∈ add, q.1 = D5 ∨ q.1 = D3) := by
  rw [List.push_toArray] at N
  refine ⟨[(D5, tup7 (.str kd ta) (.str (tx y) tb) v (.int (p.1 : Int) a1) (.int (p.2.1 : Int) a2) (.bool p.2.2) (.ref D3)), (D3, tup2 (.int (p'.1 : Int) b1) (.int (p'.2.1 : Int) b2))], ?_, ?_, ?_⟩
  · exact news_sub N (List.forall_mem_cons.mpr ⟨mi 3 rfl, List.forall_mem_cons.mpr ⟨mi 4 rfl, List.forall_mem_cons.mpr ⟨mi 0 rfl, List.forall_mem_cons.mpr ⟨mi 2 rfl, fun q hq => .tail _ (.tail _ (.tail _ (.tail _ (.tail _ (.tail _ (.tail _ (.tail _ hq)))))))⟩⟩⟩⟩)
  · exact .tuple (vs := [_, _, _, _, _, _, _]) (n := 0) (.head _) (.cons (.str _ _) (.cons (.str _ _) (.cons (hv.mono fun _ h => absurd h List.not_mem_nil) (.cons (.int _ _) (.cons (.int _ _) (.cons (.bool _) (.cons (.tuple (vs := [_, _]) (n := 0) (.tail _ (.head _)) (.cons (.int _ _) (.cons (.int _ _) .nil))) .nil)))))))
  · intro q hq
    simp only [List.mem_cons, List.not_mem_nil, or_false] at hq
    rcases hq with rfl | rfl
    · exact .inl rfl
    · exact .inr rfl
theorem c_set_word {w : World} {dp un : Nat} {gd : Option (List Code)} {cn : Str} {cs : Scope} {a : Addr} {ccd : Value} {cl : List (Str × Addr)} {outer : List Env} {A₀ : Around} {base h₀ : Heap} {L : Addr} {m : Str → Option Value} {s : Shared} {mean : ExcName → Option Value} {mg mb : Str → Option Value} {Q E : Value → Shared → Prop} {rest : List (Addr × Obj)} {pg dl wa : Addr} {o : Obj} {S y : List Nat} {p : Nat × Nat × Bool} {t1 t2 t3 ta tb : Tok} {kd : Str} {v : Value} {dvv : Dat} {dv : List Value} {n wn : Nat}
  (B : Below A₀ base outer h₀) (F : Fr h₀ L s.heap m) (X : (Mine.hd.heap_1 w.params).In h₀) (N : News h₀ L s.heap ((pg, o) :: (dl, W.listOf dv.toArray n) :: (wa, tup3n (.str kd ta) (.str (tx y) tb) v wn) :: rest)) (TT : Top Mine.hd.view_1 lz mean mg mb h₀) (hk : cs.kind = .function) (hd : dp + 3 < recursionLimit) (hu : un + 8 * 3 < cLine)
  (ho : PgIs w o S p dl t1 t2 t3) (hv : DatIn [] v dvv) (hkd : (kd != Str.ofString "") = true)
  (hpd : pg ≠ dl) (hwp : wa ≠ pg) (hwd : wa ≠ dl) (hap : ∀ q ∈ rest, q.1 ≠ pg) (had : ∀ q ∈ rest, q.1 ≠ dl) (hS : S.length ≤ 5000) (hy : y.length ≤ 1000) (hp1 : p.1 ≤ 20000) (hp2 : p.2.1 ≤ 20000) (hp3 : 1 ≤ p.2.1) (hn : dv.length ≤ 1000)
  (hret : ∀ h' tk' t1 t2 t3 o' v' n' add, Fr h₀ L h' m → News h₀ L h' ((pg, o') :: (dl, W.listOf (dv ++ [v']).toArray n') :: (add ++ rest)) → PgIs w o' (S ++ y) ((pourF y p).1, (pourF y p).2.1, false) dl t1 t2 t3 → DatIn add v' (rowT kd y dvv p (pourF y p)) →
    (∀ q ∈ add, pg < q.1 ∧ dl < q.1 ∧ ∀ r ∈ rest, r.1 < q.1) → Q .none { s with heap := h', toks := tk' }) :
  wpAny (model PySem.Challenge.rw_sy0021_01.row.prog w) (ktrTop dp un gd cn cs L a ccd cl outer) (call (.ref 354) [.ref pg, .ref wa]) Q E s := by
  have hdp : dl ≠ pg := Ne.symm hpd
  have hfill : (Mine.hd.heap_1 = Mine.hd.heap_1 ∧ PySem.Challenge.rw_sy0021_01 = PySem.Challenge.rw_sy0021_01) := by k_fill; exact ⟨rfl, rfl⟩
  clear hfill
  refine wpAny_call ?_
  k_with_none
  k_with "M enter" => (refine' code_def ?k1 ?k2 ?k3 ?k4 ?k5 ?kA ?kF ?kK ?k6 ?k7 ?k8 ?k9 ?kB ?_ ?c2 ?c3 ?c4 ?c5; (case kA => exact rfl); (case kF => exact rfl); (case kK => assumption); (case k1 => k_asm); (case k2 => k_asm); (case k3 => k_asm); (case k4 => k_asm); (case k5 => k_asm); (case k6 => k_is); (case k7 => k_is); (case k8 => first | exact rm0 (by assumption) | ktr_room); (case k9 => first | exact BindsTo.of_eq rfl | exact binds_K (by k_in) rfl (by k_is) rfl rfl rfl); (case c5 => decide); (case kB => exact locs rfl); (case c2 => exact rfl); (case c3 => exact rfl); (case c4 => exact rfl); k_whole; intro g' L' h' FG' F' N' B' X' T'; (try dsimp only); (try k_lift B'); (try k_fold))
  k_dflt (walk_at "M enter")
  k_with_none
  k_with "M use" => ((case u1x => k_asm); (case u2x => k_asm); (case u3x => k_asm); (case u5x => k_asm); (case uKx => first | assumption | exact rfl); (case udx => first | exact rmA (by assumption) (by decide) | ktr_room); (case uux => first | exact umA (by assumption) (by decide) | ktr_units))
  k_with "M in" => (first | with_reducible assumption | exact Frag.In.keeps (by with_reducible assumption) (Fr.keep (by with_reducible assumption)))
  k_with "call ref" => (k_here; k_extra "M call")
  k_with "call ref" => (k_here; with_reducible first | refine call_app0 ?_ | refine call_app1 ?_ | refine call_app2 ?_)
  k_with "eval Call" => (k_here; k_dflt (refine Call_ ?_))
  k_with "M all" => (first | assumption | exact apart_of (by first | assumption | exact And.right (by assumption) | exact And.right (And.right (by assumption)) | exact And.right (And.right (And.right (by assumption))) | exact And.right (And.right (And.right (And.right (by assumption))))))
  k_with "M led" => (first | k_asm | exact news_rot1 (by k_asm) | exact news_rot2 (by k_asm) | exact news_rot3 (by k_asm) | exact news_rot4 (by k_asm))
  k_with "M ap" => (first | k_asm | k_all)
  k_with "M mem" => (repeat (first | exact List.mem_cons_self | assumption | refine List.mem_cons_of_mem _ ?_))
  k_with "subscriptTail" => (k_here; (with_reducible show wpAny _ _ (subscriptTail _ _ (Value.ref _) (Value.str _ _)) _ _ _); k_dflt (first | refine kda_item (knd := PySem.strKind _ _) (by k_asm) (by walk_at "M mem") (by assumption) (strKind_is _ _ _ _) pv1 ?_ | refine kda_item (knd := PySem.strKind _ _) (by k_asm) (by walk_at "M mem") (by assumption) (strKind_is _ _ _ _) pv2 ?_ | refine kda_item (knd := PySem.strKind _ _) (by k_asm) (by walk_at "M mem") (by assumption) (strKind_is _ _ _ _) pv3 ?_ | refine kda_item (knd := PySem.strKind _ _) (by k_asm) (by walk_at "M mem") (by assumption) (strKind_is _ _ _ _) pv4 ?_ | refine kda_item (knd := PySem.strKind _ _) (by k_asm) (by walk_at "M mem") (by assumption) (strKind_is _ _ _ _) pv5 ?_))
  k_with "setItem ref str" => (k_here; (with_reducible show wpAny _ _ (setItem (Value.ref _) (Value.str _ _) _) _ _ _); k_dflt (refine' kda_set (knd := PySem.strKind _ _) ?F ?N ?U ?d (strKind_is _ _ _ _) ?z ?_; (case F => k_asm); (case N => k_asm); (case U => k_updF); (case d => assumption); (case z => exact pg_sz)); intro h' o' F' N' hd'; (try dsimp only at N'); (first | rw [st2] at hd' | rw [st3] at hd' | rw [st4] at hd' | rw [st1 (tx_app _ _)] at hd'))
  k_with "M call" => ((with_reducible show wpAny _ _ (call (Value.ref 347) _) _ _ _); k_dflt (refine' c_pour ?u1x ?u2x ?u3x ?u4x ?u5x ?uKx ?udx ?uux ?z1 ?z2 ?z3 ?z4 ?z5 ?z6 ?z7 ?_; walk_at "M use"; (case u4x => walk_at "M led"); (case z1 => assumption); (case z2 => walk_at "M ap"); (case z3 => omega); (case z4 => omega); (case z5 => omega); (case z6 => omega); (case z7 => omega)); k_whole; intro h' tk' t1' t2' t3' o' F' N' D'; (try dsimp only); (try k_sweep))
  k_steps
  rename News h₀ _ _ _ => kN'
  obtain ⟨add, N₁, d1, a1⟩ := set_fin kN' hv
  refine hret _ _ _ _ _ _ _ _ add (by assumption) N₁ (by assumption) d1 fun q hq => ?_
  rename (_ < _ ∧ _ < _ ∧ _ < _ ∧ _ < _ ∧ _ < _ ∧ _ < _ ∧ _ < _ ∧ AllLt _ _) => f1
  rename (_ < _ ∧ _ < _ ∧ _ < _ ∧ _ < _ ∧ _ < _ ∧ AllLt _ _) => f3

  rcases a1 q hq with h | h <;> rw [h]
  · exact ⟨f1.2.2.1, f1.2.2.2.1, ktn_ltOf f1.2.2.2.2.2.2.2⟩
  · exact ⟨f3.1, f3.2.1, ktn_ltOf f3.2.2.2.2.2⟩
theorem c_set_gap {w : World} {dp un : Nat} {gd : Option (List Code)} {cn : Str} {cs : Scope} {a : Addr} {ccd : Value} {cl : List (Str × Addr)} {outer : List Env} {A₀ : Around} {base h₀ : Heap} {L : Addr} {m : Str → Option Value} {s : Shared} {mean : ExcName → Option Value} {mg mb : Str → Option Value} {Q E : Value → Shared → Prop} {rest : List (Addr × Obj)} {pg dl wa : Addr} {o : Obj} {S y : List Nat} {p : Nat × Nat × Bool} {t1 t2 t3 ta tb : Tok} {kd : Str} {v : Value} {dv : List Value} {n wn : Nat}
  (B : Below A₀ base outer h₀) (F : Fr h₀ L s.heap m) (X : (Mine.hd.heap_1 w.params).In h₀) (N : News h₀ L s.heap ((pg, o) :: (dl, W.listOf dv.toArray n) :: (wa, tup3n (.str kd ta) (.str (tx y) tb) v wn) :: rest)) (TT : Top Mine.hd.view_1 lz mean mg mb h₀) (hk : cs.kind = .function) (hd : dp + 3 < recursionLimit) (hu : un + 8 * 3 < cLine)
  (ho : PgIs w o S p dl t1 t2 t3) (hv : handedIn v = true) (hkd : (kd != Str.ofString "") = false)
  (hpd : pg ≠ dl) (hwp : wa ≠ pg) (hwd : wa ≠ dl) (hap : ∀ q ∈ rest, q.1 ≠ pg) (had : ∀ q ∈ rest, q.1 ≠ dl) (hS : S.length ≤ 5000) (hy : y.length ≤ 1000) (hp1 : p.1 ≤ 20000) (hp2 : p.2.1 ≤ 20000) (hp3 : 1 ≤ p.2.1)
  (hret : ∀ h' tk' t1 t2 t3 o' add, Fr h₀ L h' m → News h₀ L h' ((pg, o') :: (dl, W.listOf dv.toArray n) :: (add ++ rest)) → PgIs w o' (S ++ y) (pourF y p) dl t1 t2 t3 →
    (∀ q ∈ add, pg < q.1 ∧ dl < q.1 ∧ ∀ r ∈ rest, r.1 < q.1) → Q .none { s with heap := h', toks := tk' }) :
  wpAny (model PySem.Challenge.rw_sy0021_01.row.prog w) (ktrTop dp un gd cn cs L a ccd cl outer) (call (.ref 354) [.ref pg, .ref wa]) Q E s := by
  have hdp : dl ≠ pg := Ne.symm hpd
  have hfill : (Mine.hd.heap_1 = Mine.hd.heap_1 ∧ PySem.Challenge.rw_sy0021_01 = PySem.Challenge.rw_sy0021_01) := by k_fill; exact ⟨rfl, rfl⟩
  clear hfill
  refine wpAny_call ?_
  k_with_none
  k_with "M enter" => (refine' code_def ?k1 ?k2 ?k3 ?k4 ?k5 ?kA ?kF ?kK ?k6 ?k7 ?k8 ?k9 ?kB ?_ ?c2 ?c3 ?c4 ?c5; (case kA => exact rfl); (case kF => exact rfl); (case kK => assumption); (case k1 => k_asm); (case k2 => k_asm); (case k3 => k_asm); (case k4 => k_asm); (case k5 => k_asm); (case k6 => k_is); (case k7 => k_is); (case k8 => first | exact rm0 (by assumption) | ktr_room); (case k9 => first | exact BindsTo.of_eq rfl | exact binds_K (by k_in) rfl (by k_is) rfl rfl rfl); (case c5 => decide); (case kB => exact locs rfl); (case c2 => exact rfl); (case c3 => exact rfl); (case c4 => exact rfl); k_whole; intro g' L' h' FG' F' N' B' X' T'; (try dsimp only); (try k_lift B'); (try k_fold))
  k_dflt (walk_at "M enter")
  k_with_none
  k_with "M use" => ((case u1x => k_asm); (case u2x => k_asm); (case u3x => k_asm); (case u5x => k_asm); (case uKx => first | assumption | exact rfl); (case udx => first | exact rmA (by assumption) (by decide) | ktr_room); (case uux => first | exact umA (by assumption) (by decide) | ktr_units))
  k_with "M in" => (first | with_reducible assumption | exact Frag.In.keeps (by with_reducible assumption) (Fr.keep (by with_reducible assumption)))
  k_with "call ref" => (k_here; k_extra "M call")
  k_with "call ref" => (k_here; with_reducible first | refine call_app0 ?_ | refine call_app1 ?_ | refine call_app2 ?_)
  k_with "eval Call" => (k_here; k_dflt (refine Call_ ?_))
  k_with "M all" => (first | assumption | exact apart_of (by first | assumption | exact And.right (by assumption) | exact And.right (And.right (by assumption)) | exact And.right (And.right (And.right (by assumption))) | exact And.right (And.right (And.right (And.right (by assumption))))))
  k_with "M led" => (first | k_asm | exact news_rot1 (by k_asm) | exact news_rot2 (by k_asm) | exact news_rot3 (by k_asm) | exact news_rot4 (by k_asm))
  k_with "M ap" => (first | k_asm | k_all)
  k_with "M mem" => (repeat (first | exact List.mem_cons_self | assumption | refine List.mem_cons_of_mem _ ?_))
  k_with "M sub" => (intro q hq; repeat (first | assumption | refine List.mem_cons_of_mem _ ?_))
  k_with "subscriptTail" => (k_here; (with_reducible show wpAny _ _ (subscriptTail _ _ (Value.ref _) (Value.str _ _)) _ _ _); k_dflt (first | refine kda_item (knd := PySem.strKind _ _) (by k_asm) (by walk_at "M mem") (by assumption) (strKind_is _ _ _ _) pv1 ?_ | refine kda_item (knd := PySem.strKind _ _) (by k_asm) (by walk_at "M mem") (by assumption) (strKind_is _ _ _ _) pv2 ?_ | refine kda_item (knd := PySem.strKind _ _) (by k_asm) (by walk_at "M mem") (by assumption) (strKind_is _ _ _ _) pv3 ?_ | refine kda_item (knd := PySem.strKind _ _) (by k_asm) (by walk_at "M mem") (by assumption) (strKind_is _ _ _ _) pv4 ?_ | refine kda_item (knd := PySem.strKind _ _) (by k_asm) (by walk_at "M mem") (by assumption) (strKind_is _ _ _ _) pv5 ?_))
  k_with "setItem ref str" => (k_here; (with_reducible show wpAny _ _ (setItem (Value.ref _) (Value.str _ _) _) _ _ _); k_dflt (refine' kda_set (knd := PySem.strKind _ _) ?F ?N ?U ?d (strKind_is _ _ _ _) ?z ?_; (case F => k_asm); (case N => k_asm); (case U => k_updF); (case d => assumption); (case z => exact pg_sz)); intro h' o' F' N' hd'; (try dsimp only at N'); (first | rw [st2] at hd' | rw [st3] at hd' | rw [st4] at hd' | rw [st1 (tx_app _ _)] at hd'))
  k_with "M call" => ((with_reducible show wpAny _ _ (call (Value.ref 347) _) _ _ _); k_dflt (refine' c_pour ?u1x ?u2x ?u3x ?u4x ?u5x ?uKx ?udx ?uux ?z1 ?z2 ?z3 ?z4 ?z5 ?z6 ?z7 ?_; walk_at "M use"; (case u4x => walk_at "M led"); (case z1 => assumption); (case z2 => walk_at "M ap"); (case z3 => omega); (case z4 => omega); (case z5 => omega); (case z6 => omega); (case z7 => omega)); k_whole; intro h' tk' t1' t2' t3' o' F' N' D'; (try dsimp only); (try k_sweep))
  k_steps
  rename News h₀ _ _ _ => kN'
  exact hret _ _ _ _ _ _ [] (by assumption) (news_sub kN' (by (repeat refine List.forall_mem_cons.mpr (And.intro (by walk_at "M mem") ?_)); walk_at "M sub")) (by assumption) (fun _ h => absurd h List.not_mem_nil)
end

-- 74aloops
section
structure PX where
  (o : Obj) (dv : List Value) (n : Nat) (t1 t2 t3 : Tok) (ca cb : Int) (u1 u2 : Tok) (cn : Nat)
noncomputable abbrev LedP (pg dl c : Addr) (x : PX) : List (Addr × Obj) := [(pg, x.o), (dl, W.listOf x.dv.toArray x.n), (c, ckO x.ca x.cb x.u1 x.u2 x.cn)]
noncomputable def PgOk (w : World) (pg dl c : Addr) (x : PX) (st : PS) (D rest : List (Addr × Obj)) : Prop :=
  PgIs w x.o st.S st.p dl x.t1 x.t2 x.t3 ∧ DatAll D x.dv st.ds ∧ 0 ≤ x.ca ∧ 0 ≤ x.cb ∧ (∀ q ∈ rest, q.1 ≠ pg ∧ q.1 ≠ dl ∧ q.1 ≠ c)
noncomputable def InE (w : World) (h₀ : Heap) (L : Addr) (m : Str → Option Value) (pg dl c : Addr) (st' : PS) (D rest own : List (Addr × Obj)) (vary : (Str → Option Value) → (Str → Option Value) → Prop) (s : Shared) (fl : Flow) (s₂ : Shared) : Prop :=
  fl = .next ∧ ∃ h' tk' m' x' add, s₂ = { s with heap := h', toks := tk' } ∧ vary m m' ∧ Fr h₀ L h' m' ∧ News h₀ L h' (LedP pg dl c x' ++ (add ++ (rest ++ own))) ∧ PgOk w pg dl c x' st' (add ++ D) (add ++ rest) ∧ (∀ q ∈ add, ∀ r ∈ rest ++ own, r.1 ≠ q.1)
/-- the end of a turn of the page: some words and a gap were laid -/
noncomputable def TurnE (Pk : List (List PW × List Nat) → Prop) (picks : List (List PW × List Nat)) (st : PS) (w : World) (h₀ : Heap) (L : Addr) (m : Str → Option Value) (pg dl c : Addr) (rest own : List (Addr × Obj)) (vary : (Str → Option Value) → (Str → Option Value) → Prop) (s : Shared) (fl : Flow) (s₂ : Shared) : Prop :=
  ∃ q, Pk (picks ++ [q]) ∧ InE w h₀ L m pg dl c (turnF st q) rest rest own vary s fl s₂
noncomputable def Vary1 (xn : Str) (m m' : Str → Option Value) : Prop := ∃ vl, m' = fun z => if z = xn then vl else m z
noncomputable def Vary2 (x1 x2 : Str) (m m' : Str → Option Value) : Prop := ∃ v1 v2, m' = fun z => if z = x2 then v2 else if z = x1 then v1 else m z
section
variable {prog : Program} {w : World} {A : Around} {E : Value → Shared → Prop} {s : Shared} {env : Env} {h₀ : Heap} {body : List Stmt} {Q : Flow → Shared → Prop} {m : Str → Option Value} {pg dl c : Addr}
theorem inE_post {J : (Str → Option Value) → List (Addr × Obj) → Prop} {x₀ : PX} {st' : PS} {D rest own : List (Addr × Obj)} {vary : (Str → Option Value) → (Str → Option Value) → Prop} {fl : Flow} {s₂ : Shared} {Qq : Flow → Shared → Prop}
    (h : InE w h₀ env.locals m pg dl c st' D rest own vary s fl s₂) (off : OwnOff own ((LedP pg dl c x₀ ++ rest).map (·.1)))
    (j : ∀ m' x' add, vary m m' → PgOk w pg dl c x' st' (add ++ D) (add ++ rest) → (∀ q ∈ add, ∀ r ∈ rest, r.1 ≠ q.1) → J m' (LedP pg dl c x' ++ (add ++ rest))) : InvPostG h₀ env.locals J own s Qq fl s₂ := by
  obtain ⟨rfl, h', tk', m', x', add, rfl, hv, F, N, ok, ha⟩ := h
  show InvEndG _ _ _ _ _ _
  refine ⟨h', tk', m', _, LedP pg dl c x' ++ (add ++ rest), rfl, F, N, ?_, ?_, ?_, j m' x' add hv ok fun q hq r hr => ha q hq r (List.mem_append_left _ hr)⟩
  · intro p hp
    simp only [List.mem_append] at hp ⊢
    rcases hp with hp | hp | hp
    · exact .inl hp
    · exact .inr (.inl hp)
    · exact .inr (.inr (.inl hp))
  · intro p hp
    simp only [List.mem_append]
    exact .inr (.inr (.inr hp))
  · intro p hp b hb e
    obtain ⟨q, hq, rfl⟩ := List.mem_map.mp hb
    rcases List.mem_append.mp hq with hq | hq
    · have : q.1 ∈ (LedP pg dl c x₀ ++ rest).map (·.1) := by
        simp only [LedP, List.mem_cons, List.not_mem_nil, or_false] at hq
        simp only [LedP, List.cons_append, List.nil_append, List.map_cons, List.mem_cons]
        rcases hq with rfl | rfl | rfl
        · exact .inl rfl
        · exact .inr (.inl rfl)
        · exact .inr (.inr (.inl rfl))
      exact off p hp _ this e
    · rcases List.mem_append.mp hq with hq | hq
      · exact ha q hq p (List.mem_append_right _ hp) e
      · exact off p hp _ (List.mem_map.mpr ⟨q, List.mem_append_right _ hq, rfl⟩) e
theorem own_three {x : PX} {rest own : List (Addr × Obj)} (off : OwnOff own ((LedP pg dl c x ++ rest).map (·.1))) : (∀ q ∈ own, q.1 ≠ pg ∧ q.1 ≠ dl ∧ q.1 ≠ c) ∧ ∀ q ∈ own, ∀ r ∈ rest, q.1 ≠ r.1 :=
  ⟨fun q hq => ⟨off q hq _ (by simp [LedP]), off q hq _ (by simp [LedP]), off q hq _ (by simp [LedP])⟩, fun q hq r hr => off q hq _ (List.mem_map.mpr ⟨r, List.mem_append_right _ hr, rfl⟩)⟩
theorem loop_words {xn : Str} {vs : List Value} {ws : List PW} {D rest : List (Addr × Obj)} {x : PX} {st : PS} {l : Addr} {nn : Nat}
    (hh : A.handled = none) (F : Fr h₀ env.locals s.heap m) (N : News h₀ env.locals s.heap (LedP pg dl c x ++ rest)) (hl : (l, W.listOf vs.toArray nn) ∈ rest) (hd : DatAll rest vs (ws.map pwD)) (ok : PgOk w pg dl c x st D rest)
    (turn : ∀ pre wd post v x' add own h tk, ws = pre ++ wd :: post → DatIn (add ++ rest) v (pwD wd) → PgOk w pg dl c x' (pre.foldl setW st) (add ++ D) (add ++ rest) → (∀ q ∈ own, q.1 ≠ pg ∧ q.1 ≠ dl ∧ q.1 ≠ c) → Fr h₀ env.locals h (fun z => if z = xn then some v else m z) → News h₀ env.locals h (LedP pg dl c x' ++ ((add ++ rest) ++ own)) →
      wpAny (model prog w) A (execs body env) (InE w h₀ env.locals m pg dl c (setW (pre.foldl setW st) wd) (add ++ D) (add ++ rest) own (Vary1 xn) { s with heap := h, toks := tk }) E { s with heap := h, toks := tk })
    (done : ∀ x' add vl h tk, (∀ q ∈ add, ∀ r ∈ rest, r.1 ≠ q.1) → PgOk w pg dl c x' (ws.foldl setW st) (add ++ D) (add ++ rest) → Fr h₀ env.locals h (fun z => if z = xn then vl else m z) → News h₀ env.locals h (LedP pg dl c x' ++ (add ++ rest)) → Q .next { s with heap := h, toks := tk }) :
    wpAny (model prog w) A (pyIter (.ref l)) (fun it s₂ => LoopAtV prog w A h₀ env xn body Q E it s₂) E s := by
  have hlen : vs.length = ws.length := by rw [hd.length, List.length_map]
  refine kdl_iter (fun i m₁ nx => ∃ vl x' add, m₁ = (fun z => if z = xn then vl else m z) ∧ nx = LedP pg dl c x' ++ (add ++ rest) ∧ (∀ q ∈ add, ∀ r ∈ rest, r.1 ≠ q.1) ∧ PgOk w pg dl c x' ((ws.take i).foldl setW st) (add ++ D) (add ++ rest)) hh (List.mem_append_right _ hl) F N ⟨m xn, x, [], ?_, rfl, fun _ h => absurd h List.not_mem_nil, ok⟩ ?_ ?_
  · funext z; by_cases hz : z = xn
    · simp [hz]
    · simp [hz]
  · intro i v m₁ nx h tk own hv hoff hlm hJ9 F₁ N₁
    refine byC fun hn9 => ?_
    obtain ⟨vl, x', add₀, rfl, rfl, hs, ok'⟩ := hJ9
    refine hn9 ?_
    clear hn9
    have hi : i < ws.length := by rw [← hlen]; exact (List.getElem?_eq_some_iff.mp hv).1
    obtain ⟨v', hv', hD⟩ := hd.get (k := i) (by rw [List.length_map]; exact hi)
    have ev : v' = v := by rw [hv] at hv'; exact (Option.some.inj hv').symm
    subst ev
    rw [List.getElem_map] at hD
    have e : ws = ws.take i ++ ws[i] :: ws.drop (i + 1) := by
      rw [← List.drop_eq_getElem_cons hi, List.take_append_drop]
    have e2 : ws.take (i + 1) = ws.take i ++ [ws[i]] := by rw [List.take_add_one, List.getElem?_eq_getElem hi]; rfl
    have hb : (fun z => if z = xn then some v' else (fun z => if z = xn then vl else m z) z) = fun z => if z = xn then some v' else m z := by
      funext z; by_cases hz : z = xn <;> simp [hz]
    rw [hb] at F₁
    rw [List.append_assoc] at N₁
    have o3 := own_three hoff
    refine wpAny_mono (turn _ _ _ v' x' add₀ own h tk e (hD.mono fun _ hp => List.mem_append_right _ hp) ok' o3.1 F₁ N₁) (fun fl s₂ hp => inE_post hp hoff fun m' x'' add hv ok'' hap => ⟨?_, ?_⟩) fun _ _ e => e
    · exact List.mem_append_right _ (List.mem_append_right _ (List.mem_append_right _ hl))
    · obtain ⟨vl', rfl⟩ := hv
      refine ⟨vl', x'', add ++ add₀, rfl, by rw [List.append_assoc], fun q hq r hr => ?_, ?_⟩
      · rcases List.mem_append.mp hq with hq | hq
        · exact hap q hq r (List.mem_append_right _ hr)
        · exact hs q hq r hr
      · rw [e2, List.foldl_append, List.append_assoc, List.append_assoc]
        exact ok''
  · intro m₁ nx h tk hJ9 F₁ N₁
    refine byC fun hn9 => ?_
    obtain ⟨vl, x', add₀, rfl, rfl, hs, ok'⟩ := hJ9
    refine hn9 ?_
    clear hn9
    rw [hlen, List.take_length] at ok'
    exact done x' add₀ vl h tk hs ok' F₁ N₁
theorem loop_turns {x1 x2 : Str} {r : Addr} {b₀ : Int} {t₀ u₀ v₀ : Tok} {n : Nat} {rest : List (Addr × Obj)} {x : PX} {st : PS} {Pk : List (List PW × List Nat) → Prop}
    (hx : x1 ≠ x2) (hh : A.handled = none) (hr : IsRange s.heap r 0 b₀ 1 t₀ u₀ v₀) (hsmall : Builtin.Range.small 0 b₀ 1 = true) (hsz : Builtin.Range.rangeSize 0 b₀ 1 = (n : Int)) (F : Fr h₀ env.locals s.heap m) (N : News h₀ env.locals s.heap (LedP pg dl c x ++ rest)) (ok : PgOk w pg dl c x st rest rest) (hp0 : Pk [])
    (turn : ∀ picks k t v2 x' rest' own h tk, picks.length < n → Pk picks → (∀ q ∈ rest, q ∈ rest') → PgOk w pg dl c x' (picks.foldl turnF st) rest' rest' → (∀ q ∈ own, q.1 ≠ pg ∧ q.1 ≠ dl ∧ q.1 ≠ c) → Fr h₀ env.locals h (fun z => if z = x2 then v2 else if z = x1 then some (.int k t) else m z) → News h₀ env.locals h (LedP pg dl c x' ++ (rest' ++ own)) →
      wpAny (model prog w) A (execs body env) (TurnE Pk picks (picks.foldl turnF st) w h₀ env.locals m pg dl c rest' own (Vary2 x1 x2) { s with heap := h, toks := tk }) E { s with heap := h, toks := tk })
    (done : ∀ picks x' rest' v1 v2 h tk, picks.length = n → Pk picks → (∀ q ∈ rest, q ∈ rest') → PgOk w pg dl c x' (picks.foldl turnF st) rest' rest' → Fr h₀ env.locals h (fun z => if z = x2 then v2 else if z = x1 then v1 else m z) → News h₀ env.locals h (LedP pg dl c x' ++ rest') → Q .next { s with heap := h, toks := tk }) :
    wpAny (model prog w) A (pyIter (.ref r)) (fun it s₂ => LoopAtV prog w A h₀ env x1 body Q E it s₂) E s := by
  refine wpAny_pyIter_range hr hsmall ?_
  have W : Walks prog w A s.heap.objs.size [s.heap.objs.size] [s.heap.objs.size] n (fun i v => i < n ∧ ∃ t, v = .int (0 + i * 1) t)
      (fun i h => IsRangeIter h s.heap.objs.size (0 + (i : Nat) * 1) ((n : Int) - (i : Nat)) 1) := (Walks.range hh _ 0 1 n).bound
  refine kdr_loop (fun i m₁ nx => ∃ v1 v2 x' rest' picks, m₁ = (fun z => if z = x2 then v2 else if z = x1 then v1 else m z) ∧ nx = LedP pg dl c x' ++ rest' ∧ picks.length = i ∧ Pk picks ∧ (∀ q ∈ rest, q ∈ rest') ∧ PgOk w pg dl c x' (picks.foldl turnF st) rest' rest') W (fun _ h => h) (fun _ h => h) ?_ ?_ ?_ ?_ (by show IsRangeIter _ _ _ _ _; rw [hsz]; simpa using Heap.get?_push_size _ rfl) (F.push _) (fun p hp => ⟨Heap.get?_push_of_some _ (N p hp).1, (N p hp).2⟩) ⟨m x1, m x2, x, rest, [], ?_, rfl, rfl, hp0, fun _ h => h, ok⟩ ?_ ?_
  · intro i h hi b hb
    rw [List.mem_singleton.mp hb]
    exact ⟨_, hi⟩
  · intro hm
    exact absurd F.ns.lt ((List.mem_singleton.mp hm) ▸ Nat.lt_irrefl _)
  · intro b hb
    rw [List.mem_singleton.mp hb]
    exact next_is_new F
  · intro p hp hI
    exact absurd (Heap.lt_size (N p hp).1) ((List.mem_singleton.mp hI) ▸ Nat.lt_irrefl _)
  · funext z
    by_cases h1 : z = x2
    · simp [h1]
    · by_cases h2 : z = x1
      · rw [if_neg h1, if_pos h2, h2]
      · rw [if_neg h1, if_neg h2]
  · intro i v m₁ nx h tk own hi hI9 hoff hJ9 F₁ N₁
    refine byC fun hn9 => ?_
    obtain ⟨_, t, rfl⟩ := hI9
    obtain ⟨v1, v2, x', rest', picks, rfl, rfl, rfl, hpk, hs, ok'⟩ := hJ9
    refine hn9 ?_
    clear hn9
    have hb : (fun z => if z = x1 then some (Value.int (0 + (picks.length : Int) * 1) t) else (fun z => if z = x2 then v2 else if z = x1 then v1 else m z) z) = fun z => if z = x2 then v2 else if z = x1 then some (Value.int (0 + (picks.length : Int) * 1) t) else m z := by
      funext z
      by_cases h1 : z = x1
      · rw [if_pos h1, if_neg (by rw [h1]; exact hx), if_pos h1]
      · rw [if_neg h1]
        by_cases h2 : z = x2
        · simp [h2]
        · simp [h1, h2]
    rw [hb] at F₁
    rw [List.append_assoc] at N₁
    have o3 := own_three hoff
    refine wpAny_mono (turn picks _ t v2 x' rest' own h tk hi hpk hs ok' o3.1 F₁ N₁) (fun fl s₂ hp => ?_) fun _ _ e => e
    obtain ⟨q, hq, hp⟩ := hp
    refine inE_post hp hoff fun m' x'' add hv ok'' _ => ?_
    obtain ⟨w1, w2, rfl⟩ := hv
    refine ⟨w1, w2, x'', add ++ rest', picks ++ [q], rfl, rfl, by simp, hq, fun q hq => List.mem_append_right _ (hs q hq), ?_⟩
    rw [List.foldl_append]
    exact ok''
  · intro m₁ nx h tk hJ9 F₁ N₁
    refine byC fun hn9 => ?_
    obtain ⟨v1, v2, x', rest', picks, rfl, rfl, hl, hpk, hs, ok'⟩ := hJ9
    refine hn9 ?_
    clear hn9
    exact done picks x' rest' v1 v2 h tk hl hpk hs ok' F₁ N₁
end
theorem news_in {g h : Heap} {L : Addr} {e1 e2 e3 : Addr × Obj} {add R : List (Addr × Obj)} (N : News g L h (e1 :: e2 :: (add ++ (e3 :: R)))) : News g L h (e1 :: e2 :: e3 :: (add ++ R)) :=
  news_sub N (List.forall_mem_cons.mpr ⟨.head _, List.forall_mem_cons.mpr ⟨.tail _ (.head _), List.forall_mem_cons.mpr ⟨.tail _ (.tail _ (List.mem_append_right _ (.head _))), fun q hq => .tail _ (.tail _ ((List.mem_append.mp hq).elim (fun h => List.mem_append_left _ h) fun h => List.mem_append_right _ (.tail _ h)))⟩⟩⟩)
theorem inE_word {w : World} {h₀ h' : Heap} {L : Addr} {m : Str → Option Value} {pg dl c : Addr} {s : Shared} {tk' : Nat} {xn : Str} {vl : Option Value} {o' : Obj} {dv : List Value} {v' : Value} {n' : Nat} {add D R own : List (Addr × Obj)} {ca cb : Int} {u1 u2 t1 t2 t3 : Tok} {cn : Nat} {sw : PS} {wd : PW}
    (F : Fr h₀ L h' (fun z => if z = xn then vl else m z)) (N : News h₀ L h' ((pg, o') :: (dl, W.listOf (dv ++ [v']).toArray n') :: (add ++ ((c, ckO ca cb u1 u2 cn) :: (R ++ own))))) (hk : (wd.kind != Str.ofString "") = true)
    (d : PgIs w o' (sw.S ++ wd.text.cps.toList) ((pourF wd.text.cps.toList sw.p).1, (pourF wd.text.cps.toList sw.p).2.1, false) dl t1 t2 t3) (I : DatIn add v' (rowT wd.kind wd.text.cps.toList wd.val sw.p (pourF wd.text.cps.toList sw.p))) (hdv : DatAll D dv sw.ds) (ha : 0 ≤ ca) (hb : 0 ≤ cb)
    (hR : ∀ q ∈ R, q.1 ≠ pg ∧ q.1 ≠ dl ∧ q.1 ≠ c) (A : ∀ q ∈ add, pg < q.1 ∧ dl < q.1 ∧ ∀ r ∈ (c, ckO ca cb u1 u2 cn) :: (R ++ own), r.1 < q.1) : InE w h₀ L m pg dl c (setW sw wd) D R own (Vary1 xn) s .next { s with heap := h', toks := tk' } := by
  refine ⟨rfl, h', tk', _, ⟨o', dv ++ [v'], n', t1, t2, t3, ca, cb, u1, u2, cn⟩, add, rfl, ⟨vl, rfl⟩, F, ?_, ?_, fun q hq r hr => Nat.ne_of_lt ((A q hq).2.2 r (.tail _ hr))⟩
  · have N' := news_in N
    exact N'
  · unfold setW
    rw [if_pos hk]
    refine ⟨d, (hdv.mono fun _ h => List.mem_append_right _ h).append (.one (I.mono fun _ h => List.mem_append_left _ h)), ha, hb, fun q hq => ?_⟩
    rcases List.mem_append.mp hq with hq | hq
    · exact ⟨Nat.ne_of_gt (A q hq).1, Nat.ne_of_gt (A q hq).2.1, Nat.ne_of_gt ((A q hq).2.2 _ (.head _))⟩
    · exact hR q hq
theorem inE_gap {w : World} {h₀ h' : Heap} {L : Addr} {m : Str → Option Value} {pg dl c : Addr} {s : Shared} {tk' : Nat} {xn : Str} {vl : Option Value} {o' : Obj} {dv : List Value} {n' : Nat} {add D R own : List (Addr × Obj)} {ca cb : Int} {u1 u2 t1 t2 t3 : Tok} {cn : Nat} {sw : PS} {wd : PW}
    (F : Fr h₀ L h' (fun z => if z = xn then vl else m z)) (N : News h₀ L h' ((pg, o') :: (dl, W.listOf dv.toArray n') :: (add ++ ((c, ckO ca cb u1 u2 cn) :: (R ++ own))))) (hk : (wd.kind != Str.ofString "") = false)
    (d : PgIs w o' (sw.S ++ wd.text.cps.toList) (pourF wd.text.cps.toList sw.p) dl t1 t2 t3) (hdv : DatAll D dv sw.ds) (ha : 0 ≤ ca) (hb : 0 ≤ cb)
    (hR : ∀ q ∈ R, q.1 ≠ pg ∧ q.1 ≠ dl ∧ q.1 ≠ c) : InE w h₀ L m pg dl c (setW sw wd) D R own (Vary1 xn) s .next { s with heap := h', toks := tk' } := by
  refine ⟨rfl, h', tk', _, ⟨o', dv, n', t1, t2, t3, ca, cb, u1, u2, cn⟩, [], rfl, ⟨vl, rfl⟩, F, ?_, ?_, fun q hq => absurd hq List.not_mem_nil⟩
  · have N' := news_in N
    exact news_sub N' (List.forall_mem_cons.mpr ⟨.head _, List.forall_mem_cons.mpr ⟨.tail _ (.head _), List.forall_mem_cons.mpr ⟨.tail _ (.tail _ (.head _)), fun q hq => .tail _ (.tail _ (.tail _ (List.mem_append_right _ hq)))⟩⟩⟩)
  · unfold setW
    rw [if_neg (by rw [hk]; decide)]
    exact ⟨d, hdv, ha, hb, hR⟩
theorem turnE_end {w : World} {h₀ h' : Heap} {L : Addr} {m : Str → Option Value} {pg dl c : Addr} {s : Shared} {tk' : Nat} {x1 x2 : Str} {v1 v2 : Option Value} {o' : Obj} {dv : List Value} {n' : Nat} {add R own : List (Addr × Obj)} {ca cb : Int} {u1 u2 t1 t2 t3 : Tok} {cn : Nat} {st sp : PS} {piece : List PW} {g : List Nat} {Pk : List (List PW × List Nat) → Prop} {picks : List (List PW × List Nat)}
    (F : Fr h₀ L h' (fun z => if z = x2 then v2 else if z = x1 then v1 else m z)) (N : News h₀ L h' ((pg, o') :: (dl, W.listOf dv.toArray n') :: (c, ckO ca cb u1 u2 cn) :: (add ++ (R ++ own)))) (hp : Pk (picks ++ [(piece, g)])) (e : piece.foldl setW st = sp)
    (d : PgIs w o' (sp.S ++ g) (pourF g sp.p) dl t1 t2 t3) (hdv : DatAll (add ++ R) dv sp.ds) (ha : 0 ≤ ca) (hb : 0 ≤ cb)
    (hR : ∀ q ∈ add ++ (R ++ own), q.1 ≠ pg ∧ q.1 ≠ dl ∧ q.1 ≠ c) (A : ∀ q ∈ add, ∀ r ∈ R ++ own, r.1 ≠ q.1) : TurnE Pk picks st w h₀ L m pg dl c R own (Vary2 x1 x2) s .next { s with heap := h', toks := tk' } := by
  subst e
  refine ⟨(piece, g), hp, rfl, h', tk', _, ⟨o', dv, n', t1, t2, t3, ca, cb, u1, u2, cn⟩, add, rfl, ⟨v1, v2, rfl⟩, F, N, ⟨d, hdv, ha, hb, fun q hq => hR q ?_⟩, A⟩
  rcases List.mem_append.mp hq with hq | hq
  · exact List.mem_append_left _ hq
  · exact List.mem_append_right _ (List.mem_append_left _ hq)
end

-- 74bpage
section
theorem news_q1 {h₀ h : Heap} {L : Addr} {p r : Addr × Obj} {l : List (Addr × Obj)} (N : News h₀ L h (r :: p :: l)) : News h₀ L h (p :: r :: l) := news_sub N (List.forall_mem_cons.mpr ⟨mi 1 rfl, (List.forall_mem_cons.mpr ⟨mi 0 rfl, fun q hq => .tail _ (.tail _ (hq))⟩)⟩)
theorem news_q2 {h₀ h : Heap} {L : Addr} {p r r2 : Addr × Obj} {l : List (Addr × Obj)} (N : News h₀ L h (r :: r2 :: p :: l)) : News h₀ L h (p :: r :: r2 :: l) := news_sub N (List.forall_mem_cons.mpr ⟨mi 2 rfl, (List.forall_mem_cons.mpr ⟨mi 0 rfl, (List.forall_mem_cons.mpr ⟨mi 1 rfl, fun q hq => .tail _ (.tail _ (.tail _ (hq)))⟩)⟩)⟩)
theorem news_q3 {h₀ h : Heap} {L : Addr} {p r r2 r3 : Addr × Obj} {l : List (Addr × Obj)} (N : News h₀ L h (r :: r2 :: r3 :: p :: l)) : News h₀ L h (p :: r :: r2 :: r3 :: l) := news_sub N (List.forall_mem_cons.mpr ⟨mi 3 rfl, (List.forall_mem_cons.mpr ⟨mi 0 rfl, (List.forall_mem_cons.mpr ⟨mi 1 rfl, (List.forall_mem_cons.mpr ⟨mi 2 rfl, fun q hq => .tail _ (.tail _ (.tail _ (.tail _ (hq))))⟩)⟩)⟩)⟩)
theorem news_q4 {h₀ h : Heap} {L : Addr} {p r r2 r3 r4 : Addr × Obj} {l : List (Addr × Obj)} (N : News h₀ L h (r :: r2 :: r3 :: r4 :: p :: l)) : News h₀ L h (p :: r :: r2 :: r3 :: r4 :: l) := news_sub N (List.forall_mem_cons.mpr ⟨mi 4 rfl, (List.forall_mem_cons.mpr ⟨mi 0 rfl, (List.forall_mem_cons.mpr ⟨mi 1 rfl, (List.forall_mem_cons.mpr ⟨mi 2 rfl, (List.forall_mem_cons.mpr ⟨mi 3 rfl, fun q hq => .tail _ (.tail _ (.tail _ (.tail _ (.tail _ (hq)))))⟩)⟩)⟩)⟩)⟩)
theorem news_q5 {h₀ h : Heap} {L : Addr} {p r r2 r3 r4 r5 : Addr × Obj} {l : List (Addr × Obj)} (N : News h₀ L h (r :: r2 :: r3 :: r4 :: r5 :: p :: l)) : News h₀ L h (p :: r :: r2 :: r3 :: r4 :: r5 :: l) := news_sub N (List.forall_mem_cons.mpr ⟨mi 5 rfl, (List.forall_mem_cons.mpr ⟨mi 0 rfl, (List.forall_mem_cons.mpr ⟨mi 1 rfl, (List.forall_mem_cons.mpr ⟨mi 2 rfl, (List.forall_mem_cons.mpr ⟨mi 3 rfl, (List.forall_mem_cons.mpr ⟨mi 4 rfl, fun q hq => .tail _ (.tail _ (.tail _ (.tail _ (.tail _ (.tail _ (hq))))))⟩)⟩)⟩)⟩)⟩)⟩)
end
section
theorem page0 {w : World} {o : Obj} {dl : Addr} {a1 a2 a3 a4 a5 t1 t2 t3 : Tok} (h : o.IsDictOf (strKind PySem.Challenge.rw_sy0021_01.row.prog w) (strPairs [(.str (Str.ofString "text") a1, .str (Str.ofString "") t1), (.str (Str.ofString "line") a2, .int 1 t2), (.str (Str.ofString "column") a3, .int 1 t3), (.str (Str.ofString "first") a4, .bool true), (.str (Str.ofString "due") a5, .ref dl)])) :
    PgIs w o [] (1, 1, true) dl t1 t2 t3 := by
  have e : Str.ofString "" = tx [] := by decide +kernel
  rw [e] at h
  exact h
theorem len_cellar {prog : Program} {w : World} {A : Around} {E : Value → Shared → Prop} {s : Shared} {h₀ : Heap} {L l : Addr} {news own : List (Addr × Obj)} {vs : List Value} {n : Nat} {Q : Value → Shared → Prop} (N : News h₀ L s.heap news) (hm : (l, W.listOf vs.toArray n) ∈ news) (hd : DatAll own vs (cellar.map fun l => .list (l.map pwD)))
    (h : Q (.int 17 (s.toks + 1)) { s with toks := s.toks + 1 + 1 }) : wpAny (model prog w) A (call (.builtin "len") [.ref l]) Q E s :=
  kd_len N hm hd (by rw [List.length_map]; decide) (by rw [List.length_map]; exact h)
theorem item_cellar {prog : Program} {w : World} {A : Around} {E : Value → Shared → Prop} {s : Shared} {h₀ : Heap} {L l : Addr} {news own : List (Addr × Obj)} {vs : List Value} {n : Nat} {k : Int} {u : Tok} {value slice : PySem.Expr} {Q : Value → Shared → Prop} (N : News h₀ L s.heap news) (hm : (l, W.listOf vs.toArray n) ∈ news) (hd : DatAll own vs (cellar.map fun l => .list (l.map pwD)))
    (h0 : 0 ≤ k) (h1 : k < 17) (h : ∀ lp vp np piece, piece ∈ cellar → (lp, W.listOf vp.toArray np) ∈ own → DatAll own vp (piece.map pwD) → Q (.ref lp) s)
    (hs : subscripted slice false (.ref l) (.int k u) = operate [.ref l, .int k u] (getItem (.ref l) (.int k u)) := by with_unfolding_all rfl) :
    wpAny (model prog w) A (subscriptTail value slice (.ref l) (.int k u)) Q E s := by
  refine kd_item N hm hd h0 (by rw [List.length_map]; exact h1) (by omega) (fun v d _ hmem hD => ?_) hs
  obtain ⟨piece, hp, rfl⟩ := List.mem_map.mp hmem
  obtain ⟨lp, vp, np, rfl, h2, h3⟩ := DatIn.asList hD
  exact h lp vp np piece hp h2 h3
theorem gap_eq : [Str.ofString " ", Str.ofString "  ", Str.ofString "\n", Str.ofString "\r", Str.ofString "\r\n ", Str.ofString "\x0c", Str.ofString " \x0c\r "] = gapsL.map tx := by decide +kernel
theorem item_gap {prog : Program} {w : World} {A : Around} {E : Value → Shared → Prop} {s : Shared} {h₀ : Heap} {L l : Addr} {news : List (Addr × Obj)} {n : Nat} {k : Int} {u t1 t2 t3 t4 t5 t6 t7 : Tok} {value slice : PySem.Expr} {Q : Value → Shared → Prop} (N : News h₀ L s.heap news)
    (hm : (l, W.listOf #[.str (Str.ofString " ") t1, .str (Str.ofString "  ") t2, .str (Str.ofString "\n") t3, .str (Str.ofString "\r") t4, .str (Str.ofString "\r\n ") t5, .str (Str.ofString "\x0c") t6, .str (Str.ofString " \x0c\r ") t7] n) ∈ news)
    (h0 : 0 ≤ k) (h1 : k < 7) (h : ∀ g t, g ∈ gapsL → Q (.str (tx g) t) s)
    (hs : subscripted slice false (.ref l) (.int k u) = operate [.ref l, .int k u] (getItem (.ref l) (.int k u)) := by with_unfolding_all rfl) :
    wpAny (model prog w) A (subscriptTail value slice (.ref l) (.int k u)) Q E s := by
  have hd : DatAll [] [Value.str (Str.ofString " ") t1, .str (Str.ofString "  ") t2, .str (Str.ofString "\n") t3, .str (Str.ofString "\r") t4, .str (Str.ofString "\r\n ") t5, .str (Str.ofString "\x0c") t6, .str (Str.ofString " \x0c\r ") t7] ((gapsL.map tx).map Dat.str) := by
    rw [← gap_eq]
    exact .cons (.str _ _) (.cons (.str _ _) (.cons (.str _ _) (.cons (.str _ _) (.cons (.str _ _) (.cons (.str _ _) (.cons (.str _ _) .nil))))))
  refine kd_item (us := [_, _, _, _, _, _, _]) N hm hd h0 (by rw [List.length_map, List.length_map]; exact h1) (by omega) (fun v d _ hmem hD => ?_) hs
  obtain ⟨y, hy, rfl⟩ := List.mem_map.mp hmem
  obtain ⟨g, hg, rfl⟩ := List.mem_map.mp hy
  cases hD
  exact h g _ hg
theorem range6 {b : Int} (h0 : 0 ≤ b) (h1 : b < 6) : Builtin.Range.small 0 b 1 = true ∧ Builtin.Range.rangeSize 0 b 1 = ((b.toNat : Nat) : Int) := by
  obtain ⟨n, rfl⟩ := Int.eq_ofNat_of_zero_le h0
  have h : ∀ k : Fin 6, Builtin.Range.small 0 (k.val : Int) 1 = true ∧ Builtin.Range.rangeSize 0 (k.val : Int) 1 = (((k.val : Int).toNat : Nat) : Int) := by decide
  exact h ⟨n, Int.ofNat_lt.mp h1⟩
theorem vary_norm {xw x1 : Str} {vl v2 a : Option Value} {m0 : Str → Option Value} : (fun z => if z = xw then vl else if z = xw then v2 else if z = x1 then a else m0 z) = fun z => if z = xw then vl else if z = x1 then a else m0 z := by
  funext z
  by_cases h : z = xw
  · simp [h]
  · simp [h]
section
theorem c_page {w : World} {dp un : Nat} {gd : Option (List Code)} {cn : Str} {cs : Scope} {a : Addr} {ccd : Value} {cl : List (Str × Addr)} {outer : List Env} {A₀ : Around} {base h₀ : Heap} {L : Addr} {m : Str → Option Value} {s : Shared} {mean : ExcName → Option Value} {mg mb : Str → Option Value} {Q E : Value → Shared → Prop} {rest : List (Addr × Obj)} {c : Addr} {ca cb : Int} {u1 u2 : Tok} {n : Nat}
  (B : Below A₀ base outer h₀) (F : Fr h₀ L s.heap m) (X : (Mine.hd.heap_1 w.params).In h₀) (N : News h₀ L s.heap ((c, ckO ca cb u1 u2 n) :: rest)) (TT : Top Mine.hd.view_1 lz mean mg mb h₀) (hk : cs.kind = .function) (hd : dp + 4 < recursionLimit) (hu : un + 8 * 4 < cLine)
  (ha : 0 ≤ ca) (hb : 0 ≤ cb) (hap : ∀ q ∈ rest, q.1 ≠ c)
  (hret : ∀ h' tk' pg dl x picks rest', c < pg → pg < dl → Fr h₀ L h' m → News h₀ L h' (LedP pg dl c x ++ rest') → (∀ q ∈ rest, q ∈ rest') → PgOk w pg dl c x (pageF picks) rest' rest' → picks.length ≤ 5 → (∀ q ∈ picks, q.1 ∈ cellar ∧ q.2 ∈ gapsL) → Q (.ref pg) { s with heap := h', toks := tk' }) :
  wpAny (model PySem.Challenge.rw_sy0021_01.row.prog w) (ktrTop dp un gd cn cs L a ccd cl outer) (call (.ref 361) [.ref c]) Q E s := by
  have hfill : (Mine.hd.heap_1 = Mine.hd.heap_1 ∧ PySem.Challenge.rw_sy0021_01 = PySem.Challenge.rw_sy0021_01) := by k_fill; exact ⟨rfl, rfl⟩
  clear hfill
  refine wpAny_call ?_
  k_with_none
  k_with "M enter" => (refine' code_def ?k1 ?k2 ?k3 ?k4 ?k5 ?kA ?kF ?kK ?k6 ?k7 ?k8 ?k9 ?kB ?_ ?c2 ?c3 ?c4 ?c5; (case kA => exact rfl); (case kF => exact rfl); (case kK => assumption); (case k1 => k_asm); (case k2 => k_asm); (case k3 => k_asm); (case k4 => k_asm); (case k5 => k_asm); (case k6 => k_is); (case k7 => k_is); (case k8 => first | exact rm0 (by assumption) | ktr_room); (case k9 => first | exact BindsTo.of_eq rfl | exact binds_K (by k_in) rfl (by k_is) rfl rfl rfl); (case c5 => decide); (case kB => exact locs rfl); (case c2 => exact rfl); (case c3 => exact rfl); (case c4 => exact rfl); k_whole; intro g' L' h' FG' F' N' B' X' T'; (try dsimp only); (try k_lift B'); (try k_fold))
  k_dflt (walk_at "M enter")
  k_with_none
  k_with "M om" => (first | with_reducible assumption | exact Nat.le_succ_of_le (by with_reducible assumption) | exact Nat.le_of_lt (by with_reducible assumption) | exact Nat.le_of_succ_le (by with_reducible assumption) | exact Nat.le_trans (by with_reducible assumption) (by decide) | exact Nat.le_trans (Nat.le_of_succ_le (by with_reducible assumption)) (Nat.le_trans (by with_reducible assumption) (by decide)))
  k_with "M use" => ((case u1x => k_asm); (case u2x => k_asm); (case u3x => k_asm); (case u5x => k_asm); (case uKx => first | assumption | exact rfl); (case udx => first | exact rmA (by assumption) (by decide) | ktr_room); (case uux => first | exact umA (by assumption) (by decide) | ktr_units))
  k_with "M in" => (first | with_reducible assumption | exact Frag.In.keeps (by with_reducible assumption) (Fr.keep (by with_reducible assumption)))
  k_with "call ref" => (k_here; k_extra "M call")
  k_with "call ref" => (k_here; with_reducible first | refine call_app0 ?_ | refine call_app1 ?_ | refine call_app2 ?_)
  k_with "M kN" => (first | assumption | exact news_tl1 (by assumption) | exact news_tl2 (by assumption) | exact news_tl3 (by assumption) | exact news_tl4 (by assumption) | exact news_dr1 (by assumption) | exact news_dr2 (by assumption) | exact news_dr3 (by assumption))
  k_with "eval Call" => (k_here; k_dflt (refine Call_ ?_))
  k_with "M all" => (first | assumption | exact apart_of (by first | assumption | exact And.right (by assumption) | exact And.right (And.right (by assumption)) | exact And.right (And.right (And.right (by assumption))) | exact And.right (And.right (And.right (And.right (by assumption))))))
  k_with "M led" => (first | k_asm | exact news_rot1 (by k_asm) | exact news_rot2 (by k_asm) | exact news_rot3 (by k_asm) | exact news_rot4 (by k_asm))
  k_with "M ap" => (first | k_asm | k_all)
  k_with "M ne" => (first | k_asm | k_ne)
  k_with "M mem" => (repeat (first | exact List.mem_cons_self | assumption | refine List.mem_cons_of_mem _ ?_))
  k_with "M sub" => (intro q hq; repeat (first | assumption | refine List.mem_cons_of_mem _ ?_))
  k_with "pyIter ref" => (k_here; k_extra "M rng")
  k_with "M kN" => (first | assumption | (refine news_sub (by assumption) ?_; (repeat refine List.forall_mem_cons.mpr (And.intro (by walk_at "M mem") ?_)); walk_at "M sub"))
  k_with "pyIter ref" => (k_here; (with_reducible show wpAny _ _ (pyIter (Value.ref _)) (fun it s₂ => TurnsAt _ _ _ _ _ _ _ _ _ it s₂) _ _); (rename Fr _ _ _ _ => lF'); (rename News _ _ _ _ => lN'); (with_unfolding_all refine' iter_tupTurns ?th lF' lN' List.mem_cons_self ?tc ?td ?_; (case th => exact rfl); (case tc => exact rfl); (case td => exact rfl)); clear lF' lN'; intro i' l1)
  k_with "M call" => ((with_reducible show wpAny _ _ (call (Value.ref 333) _) _ _ _); k_dflt (refine' c_tap ?u1x ?u2x ?u3x ?u4x ?u5x ?uKx ?udx ?uux ?z1 ?z2 ?z3 ?z4 ?z5 ?_; walk_at "M use"; (case u4x => walk_at "M led"); (case z1 => assumption); (case z2 => assumption); (case z3 => first | decide | omega); (case z4 => first | decide | omega); (case z5 => walk_at "M ap")); k_whole; intro h' tk' a' b' u1' u2' n' mug' t' p1 p2 p3 p4 F' N'; (try dsimp only); (try k_sweep))
  k_with "subscriptTail" => (k_here; (with_reducible show wpAny _ _ (subscriptTail _ _ (Value.ref _) (Value.str _ _)) _ _ _); k_dflt (first | refine kda_item (knd := PySem.strKind _ _) (by k_asm) (by walk_at "M mem") (by assumption) (strKind_is _ _ _ _) pv1 ?_ | refine kda_item (knd := PySem.strKind _ _) (by k_asm) (by walk_at "M mem") (by assumption) (strKind_is _ _ _ _) pv2 ?_ | refine kda_item (knd := PySem.strKind _ _) (by k_asm) (by walk_at "M mem") (by assumption) (strKind_is _ _ _ _) pv3 ?_ | refine kda_item (knd := PySem.strKind _ _) (by k_asm) (by walk_at "M mem") (by assumption) (strKind_is _ _ _ _) pv4 ?_ | refine kda_item (knd := PySem.strKind _ _) (by k_asm) (by walk_at "M mem") (by assumption) (strKind_is _ _ _ _) pv5 ?_))
  k_with "M call" => ((with_reducible show wpAny _ _ (call (Value.ref 347) _) _ _ _); k_dflt (refine' c_pour ?u1x ?u2x ?u3x ?u4x ?u5x ?uKx ?udx ?uux ?z1 ?z2 ?z3 ?z4 ?z5 ?z6 ?z7 ?_; walk_at "M use"; (case u4x => walk_at "M led"); (case z1 => assumption); (case z2 => walk_at "M ap"); (case z3 => omega); (case z4 => omega); (case z5 => omega); (case z6 => omega); (case z7 => omega)); k_whole; intro h' tk' t1' t2' t3' o' F' N' D'; (try dsimp only); (try k_sweep))
  k_with "M call" => ((with_reducible show wpAny _ _ (call (Value.ref 354) _) _ _ _); k_dflt (refine' c_set_word ?u1x ?u2x ?u3x ?u4x ?u5x ?uKx ?udx ?uux ?z1 ?z3 ?z4 ?z5 ?z6 ?z7 ?z8 ?z9 ?y1 ?y2 ?y3 ?y4 ?y5 ?y6 ?_; walk_at "M use"; (case u4x => walk_at "M kN"); (case z1 => assumption); (case z3 => assumption); (case z4 => assumption); (case z5 => walk_at "M ne"); (case z6 => walk_at "M ne"); (case z7 => walk_at "M ne"); (case z8 => walk_at "M ap"); (case z9 => walk_at "M ap"); (case y1 => omega); (case y2 => omega); (case y3 => omega); (case y4 => omega); (case y5 => omega); (case y6 => omega)); k_whole; intro h' tk' t1' t2' t3' o' v' n' add' F' N' D' I' A'; (try dsimp only); (try k_sweep))
  k_with "M call" => ((with_reducible show wpAny _ _ (call (Value.ref 354) _) _ _ _); k_dflt (refine' c_set_gap ?u1x ?u2x ?u3x ?u4x ?u5x ?uKx ?udx ?uux ?z1 ?z3 ?z4 ?z5 ?z6 ?z7 ?z8 ?z9 ?y1 ?y2 ?y3 ?y4 ?y5 ?_; walk_at "M use"; (case u4x => walk_at "M kN"); (case z1 => assumption); (case z3 => assumption); (case z4 => assumption); (case z5 => walk_at "M ne"); (case z6 => walk_at "M ne"); (case z7 => walk_at "M ne"); (case z8 => walk_at "M ap"); (case z9 => walk_at "M ap"); (case y1 => omega); (case y2 => omega); (case y3 => omega); (case y4 => omega); (case y5 => omega)); k_whole; intro h' tk' t1' t2' t3' o' add' F' N' D' A'; (try dsimp only); (try k_sweep))
  k_with "M led" => (first | k_asm | exact news_q1 (by k_asm) | exact news_q2 (by k_asm) | exact news_q3 (by k_asm) | exact news_q4 (by k_asm) | exact news_q5 (by k_asm))
  k_with "exec For Name Subscript cons nil" => (k_here; (rename Fr _ _ _ _ => lF'); (with_unfolding_all refine' For_invVF lF' ?k1 ?k2 ?_; (case k1 => exact rfl); (case k2 => exact rfl); k_whole))
  k_with "M mem" => (repeat (first | exact List.mem_cons_self | assumption | exact List.mem_append_left _ (by assumption) | exact List.mem_append_right _ (by assumption) | exact List.mem_append_left _ (List.mem_append_left _ (by assumption)) | exact List.mem_append_left _ (List.mem_append_right _ (by assumption)) | refine List.mem_cons_of_mem _ ?_))
  k_with "M call" => ((with_reducible show wpAny _ _ (call (Value.ref 340) _) _ _ _); k_extra "M cel")
  k_with "call builtin:len" => (k_here; (with_reducible show wpAny _ _ (call (Value.builtin "len") [Value.ref _]) _ _ _); k_dflt (refine len_cellar (by k_asm) (by walk_at "M mem") (by assumption) ?_))
  k_with "subscriptTail" => (k_here; (with_reducible show wpAny _ _ (subscriptTail _ _ (Value.ref _) (Value.int _ _)) _ _ _); k_dflt (first | refine item_gap (by k_asm) (by walk_at "M mem") (by omega) (by omega) ?_ | refine item_cellar (by k_asm) (by walk_at "M mem") (by assumption) (by omega) (by omega) ?_); k_extra "M item")
  k_with "M cel" => (
    rename_i pgA _ _ _ _ l1A dlA _ l2A _ oA hdA _ fA nA
    obtain ⟨T1, T2, T3, hpg⟩ : ∃ t1 t2 t3, PgIs w oA [] (1, 1, true) dlA t1 t2 t3 := ⟨_, _, _, page0 hdA⟩
    k_dflt (refine' c_cellar2 ?u1x ?u2x ?u3x ?u4x ?u5x ?uKx ?udx ?uux ?_; walk_at "M use"; (case u4x => k_asm)); k_whole; intro hC tkC lC vsC nC ownC FC NC hmC hdC haC
    have hcp : c < pgA := l1A.1
    have hpd : pgA < dlA := l2A.1
    have hcd : c < dlA := l2A.2.1
    have hn1 : pgA ≠ c := Nat.ne_of_gt hcp
    have hn2 : dlA ≠ c := Nat.ne_of_gt hcd
    have hn3 : pgA ≠ dlA := Nat.ne_of_lt hpd
    have hn5 : c ≠ pgA := Nat.ne_of_lt hcp
    have hn6 : c ≠ dlA := Nat.ne_of_lt hcd
    have hn4 : dlA ≠ pgA := Nat.ne_of_gt hpd
    have hr1 : ∀ q ∈ rest ++ ownC, q.1 ≠ c := fun q hq => (List.mem_append.mp hq).elim (hap q) fun h => Nat.ne_of_gt (haC q h (c, _) (.tail _ (.tail _ (.head _))))
    have hr2 : ∀ q ∈ rest ++ ownC, q.1 ≠ pgA := fun q hq => (List.mem_append.mp hq).elim (fun h => Nat.ne_of_lt (ktn_ltOf l1A.2 q h)) fun h => Nat.ne_of_gt (haC q h (pgA, _) (.tail _ (.head _)))
    have hr3 : ∀ q ∈ rest ++ ownC, q.1 ≠ dlA := fun q hq => (List.mem_append.mp hq).elim (fun h => Nat.ne_of_lt (ktn_ltOf l2A.2.2 q h)) fun h => Nat.ne_of_gt (haC q h (dlA, _) (.head _))
    clear haC l1A l2A hdA fA nA hap
    (try simp only [List.cons_append, List.append_assoc] at NC)
    (try dsimp only)
    (try k_fold))
  k_with "M item" => (first | (intro gI tI hgI; have hglen := gaps_len gI hgI; (try dsimp only); (try k_fold)) | (intro lpI vpI npI pieceI hpI hmI hdI; have hmI' := hs _ (List.mem_append_right _ hmI); (try dsimp only); (try k_fold)))
  k_with "M rng" => (
    first
    | k_dflt (
       rename_i _ _ _ _ _ _ _ lR' lF' lN' _
       have hN0 := news_sub (l' := LedP pgA dlA c ⟨oA, [], 0, T1, T2, T3, a', b', u1', u2', n'⟩ ++ (rest ++ ownC)) lN' (List.forall_mem_cons.mpr ⟨by walk_at "M mem", List.forall_mem_cons.mpr ⟨by walk_at "M mem", List.forall_mem_cons.mpr ⟨by walk_at "M mem", fun q hq => .tail _ (.tail _ (.tail _ hq))⟩⟩⟩)
       refine' loop_turns (x1 := Str.ofString "turn") (x2 := Str.ofString "word") (n := mug'.toNat) (st := ⟨[], (1, 1, true), []⟩) (Pk := fun picks => ∀ q ∈ picks, q.1 ∈ cellar ∧ q.2 ∈ gapsL) ?hx ?hh lR' (range6 p3 p4).1 (range6 p3 p4).2 lF' hN0 ?ok ?hp ?turn ?done
       (case hx => decide +kernel)
       (case hh => exact rfl)
       (case ok => exact ⟨hpg, .nil, p1, p2, fun q hq => ⟨hr2 q hq, hr3 q hq, hr1 q hq⟩⟩)
       (case hp => exact fun q hq => absurd hq List.not_mem_nil)
       (all_goals (clear lF' lN' lR' hN0))
       (case' turn => (
         intro picks kt tt v2 x' rest' own h tk hlen hpk hs ok' hown kFr kNews
         obtain ⟨xo, xdv, xn, xt1, xt2, xt3, xa, xb, xu1, xu2, xcn⟩ := x'
         have hbnd := page_bnd picks ⟨[], (1, 1, true), []⟩ 0 ⟨Nat.le_refl _, Nat.le_refl _, Nat.le_refl _, Nat.le_refl _, Nat.le_refl _⟩ hpk
         generalize hst : picks.foldl turnF ⟨[], (1, 1, true), []⟩ = st at ok' hbnd ⊢
         refine byC fun hn9 => ?_
         obtain ⟨hpgx, hdd, hxa, hxb, hapx⟩ := ok'
         obtain ⟨b1, b2, b3, b4, b5⟩ := hbnd
         refine hn9 ?_
         clear hn9
         dsimp only at hpgx hdd hxa hxb
         simp only [LedP, List.cons_append, List.nil_append] at kNews
         have hR1 : ∀ q ∈ rest' ++ own, q.1 ≠ c := fun q hq => (List.mem_append.mp hq).elim (fun h => (hapx q h).2.2) fun h => (hown q h).2.2
         have hR2 : ∀ q ∈ rest' ++ own, q.1 ≠ pgA := fun q hq => (List.mem_append.mp hq).elim (fun h => (hapx q h).1) fun h => (hown q h).1
         have hR3 : ∀ q ∈ rest' ++ own, q.1 ≠ dlA := fun q hq => (List.mem_append.mp hq).elim (fun h => (hapx q h).2.1) fun h => (hown q h).2.1
         have hlen' : picks.length ≤ 4 := by omega
         have hmL := hs _ (List.mem_append_right _ hmC)
         clear hr1 hr2 hr3
         (try k_fold)))
       (case' done => (
         intro picks x' rest' v1 v2 h tk hlen hpk hs ok' kFr kNews
         (try k_fold))))
    | k_dflt (
       rename Fr _ _ _ _ => lF'
       rename News _ _ _ _ => lN'
       have hN0 := news_sub (l' := LedP pgA dlA c ⟨xo, xdv, xn, xt1, xt2, xt3, a', b', u1', u2', n'⟩ ++ (rest' ++ own)) lN' (List.forall_mem_cons.mpr ⟨by walk_at "M mem", List.forall_mem_cons.mpr ⟨by walk_at "M mem", List.forall_mem_cons.mpr ⟨by walk_at "M mem", fun q hq => .tail _ (.tail _ (.tail _ hq))⟩⟩⟩)
       refine' loop_words (xn := Str.ofString "word") (st := st) (ws := pieceI) (D := rest') (rest := rest' ++ own) ?hh2 lF' hN0 (List.mem_append_left _ hmI') (hdI.mono fun q hq => List.mem_append_left _ (hs q (List.mem_append_right _ hq))) ?ok2 ?turn2 ?done2
       (case hh2 => exact rfl)
       (case ok2 => exact ⟨hpgx, hdd, p1, p2, fun q hq => ⟨hR2 q hq, hR3 q hq, hR1 q hq⟩⟩)
       (all_goals (clear lF' lN' hN0))
       (case' turn2 => (
         intro pre wd post v xw addW own2 h2 tk2 hws hvW okw hown2 kFr kNews
         obtain ⟨yo, ydv, yn, yt1, yt2, yt3, ya, yb, yu1, yu2, ycn⟩ := xw
         have hwm : wd ∈ pieceI := by rw [hws]; simp
         have hbw := sets_bnd (l := pre) ⟨b1, b2, b3, b4, b5⟩ fun y hy => (cellar_len _ hpI).2 y (by rw [hws]; simp [hy])
         have hwl : wlen pre ≤ 40 := Nat.le_trans wlen_pre (hws ▸ (cellar_len _ hpI).1)
         have hwy : wd.text.cps.toList.length ≤ 1000 := word_le (cellar_len _ hpI).1 hwm
         generalize hsw : pre.foldl setW st = sw at okw hbw ⊢
         refine byC fun hn9 => ?_
         obtain ⟨hpgy, hdy, hya, hyb, hapy⟩ := okw
         obtain ⟨c1, c2, c3, c4, c5⟩ := hbw
         dsimp only at hpgy hdy hya hyb
         obtain ⟨wa, wta, wtb, wv3, wn, rfl, hwa, hw3'⟩ := pw_in hvW
         refine hn9 ?_
         clear hn9
         have hw3 := scal_in (cellar_scal _ hpI _ hwm) hw3'
         have hwh : handedIn wv3 = true := hw3.handed
         have hwap := hapy _ hwa
         have hw1 : wa ≠ pgA := hwap.1
         have hw2 : wa ≠ dlA := hwap.2.1
         have hU : ∀ q ∈ (addW ++ (rest' ++ own)) ++ own2, q.1 ≠ pgA ∧ q.1 ≠ dlA ∧ q.1 ≠ c := fun q hq => (List.mem_append.mp hq).elim (hapy q) (hown2 q)
         have hU1 : ∀ q ∈ (c, ckO ya yb yu1 yu2 ycn) :: ((addW ++ (rest' ++ own)) ++ own2), q.1 ≠ pgA := List.forall_mem_cons.mpr ⟨Ne.symm hn1, fun q hq => (hU q hq).1⟩
         have hU2 : ∀ q ∈ (c, ckO ya yb yu1 yu2 ycn) :: ((addW ++ (rest' ++ own)) ++ own2), q.1 ≠ dlA := List.forall_mem_cons.mpr ⟨Ne.symm hn2, fun q hq => (hU q hq).2.1⟩
         replace kNews := news_sub (l' := (pgA, yo) :: (dlA, W.listOf ydv.toArray yn) :: (wa, tup3n (.str wd.kind wta) (.str (tx wd.text.cps.toList) wtb) wv3 wn) :: (c, ckO ya yb yu1 yu2 ycn) :: ((addW ++ (rest' ++ own)) ++ own2)) kNews (List.forall_mem_cons.mpr ⟨.head _, List.forall_mem_cons.mpr ⟨.tail _ (.head _), List.forall_mem_cons.mpr ⟨.tail _ (.tail _ (.tail _ (show _ ∈ (addW ++ (rest' ++ own)) ++ own2 from List.mem_append_left _ hwa))), List.forall_mem_cons.mpr ⟨.tail _ (.tail _ (.head _)), fun q hq => .tail _ (.tail _ (.tail _ hq))⟩⟩⟩⟩)
         have hydl : ydv.length ≤ 1000 := by rw [hdy.length]; omega
         clear hU hR1 hR2 hR3 hown hown2 hwap hvW hwa hw3' hmI hmI' hdI hmL
         rcases hkd : (wd.kind != Str.ofString "")
         rotate_left
         (try k_fold)
         rotate_left
         (try k_fold)))
       (case' done2 => (
         intro xw addW vl h2 tk2 hapw okw kFr kNews
         obtain ⟨yo, ydv, yn, yt1, yt2, yt3, ya, yb, yu1, yu2, ycn⟩ := xw
         have hbw := sets_bnd (l := pieceI) ⟨b1, b2, b3, b4, b5⟩ (cellar_len _ hpI).2
         have hwl := (cellar_len _ hpI).1
         generalize hsp : pieceI.foldl setW st = sp at okw hbw ⊢
         refine byC fun hn9 => ?_
         obtain ⟨hpgy, hdy, hya, hyb, hapy⟩ := okw
         obtain ⟨c1, c2, c3, c4, c5⟩ := hbw
         refine hn9 ?_
         clear hn9
         dsimp only at hpgy hdy hya hyb
         simp only [LedP, List.cons_append, List.nil_append] at kNews
         have hT1 : ∀ q ∈ addW ++ (rest' ++ own), q.1 ≠ c := fun q hq => (hapy q hq).2.2
         have hT2 : ∀ q ∈ addW ++ (rest' ++ own), q.1 ≠ pgA := fun q hq => (hapy q hq).1
         clear hR1 hR2 hR3 hmI hmI' hdI hmL
         (try rw [vary_norm] at kFr)
         (try k_fold)))))
  k_steps
  · exact hret _ _ _ _ x' picks rest' hcp hpd (by assumption) (by assumption) (fun q hq => hs q (List.mem_append_left _ hq)) ok' (by omega) hpk
  · exact turnE_end (by assumption) (by walk_at "M kN") (fun q hq => by
      rcases List.mem_append.mp hq with hq | hq
      · exact hpk q hq
      · rw [List.mem_singleton.mp hq]; exact ⟨hpI, hgI⟩) hsp (by assumption) hdy (by assumption) (by assumption) hapy hapw
  · exact inE_gap (by assumption) (by walk_at "M kN") hkd (by assumption) hdy hya hyb hapy
  · exact inE_word (by assumption) (by walk_at "M kN") hkd (by assumption) (by assumption) hdy hya hyb hapy (by assumption)
end
end

-- 75spoilt
section
theorem news_f13 {h₀ h : Heap} {L : Addr} {a1 a2 a3 a4 a5 a6 a7 a8 a9 a10 a11 a12 a13 p : Addr × Obj} {l : List (Addr × Obj)} (N : News h₀ L h (a1 :: a2 :: a3 :: a4 :: a5 :: a6 :: a7 :: a8 :: a9 :: a10 :: a11 :: a12 :: a13 :: p :: l)) : News h₀ L h (p :: a1 :: a2 :: a3 :: a4 :: a5 :: a6 :: a7 :: a8 :: a9 :: a10 :: a11 :: a12 :: a13 :: l) :=
  news_sub N (List.forall_mem_cons.mpr ⟨mi 13 rfl, (List.forall_mem_cons.mpr ⟨mi 0 rfl, (List.forall_mem_cons.mpr ⟨mi 1 rfl, (List.forall_mem_cons.mpr ⟨mi 2 rfl, (List.forall_mem_cons.mpr ⟨mi 3 rfl, (List.forall_mem_cons.mpr ⟨mi 4 rfl, (List.forall_mem_cons.mpr ⟨mi 5 rfl, (List.forall_mem_cons.mpr ⟨mi 6 rfl, (List.forall_mem_cons.mpr ⟨mi 7 rfl, (List.forall_mem_cons.mpr ⟨mi 8 rfl, (List.forall_mem_cons.mpr ⟨mi 9 rfl, (List.forall_mem_cons.mpr ⟨mi 10 rfl, (List.forall_mem_cons.mpr ⟨mi 11 rfl, (List.forall_mem_cons.mpr ⟨mi 12 rfl, fun q hq => .tail _ (.tail _ (.tail _ (.tail _ (.tail _ (.tail _ (.tail _ (.tail _ (.tail _ (.tail _ (.tail _ (.tail _ (.tail _ (.tail _ hq)))))))))))))⟩)⟩)⟩)⟩)⟩)⟩)⟩)⟩)⟩)⟩)⟩)⟩)⟩)⟩)
theorem item_spoilt {prog : Program} {w : World} {A : Around} {E : Value → Shared → Prop} {s : Shared} {h₀ : Heap} {L l : Addr} {news : List (Addr × Obj)} {n : Nat} {k : Int} {u : Tok} {d0 d1 d2 d3 d4 d5 d6 d7 d8 d9 d10 d11 : Addr} {t0 u0 t1 u1 t2 u2 t3 u3 t4 u4 t5 u5 t6 u6 t7 u7 t8 u8 t9 u9 t10 u10 t11 u11 : Tok} {n0 n1 n2 n3 n4 n5 n6 n7 n8 n9 n10 n11 : Nat} {value slice : PySem.Expr} {Q : Value → Shared → Prop} (N : News h₀ L s.heap news)
    (hm : (l, W.listOf #[.ref d0, .ref d1, .ref d2, .ref d3, .ref d4, .ref d5, .ref d6, .ref d7, .ref d8, .ref d9, .ref d10, .ref d11] n) ∈ news)
    (hq0 : (d0, ({ cls := .type "tuple", data := .seq #[.str (Str.ofString "1.5") t0, .int 0 u0] n0 } : Obj)) ∈ news)
    (hq1 : (d1, ({ cls := .type "tuple", data := .seq #[.str (Str.ofString "1e3") t1, .int 0 u1] n1 } : Obj)) ∈ news)
    (hq2 : (d2, ({ cls := .type "tuple", data := .seq #[.str (Str.ofString "2E+7") t2, .int 0 u2] n2 } : Obj)) ∈ news)
    (hq3 : (d3, ({ cls := .type "tuple", data := .seq #[.str (Str.ofString "30e-1") t3, .int 0 u3] n3 } : Obj)) ∈ news)
    (hq4 : (d4, ({ cls := .type "tuple", data := .seq #[.str (Str.ofString "'\t'") t4, .int 0 u4] n4 } : Obj)) ∈ news)
    (hq5 : (d5, ({ cls := .type "tuple", data := .seq #[.str (Str.ofString "'\x00'") t5, .int 0 u5] n5 } : Obj)) ∈ news)
    (hq6 : (d6, ({ cls := .type "tuple", data := .seq #[.str (Str.ofString "\"a\tb\"") t6, .int 0 u6] n6 } : Obj)) ∈ news)
    (hq7 : (d7, ({ cls := .type "tuple", data := .seq #[.str (Str.ofString "\"\x7f\"") t7, .int 0 u7] n7 } : Obj)) ∈ news)
    (hq8 : (d8, ({ cls := .type "tuple", data := .seq #[.str (Str.ofString "\"a\x0cb\"") t8, .int 0 u8] n8 } : Obj)) ∈ news)
    (hq9 : (d9, ({ cls := .type "tuple", data := .seq #[.str (Str.ofString "\"a\r\"") t9, .int 0 u9] n9 } : Obj)) ∈ news)
    (hq10 : (d10, ({ cls := .type "tuple", data := .seq #[.str (Str.ofString "--→") t10, .int 2 u10] n10 } : Obj)) ∈ news)
    (hq11 : (d11, ({ cls := .type "tuple", data := .seq #[.str (Str.ofString "---±x") t11, .int 3 u11] n11 } : Obj)) ∈ news)
    (h0 : 0 ≤ k) (h1' : k < 12) (h : ∀ a q t u n, q ∈ spoiltL → (a, ({ cls := .type "tuple", data := .seq #[.str (tx q.1.cps.toList) t, .int (q.2 : Int) u] n } : Obj)) ∈ news → Q (.ref a) s)
    (hs : subscripted slice false (.ref l) (.int k u) = operate [.ref l, .int k u] (getItem (.ref l) (.int k u)) := by with_unfolding_all rfl) :
    wpAny (model prog w) A (subscriptTail value slice (.ref l) (.int k u)) Q E s := by
  have hd : DatAll news [.ref d0, .ref d1, .ref d2, .ref d3, .ref d4, .ref d5, .ref d6, .ref d7, .ref d8, .ref d9, .ref d10, .ref d11] (spoiltL.map spD) := .cons (.tuple (vs := [_, _]) (n := n0) hq0 (.cons (.str _ _) (.cons (.int _ _) .nil))) (.cons (.tuple (vs := [_, _]) (n := n1) hq1 (.cons (.str _ _) (.cons (.int _ _) .nil))) (.cons (.tuple (vs := [_, _]) (n := n2) hq2 (.cons (.str _ _) (.cons (.int _ _) .nil))) (.cons (.tuple (vs := [_, _]) (n := n3) hq3 (.cons (.str _ _) (.cons (.int _ _) .nil))) (.cons (.tuple (vs := [_, _]) (n := n4) hq4 (.cons (.str _ _) (.cons (.int _ _) .nil))) (.cons (.tuple (vs := [_, _]) (n := n5) hq5 (.cons (.str _ _) (.cons (.int _ _) .nil))) (.cons (.tuple (vs := [_, _]) (n := n6) hq6 (.cons (.str _ _) (.cons (.int _ _) .nil))) (.cons (.tuple (vs := [_, _]) (n := n7) hq7 (.cons (.str _ _) (.cons (.int _ _) .nil))) (.cons (.tuple (vs := [_, _]) (n := n8) hq8 (.cons (.str _ _) (.cons (.int _ _) .nil))) (.cons (.tuple (vs := [_, _]) (n := n9) hq9 (.cons (.str _ _) (.cons (.int _ _) .nil))) (.cons (.tuple (vs := [_, _]) (n := n10) hq10 (.cons (.str _ _) (.cons (.int _ _) .nil))) (.cons (.tuple (vs := [_, _]) (n := n11) hq11 (.cons (.str _ _) (.cons (.int _ _) .nil))) (.nil))))))))))))
  refine kd_item (us := [_, _, _, _, _, _, _, _, _, _, _, _]) N hm hd h0 (by rw [List.length_map]; exact h1') (by omega) (fun v d _ hmem hD => ?_) hs
  obtain ⟨q, hq, rfl⟩ := List.mem_map.mp hmem
  obtain ⟨a, t, u, n, rfl, hi⟩ := sp_in hD
  exact h a q t u n hq hi
section
theorem c_spoilt {w : World} {dp un : Nat} {gd : Option (List Code)} {cn : Str} {cs : Scope} {a : Addr} {ccd : Value} {cl : List (Str × Addr)} {outer : List Env} {A₀ : Around} {base h₀ : Heap} {L : Addr} {m : Str → Option Value} {s : Shared} {mean : ExcName → Option Value} {mg mb : Str → Option Value} {Q E : Value → Shared → Prop} {rest : List (Addr × Obj)} {c : Addr} {ca cb : Int} {u1 u2 : Tok} {n : Nat}
  (B : Below A₀ base outer h₀) (F : Fr h₀ L s.heap m) (X : (Mine.hd.heap_1 w.params).In h₀) (N : News h₀ L s.heap ((c, ckO ca cb u1 u2 n) :: rest)) (TT : Top Mine.hd.view_1 lz mean mg mb h₀) (hk : cs.kind = .function) (hd : dp + 3 < recursionLimit) (hu : un + 8 * 3 < cLine)
  (ha : 0 ≤ ca) (hb : 0 ≤ cb) (hap : ∀ q ∈ rest, q.1 ≠ c)
  (hret : ∀ h' tk' a q t u n' ca' cb' u1' u2' n2, q ∈ spoiltL → 0 ≤ ca' → 0 ≤ cb' → Fr h₀ L h' m → News h₀ L h' ((a, ({ cls := .type "tuple", data := .seq #[.str (tx q.1.cps.toList) t, .int (q.2 : Int) u] n' } : Obj)) :: (c, ckO ca' cb' u1' u2' n2) :: rest) → Q (.ref a) { s with heap := h', toks := tk' }) :
  wpAny (model PySem.Challenge.rw_sy0021_01.row.prog w) (ktrTop dp un gd cn cs L a ccd cl outer) (call (.ref 368) [.ref c]) Q E s := by
  have hfill : (Mine.hd.heap_1 = Mine.hd.heap_1 ∧ PySem.Challenge.rw_sy0021_01 = PySem.Challenge.rw_sy0021_01) := by k_fill; exact ⟨rfl, rfl⟩
  clear hfill
  refine wpAny_call ?_
  k_with_none
  k_with "M enter" => (refine' code_def ?k1 ?k2 ?k3 ?k4 ?k5 ?kA ?kF ?kK ?k6 ?k7 ?k8 ?k9 ?kB ?_ ?c2 ?c3 ?c4 ?c5; (case kA => exact rfl); (case kF => exact rfl); (case kK => assumption); (case k1 => k_asm); (case k2 => k_asm); (case k3 => k_asm); (case k4 => k_asm); (case k5 => k_asm); (case k6 => k_is); (case k7 => k_is); (case k8 => first | exact rm0 (by assumption) | ktr_room); (case k9 => first | exact BindsTo.of_eq rfl | exact binds_K (by k_in) rfl (by k_is) rfl rfl rfl); (case c5 => decide); (case kB => exact locs rfl); (case c2 => exact rfl); (case c3 => exact rfl); (case c4 => exact rfl); k_whole; intro g' L' h' FG' F' N' B' X' T'; (try dsimp only); (try k_lift B'); (try k_fold))
  k_dflt (walk_at "M enter")
  k_with_none
  k_with "M use" => ((case u1x => k_asm); (case u2x => k_asm); (case u3x => k_asm); (case u5x => k_asm); (case uKx => first | assumption | exact rfl); (case udx => first | exact rmA (by assumption) (by decide) | ktr_room); (case uux => first | exact umA (by assumption) (by decide) | ktr_units))
  k_with "M in" => (first | with_reducible assumption | exact Frag.In.keeps (by with_reducible assumption) (Fr.keep (by with_reducible assumption)))
  k_with "call ref" => (k_here; k_extra "M call")
  k_with "call ref" => (k_here; with_reducible first | refine call_app0 ?_ | refine call_app1 ?_ | refine call_app2 ?_)
  k_with "eval Call" => (k_here; k_dflt (refine Call_ ?_))
  k_with "M all" => (first | assumption | exact apart_of (by first | assumption | exact And.right (by assumption) | exact And.right (And.right (by assumption)) | exact And.right (And.right (And.right (by assumption))) | exact And.right (And.right (And.right (And.right (by assumption))))))
  k_with "M led" => (first | k_asm | exact news_rot1 (by k_asm) | exact news_rot2 (by k_asm) | exact news_rot3 (by k_asm) | exact news_rot4 (by k_asm))
  k_with "M ap" => (first | k_asm | k_all)
  k_with "M mem" => (repeat (first | exact List.mem_cons_self | assumption | refine List.mem_cons_of_mem _ ?_))
  k_with "M sub" => (intro q hq; repeat (first | assumption | refine List.mem_cons_of_mem _ ?_))
  k_with "M call" => ((with_reducible show wpAny _ _ (call (Value.ref 333) _) _ _ _); k_dflt (refine' c_tap ?u1x ?u2x ?u3x ?u4x ?u5x ?uKx ?udx ?uux ?z1 ?z2 ?z3 ?z4 ?z5 ?_; walk_at "M use"; (case u4x => walk_at "M led"); (case z1 => assumption); (case z2 => assumption); (case z3 => first | decide | omega); (case z4 => first | decide | omega); (case z5 => walk_at "M ap")); k_whole; intro h' tk' a' b' u1' u2' n' mug' t' p1 p2 p3 p4 F' N'; (try dsimp only); (try k_sweep))
  k_with "subscriptTail" => (k_here; (with_reducible show wpAny _ _ (subscriptTail _ _ (Value.ref _) (Value.str _ _)) _ _ _); k_dflt (first | refine kda_item (knd := PySem.strKind _ _) (by k_asm) (by walk_at "M mem") (by assumption) (strKind_is _ _ _ _) pv1 ?_ | refine kda_item (knd := PySem.strKind _ _) (by k_asm) (by walk_at "M mem") (by assumption) (strKind_is _ _ _ _) pv2 ?_ | refine kda_item (knd := PySem.strKind _ _) (by k_asm) (by walk_at "M mem") (by assumption) (strKind_is _ _ _ _) pv3 ?_ | refine kda_item (knd := PySem.strKind _ _) (by k_asm) (by walk_at "M mem") (by assumption) (strKind_is _ _ _ _) pv4 ?_ | refine kda_item (knd := PySem.strKind _ _) (by k_asm) (by walk_at "M mem") (by assumption) (strKind_is _ _ _ _) pv5 ?_))
  k_with "M led" => (first | k_asm | exact news_q1 (by k_asm) | exact news_q2 (by k_asm) | exact news_q3 (by k_asm) | exact news_q4 (by k_asm) | exact news_q5 (by k_asm))
  k_with "M call" => ((with_reducible show wpAny _ _ (call (Value.ref 333) _) _ _ _); k_extra "M tap")
  k_with "subscriptTail" => (k_here; (with_reducible show wpAny _ _ (subscriptTail _ _ (Value.ref _) (Value.int _ _)) _ _ _); k_extra "M item")
  k_with "M tap" => (
    rename News _ _ _ _ => kN'
    have kN2 := news_f13 kN'
    clear kN'
    k_dflt (refine' c_tap ?u1x ?u2x ?u3x ?u4x ?u5x ?uKx ?udx ?uux ?z1 ?z2 ?z3 ?z4 ?z5 ?_; walk_at "M use"; (case u4x => exact kN2); (case z1 => assumption); (case z2 => assumption); (case z3 => decide); (case z4 => decide); (case z5 => walk_at "M ap")); (k_whole; intro h' tk' a' b' u1' u2' n' mug' t' p1 p2 p3 p4 F' N'; (try dsimp only); (try k_sweep)))
  k_with "M item" => (
    rename News _ _ _ _ => kN'
    k_dflt (refine item_spoilt kN' (mi 1 rfl) (mi 13 rfl) (mi 12 rfl) (mi 11 rfl) (mi 10 rfl) (mi 9 rfl) (mi 8 rfl) (mi 7 rfl) (mi 6 rfl) (mi 5 rfl) (mi 4 rfl) (mi 3 rfl) (mi 2 rfl) (by omega) (by omega) ?_)
    intro aS qS tS uS nS hqS hmS
    have kN2 := news_sub (l' := (aS, ({ cls := .type "tuple", data := .seq #[.str (tx qS.1.cps.toList) tS, .int (qS.2 : Int) uS] nS } : Obj)) :: (c, _) :: rest) kN' (List.forall_mem_cons.mpr ⟨hmS, List.forall_mem_cons.mpr ⟨.head _, by walk_at "M sub"⟩⟩)
    clear kN')
  k_steps
  exact hret _ _ aS qS tS uS nS a' b' u1' u2' n' hqS p1 p2 (by assumption) (by assumption)
end
end

-- 90num
section
noncomputable def TG : Int := ((10 ^ 3999 : Nat) : Int)
theorem codes2 {a b : Nat} {pre post : List Int} {n : Nat} (h : KStt.codes (tx [a, b]) = pre ++ (n : Int) :: post) : (pre = [] ∧ n = a) ∨ (pre = [(a : Int)] ∧ n = b) := by
  have e : KStt.codes (tx [a, b]) = [(a : Int), (b : Int)] := by simp [KStt.codes, tx]
  rw [e] at h
  cases pre with
  | nil =>
    simp at h
    exact .inl ⟨rfl, by omega⟩
  | cons p q =>
    cases q with
    | nil =>
      simp at h
      exact .inr ⟨by rw [← h.1], by omega⟩
    | cons r q =>
      have := congrArg List.length h
      simp at this
theorem s_1e : Str.ofString "1e" = tx [49, 101] := by decide +kernel
theorem s_1F : Str.ofString "1F" = tx [49, 70] := by decide +kernel
theorem big_no {pre : List Int} {fz G lit : Int} {n : Nat} (hst : (pre = [] ∧ fz = 0 ∧ n = 49) ∨ (pre = [49] ∧ fz = 1 ∧ n = 101)) (hG : G + 14 < TG) (h : lit ≤ fz * G + ((hexv n : Nat) : Int)) (h1 : ¬ lit ≤ 1) (h2 : ¬ lit < TG) : False := by
  rcases hst with ⟨_, rfl, rfl⟩ | ⟨_, rfl, rfl⟩
  · rw [Int.zero_mul] at h; exact h1 h
  · rw [Int.one_mul] at h; exact h2 (Int.lt_of_le_of_lt h hG)
section
theorem c_num_1e {w : World} {dp un : Nat} {gd : Option (List Code)} {cn : Str} {cs : Scope} {a : Addr} {ccd : Value} {cl : List (Str × Addr)} {outer : List Env} {A₀ : Around} {base h₀ : Heap} {L : Addr} {m : Str → Option Value} {s : Shared} {mean : ExcName → Option Value} {mg mb : Str → Option Value} {Q E : Value → Shared → Prop} {news : List (Addr × Obj)} {G : Int} {td tb : Tok} {pl : Value}
  (B : Below A₀ base outer h₀) (F : Fr h₀ L s.heap m) (X : (Mine.hd.heap_1 w.params).In h₀) (N : News h₀ L s.heap (news)) (TT : Top Mine.hd.view_1 lz mean mg mb h₀) (hk : cs.kind = .function) (hd : dp + 2 < recursionLimit) (hu : un + 8 * 2 < cLine)
  (hG : G + 14 < TG)
  (hret : ∀ h' tk' t, Fr h₀ L h' m → News h₀ L h' news → Q (.int (G + 14) t) { s with heap := h', toks := tk' }) :
  wpAny (model PySem.Challenge.rw_sy0021_01.row.prog w) (ktrTop dp un gd cn cs L a ccd cl outer) (call (.ref 207) [.str (tx [49, 101]) td, .int G tb, pl]) Q E s := by
  have hfill : (Mine.hd.heap_1 = Mine.hd.heap_1 ∧ PySem.Challenge.rw_sy0021_01 = PySem.Challenge.rw_sy0021_01) := by k_fill; exact ⟨rfl, rfl⟩
  clear hfill
  refine wpAny_call ?_
  k_with_none
  k_with "M enter" => (refine' code_def ?k1 ?k2 ?k3 ?k4 ?k5 ?kA ?kF ?kK ?k6 ?k7 ?k8 ?k9 ?kB ?_ ?c2 ?c3 ?c4 ?c5; (case kA => exact rfl); (case kF => exact rfl); (case kK => assumption); (case k1 => k_asm); (case k2 => k_asm); (case k3 => k_asm); (case k4 => k_asm); (case k5 => k_asm); (case k6 => k_is); (case k7 => k_is); (case k8 => first | exact rm0 (by assumption) | ktr_room); (case k9 => first | exact BindsTo.of_eq rfl | exact binds_K (by k_in) rfl (by k_is) rfl rfl rfl); (case c5 => decide); (case kB => exact locs rfl); (case c2 => exact rfl); (case c3 => exact rfl); (case c4 => exact rfl); k_whole; intro g' L' h' FG' F' N' B' X' T'; (try dsimp only); (try k_lift B'); (try k_fold))
  k_dflt (walk_at "M enter")
  k_with_none
  k_with "M use" => ((case u1x => k_asm); (case u2x => k_asm); (case u3x => k_asm); (case u5x => k_asm); (case uKx => first | assumption | exact rfl); (case udx => first | exact rmA (by assumption) (by decide) | ktr_room); (case uux => first | exact umA (by assumption) (by decide) | ktr_units))
  k_with "M in" => (first | with_reducible assumption | exact Frag.In.keeps (by with_reducible assumption) (Fr.keep (by with_reducible assumption)))
  k_with "call ref" => (k_here; k_extra "M call")
  k_with "call ref" => (k_here; with_reducible first | refine call_app0 ?_ | refine call_app1 ?_ | refine call_app2 ?_)
  k_with "eval Call" => (k_here; k_dflt (refine Call_ ?_))
  k_with "M all" => (first | assumption | exact apart_of (by first | assumption | exact And.right (by assumption) | exact And.right (And.right (by assumption)) | exact And.right (And.right (And.right (by assumption))) | exact And.right (And.right (And.right (And.right (by assumption))))))
  k_with "M call" => ((with_reducible show wpAny _ _ (call (Value.ref 52) _) _ _ _); k_dflt (refine' c_make ?u1x ?u2x ?u3x ?u4x ?u5x ?uKx ?udx ?uux ?_; walk_at "M use"; (case u4x => k_asm)); k_whole; intro h' tk' e' t' dx' h1' h2' k1' k2' F' N' ap' l1; (try dsimp only); (try k_sweep))
  k_with "exec Raise some none" => (k_here; k_dflt (refine raise52 (by rfl) ?_))
  k_with "RaiseQ" => (k_here; (rename News _ _ _ _ => nX'); refine ⟨_, _, _, rfl, by k_in, (nX' _ (.tail _ (.head _))).1, ?_⟩)
  k_with "leaving ref" => (k_here; k_dflt (refine' leaveNew ?K ?F ?N ?ap ?l ?_; (case N => assumption); (case F => k_asm); (case K => k_asm); (case ap => assumption); (case l => assumption)); intro h' R' U'; (try dsimp only))
  k_with "leaving ref" => (k_here; k_dflt (refine' leaveOnAt ?K ?F ?R ?U ?_; (case K => k_asm); (case R => assumption); (case U => assumption); (case F => assumption)); intro h' R' U'; (try dsimp only))
  k_with "call builtin:str.lower" => (refine lower_hexK (by assumption) ?_)
  k_with "call builtin:str.index" => (refine index_hexK (by rfl) (by assumption) ?_)
  k_with "binaryOp Mult int int" => (k_here; k_dflt (refine PyProof.Rows.mul_int ?_ (by assumption)))
  k_with "pyIter str" => (
    rename Fr _ _ _ _ => lF'
    rename News _ _ _ _ => lN'
    with_unfolding_all refine' KStt.kst_text (σ := Int × Tok) (fun c => news) (fun c => [(Str.ofString "found", .int c.1 c.2)]) (fun _ => True) [] (fun pre c => (pre = [] ∧ c.1 = 0) ∨ (pre = [49] ∧ c.1 = 1) ∨ (pre = [49, 101] ∧ c.1 = G + 14)) (0, _) ?kh lF' lN' trivial ?kk ?kp ?kt ?kd
    (case kh => rfl)
    (case kk => kst_all)
    (case kp => exact .inl ⟨rfl, rfl⟩)
    all_goals (clear lF' lN')
    case' kt =>
      intro c pre post n tn u h tk own hsp hoff hf hP kFr kNews
      obtain ⟨fz, u2⟩ := c
      (try dsimp only [kstB] at kFr); (try dsimp only at hP); (try dsimp only at kNews); (try dsimp only)
      have hc2 := codes2 hsp
      have hnm : n ∈ HEX := by rcases hc2 with ⟨_, rfl⟩ | ⟨_, rfl⟩ <;> decide
      have hst : (pre = [] ∧ fz = 0 ∧ n = 49) ∨ (pre = [49] ∧ fz = 1 ∧ n = 101) := by
        rcases hc2 with ⟨rfl, rfl⟩ | ⟨rfl, rfl⟩
        · rcases hP with ⟨_, h⟩ | ⟨h, _⟩ | ⟨h, _⟩
          · exact .inl ⟨rfl, h, rfl⟩
          · cases h
          · cases h
        · rcases hP with ⟨h, _⟩ | ⟨_, h⟩ | ⟨h, _⟩
          · cases h
          · exact .inr ⟨rfl, h, rfl⟩
          · cases h
      have hmul : IntMulOk fz G := by
        refine IntMulOk.of_left ?_
        rcases hst with ⟨_, rfl, _⟩ | ⟨_, rfl, _⟩ <;> decide
      clear hP hc2
      (try k_fold)
    case' kd =>
      intro c u h tk hf hP kFr kNews
      obtain ⟨fz, u2⟩ := c
      (try dsimp only [kstB] at kFr); (try dsimp only at hP); (try dsimp only at kNews); (try dsimp only)
      (try k_fold))
  k_steps
  · have e : KStt.codes (tx [49, 101]) = [(49 : Int), 101] := by simp [KStt.codes, tx]
    rw [e] at hP
    rcases hP with ⟨h, _⟩ | ⟨h, _⟩ | ⟨_, h⟩
    · cases h
    · cases h
    · subst h
      exact hret _ _ _ (by assumption) (by assumption)
  · exfalso
    rename (_ ≤ _ * _ + _) => hbig
    exact big_no hst hG hbig (by decide +kernel) (by decide +kernel)
  · refine kst_end ⟨_, _⟩ (by assumption) (by assumption) (fun p hp => List.mem_append_left _ hp) (fun p hp => List.mem_append_right _ hp) rfl trivial (by kst_all) (by kst_same) ?_
    rcases hst with ⟨rfl, rfl, rfl⟩ | ⟨rfl, rfl, rfl⟩
    · exact .inr (.inl ⟨rfl, by show 0 * G + ((hexv 49 : Nat) : Int) = 1; rw [Int.zero_mul]; rfl⟩)
    · exact .inr (.inr ⟨rfl, by show 1 * G + ((hexv 101 : Nat) : Int) = G + 14; rw [Int.one_mul]; rfl⟩)
theorem c_num_1F {w : World} {dp un : Nat} {gd : Option (List Code)} {cn : Str} {cs : Scope} {a : Addr} {ccd : Value} {cl : List (Str × Addr)} {outer : List Env} {A₀ : Around} {base h₀ : Heap} {L : Addr} {m : Str → Option Value} {s : Shared} {mean : ExcName → Option Value} {mg mb : Str → Option Value} {Q E : Value → Shared → Prop} {rest : List (Addr × Obj)} {G : Int} {td tb u3 u4 : Tok} {p : Addr}
  (B : Below A₀ base outer h₀) (F : Fr h₀ L s.heap m) (X : (Mine.hd.heap_1 w.params).In h₀) (N : News h₀ L s.heap ((p, plc [] 0 u3 u4) :: rest)) (TT : Top Mine.hd.view_1 lz mean mg mb h₀) (hk : cs.kind = .function) (hd : dp + 6 < recursionLimit) (hu : un + 8 * 6 < cLine)
  (hG : TG ≤ G + 15)
  (hraise : ∀ e g₂ h' tk', Fr h₀ L g₂ m → g₂.UpToSlots h' → ErrAt base g₂ (envX cn cs L a ccd cl :: outer) e [] 0 rest h' → E (.ref e) { s with heap := h', toks := tk' }) :
  wpAny (model PySem.Challenge.rw_sy0021_01.row.prog w) (ktrTop dp un gd cn cs L a ccd cl outer) (call (.ref 207) [.str (tx [49, 70]) td, .int G tb, .ref p]) Q E s := by
  have hfill : (Mine.hd.heap_1 = Mine.hd.heap_1 ∧ PySem.Challenge.rw_sy0021_01 = PySem.Challenge.rw_sy0021_01) := by k_fill; exact ⟨rfl, rfl⟩
  clear hfill
  refine wpAny_call ?_
  k_with_none
  k_with "M enter" => (refine' code_def ?k1 ?k2 ?k3 ?k4 ?k5 ?kA ?kF ?kK ?k6 ?k7 ?k8 ?k9 ?kB ?_ ?c2 ?c3 ?c4 ?c5; (case kA => exact rfl); (case kF => exact rfl); (case kK => assumption); (case k1 => k_asm); (case k2 => k_asm); (case k3 => k_asm); (case k4 => k_asm); (case k5 => k_asm); (case k6 => k_is); (case k7 => k_is); (case k8 => first | exact rm0 (by assumption) | ktr_room); (case k9 => first | exact BindsTo.of_eq rfl | exact binds_K (by k_in) rfl (by k_is) rfl rfl rfl); (case c5 => decide); (case kB => exact locs rfl); (case c2 => exact rfl); (case c3 => exact rfl); (case c4 => exact rfl); k_whole; intro g' L' h' FG' F' N' B' X' T'; (try dsimp only); (try k_lift B'); (try k_fold))
  k_dflt (walk_at "M enter")
  k_with_none
  k_with "M use" => ((case u1x => k_asm); (case u2x => k_asm); (case u3x => k_asm); (case u5x => k_asm); (case uKx => first | assumption | exact rfl); (case udx => first | exact rmA (by assumption) (by decide) | ktr_room); (case uux => first | exact umA (by assumption) (by decide) | ktr_units))
  k_with "M in" => (first | with_reducible assumption | exact Frag.In.keeps (by with_reducible assumption) (Fr.keep (by with_reducible assumption)))
  k_with "call ref" => (k_here; k_extra "M call")
  k_with "call ref" => (k_here; with_reducible first | refine call_app0 ?_ | refine call_app1 ?_ | refine call_app2 ?_)
  k_with "eval Call" => (k_here; k_dflt (refine Call_ ?_))
  k_with "M all" => (first | assumption | exact apart_of (by first | assumption | exact And.right (by assumption) | exact And.right (And.right (by assumption)) | exact And.right (And.right (And.right (by assumption))) | exact And.right (And.right (And.right (And.right (by assumption))))))
  k_with "M call" => ((with_reducible show wpAny _ _ (call (Value.ref 52) _) _ _ _); k_dflt (refine' c_make ?u1x ?u2x ?u3x ?u4x ?u5x ?uKx ?udx ?uux ?_; walk_at "M use"; (case u4x => k_asm)); k_whole; intro h' tk' e' t' dx' h1' h2' k1' k2' F' N' ap' l1; (try dsimp only); (try k_sweep))
  k_with "exec Raise some none" => (k_here; k_dflt (refine raise52 (by rfl) ?_))
  k_with "RaiseQ" => (k_here; (rename News _ _ _ _ => nX'); refine ⟨_, _, _, rfl, by k_in, (nX' _ (.tail _ (.head _))).1, ?_⟩)
  k_with "leaving ref" => (k_here; k_dflt (refine' leaveNew ?K ?F ?N ?ap ?l ?_; (case N => assumption); (case F => k_asm); (case K => k_asm); (case ap => assumption); (case l => assumption)); intro h' R' U'; (try dsimp only))
  k_with "leaving ref" => (k_here; k_dflt (refine' leaveOnAt ?K ?F ?R ?U ?_; (case K => k_asm); (case R => assumption); (case U => assumption); (case F => assumption)); intro h' R' U'; (try dsimp only))
  k_with "call builtin:str.lower" => (refine lower_hexK (by assumption) ?_)
  k_with "call builtin:str.index" => (refine index_hexK (by rfl) (by assumption) ?_)
  k_with "binaryOp Mult int int" => (k_here; k_dflt (refine PyProof.Rows.mul_int ?_ (by assumption)))
  k_with "pyIter str" => (
    rename Fr _ _ _ _ => lF'
    rename News _ _ _ _ => lN'
    with_unfolding_all refine' KStt.kst_text (σ := Int × Tok) (fun c => (p, plc [] 0 u3 u4) :: rest) (fun c => [(Str.ofString "found", .int c.1 c.2)]) (fun _ => True) [] (fun pre c => (pre = [] ∧ c.1 = 0) ∨ (pre = [49] ∧ c.1 = 1)) (0, _) ?kh lF' lN' trivial ?kk ?kp ?kt ?kd
    (case kh => rfl)
    (case kk => kst_all)
    (case kp => exact .inl ⟨rfl, rfl⟩)
    all_goals (clear lF' lN')
    case' kt =>
      intro c pre post n tn u h tk own hsp hoff hf hP kFr kNews
      obtain ⟨fz, u2⟩ := c
      (try dsimp only [kstB] at kFr); (try dsimp only at hP); (try dsimp only at kNews); (try dsimp only)
      have hc2 := codes2 hsp
      have hnm : n ∈ HEX := by rcases hc2 with ⟨_, rfl⟩ | ⟨_, rfl⟩ <;> decide
      have hst : (pre = [] ∧ fz = 0 ∧ n = 49) ∨ (pre = [49] ∧ fz = 1 ∧ n = 70) := by
        rcases hc2 with ⟨rfl, rfl⟩ | ⟨rfl, rfl⟩
        · rcases hP with ⟨_, h⟩ | ⟨h, _⟩
          · exact .inl ⟨rfl, h, rfl⟩
          · cases h
        · rcases hP with ⟨h, _⟩ | ⟨_, h⟩
          · cases h
          · exact .inr ⟨rfl, h, rfl⟩
      have hmul : IntMulOk fz G := by
        refine IntMulOk.of_left ?_
        rcases hst with ⟨_, rfl, _⟩ | ⟨_, rfl, _⟩ <;> decide
      clear hP hc2
      (try k_fold)
    case' kd =>
      intro c u h tk hf hP kFr kNews
      obtain ⟨fz, u2⟩ := c
      (try dsimp only [kstB] at kFr); (try dsimp only at hP); (try dsimp only at kNews); (try dsimp only)
      (try k_fold))
  k_steps
  · have e : KStt.codes (tx [49, 70]) = [(49 : Int), 70] := by simp [KStt.codes, tx]
    rw [e] at hP
    rcases hP with ⟨h, _⟩ | ⟨h, _⟩ <;> cases h
  · exact hraise _ _ _ _ (by assumption) (by assumption) (errAt_of (by assumption) (List.mem_append_left _ (.head _)) fun q hq => List.mem_append_left _ (.tail _ hq))
  · rename (¬ (_ ≤ _ * _ + _)) => hbig
    refine kst_end ⟨_, _⟩ (by assumption) (by assumption) (fun p hp => List.mem_append_left _ hp) (fun p hp => List.mem_append_right _ hp) rfl trivial (by kst_all) (by kst_same) ?_
    rcases hst with ⟨rfl, rfl, rfl⟩ | ⟨rfl, rfl, rfl⟩
    · exact .inr ⟨rfl, by show 0 * G + ((hexv 49 : Nat) : Int) = 1; rw [Int.zero_mul]; rfl⟩
    · exact absurd (Int.le_trans (by decide +kernel) (show TG ≤ 1 * G + ((hexv 70 : Nat) : Int) by rw [Int.one_mul]; exact hG)) hbig
end
end

-- 91lnum
section
section
theorem c_lnum_ok {w : World} {dp un : Nat} {gd : Option (List Code)} {cn : Str} {cs : Scope} {a : Addr} {ccd : Value} {A₀ : Around} {base h₀ : Heap} {L : Addr} {m : Str → Option Value} {s : Shared} {mean : ExcName → Option Value} {mg mb : Str → Option Value} {Q E : Value → Shared → Prop} {news : List (Addr × Obj)} {G : Int} {td tb : Tok}
  (B : Below A₀ base [] h₀) (F : Fr h₀ L s.heap m) (X : (Mine.hd.heap_1 w.params).In h₀) (N : News h₀ L s.heap (news)) (TT : Top Mine.hd.view_1 lz mean mg mb h₀) (hk : cs.kind = .function) (hd : dp + 3 < recursionLimit) (hu : un + 8 * 3 < cLine) (XB : (Mine.hd.heap_1 w.params).In base) (TB : Top Mine.hd.view_1 lz mean mg mb base)
  (hG : G + 14 < TG)
  (hret : ∀ h' tk' t, Fr h₀ L h' m → News h₀ L h' news → Q (.int (G + 14) t) { s with heap := h', toks := tk' }) :
  wpAny (model PySem.Challenge.rw_sy0021_01.row.prog w) (ktrTop dp un gd cn cs L a ccd [] []) (call (.ref 387) [.str (tx [49, 101]) td, .int G tb]) Q E s := by
  have hfill : (Mine.hd.heap_1 = Mine.hd.heap_1 ∧ PySem.Challenge.rw_sy0021_01 = PySem.Challenge.rw_sy0021_01) := by k_fill; exact ⟨rfl, rfl⟩
  clear hfill
  refine wpAny_call ?_
  k_dflt (refine' code_defS0 ?k1 ?k2 ?k3 ?k4 ?k5 ?kA ?k6 ?k7 ?k8 ?k9 ?kB ?_ ?cK ?c2 ?c3 ?c4 ?c5; (case kA => exact rfl); (case k2 => k_asm); (case k1 => k_asm); (case k3 => k_asm); (case k4 => k_asm); (case k5 => k_asm); (case k6 => k_is); (case k7 => k_is); (case k8 => first | exact rm0 (by assumption) | ktr_room); (case k9 => first | exact BindsTo.of_eq rfl | exact binds_K (by k_in) rfl (by k_is) rfl rfl rfl); (case kB => exact locs rfl); (case cK => assumption); (case c2 => exact rfl); (case c3 => exact rfl); (case c4 => exact rfl); (case c5 => decide); k_whole; intro g' L' h' FG' F' N' B' X' T' D'; (try dsimp only); (try k_lift B'); (try k_fold))
  k_with_none
  k_with "M use" => ((case u1x => k_asm); (case u2x => k_asm); (case u3x => k_asm); (case u5x => k_asm); (case uKx => first | assumption | exact rfl); (case udx => first | exact rmA (by assumption) (by decide) | ktr_room); (case uux => first | exact umA (by assumption) (by decide) | ktr_units))
  k_with "M in" => (first | with_reducible assumption | exact Frag.In.keeps (by with_reducible assumption) (Fr.keep (by with_reducible assumption)))
  k_with "call ref" => (k_here; k_extra "M call")
  k_with "call ref" => (k_here; with_reducible first | refine call_app0 ?_ | refine call_app1 ?_ | refine call_app2 ?_)
  k_with "M kN" => (first | assumption | exact news_tl1 (by assumption) | exact news_tl2 (by assumption) | exact news_tl3 (by assumption) | exact news_tl4 (by assumption) | exact news_dr1 (by assumption) | exact news_dr2 (by assumption) | exact news_dr3 (by assumption))
  k_with "eval Call" => (k_here; k_dflt (refine Call_ ?_))
  k_with "M all" => (first | assumption | exact apart_of (by first | assumption | exact And.right (by assumption) | exact And.right (And.right (by assumption)) | exact And.right (And.right (And.right (by assumption))) | exact And.right (And.right (And.right (And.right (by assumption))))))
  k_with "M call" => ((with_reducible show wpAny _ _ (call (Value.ref 207) _) _ _ _); k_dflt (refine' c_number_of ?u1x ?u2x ?u3x ?u4x ?u5x ?uKx ?udx ?uux ?z1 ?z2 ?z3 ?_; walk_at "M use"; (case u4x => k_asm); (case z1 => walk_at "M numlen"); (case z2 => decide); (case z3 => walk_at "M numhex")); k_whole; intro h' tk' t' F' N'; (try dsimp only); (try k_sweep))
  k_with "M numlen" => (first | assumption | omega)
  k_with "M numhex" => (first | assumption | exact cut_all | (rw [← hexl_eq]; exact cut_all) | exact fun c hc => dig_hex c (cut_all c hc))
  k_with "M mem" => (repeat (first | exact List.mem_cons_self | assumption | refine List.mem_cons_of_mem _ ?_))
  k_with "M sub" => (intro q hq; repeat (first | assumption | refine List.mem_cons_of_mem _ ?_))
  k_with "M kN" => (first | assumption | (refine news_sub (by assumption) ?_; (repeat refine List.forall_mem_cons.mpr (And.intro (by walk_at "M mem") ?_)); walk_at "M sub"))
  k_with "M call" => ((with_reducible show wpAny _ _ (call (Value.ref 207) [Value.str (tx [49, 101]) _, _, _]) _ _ _); k_dflt (refine' c_num_1e ?u1x ?u2x ?u3x ?u4x ?u5x ?uKx ?udx ?uux ?z1 ?_; walk_at "M use"; (case u4x => k_asm); (case z1 => assumption)); k_whole; intro h' tk' t' F' N'; (try dsimp only); (try k_sweep))
  k_with "M call" => ((with_reducible show wpAny _ _ (call (Value.ref 207) [Value.str (tx [49, 70]) _, _, _]) _ _ _); k_dflt (refine' c_num_1F ?u1x ?u2x ?u3x ?u4x ?u5x ?uKx ?udx ?uux ?z1 ?_; walk_at "M use"; (case u4x => with_unfolding_all k_asm); (case z1 => assumption)); k_whole; intro e' g₂' h' tk' F' U' R'; (try dsimp only))
  k_with "noteFrame ref" => (k_here; k_extra "M caught")
  k_with "getAttr ref" => (k_here; k_extra "M get52")
  k_with "bind" => (k_here; k_dflt (refine name_goes (by k_asm) (by k_asm) ?_); intro h' m' F' N')
  k_steps
  exact hret _ _ _ (by assumption) (by walk_at "M kN")
theorem c_lnum_bad {w : World} {dp un : Nat} {gd : Option (List Code)} {cn : Str} {cs : Scope} {a : Addr} {ccd : Value} {A₀ : Around} {base h₀ : Heap} {L : Addr} {m : Str → Option Value} {s : Shared} {mean : ExcName → Option Value} {mg mb : Str → Option Value} {Q E : Value → Shared → Prop} {news : List (Addr × Obj)} {G : Int} {td tb : Tok}
  (B : Below A₀ base [] h₀) (F : Fr h₀ L s.heap m) (X : (Mine.hd.heap_1 w.params).In h₀) (N : News h₀ L s.heap (news)) (TT : Top Mine.hd.view_1 lz mean mg mb h₀) (hk : cs.kind = .function) (hd : dp + 7 < recursionLimit) (hu : un + 8 * 7 < cLine) (XB : (Mine.hd.heap_1 w.params).In base) (TB : Top Mine.hd.view_1 lz mean mg mb base)
  (hG : TG ≤ G + 15)
  (hret : ∀ h' tk' pl u3 u4, Fr h₀ L h' m → News h₀ L h' ((pl, plc [] 0 u3 u4) :: news) → Q (.ref pl) { s with heap := h', toks := tk' }) :
  wpAny (model PySem.Challenge.rw_sy0021_01.row.prog w) (ktrTop dp un gd cn cs L a ccd [] []) (call (.ref 387) [.str (tx [49, 70]) td, .int G tb]) Q E s := by
  have hfill : (Mine.hd.heap_1 = Mine.hd.heap_1 ∧ PySem.Challenge.rw_sy0021_01 = PySem.Challenge.rw_sy0021_01) := by k_fill; exact ⟨rfl, rfl⟩
  clear hfill
  refine wpAny_call ?_
  k_dflt (refine' code_defS0 ?k1 ?k2 ?k3 ?k4 ?k5 ?kA ?k6 ?k7 ?k8 ?k9 ?kB ?_ ?cK ?c2 ?c3 ?c4 ?c5; (case kA => exact rfl); (case k2 => k_asm); (case k1 => k_asm); (case k3 => k_asm); (case k4 => k_asm); (case k5 => k_asm); (case k6 => k_is); (case k7 => k_is); (case k8 => first | exact rm0 (by assumption) | ktr_room); (case k9 => first | exact BindsTo.of_eq rfl | exact binds_K (by k_in) rfl (by k_is) rfl rfl rfl); (case kB => exact locs rfl); (case cK => assumption); (case c2 => exact rfl); (case c3 => exact rfl); (case c4 => exact rfl); (case c5 => decide); k_whole; intro g' L' h' FG' F' N' B' X' T' D'; (try dsimp only); (try k_lift B'); (try k_fold))
  k_with_none
  k_with "M use" => ((case u1x => k_asm); (case u2x => k_asm); (case u3x => k_asm); (case u5x => k_asm); (case uKx => first | assumption | exact rfl); (case udx => first | exact rmA (by assumption) (by decide) | ktr_room); (case uux => first | exact umA (by assumption) (by decide) | ktr_units))
  k_with "M in" => (first | with_reducible assumption | exact Frag.In.keeps (by with_reducible assumption) (Fr.keep (by with_reducible assumption)))
  k_with "call ref" => (k_here; k_extra "M call")
  k_with "call ref" => (k_here; with_reducible first | refine call_app0 ?_ | refine call_app1 ?_ | refine call_app2 ?_)
  k_with "M kN" => (first | assumption | exact news_tl1 (by assumption) | exact news_tl2 (by assumption) | exact news_tl3 (by assumption) | exact news_tl4 (by assumption) | exact news_dr1 (by assumption) | exact news_dr2 (by assumption) | exact news_dr3 (by assumption))
  k_with "eval Call" => (k_here; k_dflt (refine Call_ ?_))
  k_with "M all" => (first | assumption | exact apart_of (by first | assumption | exact And.right (by assumption) | exact And.right (And.right (by assumption)) | exact And.right (And.right (And.right (by assumption))) | exact And.right (And.right (And.right (And.right (by assumption))))))
  k_with "M call" => ((with_reducible show wpAny _ _ (call (Value.ref 207) _) _ _ _); k_dflt (refine' c_number_of ?u1x ?u2x ?u3x ?u4x ?u5x ?uKx ?udx ?uux ?z1 ?z2 ?z3 ?_; walk_at "M use"; (case u4x => k_asm); (case z1 => walk_at "M numlen"); (case z2 => decide); (case z3 => walk_at "M numhex")); k_whole; intro h' tk' t' F' N'; (try dsimp only); (try k_sweep))
  k_with "M numlen" => (first | assumption | omega)
  k_with "M numhex" => (first | assumption | exact cut_all | (rw [← hexl_eq]; exact cut_all) | exact fun c hc => dig_hex c (cut_all c hc))
  k_with "M mem" => (repeat (first | exact List.mem_cons_self | assumption | refine List.mem_cons_of_mem _ ?_))
  k_with "M sub" => (intro q hq; repeat (first | assumption | refine List.mem_cons_of_mem _ ?_))
  k_with "M kN" => (first | assumption | (refine news_sub (by assumption) ?_; (repeat refine List.forall_mem_cons.mpr (And.intro (by walk_at "M mem") ?_)); walk_at "M sub"))
  k_with "M call" => ((with_reducible show wpAny _ _ (call (Value.ref 207) [Value.str (tx [49, 101]) _, _, _]) _ _ _); k_dflt (refine' c_num_1e ?u1x ?u2x ?u3x ?u4x ?u5x ?uKx ?udx ?uux ?z1 ?_; walk_at "M use"; (case u4x => k_asm); (case z1 => assumption)); k_whole; intro h' tk' t' F' N'; (try dsimp only); (try k_sweep))
  k_with "M call" => ((with_reducible show wpAny _ _ (call (Value.ref 207) [Value.str (tx [49, 70]) _, _, _]) _ _ _); k_dflt (refine' c_num_1F ?u1x ?u2x ?u3x ?u4x ?u5x ?uKx ?udx ?uux ?z1 ?_; walk_at "M use"; (case u4x => with_unfolding_all k_asm); (case z1 => assumption)); k_whole; intro e' g₂' h' tk' F' U' R'; (try dsimp only))
  k_with "noteFrame ref" => (k_here; k_extra "M caught")
  k_with "getAttr ref" => (k_here; k_extra "M get52")
  k_with "bind" => (k_here; k_dflt (refine name_goes (by k_asm) (by k_asm) ?_); intro h' m' F' N')
  k_with "M caught" => (
    k_dflt (refine' caught52 ?R ?F ?K ?U ?XB ?TB ?D ?T ?_; (case R => assumption); (case U => assumption); (case F => assumption); (case K => assumption); (case XB => assumption); (case TB => assumption); (case D => assumption); (case T => refine test_name (.inl (by k_is)) (by rfl) rfl rfl (by decide)))
    intro hK gK tkK oeK dxK plK u3K u4K h1K h2K k1K k2K msgK wsK TK FK NK hcK hdxK hdatK BK XK TTK DK
    (try dsimp only)
    (try k_fold))
  k_with "M get52" => (k_dflt (refine get_place52 (by k_in) ⟨(NK _ (.head _)).1, hcK, by unfold notCls; rw [hdatK], by rw [hdxK]; exact (NK _ (.tail _ (.head _))).1⟩ rfl ?_))
  k_steps
  exact hret _ _ _ _ _ (by assumption) (by walk_at "M kN")
end
end

-- 92apart
section
noncomputable def ApK (r : Row) : Prop := (r.kind ≠ Str.ofString "special" ∧ r.text ≠ Str.ofString "[") ∨ (r.kind = Str.ofString "special" ∧ (r.text = Str.ofString "[" ∨ r.text = Str.ofString "]"))
noncomputable def apB (r r2 : Row) : Bool := (r.text == Str.ofString "[") || !(decide ((r.eline : Int) = r2.line) && decide ((r.ecol : Int) = r2.col))
theorem apB_ns {r1 r2 : Row} (hP : ApK r1) (h : (r1.kind == Str.ofString "special") = false) : apB r1 r2 = !(decide ((r1.eline : Int) = r2.line) && decide ((r1.ecol : Int) = r2.col)) := by
  rcases hP with ⟨h1, h2⟩ | ⟨h1, h2⟩
  · unfold apB; rw [show (r1.text == Str.ofString "[") = false from beq_eq_false_iff_ne.mpr h2, Bool.false_or]
  · rw [h1] at h; simp at h
theorem apB_sp {r1 r2 : Row} (hP : ApK r1) (h : (r1.kind == Str.ofString "special") = true) (h0 : (Builtin.Str.occurrences (Str.ofString "([,;{") r1.text 0 (Str.ofString "([,;{").length 1).isEmpty = true) : apB r1 r2 = !(decide ((r1.eline : Int) = r2.line) && decide ((r1.ecol : Int) = r2.col)) := by
  rcases hP with ⟨h1, h2⟩ | ⟨h1, h2 | h2⟩
  · exact absurd (beq_iff_eq.mp h) h1
  · rw [h2] at h0; exact absurd h0 (by decide +kernel)
  · unfold apB; rw [h2, show (Str.ofString "]" == Str.ofString "[") = false by decide +kernel, Bool.false_or]
theorem apB_br {r1 r2 : Row} (hP : ApK r1) (h : (r1.kind == Str.ofString "special") = true) (h0 : (Builtin.Str.occurrences (Str.ofString "([,;{") r1.text 0 (Str.ofString "([,;{").length 1).isEmpty = false) : apB r1 r2 = true := by
  rcases hP with ⟨h1, h2⟩ | ⟨h1, h2 | h2⟩
  · exact absurd (beq_iff_eq.mp h) h1
  · unfold apB; rw [h2]; simp
  · rw [h2] at h0; exact absurd h0 (by decide +kernel)
theorem ne_tup2 {prog : Program} {w : World} {A : Around} {E : Value → Shared → Prop} {s : Shared} {h₀ : Heap} {L a b : Addr} {news : List (Addr × Obj)} {x1 y1 x2 y2 : Int} {t1 t2 t3 t4 : Tok} {n m : Nat} {Q : Value → Shared → Prop} (N : News h₀ L s.heap news)
    (h1 : (a, ({ cls := .type "tuple", data := .seq #[.int x1 t1, .int y1 t2] n } : Obj)) ∈ news) (h2 : (b, ({ cls := .type "tuple", data := .seq #[.int x2 t3, .int y2 t4] m } : Obj)) ∈ news) (hu : A.units + 64 < cLine)
    (h : Q (.bool (!(decide (x1 = x2) && decide (y1 = y2)))) s) : wpAny (model prog w) A (compareOp .NotEq (.ref a) (.ref b)) Q E s := by
  refine ne_dataH (da := .tuple [.int x1, .int y1]) (db := .tuple [.int x2, .int y2]) (reads_tuple_at (N.get h1) rfl rfl (.cons (.int _ _) (.cons (.int _ _) .nil))) (reads_tuple_at (N.get h2) rfl rfl (.cons (.int _ _) (.cons (.int _ _) .nil))) rfl rfl hu ?_
  have e : PyData.eqv (.tuple [.int x1, .int y1]) (.tuple [.int x2, .int y2]) = (decide (x1 = x2) && decide (y1 = y2)) := by
    simp [PyData.eqv, PyData.eqvAll, BEq.beq]
  rw [e]; exact h
section
theorem c_wplace {w : World} {dp un : Nat} {gd : Option (List Code)} {cn : Str} {cs : Scope} {a : Addr} {ccd : Value} {cl : List (Str × Addr)} {outer : List Env} {A₀ : Around} {base h₀ : Heap} {L : Addr} {m : Str → Option Value} {s : Shared} {mean : ExcName → Option Value} {mg mb : Str → Option Value} {Q E : Value → Shared → Prop} {rest : List (Addr × Obj)} {wa wd pe : Addr} {r : Row} {k : WdK} {t1 t2 t3 t4 : Tok} {v : Value}
  (B : Below A₀ base outer h₀) (F : Fr h₀ L s.heap m) (X : (Mine.hd.heap_1 w.params).In h₀) (N : News h₀ L s.heap ((wa, instObj 90 wd) :: (wd, wdO k r t1 t2 t3 t4 v pe) :: rest)) (TT : Top Mine.hd.view_1 lz mean mg mb h₀) (hk : cs.kind = .function) (hd : dp + 2 < recursionLimit) (hu : un + 8 * 2 < cLine)
  (hv : handedIn v = true)
  (hret : ∀ h' tk' p u1 u2, Fr h₀ L h' m → News h₀ L h' ((p, tup2 (.int (r.line : Int) u1) (.int (r.col : Int) u2)) :: (wa, instObj 90 wd) :: (wd, wdO k r t1 t2 t3 t4 v pe) :: rest) → Q (.ref p) { s with heap := h', toks := tk' }) :
  wpAny (model PySem.Challenge.rw_sy0021_01.row.prog w) (ktrTop dp un gd cn cs L a ccd cl outer) (call (.ref 80) [.ref wa]) Q E s := by
  have hfill : (Mine.hd.heap_1 = Mine.hd.heap_1 ∧ PySem.Challenge.rw_sy0021_01 = PySem.Challenge.rw_sy0021_01) := by k_fill; exact ⟨rfl, rfl⟩
  clear hfill
  refine wpAny_call ?_
  k_with_none
  k_with "M enter" => (refine' code_def ?k1 ?k2 ?k3 ?k4 ?k5 ?kA ?kF ?kK ?k6 ?k7 ?k8 ?k9 ?kB ?_ ?c2 ?c3 ?c4 ?c5; (case kA => exact rfl); (case kF => exact rfl); (case kK => assumption); (case k1 => k_asm); (case k2 => k_asm); (case k3 => k_asm); (case k4 => k_asm); (case k5 => k_asm); (case k6 => k_is); (case k7 => k_is); (case k8 => first | exact rm0 (by assumption) | ktr_room); (case k9 => first | exact BindsTo.of_eq rfl | exact binds_K (by k_in) rfl (by k_is) rfl rfl rfl); (case c5 => decide); (case kB => exact locs rfl); (case c2 => exact rfl); (case c3 => exact rfl); (case c4 => exact rfl); k_whole; intro g' L' h' FG' F' N' B' X' T'; (try dsimp only); (try k_lift B'); (try k_fold))
  k_dflt (walk_at "M enter")
  k_with_none
  k_with "M in" => (first | with_reducible assumption | exact Frag.In.keeps (by with_reducible assumption) (Fr.keep (by with_reducible assumption)))
  k_with "call ref" => (k_here; k_extra "M call")
  k_with "call ref" => (k_here; with_reducible first | refine call_app0 ?_ | refine call_app1 ?_ | refine call_app2 ?_)
  k_with "M kN" => (first | assumption | exact news_tl1 (by assumption) | exact news_tl2 (by assumption) | exact news_tl3 (by assumption) | exact news_tl4 (by assumption) | exact news_dr1 (by assumption) | exact news_dr2 (by assumption) | exact news_dr3 (by assumption))
  k_with "M all" => (first | assumption | exact apart_of (by first | assumption | exact And.right (by assumption) | exact And.right (And.right (by assumption)) | exact And.right (And.right (And.right (by assumption))) | exact And.right (And.right (And.right (And.right (by assumption))))))
  k_with "M mem" => (repeat (first | exact List.mem_cons_self | assumption | refine List.mem_cons_of_mem _ ?_))
  k_with "M sub" => (intro q hq; repeat (first | assumption | refine List.mem_cons_of_mem _ ?_))
  k_with "M kN" => (first | assumption | (refine news_sub (by assumption) ?_; (repeat refine List.forall_mem_cons.mpr (And.intro (by walk_at "M mem") ?_)); walk_at "M sub"))
  k_with "compareOp NotEq ref ref" => (k_here; (with_reducible show wpAny _ _ (compareOp CmpOp.NotEq (Value.ref _) (Value.ref _)) _ _ _); k_dflt (refine ne_tup2 (by k_asm) (by walk_at "M mem") (by walk_at "M mem") (by ktr_units) ?_))
  k_steps
  exact hret _ _ _ _ _ (by assumption) (by walk_at "M kN")
theorem c_is_apart {w : World} {dp un : Nat} {gd : Option (List Code)} {cn : Str} {cs : Scope} {a : Addr} {ccd : Value} {cl : List (Str × Addr)} {outer : List Env} {A₀ : Around} {base h₀ : Heap} {L : Addr} {m : Str → Option Value} {s : Shared} {mean : ExcName → Option Value} {mg mb : Str → Option Value} {Q E : Value → Shared → Prop} {rest : List (Addr × Obj)} {wa1 wd1 pe1 wa2 wd2 pe2 : Addr} {r1 r2 : Row} {k1 k2 : WdK} {t1 t2 t3 t4 u1 u2 u3 u4 p1 p2 : Tok} {v1 v2 : Value}
  (B : Below A₀ base outer h₀) (F : Fr h₀ L s.heap m) (X : (Mine.hd.heap_1 w.params).In h₀) (N : News h₀ L s.heap ((wa1, instObj 90 wd1) :: (wd1, wdO k1 r1 t1 t2 t3 t4 v1 pe1) :: (pe1, tup2 (.int (r1.eline : Int) p1) (.int (r1.ecol : Int) p2)) :: (wa2, instObj 90 wd2) :: (wd2, wdO k2 r2 u1 u2 u3 u4 v2 pe2) :: rest)) (TT : Top Mine.hd.view_1 lz mean mg mb h₀) (hk : cs.kind = .function) (hd : dp + 20 < recursionLimit) (hu : un + 8 * 20 < cLine)
  (hP : ApK r1) (hv1 : handedIn v1 = true) (hv2 : handedIn v2 = true)
  (hret : ∀ h' tk', Fr h₀ L h' m → News h₀ L h' ((wa1, instObj 90 wd1) :: (wd1, wdO k1 r1 t1 t2 t3 t4 v1 pe1) :: (pe1, tup2 (.int (r1.eline : Int) p1) (.int (r1.ecol : Int) p2)) :: (wa2, instObj 90 wd2) :: (wd2, wdO k2 r2 u1 u2 u3 u4 v2 pe2) :: rest) → Q (.bool (apB r1 r2)) { s with heap := h', toks := tk' }) :
  wpAny (model PySem.Challenge.rw_sy0021_01.row.prog w) (ktrTop dp un gd cn cs L a ccd cl outer) (call (.ref 319) [.ref wa1, .ref wa2]) Q E s := by
  have hfill : (Mine.hd.heap_1 = Mine.hd.heap_1 ∧ PySem.Challenge.rw_sy0021_01 = PySem.Challenge.rw_sy0021_01) := by k_fill; exact ⟨rfl, rfl⟩
  clear hfill
  refine wpAny_call ?_
  k_with_none
  k_with "M enter" => (refine' code_def ?k1 ?k2 ?k3 ?k4 ?k5 ?kA ?kF ?kK ?k6 ?k7 ?k8 ?k9 ?kB ?_ ?c2 ?c3 ?c4 ?c5; (case kA => exact rfl); (case kF => exact rfl); (case kK => assumption); (case k1 => k_asm); (case k2 => k_asm); (case k3 => k_asm); (case k4 => k_asm); (case k5 => k_asm); (case k6 => k_is); (case k7 => k_is); (case k8 => first | exact rm0 (by assumption) | ktr_room); (case k9 => first | exact BindsTo.of_eq rfl | exact binds_K (by k_in) rfl (by k_is) rfl rfl rfl); (case c5 => decide); (case kB => exact locs rfl); (case c2 => exact rfl); (case c3 => exact rfl); (case c4 => exact rfl); k_whole; intro g' L' h' FG' F' N' B' X' T'; (try dsimp only); (try k_lift B'); (try k_fold))
  k_dflt (walk_at "M enter")
  k_with_none
  k_with "M use" => ((case u1x => k_asm); (case u2x => k_asm); (case u3x => k_asm); (case u5x => k_asm); (case uKx => first | assumption | exact rfl); (case udx => first | exact rmA (by assumption) (by decide) | ktr_room); (case uux => first | exact umA (by assumption) (by decide) | ktr_units))
  k_with "M in" => (first | with_reducible assumption | exact Frag.In.keeps (by with_reducible assumption) (Fr.keep (by with_reducible assumption)))
  k_with "call ref" => (k_here; k_extra "M call")
  k_with "call ref" => (k_here; with_reducible first | refine call_app0 ?_ | refine call_app1 ?_ | refine call_app2 ?_)
  k_with "M kN" => (first | assumption | exact news_tl1 (by assumption) | exact news_tl2 (by assumption) | exact news_tl3 (by assumption) | exact news_tl4 (by assumption) | exact news_dr1 (by assumption) | exact news_dr2 (by assumption) | exact news_dr3 (by assumption))
  k_with "M all" => (first | assumption | exact apart_of (by first | assumption | exact And.right (by assumption) | exact And.right (And.right (by assumption)) | exact And.right (And.right (And.right (by assumption))) | exact And.right (And.right (And.right (And.right (by assumption))))))
  k_with "M mem" => (repeat (first | exact List.mem_cons_self | assumption | refine List.mem_cons_of_mem _ ?_))
  k_with "M sub" => (intro q hq; repeat (first | assumption | refine List.mem_cons_of_mem _ ?_))
  k_with "M kN" => (first | assumption | (refine news_sub (by assumption) ?_; (repeat refine List.forall_mem_cons.mpr (And.intro (by walk_at "M mem") ?_)); walk_at "M sub"))
  k_with "compareOp NotEq ref ref" => (k_here; (with_reducible show wpAny _ _ (compareOp CmpOp.NotEq (Value.ref _) (Value.ref _)) _ _ _); k_dflt (refine ne_tup2 (by k_asm) (by walk_at "M mem") (by walk_at "M mem") (by ktr_units) ?_))
  k_with "M call" => ((with_reducible show wpAny _ _ (call (Value.ref 80) [Value.ref _]) _ _ _); k_extra "M wp")
  k_with "M wp" => (
    rename News _ _ _ _ => kN'
    have kN2 := news_sub (l' := (wa2, instObj 90 wd2) :: (wd2, wdO k2 r2 u1 u2 u3 u4 v2 pe2) :: ((wa1, instObj 90 wd1) :: (wd1, wdO k1 r1 t1 t2 t3 t4 v1 pe1) :: (pe1, tup2 (.int (r1.eline : Int) p1) (.int (r1.ecol : Int) p2)) :: rest)) kN' (by (repeat refine List.forall_mem_cons.mpr (And.intro (by walk_at "M mem") ?_)); walk_at "M sub")
    clear kN'
    k_dflt (refine' c_wplace ?u1x ?u2x ?u3x ?u4x ?u5x ?uKx ?udx ?uux ?z1 ?_; walk_at "M use"; (case u4x => exact kN2); (case z1 => assumption))
    k_whole; intro h' tk' p' u1' u2' F' N'; (try dsimp only); (try k_sweep))
  k_steps
  · have e : apB r1 r2 = !(decide ((r1.eline : Int) = r2.line) && decide ((r1.ecol : Int) = r2.col)) := apB_sp hP (by assumption) (by assumption)
    rw [← e]
    exact hret _ _ (by assumption) (by walk_at "M kN")
  · have e : apB r1 r2 = true := apB_br hP (by assumption) (by assumption)
    rw [← e]
    exact hret _ _ (by assumption) (by walk_at "M kN")
  · have e : apB r1 r2 = !(decide ((r1.eline : Int) = r2.line) && decide ((r1.ecol : Int) = r2.col)) := apB_ns hP (by assumption)
    rw [← e]
    exact hret _ _ (by assumption) (by walk_at "M kN")
end
section
theorem c_apart_none {w : World} {dp un : Nat} {gd : Option (List Code)} {cn : Str} {cs : Scope} {a : Addr} {ccd : Value} {cl : List (Str × Addr)} {outer : List Env} {A₀ : Around} {base h₀ : Heap} {L : Addr} {m : Str → Option Value} {s : Shared} {mean : ExcName → Option Value} {mg mb : Str → Option Value} {Q E : Value → Shared → Prop} {news : List (Addr × Obj)} {v2 : Value}
  (B : Below A₀ base outer h₀) (F : Fr h₀ L s.heap m) (X : (Mine.hd.heap_1 w.params).In h₀) (N : News h₀ L s.heap (news)) (TT : Top Mine.hd.view_1 lz mean mg mb h₀) (hk : cs.kind = .function) (hd : dp + 3 < recursionLimit) (hu : un + 8 * 3 < cLine)
  (hv2 : handedIn v2 = true)
  (hret : ∀ h' tk', Fr h₀ L h' m → News h₀ L h' news → Q (.bool true) { s with heap := h', toks := tk' }) :
  wpAny (model PySem.Challenge.rw_sy0021_01.row.prog w) (ktrTop dp un gd cn cs L a ccd cl outer) (call (.ref 319) [.none, v2]) Q E s := by
  have hfill : (Mine.hd.heap_1 = Mine.hd.heap_1 ∧ PySem.Challenge.rw_sy0021_01 = PySem.Challenge.rw_sy0021_01) := by k_fill; exact ⟨rfl, rfl⟩
  clear hfill
  refine wpAny_call ?_
  k_with_none
  k_with "M enter" => (refine' code_def ?k1 ?k2 ?k3 ?k4 ?k5 ?kA ?kF ?kK ?k6 ?k7 ?k8 ?k9 ?kB ?_ ?c2 ?c3 ?c4 ?c5; (case kA => exact rfl); (case kF => exact rfl); (case kK => assumption); (case k1 => k_asm); (case k2 => k_asm); (case k3 => k_asm); (case k4 => k_asm); (case k5 => k_asm); (case k6 => k_is); (case k7 => k_is); (case k8 => first | exact rm0 (by assumption) | ktr_room); (case k9 => first | exact BindsTo.of_eq rfl | exact binds_K (by k_in) rfl (by k_is) rfl rfl rfl); (case c5 => decide); (case kB => exact locs rfl); (case c2 => exact rfl); (case c3 => exact rfl); (case c4 => exact rfl); k_whole; intro g' L' h' FG' F' N' B' X' T'; (try dsimp only); (try k_lift B'); (try k_fold))
  k_dflt (walk_at "M enter")
  k_with_none
  k_with "M in" => (first | with_reducible assumption | exact Frag.In.keeps (by with_reducible assumption) (Fr.keep (by with_reducible assumption)))
  k_with "call ref" => (k_here; k_extra "M call")
  k_with "call ref" => (k_here; with_reducible first | refine call_app0 ?_ | refine call_app1 ?_ | refine call_app2 ?_)
  k_with "M kN" => (first | assumption | exact news_tl1 (by assumption) | exact news_tl2 (by assumption) | exact news_tl3 (by assumption) | exact news_tl4 (by assumption) | exact news_dr1 (by assumption) | exact news_dr2 (by assumption) | exact news_dr3 (by assumption))
  k_with "M all" => (first | assumption | exact apart_of (by first | assumption | exact And.right (by assumption) | exact And.right (And.right (by assumption)) | exact And.right (And.right (And.right (by assumption))) | exact And.right (And.right (And.right (And.right (by assumption))))))
  k_with "M mem" => (repeat (first | exact List.mem_cons_self | assumption | refine List.mem_cons_of_mem _ ?_))
  k_with "M sub" => (intro q hq; repeat (first | assumption | refine List.mem_cons_of_mem _ ?_))
  k_with "M kN" => (first | assumption | (refine news_sub (by assumption) ?_; (repeat refine List.forall_mem_cons.mpr (And.intro (by walk_at "M mem") ?_)); walk_at "M sub"))
  k_steps
  exact hret _ _ (by assumption) (by walk_at "M kN")
end
/-- what a turn of a loop with a fixed ledger leaves -/
noncomputable def FixE (h₀ : Heap) (L : Addr) (m : Str → Option Value) (xs : List Str) (led own : List (Addr × Obj)) (s : Shared) (fl : Flow) (s₂ : Shared) : Prop :=
  fl = .next ∧ ∃ h' tk' m', s₂ = { s with heap := h', toks := tk' } ∧ (∀ z, z ∉ xs → m' z = m z) ∧ Fr h₀ L h' m' ∧ News h₀ L h' (led ++ own)
theorem loop_fix {prog : Program} {w : World} {A : Around} {E : Value → Shared → Prop} {s : Shared} {env : Env} {h₀ : Heap} {body : List Stmt} {Q : Flow → Shared → Prop} {m : Str → Option Value} {x1 : Str} {xs : List Str} {r : Addr} {a₀ b₀ : Int} {t₀ u₀ v₀ : Tok} {n : Nat} {led : List (Addr × Obj)}
    (hx : x1 ∈ xs) (hh : A.handled = none) (hr : IsRange s.heap r a₀ b₀ 1 t₀ u₀ v₀) (hsmall : Builtin.Range.small a₀ b₀ 1 = true) (hsz : Builtin.Range.rangeSize a₀ b₀ 1 = (n : Int)) (F : Fr h₀ env.locals s.heap m) (N : News h₀ env.locals s.heap led)
    (turn : ∀ (i : Nat) (t : Tok) (m₁ : Str → Option Value) own h tk, i < n → (∀ z, z ∉ xs → m₁ z = m z) → Fr h₀ env.locals h (fun z => if z = x1 then some (.int (a₀ + (i : Int) * 1) t) else m₁ z) → News h₀ env.locals h (led ++ own) →
      wpAny (model prog w) A (execs body env) (FixE h₀ env.locals m xs led own { s with heap := h, toks := tk }) E { s with heap := h, toks := tk })
    (done : ∀ (m₁ : Str → Option Value) h tk, (∀ z, z ∉ xs → m₁ z = m z) → Fr h₀ env.locals h m₁ → News h₀ env.locals h led → Q .next { s with heap := h, toks := tk }) :
    wpAny (model prog w) A (pyIter (.ref r)) (fun it s₂ => LoopAtV prog w A h₀ env x1 body Q E it s₂) E s := by
  refine wpAny_pyIter_range hr hsmall ?_
  have W : Walks prog w A s.heap.objs.size [s.heap.objs.size] [s.heap.objs.size] n (fun i v => i < n ∧ ∃ t, v = .int (a₀ + i * 1) t)
      (fun i h => IsRangeIter h s.heap.objs.size (a₀ + (i : Nat) * 1) ((n : Int) - (i : Nat)) 1) := (Walks.range hh _ a₀ 1 n).bound
  refine kdr_loop (fun i m₁ nx => (∀ z, z ∉ xs → m₁ z = m z) ∧ nx = led) W (fun _ h => h) (fun _ h => h) ?_ ?_ ?_ ?_ (by show IsRangeIter _ _ _ _ _; rw [hsz]; simpa using Heap.get?_push_size _ rfl) (F.push _) (fun p hp => ⟨Heap.get?_push_of_some _ (N p hp).1, (N p hp).2⟩) ⟨fun _ _ => rfl, rfl⟩ ?_ ?_
  · intro i h hi b hb
    rw [List.mem_singleton.mp hb]
    exact ⟨_, hi⟩
  · intro hm
    exact absurd F.ns.lt ((List.mem_singleton.mp hm) ▸ Nat.lt_irrefl _)
  · intro b hb
    rw [List.mem_singleton.mp hb]
    exact next_is_new F
  · intro p hp hI
    exact absurd (Heap.lt_size (N p hp).1) ((List.mem_singleton.mp hI) ▸ Nat.lt_irrefl _)
  · intro i v m₁ nx h tk own hi hI9 hoff hJ9 F₁ N₁
    refine byC fun hn9 => ?_
    obtain ⟨_, t, rfl⟩ := hI9
    obtain ⟨hv, rfl⟩ := hJ9
    refine hn9 ?_
    clear hn9
    refine wpAny_mono (turn i t m₁ own h tk hi hv F₁ N₁) (fun fl s₂ hp => ?_) fun _ _ e => e
    obtain ⟨rfl, h', tk', m', rfl, hv', F', N'⟩ := hp
    show InvEndG _ _ _ _ _ _
    exact ⟨h', tk', m', nx ++ own, nx, rfl, F', N', fun p hp => List.mem_append_left _ hp, fun p hp => List.mem_append_right _ hp, hoff, hv', rfl⟩
  · rintro m₁ nx h tk ⟨hv, rfl⟩ F₁ N₁
    exact done m₁ h tk hv F₁ N₁
end

-- 92slice
section
section
variable {prog : Program} {w : World} {A : Around} {E : Value → Shared → Prop} {s : Shared} {h₀ : Heap} {L : Addr} {m : Str → Option Value} {news : List (Addr × Obj)}
theorem applied35 {sl : Addr} {u u' : Tok} {Q : Int × Int × Nat → Shared → Prop} (hs : s.heap.IsSliceOf sl (.int 3 u) (.int 5 u') .none) (h : Q ((3 : Int), 1, 2) s) :
    wpAny (model prog w) A (Builtin.Slice.sliceApplied (.ref sl) (pure (7 : Int))) Q E s := by
  obtain ⟨os, hos, hcs, hds⟩ := id hs
  unfold Builtin.Slice.sliceApplied Builtin.Slice.sliceFields
  refine wpAny_bind (wpAny_bind (wpAny_field hos hds (x := .int 3 u) rfl (wpAny_bind (wpAny_field hos hds (x := .int 5 u') rfl (wpAny_bind (wpAny_field hos hds (x := .none) rfl (wpAny_pure ?_)))))))
  refine wpAny_bind (slicePart_none ?_)
  show wpAny _ _ (if ((1 : Int) == 0) = true then _ else _) _ _ s
  rw [if_neg (by decide)]
  exact wpAny_bind (slicePart_int (wpAny_bind (slicePart_int (wpAny_bind (wpAny_pure (wpAny_pure h))))))
theorem getItem35 {t sl : Addr} {v0 v1 v2 v3 v4 v5 v6 : Value} {u u' : Tok} {Q : Value → Shared → Prop} (ht : IsTup s.heap t #[v0, v1, v2, v3, v4, v5, v6]) (hs : s.heap.IsSliceOf sl (.int 3 u) (.int 5 u') .none)
    (h : Q (.ref s.heap.objs.size) { s with heap := s.heap.push { cls := .type "tuple", data := .seq #[v3, v4] } }) : wpAny (model prog w) A (getItem (.ref t) (.ref sl)) Q E s := by
  have hdrop : sizeOk (.seq #[v3, v4]) := by
    show 2 ≤ sizeLine
    rw [sizeLine_eq]; omega
  obtain ⟨os, hos, hcs, hds⟩ := id hs
  have hTs : s.TypeIs (.ref sl) "slice" := ⟨os, hos, hcs⟩
  unfold getItem
  try with_reducible refine wpAny_holding ?_
  first | refine wpAny_bind (wpAny_pure ?_) | skip
  refine wpAny_bind (wpAny_sequenceKey ht.typeIs (by decide) ?_)
  refine wpAny_bind (wpAny_callSpecial?_slot (name := Str.ofString "__getitem__") ht.typeIs slot_tuple_getitem
    (wpAny_call_entry slot_tuple_getitem ht.typeIs entry_tuple_getitem ?_ (args_tuple_getitem _ _)))
  show wpAny _ _ (Builtin.Tuple.tupleItemsOf (.ref t) >>= _) _ _ s
  refine wpAny_bind (tupleItemsOf_ ht ?_)
  refine wpAny_bind (wpAny_typeOf hTs ?_)
  rw [if_pos (by decide)]
  refine wpAny_bind (applied35 hs ?_)
  show wpAny _ _ (if ((3 : Int) == 0 && (1 : Int) == 1 && ((2 : Nat) == 7)) = true then _ else _) _ _ s
  rw [if_neg (by decide)]
  first
    | exact wpAny_bind (m := Builtin.Tuple.tupleExact _) (wpAny_newObj_type (wpAny_pure ⟨_, rfl, wpAny_pure h⟩) hdrop)
    | exact wpAny_bind (m := Builtin.Tuple.tupleExact _) (wpAny_newObj_type (wpAny_bind (wpAny_pure (wpAny_pure ⟨_, rfl, wpAny_pure h⟩))) hdrop)
    | exact wpAny_bind (wpAny_bind (m := Builtin.Tuple.tupleExact _) (wpAny_newObj_type (wpAny_pure (wpAny_pure ⟨_, rfl, wpAny_pure h⟩)) hdrop))
    | exact wpAny_bind (wpAny_bind (m := Builtin.Tuple.tupleExact _) (wpAny_newObj_type (wpAny_pure ⟨_, rfl, wpAny_pure h⟩) hdrop))
theorem slice35 {value slice : Expr} {t : Addr} {v0 v1 v2 v3 v4 v5 v6 : Value} {n : Nat} {u u' : Tok} {Q : Value → Shared → Prop}
    (F : Fr h₀ L s.heap m) (N : News h₀ L s.heap news) (hm : (t, ({ cls := .type "tuple", data := .seq #[v0, v1, v2, v3, v4, v5, v6] n } : Obj)) ∈ news)
    (h : ∀ D h', Fr h₀ L h' m → News h₀ L h' ((D, ({ cls := .type "tuple", data := .seq #[v3, v4] } : Obj)) :: news) → Q (.ref D) { s with heap := h' })
    (hs : subscripted slice false (.ref t) (.ref s.heap.objs.size) = operate [.ref s.heap.objs.size, .ref t] (getItem (.ref t) (.ref s.heap.objs.size)) := by with_unfolding_all rfl)
    (hg : ∀ r, letTemporaryGo value (.ref t) r = pure () := by intro _; with_unfolding_all rfl) :
    wpAny (model prog w) A (subscriptTail value slice (.ref t) (.ref s.heap.objs.size)) Q E { s with heap := s.heap.push { cls := .type "slice", data := .fields #[.int 3 u, .int 5 u', .none] } } := by
  have ht : IsTup s.heap t #[v0, v1, v2, v3, v4, v5, v6] := ⟨_, (N _ hm).1, rfl, n, rfl⟩
  have ht' : IsTup (s.heap.push { cls := .type "slice", data := .fields #[.int 3 u, .int 5 u', .none] }) t #[v0, v1, v2, v3, v4, v5, v6] := ht.keeps fun _ _ e => Heap.get?_push_of_some _ e
  refine subscriptTail_ops (s := { s with heap := s.heap.push { cls := .type "slice", data := .fields #[.int 3 u, .int 5 u', .none] } }) ht'.typeIs slot_tuple_getitem.lookup
    (getItem35 ht' (Heap.IsSliceOf.new ..) ?_) hs hg
  have N1 := News.push (F.push { cls := .type "slice", data := .fields #[.int 3 u, .int 5 u', .none] }) (N.grown fun _ _ e => Heap.get?_push_of_some _ e) { cls := .type "tuple", data := .seq #[v3, v4] }
  rw [Heap.size_push] at N1
  show Q (.ref (s.heap.push _).objs.size) _
  rw [Heap.size_push]
  exact h _ _ ((F.push _).push _) N1
end
end

-- 93right
section
theorem row_in {D : List (Addr × Obj)} {v : Value} {r : Row} (h : DatIn D v (rowD r)) : ∃ da pe w1 w2 w3 w4 w5 w6 v3 n m, v = .ref da ∧ (da, ({ cls := .type "tuple", data := .seq #[.str r.kind w1, .str r.text w2, v3, .int (r.line : Int) w3, .int (r.col : Int) w4, .bool r.first, .ref pe] n } : Obj)) ∈ D ∧
    (pe, ({ cls := .type "tuple", data := .seq #[.int (r.eline : Int) w5, .int (r.ecol : Int) w6] m } : Obj)) ∈ D ∧ DatIn D v3 r.val := by
  refine byC fun hn => ?_
  obtain ⟨a, vs, n, rfl, hm, hd⟩ := DatIn.tuple_inv (show DatIn D v (.tuple _) from h)
  obtain ⟨_, _, v3, _, _, _, _, rfl, h1, h2, h3, h4, h5, h6, h7⟩ := DatAll.seven hd
  obtain ⟨w1, rfl⟩ := DatIn.str_inv h1
  obtain ⟨w2, rfl⟩ := DatIn.str_inv h2
  obtain ⟨w3, rfl⟩ := DatIn.int_inv h4
  obtain ⟨w4, rfl⟩ := DatIn.int_inv h5
  obtain ⟨pe, _, m, rfl, hm2, h7⟩ := DatIn.tuple_inv h7
  obtain ⟨_, _, rfl, h8, h9⟩ := DatAll.two h7
  obtain ⟨w5, rfl⟩ := DatIn.int_inv h8
  obtain ⟨w6, rfl⟩ := DatIn.int_inv h9
  rw [DatIn.bool_inv h6] at hm
  exact hn ⟨a, pe, w1, w2, w3, w4, w5, w6, v3, n, m, rfl, hm, hm2, h3⟩
theorem item_due {prog : Program} {w : World} {A : Around} {E : Value → Shared → Prop} {s : Shared} {h₀ : Heap} {L l : Addr} {news D : List (Addr × Obj)} {vs : List Value} {rows : List Row} {n : Nat} {k : Int} {u : Tok} {value slice : PySem.Expr} {Q : Value → Shared → Prop} (j : Nat) {r : Row} (N : News h₀ L s.heap news) (hm : (l, W.listOf vs.toArray n) ∈ news) (hd : DatAll D vs (rows.map rowD))
    (hj : rows[j]? = some r) (hk : k = (j : Int)) (hl : rows.length ≤ 9001) (h : ∀ da pe w1 w2 w3 w4 w5 w6 v3 n m, (da, ({ cls := .type "tuple", data := .seq #[.str r.kind w1, .str r.text w2, v3, .int (r.line : Int) w3, .int (r.col : Int) w4, .bool r.first, .ref pe] n } : Obj)) ∈ D → (pe, ({ cls := .type "tuple", data := .seq #[.int (r.eline : Int) w5, .int (r.ecol : Int) w6] m } : Obj)) ∈ D → DatIn D v3 r.val → Q (.ref da) s)
    (hs : subscripted slice false (.ref l) (.int k u) = operate [.ref l, .int k u] (getItem (.ref l) (.int k u)) := by with_unfolding_all rfl) :
    wpAny (model prog w) A (subscriptTail value slice (.ref l) (.int k u)) Q E s := by
  have hlt := (List.getElem?_eq_some_iff.mp hj).1
  refine kd_item N hm hd (by omega) (by rw [List.length_map]; omega) (by omega) (fun v d hget _ hD => ?_) hs
  rw [hk, Int.toNat_natCast, List.getElem?_map, hj] at hget
  cases hget
  refine byC fun hn => ?_
  obtain ⟨da, pe, w1, w2, w3, w4, w5, w6, v3, n, m, rfl, h1, h2, h3⟩ := row_in hD
  exact hn (h _ _ _ _ _ _ _ _ _ _ _ h1 h2 h3)
theorem item_word {prog : Program} {w : World} {A : Around} {E : Value → Shared → Prop} {s : Shared} {h₀ : Heap} {L l : Addr} {news own : List (Addr × Obj)} {vs : Array Value} {rows : List Row} {n : Nat} {k : Int} {u : Tok} {value slice : PySem.Expr} {Q : Value → Shared → Prop} (j : Nat) {r : Row} (N : News h₀ L s.heap news) (hm : (l, W.listOf vs n) ∈ news) (hw : WordsIn own vs.toList rows)
    (hj : rows[j]? = some r) (hk : k = (j : Int)) (hl : rows.length ≤ 9001) (h : ∀ wa, WordAt own wa r → Q (.ref wa) s)
    (hs : subscripted slice false (.ref l) (.int k u) = operate [.ref l, .int k u] (getItem (.ref l) (.int k u)) := by with_unfolding_all rfl) :
    wpAny (model prog w) A (subscriptTail value slice (.ref l) (.int k u)) Q E s := by
  have hlt := (List.getElem?_eq_some_iff.mp hj).1
  have hlen := hw.length
  obtain ⟨v, hv⟩ : ∃ v, vs.toList[j]? = some v := ⟨_, List.getElem?_eq_getElem (by omega)⟩
  obtain ⟨wa, rfl, ha⟩ := hw.get hj hv
  have hi : s.heap.IsList l vs := ⟨_, (N _ hm).1, rfl, n, rfl⟩
  exact tail_any hi.typeIs slot_list_getitem.lookup (wpAny_getItem_list hi (by omega) (by omega) (by rw [hk, Int.toNat_natCast, ← Array.getElem?_toList]; exact hv) (h wa ha)) hs
theorem apB_c1 {r1 r2 : Row} (h1 : ((r1.eline : Int) == (r2.line : Int) && (r1.ecol : Int) == (r2.col : Int)) = true) (h2 : (apB r1 r2 != (r1.text == Str.ofString "[")) = true) : False := by
  unfold apB at h2
  cases ht : (r1.text == Str.ofString "[") <;> simp_all
theorem apB_c2 {r1 r2 : Row} (h1 : ((r1.eline : Int) == (r2.line : Int) && (r1.ecol : Int) == (r2.col : Int)) = false) (h2 : (apB r1 r2 != !((r1.eline : Int) == (r2.line : Int) && (r1.ecol : Int) == (r2.col : Int))) = true) : False := by
  unfold apB at h2
  rw [h1] at h2
  cases ht : (r1.text == Str.ofString "[") <;> simp_all
theorem fixE_end {h₀ h' : Heap} {L : Addr} {m m' : Str → Option Value} {xs : List Str} {led own l : List (Addr × Obj)} {s : Shared} {tk : Nat} (F : Fr h₀ L h' m') (N : News h₀ L h' l) (hs : ∀ q ∈ led ++ own, q ∈ l) (hv : ∀ z, z ∉ xs → m' z = m z) : FixE h₀ L m xs led own s .next { s with heap := h', toks := tk } :=
  ⟨rfl, h', tk, m', rfl, hv, F, news_sub N hs⟩
theorem vary2 {m m₁ : Str → Option Value} {x1 x2 : Str} (h : ∀ z, z ∉ [x1, x2] → m₁ z = m z) {v : Option Value} : (fun z => if z = x1 then v else m₁ z) = fun z => if z = x1 then v else if z = x2 then m₁ x2 else m z := by
  funext z
  by_cases h1 : z = x1
  · rw [if_pos h1, if_pos h1]
  · rw [if_neg h1, if_neg h1]
    by_cases h2 : z = x2
    · rw [if_pos h2, h2]
    · rw [if_neg h2]; exact h z (by simp [h1, h2])
theorem vary2' {m m₁ : Str → Option Value} {x1 x2 : Str} (h : ∀ z, z ∉ [x1, x2] → m₁ z = m z) : ∃ v1 v2, m₁ = fun z => if z = x1 then v1 else if z = x2 then v2 else m z := by
  refine ⟨m₁ x1, m₁ x2, ?_⟩
  funext z
  by_cases h1 : z = x1
  · rw [if_pos h1, h1]
  · rw [if_neg h1]
    by_cases h2 : z = x2
    · rw [if_pos h2, h2]
    · rw [if_neg h2]; exact h z (by simp [h1, h2])
theorem getEl {rows : List Row} {i n : Nat} (h : i < n) (hn : n = rows.length - 1) : ∃ r1 r2, rows[i]? = some r1 ∧ rows[i + 1]? = some r2 ∧ r1 ∈ rows := ⟨_, _, List.getElem?_eq_getElem (by omega), List.getElem?_eq_getElem (by omega), List.getElem_mem _⟩
theorem LexR.pos {T : List Nat} {i : Nat} {f : Bool} {rows : List Row} (h : LexR T i f rows none) : 1 ≤ rows.length := by
  generalize hr : none = r at h
  cases h with
  | fin _ => simp
  | bad _ => cases hr
  | word _ _ _ => simp
theorem len_words {prog : Program} {w : World} {A : Around} {E : Value → Shared → Prop} {s : Shared} {h₀ : Heap} {L l : Addr} {news own : List (Addr × Obj)} {vs : Array Value} {rows : List Row} {n : Nat} {Q : Value → Shared → Prop} (N : News h₀ L s.heap news) (hm : (l, W.listOf vs n) ∈ news) (hw : WordsIn own vs.toList rows) (hl : rows.length ≤ 9001)
    (h : Q (.int (rows.length : Int) (s.toks + 1)) { s with toks := s.toks + 1 + 1 }) : wpAny (model prog w) A (call (.builtin "len") [.ref l]) Q E s := by
  have hi : s.heap.IsList l vs := ⟨_, (N _ hm).1, rfl, n, rfl⟩
  have e : vs.size = rows.length := by rw [← hw.length, Array.length_toList]
  exact len_list hi (by rw [e]; omega) (by rw [e]; exact h)
theorem range_rows {n : Nat} (h : n ≤ 9001) (h1 : 1 ≤ n) : Builtin.Range.small 1 (n : Int) 1 = true ∧ Builtin.Range.rangeSize 1 (n : Int) 1 = ((n - 1 : Nat) : Int) := by
  refine ⟨small_one (by omega) (by omega) (by omega) (by omega), ?_⟩
  rw [rangeSize_nat]; omega
theorem news_split {g h : Heap} {L : Addr} {e1 e2 lw p1 p2 : Addr × Obj} {own' rest own : List (Addr × Obj)} (N : News g L h ([e1, e2] ++ ((lw :: (own' ++ (p1 :: p2 :: rest))) ++ own))) :
    ∃ R, (∀ q ∈ rest, q ∈ R) ∧ (∀ q ∈ own', q ∈ R) ∧ (∀ q ∈ (lw :: (own' ++ (p1 :: p2 :: rest))) ++ own, q ∈ e1 :: e2 :: lw :: R) ∧ News g L h (e1 :: e2 :: lw :: R) :=
  ⟨(own' ++ (p1 :: p2 :: rest)) ++ own, fun q h => List.mem_append_left _ (List.mem_append_right _ (.tail _ (.tail _ h))), fun q h => List.mem_append_left _ (List.mem_append_left _ h), fun q h => .tail _ (.tail _ h), N⟩
section
theorem c_apart_right {w : World} {dp un : Nat} {gd : Option (List Code)} {cn : Str} {cs : Scope} {a : Addr} {ccd : Value} {cl : List (Str × Addr)} {outer : List Env} {A₀ : Around} {base h₀ : Heap} {L : Addr} {m : Str → Option Value} {s : Shared} {mean : ExcName → Option Value} {mg mb : Str → Option Value} {Q E : Value → Shared → Prop} {rest : List (Addr × Obj)} {pg dl : Addr} {o : Obj} {T : List Nat} {p : Nat × Nat × Bool} {rows : List Row} {dv : List Value} {n : Nat} {t1 t2 t3 : Tok}
  (B : Below A₀ base outer h₀) (F : Fr h₀ L s.heap m) (X : (Mine.hd.heap_1 w.params).In h₀) (N : News h₀ L s.heap ((pg, o) :: (dl, W.listOf dv.toArray n) :: rest)) (TT : Top Mine.hd.view_1 lz mean mg mb h₀) (hk : cs.kind = .function) (hd : dp + 30 < recursionLimit) (hu : un + 8 * 30 < cLine)
  (ho : PgIs w o T p dl t1 t2 t3) (hD : DatAll rest dv (rows.map rowD)) (hT : T.length ≤ 9000) (hb : 123 ∉ T) (hl : LexR T 0 true rows none) (hP : ∀ r ∈ rows, ApK r)
  (hret : ∀ h' tk', Fr h₀ L h' m → News h₀ L h' ((pg, o) :: (dl, W.listOf dv.toArray n) :: rest) → Q (.bool true) { s with heap := h', toks := tk' }) :
  wpAny (model PySem.Challenge.rw_sy0021_01.row.prog w) (ktrTop dp un gd cn cs L a ccd cl outer) (call (.ref 380) [.ref pg]) Q E s := by
  have hrl := hl.len (Nat.zero_le _)
  have hrl1 := hl.pos
  have hrl2 : rows.length ≤ 9001 := by omega
  obtain ⟨r0, hi0⟩ : ∃ r0, rows[0]? = some r0 := ⟨_, List.getElem?_eq_getElem hrl1⟩
  have hfill : (Mine.hd.heap_1 = Mine.hd.heap_1 ∧ PySem.Challenge.rw_sy0021_01 = PySem.Challenge.rw_sy0021_01) := by k_fill; exact ⟨rfl, rfl⟩
  clear hfill
  refine wpAny_call ?_
  k_with_none
  k_with "M enter" => (refine' code_def ?k1 ?k2 ?k3 ?k4 ?k5 ?kA ?kF ?kK ?k6 ?k7 ?k8 ?k9 ?kB ?_ ?c2 ?c3 ?c4 ?c5; (case kA => exact rfl); (case kF => exact rfl); (case kK => assumption); (case k1 => k_asm); (case k2 => k_asm); (case k3 => k_asm); (case k4 => k_asm); (case k5 => k_asm); (case k6 => k_is); (case k7 => k_is); (case k8 => first | exact rm0 (by assumption) | ktr_room); (case k9 => first | exact BindsTo.of_eq rfl | exact binds_K (by k_in) rfl (by k_is) rfl rfl rfl); (case c5 => decide); (case kB => exact locs rfl); (case c2 => exact rfl); (case c3 => exact rfl); (case c4 => exact rfl); k_whole; intro g' L' h' FG' F' N' B' X' T'; (try dsimp only); (try k_lift B'); (try k_fold))
  k_dflt (walk_at "M enter")
  k_with_none
  k_with "M use" => ((case u1x => k_asm); (case u2x => k_asm); (case u3x => k_asm); (case u5x => k_asm); (case uKx => first | assumption | exact rfl); (case udx => first | exact rmA (by assumption) (by decide) | ktr_room); (case uux => first | exact umA (by assumption) (by decide) | ktr_units))
  k_with "M in" => (first | with_reducible assumption | exact Frag.In.keeps (by with_reducible assumption) (Fr.keep (by with_reducible assumption)))
  k_with "call ref" => (k_here; k_extra "M call")
  k_with "call ref" => (k_here; with_reducible first | refine call_app0 ?_ | refine call_app1 ?_ | refine call_app2 ?_)
  k_with "eval Call" => (k_here; k_dflt (refine Call_ ?_))
  k_with "M all" => (first | assumption | exact apart_of (by first | assumption | exact And.right (by assumption) | exact And.right (And.right (by assumption)) | exact And.right (And.right (And.right (by assumption))) | exact And.right (And.right (And.right (And.right (by assumption))))))
  k_with "M mem" => (repeat (first | exact List.mem_cons_self | assumption | refine List.mem_cons_of_mem _ ?_))
  k_with "pyIter ref" => (k_here; k_extra "M rng")
  k_with "pyIter ref" => (k_here; (with_reducible show wpAny _ _ (pyIter (Value.ref _)) (fun it s₂ => TurnsAt _ _ _ _ _ _ _ _ _ it s₂) _ _); (rename Fr _ _ _ _ => lF'); (rename News _ _ _ _ => lN'); (with_unfolding_all refine' iter_tupTurns ?th lF' lN' List.mem_cons_self ?tc ?td ?_; (case th => exact rfl); (case tc => exact rfl); (case td => exact rfl)); clear lF' lN'; intro i' l1)
  k_with "M call" => ((with_reducible show wpAny _ _ (call (Value.ref 312) _) _ _ _); k_dflt (refine' c_words_none ?u1x ?u2x ?u3x ?u4x ?u5x ?uKx ?udx ?uux ?z1 ?z2 ?z3 ?_; walk_at "M use"; (case u4x => k_asm); (case z1 => omega); (case z2 => assumption); (case z3 => assumption)); k_whole; intro h' tk' l' vs' n' own' F' N' I' A'; (try dsimp only); (try k_sweep))
  k_with "M call" => ((with_reducible show wpAny _ _ (call (Value.ref 312) _) _ _ _); k_dflt (refine' c_words_some ?u1x ?u2x ?u3x ?u4x ?u5x ?uKx ?udx ?uux ?z1 ?z2 ?z3 ?_; walk_at "M use"; (case u4x => k_asm); (case z1 => omega); (case z2 => assumption); (case z3 => assumption)); k_whole; intro e' g₂' h' tk' F' U' R'; (try dsimp only))
  k_with "subscriptTail" => (k_here; (with_reducible show wpAny _ _ (subscriptTail _ _ (Value.ref _) (Value.str _ _)) _ _ _); k_dflt (first | refine kda_item (knd := PySem.strKind _ _) (by k_asm) (by walk_at "M mem") (by assumption) (strKind_is _ _ _ _) pv1 ?_ | refine kda_item (knd := PySem.strKind _ _) (by k_asm) (by walk_at "M mem") (by assumption) (strKind_is _ _ _ _) pv2 ?_ | refine kda_item (knd := PySem.strKind _ _) (by k_asm) (by walk_at "M mem") (by assumption) (strKind_is _ _ _ _) pv3 ?_ | refine kda_item (knd := PySem.strKind _ _) (by k_asm) (by walk_at "M mem") (by assumption) (strKind_is _ _ _ _) pv4 ?_ | refine kda_item (knd := PySem.strKind _ _) (by k_asm) (by walk_at "M mem") (by assumption) (strKind_is _ _ _ _) pv5 ?_))
  k_with "subscriptTail" => (k_here; k_extra "M item")
  k_with "subscriptTail Name Name ref int" => (k_here; k_extra "M item")
  k_with "subscriptTail Name BinOp ref int" => (k_here; k_extra "M item")
  k_with "subscriptTail" => (k_here; (with_reducible show wpAny _ _ (subscriptTail _ (Expr.Slice _ _ none _) (Value.ref _) (Value.ref _)) _ _ _); k_extra "M slice")
  k_with "call builtin:len" => (k_here; (with_reducible show wpAny _ _ (call (Value.builtin "len") [Value.ref _]) _ _ _); k_extra "M len")
  k_with "M call" => ((with_reducible show wpAny _ _ (call (Value.ref 319) _) _ _ _); k_extra "M apart")
  k_with "M len" => (
    rename News _ _ _ _ => kN'
    rename WordsIn _ _ _ => hWs
    k_dflt (refine len_words kN' (.head _) hWs hrl2 ?_))
  k_with "M rng" => (k_dflt (
    rename Fr _ _ _ _ => lF'
    rename News _ _ _ _ => lN'
    rename IsRange _ _ _ _ _ _ _ _ => lR'
    refine' loop_fix (x1 := Str.ofString "at") (xs := [Str.ofString "at", Str.ofString "due"]) (n := rows.length - 1) ?hx ?hh lR' (range_rows hrl2 hrl1).1 (range_rows hrl2 hrl1).2 lF' lN' ?turn ?done
    (case hx => exact List.mem_cons_self)
    (case hh => exact rfl)
    (case' turn => (
      intro i it m₁ own h tk hi hv kFr kNews
      rw [vary2 hv] at kFr
      clear hv lF' lR'
      obtain ⟨r1, r2, hi1, hi2, hm1⟩ := getEl hi rfl
      have hPr := hP _ hm1
      have kN3 := news_pre (l' := [(pg, o), (dl, W.listOf dv.toArray n)]) kNews (List.forall_mem_cons.mpr ⟨List.mem_append_left _ (.tail _ (List.mem_append_right _ (.head _))), List.forall_mem_cons.mpr ⟨List.mem_append_left _ (.tail _ (List.mem_append_right _ (.tail _ (.head _)))), List.forall_mem_nil _⟩⟩)
      clear kNews lN'
      refine byC fun hn9 => ?_
      obtain ⟨R, hR, hO, hB, kN4⟩ := news_split kN3
      clear kN3
      refine hn9 ?_
      clear hn9))
    (case' done => (
      intro m₁ h tk hv kFr kNews
      obtain ⟨va, vd, rfl⟩ := vary2' hv
      clear lF' lN' lR' hv))))
  k_with "M slice" => (k_dflt (
    rename Fr _ _ _ _ => lF'
    rename News _ _ _ _ => lN'
    refine slice35 lF' lN' (by walk_at "M mem") ?_
    clear lF' lN'
    intro D' h' F' N'
    (try dsimp only)))
  k_with "M item" => (
    rename News _ _ _ _ => kN'
    first
    | (skip
       (with_reducible show wpAny _ _ (subscriptTail _ _ (Value.ref dl) (Value.int (_ - 1) _)) _ _ _)
       k_dflt (
         refine item_due i kN' (by walk_at "M mem") hD hi1 (by omega) hrl2 ?_
         intro da1 dp1 dw1 dw2 dw3 dw4 dw5 dw6 dv1 dn1 dm1 dh1 dh2 dh3
         have dh4 := dh3.handed
         have kN2 := news_pre (l' := [(da1, _), (dp1, _)]) kN' (List.forall_mem_cons.mpr ⟨by (repeat (first | exact hR _ dh1 | refine List.mem_cons_of_mem _ ?_)), List.forall_mem_cons.mpr ⟨by (repeat (first | exact hR _ dh2 | refine List.mem_cons_of_mem _ ?_)), List.forall_mem_nil _⟩⟩)
         simp only [List.cons_append, List.nil_append] at kN2
         clear kN'
         (try dsimp only)))
    | (skip
       (with_reducible show wpAny _ _ (subscriptTail _ _ (Value.ref dl) (Value.int _ _)) _ _ _)
       k_dflt (
         refine item_due (i + 1) kN' (by walk_at "M mem") hD hi2 (by omega) hrl2 ?_
         intro da2 dp2 dw1 dw2 dw3 dw4 dw5 dw6 dv2 dn2 dm2 dh1 dh2 dh3
         have dh4 := dh3.handed
         have kN2 := news_pre (l' := [(da2, _), (dp2, _)]) kN' (List.forall_mem_cons.mpr ⟨by (repeat (first | exact hR _ dh1 | refine List.mem_cons_of_mem _ ?_)), List.forall_mem_cons.mpr ⟨by (repeat (first | exact hR _ dh2 | refine List.mem_cons_of_mem _ ?_)), List.forall_mem_nil _⟩⟩)
         simp only [List.cons_append, List.nil_append] at kN2
         clear kN'
         (try dsimp only)))
    | (skip
       (with_reducible show wpAny _ _ (subscriptTail _ _ (Value.ref _) (Value.int (_ - 1) _)) _ _ _)
       k_dflt (
         refine item_word i kN' (by walk_at "M mem") hWs hi1 (by omega) hrl2 ?_
         intro wa1 hW9
         refine byC fun hn9 => ?_
         obtain ⟨wd1, wp1, wk1, wt11, wt12, wt13, wt14, wv1, wu11, wu12, wm1, wm2, wm3, wm4⟩ := hW9
         refine hn9 ?_
         clear hn9
         have wh1 := wm4.handed
         have kN2 := news_pre (l' := [(wa1, _), (wd1, _), (wp1, _)]) kN' (List.forall_mem_cons.mpr ⟨by (repeat (first | exact hO _ wm1 | refine List.mem_cons_of_mem _ ?_)), List.forall_mem_cons.mpr ⟨by (repeat (first | exact hO _ wm2 | refine List.mem_cons_of_mem _ ?_)), List.forall_mem_cons.mpr ⟨by (repeat (first | exact hO _ wm3 | refine List.mem_cons_of_mem _ ?_)), List.forall_mem_nil _⟩⟩⟩)
         simp only [List.cons_append, List.nil_append] at kN2
         clear kN'
         (try dsimp only)))
    | (skip
       (with_reducible show wpAny _ _ (subscriptTail _ _ (Value.ref _) (Value.int (1 + _) _)) _ _ _)
       k_dflt (
         refine item_word (i + 1) kN' (by walk_at "M mem") hWs hi2 (by omega) hrl2 ?_
         intro wa2 hW9
         refine byC fun hn9 => ?_
         obtain ⟨wd2, wp2, wk2, wt21, wt22, wt23, wt24, wv2, wu21, wu22, wm1, wm2, wm3, wm4⟩ := hW9
         refine hn9 ?_
         clear hn9
         have wh2 := wm4.handed
         have kN2 := news_pre (l' := [(wa2, _), (wd2, _), (wp2, _)]) kN' (List.forall_mem_cons.mpr ⟨by (repeat (first | exact hO _ wm1 | refine List.mem_cons_of_mem _ ?_)), List.forall_mem_cons.mpr ⟨by (repeat (first | exact hO _ wm2 | refine List.mem_cons_of_mem _ ?_)), List.forall_mem_cons.mpr ⟨by (repeat (first | exact hO _ wm3 | refine List.mem_cons_of_mem _ ?_)), List.forall_mem_nil _⟩⟩⟩)
         simp only [List.cons_append, List.nil_append] at kN2
         clear kN'
         (try dsimp only)))
    | (skip
       (with_reducible show wpAny _ _ (subscriptTail _ _ (Value.ref _) (Value.int 0 _)) _ _ _)
       k_dflt (
         refine item_word 0 kN' (by walk_at "M mem") hWs hi0 (by omega) hrl2 ?_
         intro wa0 hW9
         refine byC fun hn9 => ?_
         obtain ⟨wd0, wp0, wk0, wt01, wt02, wt03, wt04, wv0, wu01, wu02, wm1, wm2, wm3, wm4⟩ := hW9
         refine hn9 ?_
         clear hn9
         have wh0 := wm4.handed
         (try dsimp only)))
    | fail "M item")
  k_with "M apart" => (
    first
    | (rename News _ _ _ _ => kN'
       have kN2 := news_pre (l' := [(wa1, _), (wd1, _), (wp1, _), (wa2, _), (wd2, _)]) kN' (by (repeat refine List.forall_mem_cons.mpr (And.intro (by walk_at "M mem") ?_)); exact List.forall_mem_nil _)
       simp only [List.cons_append, List.nil_append] at kN2
       clear kN'
       k_dflt (refine' c_is_apart ?u1x ?u2x ?u3x ?u4x ?u5x ?uKx ?udx ?uux ?z1 ?z2 ?z3 ?_; walk_at "M use"; (case u4x => exact kN2); (case z1 => exact hPr); (case z2 => assumption); (case z3 => assumption))
       k_whole; intro h' tk' F' N'; (try dsimp only); (try k_sweep))
    | (k_dflt (refine' c_apart_none ?u1x ?u2x ?u3x ?u4x ?u5x ?uKx ?udx ?uux ?z3 ?_; walk_at "M use"; (case u4x => k_asm); (case z3 => exact rfl))
       k_whole; intro h' tk' F' N'; (try dsimp only); (try k_sweep)))
  k_steps
  · rename News h₀ _ _ _ => kz
    exact hret _ _ (by assumption) (news_sub kz fun q hq => .tail _ (List.mem_append_right _ hq))
  · exact (apB_c1 (by assumption) (by assumption)).elim
  · exact fixE_end (by assumption) (by assumption) (fun q hq => by (repeat (first | exact hB _ hq | refine List.mem_cons_of_mem _ ?_))) fun z hz => by (simp only [List.mem_cons, List.not_mem_nil, or_false, not_or] at hz; simp only [hz.1, hz.2, if_false])
  · exact (apB_c2 (by assumption) (by assumption)).elim
  · exact fixE_end (by assumption) (by assumption) (fun q hq => by (repeat (first | exact hB _ hq | refine List.mem_cons_of_mem _ ?_))) fun z hz => by (simp only [List.mem_cons, List.not_mem_nil, or_false, not_or] at hz; simp only [hz.1, hz.2, if_false])
end
end

theorem s_x15 : Str.ofString "x 1.5" = tx [120, 32, 49, 46, 53] := by decide +kernel
theorem s_1to5 : Str.ofString "[1..5]" = tx [91, 49, 46, 46, 53, 93] := by decide +kernel
theorem s_nil : Str.ofString "" = tx [] := by decide +kernel
theorem ne_tupE {prog : Program} {w : World} {A : Around} {E : Value → Shared → Prop} {s : Shared} {h₀ : Heap} {L a b : Addr} {news : List (Addr × Obj)} {x1 y1 x2 y2 : Int} {t1 t2 t3 t4 : Tok} {n m : Nat} {Q : Value → Shared → Prop} (N : News h₀ L s.heap news)
    (h1 : (a, ({ cls := .type "tuple", data := .seq #[.int x1 t1, .int y1 t2] n } : Obj)) ∈ news) (h2 : (b, ({ cls := .type "tuple", data := .seq #[.int x2 t3, .int y2 t4] m } : Obj)) ∈ news) (e1 : x1 = x2) (e2 : y1 = y2) (hu : A.units + 64 < cLine)
    (h : Q (.bool false) s) : wpAny (model prog w) A (compareOp .NotEq (.ref a) (.ref b)) Q E s :=
  ne_tup2 N h1 h2 hu (by rw [e1, e2]; simpa using h)
theorem len_six {prog : Program} {w : World} {A : Around} {E : Value → Shared → Prop} {s : Shared} {h₀ : Heap} {L l : Addr} {news own : List (Addr × Obj)} {vs : List Value} {rows : List Row} {n : Nat} {Q : Value → Shared → Prop} (N : News h₀ L s.heap news) (hm : (l, W.listOf vs.toArray n) ∈ news) (hd : DatAll own vs (rows.map rowD)) (hn : rows.length = 6)
    (h : Q (.int 6 (s.toks + 1)) { s with toks := s.toks + 1 + 1 }) : wpAny (model prog w) A (call (.builtin "len") [.ref l]) Q E s :=
  kd_len N hm hd (by rw [List.length_map, hn]; decide) (by rw [List.length_map, hn]; exact h)
theorem great_eq : (10 : Int) ^ (Int.toNat 3999) - 15 = TG - 15 := by
  have h : ∀ n : Nat, (10 : Int) ^ n = ((10 ^ n : Nat) : Int) := fun n => by simp
  rw [h]; rfl
theorem lc_nil : lc [] 0 = (1, 1) := by decide +kernel
theorem vary5 {m m₁ : Str → Option Value} {x1 x2 x3 x4 x5 : Str} (h : ∀ z, z ∉ [x1, x2, x3, x4, x5] → m₁ z = m z) {v : Option Value} : (fun z => if z = x1 then v else m₁ z) = fun z => if z = x1 then v else if z = x2 then m₁ x2 else if z = x3 then m₁ x3 else if z = x4 then m₁ x4 else if z = x5 then m₁ x5 else m z := by
  funext z
  by_cases h1 : z = x1
  · rw [if_pos h1, if_pos h1]
  · rw [if_neg h1, if_neg h1]
    by_cases h2 : z = x2
    · rw [if_pos h2, h2]
    · rw [if_neg h2]
      by_cases h3 : z = x3
      · rw [if_pos h3, h3]
      · rw [if_neg h3]
        by_cases h4 : z = x4
        · rw [if_pos h4, h4]
        · rw [if_neg h4]
          by_cases h5 : z = x5
          · rw [if_pos h5, h5]
          · rw [if_neg h5]; exact h z (by simp [h1, h2, h3, h4, h5])
theorem range12 {b : Int} (h : b = 1 ∨ b = 2) : Builtin.Range.small 0 b 1 = true ∧ Builtin.Range.rangeSize 0 b 1 = ((b.toNat : Nat) : Int) := by
  rcases h with rfl | rfl <;> exact ⟨by decide, by decide⟩
theorem cnt12 (k : Int) : (if (if k < 2 then k else 2) > 1 then if k < 2 then k else 2 else 1) = 1 ∨ (if (if k < 2 then k else 2) > 1 then if k < 2 then k else 2 else 1) = 2 := by
  split <;> split <;> omega
theorem idx0 (i : Nat) : (0 : Int) + (i : Int) * 1 = (i : Int) := by omega
theorem ix12 {b : Int} {i : Nat} (h : b = 1 ∨ b = 2) (hi : i < b.toNat) : i ≤ 1 := by omega
theorem pour_nil (p : Nat × Nat × Bool) : pourF [] p = p := rfl
noncomputable def Hold (P : Prop) : Prop := P
theorem hold {P : Prop} (h : Hold P) : P := h
section
theorem hq.tw10001376382149582108 : True := trivial
theorem hq.tw6815287188669290861 : True := trivial
theorem hq.tw6279407891034730392 : True := trivial
theorem hq.tw2446711658860428672 : True := trivial
theorem hq.tw8114841426480393502 : True := trivial
theorem hq.tw13370623703081640355 : True := trivial
theorem hq.tw16041765032119523446 : True := trivial
theorem hq.tw13058460094631807453 : True := trivial
theorem hq.tw10010650081863701617 : True := trivial
theorem hq.tw12391500430906805003 : True := trivial
theorem hq.tw4848108807988124131 : True := trivial
theorem hq.tw8123214563180613618 : True := trivial
theorem hq.tw6831830282658272535 : True := trivial
theorem hq.tw8201169055858481340 : True := trivial
theorem hq.tw5080482457446688561 : True := trivial
theorem hq.tw6815685841524224632 : True := trivial
theorem hq.tw12481044172393887954 : True := trivial
theorem hq.tw9659669307319190640 : True := trivial
theorem hq.tw14772127340083367040 : True := trivial
theorem hq.tw18276807595065023739 : True := trivial
theorem hq.tw15276287227970242661 : True := trivial
theorem hq.tw13976329359730278593 : True := trivial
theorem hq.tw16367165154766714319 : True := trivial
theorem hq.tw1441488458906403996 : True := trivial
theorem hq.tw37697335950043382 : True := trivial
theorem hq.tw10384215637601404327 : True := trivial
theorem hq.tw8635002137240528865 : True := trivial
theorem hq.tw1700315315751232304 : True := trivial
theorem hq.tw15952631729719037887 : True := trivial
theorem hq.tw9083301775340355608 : True := trivial
theorem hq.tw5582761554524759094 : True := trivial
theorem hq.tw4741875132220596311 : True := trivial
theorem hq.tw2267212845272169836 : True := trivial
theorem hq.tw10312157954276465073 : True := trivial
theorem hq.tw6442286201827202927 : True := trivial
theorem hq.tw9904924192073418881 : True := trivial
theorem hq.tw13502862691939865659 : True := trivial
theorem hq.tw12492813384891364374 : True := trivial
theorem hq.tw7568151494098392396 : True := trivial
theorem hq.tw13023949505232002771 : True := trivial
theorem hq.tw13100683107442814338 : True := trivial
theorem hq.tw15172653373062240575 : True := trivial
theorem hq.tw3475086186801777325 : True := trivial
theorem hq.tw9381266235724177792 : True := trivial
theorem hq.tw13450832908405550097 : True := trivial
theorem hq.tw4288558672954378248 : True := trivial
theorem hq.tw4057580815170638606 : True := trivial
theorem hq.tw11641537968807545709 : True := trivial
theorem hq.tw3702623868654441055 : True := trivial
theorem hq.tw9133466482286349414 : True := trivial
theorem hq.tw1500719978199872653 : True := trivial
theorem hq.tw7106466396363661638 : True := trivial
theorem hq.tw7079364385445073895 : True := trivial
theorem hq.tw9151865133259420103 : True := trivial
theorem hq.tw1102692453144107117 : True := trivial
theorem hq.tw12849039064130270240 : True := trivial
theorem hq.tw18141165161687149130 : True := trivial
theorem hq.tw4700772123730980896 : True := trivial
theorem hq.tw9031073068422697509 : True := trivial
theorem hq.tw3858204857450945017 : True := trivial
theorem hq.tw8914243485484973694 : True := trivial
theorem hq.tw1860683089816694825 : True := trivial
theorem hq.tw7589107396602480322 : True := trivial
theorem hq.tw7943481926809457172 : True := trivial
theorem hq.tw4824584372287218620 : True := trivial
theorem hq.tw8062890331336429170 : True := trivial
theorem hq.tw1140332349131322219 : True := trivial
theorem hq.tw4439803078412725676 : True := trivial
theorem hq.tw1629939692016619404 : True := trivial
theorem hq.tw10957233804992961332 : True := trivial
theorem hq.tw8308388744524497552 : True := trivial
theorem hq.tw3461464765368363466 : True := trivial
theorem hq.tw2050150026035442444 : True := trivial
theorem hq.tw5569108009095968475 : True := trivial
theorem hq.tw16316352616789880349 : True := trivial
theorem hq.tw828373266779266601 : True := trivial
theorem hq.tw9011297252748127280 : True := trivial
theorem hq.tw7179472203213589255 : True := trivial
theorem hq.tw7253851005133477568 : True := trivial
theorem hq.tw5131631581878701464 : True := trivial
theorem hq.tw4214643438969434645 : True := trivial
theorem hq.tw16700103266205983162 : True := trivial
theorem hq.tw2996563815162090415 : True := trivial
theorem hq.tw10808934275972336993 : True := trivial
theorem hq.tw3880375719507622018 : True := trivial
theorem hq.tw8316094494326325915 : True := trivial
theorem hq.tw16003533353896068565 : True := trivial
theorem hq.tw13029019406344279537 : True := trivial
theorem hq.tw7723358927924880359 : True := trivial
theorem hq.tw2260561623700716748 : True := trivial
theorem hq.tw9428742883436320482 : True := trivial
theorem hq.tw1569526789006978644 : True := trivial
theorem hq.tw1738449604571460292 : True := trivial
theorem hq.tw909575876175560465 : True := trivial
theorem hq.tw15114332125836811107 : True := trivial
theorem hq.tw7795197914602774408 : True := trivial
theorem hq.tw540485975783732659 : True := trivial
theorem hq.tw7987718348732695843 : True := trivial
theorem hq.tw540608965632813519 : True := trivial
theorem hq.tw9024074512309037242 : True := trivial
theorem hq.tw15491281439746748380 : True := trivial
theorem hq.tw17490343775666085965 : True := trivial
theorem hq.tw15450133903358312512 : True := trivial
theorem hq.tw16086767934403656065 : True := trivial
theorem hq.tw4797868753551183999 : True := trivial
theorem hq.tw18430880168501906121 : True := trivial
theorem hq.tw13946695615888808057 : True := trivial
theorem hq.tw10630391147137001860 : True := trivial
theorem hq.tw6156483766952535384 : True := trivial
theorem hq.tw15944341401679933261 : True := trivial
theorem hq.tw9011243111761860492 : True := trivial
theorem hq.tw7089316416521786280 : True := trivial
theorem hq.tw8280607470232188737 : True := trivial
theorem hq.tw6693717068639252140 : True := trivial
theorem hq.tw6847527207690855968 : True := trivial
theorem hq.tw10952823829123372175 : True := trivial
theorem hq.tw11085315714167747792 : True := trivial
theorem hq.tw12496698030514209297 : True := trivial
theorem hq.tw4222511593086879587 : True := trivial
theorem hq.tw1112758292735411213 : True := trivial
theorem hq.tw13495405613607610781 : True := trivial
theorem hq.tw9366186876789818649 : True := trivial
theorem hq.tw4611843103851283707 : True := trivial
theorem hq.tw6336642640299219094 : True := trivial
theorem hq.tw12634840236772402975 : True := trivial
theorem hq.tw11895432268523212573 : True := trivial
theorem hq.tw4498321342021566067 : True := trivial
theorem hq.tw9117675943426644266 : True := trivial
theorem hq.tw15256828576862472125 : True := trivial
theorem hq.tw17313500477962296120 : True := trivial
theorem hq.tw9524481874210789358 : True := trivial
theorem hq.tw17719787235402466642 : True := trivial
theorem hq.tw14587594007023303460 : True := trivial
theorem hq.tw2460405866545305436 : True := trivial
theorem hq.tw17113052037052540601 : True := trivial
theorem hq.tw17451322227400245958 : True := trivial
theorem hq.tw10914737284747560342 : True := trivial
theorem hq.tw3436574369781675142 : True := trivial
theorem hq.tw12417311007122829836 : True := trivial
theorem hq.tw14322759412192637791 : True := trivial
theorem hq.tw12590562862586613239 : True := trivial
theorem hq.tw17641890241275046623 : True := trivial
theorem hq.tw11904904241039891960 : True := trivial
theorem hq.tw771947914003707973 : True := trivial
theorem hq.tw7907064084398135858 : True := trivial
theorem hq.tw11402776170388669038 : True := trivial
theorem hq.tw1618621502537572984 : True := trivial
theorem hq.tw4003514286515377017 : True := trivial
theorem hq.tw2060327042702796305 : True := trivial
theorem hq.tw15050050835727825964 : True := trivial
theorem hq.tw3478883397168826629 : True := trivial
theorem hq.tw5831826152446136541 : True := trivial
theorem hq.tw1803784778914781481 : True := trivial
theorem hq.tw10340674731281136786 : True := trivial
theorem hq.tw12235868485125894331 : True := trivial
theorem hq.tw16393828553131281715 : True := trivial
theorem hq.tw10515724994809746482 : True := trivial
theorem hq.tw5895416178271551497 : True := trivial
theorem hq.tw11824069836422780227 : True := trivial
theorem hq.tw11341742245578585151 : True := trivial
theorem hq.tw9814521365788848951 : True := trivial
theorem hq.tw11603209444005165735 : True := trivial
theorem hq.tw8698537833381394938 : True := trivial
theorem hq.tw17982033904585381360 : True := trivial
theorem hq.tw15976676881008073619 : True := trivial
theorem hq.tw193804917870597374 : True := trivial
theorem hq.tw15465583547859376084 : True := trivial
theorem hq.tw10193580565110878322 : True := trivial
theorem hq.tw15263902322154775623 : True := trivial
theorem hq.tw3313988557390523843 : True := trivial
theorem hq.tw3616478996217396334 : True := trivial
theorem hq.tw12463699929421395298 : True := trivial
theorem hq.tw15534325259311548342 : True := trivial
theorem hq.tw3480666100315175299 : True := trivial
theorem hq.tw15256606102660637263 : True := trivial
theorem hq.tw6118443615581677530 : True := trivial
theorem hq.tw12219819207030029821 : True := trivial
theorem hq.tw8703168442280000639 : True := trivial
theorem hq.tw15182601442485666286 : True := trivial
theorem hq.tw10671993194109991074 : True := trivial
theorem hq.tw8138599290071183656 : True := trivial
theorem hq.tw15629568606158070697 : True := trivial
theorem hq.tw13468631102399112637 : True := trivial
theorem hq.tw1777119851733599604 : True := trivial
theorem hq.tw10844470459063464443 : True := trivial
theorem hq.tw4724890111835787062 : True := trivial
theorem hq.tw2147655035671245215 : True := trivial
theorem hq.tw9876288160915811745 : True := trivial
theorem hq.tw16750279658653203061 : True := trivial
theorem hq.tw14641220288254092781 : True := trivial
theorem hq.tw14375828484873233585 : True := trivial
theorem hq.tw8039898743254704824 : True := trivial
theorem hq.tw13201679970922164330 : True := trivial
theorem hq.tw8094907942427954523 : True := trivial
theorem hq.tw16911447347678364338 : True := trivial
theorem hq.tw7587259842506438161 : True := trivial
theorem hq.tw14121371055001849588 : True := trivial
theorem hq.tw4836737923570769024 : True := trivial
theorem hq.tw4950995695539448390 : True := trivial
theorem hq.tw17486772711794031567 : True := trivial
theorem hq.tw16498171049323729267 : True := trivial
theorem hq.tw8813382931127158424 : True := trivial
theorem hq.tw13959481576897727349 : True := trivial
theorem hq.tw7813778406405503521 : True := trivial
theorem hq.tw8016986591111299822 : True := trivial
theorem hq.tw4171725333644275513 : True := trivial
theorem hq.tw16549860719943262585 : True := trivial
theorem hq.tw5991825269154617347 : True := trivial
theorem hq.tw3560430997919898871 : True := trivial
theorem hq.tw18033964682163610285 : True := trivial
theorem hq.tw10366571678140251363 : True := trivial
theorem hq.tw17389483476063430775 : True := trivial
theorem hq.tw6492908563196855892 : True := trivial
theorem hq.tw13751960006981385605 : True := trivial
theorem hq.tw17417107624613210504 : True := trivial
theorem hq.tw10423122299099457802 : True := trivial
theorem hq.tw12360401225053915393 : True := trivial
theorem hq.tw8926073059922265167 : True := trivial
theorem hq.tw9188848632486924633 : True := trivial
theorem hq.tw7276312473770576539 : True := trivial
theorem hq.tw13486078771128344647 : True := trivial
theorem hq.tw4330991180929535625 : True := trivial
theorem hq.tw17790109234249064360 : True := trivial
theorem hq.tw722643689031310280 : True := trivial
theorem hq.tw9616370734746824208 : True := trivial
theorem hq.tw4666310112322607275 : True := trivial
theorem hq.tw7002464205399081975 : True := trivial
theorem hq.tw5749674737630268323 : True := trivial
theorem hq.tw14065372797180803292 : True := trivial
theorem hq.tw13328776239465341797 : True := trivial
theorem hq.tw17570233290061857690 : True := trivial
theorem hq.tw9901041768872518651 : True := trivial
theorem hq.tw3406242299724796062 : True := trivial
theorem hq.tw11762732935092854722 : True := trivial
theorem hq.tw3491428954475440883 : True := trivial
theorem hq.tw11660552598173695988 : True := trivial
theorem hq.tw430407546983676048 : True := trivial
theorem hq.tw860166213271251909 : True := trivial
theorem hq.tw11596143682707957329 : True := trivial
theorem hq.tw9954246468241796668 : True := trivial
theorem hq.tw233199577985559970 : True := trivial
theorem hq.tw9763324061818089090 : True := trivial
theorem hq.tw12964062633142722049 : True := trivial
theorem hq.tw16653776548582141348 : True := trivial
theorem hq.tw7943177803539212061 : True := trivial
theorem hq.tw10968501387965271627 : True := trivial
theorem hq.tw4991336011138955280 : True := trivial
theorem hq.tw3106084185226902877 : True := trivial
theorem hq.tw10899058296728633960 : True := trivial
theorem hq.tw5731166914374295624 : True := trivial
theorem hq.tw17480515895037040760 : True := trivial
theorem hq.tw8116986973751701504 : True := trivial
theorem hq.tw2408465754971806201 : True := trivial
theorem hq.tw14680810799054715792 : True := trivial
theorem hq.tw18023701660430168103 : True := trivial
theorem hq.tw16058095327699678988 : True := trivial
theorem hq.tw16807017868417353128 : True := trivial
theorem hq.tw9375045823711978607 : True := trivial
theorem hq.tw10000794576204330153 : True := trivial
theorem hq.tw8377207884362891880 : True := trivial
theorem hq.tw12790755645740596454 : True := trivial
theorem hq.tw2609510587700438405 : True := trivial
theorem hq.tw12224511430472119265 : True := trivial
theorem hq.tw12911645755892562355 : True := trivial
theorem hq.tw8238198130762350294 : True := trivial
theorem hq.tw1601456569762913703 : True := trivial
theorem hq.tw2535131229827767169 : True := trivial
theorem hq.tw12485548662368916749 : True := trivial
theorem hq.tw13835040335912294723 : True := trivial
theorem hq.tw9493725803484967530 : True := trivial
theorem hq.tw9371571126222788686 : True := trivial
theorem hq.tw14567226737135143758 : True := trivial
theorem hq.tw14370066059886275131 : True := trivial
theorem hq.tw2921467058064614194 : True := trivial
theorem hq.tw5613207279310253425 : True := trivial
theorem hq.tw674073021615805732 : True := trivial
theorem hq.tw15170669351824557439 : True := trivial
theorem hq.tw9549253132143110608 : True := trivial
theorem hq.tw13316007477278045594 : True := trivial
theorem hq.tw17688041192245645826 : True := trivial
theorem hq.tw6304881022484498786 : True := trivial
theorem hq.tw16635847823566414107 : True := trivial
theorem hq.tw5288753061374985246 : True := trivial
theorem hq.tw8172153524177814700 : True := trivial
theorem hq.tw5740101952899550972 : True := trivial
theorem hq.tw14768286036203141162 : True := trivial
theorem hq.tw5691554338385257998 : True := trivial
theorem hq.tw9168773537736573765 : True := trivial
theorem hq.tw14287419288450536493 : True := trivial
theorem hq.tw7884614384692140816 : True := trivial
theorem hq.tw2214581351128497116 : True := trivial
theorem hq.tw13276833702047066570 : True := trivial
theorem hq.tw15734650141668845536 : True := trivial
theorem hq.tw14237485161361176573 : True := trivial
theorem hq.tw6112821752894491310 : True := trivial
theorem hq.tw2892858402054980869 : True := trivial
theorem hq.tw3647894231261621685 : True := trivial
theorem hq.tw8267469052338804902 : True := trivial
theorem hq.tw10223406500745991142 : True := trivial
theorem hq.tw8612858684465989739 : True := trivial
theorem hq.tw8092459957483288813 : True := trivial
theorem hq.tw12428739965439566872 : True := trivial
theorem hq.tw17642467800296711053 : True := trivial
theorem hq.tw7632206556856918147 : True := trivial
theorem hq.tw5906174600817787350 : True := trivial
theorem hq.tw12551386086251720438 : True := trivial
theorem hq.tw4303212930964836997 : True := trivial
theorem hq.tw1111263606911284345 : True := trivial
theorem hq.tw5719243237604902783 : True := trivial
theorem hq.tw12892139197361222039 : True := trivial
theorem hq.tw1790225447845560585 : True := trivial
theorem hq.tw17507516277433102289 : True := trivial
theorem hq.tw11550264267855334806 : True := trivial
theorem hq.tw10092852166775279130 : True := trivial
theorem hq.tw195319319105484837 : True := trivial
theorem hq.tw14886498140707089192 : True := trivial
theorem hq.tw8049949838826251480 : True := trivial
theorem hq.tw639632618262785173 : True := trivial
theorem hq.tw13001207721643841512 : True := trivial
theorem hq.tw6738601660276500248 : True := trivial
theorem hq.tw16964586414034191684 : True := trivial
theorem hq.tw9612742909652353465 : True := trivial
theorem hq.tw16757073528338650253 : True := trivial
theorem hq.tw384518735521986950 : True := trivial
theorem hq.tw9048745003423888935 : True := trivial
theorem hq.tw12035068276470129765 : True := trivial
theorem hq.tw5914124745671280715 : True := trivial
theorem hq.tw8073309143868657023 : True := trivial
theorem hq.tw6578545976327660020 : True := trivial
theorem hq.tw2227608282285556073 : True := trivial
theorem hq.tw11961918275323247916 : True := trivial
theorem hq.tw14187982978997237623 : True := trivial
theorem hq.tw13127699335793737955 : True := trivial
theorem hq.tw2757439949053186533 : True := trivial
theorem hq.tw18377318545847360015 : True := trivial
theorem hq.tw3154463578298619625 : True := trivial
theorem hq.tw3061969403100960489 : True := trivial
theorem hq.tw12664413295080255743 : True := trivial
theorem hq.tw15136850233242887438 : True := trivial
theorem hq.tw9665148385174541716 : True := trivial
theorem hq.tw4194152291734139813 : True := trivial
theorem hq.tw17371673905730003010 : True := trivial
theorem hq.tw16720732291038750756 : True := trivial
theorem hq.tw16867273931720873272 : True := trivial
theorem hq.tw18250771422189292895 : True := trivial
theorem hq.tw10189871300808820423 : True := trivial
theorem hq.tw2338785445158028428 : True := trivial
theorem hq.tw8783513367562574285 : True := trivial
theorem hq.tw533107537510362154 : True := trivial
theorem hq.tw8331520620733812097 : True := trivial
theorem hq.tw9105997651957022955 : True := trivial
theorem hq.tw8632563731568542535 : True := trivial
theorem hq.tw14544256373392573544 : True := trivial
theorem hq.tw15752517208743610924 : True := trivial
theorem hq.tw1383527236628300131 : True := trivial
theorem hq.tw16782676387622030179 : True := trivial
theorem hq.tw9867696046603355536 : True := trivial
theorem hq.tw1945927827826211355 : True := trivial
theorem hq.tw4115226851099395319 : True := trivial
theorem hq.tw12545650446048111660 : True := trivial
theorem hq.tw18340721319590389962 : True := trivial
theorem hq.tw2640350884122359693 : True := trivial
theorem hq.tw7574501811584800559 : True := trivial
theorem hq.tw9950089704063908547 : True := trivial
theorem hq.tw8878085667783850231 : True := trivial
theorem hq.tw4346122449067867847 : True := trivial
theorem hq.tw12728415866068041311 : True := trivial
theorem hq.tw2508255044705368994 : True := trivial

set_option Elab.async true in
theorem hq : PySem.Challenge.rw_sy0021_01.Holds := by
  w_on
  o_law
  k_head
  (case hw => w_witness2)
  show WalkO Mine.hd.view_1 _ (XL Mine.hd.view_1 _) (kHook Mine.hd.heap_1 _ _).says _ _ _ _
  obtain ⟨rowsA, plA, hlA, hpA⟩ := first_bad
  obtain ⟨rowsB, hlB, hnB⟩ := first_told
  k_go0
  (all_goals try k_fold)
  k_with_none
  k_with "M use" => ((case u1x => k_asm); (case u2x => k_asm); (case u3x => k_asm); (case u5x => k_asm); (case uKx => first | assumption | exact rfl); (case udx => first | exact rmA (by assumption) (by decide) | ktr_room); (case uux => first | exact umA (by assumption) (by decide) | ktr_units))
  k_with "M use0" => ((case u1x => k_asm); (case u2x => k_asm); (case u3x => k_asm); (case u5x => k_asm); (case uKx => first | assumption | exact rfl); (case udx => first | exact rmA (by assumption) (by decide) | ktr_room); (case uux => first | exact umA (by assumption) (by decide) | ktr_units); (case uXBx => assumption); (case uTBx => assumption))
  k_with "M in" => (first | with_reducible assumption | exact Frag.In.keeps (by with_reducible assumption) (Fr.keep (by with_reducible assumption)))
  k_with "call ref" => (k_here; k_extra "M call")
  k_with "call ref" => (k_here; with_reducible first | refine call_app0 ?_ | refine call_app1 ?_ | refine call_app2 ?_)
  k_with "M kN" => (first | assumption | exact news_tl1 (by assumption) | exact news_tl2 (by assumption) | exact news_tl3 (by assumption) | exact news_tl4 (by assumption) | exact news_dr1 (by assumption) | exact news_dr2 (by assumption) | exact news_dr3 (by assumption))
  k_with "eval Call" => (k_here; k_dflt (refine Call_ ?_))
  k_with "M all" => (first | assumption | exact apart_of (by first | assumption | exact And.right (by assumption) | exact And.right (And.right (by assumption)) | exact And.right (And.right (And.right (by assumption))) | exact And.right (And.right (And.right (And.right (by assumption))))))
  k_with "M call" => ((with_reducible show wpAny _ _ (call (Value.ref 158) _) _ _ _); k_dflt (refine' c_is_among ?u1x ?u2x ?u3x ?u4x ?u5x ?uKx ?udx ?uux ?_; walk_at "M use"; (case u4x => k_asm)); k_whole; intro h' tk' F' N'; (try dsimp only); (try k_sweep))
  k_with "call builtin:ord" => (refine ord_sgo ?_)
  k_with "M call" => ((with_reducible show wpAny _ _ (call (Value.ref 165) _) _ _ _); k_dflt (refine' c_is_symbol ?u1x ?u2x ?u3x ?u4x ?u5x ?uKx ?udx ?uux ?_; walk_at "M use"; (case u4x => k_asm)); k_whole; intro h' tk' F' N'; (try dsimp only); (try k_sweep))
  k_with "M call" => ((with_reducible show wpAny _ _ (call (Value.ref 172) _) _ _ _); k_dflt (refine' c_is_bare ?u1x ?u2x ?u3x ?u4x ?u5x ?uKx ?udx ?uux ?_; walk_at "M use"; (case u4x => k_asm)); k_whole; intro h' tk' F' N'; (try dsimp only); (try k_sweep))
  k_with "M call" => ((with_reducible show wpAny _ _ (call (Value.ref 179) _) _ _ _); k_dflt (refine' c_name_letters ?u1x ?u2x ?u3x ?u4x ?u5x ?uKx ?udx ?uux ?_; walk_at "M use"; (case u4x => k_asm)); k_whole; intro h' tk' t' F' N'; (try dsimp only); (try k_sweep))
  k_with "M led" => (first | k_asm | exact news_rot1 (by k_asm) | exact news_rot2 (by k_asm) | exact news_rot3 (by k_asm) | exact news_rot4 (by k_asm))
  k_with "M call" => ((with_reducible show wpAny _ _ (call (Value.ref 116) [_]) _ _ _); k_dflt (refine' c_signG0 ?u1x ?u2x ?u3x ?u4x ?u5x ?uKx ?udx ?uux ?z2 ?z3 ?z4 ?_; walk_at "M use"; (case u4x => walk_at "M led"); (case z2 => omega); (case z3 => omega); (case z4 => omega)); k_whole; intro h' tk' t' F' N'; (try dsimp only); (try k_sweep))
  k_with "M call" => ((with_reducible show wpAny _ _ (call (Value.ref 116) [_, _]) _ _ _); k_dflt (refine' c_sign ?u1x ?u2x ?u3x ?u4x ?u5x ?uKx ?udx ?uux ?z1 ?z2 ?z3 ?z4 ?_; walk_at "M use"; (case u4x => walk_at "M led"); (case z1 => first | exact cast1 | exact cast2 | rfl | omega); (case z2 => omega); (case z3 => omega); (case z4 => omega)); k_whole; intro h' tk' t' F' N'; (try dsimp only); (try k_sweep))
  k_with "M call" => ((with_reducible show wpAny _ _ (call (Value.ref 116) [_]) _ _ _); k_dflt (refine' c_sign0 ?u1x ?u2x ?u3x ?u4x ?u5x ?uKx ?udx ?uux ?z2 ?z3 ?_; walk_at "M use"; (case u4x => walk_at "M led"); (case z2 => omega); (case z3 => omega)); k_whole; intro h' tk' t' F' N'; (try dsimp only); (try k_sweep))
  k_with "M ap" => (first | k_asm | k_all)
  k_with "M ne" => (first | k_asm | k_ne)
  k_with "M call" => ((with_reducible show wpAny _ _ (call (Value.ref 130) _) _ _ _); k_dflt (refine' c_step ?u1x ?u2x ?u3x ?u4x ?u5x ?uKx ?udx ?uux ?z1 ?z2 ?z3 ?z4 ?_; walk_at "M use"; (case u4x => walk_at "M led"); (case z1 => walk_at "M ne"); (case z2 => walk_at "M ap"); (case z3 => omega); (case z4 => omega)); k_whole; intro h' tk' t' t2' t3' t4' F' N'; (try dsimp only); (try k_sweep))
  k_with "M call" => ((with_reducible show wpAny _ _ (call (Value.ref 123) _) _ _ _); k_dflt (refine' c_starts ?u1x ?u2x ?u3x ?u4x ?u5x ?uKx ?udx ?uux ?z1 ?z2 ?z3 ?_; walk_at "M use"; (case u4x => walk_at "M led"); (case z1 => omega); (case z2 => omega); (case z3 => first | decide | decide +kernel | omega)); k_whole; intro h' tk' F' N'; (try dsimp only); (try k_sweep))
  k_with "M call" => ((with_reducible show wpAny _ _ (call (Value.ref 144) _) _ _ _); k_dflt (refine' c_place ?u1x ?u2x ?u3x ?u4x ?u5x ?uKx ?udx ?uux ?_; walk_at "M use"; (case u4x => walk_at "M led")); k_whole; intro h' tk' p' u3' u4' F' N' l1; (try dsimp only); (try k_lt l1); (try k_sweep))
  k_with "M call" => ((with_reducible show wpAny _ _ (call (Value.ref 137) _) _ _ _); k_dflt (refine' c_take ?u1x ?u2x ?u3x ?u4x ?u5x ?uKx ?udx ?uux ?z1 ?z2 ?z3 ?z4 ?_; walk_at "M use"; (case u4x => walk_at "M led"); (case z1 => walk_at "M ne"); (case z2 => walk_at "M ap"); (case z3 => omega); (case z4 => omega)); k_whole; intro h' tk' t' t2' t3' t4' F' N'; (try dsimp only); (try k_sweep))
  k_with "M call" => ((with_reducible show wpAny _ _ (call (Value.ref 186) _) _ _ _); k_dflt (refine' c_is_line_comment ?u1x ?u2x ?u3x ?u4x ?u5x ?uKx ?udx ?uux ?z3 ?z4 ?_; walk_at "M use"; (case u4x => walk_at "M led"); (case z3 => omega); (case z4 => omega)); k_whole; intro h' tk' F' N'; (try dsimp only); (try k_sweep))
  k_with "M call" => ((with_reducible show wpAny _ _ (call (Value.ref 200) _) _ _ _); k_dflt (refine' c_skip_between ?u1x ?u2x ?u3x ?u4x ?u5x ?uKx ?udx ?uux ?z1 ?z2 ?z3 ?z4 ?z5 ?_; walk_at "M use"; (case u4x => walk_at "M led"); (case z1 => walk_at "M ne"); (case z2 => walk_at "M ap"); (case z3 => omega); (case z4 => omega); (case z5 => assumption)); k_whole; intro h' tk' t2' t3' t4' F' N'; (try dsimp only); (try k_sweep))
  k_with "M call" => ((with_reducible show wpAny _ _ (call (Value.ref 207) _) _ _ _); k_dflt (refine' c_number_of ?u1x ?u2x ?u3x ?u4x ?u5x ?uKx ?udx ?uux ?z1 ?z2 ?z3 ?_; walk_at "M use"; (case u4x => k_asm); (case z1 => walk_at "M numlen"); (case z2 => decide); (case z3 => walk_at "M numhex")); k_whole; intro h' tk' t' F' N'; (try dsimp only); (try k_sweep))
  k_with "M call" => ((with_reducible show wpAny _ _ (call (Value.ref 221) _) _ _ _); k_dflt (refine' c_is_float ?u1x ?u2x ?u3x ?u4x ?u5x ?uKx ?udx ?uux ?z3 ?z4 ?_; walk_at "M use"; (case u4x => walk_at "M led"); (case z3 => omega); (case z4 => omega)); k_whole; intro h' tk' F' N'; (try dsimp only); (try k_sweep))
  k_with "M numlen" => (first | assumption | omega)
  k_with "M numhex" => (first | assumption | exact cut_all | (rw [← hexl_eq]; exact cut_all) | exact fun c hc => dig_hex c (cut_all c hc))
  k_with "M call" => ((with_reducible show wpAny _ _ (call (Value.ref 214) _) _ _ _); k_dflt (refine' c_based_none ?u1x ?u2x ?u3x ?u4x ?u5x ?uKx ?udx ?uux ?z3 ?z4 ?z5 ?_; walk_at "M use"; (case u4x => walk_at "M led"); (case z3 => omega); (case z4 => omega); (case z5 => assumption)); k_whole; intro h' tk' F' N'; (try dsimp only); (try k_sweep))
  k_with "M call" => ((with_reducible show wpAny _ _ (call (Value.ref 214) _) _ _ _); k_dflt (refine' c_based_hex ?u1x ?u2x ?u3x ?u4x ?u5x ?uKx ?udx ?uux ?z1 ?z2 ?z3 ?z4 ?z5 ?z6 ?z7 ?z8 ?_; walk_at "M use"; (case u4x => walk_at "M led"); (case z1 => walk_at "M ne"); (case z2 => walk_at "M ap"); (case z3 => omega); (case z4 => omega); (case z5 => assumption); (case z6 => assumption); (case z7 => assumption); (case z8 => assumption)); k_whole; intro h' tk' t' t2' t3' t4' F' N'; (try dsimp only); (try k_sweep))
  k_with "M call" => ((with_reducible show wpAny _ _ (call (Value.ref 52) _) _ _ _); k_dflt (refine' c_make ?u1x ?u2x ?u3x ?u4x ?u5x ?uKx ?udx ?uux ?_; walk_at "M use"; (case u4x => k_asm)); k_whole; intro h' tk' e' t' dx' h1' h2' k1' k2' F' N' ap' l1; (try dsimp only); (try k_sweep))
  k_with "M mem" => (repeat (first | exact List.mem_cons_self | assumption | refine List.mem_cons_of_mem _ ?_))
  k_with "M sub" => (intro q hq; repeat (first | assumption | refine List.mem_cons_of_mem _ ?_))
  k_with "exec Raise some none" => (k_here; k_dflt (refine raise52 (by rfl) ?_))
  k_with "RaiseQ" => (k_here; (rename News _ _ _ _ => nX'); refine ⟨_, _, _, rfl, by k_in, (nX' _ (.tail _ (.head _))).1, ?_⟩)
  k_with "leaving ref" => (k_here; k_dflt (refine' leaveNew ?K ?F ?N ?ap ?l ?_; (case N => assumption); (case F => k_asm); (case K => k_asm); (case ap => assumption); (case l => assumption)); intro h' R' U'; (try dsimp only))
  k_with "leaving ref" => (k_here; k_dflt (refine' leaveOnAt ?K ?F ?R ?U ?_; (case K => k_asm); (case R => assumption); (case U => assumption); (case F => assumption)); intro h' R' U'; (try dsimp only))
  k_with "M call" => ((with_reducible show wpAny _ _ (call (Value.ref 228) _) _ _ _); k_dflt (refine' c_read_dec ?u1x ?u2x ?u3x ?u4x ?u5x ?uKx ?udx ?uux ?z1 ?z2 ?z3 ?z4 ?z5 ?z6 ?zR ?zE; walk_at "M use"; (case u4x => walk_at "M led"); (case z1 => walk_at "M ne"); (case z2 => walk_at "M ap"); (case z3 => omega); (case z4 => omega); (case z5 => assumption); (case z6 => assumption)); (case' zR => (k_whole; intro hfl' h' tk' t' t2' t3' t4' F' N'; (try dsimp only); (try k_sweep))); (case' zE => (k_whole; intro hfl' e' g₂' h' tk' F' U' R'; (try dsimp only))))
  k_with "M call" => ((with_reducible show wpAny _ _ (call (Value.ref 228) _) _ _ _); k_dflt (refine' c_read_hex ?u1x ?u2x ?u3x ?u4x ?u5x ?uKx ?udx ?uux ?z1 ?z2 ?z3 ?z4 ?z5 ?z6 ?z7 ?z8 ?_; walk_at "M use"; (case u4x => walk_at "M led"); (case z1 => walk_at "M ne"); (case z2 => walk_at "M ap"); (case z3 => omega); (case z4 => omega); (case z5 => assumption); (case z6 => assumption); (case z7 => assumption); (case z8 => assumption)); k_whole; intro h' tk' t' t2' t3' t4' F' N'; (try dsimp only); (try k_sweep))
  k_with "pyIter ref" => (k_here; k_extra "M rng")
  k_with "M call" => ((with_reducible show wpAny _ _ (call (Value.ref 242) _) _ _ _); k_dflt (refine' c_named_del ?u1x ?u2x ?u3x ?u4x ?u5x ?uKx ?udx ?uux ?z1 ?z2 ?z3 ?z4 ?z5 ?_; walk_at "M use"; (case u4x => walk_at "M led"); (case z1 => walk_at "M ne"); (case z2 => walk_at "M ap"); (case z3 => omega); (case z4 => omega); (case z5 => assumption)); k_whole; intro h' tk' t' t2' t3' t4' F' N'; (try dsimp only); (try k_sweep))
  k_with "M kN" => (first | assumption | (refine news_sub (by assumption) ?_; (repeat refine List.forall_mem_cons.mpr (And.intro (by walk_at "M mem") ?_)); walk_at "M sub"))
  k_with "pyIter ref" => (k_here; (with_reducible show wpAny _ _ (pyIter (Value.ref _)) (fun it s₂ => TurnsAt _ _ _ _ _ _ _ _ _ it s₂) _ _); (rename Fr _ _ _ _ => lF'); (rename News _ _ _ _ => lN'); (with_unfolding_all refine' iter_tupTurns ?th lF' lN' List.mem_cons_self ?tc ?td ?_; (case th => exact rfl); (case tc => exact rfl); (case td => exact rfl)); clear lF' lN'; intro i' l1)
  k_with "UnrEndW" => (k_here; (rename (∀ p ∈ _, @LT.lt Nat _ (Prod.fst (p : Addr × Obj)) _) => lI'); (with_unfolding_all refine' ⟨_, _, _, _, rfl, ?uF, ?uN, fun p hp q hq => (List.mem_singleton.mp hq).symm ▸ Nat.ne_of_lt (lI' p hp), ?uS, ?_⟩; (case uF => assumption); (case uN => assumption); (case uS => exact And.intro List.mem_cons_self trivial)))
  k_with "M call" => ((with_reducible show wpAny _ _ (call (Value.ref 249) _) _ _ _); k_dflt (refine' c_esc_t ?u1x ?u2x ?u3x ?u4x ?u5x ?uKx ?udx ?uux ?z1 ?z2 ?z3 ?z4 ?z5 ?_; walk_at "M use"; (case u4x => walk_at "M led"); (case z1 => walk_at "M ne"); (case z2 => walk_at "M ap"); (case z3 => omega); (case z4 => omega); (case z5 => assumption)); k_whole; intro h' tk' t' t2' t3' t4' F' N'; (try dsimp only); (try k_sweep))
  k_with "M call" => ((with_reducible show wpAny _ _ (call (Value.ref 249) _) _ _ _); k_dflt (refine' c_esc ?u1x ?u2x ?u3x ?u4x ?u5x ?uKx ?udx ?uux ?z1 ?z2 ?z3 ?z4 ?z5 ?z6 ?_; walk_at "M use"; (case u4x => walk_at "M led"); (case z6 => assumption); (case z1 => walk_at "M ne"); (case z2 => walk_at "M ap"); (case z3 => omega); (case z4 => first | assumption | omega); (case z5 => assumption)); k_whole; intro h' tk' t' t2' t3' t4' F' N'; (try dsimp only); (try k_sweep))
  k_with "M call" => ((with_reducible show wpAny _ _ (call (Value.ref 256) _) _ _ _); k_dflt (refine' c_char_plain ?u1x ?u2x ?u3x ?u4x ?u5x ?uKx ?udx ?uux ?z1 ?z2 ?z3 ?z4 ?z5 ?z6 ?z7 ?z8 ?z9 ?_; walk_at "M use"; (case u4x => walk_at "M led"); (case z1 => walk_at "M ne"); (case z2 => walk_at "M ap"); (case z3 => omega); (case z4 => omega); (case z5 => first | assumption | omega); (case z6 => first | assumption | omega); (case z7 => first | assumption | omega); (case z8 => first | assumption | omega); (case z9 => first | assumption | omega)); k_whole; intro h' tk' t' t2' t3' t4' F' N'; (try dsimp only); (try k_sweep))
  k_with "M call" => ((with_reducible show wpAny _ _ (call (Value.ref 256) _) _ _ _); k_dflt (refine' c_char_t ?u1x ?u2x ?u3x ?u4x ?u5x ?uKx ?udx ?uux ?z1 ?z2 ?z3 ?z4 ?z5 ?z6 ?z7 ?_; walk_at "M use"; (case u4x => walk_at "M led"); (case z1 => walk_at "M ne"); (case z2 => walk_at "M ap"); (case z3 => omega); (case z4 => omega); (case z5 => first | assumption | omega); (case z6 => first | assumption | omega); (case z7 => first | assumption | omega)); k_whole; intro h' tk' t' t2' t3' t4' F' N'; (try dsimp only); (try k_sweep))
  k_with "M call" => ((with_reducible show wpAny _ _ (call (Value.ref 256) _) _ _ _); k_dflt (refine' c_char_bad ?u1x ?u2x ?u3x ?u4x ?u5x ?uKx ?udx ?uux ?z1 ?z2 ?z3 ?z4 ?z5 ?_; walk_at "M use"; (case u4x => walk_at "M led"); (case z1 => walk_at "M ne"); (case z2 => walk_at "M ap"); (case z3 => omega); (case z4 => omega); (case z5 => first | assumption | omega)); k_whole; intro e' g₂' h' tk' F' U' R'; (try dsimp only))
  k_with "M call" => ((with_reducible show wpAny _ _ (call (Value.ref 263) _) _ _ _); k_dflt (refine' c_skip_gap ?u1x ?u2x ?u3x ?u4x ?u5x ?uKx ?udx ?uux ?z1 ?z2 ?z3 ?z4 ?z5 ?_; walk_at "M use"; (case u4x => walk_at "M led"); (case z1 => walk_at "M ne"); (case z2 => walk_at "M ap"); (case z3 => omega); (case z4 => omega); (case z5 => assumption)); k_whole; intro h' tk' t2' t3' t4' F' N'; (try dsimp only); (try k_sweep))
  k_with "M call" => ((with_reducible show wpAny _ _ (call (Value.ref 270) _) _ _ _); k_dflt (refine' c_text_ok ?u1x ?u2x ?u3x ?u4x ?u5x ?uKx ?udx ?uux ?z1 ?z2 ?z3 ?z4 ?z5 ?_; walk_at "M use"; (case u4x => walk_at "M led"); (case z1 => walk_at "M ne"); (case z2 => walk_at "M ap"); (case z3 => omega); (case z4 => omega); (case z5 => assumption)); k_whole; intro h' tk' t' t2' t3' t4' F' N'; (try dsimp only); (try k_sweep))
  k_with "M call" => ((with_reducible show wpAny _ _ (call (Value.ref 270) _) _ _ _); k_dflt (refine' c_text_bad ?u1x ?u2x ?u3x ?u4x ?u5x ?uKx ?udx ?uux ?z1 ?z2 ?z3 ?z4 ?z5 ?_; walk_at "M use"; (case u4x => walk_at "M led"); (case z1 => walk_at "M ne"); (case z2 => walk_at "M ap"); (case z3 => omega); (case z4 => omega); (case z5 => assumption)); k_whole; intro e' g₂' h' tk' F' U' R'; (try dsimp only))
  k_with "M call" => ((with_reducible show wpAny _ _ (call (Value.ref 277) _) _ _ _); k_dflt (refine' c_symbol_kind ?u1x ?u2x ?u3x ?u4x ?u5x ?uKx ?udx ?uux ?z1 ?z2 ?_; walk_at "M use"; (case u4x => k_asm); (case z1 => omega); (case z2 => omega)); k_whole; intro h' tk' t' F' N'; (try dsimp only); (try k_sweep))
  k_with "M call" => ((with_reducible show wpAny _ _ (call (Value.ref 305) _) _ _ _); k_dflt (refine' c_read_word ?u1x ?u2x ?u3x ?u4x ?u5x ?uKx ?udx ?uux ?z1 ?z2 ?z3 ?z4 ?z5 ?_; walk_at "M use"; (case u4x => walk_at "M led"); (case z1 => walk_at "M ne"); (case z2 => walk_at "M ap"); (case z3 => omega); (case z4 => omega); (case z5 => assumption)); k_whole; intro h' tk' p' ta' tb' v' t2' t3' t4' F' N' D' l1 l2 l3; (try dsimp only); (try k_lt l3); (try k_sweep))
  k_with "M call" => ((with_reducible show wpAny _ _ (call (Value.ref 305) _) _ _ _); k_dflt (refine' c_read_bad ?u1x ?u2x ?u3x ?u4x ?u5x ?uKx ?udx ?uux ?z1 ?z2 ?z3 ?z4 ?z5 ?_; walk_at "M use"; (case u4x => walk_at "M led"); (case z1 => walk_at "M ne"); (case z2 => walk_at "M ap"); (case z3 => omega); (case z4 => omega); (case z5 => assumption)); k_whole; intro e' g₂' h' tk' F' U' R'; (try dsimp only))
  k_with "M call" => ((with_reducible show wpAny _ _ (call (Value.ref 147) _) _ _ _); k_dflt (refine' c_signs_new ?u1x ?u2x ?u3x ?u4x ?u5x ?uKx ?udx ?uux ?_; walk_at "M use"; (case u4x => k_asm)); k_whole; intro h' tk' x' d' k' t1' t2' t3' t4' F' N' l1 l2; (try dsimp only); (try k_lt l2); (try k_lt2 l1); (try k_sweep))
  k_with "M call" => ((with_reducible show wpAny _ _ (call (Value.ref 90) _) _ _ _); k_dflt (refine' c_word_new ?u1x ?u2x ?u3x ?u4x ?u5x ?uKx ?udx ?uux ?z1 ?_; walk_at "M use"; (case u4x => k_asm); (case z1 => assumption)); k_whole; intro h' tk' x' d' k' F' N' l1 l2; (try dsimp only); (try k_lt l2); (try k_lt2 l1); (try k_sweep))
  k_with "M call" => ((with_reducible show wpAny _ _ (call (Value.ref 312) _) _ _ _); k_dflt (refine' c_words_none ?u1x ?u2x ?u3x ?u4x ?u5x ?uKx ?udx ?uux ?z1 ?z2 ?z3 ?_; walk_at "M use"; (case u4x => k_asm); (case z1 => omega); (case z2 => assumption); (case z3 => assumption)); k_whole; intro h' tk' l' vs' n' own' F' N' I' A'; (try dsimp only); (try k_sweep))
  k_with "M call" => ((with_reducible show wpAny _ _ (call (Value.ref 312) _) _ _ _); k_dflt (refine' c_words_some ?u1x ?u2x ?u3x ?u4x ?u5x ?uKx ?udx ?uux ?z1 ?z2 ?z3 ?_; walk_at "M use"; (case u4x => k_asm); (case z1 => omega); (case z2 => assumption); (case z3 => assumption)); k_whole; intro e' g₂' h' tk' F' U' R'; (try dsimp only))
  k_with "M call" => ((with_reducible show wpAny _ _ (call (Value.ref 373) _) _ _ _); k_dflt (refine' c_told_some ?u1x ?u2x ?u3x ?u4x ?u5x ?uKx ?udx ?uux ?uXBx ?uTBx ?z1 ?z2 ?z3 ?_; walk_at "M use0"; (case u4x => k_asm); (case z1 => omega); (case z2 => assumption); (case z3 => assumption)); k_whole; intro h' tk' pl' u3' u4' F' N'; (try dsimp only); (try k_sweep))
  k_with "M call" => ((with_reducible show wpAny _ _ (call (Value.ref 373) _) _ _ _); k_dflt (refine' c_told_none ?u1x ?u2x ?u3x ?u4x ?u5x ?uKx ?udx ?uux ?uXBx ?uTBx ?z1 ?z2 ?z3 ?_; walk_at "M use0"; (case u4x => k_asm); (case z1 => omega); (case z2 => assumption); (case z3 => assumption)); k_whole; intro h' tk' v' own' F' N' D'; (try dsimp only); (try k_sweep))
  k_with "M call" => ((with_reducible show wpAny _ _ (call (Value.ref 333) _) _ _ _); k_dflt (refine' c_tap ?u1x ?u2x ?u3x ?u4x ?u5x ?uKx ?udx ?uux ?z1 ?z2 ?z3 ?z4 ?z5 ?_; walk_at "M use"; (case u4x => walk_at "M led"); (case z1 => assumption); (case z2 => assumption); (case z3 => first | decide | omega); (case z4 => first | decide | omega); (case z5 => walk_at "M ap")); k_whole; intro h' tk' a' b' u1' u2' n' mug' t' p1 p2 p3 p4 F' N'; (try dsimp only); (try k_sweep))
  k_with "subscriptTail" => (k_here; (with_reducible show wpAny _ _ (subscriptTail _ _ (Value.ref _) (Value.str _ _)) _ _ _); k_dflt (first | refine kda_item (knd := PySem.strKind _ _) (by k_asm) (by walk_at "M mem") (by assumption) (strKind_is _ _ _ _) pv1 ?_ | refine kda_item (knd := PySem.strKind _ _) (by k_asm) (by walk_at "M mem") (by assumption) (strKind_is _ _ _ _) pv2 ?_ | refine kda_item (knd := PySem.strKind _ _) (by k_asm) (by walk_at "M mem") (by assumption) (strKind_is _ _ _ _) pv3 ?_ | refine kda_item (knd := PySem.strKind _ _) (by k_asm) (by walk_at "M mem") (by assumption) (strKind_is _ _ _ _) pv4 ?_ | refine kda_item (knd := PySem.strKind _ _) (by k_asm) (by walk_at "M mem") (by assumption) (strKind_is _ _ _ _) pv5 ?_))
  k_with "setItem ref str" => (k_here; (with_reducible show wpAny _ _ (setItem (Value.ref _) (Value.str _ _) _) _ _ _); k_dflt (refine' kda_set (knd := PySem.strKind _ _) ?F ?N ?U ?d (strKind_is _ _ _ _) ?z ?_; (case F => k_asm); (case N => k_asm); (case U => k_updF); (case d => assumption); (case z => exact pg_sz)); intro h' o' F' N' hd'; (try dsimp only at N'); (first | rw [st2] at hd' | rw [st3] at hd' | rw [st4] at hd' | rw [st1 (tx_app _ _)] at hd'))
  k_with "M call" => ((with_reducible show wpAny _ _ (call (Value.ref 347) _) _ _ _); k_dflt (refine' c_pour ?u1x ?u2x ?u3x ?u4x ?u5x ?uKx ?udx ?uux ?z1 ?z2 ?z3 ?z4 ?z5 ?z6 ?z7 ?_; walk_at "M use"; (case u4x => walk_at "M led"); (case z1 => assumption); (case z2 => walk_at "M ap"); (case z3 => omega); (case z4 => omega); (case z5 => omega); (case z6 => omega); (case z7 => omega)); k_whole; intro h' tk' t1' t2' t3' o' F' N' D'; (try dsimp only); (try k_sweep))
  k_with "M call" => ((with_reducible show wpAny _ _ (call (Value.ref 354) _) _ _ _); k_dflt (refine' c_set_word ?u1x ?u2x ?u3x ?u4x ?u5x ?uKx ?udx ?uux ?z1 ?z3 ?z4 ?z5 ?z6 ?z7 ?z8 ?z9 ?y1 ?y2 ?y3 ?y4 ?y5 ?y6 ?_; walk_at "M use"; (case u4x => walk_at "M kN"); (case z1 => assumption); (case z3 => assumption); (case z4 => assumption); (case z5 => walk_at "M ne"); (case z6 => walk_at "M ne"); (case z7 => walk_at "M ne"); (case z8 => walk_at "M ap"); (case z9 => walk_at "M ap"); (case y1 => omega); (case y2 => omega); (case y3 => omega); (case y4 => omega); (case y5 => omega); (case y6 => omega)); k_whole; intro h' tk' t1' t2' t3' o' v' n' add' F' N' D' I' A'; (try dsimp only); (try k_sweep))
  k_with "M call" => ((with_reducible show wpAny _ _ (call (Value.ref 354) _) _ _ _); k_dflt (refine' c_set_gap ?u1x ?u2x ?u3x ?u4x ?u5x ?uKx ?udx ?uux ?z1 ?z3 ?z4 ?z5 ?z6 ?z7 ?z8 ?z9 ?y1 ?y2 ?y3 ?y4 ?y5 ?_; walk_at "M use"; (case u4x => walk_at "M kN"); (case z1 => assumption); (case z3 => assumption); (case z4 => assumption); (case z5 => walk_at "M ne"); (case z6 => walk_at "M ne"); (case z7 => walk_at "M ne"); (case z8 => walk_at "M ap"); (case z9 => walk_at "M ap"); (case y1 => omega); (case y2 => omega); (case y3 => omega); (case y4 => omega); (case y5 => omega)); k_whole; intro h' tk' t1' t2' t3' o' add' F' N' D' A'; (try dsimp only); (try k_sweep))
  k_with "M led" => (first | k_asm | exact news_q1 (by k_asm) | exact news_q2 (by k_asm) | exact news_q3 (by k_asm) | exact news_q4 (by k_asm) | exact news_q5 (by k_asm))
  k_with "M call" => ((with_reducible show wpAny _ _ (call (Value.ref 361) _) _ _ _); k_dflt (refine' c_page ?u1x ?u2x ?u3x ?u4x ?u5x ?uKx ?udx ?uux ?z1 ?z2 ?z3 ?_; walk_at "M use"; (case u4x => walk_at "M led"); (case z1 => assumption); (case z2 => assumption); (case z3 => walk_at "M ap")); k_whole; intro h' tk' pg' dl' x' picks' rest' l1' l2' F' N' S' O' K' P'; (try dsimp only); (try k_sweep))
  k_with "M call" => ((with_reducible show wpAny _ _ (call (Value.ref 368) _) _ _ _); k_dflt (refine' c_spoilt ?u1x ?u2x ?u3x ?u4x ?u5x ?uKx ?udx ?uux ?z1 ?z2 ?z3 ?_; walk_at "M use"; (case u4x => walk_at "M led"); (case z1 => assumption); (case z2 => assumption); (case z3 => walk_at "M ap")); k_whole; intro h' tk' a' q' t' u' n' ca' cb' u1' u2' n2' hq' p1 p2 F' N'; (try dsimp only); (try k_sweep))
  k_with "M call" => ((with_reducible show wpAny _ _ (call (Value.ref 207) [Value.str (tx [49, 101]) _, _, _]) _ _ _); k_dflt (refine' c_num_1e ?u1x ?u2x ?u3x ?u4x ?u5x ?uKx ?udx ?uux ?z1 ?_; walk_at "M use"; (case u4x => k_asm); (case z1 => assumption)); k_whole; intro h' tk' t' F' N'; (try dsimp only); (try k_sweep))
  k_with "M call" => ((with_reducible show wpAny _ _ (call (Value.ref 207) [Value.str (tx [49, 70]) _, _, _]) _ _ _); k_dflt (refine' c_num_1F ?u1x ?u2x ?u3x ?u4x ?u5x ?uKx ?udx ?uux ?z1 ?_; walk_at "M use"; (case u4x => with_unfolding_all k_asm); (case z1 => assumption)); k_whole; intro e' g₂' h' tk' F' U' R'; (try dsimp only))
  k_with "M call" => ((with_reducible show wpAny _ _ (call (Value.ref 387) [Value.str (tx [49, 101]) _, _]) _ _ _); k_dflt (refine' c_lnum_ok ?u1x ?u2x ?u3x ?u4x ?u5x ?uKx ?udx ?uux ?uXBx ?uTBx ?z1 ?_; walk_at "M use0"; (case u4x => k_asm); (case z1 => assumption)); k_whole; intro h' tk' t' F' N'; (try dsimp only); (try k_sweep))
  k_with "M call" => ((with_reducible show wpAny _ _ (call (Value.ref 387) [Value.str (tx [49, 70]) _, _]) _ _ _); k_dflt (refine' c_lnum_bad ?u1x ?u2x ?u3x ?u4x ?u5x ?uKx ?udx ?uux ?uXBx ?uTBx ?z1 ?_; walk_at "M use0"; (case u4x => k_asm); (case z1 => assumption)); k_whole; intro h' tk' pl' u3' u4' F' N'; (try dsimp only); (try k_sweep))
  k_with "M call" => ((with_reducible show wpAny _ _ (call (Value.ref 380) _) _ _ _); k_extra "M right")
  k_with "M call" => ((with_reducible show wpAny _ _ (call (Value.ref 373) _) _ _ _); k_extra "M told")
  k_with "M call" => ((with_reducible show wpAny _ _ (call (Value.ref 387) _) _ _ _); k_extra "M lnum")
  k_with "M call" => ((with_reducible show wpAny _ _ (call (Value.ref 326) _) _ _ _); k_extra "M cask")
  k_with "M call" => ((with_reducible show wpAny _ _ (call (Value.ref 368) _) _ _ _); k_extra "M spoilt")
  k_with "M call" => ((with_reducible show wpAny _ _ (call (Value.ref 361) _) _ _ _); k_extra "M page")
  k_with "M call" => ((with_reducible show wpAny _ _ (call (Value.ref 354) _) _ _ _); k_extra "M set")
  k_with "compareOp NotEq ref ref" => (k_here; (with_reducible show wpAny _ _ (compareOp CmpOp.NotEq (Value.ref _) (Value.ref _)) _ _ _); k_extra "M neq")
  k_with "call builtin:len" => (k_here; (with_reducible show wpAny _ _ (call (Value.builtin "len") [Value.ref _]) _ _ _); k_extra "M len")
  k_with "M told" => (
    first
    | (skip
       (with_reducible show wpAny _ _ (call _ [Value.str (Str.ofString "x 1.5") _]) _ _ _)
       k_dflt (rw [s_x15])
       k_dflt (refine' c_told_some ?u1x ?u2x ?u3x ?u4x ?u5x ?uKx ?udx ?uux ?uXBx ?uTBx ?z1 ?z2 ?z3 ?_; walk_at "M use0"; (case u4x => k_asm); (case z1 => decide); (case z2 => decide); (case z3 => exact hlA))
       k_whole; intro h' tk' pl' u3' u4' F' N'; (try dsimp only); (try k_sweep))
    | (skip
       (with_reducible show wpAny _ _ (call _ [Value.str (Str.ofString "[1..5]") _]) _ _ _)
       k_dflt (rw [s_1to5])
       k_dflt (refine' c_told_none ?u1x ?u2x ?u3x ?u4x ?u5x ?uKx ?udx ?uux ?uXBx ?uTBx ?z1 ?z2 ?z3 ?_; walk_at "M use0"; (case u4x => k_asm); (case z1 => decide); (case z2 => decide); (case z3 => exact hlB))
       k_whole; intro h' tk' v' own' F' N' D'
       refine byC fun hn9 => ?_
       obtain ⟨lpB, vpB, npB, rfl, hmB, hdB⟩ := DatIn.asList D'
       clear D'
       refine hn9 ?_
       clear hn9
       (try dsimp only); (try k_sweep))
    | (skip
       (with_reducible show wpAny _ _ (call _ [Value.str (tx st.S ++ tx qS.1.cps.toList) _]) _ _ _)
       k_dflt (rw [tx_app])
       k_dflt (refine' c_told_some ?u1x ?u2x ?u3x ?u4x ?u5x ?uKx ?udx ?uux ?uXBx ?uTBx ?z1 ?z2 ?z3 ?_; walk_at "M use0"; (case u4x => k_asm); (case z1 => exact hQ1); (case z2 => exact hQ2); (case z3 => exact hlQ))
       k_whole; intro h' tk' pl' u3' u4' F' N'; (try dsimp only); (try k_sweep))
    | (skip
       (with_reducible show wpAny _ _ (call _ [Value.str (tx st.S) _]) _ _ _)
       k_dflt (refine' c_told_none ?u1x ?u2x ?u3x ?u4x ?u5x ?uKx ?udx ?uux ?uXBx ?uTBx ?z1 ?z2 ?z3 ?_; walk_at "M use0"; (case u4x => k_asm); (case z1 => exact Nat.le_trans z1P (by decide)); (case z2 => exact z6P); (case z3 => exact hlT))
       k_whole; intro hT tkT vT ownT FT NT DT
       have DT2 := DT
       refine byC fun hn9 => ?_
       obtain ⟨lpT, vpT, npT, rfl, hmT, hdT2⟩ := DatIn.asList DT
       refine hn9 ?_
       clear hn9
       k_dflt (
         have kN2 := news_pre (l' := [(pgP, oW), (dlP, W.listOf (xdv ++ [vW]).toArray nW)]) NT (List.forall_mem_cons.mpr ⟨List.mem_append_right _ (.head _), List.forall_mem_cons.mpr ⟨List.mem_append_right _ (.tail _ (.head _)), List.forall_mem_nil _⟩⟩)
         simp only [List.cons_append, List.nil_append] at kN2)
       clear DT hdT2 hmT NT
       (try dsimp only); (try k_sweep))
    | (refine hold ?_))
  k_with "M neq" => (
    first
    | k_dflt (refine ne_tupE (by assumption) (.tail _ (.head _)) (.head _) (by rw [hpA]; rfl) (by rw [hpA]; rfl) (by ktr_units) ?_)
    | k_dflt (refine ne_tupE (by assumption) (.tail _ (.head _)) (.head _) (by rw [lc_nil]; rfl) (by rw [lc_nil]; rfl) (by ktr_units) ?_)
    | k_dflt (refine ne_tupE (by assumption) (.tail _ (.head _)) (.head _) (by rw [hpQ]) (by rw [hpQ]; rfl) (by ktr_units) ?_)
    | k_dflt (refine ne_self (by assumption) DT2 (fun q hq => .tail _ (.tail _ (List.mem_append_left _ hq))) (.list (.tail _ (.head _)) (hD2.mono fun q hq => .tail _ (.tail _ (List.mem_append_right _ (.tail _ (.tail _ hq)))))) (fun _ h => h) (by have := okP; rw [hdT] at this; exact this) (by ktr_units) ?_)
    | (refine hold ?_))
  k_with "M lnum" => (
    first
    | (skip
       (with_reducible show wpAny _ _ (call _ [Value.str (Str.ofString "1e") _, _]) _ _ _)
       (rename Fr _ _ _ _ => kF')
       k_dflt (rw [great_eq] at kF'; rw [s_1e, great_eq])
       k_dflt (refine' c_lnum_ok ?u1x ?u2x ?u3x ?u4x ?u5x ?uKx ?udx ?uux ?uXBx ?uTBx ?z1 ?_; walk_at "M use0"; (case u4x => k_asm); (case z1 => omega))
       k_whole; intro h' tk' t' F' N'; (try dsimp only); (try k_sweep))
    | (skip
       (with_reducible show wpAny _ _ (call _ [Value.str (Str.ofString "1F") _, _]) _ _ _)
       k_dflt (rw [s_1F])
       k_dflt (refine' c_lnum_bad ?u1x ?u2x ?u3x ?u4x ?u5x ?uKx ?udx ?uux ?uXBx ?uTBx ?z1 ?_; walk_at "M use0"; (case u4x => k_asm); (case z1 => omega))
       k_whole; intro h' tk' pl' u3' u4' F' N'; (try dsimp only); (try k_sweep))
    | (refine hold ?_))
  k_with "M cask" => (
    first
    | (skip
       k_dflt (refine' c_cask ?u1x ?u2x ?u3x ?u4x ?u5x ?uKx ?udx ?uux ?z1 ?z2 ?z3 ?z4 ?_; walk_at "M use"; (case u4x => k_asm); (case z1 => assumption); (case z2 => assumption); (case z3 => omega); (case z4 => omega))
       k_whole; intro hC tkC cC aC bC u1C u2C p1C p2C FC NC LC; (try dsimp only); (try k_sweep))
    | (refine hold ?_))
  k_with "M page" => (
    first
    | (skip
       k_dflt (refine' c_page ?u1x ?u2x ?u3x ?u4x ?u5x ?uKx ?udx ?uux ?z1 ?z2 ?z3 ?_; walk_at "M use"; (case u4x => walk_at "M led"); (case z1 => assumption); (case z2 => assumption); (case z3 => walk_at "M ap"))
       k_whole; intro hP tkP pgP dlP xP picksP restP l1P l2P FP NP SP OP KP PP
       k_dflt (
         refine byC fun hn9 => ?_
         obtain ⟨xo, xdv, xn, xt1, xt2, xt3, xa, xb, xu1, xu2, xcn⟩ := xP
         have szP := page_sizes PP KP
         have badP := fun (q : Str × Nat) (hq : q ∈ spoiltL) => page_bad PP hq
         have toldP := page_told PP
         have okP := @due_ok _ PP (pageF picksP).p
         generalize pageF picksP = st at OP szP badP toldP okP
         obtain ⟨hpgx, hdd, hxa, hxb, hapx⟩ := OP
         obtain ⟨rowsT, hlT, hdT, hapT⟩ := toldP
         obtain ⟨z1P, z2P, z3P, z4P, z5P, z6P⟩ := szP
         dsimp only at hpgx hdd hxa hxb
         have hapC : ∀ q ∈ (pgP, xo) :: (dlP, W.listOf xdv.toArray xn) :: restP, q.1 ≠ cC := List.forall_mem_cons.mpr ⟨Nat.ne_of_gt l1P, List.forall_mem_cons.mpr ⟨Nat.ne_of_gt (Nat.lt_trans l1P l2P), fun q hq => (hapx q hq).2.2⟩⟩
         have kN2 := news_sub (l' := (cC, ckO xa xb xu1 xu2 xcn) :: (pgP, xo) :: (dlP, W.listOf xdv.toArray xn) :: restP) NP (List.forall_mem_cons.mpr ⟨by walk_at "M mem", List.forall_mem_cons.mpr ⟨by walk_at "M mem", List.forall_mem_cons.mpr ⟨by walk_at "M mem", fun q hq => .tail _ (.tail _ (.tail _ hq))⟩⟩⟩)
         clear NP
         refine hn9 ?_
         clear hn9)
       (try dsimp only); (try k_sweep))
    | (refine hold ?_))
  k_with "M spoilt" => (
    first
    | (skip
       k_dflt (refine' c_spoilt ?u1x ?u2x ?u3x ?u4x ?u5x ?uKx ?udx ?uux ?z1 ?z2 ?z3 ?_; walk_at "M use"; (case u4x => k_asm); (case z1 => assumption); (case z2 => assumption); (case z3 => assumption))
       k_whole; intro hS tkS aS qS tS uS nS caS cbS u1S u2S n2S hqS p1S p2S FS NS
       k_dflt (
         refine byC fun hn9 => ?_
         obtain ⟨rowsQ, plQ, hlQ, hpQ⟩ := badP qS hqS
         obtain ⟨_, hq2, hq3⟩ := spoilt_head qS hqS
         have kN2 := news_sub (l' := (aS, ({ cls := .type "tuple", data := .seq #[.str (tx qS.1.cps.toList) tS, .int (qS.2 : Int) uS] nS } : Obj)) :: (pgP, xo) :: (dlP, W.listOf xdv.toArray xn) :: restP) NS (List.forall_mem_cons.mpr ⟨by walk_at "M mem", List.forall_mem_cons.mpr ⟨by walk_at "M mem", List.forall_mem_cons.mpr ⟨by walk_at "M mem", fun q hq => .tail _ (.tail _ (.tail _ (.tail _ hq)))⟩⟩⟩)
         have hqT : (qS.1.cps.toList).length ≤ 10 := hq2
         have hLs : (tx st.S).length ≤ 220 := by rw [tx_len]; exact z1P
         have hLq : (tx qS.1.cps.toList).length ≤ 10 := by rw [tx_len]; exact hqT
         have hQ1 : (st.S ++ qS.1.cps.toList).length ≤ 9000 := by rw [List.length_append]; omega
         have hQ2 : 123 ∉ st.S ++ qS.1.cps.toList := fun hm => (List.mem_append.mp hm).elim z6P hq3
         clear NS badP hq2
         refine hn9 ?_
         clear hn9)
       (try dsimp only); (try k_sweep))
    | (refine hold ?_))
  k_with "M set" => (
    first
    | (skip
       (rename News _ _ _ _ => kN')
       k_dflt (rw [s_nil] at kN'; have kN2 := news_sub (l' := (pgP, xo) :: (dlP, W.listOf xdv.toArray xn) :: (_, tup3n (.str (Str.ofString "end") _) (.str (tx []) _) .none _) :: restP) kN' (List.forall_mem_cons.mpr ⟨by walk_at "M mem", List.forall_mem_cons.mpr ⟨by walk_at "M mem", List.forall_mem_cons.mpr ⟨List.mem_cons_self, by walk_at "M sub"⟩⟩⟩))
       clear kN'
       k_dflt (refine' c_set_word ?u1x ?u2x ?u3x ?u4x ?u5x ?uKx ?udx ?uux ?z1 ?z3 ?z4 ?z5 ?z6 ?z7 ?z8 ?z9 ?y1 ?y2 ?y3 ?y4 ?y5 ?y6 ?_; walk_at "M use"; (case u4x => exact kN2); (case z1 => assumption); (case z3 => exact .none); (case z4 => decide +kernel); (case z5 => exact Nat.ne_of_lt l2P); (case z6 => walk_at "M ne"); (case z7 => walk_at "M ne"); (case z8 => exact fun q hq => (hapx q hq).1); (case z9 => exact fun q hq => (hapx q hq).2.1); (case y1 => omega); (case y2 => decide); (case y3 => omega); (case y4 => omega); (case y5 => omega); (case y6 => rw [hdd.length]; omega))
       k_whole; intro hW tkW t1W t2W t3W oW vW nW addW FW NW IW DW AW
       k_dflt (
         rw [List.append_nil, pour_nil] at IW
         rw [pour_nil] at DW
         have hD2 : DatAll (addW ++ restP) (xdv ++ [vW]) (rowsT.map rowD) := by
           have := (hdd.mono fun q hq => List.mem_append_right addW hq).append (.one (DW.mono fun q hq => List.mem_append_left restP hq))
           rw [hdT] at this
           exact this
         clear kN2)
       (try dsimp only); (try k_sweep))
    | (refine hold ?_))
  k_with "M right" => (
    first
    | (skip
       (rename News _ _ _ _ => kN')
       k_dflt (have kN2 := news_sub (l' := (pgP, oW) :: (dlP, W.listOf (xdv ++ [vW]).toArray nW) :: (addW ++ restP)) kN' (List.forall_mem_cons.mpr ⟨.head _, List.forall_mem_cons.mpr ⟨.tail _ (.head _), fun q hq => .tail _ (.tail _ (List.mem_append_right _ (.tail _ (.tail _ hq))))⟩⟩))
       clear kN'
       k_dflt (refine' c_apart_right ?u1x ?u2x ?u3x ?u4x ?u5x ?uKx ?udx ?uux ?z1 ?z2 ?z3 ?z4 ?z5 ?z6 ?_; walk_at "M use"; (case u4x => exact kN2); (case z1 => assumption); (case z2 => exact hD2); (case z3 => omega); (case z4 => exact z6P); (case z5 => exact hlT); (case z6 => exact hapT))
       k_whole; intro h' tk' F' N'; (try dsimp only); (try k_sweep))
    | (refine hold ?_))
  k_with "M len" => (
    first
    | k_dflt (refine len_six (by assumption) (List.mem_append_left _ hmB) hdB hnB ?_))
  k_with "M rng" => (k_dflt (
    rename Fr _ _ _ _ => lF'
    rename IsRange _ _ _ _ _ _ _ _ => lR'
    refine' loop_fix (x1 := Str.ofString "turn") (xs := [Str.ofString "turn", Str.ofString "cask", Str.ofString "page", Str.ofString "wrong", Str.ofString "far"]) (led := []) ?hx ?hh lR' (range12 (cnt12 _)).1 (range12 (cnt12 _)).2 lF' (fun _ h => absurd h List.not_mem_nil) ?turn ?done
    (case hx => exact List.mem_cons_self)
    (case hh => exact rfl)
    (case' turn => (
      intro i it m₁ own h tk hi hv kFr kNews
      rw [vary5 hv, idx0] at kFr
      have hi1 := ix12 (cnt12 _) hi
      have kN0 := news_sub (l' := own) kNews (fun q hq => List.mem_append_right _ hq)
      clear hv lF' lR' hi kNews
      (try dsimp only at kFr)))
    (case' done => (
      intro m₁ h tk hv kFr kNews
      clear lF' lR' hv))))
  k_steps
  exact fixE_end (by assumption) (by assumption) (fun q hq => .tail _ (.tail _ (List.mem_append_right _ (SP q hq)))) fun z hz => by (simp only [List.mem_cons, List.not_mem_nil, or_false, not_or] at hz; obtain ⟨g1, g2, g3, g4, g5⟩ := hz; simp only [g1, g2, g3, g4, g5, if_false])
end

end Mine
end
theorem PySem.Challenge.cw_sy0021_01_holds : PySem.Challenge.rw_sy0021_01.Holds :=
  Mine.hq
