import PyProof.Rows.All
import Wide.All
import OpenK.AllK
import Wide.FinOn
import KE.KStateDown
import KE.KExcIs
import HandS.Base
import HandS.Call
import HandS.Words
import HandS.Defaults
import HandS.Exc
import HandS.ExcInit
import KE.HD3
import HandS.HeadHook1
import HandS.HeadHook2
import HandS.HeadHook3
import HandS.HeadHook4
import PySem.Challenge.RW_withinrim_k82_whole_texts_of_data_first
import HandS.Text
import HandS.Codes
import HandS.StrMore
import KE.IntTextLaws
import KE.KIntText
import HandS.ForMost
import HandS.ExcField
import HandS.TryOnly
import HandS.ExcOwn
import HandS.WordsExc
import HandS.Deep
import HandS.Style
import HandS.Flow
import HandS.Gcd
import HandS.Wide
import HandS.WideBits
import HandS.IsInst
import HandS.Steps
import PyProof.ReprRoads
import KE.GoesEnum
import HandS.TupAny
import HandS.Star
import HandS.Flt
import HandS.Iter
import HandS.ExcIs
import KE.DataEq
import HandS.HeadEnd
/-! part Head -/
set_option Elab.async false
set_option linter.all false
set_option maxRecDepth 100000
set_option maxHeartbeats 0
/-! the text of k82, and what the top leaves, by facts -/
namespace K82
open PySem PySem.Spec PyProof.Rows L2
abbrev PW : Program := PySem.Challenge.pw_withinrim_k82_whole_texts_of_data_first
def top (i : Nat) : Stmt := PySem.Challenge.pw_withinrim_k82_whole_texts_of_data_first.main.body.getD i (.Pass ⟨0, 0, 0, 0⟩)
abbrev S_is_whole : Stmt := top 3
abbrev S_is_frac : Stmt := top 4
abbrev S_is_num : Stmt := top 5
abbrev S_frac_reduced : Stmt := top 6
abbrev S_num_size : Stmt := top 7
abbrev S_num_is_within : Stmt := top 8
abbrev S_is_place : Stmt := top 9
abbrev S_is_pair : Stmt := top 14
abbrev S_count_values : Stmt := top 15
abbrev S_wrong_in_data : Stmt := top 16
abbrev S_places_of : Stmt := top 17
abbrev S_check_data : Stmt := top 23
abbrev S_fraction_text : Stmt := top 27
abbrev S_number_written : Stmt := top 28
abbrev S_numbers_written : Stmt := top 29
abbrev S_pair_written : Stmt := top 30
abbrev S_data_written : Stmt := top 31
abbrev S_whole_in : Stmt := top 32
abbrev S_fraction_in : Stmt := top 33
abbrev S_split_at : Stmt := top 34
abbrev S_number_in : Stmt := top 35
abbrev S_place_in : Stmt := top 36
abbrev S_wrong_word : Stmt := top 37
abbrev S_data_in : Stmt := top 38
abbrev S_check_text : Stmt := top 40
abbrev S_data_text : Stmt := top 41
abbrev S_read_data : Stmt := top 42
abbrev S__law_well : Stmt := top 44
abbrev S__law_draw : Stmt := top 45
abbrev S__law_one_of : Stmt := top 46
abbrev S__law_near : Stmt := top 47
abbrev S__law_part : Stmt := top 48
abbrev S__law_part_text : Stmt := top 49
abbrev S__law_number_text : Stmt := top 50
abbrev S__law_read_whole : Stmt := top 51
abbrev S__law_read_part : Stmt := top 52
abbrev S__law_read_number : Stmt := top 53
abbrev S__law_of_line : Stmt := top 54
abbrev S__law_is_within : Stmt := top 55
abbrev S__law_own : Stmt := top 56
abbrev S__law_told : Stmt := top 57
abbrev S__law_word : Stmt := top 58
abbrev S__law_spot : Stmt := top 59
abbrev S__law_lines : Stmt := top 60
abbrev S__law_bent_word : Stmt := top 61
abbrev S__law_right : Stmt := top 62
abbrev S_law : Stmt := top 63
def dOf (n : Str) (st : Stmt) : He.DefD := ⟨(n, none), n, n, defArgs st, defBody st, defScope st, [], []⟩
def fnList : List He.DefD := [
  dOf "is_whole" S_is_whole,
  dOf "is_frac" S_is_frac,
  dOf "is_num" S_is_num,
  dOf "frac_reduced" S_frac_reduced,
  dOf "num_size" S_num_size,
  dOf "num_is_within" S_num_is_within,
  dOf "is_place" S_is_place,
  dOf "is_pair" S_is_pair,
  dOf "count_values" S_count_values,
  dOf "wrong_in_data" S_wrong_in_data,
  dOf "places_of" S_places_of,
  dOf "check_data" S_check_data,
  dOf "fraction_text" S_fraction_text,
  dOf "number_written" S_number_written,
  dOf "numbers_written" S_numbers_written,
  dOf "pair_written" S_pair_written,
  dOf "data_written" S_data_written,
  dOf "whole_in" S_whole_in,
  dOf "fraction_in" S_fraction_in,
  dOf "split_at" S_split_at,
  dOf "number_in" S_number_in,
  dOf "place_in" S_place_in,
  dOf "wrong_word" S_wrong_word,
  dOf "data_in" S_data_in,
  dOf "check_text" S_check_text,
  dOf "data_text" S_data_text,
  dOf "read_data" S_read_data,
  dOf "_law_well" S__law_well,
  dOf "_law_draw" S__law_draw,
  dOf "_law_one_of" S__law_one_of,
  dOf "_law_near" S__law_near,
  dOf "_law_part" S__law_part,
  dOf "_law_part_text" S__law_part_text,
  dOf "_law_number_text" S__law_number_text,
  dOf "_law_read_whole" S__law_read_whole,
  dOf "_law_read_part" S__law_read_part,
  dOf "_law_read_number" S__law_read_number,
  dOf "_law_of_line" S__law_of_line,
  dOf "_law_is_within" S__law_is_within,
  dOf "_law_own" S__law_own,
  dOf "_law_told" S__law_told,
  dOf "_law_word" S__law_word,
  dOf "_law_spot" S__law_spot,
  dOf "_law_lines" S__law_lines,
  dOf "_law_bent_word" S__law_bent_word,
  dOf "_law_right" S__law_right,
  dOf "law" S_law,
  ⟨("InvalidText", some "__init__"), "__init__", "InvalidText.__init__", defArgs (inClass (top 21) 0), defBody (inClass (top 21) 0), defScope (inClass (top 21) 0), [], []⟩]
def faList : List He.Fa := [
  .glo "is_whole",
  .glo "is_frac",
  .glo "is_num",
  .glo "frac_reduced",
  .glo "num_size",
  .glo "num_is_within",
  .glo "is_place",
  .glo "is_pair",
  .glo "count_values",
  .glo "wrong_in_data",
  .glo "places_of",
  .glo "check_data",
  .glo "fraction_text",
  .glo "number_written",
  .glo "numbers_written",
  .glo "pair_written",
  .glo "data_written",
  .glo "whole_in",
  .glo "fraction_in",
  .glo "split_at",
  .glo "number_in",
  .glo "place_in",
  .glo "wrong_word",
  .glo "data_in",
  .glo "check_text",
  .glo "data_text",
  .glo "read_data",
  .glo "_law_well",
  .glo "_law_draw",
  .glo "_law_one_of",
  .glo "_law_near",
  .glo "_law_part",
  .glo "_law_part_text",
  .glo "_law_number_text",
  .glo "_law_read_whole",
  .glo "_law_read_part",
  .glo "_law_read_number",
  .glo "_law_of_line",
  .glo "_law_is_within",
  .glo "_law_own",
  .glo "_law_told",
  .glo "_law_word",
  .glo "_law_spot",
  .glo "_law_lines",
  .glo "_law_bent_word",
  .glo "_law_right",
  .glo "law",
  .free "len",
  .free "isinstance",
  .free "sum",
  .free "all",
  .free "enumerate",
  .free "max",
  .free "min",
  .free "str",
  .free "int",
  .free "bool",
  .free "tuple",
  .free "range",
  .free "abs",
  .free "divmod",
  .free "repr",
  .free "ValueError",
  .int "MOST_PLACES" 6,
  .int "MOST_AT_ONE" 3,
  .int "MOST_VALUES" 6,
  .int "MOST_FIGURES" 400,
  .str "FIGURES" "0123456789",
  .glo "FRAC_NOUGHT",
  .glo "InvalidText",
  .glo "InvalidData",
  .glo "RimError"]
/-- an own exception class over ValueError -/
def oexB (K : PySem.W.Frag) (C : Addr) : Bool := match K.lookup C with
  | some ⟨.type "type", _, .cls cd, sl⟩ => (match cd.mro, sl.toList with
    | .ref C' :: bm, [_, _, _, _, some (.builtin n), _] => decide (C' = C) && (decide (n = "ValueError.__new__") && (!cd.hasDel && (cd.hasDict && PySem.HandSPX.refsVE bm)))
    | _, _ => false)
  | _ => false
def exB (K : PySem.W.Frag) : Bool :=
  He.tupB K "FRAC_NOUGHT" [.int 0, .int 1] && (He.eqO (PySem.W.nsIn K mainGlobals "gcd") (some (some (.builtin "math.gcd"))) &&
  (oexB K (He.ga K "InvalidText") &&
  (He.eqO (PySem.W.findIn K (.ref (He.ga K "InvalidText")) "__setattr__") (some (some (.builtin "object.__setattr__"))) &&
  (decide (PySem.W.subIn K (.ref (He.ga K "InvalidText")) (.type "BaseException") = some true) &&
  (decide (PySem.W.typeIn K (.ref (He.ga K "InvalidText")) = some (.type "type")) &&
  (PySem.W.keepIn K (.ref (He.ga K "InvalidText")) &&
  (He.eqO (PySem.W.findIn K (.ref (He.ga K "InvalidText")) "__init__") (some (some (.ref (He.ma K (He.ga K "InvalidText") "__init__")))) &&
  (decide (PySem.W.typeIn K (.ref (He.ma K (He.ga K "InvalidText") "__init__")) = some (.type "function")) &&
  (He.eqO (PySem.W.findIn K (.ref (He.ga K "InvalidText")) "line") (some none) &&
  (He.eqO (PySem.W.findIn K (.ref (He.ga K "InvalidText")) "word") (some none) &&
  (He.eqO (PySem.W.findIn K (.ref (He.ga K "InvalidText")) "__getattribute__") (some (some (.builtin "BaseException.__getattribute__"))) &&
  (He.eqO (PySem.W.findIn K (.ref (He.ga K "InvalidText")) "__getattr__") (some none) &&
  (PySem.W.hasDictIn K (He.ga K "InvalidText") &&
  (decide (PySem.W.exmOne K (.ref (He.ga K "InvalidText")) (.ref (He.ga K "InvalidText")) = some true) &&
  (decide (PySem.W.kitOne K (.ref (He.ga K "InvalidText")) (.ref (He.ga K "RimError")) = some true) &&
  (decide (PySem.W.kitOne K (.ref (He.ga K "InvalidText")) (.type "ValueError") = some true) &&
  (He.eqO (PySem.W.findIn K (.ref (He.ga K "InvalidText")) "__class__") (some (some (.builtin "object.__class__"))) &&
  (He.eqO (PySem.W.specialIn K (.builtin "object.__class__") "__get__") (some (some (.builtin "getset_descriptor.__get__"))) &&
  (decide (PySem.W.takesIn K (.builtin "object.__class__") = some true) &&
  (decide (PySem.W.mroIn K (He.ga K "InvalidText") (.type "object") = some true) &&
  (PySem.W.clsIn K (He.ga K "InvalidText")).isSome))))))))))))))))))))
def loose1 : List PySem.Str := ["FRAC_NOUGHT", "is_whole", "is_frac", "is_num", "frac_reduced", "num_size", "num_is_within", "is_place", "MOST_PLACES", "MOST_AT_ONE", "MOST_VALUES", "is_pair", "count_values", "wrong_in_data", "places_of", "RimError", "InvalidData", "InvalidText", "check_data", "FIGURES", "MOST_FIGURES", "fraction_text", "number_written", "numbers_written", "pair_written", "data_written", "whole_in", "fraction_in"]
def loose2 : List PySem.Str := ["split_at", "number_in", "place_in", "wrong_word", "data_in", "check_text", "data_text", "read_data", "_law_well", "_law_draw", "_law_one_of", "_law_near", "_law_part", "_law_part_text", "_law_number_text", "_law_read_whole", "_law_read_part", "_law_read_number", "_law_of_line", "_law_is_within", "_law_own", "_law_told", "_law_word", "_law_spot", "_law_lines", "_law_bent_word", "_law_right"]
def looseL : List PySem.Str := loose1 ++ loose2
abbrev R : PySem.W.OpenRow := PySem.W.OpenLaw.row PySem.Challenge.rw_withinrim_k82_whole_texts_of_data_first
abbrev hk : PySem.W.Hook := He.hookX 4 faList fnList [] [] exB
def ob (s : PySem.W.SharedT) : He.AlX := He.obsX 4 faList fnList [] [] exB (HeadRun.getT s)
theorem ob_eq (s : PySem.W.SharedT) : ob s = hk.obs s.abs := He.obsX_eq (HeadRun.getT_eq s)
theorem run (w : World) : HeadRun.RunEqI R (PySem.W.view R.prog [0, 63]) hk ob 6000 looseL w := by
  unfold HeadRun.RunEqI
  kernel_rfl
end K82

/-! part Math -/
set_option Elab.async false
set_option linter.all false
set_option maxRecDepth 100000
set_option maxHeartbeats 4000000
set_option autoImplicit false
set_option exponentiation.threshold 500
/-! plain laws: texts of fractions and numbers, read and written -/
namespace K82
open PySem TL
/-! ### whole numbers -/
def digC (c : Nat) : Bool := decide (48 ≤ c) && decide (c ≤ 57)
def wholeL (l : List Nat) : Option Nat := if l = [] ∨ 400 < l.length ∨ l.all digC = false ∨ (l.head? = some 48 ∧ l ≠ [48]) then none else some (NumText.digitsVal l)
theorem digC_iff {c : Nat} : digC c = true ↔ 48 ≤ c ∧ c ≤ 57 := by
  unfold digC
  rw [Bool.and_eq_true, decide_eq_true_iff, decide_eq_true_iff]
theorem dval_snoc (p : List Nat) (c : Nat) : NumText.digitsVal (p ++ [c]) = NumText.digitsVal p * 10 + (c - 48) := by
  unfold NumText.digitsVal
  rw [List.foldl_append]
  rfl
theorem snoc_cases (l : List Nat) : l = [] ∨ ∃ p c, l = p ++ [c] := by
  rcases List.eq_nil_or_concat l with h | ⟨p, c, h⟩
  · exact .inl h
  · exact .inr ⟨p, c, by rw [h]; simp⟩
theorem canon_num : ∀ (n : Nat) (l : List Nat), l.length = n → l ≠ [] → l.all digC = true → (l.head? = some 48 → l = [48]) → numL (NumText.digitsVal l) = l := by
  intro n
  induction n with
  | zero => intro l hl hne; exact absurd (List.length_eq_zero_iff.mp hl) hne
  | succ n ih =>
    intro l hl hne hd hh
    rcases snoc_cases l with h | ⟨p, c, h⟩
    · exact absurd h hne
    · subst h
      have hc : digC c = true := List.all_eq_true.mp hd c (by simp)
      have hp : p.all digC = true := List.all_eq_true.mpr fun x hx => List.all_eq_true.mp hd x (by simp [hx])
      obtain ⟨c1, c2⟩ := digC_iff.mp hc
      rw [dval_snoc]
      cases p with
      | nil =>
        have e : NumText.digitsVal ([] : List Nat) = 0 := rfl
        rw [e, Nat.zero_mul, Nat.zero_add, numL_lt (by omega), show 48 + (c - 48) = c by omega]
        rfl
      | cons a r =>
        have hlp : (a :: r).length = n := by simpa using hl
        have ha : a ≠ 48 := fun z => by
          have := hh (by rw [z]; rfl)
          have l2 := congrArg List.length this
          simp at l2
        have e := ih (a :: r) hlp (by simp) hp (fun z => absurd (Option.some.inj z) ha)
        have pos : 0 < NumText.digitsVal (a :: r) := by
          rcases Nat.eq_zero_or_pos (NumText.digitsVal (a :: r)) with z | z
          · rw [z, numL_lt (by decide)] at e
            exact absurd (List.cons.inj e).1.symm ha
          · exact z
        rw [numL_step (by omega), show (NumText.digitsVal (a :: r) * 10 + (c - 48)) / 10 = NumText.digitsVal (a :: r) by omega, e, show 48 + (NumText.digitsVal (a :: r) * 10 + (c - 48)) % 10 = c by omega]
theorem num_head (n : Nat) : (numL n).head? = some 48 → numL n = [48] := by
  induction n using Nat.strongRecOn with
  | _ n ih =>
    by_cases h : n < 10
    · rw [numL_lt h]
      intro z
      have := Option.some.inj z
      rw [this]
    · rw [numL_step (by omega)]
      intro z
      have hne := numL_ne (n / 10)
      have z' : (numL (n / 10)).head? = some 48 := by
        cases hq : numL (n / 10) with
        | nil => exact absurd hq hne
        | cons a r =>
          rw [hq] at z
          exact z
      have e := ih (n / 10) (by omega) z'
      have e2 : numL (n / 10) = numL 0 := by
        rw [e, numL_lt (by decide)]
      have := numL_inj e2
      omega
theorem num_all (n : Nat) : (numL n).all digC = true := List.all_eq_true.mpr fun c hc => digC_iff.mpr (numL_digits n c hc)
theorem wholeL_some {l : List Nat} {n : Nat} (h : wholeL l = some n) : l = numL n ∧ (numL n).length ≤ 400 := by
  unfold wholeL at h
  split at h
  · cases h
  · rename_i hn
    have hn1 : l ≠ [] := fun z => hn (.inl z)
    have hn2 : l.length ≤ 400 := Nat.le_of_not_lt fun z => hn (.inr (.inl z))
    have hn3 : l.all digC = true := by
      cases q : l.all digC with
      | true => rfl
      | false => exact absurd (.inr (.inr (.inl q))) hn
    have hn4 : l.head? = some 48 → l = [48] := fun z => Classical.byContradiction fun y => hn (.inr (.inr (.inr ⟨z, y⟩)))
    have e := canon_num l.length l rfl hn1 hn3 hn4
    have en := Option.some.inj h
    rw [en] at e
    exact ⟨e.symm, by rw [e]; exact hn2⟩
theorem wholeL_num {n : Nat} (h : (numL n).length ≤ 400) : wholeL (numL n) = some n := by
  unfold wholeL
  rw [if_neg, numL_val]
  rintro (z | z | z | ⟨z, y⟩)
  · exact numL_ne n z
  · omega
  · rw [num_all] at z
    cases z
  · exact y (num_head n z)
theorem num_lt {n k : Nat} (h : (numL n).length ≤ k) : n < 10 ^ k := by
  induction n using Nat.strongRecOn generalizing k with
  | _ n ih =>
    by_cases h9 : n < 10
    · rw [numL_lt h9] at h
      have hk : 1 ≤ k := by simpa using h
      exact Nat.lt_of_lt_of_le h9 (Nat.le_trans (by decide : 10 ≤ 10 ^ 1) (Nat.pow_le_pow_right (by decide) hk))
    · rw [numL_step (by omega), List.length_append] at h
      have h1 : (numL (n / 10)).length ≤ k - 1 := by
        simp at h
        omega
      have hk : 1 ≤ k := by
        simp at h
        omega
      have := ih (n / 10) (by omega) h1
      have e : 10 ^ k = 10 ^ (k - 1) * 10 := by
        rw [← Nat.pow_succ, show (k - 1).succ = k by omega]
      rw [e]
      omega
/-! ### cutting at a sign -/
def splC (c : Nat) : List Nat → List (List Nat)
  | [] => [[]]
  | x :: r => if x = c then [] :: splC c r else match splC c r with
    | [] => [[x]]
    | p :: ps => (x :: p) :: ps
def joinC (c : Nat) : List (List Nat) → List Nat
  | [] => []
  | [p] => p
  | p :: q :: r => p ++ c :: joinC c (q :: r)
theorem splC_ne (c : Nat) (l : List Nat) : splC c l ≠ [] := by
  cases l with
  | nil => exact fun z => nomatch z
  | cons x r =>
    unfold splC
    split
    · exact fun z => nomatch z
    · split <;> exact fun z => nomatch z
theorem join_split (c : Nat) : ∀ l : List Nat, joinC c (splC c l) = l
  | [] => rfl
  | x :: r => by
    have ih := join_split c r
    have hne := splC_ne c r
    unfold splC
    by_cases hx : x = c
    · rw [if_pos hx]
      cases h : splC c r with
      | nil => exact absurd h hne
      | cons p ps =>
        rw [h] at ih
        show [] ++ c :: joinC c (p :: ps) = x :: r
        rw [ih, hx]
        rfl
    · rw [if_neg hx]
      cases h : splC c r with
      | nil => exact absurd h hne
      | cons p ps =>
        rw [h] at ih
        show joinC c ((x :: p) :: ps) = x :: r
        cases ps with
        | nil =>
          show x :: p = x :: r
          rw [show p = r from ih]
        | cons q qs =>
          show (x :: p) ++ c :: joinC c (q :: qs) = x :: r
          rw [← ih]
          rfl
theorem splC_free (c : Nat) : ∀ (l : List Nat), ∀ p ∈ splC c l, c ∉ p
  | [] => fun p hp => by
    have : p = [] := by simpa [splC] using hp
    rw [this]
    simp
  | x :: r => fun p hp => by
    have ih := splC_free c r
    unfold splC at hp
    by_cases hx : x = c
    · rw [if_pos hx] at hp
      rcases List.mem_cons.mp hp with h | h
      · rw [h]; simp
      · exact ih p h
    · rw [if_neg hx] at hp
      cases h : splC c r with
      | nil => exact absurd h (splC_ne c r)
      | cons q qs =>
        rw [h] at hp
        have hq := ih q (by rw [h]; exact List.mem_cons_self)
        rcases List.mem_cons.mp hp with e | e
        · rw [e]
          intro z
          rcases List.mem_cons.mp z with z | z
          · exact hx z.symm
          · exact hq z
        · exact ih p (by rw [h]; exact List.mem_cons_of_mem _ e)
theorem splC_hit (c : Nat) (r : List Nat) : splC c (c :: r) = [] :: splC c r := by
  show (if c = c then _ else _) = _
  rw [if_pos rfl]
theorem splC_miss {c x : Nat} (h : x ≠ c) {r p : List Nat} {ps : List (List Nat)} (e : splC c r = p :: ps) : splC c (x :: r) = (x :: p) :: ps := by
  show (if x = c then _ else _) = _
  rw [if_neg h, e]
theorem spl_splC (c : Nat) : ∀ (l acc : List Nat), spl [c] 0 acc l = match splC c l with
    | [] => []
    | p :: ps => (acc ++ p) :: ps
  | [], acc => by
    rw [spl_nil]
    show [acc] = [acc ++ []]
    rw [List.append_nil]
  | x :: r, acc => by
    by_cases hx : x = c
    · have hp : pre [c] (x :: r) = true := by
        rw [hx]
        exact pre_self [c] r
      rw [spl_hit hp]
      show acc :: spl [c] 0 [] r = _
      rw [spl_splC c r [], hx, splC_hit]
      cases h : splC c r with
      | nil => exact absurd h (splC_ne c r)
      | cons p ps =>
        show acc :: ([] ++ p) :: ps = (acc ++ []) :: p :: ps
        rw [List.append_nil, List.nil_append]
    · have hp : pre [c] (x :: r) = false := pre_of_head [] r hx
      rw [spl_miss hp, spl_splC c r (acc ++ [x])]
      cases h : splC c r with
      | nil => exact absurd h (splC_ne c r)
      | cons p ps =>
        rw [splC_miss hx h]
        show (acc ++ [x] ++ p) :: ps = (acc ++ x :: p) :: ps
        rw [List.append_assoc]
        rfl
/-- the model's split, by one plain sign -/
theorem split_tl (x : Str) {c : Nat} (hc : c < 256) : (Txt.split x ⟨#[c]⟩).map tl = splC c (tl x) := by
  have h1 : tl ⟨#[c]⟩ = [c] := rfl
  rw [split_spl x ⟨#[c]⟩ (by rw [h1]; simp) (kind_ok (by simp [hc])), h1, spl_splC]
  cases h : splC c (tl x) with
  | nil => exact absurd h (splC_ne c _)
  | cons p ps => rfl
/-! ### fractions -/
abbrev Fr := Int × Int
def reduc (n m : Int) : Fr := (n / (Nat.gcd n.natAbs m.natAbs : Nat), m / (Nat.gcd n.natAbs m.natAbs : Nat))
def intL (i : Int) : List Nat := if i < 0 then 45 :: numL i.natAbs else numL i.natAbs
def frL (f : Fr) : List Nat := if f.2 = 1 then intL f.1 else intL f.1 ++ 47 :: intL f.2
structure FrOk (f : Fr) : Prop where
  pos : 0 < f.2
  gcd : Nat.gcd f.1.natAbs f.2.natAbs = 1
  n : f.1.natAbs < 10 ^ 400
  m : f.2.natAbs < 10 ^ 400
def negS (l : List Nat) : Bool := l.head? == some 45
def bodyS (l : List Nat) : List Nat := if negS l then l.tail else l
def sgn (b : Bool) (n : Nat) : Int := if b then -(n : Int) else (n : Int)
def fracL (l : List Nat) : Option Fr := match splC 47 (bodyS l) with
  | [p] => (match wholeL p with
    | some n => if negS l = true ∧ n = 0 then none else some (sgn (negS l) n, 1)
    | none => none)
  | [p, q] => (match wholeL p, wholeL q with
    | some n, some m => if m < 2 ∨ Nat.gcd n m ≠ 1 then none else some (sgn (negS l) n, (m : Int))
    | _, _ => none)
  | _ => none
theorem sgn_abs (b : Bool) (n : Nat) : (sgn b n).natAbs = n := by
  unfold sgn
  split <;> omega
theorem intL_sgn {b : Bool} {n : Nat} (h : ¬ (b = true ∧ n = 0)) : intL (sgn b n) = if b then 45 :: numL n else numL n := by
  unfold intL
  rw [sgn_abs]
  cases b with
  | true =>
    have : n ≠ 0 := fun z => h ⟨rfl, z⟩
    rw [if_pos (by unfold sgn; simp; omega), if_pos rfl]
  | false => rw [if_neg (by unfold sgn; simp), if_neg (by simp)]
theorem body_eq (l : List Nat) : l = if negS l then 45 :: bodyS l else bodyS l := by
  unfold bodyS
  cases h : negS l with
  | false => simp
  | true =>
    unfold negS at h
    cases l with
    | nil => simp at h
    | cons a r =>
      have : a = 45 := by simpa using h
      simp [this]
theorem intL_nat (m : Nat) : intL (m : Int) = numL m := by
  unfold intL
  rw [if_neg (by omega), Int.natAbs_natCast]
theorem fracL_one {l p : List Nat} {n : Nat} (hs : splC 47 (bodyS l) = [p]) (hp : wholeL p = some n) (hz : ¬ (negS l = true ∧ n = 0)) : intL (sgn (negS l) n) = l := by
  obtain ⟨h1, h2⟩ := wholeL_some hp
  have hb : bodyS l = p := by
    have := join_split 47 (bodyS l)
    rw [hs] at this
    exact this.symm
  rw [intL_sgn hz]
  conv => rhs; rw [body_eq l, hb, h1]
theorem fracL_ok {l : List Nat} {f : Fr} (h : fracL l = some f) : frL f = l ∧ FrOk f := by
  unfold fracL at h
  split at h
  · rename_i p hs
    split at h
    · rename_i n hp
      split at h
      · cases h
      · rename_i hz
        have e := Option.some.inj h
        subst e
        obtain ⟨h1, h2⟩ := wholeL_some hp
        refine ⟨?_, (show (0 : Int) < 1 by decide), by simp, ?_, ?_⟩
        · unfold frL
          rw [if_pos rfl]
          exact fracL_one hs hp hz
        · show (sgn _ n).natAbs < _
          rw [sgn_abs]
          exact num_lt h2
        · show 1 < _
          exact Nat.lt_of_lt_of_le (by decide : 1 < 10 ^ 1) (Nat.pow_le_pow_right (by decide) (by decide))
    · cases h
  · rename_i p q hs
    split at h
    · rename_i n m hp hq
      split at h
      · cases h
      · rename_i hz
        have e := Option.some.inj h
        subst e
        have hm2 : 2 ≤ m := Nat.le_of_not_lt fun z => hz (.inl z)
        have hg : Nat.gcd n m = 1 := Classical.byContradiction fun z => hz (.inr z)
        have hn0 : n ≠ 0 := fun z => by
          rw [z, Nat.gcd_zero_left] at hg
          omega
        obtain ⟨h1, h2⟩ := wholeL_some hp
        obtain ⟨h3, h4⟩ := wholeL_some hq
        have hb : bodyS l = p ++ 47 :: q := by
          have := join_split 47 (bodyS l)
          rw [hs] at this
          exact this.symm
        refine ⟨?_, ?_, ?_, ?_, ?_⟩
        · unfold frL
          rw [if_neg (by show ¬ ((m : Int) = 1); omega)]
          show intL (sgn (negS l) n) ++ 47 :: intL (m : Int) = l
          rw [intL_sgn (fun z => hn0 z.2), intL_nat]
          conv => rhs; rw [body_eq l, hb, h1, h3]
          cases negS l <;> rfl
        · show (0 : Int) < (m : Int)
          omega
        · show Nat.gcd (sgn _ n).natAbs ((m : Int)).natAbs = 1
          rw [sgn_abs, Int.natAbs_natCast]
          exact hg
        · show (sgn _ n).natAbs < _
          rw [sgn_abs]
          exact num_lt h2
        · show ((m : Int)).natAbs < _
          rw [Int.natAbs_natCast]
          exact num_lt h4
    · cases h
  · cases h
/-! what the program does -/
def fracP (l : List Nat) : Option Fr :=
  if 2 < (splC 47 (bodyS l)).length ∨ ((splC 47 (bodyS l)).flatMap fun p => (wholeL p).toList).length ≠ (splC 47 (bodyS l)).length then none
  else match (splC 47 (bodyS l)).flatMap fun p => (wholeL p).toList with
    | [n] => if frL (reduc (sgn (negS l) n) 1) = l then some (reduc (sgn (negS l) n) 1) else none
    | [n, m] => if m = 0 then none else if frL (reduc (sgn (negS l) n) m) = l then some (reduc (sgn (negS l) n) m) else none
    | _ => none
theorem reduc_one (i : Int) : reduc i 1 = (i, 1) := by
  unfold reduc
  rw [show (1 : Int).natAbs = 1 from rfl, Nat.gcd_one_right]
  show (i / 1, (1 : Int) / 1) = _
  rw [Int.ediv_one, Int.ediv_one]
theorem reduc_cop {n m : Int} (h : Nat.gcd n.natAbs m.natAbs = 1) : reduc n m = (n, m) := by
  unfold reduc
  rw [h]
  show (n / 1, m / 1) = _
  rw [Int.ediv_one, Int.ediv_one]
theorem intL_inj {i j : Int} (h : intL i = intL j) : i = j := by
  unfold intL at h
  have fr : ∀ n : Nat, (45 : Nat) ∉ numL n := fun n => numL_free (.inl (by decide))
  split at h
  · split at h
    · have := numL_inj (List.cons.inj h).2
      omega
    · exact absurd (by rw [← h]; exact List.mem_cons_self) (fr _)
  · split at h
    · exact absurd (by rw [h]; exact List.mem_cons_self) (fr _)
    · have := numL_inj h
      omega
theorem slash_free (i : Int) : (47 : Nat) ∉ intL i := by
  unfold intL
  have fr : ∀ n : Nat, (47 : Nat) ∉ numL n := fun n => numL_free (.inl (by decide))
  split
  · intro z
    rcases List.mem_cons.mp z with z | z
    · cases z
    · exact fr _ z
  · exact fr _
theorem cut_eq {a a' b b' : List Nat} {c : Nat} (h : a ++ c :: b = a' ++ c :: b') (ha : c ∉ a) (ha' : c ∉ a') : a = a' ∧ b = b' := by
  induction a generalizing a' with
  | nil =>
    cases a' with
    | nil => exact ⟨rfl, (List.cons.inj h).2⟩
    | cons x r => exact absurd (by rw [(List.cons.inj h).1]; exact List.mem_cons_self) ha'
  | cons y a ih =>
    cases a' with
    | nil => exact absurd (by rw [← (List.cons.inj h).1]; exact List.mem_cons_self) ha
    | cons x r =>
      obtain ⟨h1, h2⟩ := List.cons.inj h
      obtain ⟨h3, h4⟩ := ih h2 (fun z => ha (List.mem_cons_of_mem _ z)) (fun z => ha' (List.mem_cons_of_mem _ z))
      exact ⟨by rw [h1, h3], h4⟩
theorem fracP_eq (l : List Nat) : fracP l = fracL l := by
  have hj := join_split 47 (bodyS l)
  unfold fracP fracL
  cases hs : splC 47 (bodyS l) with
  | nil => exact absurd hs (splC_ne 47 _)
  | cons p ps =>
    cases ps with
    | nil =>
      rw [hs] at hj
      cases hp : wholeL p with
      | none =>
        rw [if_pos (.inr (by simp [hp]))]
        simp only [hp]
      | some n =>
        rw [if_neg (by simp [hp])]
        simp only [List.flatMap_cons, List.flatMap_nil, hp, Option.toList_some, List.append_nil]
        rw [reduc_one]
        by_cases hz : negS l = true ∧ n = 0
        · rw [if_pos hz, if_neg]
          intro e
          obtain ⟨z1, z2⟩ := hz
          have e2 : frL (sgn (negS l) n, 1) = [48] := by
            rw [z1, z2]
            decide
          rw [e2] at e
          rw [← e] at z1
          cases z1
        · rw [if_neg hz, if_pos]
          unfold frL
          rw [if_pos rfl]
          exact fracL_one hs hp hz
    | cons q qs =>
      cases qs with
      | nil =>
        rw [hs] at hj
        cases hp : wholeL p with
        | none =>
          rw [if_pos (.inr (by
            cases hq : wholeL q <;> simp [hp, hq]))]
          simp only [hp]
        | some n =>
          cases hq : wholeL q with
          | none =>
            rw [if_pos (.inr (by simp [hp, hq]))]
            simp only [hp, hq]
          | some m =>
            rw [if_neg (by simp [hp, hq])]
            simp only [List.flatMap_cons, List.flatMap_nil, hp, hq, Option.toList_some, List.append_nil, List.cons_append, List.nil_append]
            obtain ⟨h1, h2⟩ := wholeL_some hp
            obtain ⟨h3, h4⟩ := wholeL_some hq
            have hb : bodyS l = numL n ++ 47 :: numL m := by
              rw [← hj, ← h1, ← h3]
              rfl
            by_cases hm : m = 0
            · rw [if_pos hm, if_pos (.inl (by omega))]
            · rw [if_neg hm]
              by_cases hz : m < 2 ∨ Nat.gcd n m ≠ 1
              · rw [if_pos hz, if_neg]
                intro e
                -- the text has a slash: so the lower part is not 1, and is m
                have hg0 : 0 < Nat.gcd n m := Nat.gcd_pos_of_pos_right _ (by omega)
                have ab : (sgn (negS l) n).natAbs = n := sgn_abs _ _
                unfold frL reduc at e
                simp only [ab, Int.natAbs_natCast] at e
                have el : l = (if negS l then 45 :: numL n else numL n) ++ 47 :: numL m := by
                  conv => lhs; rw [body_eq l, hb]
                  cases negS l <;> rfl
                have sf : (47 : Nat) ∈ l := by
                  rw [el]
                  simp
                split at e
                · rename_i h1'
                  rw [← e] at sf
                  exact slash_free _ sf
                · rename_i h1'
                  rw [el] at e
                  have fr : (47 : Nat) ∉ (if negS l then 45 :: numL n else numL n) := by
                    have f2 : (47 : Nat) ∉ numL n := numL_free (.inl (by decide))
                    cases negS l with
                    | true =>
                      intro z
                      rcases List.mem_cons.mp z with z | z
                      · cases z
                      · exact f2 z
                    | false => exact f2
                  obtain ⟨_, e2⟩ := cut_eq e (slash_free _) fr
                  rw [← intL_nat m] at e2
                  have e3 := intL_inj e2
                  have e4 : ((m / Nat.gcd n m : Nat) : Int) = (m : Int) := by
                    rw [← e3]
                    rfl
                  have e5 : m / Nat.gcd n m = m := by omega
                  have hg : Nat.gcd n m = 1 := by
                    rcases Nat.lt_or_ge 1 (Nat.gcd n m) with z | z
                    · have := Nat.div_lt_self (n := m) (by omega) z
                      omega
                    · omega
                  rcases hz with z | z
                  · have m1 : m = 1 := by omega
                    rw [hg, m1] at h1'
                    exact h1' rfl
                  · exact z hg
              · rw [if_neg hz]
                have hg : Nat.gcd n m = 1 := Classical.byContradiction fun z => hz (.inr z)
                have hm2 : 2 ≤ m := Nat.le_of_not_lt fun z => hz (.inl z)
                rw [reduc_cop (by rw [sgn_abs, Int.natAbs_natCast]; exact hg), if_pos]
                have hn0 : n ≠ 0 := fun z => by
                  rw [z, Nat.gcd_zero_left] at hg
                  omega
                unfold frL
                rw [if_neg (by show ¬ ((m : Int) = 1); omega)]
                show intL (sgn (negS l) n) ++ 47 :: intL (m : Int) = l
                rw [intL_sgn (fun z => hn0 z.2), intL_nat]
                conv => rhs; rw [body_eq l, hb]
                cases negS l <;> rfl
      | cons r rs => rw [if_pos (.inl (by simp))]
end K82

/-! part Mb -/
set_option Elab.async false
set_option linter.all false
set_option maxRecDepth 100000
set_option maxHeartbeats 4000000
set_option autoImplicit false
set_option exponentiation.threshold 500
/-! plain laws: NUMBERs, lines, DATA -/
namespace K82
open PySem TL
theorem joinL_one (c : Nat) : ∀ ps : List (List Nat), joinL [c] ps = joinC c ps
  | [] => rfl
  | [p] => rfl
  | p :: q :: r => by
    show p ++ ([c] ++ joinL [c] (q :: r)) = p ++ c :: joinC c (q :: r)
    rw [joinL_one c (q :: r)]
    rfl
theorem splC_none {c : Nat} : ∀ {l : List Nat}, c ∉ l → splC c l = [l]
  | [], _ => rfl
  | x :: r, h => by
    have hx : x ≠ c := fun z => h (by rw [z]; exact List.mem_cons_self)
    exact splC_miss hx (splC_none fun z => h (List.mem_cons_of_mem _ z))
theorem splC_app {c : Nat} : ∀ {a : List Nat}, c ∉ a → ∀ b : List Nat, splC c (a ++ c :: b) = a :: splC c b
  | [], _, b => splC_hit c b
  | x :: r, h, b => by
    have hx : x ≠ c := fun z => h (by rw [z]; exact List.mem_cons_self)
    exact splC_miss hx (splC_app (fun z => h (List.mem_cons_of_mem _ z)) b)
theorem num_free {n s : Nat} (h : s < 48 ∨ 57 < s) : s ∉ numL n := numL_free h
theorem neg_num {n : Nat} : negS (numL n) = false := by
  cases h : negS (numL n) with
  | false => rfl
  | true =>
    unfold negS at h
    have := List.mem_of_mem_head? (show (45 : Nat) ∈ (numL n).head? by simpa using h)
    exact absurd this (num_free (.inl (by decide)))
theorem neg_app {a b : List Nat} (h : a ≠ []) : negS (a ++ b) = negS a := by
  cases a with
  | nil => exact absurd rfl h
  | cons x r => rfl
theorem body_num (n : Nat) (b : List Nat) : bodyS (numL n ++ b) = numL n ++ b ∧ negS (numL n ++ b) = false := by
  have h : negS (numL n ++ b) = false := by rw [neg_app (numL_ne n), neg_num]
  refine ⟨?_, h⟩
  unfold bodyS
  rw [h]
  rfl
theorem intL_body (i : Int) (b : List Nat) : bodyS (intL i ++ b) = numL i.natAbs ++ b ∧ negS (intL i ++ b) = decide (i < 0) := by
  unfold intL
  by_cases h : i < 0
  · rw [if_pos h, decide_eq_true h]
    exact ⟨rfl, rfl⟩
  · rw [if_neg h, decide_eq_false h]
    exact body_num _ _
theorem num_len400 {n : Nat} (h : n < 10 ^ 400) : (numL n).length ≤ 400 := numL_len (by decide) h
theorem sgn_of (i : Int) : sgn (decide (i < 0)) i.natAbs = i := by
  unfold sgn
  by_cases h : i < 0
  · rw [decide_eq_true h, if_pos rfl]
    omega
  · rw [decide_eq_false h, if_neg (by simp)]
    omega
theorem fracL_fr {f : Fr} (h : FrOk f) : fracL (frL f) = some f := by
  obtain ⟨n, m⟩ := f
  have hp : 0 < m := h.pos
  have hg : Nat.gcd n.natAbs m.natAbs = 1 := h.gcd
  unfold frL fracL
  by_cases h1 : m = 1
  · rw [if_pos h1]
    have b := intL_body n []
    rw [List.append_nil, List.append_nil] at b
    show (match splC 47 (bodyS (intL n)) with | [p] => _ | [p, q] => _ | _ => _) = _
    rw [b.1, splC_none (num_free (.inl (by decide)))]
    show (match wholeL (numL n.natAbs) with | some k => _ | none => _) = _
    rw [wholeL_num (num_len400 h.n), b.2]
    show (if decide (n < 0) = true ∧ n.natAbs = 0 then none else some (sgn (decide (n < 0)) n.natAbs, (1 : Int))) = _
    rw [if_neg (by
      rintro ⟨z1, z2⟩
      have := of_decide_eq_true z1
      omega), sgn_of, h1]
  · rw [if_neg h1]
    have b := intL_body n (47 :: intL m)
    have em : intL m = numL m.natAbs := by
      unfold intL
      rw [if_neg (by omega)]
    show (match splC 47 (bodyS (intL n ++ 47 :: intL m)) with | [p] => _ | [p, q] => _ | _ => _) = _
    rw [b.1, splC_app (num_free (.inl (by decide))), em, splC_none (num_free (.inl (by decide)))]
    rw [em] at b
    show (match wholeL (numL n.natAbs), wholeL (numL m.natAbs) with | some k, some j => _ | _, _ => _) = _
    rw [wholeL_num (num_len400 h.n), wholeL_num (num_len400 h.m), b.2]
    show (if m.natAbs < 2 ∨ Nat.gcd n.natAbs m.natAbs ≠ 1 then none else some (sgn (decide (n < 0)) n.natAbs, (m.natAbs : Int))) = _
    rw [if_neg (by
      rintro (z | z)
      · omega
      · exact z hg), sgn_of, show (m.natAbs : Int) = m by omega]
/-! ### NUMBERs -/
abbrev Nu := Fr × Fr
structure NuOk (u : Nu) : Prop where
  a : FrOk u.1
  b : FrOk u.2
def nuT (u : Nu) : List Nat :=
  if u.2 = (0, 1) then frL u.1
  else if u.1 = (0, 1) then frL u.2 ++ [105]
  else frL u.1 ++ (if 0 < u.2.1 then [43] else []) ++ frL u.2 ++ [105]
def isCut (c : Nat) : Bool := c == 43 || c == 45
/-- the first place from 1 on with a sign, 0: there is none -/
def cutF (l : List Nat) : Nat := match l with
  | [] => 0
  | _ :: r => if r.any isCut then r.findIdx isCut + 1 else 0
def rfindL (c : Nat) (l : List Nat) : Int := if c ∈ l then ((l.length - 1 - l.reverse.findIdx (· == c) : Nat) : Int) else -1
def cutR (l : List Nat) : Int := max (max (rfindL 43 l) (rfindL 45 l)) 0
def nuL (l : List Nat) : Option Nu :=
  if l.getLast? ≠ some 105 then (fracL l).map fun f => (f, (0, 1))
  else match (if 0 < cutF l then fracL (l.take (cutF l)) else some (1, 1)), fracL (if l[cutF l]? = some 43 ∧ 0 < cutF l then (l.drop (cutF l + 1)).dropLast else (l.drop (cutF l)).dropLast) with
    | some one, some two => if one.1 = 0 ∨ two.1 = 0 ∨ (0 < cutF l ∧ decide (l[cutF l]? = some 43) ≠ decide (0 < two.1)) then none else some (if 0 < cutF l then one else (0, 1), two)
    | _, _ => none
def nuP (l : List Nat) : Option Nu :=
  if l.getLast? ≠ some 105 then (fracL l).map fun f => (f, (0, 1))
  else match (if 0 < cutR l then fracL (l.take (cutR l).toNat) else some (0, 1)), fracL (if ((l.drop (cutR l).toNat).dropLast).head? = some 43 ∧ 0 < cutR l then ((l.drop (cutR l).toNat).dropLast).tail else (l.drop (cutR l).toNat).dropLast) with
    | some one, some two => if nuT (one, two) = l then some (one, two) else none
    | _, _ => none
theorem fr01 : FrOk (0, 1) := ⟨(show (0 : Int) < 1 by decide), rfl, (show (0 : Nat) < 10 ^ 400 from Nat.pow_pos (by decide)), (show (1 : Nat) < 10 ^ 400 from Nat.one_lt_pow (by decide) (by decide))⟩
theorem last_snoc {l : List Nat} {c : Nat} (h : l.getLast? = some c) : l = l.dropLast ++ [c] := by
  have hne : l ≠ [] := fun z => by rw [z] at h; cases h
  have e := List.getLast?_eq_some_getLast hne
  rw [e] at h
  have h' := Option.some.inj h
  conv => lhs; rw [← List.dropLast_concat_getLast hne, h']
theorem nuP_ok {l : List Nat} {u : Nu} (h : nuP l = some u) : nuT u = l ∧ NuOk u := by
  unfold nuP at h
  split at h
  · cases hf : fracL l with
    | none => rw [hf] at h; cases h
    | some f =>
      rw [hf] at h
      have e := Option.some.inj h
      subst e
      obtain ⟨a, b⟩ := fracL_ok hf
      refine ⟨?_, b, fr01⟩
      unfold nuT
      rw [if_pos rfl]
      exact a
  · split at h
    · rename_i one two h1 h2
      split at h
      · rename_i h3
        have e := Option.some.inj h
        subst e
        refine ⟨h3, ?_, (fracL_ok h2).2⟩
        split at h1
        · exact (fracL_ok h1).2
        · have e := Option.some.inj h1
          rw [← e]
          exact fr01
      · cases h
    · cases h
theorem fr_ne01 {f : Fr} (h : f.1 ≠ 0) : f ≠ (0, 1) := fun z => h (by rw [z])
theorem cutF_lt {l : List Nat} (h : 0 < cutF l) : ∃ c, l[cutF l]? = some c ∧ isCut c = true ∧ cutF l < l.length := by
  cases l with
  | nil => exact absurd h (by simp [cutF])
  | cons x r =>
    unfold cutF at h ⊢
    by_cases ha : r.any isCut
    · simp only [ha, if_true] at h ⊢
      have hlt : r.findIdx isCut < r.length := List.findIdx_lt_length.mpr (List.any_eq_true.mp ha)
      refine ⟨r[r.findIdx isCut], ?_, List.findIdx_getElem, by simpa using hlt⟩
      show r[r.findIdx isCut]? = _
      exact List.getElem?_eq_getElem hlt
    · simp [ha] at h
theorem isCut_cases {c : Nat} (h : isCut c = true) : c = 43 ∨ c = 45 := by
  unfold isCut at h
  simpa using h
theorem nuL_ok {l : List Nat} {u : Nu} (h : nuL l = some u) : nuT u = l ∧ NuOk u := by
  unfold nuL at h
  split at h
  · cases hf : fracL l with
    | none => rw [hf] at h; cases h
    | some f =>
      rw [hf] at h
      have e := Option.some.inj h
      subst e
      obtain ⟨a, b⟩ := fracL_ok hf
      refine ⟨?_, b, fr01⟩
      unfold nuT
      rw [if_pos rfl]
      exact a
  · rename_i hl0
    have hl : l.getLast? = some 105 := Classical.byContradiction hl0
    have hs := last_snoc hl
    split at h
    · rename_i one two h1 h2
      split at h
      · cases h
      · rename_i hc
        have e := Option.some.inj h
        subst e
        have c1 : one.1 ≠ 0 := fun z => hc (.inl z)
        have c2 : two.1 ≠ 0 := fun z => hc (.inr (.inl z))
        obtain ⟨t2, o2⟩ := fracL_ok h2
        by_cases hat : 0 < cutF l
        · rw [if_pos hat] at h1 ⊢
          obtain ⟨t1, o1⟩ := fracL_ok h1
          refine ⟨?_, o1, o2⟩
          obtain ⟨c, g1, g2, g3⟩ := cutF_lt hat
          have cut : l = l.take (cutF l) ++ c :: l.drop (cutF l + 1) := by
            conv => lhs; rw [← List.take_append_drop (cutF l) l]
            have gi : l[cutF l] = c := by
              rw [List.getElem?_eq_getElem g3] at g1
              exact Option.some.inj g1
            rw [List.drop_eq_getElem_cons g3, gi]
          have hd : l.drop (cutF l + 1) ≠ [] := fun z => by
            rw [z] at cut
            rw [cut, List.getLast?_append] at hl
            have : c = 105 := by simpa using hl
            rw [this] at g2
            cases g2
          have hdl : (l.drop (cutF l + 1)) = (l.drop (cutF l + 1)).dropLast ++ [105] := by
            refine last_snoc ?_
            rw [cut, List.getLast?_append, List.getLast?_cons] at hl
            cases q : l.drop (cutF l + 1) with
            | nil => exact absurd q hd
            | cons y r =>
              rw [q] at hl
              simp only [List.getLast?_cons] at hl ⊢
              simpa using hl
          have hdc : (l.drop (cutF l)).dropLast = c :: (l.drop (cutF l + 1)).dropLast := by
            have gi : l[cutF l] = c := by
              rw [List.getElem?_eq_getElem g3] at g1
              exact Option.some.inj g1
            rw [List.drop_eq_getElem_cons g3, gi]
            cases q : l.drop (cutF l + 1) with
            | nil => exact absurd q hd
            | cons y r => rfl
          have c3 : decide (l[cutF l]? = some 43) = decide (0 < two.1) := Classical.byContradiction fun z => hc (.inr (.inr ⟨hat, z⟩))
          unfold nuT
          rw [if_neg (fr_ne01 c2), if_neg (fr_ne01 c1)]
          show frL one ++ (if 0 < two.1 then [43] else []) ++ frL two ++ [105] = l
          rw [t1]
          rcases isCut_cases g2 with e | e
          · subst e
            rw [g1, decide_eq_true rfl] at c3
            rw [if_pos (of_decide_eq_true c3.symm)]
            rw [if_pos ⟨g1, hat⟩] at t2
            rw [t2, List.append_assoc, ← hdl, List.append_assoc]
            exact cut.symm
          · subst e
            have hn : ¬ (l[cutF l]? = some 43) := fun z => by rw [g1] at z; cases z
            rw [decide_eq_false hn] at c3
            rw [if_neg (of_decide_eq_false c3.symm)]
            rw [if_neg (fun z => hn z.1), hdc] at t2
            rw [t2, List.append_nil, List.append_assoc, List.cons_append, ← hdl]
            exact cut.symm
        · rw [if_neg hat]
          have h0 : cutF l = 0 := by omega
          refine ⟨?_, fr01, o2⟩
          rw [if_neg (fun z => hat z.2), h0, List.drop_zero] at t2
          unfold nuT
          rw [if_neg (fr_ne01 c2), if_pos rfl]
          show frL two ++ [105] = l
          rw [t2]
          exact hs.symm
    · cases h
/-! reading back -/
def Plain (l : List Nat) : Prop := ∀ c ∈ l, c ≠ 43 ∧ c ≠ 45 ∧ c ≠ 105
theorem num_plain (n : Nat) : Plain (numL n) := fun c hc => ⟨fun z => num_free (.inl (by decide)) (z ▸ hc), fun z => num_free (.inl (by decide)) (z ▸ hc), fun z => num_free (.inr (by decide)) (z ▸ hc)⟩
theorem intL_tail (i : Int) : ∃ c r, intL i = c :: r ∧ Plain r ∧ c ≠ 43 ∧ c ≠ 105 ∧ (c = 45 ↔ i < 0) := by
  unfold intL
  by_cases h : i < 0
  · rw [if_pos h]
    exact ⟨45, _, rfl, num_plain _, by decide, by decide, by simp [h]⟩
  · rw [if_neg h]
    cases q : numL i.natAbs with
    | nil => exact absurd q (numL_ne _)
    | cons c r =>
      have := num_plain i.natAbs
      rw [q] at this
      obtain ⟨a, b, d⟩ := this c List.mem_cons_self
      exact ⟨c, r, rfl, fun x hx => this x (List.mem_cons_of_mem _ hx), a, d, by simp [h, b]⟩
theorem frL_tail {f : Fr} (h : 0 < f.2) : ∃ c r, frL f = c :: r ∧ Plain r ∧ c ≠ 43 ∧ c ≠ 105 ∧ (c = 45 ↔ f.1 < 0) := by
  obtain ⟨c, r, e, p, q⟩ := intL_tail f.1
  unfold frL
  by_cases h1 : f.2 = 1
  · rw [if_pos h1]
    exact ⟨c, r, e, p, q⟩
  · rw [if_neg h1, e]
    refine ⟨c, r ++ 47 :: intL f.2, rfl, fun x hx => ?_, q⟩
    rcases List.mem_append.mp hx with hx | hx
    · exact p x hx
    · rcases List.mem_cons.mp hx with hx | hx
      · rw [hx]; decide
      · have em : intL f.2 = numL f.2.natAbs := by
          unfold intL
          rw [if_neg (by omega)]
        rw [em] at hx
        exact num_plain _ x hx
theorem frL_last {f : Fr} (h : 0 < f.2) : (frL f).getLast? ≠ some 105 := by
  obtain ⟨c, r, e, p, _, q, _⟩ := frL_tail h
  rw [e]
  intro z
  have := List.mem_of_getLast? z
  rcases List.mem_cons.mp this with h | h
  · exact q h.symm
  · exact (p _ h).2.2 rfl
theorem any_plain {r s : List Nat} (h : Plain r) : (r ++ s).any isCut = s.any isCut := by
  rw [List.any_append]
  have : r.any isCut = false := by
    rw [List.any_eq_false]
    intro x hx
    obtain ⟨a, b, _⟩ := h x hx
    unfold isCut
    simp [a, b]
  rw [this, Bool.false_or]
theorem find_plain {r s : List Nat} (h : Plain r) {c : Nat} (hc : isCut c = true) : (r ++ c :: s).findIdx isCut = r.length := by
  rw [List.findIdx_append]
  have : ¬ r.findIdx isCut < r.length := fun z => by
    have := List.findIdx_getElem (w := z)
    obtain ⟨a, b, _⟩ := h _ (List.getElem_mem z)
    exact (isCut_cases this).elim a b
  rw [if_neg this, List.findIdx_cons, hc]
  simp
theorem cutF_none {c : Nat} {r : List Nat} (h : Plain r) : cutF (c :: r ++ [105]) = 0 := by
  show (if (r ++ [105]).any isCut then _ else 0) = 0
  rw [any_plain h]
  rfl
theorem cutF_at {c d : Nat} {r s : List Nat} (h : Plain r) (hd : isCut d = true) : cutF (c :: r ++ d :: s) = (c :: r).length := by
  show (if (r ++ d :: s).any isCut then (r ++ d :: s).findIdx isCut + 1 else 0) = r.length + 1
  rw [any_plain h, find_plain h hd, List.any_cons, hd]
  rfl
theorem rfind_none {c : Nat} {l : List Nat} (h : c ∉ l) : rfindL c l = -1 := if_neg h
theorem rfind_at {c : Nat} {a b : List Nat} (h : c ∉ b) : rfindL c (a ++ c :: b) = (a.length : Int) := by
  unfold rfindL
  rw [if_pos (by simp), List.reverse_append, List.reverse_cons, List.append_assoc, List.findIdx_append]
  have : ¬ b.reverse.findIdx (· == c) < b.reverse.length := fun z => by
    have e := List.findIdx_getElem (w := z)
    have m := List.getElem_mem z
    have : b.reverse[b.reverse.findIdx (· == c)] = c := by simpa using e
    rw [this] at m
    exact h (List.mem_reverse.mp m)
  rw [if_neg this]
  simp [List.findIdx_cons]
theorem rfind_le {c : Nat} {a b : List Nat} (h : c ∉ b) : rfindL c (a ++ b) ≤ (a.length : Int) - 1 := by
  unfold rfindL
  by_cases hm : c ∈ a ++ b
  · rw [if_pos hm, List.reverse_append, List.findIdx_append]
    have : ¬ b.reverse.findIdx (· == c) < b.reverse.length := fun z => by
      have e := List.findIdx_getElem (w := z)
      have m := List.getElem_mem z
      have : b.reverse[b.reverse.findIdx (· == c)] = c := by simpa using e
      rw [this] at m
      exact h (List.mem_reverse.mp m)
    rw [if_neg this]
    have ha : c ∈ a := by
      rcases List.mem_append.mp hm with z | z
      · exact z
      · exact absurd z h
    have : 0 < a.length := List.length_pos_of_mem ha
    simp only [List.length_append, List.length_reverse]
    omega
  · rw [if_neg hm]
    omega
theorem nuT_read {u : Nu} (h : NuOk u) : nuL (nuT u) = some u ∧ nuP (nuT u) = some u := by
  obtain ⟨f, g⟩ := u
  have hf : FrOk f := h.a
  have hg : FrOk g := h.b
  by_cases h1 : g = (0, 1)
  · have e : nuT (f, g) = frL f := if_pos h1
    rw [e]
    unfold nuL nuP
    rw [if_pos (frL_last hf.pos), if_pos (frL_last hf.pos), fracL_fr hf, h1]
    exact ⟨rfl, rfl⟩
  · have g0 : g.1 ≠ 0 := fun z => h1 (by
      have hgg := hg.gcd
      rw [z] at hgg
      have : g.2.natAbs = 1 := by simpa using hgg
      have p := hg.pos
      have : g.2 = 1 := by omega
      exact Prod.ext z this)
    obtain ⟨c2, r2, e2, p2, q2, q2', q2''⟩ := frL_tail hg.pos
    by_cases h2 : f = (0, 1)
    · have e : nuT (f, g) = frL g ++ [105] := by
        unfold nuT
        rw [if_neg h1, if_pos h2]
      have lst : (frL g ++ [105]).getLast? = some 105 := by simp
      have cf : cutF (frL g ++ [105]) = 0 := by
        rw [e2]
        exact cutF_none p2
      have cr : cutR (frL g ++ [105]) = 0 := by
        have n43 : (43 : Nat) ∉ frL g ++ [105] := by
          rw [e2]
          intro z
          rcases List.mem_append.mp z with z | z
          · rcases List.mem_cons.mp z with z | z
            · exact q2 z.symm
            · exact (p2 _ z).1 rfl
          · simp at z
        have l45 : rfindL 45 (frL g ++ [105]) ≤ 0 := by
          have := rfind_le (c := 45) (a := [c2]) (b := r2 ++ [105]) (by
            intro z
            rcases List.mem_append.mp z with z | z
            · exact (p2 _ z).2.1 rfl
            · simp at z)
          rw [e2]
          simpa using this
        unfold cutR
        rw [rfind_none n43]
        omega
      rw [e]
      have nl : ¬ ((frL g ++ [105]).getLast? ≠ some 105) := fun z => z lst
      unfold nuL nuP
      rw [if_neg nl, if_neg nl, cf, cr]
      constructor
      · rw [if_neg (show ¬ (0 : Nat) < 0 by omega), if_neg (show ¬ ((frL g ++ [105])[0]? = some 43 ∧ (0 : Nat) < 0) from fun z => absurd z.2 (by omega)), List.drop_zero, List.dropLast_concat, fracL_fr hg]
        show (if (1 : Int) = 0 ∨ g.1 = 0 ∨ (0 < 0 ∧ _) then none else some (if 0 < 0 then ((1 : Int), (1 : Int)) else (0, 1), g)) = _
        rw [if_neg (by
          rintro (z | z | z)
          · omega
          · exact g0 z
          · omega), h2]
        rfl
      · rw [if_neg (show ¬ (0 : Int) < 0 by omega)]
        have ni : ∀ p : Prop, ¬ (p ∧ (0 : Int) < 0) := fun p z => absurd z.2 (by omega)
        rw [if_neg (ni _)]
        show (match some ((0 : Int), (1 : Int)), fracL ((frL g ++ [105]).dropLast) with | some one, some two => _ | _, _ => _) = _
        rw [List.dropLast_concat, fracL_fr hg]
        show (if nuT ((0, 1), g) = _ then some (((0 : Int), (1 : Int)), g) else none) = _
        rw [← h2, if_pos e]
    · have f0 : f.1 ≠ 0 := fun z => h2 (by
        have hgg := hf.gcd
        rw [z] at hgg
        have : f.2.natAbs = 1 := by simpa using hgg
        have p := hf.pos
        have : f.2 = 1 := by omega
        exact Prod.ext z this)
      obtain ⟨c1, r1, e1, p1, q1, q1', _⟩ := frL_tail hf.pos
      have e : nuT (f, g) = frL f ++ (if 0 < g.1 then [43] else []) ++ frL g ++ [105] := by
        unfold nuT
        rw [if_neg h1, if_neg h2]
      -- the shape: f's text, a sign, the rest without signs
      have shape : ∃ d s, nuT (f, g) = c1 :: r1 ++ d :: (s ++ [105]) ∧ isCut d = true ∧ Plain s ∧ (d = 43 ↔ 0 < g.1) ∧ (d = 43 → s = frL g) ∧ (d = 45 → d :: s = frL g) := by
        by_cases hg0 : 0 < g.1
        · refine ⟨43, frL g, ?_, rfl, ?_, by simp [hg0], fun _ => rfl, fun z => by cases z⟩
          · rw [e, if_pos hg0, e1]
            simp
          · intro x hx
            rw [e2] at hx
            rcases List.mem_cons.mp hx with z | z
            · refine ⟨fun y => q2 (z ▸ y), fun y => ?_, fun y => q2' (z ▸ y)⟩
              have := q2''.mp (z ▸ y)
              omega
            · exact p2 x z
        · have c45 : c2 = 45 := q2''.mpr (by omega)
          refine ⟨45, r2, ?_, rfl, p2, by simp [hg0], (fun z => absurd z (by decide)), fun _ => by rw [e2, c45]⟩
          rw [e, if_neg hg0, e1, e2, c45]
          simp
      obtain ⟨d, s, es, hd, ps, hd43, hsp, hsm⟩ := shape
      have lst : (nuT (f, g)).getLast? = some 105 := by
        rw [e]
        simp
      have len1 : (c1 :: r1).length = (frL f).length := by rw [e1]
      have cf : cutF (nuT (f, g)) = (frL f).length := by
        rw [es, cutF_at p1 hd, len1]
      have fs : ∀ x, x = 43 ∨ x = 45 → x ∉ s ++ [105] := by
        intro x hx z
        rcases List.mem_append.mp z with z | z
        · rcases hx with hx | hx
          · exact (ps _ z).1 hx
          · exact (ps _ z).2.1 hx
        · have : x = 105 := by simpa using z
          omega
      have cr : cutR (nuT (f, g)) = ((frL f).length : Int) := by
        unfold cutR
        rw [es]
        have le : ∀ x, x = 43 ∨ x = 45 → x ≠ d → rfindL x (c1 :: r1 ++ d :: (s ++ [105])) ≤ ((c1 :: r1).length : Int) := by
          intro x hx hxd
          have a1 := rfind_le (c := x) (a := c1 :: r1) (b := d :: (s ++ [105])) (by
            intro z
            rcases List.mem_cons.mp z with z | z
            · exact hxd z
            · exact fs x hx z)
          omega
        have eq : rfindL d (c1 :: r1 ++ d :: (s ++ [105])) = ((c1 :: r1).length : Int) := rfind_at (fs d (isCut_cases hd))
        rw [← len1]
        rcases isCut_cases hd with z | z
        · have := le 45 (.inr rfl) (by rw [z]; decide)
          rw [z] at eq this ⊢
          omega
        · have := le 43 (.inl rfl) (by rw [z]; decide)
          rw [z] at eq this ⊢
          omega
      have pos : 0 < (frL f).length := by rw [e1]; simp
      have es' : nuT (f, g) = frL f ++ d :: (s ++ [105]) := by rw [es, e1]
      have tk : (nuT (f, g)).take (frL f).length = frL f := by
        rw [es']
        exact List.take_left' rfl
      have dr : (nuT (f, g)).drop (frL f).length = d :: (s ++ [105]) := by
        rw [es']
        exact List.drop_left' rfl
      have dr1 : (nuT (f, g)).drop ((frL f).length + 1) = s ++ [105] := by
        rw [← List.drop_drop, dr]
        rfl
      have gd : (nuT (f, g))[(frL f).length]? = some d := by
        have := congrArg (·[0]?) dr
        simpa using this
      have dl : (d :: (s ++ [105])).dropLast = d :: s := by
        rw [← List.cons_append, List.dropLast_concat]
      have nl : ¬ ((nuT (f, g)).getLast? ≠ some 105) := fun z => z lst
      unfold nuL nuP
      rw [if_neg nl, if_neg nl, cf, cr, Int.toNat_natCast, tk, dr, dr1, gd, dl, List.dropLast_concat, if_pos pos, if_pos (show (0 : Int) < ((frL f).length : Nat) by omega), fracL_fr hf]
      rcases isCut_cases hd with z | z
      · subst z
        have hgp := hd43.mp rfl
        rw [if_pos ⟨rfl, pos⟩, if_pos ⟨rfl, by omega⟩]
        show _ ∧ (match some f, fracL s with | some one, some two => _ | _, _ => _) = _
        rw [hsp rfl, fracL_fr hg]
        constructor
        · show (if f.1 = 0 ∨ g.1 = 0 ∨ _ then none else _) = _
          rw [if_neg, if_pos pos]
          rintro (z | z | ⟨_, z⟩)
          · exact f0 z
          · exact g0 z
          · rw [decide_eq_true rfl, decide_eq_true hgp] at z
            exact z rfl
        · show (if nuT (f, g) = nuT (f, g) then some (f, g) else none) = _
          rw [if_pos rfl]
      · subst z
        have hgp : ¬ 0 < g.1 := fun z => by
          have := hd43.mpr z
          cases this
        rw [if_neg (fun z => by cases z.1), if_neg (fun z => by cases z.1), hsm rfl, fracL_fr hg]
        constructor
        · show (if f.1 = 0 ∨ g.1 = 0 ∨ _ then none else _) = _
          rw [if_neg, if_pos pos]
          rintro (z | z | ⟨_, z⟩)
          · exact f0 z
          · exact g0 z
          · rw [decide_eq_false hgp] at z
            exact z (decide_eq_false fun y => by cases y)
        · show (if nuT (f, g) = nuT (f, g) then some (f, g) else none) = _
          rw [if_pos rfl]
theorem nuP_eq (l : List Nat) : nuP l = nuL l := by
  cases h : nuL l with
  | some u =>
    obtain ⟨a, b⟩ := nuL_ok h
    rw [← a]
    exact (nuT_read b).2
  | none =>
    cases q : nuP l with
    | none => rfl
    | some u =>
      obtain ⟨a, b⟩ := nuP_ok q
      have := (nuT_read b).1
      rw [a, h] at this
      cases this
end K82

/-! part Mc -/
set_option Elab.async false
set_option linter.all false
set_option maxRecDepth 100000
set_option maxHeartbeats 4000000
set_option autoImplicit false
set_option exponentiation.threshold 9000
/-! plain laws: lines, DATA -/
namespace K82
open PySem TL
def sizeN (u : Nu) : Int := u.1.1 * u.1.1 * u.2.2 * u.2.2 + u.2.1 * u.2.1 * u.1.2 * u.1.2
def sizeM (u : Nu) : Int := u.1.2 * u.1.2 * u.2.2 * u.2.2
def withinL (u : Nu) : Bool := decide (sizeN u < sizeM u)
theorem reduc_lt {n m : Int} (h : 0 < m) : decide ((reduc n m).1 < (reduc n m).2) = decide (n < m) := by
  have hg : 0 < Nat.gcd n.natAbs m.natAbs := Nat.gcd_pos_of_pos_right _ (by omega)
  have d1 : ((Nat.gcd n.natAbs m.natAbs : Nat) : Int) ∣ n := Int.ofNat_dvd_left.mpr (Nat.gcd_dvd_left _ _)
  have d2 : ((Nat.gcd n.natAbs m.natAbs : Nat) : Int) ∣ m := Int.ofNat_dvd_left.mpr (Nat.gcd_dvd_right _ _)
  have key : n / ((Nat.gcd n.natAbs m.natAbs : Nat) : Int) < m / ((Nat.gcd n.natAbs m.natAbs : Nat) : Int) ↔ n < m := by
    have hp : (0 : Int) < ((Nat.gcd n.natAbs m.natAbs : Nat) : Int) := by omega
    obtain ⟨a, ha⟩ := d1
    obtain ⟨b, hb⟩ := d2
    generalize ((Nat.gcd n.natAbs m.natAbs : Nat) : Int) = g at *
    rw [ha, hb, Int.mul_ediv_cancel_left _ (by omega), Int.mul_ediv_cancel_left _ (by omega)]
    exact ⟨fun z => Int.mul_lt_mul_of_pos_left z hp, fun z => Int.lt_of_mul_lt_mul_left z (by omega)⟩
  exact decide_eq_decide.mpr key
def placeL (w : List Nat) : Option Nu := if w.getLast? = some 58 then (match nuL w.dropLast with | some u => if withinL u = true then some u else none | none => none) else none
abbrev Pa := Nu × List Nu
abbrev Da := List Pa
def cnt (D : Da) : Nat := (D.map fun p => p.2.length).sum
def valsL (room : Nat) : Nat → List (List Nat) → Nat ⊕ List Nu
  | _, [] => .inr []
  | k, w :: ws => match nuL w with
    | none => .inl k
    | some u => if 3 < k ∨ room < k then .inl k else match valsL room (k + 1) ws with
      | .inl j => .inl j
      | .inr us => .inr (u :: us)
def lineL1 (D : Da) (w : List Nat) (ws : List (List Nat)) : Nat ⊕ Pa := match placeL w with
    | none => .inl 0
    | some u => if u ∈ D.map (·.1) ∨ D.length = 6 then .inl 0 else match valsL (6 - cnt D) 1 ws with
      | .inl j => .inl j
      | .inr us => if us = [] then .inl 1 else .inr (u, us)
def lineL (D : Da) : List (List Nat) → Nat ⊕ Pa
  | [] => .inl 0
  | w :: ws => lineL1 D w ws
def dataL : Da → List (List Nat) → (Nat × Nat) ⊕ Da
  | D, [] => .inr D
  | D, [l] => if l = [] then .inr D else match lineL D (splC 32 l) with
    | .inl j => .inl (D.length, j)
    | .inr _ => .inl (D.length, (splC 32 l).length)
  | D, l :: m :: r => match lineL D (splC 32 l) with
    | .inl j => .inl (D.length, j)
    | .inr p => dataL (D ++ [p]) (m :: r)
def readL (x : List Nat) : (Nat × Nat) ⊕ Da := dataL [] (splC 10 x)
/-! written -/
def paT (p : Pa) : List Nat := nuT p.1 ++ [58, 32] ++ joinC 32 (p.2.map nuT)
def daT (D : Da) : List Nat := D.flatMap fun p => paT p ++ [10]
structure PaOk (p : Pa) : Prop where
  pl : NuOk p.1
  win : withinL p.1 = true
  lo : 1 ≤ p.2.length
  hi : p.2.length ≤ 3
  vs : ∀ u ∈ p.2, NuOk u
structure DaOk (D : Da) : Prop where
  len : D.length ≤ 6
  cnt : cnt D ≤ 6
  ps : ∀ p ∈ D, PaOk p
  nd : (D.map (·.1)).Nodup
theorem DaOk.nil : DaOk [] := ⟨Nat.zero_le _, Nat.zero_le _, (fun p hp => absurd hp (by simp)), List.nodup_nil⟩
theorem cnt_snoc (D : Da) (p : Pa) : cnt (D ++ [p]) = cnt D + p.2.length := by
  unfold cnt
  rw [List.map_append, List.sum_append]
  simp
theorem placeL_ok {w : List Nat} {u : Nu} (h : placeL w = some u) : w = nuT u ++ [58] ∧ NuOk u ∧ withinL u = true := by
  unfold placeL at h
  split at h
  · rename_i hl
    split at h
    · rename_i v hv
      split at h
      · rename_i hw
        have e := Option.some.inj h
        subst e
        obtain ⟨a, b⟩ := nuL_ok hv
        refine ⟨?_, b, hw⟩
        rw [a]
        exact last_snoc hl
      · cases h
    · cases h
  · cases h
theorem valsL_ok {room : Nat} : ∀ {ws : List (List Nat)} {k : Nat} {us : List Nu}, valsL room k ws = .inr us → us.map nuT = ws ∧ (∀ u ∈ us, NuOk u) ∧ (us ≠ [] → k + us.length ≤ 4 ∧ k + us.length ≤ room + 1)
  | [], k, us, h => by
    have e : us = [] := (Sum.inr.inj h).symm
    subst e
    exact ⟨rfl, fun u hu => (nomatch hu), fun z => absurd rfl z⟩
  | w :: ws, k, us, h => by
    unfold valsL at h
    split at h
    · cases h
    · rename_i u hu
      split at h
      · cases h
      · rename_i hk
        split at h
        · cases h
        · rename_i vs hv
          have e := (Sum.inr.inj h).symm
          subst e
          obtain ⟨a, b, c⟩ := valsL_ok hv
          obtain ⟨d, o⟩ := nuL_ok hu
          refine ⟨by rw [List.map_cons, a, d], fun x hx => ?_, fun _ => ?_⟩
          · rcases List.mem_cons.mp hx with z | z
            · rw [z]; exact o
            · exact b x z
          · rw [List.length_cons]
            cases vs with
            | nil =>
              simp only [List.length_nil]
              omega
            | cons y ys =>
              have := c (by simp)
              omega
theorem lineL_ok {D : Da} {l : List Nat} {p : Pa} (h : lineL D (splC 32 l) = .inr p) (hD : DaOk D) : paT p = l ∧ DaOk (D ++ [p]) := by
  cases hs : splC 32 l with
  | nil => exact absurd hs (splC_ne 32 l)
  | cons w ws =>
    rw [hs] at h
    change lineL1 D w ws = _ at h
    unfold lineL1 at h
    split at h
    · cases h
    · rename_i u hu
      split at h
      · cases h
      · rename_i hc
        rcases hv : valsL (6 - cnt D) 1 ws with j | us
        · rw [hv] at h
          cases h
        · rw [hv] at h
          cases us with
          | nil => cases h
          | cons v vs =>
          have e := (Sum.inr.inj h).symm
          subst e
          obtain ⟨a, b, c⟩ := placeL_ok hu
          obtain ⟨d, o, q⟩ := valsL_ok hv
          have q' := q (by simp)
          have hj := join_split 32 l
          rw [hs] at hj
          constructor
          · cases ws with
            | nil => cases d
            | cons y ys =>
              unfold paT
              rw [d]
              show nuT u ++ [58, 32] ++ joinC 32 (y :: ys) = l
              have e2 : joinC 32 (w :: y :: ys) = w ++ 32 :: joinC 32 (y :: ys) := rfl
              rw [← hj, e2, a]
              simp
          · refine ⟨?_, ?_, fun p hp => ?_, ?_⟩
            · have := hD.len
              have : D.length ≠ 6 := fun z => hc (.inr z)
              rw [List.length_append, List.length_singleton]
              omega
            · rw [cnt_snoc]
              show cnt D + (v :: vs).length ≤ 6
              have := hD.cnt
              omega
            · rcases List.mem_append.mp hp with z | z
              · exact hD.ps p z
              · rw [List.mem_singleton.mp z]
                exact ⟨b, c, by simp, by
                  show (v :: vs).length ≤ 3
                  omega, o⟩
            · rw [List.map_append]
              refine List.nodup_append.mpr ⟨hD.nd, by simp, fun x hx y hy => ?_⟩
              have : y = u := by simpa using hy
              rw [this]
              intro z
              exact hc (.inl (z ▸ hx))
theorem dataL_ok : ∀ {ls : List (List Nat)} {D E : Da}, ls ≠ [] → DaOk D → dataL D ls = .inr E → ∃ F, E = D ++ F ∧ joinC 10 ls = daT F ∧ DaOk E
  | [], _, _, h, _, _ => absurd rfl h
  | [l], D, E, _, hD, h => by
    unfold dataL at h
    split at h
    · rename_i hl
      have e := (Sum.inr.inj h).symm
      subst e
      exact ⟨[], by simp, by rw [hl]; rfl, hD⟩
    · split at h <;> cases h
  | l :: m :: r, D, E, _, hD, h => by
    unfold dataL at h
    split at h
    · cases h
    · rename_i p hp
      obtain ⟨a, b⟩ := lineL_ok hp hD
      obtain ⟨F, e1, e2, e3⟩ := dataL_ok (List.cons_ne_nil m r) b h
      refine ⟨p :: F, by rw [e1]; simp, ?_, e3⟩
      show l ++ 10 :: joinC 10 (m :: r) = _
      rw [e2, ← a]
      show paT p ++ 10 :: daT F = (paT p ++ [10]) ++ daT F
      simp
theorem readL_ok {x : List Nat} {D : Da} (h : readL x = .inr D) : daT D = x ∧ DaOk D := by
  obtain ⟨F, a, b, c⟩ := dataL_ok (splC_ne 10 x) DaOk.nil h
  have e : D = F := by simpa using a
  rw [e] at c ⊢
  exact ⟨by rw [← b, join_split], c⟩
/-! ### bounds -/
theorem splC_len (c : Nat) : ∀ l : List Nat, (splC c l).length ≤ l.length + 1
  | [] => Nat.le_refl _
  | x :: r => by
    have ih := splC_len c r
    by_cases hx : x = c
    · rw [hx, splC_hit]
      simp only [List.length_cons]
      omega
    · cases h : splC c r with
      | nil => exact absurd h (splC_ne c r)
      | cons p ps =>
        rw [splC_miss hx h]
        rw [h] at ih
        simp only [List.length_cons] at ih ⊢
        omega
theorem splC_part (c : Nat) : ∀ (l : List Nat), ∀ p ∈ splC c l, p.length ≤ l.length
  | [], p, hp => by
    have : p = [] := by simpa [splC] using hp
    rw [this]
    simp
  | x :: r, p, hp => by
    by_cases hx : x = c
    · rw [hx, splC_hit] at hp
      rcases List.mem_cons.mp hp with z | z
      · rw [z]; simp
      · exact Nat.le_succ_of_le (splC_part c r p z)
    · cases h : splC c r with
      | nil => exact absurd h (splC_ne c r)
      | cons q qs =>
        rw [splC_miss hx h] at hp
        have ih := splC_part c r
        rw [h] at ih
        rcases List.mem_cons.mp hp with z | z
        · rw [z]
          exact Nat.succ_le_succ (ih q List.mem_cons_self)
        · exact Nat.le_succ_of_le (ih p (List.mem_cons_of_mem _ z))
theorem numL_len_le {n : Nat} (h : n < 10 ^ 400) : (numL n).length ≤ 400 := num_len400 h
theorem intL_len {i : Int} (h : i.natAbs < 10 ^ 400) : (intL i).length ≤ 401 := by
  unfold intL
  have := num_len400 h
  split
  · simp only [List.length_cons]
    omega
  · omega
theorem frL_len {f : Fr} (h : FrOk f) : (frL f).length ≤ 803 := by
  unfold frL
  have := intL_len h.n
  have := intL_len h.m
  split
  · omega
  · simp only [List.length_append, List.length_cons]
    omega
theorem nuT_len {u : Nu} (h : NuOk u) : (nuT u).length ≤ 1608 := by
  unfold nuT
  have := frL_len h.a
  have := frL_len h.b
  split
  · omega
  · split
    · simp only [List.length_append, List.length_cons, List.length_nil]
      omega
    · simp only [List.length_append]
      split <;> simp only [List.length_cons, List.length_nil] <;> omega
theorem joinC_len {c k : Nat} : ∀ {ps : List (List Nat)}, (∀ p ∈ ps, p.length ≤ k) → (joinC c ps).length ≤ ps.length * (k + 1)
  | [], _ => by simp [joinC]
  | [p], h => by
    have := h p List.mem_cons_self
    show p.length ≤ 1 * (k + 1)
    omega
  | p :: q :: r, h => by
    have h1 := h p List.mem_cons_self
    have ih := joinC_len (c := c) (ps := q :: r) fun x hx => h x (List.mem_cons_of_mem _ hx)
    show (p ++ c :: joinC c (q :: r)).length ≤ ((q :: r).length + 1) * (k + 1)
    rw [List.length_append, List.length_cons, Nat.add_mul]
    omega
theorem paT_len {p : Pa} (h : PaOk p) : (paT p).length ≤ 6500 := by
  unfold paT
  have h1 := nuT_len h.pl
  have h2 := joinC_len (c := 32) (k := 1608) (ps := p.2.map nuT) (fun q hq => by
    obtain ⟨u, hu, rfl⟩ := List.mem_map.mp hq
    exact nuT_len (h.vs u hu))
  have h3 := h.hi
  rw [List.length_map] at h2
  have : p.2.length * (1608 + 1) ≤ 3 * (1608 + 1) := Nat.mul_le_mul_right _ h3
  simp only [List.length_append, List.length_cons, List.length_nil]
  omega
/-! ### signs -/
theorem pow_400 : (10 : Nat) ^ 400 < 2 ^ 1400 := by decide +kernel
theorem sizeN_lt {u : Nu} (h : NuOk u) : (sizeN u).natAbs < 2 ^ 5700 := by
  have p := pow_400
  have a := Nat.lt_trans h.a.n p
  have b := Nat.lt_trans h.a.m p
  have c := Nat.lt_trans h.b.n p
  have d := Nat.lt_trans h.b.m p
  have e1 : (u.1.1 * u.1.1 * u.2.2 * u.2.2).natAbs < 2 ^ 5600 := by
    rw [Int.natAbs_mul, Int.natAbs_mul, Int.natAbs_mul]
    have : (2 : Nat) ^ 5600 = 2 ^ 1400 * 2 ^ 1400 * 2 ^ 1400 * 2 ^ 1400 := by rw [← Nat.pow_add, ← Nat.pow_add, ← Nat.pow_add]
    rw [this]
    exact Nat.mul_lt_mul'' (Nat.mul_lt_mul'' (Nat.mul_lt_mul'' a a) d) d
  have e2 : (u.2.1 * u.2.1 * u.1.2 * u.1.2).natAbs < 2 ^ 5600 := by
    rw [Int.natAbs_mul, Int.natAbs_mul, Int.natAbs_mul]
    have : (2 : Nat) ^ 5600 = 2 ^ 1400 * 2 ^ 1400 * 2 ^ 1400 * 2 ^ 1400 := by rw [← Nat.pow_add, ← Nat.pow_add, ← Nat.pow_add]
    rw [this]
    exact Nat.mul_lt_mul'' (Nat.mul_lt_mul'' (Nat.mul_lt_mul'' c c) b) b
  have e3 : (2 : Nat) ^ 5600 + 2 ^ 5600 = 2 ^ 5601 := by rw [show 5601 = 5600 + 1 from rfl, Nat.pow_succ, Nat.mul_two]
  have e4 : (2 : Nat) ^ 5601 ≤ 2 ^ 5700 := Nat.pow_le_pow_right (by decide) (by decide)
  unfold sizeN
  generalize (2 : Nat) ^ 5600 = A at *
  generalize (2 : Nat) ^ 5601 = B at *
  generalize (2 : Nat) ^ 5700 = C at *
  omega
theorem sizeM_lt {u : Nu} (h : NuOk u) : (sizeM u).natAbs < 2 ^ 5600 := by
  have p := pow_400
  have b := Nat.lt_trans h.a.m p
  have d := Nat.lt_trans h.b.m p
  unfold sizeM
  rw [Int.natAbs_mul, Int.natAbs_mul, Int.natAbs_mul]
  have : (2 : Nat) ^ 5600 = 2 ^ 1400 * 2 ^ 1400 * 2 ^ 1400 * 2 ^ 1400 := by rw [← Nat.pow_add, ← Nat.pow_add, ← Nat.pow_add]
  rw [this]
  exact Nat.mul_lt_mul'' (Nat.mul_lt_mul'' (Nat.mul_lt_mul'' b b) d) d
theorem sizeM_pos {u : Nu} (h : NuOk u) : 0 < sizeM u := by
  have a := h.a.pos
  have b := h.b.pos
  unfold sizeM
  exact Int.mul_pos (Int.mul_pos (Int.mul_pos a a) b) b
end K82

/-! part Fw -/
set_option Elab.async false
set_option linter.all false
set_option maxRecDepth 100000
set_option maxHeartbeats 4000000
set_option autoImplicit false
/-! data in slots: a small layer over the hand layer -/
namespace K82
open PySem PySem.Spec PyProof.Rows L2
/-! ### data without lists -/
inductive LF : PyData → Prop
  | non : LF .none
  | bl (b : Bool) : LF (.bool b)
  | int (i : Int) : LF (.int i)
  | str (x : Str) : LF (.str x)
  | tup {xs : List PyData} (h : ∀ x ∈ xs, LF x) : LF (.tuple xs)
section
variable {K : PySem.W.Frag} {H H' : Hp}
theorem Same.rd (e : Same H H') {a : Addr} {u : HO} (h : Rd H a u) : Rd H' a u := by
  rcases h with h | ⟨o, h⟩
  · exact .inl (e _ _ h)
  · exact .inr ⟨o, e _ _ h⟩
theorem Same.sqt (e : Same H H') {a : Addr} {xs : List V} (h : SqT K H a xs) : SqT K H' a xs := by
  rcases h with h | h
  · exact .inl (Same.rd e h)
  · exact .inr h
theorem Same.new {p : Addr} {o : HO} (h : H p = none) : Same H (upd H p o) := fun b x e => by
  rw [upd_ne (ne_of_none e h)]
  exact e
/-- what stood before p was made may stand beside any change of p -/
theorem Same.mut {p : Addr} {o : HO} (e : Same H H') (h : H p = none) : Same H (upd H' p o) := fun b x q => by
  rw [upd_ne (ne_of_none q h)]
  exact e _ _ q
mutual
theorem Dp.same (e : Same H H') : ∀ {v : V} {d : PyData}, Dp K H v d → Dp K H' v d
  | _, _, .non => .non
  | _, _, .bl b => .bl b
  | _, _, .int i => .int i
  | _, _, .str x => .str x
  | _, _, .lst h a => .lst (e.seq h) (DpAll.same e a)
  | _, _, .tup h a => .tup (Same.sqt e h) (DpAll.same e a)
theorem DpAll.same (e : Same H H') : ∀ {vs : List V} {ds : List PyData}, DpAll K H vs ds → DpAll K H' vs ds
  | _, _, .nil => .nil
  | _, _, .cons a r => .cons (Dp.same e a) (DpAll.same e r)
end
/-- tuples stay -/
structure TStay (H H' : Hp) : Prop where
  t : ∀ b xs, H b = some (.tup xs) → H' b = some (.tup xs)
  f : ∀ b o xs, H b = some (.frz o (.tup xs)) → H' b = some (.frz o (.tup xs))
theorem TStay.mut {p : Addr} {xs : List V} {o : HO} (h : H p = some (.lst xs)) : TStay H (upd H p o) := ⟨fun b ys e => by
  rw [upd_ne (fun z => by rw [z, h] at e; cases e)]; exact e, fun b ob ys e => by
  rw [upd_ne (fun z => by rw [z, h] at e; cases e)]; exact e⟩
theorem TStay.sqt (e : TStay H H') {a : Addr} {xs : List V} (h : SqT K H a xs) : SqT K H' a xs := by
  rcases h with (h | ⟨o, h⟩) | h
  · exact .inl (.inl (e.t _ _ h))
  · exact .inl (.inr ⟨o, e.f _ _ _ h⟩)
  · exact .inr h
theorem LF.of_tup {ds : List PyData} (h : LF (.tuple ds)) : ∀ x ∈ ds, LF x := by
  cases h with
  | tup h => exact h
theorem not_lf_list {ds : List PyData} (h : LF (.list ds)) : False := nomatch h
mutual
theorem Dp.stay (e : TStay H H') : ∀ {v : V} {d : PyData}, Dp K H v d → LF d → Dp K H' v d
  | _, _, .non, _ => .non
  | _, _, .bl b, _ => .bl b
  | _, _, .int i, _ => .int i
  | _, _, .str x, _ => .str x
  | _, _, .lst h a, l => (not_lf_list l).elim
  | _, _, .tup h a, l => .tup (e.sqt h) (DpAll.stay e a (LF.of_tup l))
theorem DpAll.stay (e : TStay H H') : ∀ {vs : List V} {ds : List PyData}, DpAll K H vs ds → (∀ d ∈ ds, LF d) → DpAll K H' vs ds
  | _, _, .nil, _ => .nil
  | _, _, .cons a r, l => .cons (Dp.stay e a (l _ List.mem_cons_self)) (DpAll.stay e r fun d hd => l d (List.mem_cons_of_mem _ hd))
end
theorem DpAll.length : ∀ {vs : List V} {ds : List PyData}, DpAll K H vs ds → vs.length = ds.length
  | _, _, .nil => rfl
  | _, _, .cons _ r => by rw [List.length_cons, List.length_cons, DpAll.length r]
theorem DpAll.get : ∀ {vs : List V} {ds : List PyData}, DpAll K H vs ds → ∀ {i : Nat} {d : PyData}, ds[i]? = some d → ∃ v, vs[i]? = some v ∧ Dp K H v d
  | _, _, .nil, _, _, e => by simp at e
  | _, _, .cons a r, 0, _, e => by
    have e' := Option.some.inj e
    subst e'
    exact ⟨_, rfl, a⟩
  | _, _, .cons a r, i + 1, _, e => DpAll.get r (i := i) e
theorem DpAll.getV : ∀ {vs : List V} {ds : List PyData}, DpAll K H vs ds → ∀ {i : Nat} {v : V}, vs[i]? = some v → ∃ d, ds[i]? = some d ∧ Dp K H v d
  | _, _, .nil, _, _, e => by simp at e
  | _, _, .cons a r, 0, _, e => by
    have e' := Option.some.inj e
    subst e'
    exact ⟨_, rfl, a⟩
  | _, _, .cons a r, i + 1, _, e => DpAll.getV r (i := i) e
theorem DpAll.append : ∀ {vs ws : List V} {ds es : List PyData}, DpAll K H vs ds → DpAll K H ws es → DpAll K H (vs ++ ws) (ds ++ es)
  | _, _, _, _, .nil, s => s
  | _, _, _, _, .cons a r, s => .cons a (DpAll.append r s)
theorem DpAll.take : ∀ {vs : List V} {ds : List PyData} (n : Nat), DpAll K H vs ds → DpAll K H (vs.take n) (ds.take n)
  | _, _, 0, _ => .nil
  | _, _, _ + 1, .nil => .nil
  | _, _, n + 1, .cons a r => .cons a (DpAll.take n r)
theorem DpAll.drop : ∀ {vs : List V} {ds : List PyData} (n : Nat), DpAll K H vs ds → DpAll K H (vs.drop n) (ds.drop n)
  | _, _, 0, r => r
  | _, _, _ + 1, .nil => .nil
  | _, _, n + 1, .cons _ r => DpAll.drop n r
theorem _root_.L2.Dp.tupI {v : V} {ds : List PyData} (h : Dp K H v (.tuple ds)) : ∃ a xs, v = .ref a ∧ SqT K H a xs ∧ DpAll K H xs ds := by
  cases h with
  | tup h a => exact ⟨_, _, rfl, h, a⟩
theorem _root_.L2.Dp.lstI {v : V} {ds : List PyData} (h : Dp K H v (.list ds)) : ∃ a xs, v = .ref a ∧ SqL K H a xs ∧ DpAll K H xs ds := by
  cases h with
  | lst h a => exact ⟨_, _, rfl, h, a⟩
theorem _root_.L2.Dp.intI {v : V} {i : Int} (h : Dp K H v (.int i)) : v = .int i := by
  cases h
  rfl
theorem _root_.L2.Dp.strI {v : V} {x : Str} (h : Dp K H v (.str x)) : v = .str x := by
  cases h
  rfl
theorem _root_.L2.Dp.blI {v : V} {b : Bool} (h : Dp K H v (.bool b)) : v = .bl b := by
  cases h
  rfl
theorem _root_.L2.Dp.nonI {v : V} (h : Dp K H v .none) : v = .non := by
  cases h
  rfl
theorem DpAll.strs : ∀ (ys : List Str), DpAll K H (ys.map V.str) (ys.map PyData.str)
  | [] => .nil
  | y :: r => .cons (.str y) (DpAll.strs r)
theorem DpAll.strsI : ∀ {ys : List Str} {vs : List V}, DpAll K H vs (ys.map PyData.str) → vs = ys.map V.str
  | [], _, .nil => rfl
  | y :: r, _, .cons a t => by
    rw [Dp.strI a, DpAll.strsI t]
    rfl
theorem DpAll.intsI : ∀ {ys : List Int} {vs : List V}, DpAll K H vs (ys.map PyData.int) → vs = ys.map V.int
  | [], _, .nil => rfl
  | y :: r, _, .cons a t => by
    rw [Dp.intI a, DpAll.intsI t]
    rfl
theorem DpAll.blsI : ∀ {ys : List Bool} {vs : List V}, DpAll K H vs (ys.map PyData.bool) → vs = ys.map V.bl
  | [], _, .nil => rfl
  | y :: r, _, .cons a t => by
    rw [Dp.blI a, DpAll.blsI t]
    rfl
end

/-! ### slots by data -/
inductive Sl where
  | no | arg (d : PyData) | dat (d : PyData) | own (ds : List PyData)
abbrev Ga := List Sl
structure StD (K : PySem.W.Frag) (H0 H : Hp) (σ : L2.St) (Γ : Ga) : Prop where
  len : σ.length = Γ.length
  sm : Same H0 H
  arg : ∀ (i : Nat) (d : PyData), Γ[i]? = some (.arg d) → ∃ v, σ[i]? = some (some v) ∧ Dp K H0 v d
  dat : ∀ (i : Nat) (d : PyData), Γ[i]? = some (.dat d) → ∃ v, σ[i]? = some (some v) ∧ Dp K H v d
  own : ∀ (i : Nat) (ds : List PyData), Γ[i]? = some (.own ds) → ∃ (p : Addr) (xs : List V), σ[i]? = some (some (.ref p)) ∧ H0 p = none ∧ H p = some (.lst xs) ∧ DpAll K H xs ds ∧ ∀ d ∈ ds, LF d
  apart : ∀ (i j : Nat) (ds es : List PyData), Γ[i]? = some (.own ds) → Γ[j]? = some (.own es) → i ≠ j → σ[i]? ≠ σ[j]?
section
variable {K : PySem.W.Frag} {H0 H H' : Hp} {σ : L2.St} {Γ : Ga}
theorem StD.same (S : StD K H0 H σ Γ) (e : Same H H') : StD K H0 H' σ Γ where
  len := S.len
  sm := S.sm.trans e
  arg := S.arg
  dat := fun i d h => let ⟨v, a, b⟩ := S.dat i d h; ⟨v, a, Dp.same e b⟩
  own := fun i ds h => let ⟨p, xs, a, b, c, d, l⟩ := S.own i ds h; ⟨p, xs, a, b, e _ _ c, DpAll.same e d, l⟩
  apart := S.apart
theorem StD.lt (S : StD K H0 H σ Γ) {i : Nat} {s : Sl} (h : Γ[i]? = some s) : i < σ.length := by
  rw [S.len]
  exact (List.getElem?_eq_some_iff.mp h).1
theorem set_get {α : Type} {l : List α} {i j : Nat} {x y : α} (h : (l.set i x)[j]? = some y) : (j = i ∧ y = x) ∨ (j ≠ i ∧ l[j]? = some y) := by
  by_cases e : j = i
  · subst e
    by_cases hl : j < l.length
    · rw [List.getElem?_set_self hl] at h
      exact .inl ⟨rfl, (Option.some.inj h).symm⟩
    · rw [List.getElem?_eq_none (by simpa using hl)] at h
      cases h
  · rw [List.getElem?_set_ne (Ne.symm e)] at h
    exact .inr ⟨e, h⟩
/-- a slot set to data -/
theorem StD.setD (S : StD K H0 H σ Γ) {i : Nat} {v : V} {d : PyData} (hv : Dp K H v d) : StD K H0 H (σ.set i (some v)) (Γ.set i (.dat d)) where
  len := by rw [List.length_set, List.length_set, S.len]
  sm := S.sm
  arg := fun j e h => by
    rcases set_get h with ⟨_, h⟩ | ⟨n, h⟩
    · cases h
    · rw [List.getElem?_set_ne (Ne.symm n)]
      exact S.arg j e h
  dat := fun j e h => by
    rcases set_get h with ⟨rfl, h2⟩ | ⟨n, h⟩
    · cases h2
      have hl : j < Γ.length := by
        have := (List.getElem?_eq_some_iff.mp h).1
        simpa using this
      exact ⟨v, List.getElem?_set_self (by rw [S.len]; exact hl), hv⟩
    · rw [List.getElem?_set_ne (Ne.symm n)]
      exact S.dat j e h
  own := fun j e h => by
    rcases set_get h with ⟨_, h⟩ | ⟨n, h⟩
    · cases h
    · rw [List.getElem?_set_ne (Ne.symm n)]
      exact S.own j e h
  apart := fun j k ds es h1 h2 n => by
    rcases set_get h1 with ⟨_, h⟩ | ⟨n1, h1⟩
    · cases h
    · rcases set_get h2 with ⟨_, h⟩ | ⟨n2, h2⟩
      · cases h
      · rw [List.getElem?_set_ne (Ne.symm n1), List.getElem?_set_ne (Ne.symm n2)]
        exact S.apart j k ds es h1 h2 n
/-- a slot set to a new list -/
theorem StD.setO (S : StD K H0 H σ Γ) {i : Nat} {p : Addr} {xs : List V} {ds : List PyData} (e : Same H H') (hp : H p = none) (hq : H' p = some (.lst xs)) (hd : DpAll K H' xs ds) (hl : ∀ d ∈ ds, LF d) :
    StD K H0 H' (σ.set i (some (.ref p))) (Γ.set i (.own ds)) := by
  have S' := S.same e
  have e0 := S.sm
  refine ⟨by rw [List.length_set, List.length_set, S.len], S'.sm, fun j e h => ?_, fun j e h => ?_, fun j e h => ?_, fun j k d1 d2 h1 h2 n => ?_⟩
  · rcases set_get h with ⟨_, h⟩ | ⟨n, h⟩
    · cases h
    · rw [List.getElem?_set_ne (Ne.symm n)]
      exact S'.arg j e h
  · rcases set_get h with ⟨_, h⟩ | ⟨n, h⟩
    · cases h
    · rw [List.getElem?_set_ne (Ne.symm n)]
      exact S'.dat j e h
  · rcases set_get h with ⟨rfl, h2⟩ | ⟨n, h⟩
    · cases h2
      have hl' : j < Γ.length := by
        have := (List.getElem?_eq_some_iff.mp h).1
        simpa using this
      exact ⟨p, xs, List.getElem?_set_self (by rw [S.len]; exact hl'), e0.free hp, hq, hd, hl⟩
    · rw [List.getElem?_set_ne (Ne.symm n)]
      exact S'.own j e h
  · have key : ∀ {j : Nat} {es : List PyData}, Γ[j]? = some (.own es) → σ[j]? ≠ some (some (V.ref p)) := fun {j es} h z => by
      obtain ⟨q, ys, a, _, c, _⟩ := S.own j es h
      rw [a] at z
      have z2 : q = p := V.ref.inj (Option.some.inj (Option.some.inj z))
      rw [z2, hp] at c
      cases c
    have lt : ∀ {j : Nat} {s : Sl}, (Γ.set i (.own ds))[j]? = some s → j < σ.length := fun {j s} h => by
      have := (List.getElem?_eq_some_iff.mp h).1
      rw [S.len]
      simpa using this
    rcases set_get h1 with ⟨e1, h1'⟩ | ⟨n1, h1'⟩
    · rcases set_get h2 with ⟨e2, h2'⟩ | ⟨n2, h2'⟩
      · exact absurd (e1.trans e2.symm) n
      · subst e1
        rw [List.getElem?_set_self (lt h1), List.getElem?_set_ne (Ne.symm n2)]
        exact fun z => key h2' z.symm
    · rcases set_get h2 with ⟨e2, h2'⟩ | ⟨n2, h2'⟩
      · subst e2
        rw [List.getElem?_set_self (lt h2), List.getElem?_set_ne (Ne.symm n1)]
        exact key h1'
      · rw [List.getElem?_set_ne (Ne.symm n1), List.getElem?_set_ne (Ne.symm n2)]
        exact S.apart j k d1 d2 h1' h2' n
/-- what survives a change of a list -/
def SlOk : Sl → Prop
  | .dat d => LF d
  | _ => True
/-- forgetting -/
theorem StD.weak {Γ' : Ga} (S : StD K H0 H σ Γ) (hl : Γ'.length = Γ.length) (h : ∀ (j : Nat) (s : Sl), Γ'[j]? = some s → s ≠ .no → Γ[j]? = some s) : StD K H0 H σ Γ' where
  len := S.len.trans hl.symm
  sm := S.sm
  arg := fun j d e => S.arg j d (h j _ e (fun z => by cases z))
  dat := fun j d e => S.dat j d (h j _ e (fun z => by cases z))
  own := fun j d e => S.own j d (h j _ e (fun z => by cases z))
  apart := fun j k d1 d2 e1 e2 n => S.apart j k d1 d2 (h j _ e1 (fun z => by cases z)) (h k _ e2 (fun z => by cases z)) n
/-- a list of ours grows -/
theorem StD.grow (S : StD K H0 H σ Γ) {i : Nat} {ds : List PyData} (hi : Γ[i]? = some (.own ds)) (hok : ∀ (j : Nat) (s : Sl), Γ[j]? = some s → SlOk s) {v : V} {d : PyData} (hv : Dp K H v d) (hd : LF d) :
    ∃ p xs, σ[i]? = some (some (.ref p)) ∧ H p = some (.lst xs) ∧ H0 p = none ∧ xs.length = ds.length ∧ StD K H0 (upd H p (.lst (xs ++ [v]))) σ (Γ.set i (.own (ds ++ [d]))) := by
  obtain ⟨p, xs, a, b, c, e, l⟩ := S.own i ds hi
  have ts : TStay H (upd H p (.lst (xs ++ [v]))) := TStay.mut c
  refine ⟨p, xs, a, c, b, DpAll.length e, by rw [List.length_set]; exact S.len, Same.mut S.sm b, fun j f h => ?_, fun j f h => ?_, fun j f h => ?_, fun j k d1 d2 h1 h2 n => ?_⟩
  · rcases set_get h with ⟨_, h⟩ | ⟨n, h⟩
    · cases h
    · exact S.arg j f h
  · rcases set_get h with ⟨_, h⟩ | ⟨n, h⟩
    · cases h
    · obtain ⟨w, q1, q2⟩ := S.dat j f h
      exact ⟨w, q1, Dp.stay ts q2 (hok j _ h)⟩
  · rcases set_get h with ⟨e1, h2⟩ | ⟨n, h⟩
    · subst e1
      cases h2
      refine ⟨p, _, a, b, upd_same, DpAll.append (DpAll.stay ts e l) (.cons (Dp.stay ts hv hd) .nil), fun z hz => ?_⟩
      rcases List.mem_append.mp hz with hz | hz
      · exact l z hz
      · rw [List.mem_singleton.mp hz]
        exact hd
    · obtain ⟨q, ys, q1, q2, q3, q4, q5⟩ := S.own j f h
      have nq : q ≠ p := fun z => S.apart i j _ _ hi h (Ne.symm n) (by rw [a, q1, z])
      exact ⟨q, ys, q1, q2, by rw [upd_ne nq]; exact q3, DpAll.stay ts q4 q5, q5⟩
  · have one : ∀ {j : Nat} {es : List PyData}, (Γ.set i (.own (ds ++ [d])))[j]? = some (.own es) → ∃ es', Γ[j]? = some (.own es') := fun {j es} h => by
      rcases set_get h with ⟨e1, _⟩ | ⟨_, h⟩
      · exact ⟨ds, by rw [e1]; exact hi⟩
      · exact ⟨es, h⟩
    obtain ⟨a1, g1⟩ := one h1
    obtain ⟨a2, g2⟩ := one h2
    exact S.apart j k a1 a2 g1 g2 n
end

/-! ### what evaluates to what data -/
def EvG (K : PySem.W.Frag) (te : TE) (Γ : Ga) (d : PyData) : Prop := ∀ (H0 : Hp) (σ : L2.St) (H : Hp), StD K H0 H σ Γ → ∀ Q : VK, (∀ v H2, Same H H2 → Dp K H2 v d → Q v H2) → te σ H Q
/-- a new list -/
def EvF (K : PySem.W.Frag) (te : TE) (Γ : Ga) (ds : List PyData) : Prop := ∀ (H0 : Hp) (σ : L2.St) (H : Hp), StD K H0 H σ Γ → ∀ Q : VK, (∀ p xs H2, H p = none → Same H H2 → H2 p = some (.lst xs) → DpAll K H2 xs ds → Q (.ref p) H2) → te σ H Q
def EvB (K : PySem.W.Frag) (tt : TT) (Γ : Ga) (b : Bool) : Prop := ∀ (H0 : Hp) (σ : L2.St) (H : Hp), StD K H0 H σ Γ → ∀ Q : Bool → Hp → Prop, (∀ H2, Same H H2 → Q b H2) → tt σ H Q
def EvA (K : PySem.W.Frag) (ta : TA) (Γ : Ga) (ds : List PyData) : Prop := ∀ (H0 : Hp) (σ : L2.St) (H : Hp), StD K H0 H σ Γ → ∀ Q : List V → Hp → Prop, (∀ vs H2, Same H H2 → DpAll K H2 vs ds → Q vs H2) → ta σ H Q
def EvO (K : PySem.W.Frag) (to : TO) (Γ : Ga) (o : Option Int) : Prop := ∀ (H0 : Hp) (σ : L2.St) (H : Hp), StD K H0 H σ Γ → ∀ Q : Option Int → Hp → Prop, (∀ H2, Same H H2 → Q o H2) → to σ H Q
/-- on values -/
def OpV (K : PySem.W.Frag) (r : R2) (d e z : PyData) : Prop := ∀ (H : Hp) (x y : V), Dp K H x d → Dp K H y e → ∀ Q : VK, (∀ v H2, Same H H2 → Dp K H2 v z → Q v H2) → r x y H Q
def CbV (K : PySem.W.Frag) (r : List V → Hp → VK → Prop) (ds : List PyData) (z : PyData) : Prop := ∀ (H : Hp) (vs : List V), DpAll K H vs ds → ∀ Q : VK, (∀ v H2, Same H H2 → Dp K H2 v z → Q v H2) → r vs H Q
/-- a promise over data -/
def spP (K : PySem.W.Frag) (n : Nat) (R : List PyData → PyData → Prop) : Sp := fun vs H Q _ => ∃ ds d, DpAll K H vs ds ∧ ds.length = n ∧ R ds d ∧ ∀ v H', Same H H' → Dp K H' v d → Q v H'
theorem spP_len {K : PySem.W.Frag} {n : Nat} {R : List PyData → PyData → Prop} {vs : List V} {H : Hp} {Q : VK} {E : XK} (h : spP K n R vs H Q E) : vs.length = n := by
  obtain ⟨ds, d, h1, h2, _⟩ := h
  rw [DpAll.length h1, h2]
section
variable {K : PySem.W.Frag} {Γ : Ga} {ta tb te tl : TE} {d e z : PyData} {ds es : List PyData} {t u : TT} {a b : Bool} {r : R2} {tA tR : TA}
theorem ev_var {i : Nat} (h : Γ[i]? = some (.dat d)) : EvG K (tVar i) Γ d := fun H0 σ H S Q q => let ⟨v, h1, h2⟩ := S.dat i d h; ⟨v, h1, q v H (Same.refl H) h2⟩
theorem ev_arg {i : Nat} (h : Γ[i]? = some (.arg d)) : EvG K (tVar i) Γ d := fun H0 σ H S Q q => let ⟨v, h1, h2⟩ := S.arg i d h; ⟨v, h1, q v H (Same.refl H) (Dp.same S.sm h2)⟩
theorem ev_own {i : Nat} (h : Γ[i]? = some (.own ds)) : EvG K (tVar i) Γ (.list ds) := fun H0 σ H S Q q => let ⟨p, xs, h1, _, h3, h4, _⟩ := S.own i ds h; ⟨.ref p, h1, q _ H (Same.refl H) (.lst (SqL.of h3) h4)⟩
theorem ev_int {i : Int} : EvG K (tC (.int i)) Γ (.int i) := fun H0 σ H S Q q => q _ H (Same.refl H) (.int i)
theorem ev_str {x : Str} : EvG K (tC (.str x)) Γ (.str x) := fun H0 σ H S Q q => q _ H (Same.refl H) (.str x)
theorem ev_bl {x : Bool} : EvG K (tC (.bl x)) Γ (.bool x) := fun H0 σ H S Q q => q _ H (Same.refl H) (.bl x)
theorem ev_non : EvG K (tC .non) Γ .none := fun H0 σ H S Q q => q _ H (Same.refl H) .non
theorem ev_fresh (h : EvF K te Γ ds) : EvG K te Γ (.list ds) := fun H0 σ H S Q q => h H0 σ H S Q fun p xs H2 _ sm e dp => q _ H2 sm (.lst (SqL.of e) dp)
theorem ev_is (h : EvG K te Γ d) (e : d = z) : EvG K te Γ z := e ▸ h
theorem evb_is (h : EvB K t Γ a) (e : a = b) : EvB K t Γ b := e ▸ h
theorem ev_op (ha : EvG K ta Γ d) (hb : EvG K tb Γ e) (hr : OpV K r d e z) : EvG K (tOp r ta tb) Γ z := fun H0 σ H S Q q =>
  ha H0 σ H S _ fun x H1 s1 hx => hb H0 σ H1 (S.same s1) _ fun y H2 s2 hy => hr H2 x y (Dp.same s2 hx) hy Q fun v H3 s3 hv => q v H3 ((s1.trans s2).trans s3) hv
theorem ev_un {ru : V → Hp → VK → Prop} (ha : EvG K ta Γ d) (hr : ∀ (H : Hp) (x : V), Dp K H x d → ∀ Q : VK, (∀ v H2, Same H H2 → Dp K H2 v z → Q v H2) → ru x H Q) : EvG K (tUn ru ta) Γ z := fun H0 σ H S Q q =>
  ha H0 σ H S _ fun x H1 s1 hx => hr H1 x hx Q fun v H3 s3 hv => q v H3 (s1.trans s3) hv
theorem ev_neg {i : Int} (ha : EvG K ta Γ (.int i)) : EvG K (tUn (rU fun i => .int (-i)) ta) Γ (.int (-i)) := ev_un ha fun H x hx Q q => ⟨i, hx.intI, q _ H (Same.refl H) (.int _)⟩
theorem eva_nil : EvA K tNil Γ [] := fun H0 σ H S Q q => q [] H (Same.refl H) .nil
theorem eva_cons (h : EvG K te Γ d) (hr : EvA K tA Γ ds) : EvA K (tCons te tA) Γ (d :: ds) := fun H0 σ H S Q q =>
  h H0 σ H S _ fun x H1 s1 hx => hr H0 σ H1 (S.same s1) _ fun xs H2 s2 hxs => q _ H2 (s1.trans s2) (.cons (Dp.same s2 hx) hxs)
theorem eva_1 (h : EvG K te Γ d) : EvA K (tCons te tNil) Γ [d] := eva_cons h eva_nil
theorem eva_2 (h : EvG K ta Γ d) (h2 : EvG K tb Γ e) : EvA K (tCons ta (tCons tb tNil)) Γ [d, e] := eva_cons h (eva_1 h2)
theorem evo_none : EvO K tNoPart Γ none := fun H0 σ H S Q q => q H (Same.refl H)
theorem evo_some {i : Int} (h : EvG K te Γ (.int i)) : EvO K (tPart te) Γ (some i) := fun H0 σ H S Q q => h H0 σ H S _ fun v H2 sm hv => ⟨i, hv.intI, q H2 sm⟩
theorem small_line {n : Nat} (h : n ≤ 1000000) : n ≤ sizeLine := Nat.le_trans h (by decide)
theorem ev_tup (h : EvA K tA Γ ds) (hl : ds.length ≤ 1000000) : EvG K (tTup tA) Γ (.tuple ds) := fun H0 σ H S Q q =>
  h H0 σ H S _ fun vs H1 s1 hv => ⟨small_line (by rw [DpAll.length hv]; exact hl), fun p hp => q _ _ (s1.trans (Same.new hp)) (.tup (SqT.of upd_same) (DpAll.same (Same.new hp) hv))⟩
theorem ev_tup1 (h : EvG K ta Γ d) : EvG K (tTup (tCons ta tNil)) Γ (.tuple [d]) := ev_tup (eva_1 h) (by simp)
theorem ev_tup2 (h : EvG K ta Γ d) (h2 : EvG K tb Γ e) : EvG K (tTup (tCons ta (tCons tb tNil))) Γ (.tuple [d, e]) := ev_tup (eva_2 h h2) (by simp)
theorem evf_lst (h : EvA K tA Γ ds) (hl : ds.length ≤ 1000000) : EvF K (tLst tA) Γ ds := fun H0 σ H S Q q =>
  h H0 σ H S _ fun vs H1 s1 hv => ⟨small_line (by rw [DpAll.length hv]; exact hl), fun p hp => q p vs _ (Same.free s1 hp) (s1.trans (Same.new hp)) upd_same (DpAll.same (Same.new hp) hv)⟩
theorem ev_lst0 : EvG K (tLst tNil) Γ (.list []) := ev_fresh (evf_lst eva_nil (by simp))
theorem ev_lst1 (h : EvG K ta Γ d) : EvG K (tLst (tCons ta tNil)) Γ (.list [d]) := ev_fresh (evf_lst (eva_1 h) (by simp))
theorem ev_if (h : EvB K t Γ b) (h1 : b = true → EvG K ta Γ d) (h2 : b = false → EvG K tb Γ d) : EvG K (tIf t ta tb) Γ d := fun H0 σ H S Q q => h H0 σ H S _ fun H1 s1 => by
  cases b with
  | true => exact h1 rfl H0 σ H1 (S.same s1) Q fun v H2 s2 hv => q v H2 (s1.trans s2) hv
  | false => exact h2 rfl H0 σ H1 (S.same s1) Q fun v H2 s2 hv => q v H2 (s1.trans s2) hv
theorem evb_test (h : EvG K te Γ (.bool b)) : EvB K (tTest te) Γ b := fun H0 σ H S Q q => h H0 σ H S _ fun v H2 sm hv => ⟨b, hv.blI, q H2 sm⟩
theorem evb_val (h : EvG K te Γ (.bool b)) : EvB K (tB te) Γ b := fun H0 σ H S Q q => h H0 σ H S _ fun v H2 sm hv => ⟨b, hv.blI, q H2 sm⟩
theorem evb_and (h1 : EvB K t Γ a) (h2 : a = true → EvB K u Γ b) : EvB K (tAnd t u) Γ (a && b) := fun H0 σ H S Q q => h1 H0 σ H S _ fun H1 s1 => by
  cases a with
  | true => exact h2 rfl H0 σ H1 (S.same s1) Q fun H2 s2 => q H2 (s1.trans s2)
  | false => exact q H1 s1
theorem evb_or (h1 : EvB K t Γ a) (h2 : a = false → EvB K u Γ b) : EvB K (tOr t u) Γ (a || b) := fun H0 σ H S Q q => h1 H0 σ H S _ fun H1 s1 => by
  cases a with
  | false => exact h2 rfl H0 σ H1 (S.same s1) Q fun H2 s2 => q H2 (s1.trans s2)
  | true => exact q H1 s1
theorem evb_not (h1 : EvB K t Γ a) : EvB K (tNot t) Γ (!a) := fun H0 σ H S Q q => h1 H0 σ H S _ fun H1 s1 => q H1 s1
theorem ev_andV (h1 : EvG K ta Γ (.bool a)) (h2 : a = true → EvG K tb Γ (.bool b)) : EvG K (tAndV ta tb) Γ (.bool (a && b)) := fun H0 σ H S Q q => h1 H0 σ H S _ fun v H1 s1 hv => ⟨a, hv.blI, by
  cases a with
  | true => exact h2 rfl H0 σ H1 (S.same s1) Q fun v H2 s2 => q v H2 (s1.trans s2)
  | false => exact q _ H1 s1 (.bl false)⟩
theorem ev_orV (h1 : EvG K ta Γ (.bool a)) (h2 : a = false → EvG K tb Γ (.bool b)) : EvG K (tOrV ta tb) Γ (.bool (a || b)) := fun H0 σ H S Q q => h1 H0 σ H S _ fun v H1 s1 hv => ⟨a, hv.blI, by
  cases a with
  | false => exact h2 rfl H0 σ H1 (S.same s1) Q fun v H2 s2 => q v H2 (s1.trans s2)
  | true => exact q _ H1 s1 (.bl true)⟩
theorem ev_notV (h1 : EvG K ta Γ (.bool a)) : EvG K (tNotV ta) Γ (.bool (!a)) := fun H0 σ H S Q q => h1 H0 σ H S _ fun v H1 s1 hv => ⟨a, hv.blI, q _ H1 s1 (.bl _)⟩
theorem ev_cb {rc : List V → Hp → VK → Prop} (h : EvA K tA Γ ds) (hr : CbV K rc ds z) : EvG K (tCB rc tA) Γ z := fun H0 σ H S Q q =>
  h H0 σ H S _ fun vs H1 s1 hv => hr H1 vs hv Q fun v H2 s2 hz => q v H2 (s1.trans s2) hz
theorem ev_call {n : Nat} {R : List PyData → PyData → Prop} {E : XK} (h : EvA K tA Γ ds) (hn : ds.length = n) (hR : R ds z) : EvG K (tCall (spP K n R) [] E tA) Γ z := fun H0 σ H S Q q =>
  h H0 σ H S _ fun vs H1 s1 hv => by
    show spP K n R (vs ++ []) H1 Q E
    rw [List.append_nil]
    exact ⟨ds, z, hv, hn, hR, fun v H2 s2 hz => q v H2 (s1.trans s2) hz⟩
/-- two comparisons in a row -/
theorem ev_chain {r2 : R2} {tc : TE} {f : PyData} (ha : EvG K ta Γ d) (hb : EvG K tb Γ e) (hr : OpV K r d e (.bool a)) (hc : a = true → EvG K tc Γ f) (hr2 : a = true → OpV K r2 e f (.bool b)) : EvG K (tChain r r2 ta tb tc) Γ (.bool (a && b)) := fun H0 σ H S Q q =>
  ha H0 σ H S _ fun x H1 s1 hx => hb H0 σ H1 (S.same s1) _ fun y H2 s2 hy => hr H2 x y (Dp.same s2 hx) hy _ fun v H3 s3 hv => ⟨a, hv.blI, by
    have s12 := (s1.trans s2).trans s3
    cases a with
    | true => exact hc rfl H0 σ H3 (S.same s12) _ fun w H4 s4 hw => hr2 rfl H4 y w (Dp.same (s3.trans s4) hy) hw Q fun v H5 s5 hv => q v H5 ((s12.trans s4).trans s5) hv
    | false => exact q _ H3 s12 (.bl false)⟩
/-! operators on data -/
theorem opv_I0 {g : Int → Int → Int} {i j : Int} : OpV K (rI0 fun i j => .int (g i j)) (.int i) (.int j) (.int (g i j)) := fun H x y hx hy Q q => ⟨i, j, hx.intI, hy.intI, q _ H (Same.refl H) (.int _)⟩
theorem opv_B0 {g : Int → Int → Bool} {i j : Int} : OpV K (rI0 fun i j => .bl (g i j)) (.int i) (.int j) (.bool (g i j)) := fun H x y hx hy Q q => ⟨i, j, hx.intI, hy.intI, q _ H (Same.refl H) (.bl _)⟩
theorem opv_I {C : Int → Int → Prop} {g : Int → Int → Int} {i j : Int} (hc : C i j) : OpV K (rI C fun i j => .int (g i j)) (.int i) (.int j) (.int (g i j)) := fun H x y hx hy Q q => ⟨i, j, hx.intI, hy.intI, hc, q _ H (Same.refl H) (.int _)⟩
theorem opv_eq (hd : SeqAt.shaped d = true) (he : SeqAt.shaped e = true) : OpV K (rEqD K) d e (.bool (PyData.eqv d e)) := fun H x y hx hy Q q => ⟨d, e, hx, hy, hd, he, q _ H (Same.refl H) (.bl _)⟩
theorem opv_ne (hd : SeqAt.shaped d = true) (he : SeqAt.shaped e = true) : OpV K (rNeD K) d e (.bool (!PyData.eqv d e)) := fun H x y hx hy Q q => ⟨d, e, hx, hy, hd, he, q _ H (Same.refl H) (.bl _)⟩
theorem opv_inD (hd : SeqAt.shaped d = true) (he : SeqAt.shaped (.list ds) = true) : OpV K (rInD K) d (.list ds) (.bool (ds.any fun z => PyData.eqv z d)) := fun H x y hx hy Q q => ⟨d, ds, hx, hy, hd, he, q _ H (Same.refl H) (.bl _)⟩
theorem opv_inS {c : Nat} {x : Str} : OpV K rInS (.str ⟨#[c]⟩) (.str x) (.bool (decide (c ∈ x.cps.toList))) := fun H _ _ hx hy Q q => ⟨c, x, hx.strI, hy.strI, q _ H (Same.refl H) (.bl _)⟩
theorem opv_isN : OpV K rIsN d .none (.bool (match d with | .none => true | _ => false)) := fun H x y hx hy Q q => ⟨hy.nonI, q _ H (Same.refl H) (by
  cases hx <;> exact .bl _)⟩
theorem opv_notN : OpV K rNotN d .none (.bool (match d with | .none => false | _ => true)) := fun H x y hx hy Q q => ⟨hy.nonI, q _ H (Same.refl H) (by
  cases hx <;> exact .bl _)⟩
def rAddS : R2 := fun x y H Q => ∃ i j, x = .str i ∧ y = .str j ∧ i.length + j.length ≤ sizeLine ∧ Q (.str (i ++ j)) H
theorem op_addS {X : Cx} : OpR X (binaryOp .Add) rAddS := op_add_str
theorem opv_addS {x y : Str} (h : x.length + y.length ≤ 1000000) : OpV K rAddS (.str x) (.str y) (.str (x ++ y)) := fun H _ _ hx hy Q q => ⟨x, y, hx.strI, hy.strI, small_line h, q _ H (Same.refl H) (.str _)⟩
theorem opv_ixT {i : Nat} (h : ds[i]? = some d) : OpV K (rIxT K) (.tuple ds) (.int (i : Nat)) d := fun H x y hx hy Q q => by
  obtain ⟨a, xs, rfl, hs, ha⟩ := hx.tupI
  obtain ⟨v, hv, dv⟩ := DpAll.get ha h
  exact ⟨a, xs, _, v, rfl, hy.intI, hs, atI_nat hv, q v H (Same.refl H) dv⟩
theorem opv_ixL {i : Nat} (h : ds[i]? = some d) : OpV K (rIxL K) (.list ds) (.int (i : Nat)) d := fun H x y hx hy Q q => by
  obtain ⟨a, xs, rfl, hs, ha⟩ := hx.lstI
  obtain ⟨v, hv, dv⟩ := DpAll.get ha h
  exact ⟨a, xs, _, v, rfl, hy.intI, hs, atI_nat hv, q v H (Same.refl H) dv⟩
theorem opv_ixS {i : Nat} {x : Str} {c : Nat} (hl : x.length ≤ 1000000) (h : x.cps.toList[i]? = some c) : OpV K rIxS (.str x) (.int (i : Nat)) (.str ⟨#[c]⟩) := fun H _ _ hx hy Q q =>
  ⟨x, _, c, hx.strI, hy.intI, small_line hl, atI_nat h, q _ H (Same.refl H) (.str _)⟩
/-! slices -/
theorem ev_slS {tl th : TO} {x : Str} {lo hi : Option Int} (h : EvG K te Γ (.str x)) (h1 : EvO K tl Γ lo) (h2 : EvO K th Γ hi) (hl : x.length ≤ 1000000) : EvG K (tSl rSlS te tl th) Γ (.str (cutS x lo hi)) := fun H0 σ H S Q q =>
  h H0 σ H S _ fun v H1 s1 hv => h1 H0 σ H1 (S.same s1) _ fun H2 s2 => h2 H0 σ H2 (S.same (s1.trans s2)) _ fun H3 s3 => ⟨x, hv.strI, small_line hl, q _ H3 ((s1.trans s2).trans s3) (.str _)⟩
def cutD (ds : List PyData) (lo hi : Option Int) : List PyData := (ds.drop (HT.sIx ds.length 0 lo)).take (HT.sIx ds.length ds.length hi - HT.sIx ds.length 0 lo)
theorem DpAll.cut {H : Hp} {xs : List V} (lo hi : Option Int) (h : DpAll K H xs ds) : DpAll K H (cutV xs lo hi) (cutD ds lo hi) := by
  unfold cutV cutD
  rw [DpAll.length h]
  exact DpAll.take _ (DpAll.drop _ h)
theorem evf_slL {tl th : TO} {lo hi : Option Int} (h : EvG K te Γ (.list ds)) (h1 : EvO K tl Γ lo) (h2 : EvO K th Γ hi) : EvF K (tSl (rSlL K) te tl th) Γ (cutD ds lo hi) := fun H0 σ H S Q q =>
  h H0 σ H S _ fun v H1 s1 hv => h1 H0 σ H1 (S.same s1) _ fun H2 s2 => h2 H0 σ H2 (S.same (s1.trans s2)) _ fun H3 s3 => by
    obtain ⟨a, xs, rfl, hs, ha⟩ := (Dp.same (s2.trans s3) hv).lstI
    have s123 := (s1.trans s2).trans s3
    exact ⟨a, xs, rfl, hs, fun p hp => q p _ _ (Same.free s123 hp) (s123.trans (Same.new hp)) upd_same (DpAll.same (Same.new hp) (DpAll.cut lo hi ha))⟩
end
/-! ### statements -/
def Nx (K : PySem.W.Frag) (H0 : Hp) (D : Ends) (Γ : Ga) : Prop := ∀ (σ : L2.St) (H : Hp), StD K H0 H σ Γ → D.nx σ H
def Rt (K : PySem.W.Frag) (H0 : Hp) (D : Ends) (d : PyData) : Prop := ∀ v H, Same H0 H → Dp K H v d → D.rt v H
def Go (K : PySem.W.Frag) (H0 : Hp) (t : TS) (Γ : Ga) (D : Ends) : Prop := ∀ (σ : L2.St) (H : Hp), StD K H0 H σ Γ → t D σ H
section
variable {K : PySem.W.Frag} {H0 : Hp} {Γ Γ' : Ga} {te ta tb : TE} {d e : PyData} {ds : List PyData} {t : TT} {b : Bool} {D : Ends} {t1 t2 : TS}
theorem go_seq (h : Go K H0 t1 Γ { D with nx := t2 D }) : Go K H0 (tSeq t1 t2) Γ D := fun σ H S => h σ H S
theorem go_ret (h : EvG K te Γ d) (q : Rt K H0 D d) : Go K H0 (tRet te) Γ D := fun σ H S => h H0 σ H S _ fun v H2 sm hv => q v H2 (S.sm.trans sm) hv
theorem go_next (h : Nx K H0 D Γ) : Go K H0 tNext Γ D := fun σ H S => h σ H S
theorem go_set {i : Nat} (h : EvG K te Γ d) (q : Nx K H0 D (Γ.set i (.dat d))) : Go K H0 (tAsg te (gName i)) Γ D := fun σ H S => h H0 σ H S _ fun v H2 sm hv => q _ H2 ((S.same sm).setD hv)
theorem go_new {i : Nat} (h : EvF K te Γ ds) (hl : ∀ d ∈ ds, LF d) (q : Nx K H0 D (Γ.set i (.own ds))) : Go K H0 (tAsg te (gName i)) Γ D := fun σ H S => h H0 σ H S _ fun p xs H2 hp sm hq hd => q _ H2 (S.setO sm hp hq hd hl)
theorem go_if (h : EvB K t Γ b) (h1 : b = true → Go K H0 t1 Γ D) (h2 : b = false → Go K H0 t2 Γ D) : Go K H0 (tIfS t t1 t2) Γ D := fun σ H S => h H0 σ H S _ fun H1 s1 => by
  cases b with
  | true => exact h1 rfl σ H1 (S.same s1)
  | false => exact h2 rfl σ H1 (S.same s1)
theorem go_weak {t : TS} (h : Go K H0 t Γ' D) (hl : Γ'.length = Γ.length) (hw : ∀ (j : Nat) (s : Sl), Γ'[j]? = some s → s ≠ .no → Γ[j]? = some s) : Go K H0 t Γ D := fun σ H S => h σ H (S.weak hl hw)
theorem nx_weak (h : Nx K H0 D Γ') (hl : Γ'.length = Γ.length) (hw : ∀ (j : Nat) (s : Sl), Γ'[j]? = some s → s ≠ .no → Γ[j]? = some s) : Nx K H0 D Γ := fun σ H S => h σ H (S.weak hl hw)
/-- a, b = e -/
theorem go_unp2 {i j : Nat} (h : EvG K te Γ (.tuple [d, e])) (q : Nx K H0 D ((Γ.set i (.dat d)).set j (.dat e))) : Go K H0 (tAsg te (gTup K 2 (gCons (gName i) (gCons (gName j) gNil)))) Γ D := fun σ H S => h H0 σ H S _ fun v H2 sm hv => by
  obtain ⟨a, xs, rfl, hs, ha⟩ := hv.tupI
  cases ha with
  | cons h1 hr =>
    cases hr with
    | cons h2 hr =>
      cases hr
      exact ⟨a, _, rfl, hs, rfl, _, _, rfl, _, _, rfl, rfl, q _ H2 (((S.same sm).setD h1).setD h2)⟩
/-- a, b = x, y, both data -/
theorem go_par {i j : Nat} {tA : TA} (h : EvA K tA Γ [d, e]) (q : Nx K H0 D ((Γ.set i (.dat d)).set j (.dat e))) : Go K H0 (tPar i j tA) Γ D := fun σ H S => h H0 σ H S _ fun vs H2 sm hv => by
  cases hv with
  | cons h1 hr =>
    cases hr with
    | cons h2 hr =>
      cases hr
      exact ⟨_, _, rfl, q _ H2 (((S.same sm).setD h1).setD h2)⟩
/-- x.append(e) -/
def tApp (K : PySem.W.Frag) (i : Nat) (te : TE) : TS := tDrop (tBM K "list" rAppend (tVar i) (tCons te tNil))
theorem go_app {i : Nat} (hi : Γ[i]? = some (.own ds)) (h : EvG K te Γ d) (hd : LF d) (hok : ∀ (j : Nat) (s : Sl), Γ[j]? = some s → SlOk s) (hz : ds.length ≤ 100000) (q : Nx K H0 D (Γ.set i (.own (ds ++ [d])))) : Go K H0 (tApp K i te) Γ D := fun σ H S => by
  obtain ⟨p0, xs0, e1, _, e3, _, _⟩ := S.own i ds hi
  refine ⟨.ref p0, e1, .inl ⟨rfl, _, SqL.of e3⟩, ?_⟩
  refine h H0 σ H S _ fun v H2 sm hv => ?_
  obtain ⟨p, xs, f1, f2, f3, f4, S2⟩ := (S.same sm).grow hi hok hv hd
  have ep : p0 = p := by
    rw [e1] at f1
    exact V.ref.inj (Option.some.inj (Option.some.inj f1))
  subst ep
  exact ⟨p0, xs, v, rfl, rfl, f2, Nat.lt_of_le_of_lt (by rw [f4]; exact hz) (by decide), q σ _ S2⟩
end
/-! ### a def's entry -/
def slots (ds : List PyData) (n : Nat) : Ga := ds.map Sl.arg ++ List.replicate n .no
theorem start_std {K : PySem.W.Frag} {H : Hp} {vs : List V} {ds : List PyData} {N : List Str} {n : Nat} (h : DpAll K H vs ds) (hn : N.length = ds.length + n) : StD K H H (start N vs) (slots ds n) := by
  have hl := DpAll.length h
  refine ⟨?_, Same.refl H, fun i d e => ?_, fun i d e => ?_, fun i d e => ?_, fun i j d1 d2 e1 _ _ => ?_⟩
  · unfold L2.start slots
    simp only [List.length_append, List.length_map, List.length_replicate]
    omega
  · unfold slots at e
    by_cases hi : i < ds.length
    · rw [List.getElem?_append_left (by simpa using hi), List.getElem?_map] at e
      cases q : ds[i]? with
      | none => rw [q] at e; cases e
      | some d' =>
        rw [q] at e
        cases e
        obtain ⟨v, hv, dv⟩ := DpAll.get h q
        refine ⟨v, ?_, dv⟩
        unfold L2.start
        rw [List.getElem?_append_left (by simpa [hl] using hi), List.getElem?_map, hv]
        rfl
    · rw [List.getElem?_append_right (by simpa using hi), List.getElem?_replicate] at e
      split at e <;> cases e
  · unfold slots at e
    by_cases hi : i < ds.length
    · rw [List.getElem?_append_left (by simpa using hi), List.getElem?_map] at e
      cases q : ds[i]? with
      | none => rw [q] at e; cases e
      | some d' => rw [q] at e; cases e
    · rw [List.getElem?_append_right (by simpa using hi), List.getElem?_replicate] at e
      split at e <;> cases e
  · unfold slots at e
    by_cases hi : i < ds.length
    · rw [List.getElem?_append_left (by simpa using hi), List.getElem?_map] at e
      cases q : ds[i]? with
      | none => rw [q] at e; cases e
      | some d' => rw [q] at e; cases e
    · rw [List.getElem?_append_right (by simpa using hi), List.getElem?_replicate] at e
      split at e <;> cases e
  · unfold slots at e1
    by_cases hi : i < ds.length
    · rw [List.getElem?_append_left (by simpa using hi), List.getElem?_map] at e1
      cases q : ds[i]? with
      | none => rw [q] at e1; cases e1
      | some d' => rw [q] at e1; cases e1
    · rw [List.getElem?_append_right (by simpa using hi), List.getElem?_replicate] at e1
      split at e1 <;> cases e1
/-- a def's body, from what it does with data -/
theorem body_of {K : PySem.W.Frag} {n m : Nat} {R : List PyData → PyData → Prop} {t : TS} {N : List Str} (hN : N.length = n + m)
    (h : ∀ (ds : List PyData) (d : PyData), ds.length = n → R ds d → ∀ (H0 : Hp) (D : Ends), Rt K H0 D d → (d = .none → ∀ (σ : L2.St) (H : Hp), Same H0 H → D.nx σ H) → Go K H0 t (slots ds m) D)
    (vs : List V) (H : Hp) (Q : VK) (E : XK) (hs : spP K n R vs H Q E) : t { nx := fun _ H' => Q .non H', rt := Q } (start N vs) H := by
  obtain ⟨ds, d, h1, h2, h3, h4⟩ := hs
  exact h ds d h2 h3 H { nx := fun _ H' => Q .non H', rt := Q } h4 (fun e σ H' sm => h4 _ _ sm (e ▸ .non)) (start N vs) H (start_std h1 (by rw [hN, h2]))
/-! ### the defs of the text -/
def fdA (K : PySem.W.Frag) (f : Addr) : Option FuncData := match K.lookup f with
  | some ⟨_, _, .func fd, _⟩ => some fd
  | _ => none
/-- the def st of the top stands under its name -/
structure DefOk (K : PySem.W.Frag) (mg : Str → Option Value) (x : Str) (st : Stmt) (f : Addr) (fd : FuncData) : Prop where
  g : mg x = some (.ref f)
  f : FunD K x x (defArgs st) (defBody st) (defScope st) [] [] f fd
theorem DefOk.ok {P : Program} {w : World} {K : PySem.W.Frag} {mg : Str → Option Value} {base : Heap} {x : Str} {st : Stmt} {f : Addr} {fd : FuncData} {N ps : List Str} {k n m : Nat} {R : List PyData → PyData → Prop} (F : DefOk K mg x st f fd) (S : FnScope N ps (defScope st)) (hp : ps.length = n) (hN : N.length = n + m)
    (h : ∀ (cdv : Value) (A : Around) (outer : List Env) (s : Shared) (H : Hp) (E : XK), Room k (A.deeper (envOfC x (defScope st) s.heap.objs.size f cdv)) → ∃ t, PSs (cxOf CX0 P w K mg base N x (defScope st) f cdv A outer s H E).nox (defBody st) t ∧
      ∀ (ds : List PyData) (d : PyData), ds.length = n → R ds d → ∀ (H0 : Hp) (D : Ends), Rt K H0 D d → (d = .none → ∀ (σ : L2.St) (H : Hp), Same H0 H → D.nx σ H) → Go K H0 t (slots ds m) D) :
    FnOk P w K mg base CX0 (k + 1) f fd ps (spP K n R) :=
  F.f.ok S (fun vs H Q E q => by rw [spP_len q, hp]) fun cdv A outer s H vs Q E hr hs => let ⟨t, ht, hg⟩ := h cdv A outer s H E hr; ⟨t, ht.nox, body_of hN hg vs H Q E hs⟩

/-! ### what is walked -/
/-- J yields the data ds, as long as P holds -/
def YldD (K : PySem.W.Frag) (J : It) (P : Hp → Prop) (ds : List PyData) : Prop := ∀ (i : Nat) (H : Hp), P H → (ds.length ≤ i → J.stop i H) ∧ ∀ d, ds[i]? = some d → J.go i H ∧ ∀ x H', J.yld i H x H' → Same H H' ∧ Dp K H' x d
def ItD (K : PySem.W.Frag) (wi : TI) (Γ : Ga) (ds : List PyData) : Prop := ∀ (H0 : Hp) (σ : L2.St) (H : Hp), StD K H0 H σ Γ → ∀ R : It → Hp → Prop, (∀ J H2, Same H H2 → YldD K J (Same H2) ds → R J H2) → wi σ H R
/-- the same, whatever becomes of the heap -/
def ItA (K : PySem.W.Frag) (wi : TI) (Γ : Ga) (ds : List PyData) : Prop := ∀ (H0 : Hp) (σ : L2.St) (H : Hp), StD K H0 H σ Γ → ∀ R : It → Hp → Prop, (∀ J H2, Same H H2 → YldD K J (fun _ => True) ds → R J H2) → wi σ H R
/-- a target: the places vs alone are stored to -/
def TgD (K : PySem.W.Frag) (g : TG) (vs : List Nat) (Γ : Ga) (d : PyData) (Γ' : Ga) : Prop := ∀ (H0 : Hp) (σ : L2.St) (H : Hp) (x : V), StD K H0 H σ Γ → Dp K H x d → ∀ Q : L2.St → Hp → Prop, (∀ σ', StD K H0 H σ' Γ' → σ'.length = σ.length → (∀ k, k ∉ vs → σ'[k]? = σ[k]?) → Q σ' H) → g x σ H Q
def wipeG (Γ : Ga) : List Nat → Ga
  | [] => Γ
  | v :: vs => (wipeG Γ vs).set v .no
section
variable {K : PySem.W.Frag} {Γ Γ' : Ga} {te tl : TE} {d e : PyData} {ds : List PyData}
theorem ItA.toD {wi : TI} (h : ItA K wi Γ ds) : ItD K wi Γ ds := fun H0 σ H S R q => h H0 σ H S R fun J H2 sm y => q J H2 sm fun i H' _ => y i H' trivial
theorem itd_list (h : EvG K tl Γ (.list ds)) : ItD K (iList K tl) Γ ds := fun H0 σ H S R q => h H0 σ H S _ fun v H2 sm hv => by
  obtain ⟨a, xs, rfl, hs, ha⟩ := hv.lstI
  refine ⟨a, rfl, ⟨xs, hs⟩, q _ H2 sm fun i H' sm2 => ⟨fun hl => ⟨xs, sm2.seq hs, by rw [DpAll.length ha]; exact hl⟩, fun d hd => ?_⟩⟩
  obtain ⟨v, hv, dv⟩ := DpAll.get ha hd
  exact ⟨⟨xs, v, sm2.seq hs, hv⟩, fun x H'' y => by
    obtain ⟨e1, y⟩ := y
    subst e1
    have e2 : x = v := Option.some.inj ((y xs (sm2.seq hs)).symm.trans hv)
    subst e2
    exact ⟨Same.refl _, Dp.same sm2 dv⟩⟩
theorem itd_tup (h : EvG K tl Γ (.tuple ds)) : ItD K (iTup K tl) Γ ds := fun H0 σ H S R q => h H0 σ H S _ fun v H2 sm hv => by
  obtain ⟨a, xs, rfl, hs, ha⟩ := hv.tupI
  refine ⟨a, rfl, ⟨xs, hs⟩, q _ H2 sm fun i H' sm2 => ⟨fun hl => ⟨xs, Same.sqt sm2 hs, by rw [DpAll.length ha]; exact hl⟩, fun d hd => ?_⟩⟩
  obtain ⟨v, hv, dv⟩ := DpAll.get ha hd
  exact ⟨⟨xs, v, Same.sqt sm2 hs, hv⟩, fun x H'' y => by
    obtain ⟨e1, y⟩ := y
    subst e1
    have e2 : x = v := Option.some.inj ((y xs (Same.sqt sm2 hs)).symm.trans hv)
    subst e2
    exact ⟨Same.refl _, Dp.same sm2 dv⟩⟩
def enumD : Nat → List PyData → List PyData
  | _, [] => []
  | n, d :: r => .tuple [.int (n : Nat), d] :: enumD (n + 1) r
theorem enumD_len : ∀ (n : Nat) (ds : List PyData), (enumD n ds).length = ds.length
  | _, [] => rfl
  | n, d :: r => by
    show (enumD (n + 1) r).length + 1 = r.length + 1
    rw [enumD_len]
theorem enumD_get : ∀ (n : Nat) (ds : List PyData) (i : Nat), (enumD n ds)[i]? = (ds[i]?).map fun d => .tuple [.int ((n + i : Nat) : Int), d]
  | _, [], i => by
    unfold enumD
    simp
  | n, d :: r, 0 => rfl
  | n, d :: r, i + 1 => by
    show (enumD (n + 1) r)[i]? = (r[i]?).map _
    rw [enumD_get (n + 1) r i, show n + 1 + i = n + (i + 1) by omega]
theorem itd_enum (h : EvG K tl Γ (.list ds)) : ItD K (iEnum K (tCons tl tNil)) Γ (enumD 0 ds) := fun H0 σ H S R q => h H0 σ H S _ fun v H2 sm hv => by
  obtain ⟨a, xs, rfl, hs, ha⟩ := hv.lstI
  refine ⟨a, xs, rfl, hs, q _ H2 sm fun i H' sm2 => ⟨fun hl => ⟨xs, sm2.seq hs, by rw [DpAll.length ha]; rw [enumD_len] at hl; exact hl⟩, fun d hd => ?_⟩⟩
  rw [enumD_get, Nat.zero_add] at hd
  cases hq : ds[i]? with
  | none => rw [hq] at hd; cases hd
  | some d' =>
    rw [hq] at hd
    have e := Option.some.inj hd
    subst e
    obtain ⟨v, hv, dv⟩ := DpAll.get ha hq
    exact ⟨⟨xs, v, sm2.seq hs, hv⟩, fun x H'' y => by
      obtain ⟨T, x', rfl, nT, rfl, y⟩ := y
      have e2 : x' = v := Option.some.inj ((y xs (sm2.seq hs)).symm.trans hv)
      subst e2
      exact ⟨Same.new nT, .tup (SqT.of upd_same) (.cons (.int _) (.cons (Dp.same (sm2.trans (Same.new nT)) dv) .nil))⟩⟩
def signsD (x : Str) : List PyData := x.cps.toList.map fun c => .str ⟨#[c]⟩
theorem ita_str {x : Str} (h : EvG K tl Γ (.str x)) : ItA K (iStr tl) Γ (signsD x) := fun H0 σ H S R q => h H0 σ H S _ fun v H2 sm hv => ⟨x, hv.strI, q _ H2 sm fun i H' _ => ⟨fun hl => by
    have hl' : x.cps.size ≤ i := by simpa [signsD] using hl
    exact hl', fun d hd => by
    unfold signsD at hd
    rw [List.getElem?_map] at hd
    cases hq : x.cps.toList[i]? with
    | none => rw [hq] at hd; cases hd
    | some c =>
      rw [hq] at hd
      have e := Option.some.inj hd
      subst e
      have hi : i < x.cps.size := by
        have := (List.getElem?_eq_some_iff.mp hq).1
        simpa using this
      have hq' : x.cps[i]? = some c := by
        rw [← Array.getElem?_toList]
        exact hq
      exact ⟨hi, fun y H'' z => by
        obtain ⟨e1, c', h1, rfl⟩ := z
        subst e1
        rw [hq'] at h1
        cases h1
        exact ⟨Same.refl _, .str _⟩⟩⟩⟩
def rangeD (lo : Int) (n : Nat) : List PyData := (List.range n).map fun i => .int (lo + (i : Nat))
theorem rangeD_len (lo : Int) (n : Nat) : (rangeD lo n).length = n := by simp [rangeD]
theorem yld_range {lo : Int} {n : Nat} : YldD K (Itr lo n) (fun _ => True) (rangeD lo n) := fun i H _ => ⟨fun hl => by
    rw [rangeD_len] at hl
    exact hl, fun d hd => by
    have hi : i < n := by
      have := (List.getElem?_eq_some_iff.mp hd).1
      rw [rangeD_len] at this
      exact this
    have e : d = .int (lo + (i : Nat)) := by
      unfold rangeD at hd
      rw [List.getElem?_map, List.getElem?_range hi] at hd
      exact (Option.some.inj hd).symm
    subst e
    exact ⟨hi, fun x H' y => by
      obtain ⟨rfl, rfl⟩ := y
      exact ⟨Same.refl _, .int _⟩⟩⟩
theorem ita_range1 {n : Nat} (h : EvG K tl Γ (.int (n : Nat))) (hn : n ≤ 1000000) : ItA K (iRng1 (tCons tl tNil)) Γ (rangeD 0 n) := fun H0 σ H S R q => h H0 σ H S _ fun v H2 sm hv =>
  ⟨(n : Int), by rw [hv.intI], by omega, by omega, by
    rw [Int.toNat_natCast]
    exact q _ H2 sm yld_range⟩
theorem ita_range2 {lo hi : Int} {tl2 : TE} (h : EvG K tl Γ (.int lo)) (h2 : EvG K tl2 Γ (.int hi)) (h0 : 0 ≤ lo) (h1 : lo ≤ 1000000) (hn0 : 0 ≤ hi) (hn : hi ≤ 1000000) : ItA K (iRng2 (tCons tl (tCons tl2 tNil))) Γ (rangeD lo (hi - lo).toNat) := fun H0 σ H S R q => h H0 σ H S _ fun v H2 sm hv => h2 H0 σ H2 (S.same sm) _ fun v2 H3 sm3 hv2 =>
  ⟨lo, hi, by rw [hv.intI, hv2.intI], ⟨by omega, by omega, by omega, by omega⟩, q _ H3 (sm.trans sm3) yld_range⟩
theorem tg_name {i : Nat} : TgD K (gName i) [i] Γ d (Γ.set i (.dat d)) := fun H0 σ H x S hx Q q => q _ (S.setD hx) (by rw [List.length_set]) fun k hk => List.getElem?_set_ne (fun z => hk (by rw [z]; exact List.mem_singleton.mpr rfl))
theorem tg_tup2 {i j : Nat} : TgD K (gTup K 2 (gCons (gName i) (gCons (gName j) gNil))) [i, j] Γ (.tuple [d, e]) ((Γ.set i (.dat d)).set j (.dat e)) := fun H0 σ H x S hx Q q => by
  obtain ⟨a, xs, rfl, hs, ha⟩ := hx.tupI
  cases ha with
  | cons h1 hr =>
    cases hr with
    | cons h2 hr =>
      cases hr
      refine ⟨a, _, rfl, hs, rfl, _, _, rfl, _, _, rfl, rfl, q _ ((S.setD h1).setD h2) (by rw [List.length_set, List.length_set]) fun k hk => ?_⟩
      rw [List.getElem?_set_ne (fun z => hk (by rw [z]; simp)), List.getElem?_set_ne (fun z => hk (by rw [z]; simp))]
/-! wiping -/
theorem wipe_get : ∀ (σ : L2.St) (vs : List Nat) (k : Nat), (wipe σ vs)[k]? = if k ∈ vs then (σ[k]?).map (fun _ => none) else σ[k]?
  | σ, [], k => by simp [wipe]
  | σ, v :: vs, k => by
    unfold wipe
    by_cases h : v = k
    · subst h
      rw [if_pos List.mem_cons_self]
      by_cases hl : v < σ.length
      · rw [List.getElem?_set_self (by rw [wipe_length]; exact hl), List.getElem?_eq_getElem hl]
        rfl
      · rw [List.getElem?_eq_none (by rw [List.length_set, wipe_length]; omega), List.getElem?_eq_none (by omega)]
        rfl
    · rw [List.getElem?_set_ne h, wipe_get σ vs k]
      by_cases hk : k ∈ vs
      · rw [if_pos hk, if_pos (List.mem_cons_of_mem _ hk)]
      · rw [if_neg hk, if_neg (fun z => (List.mem_cons.mp z).elim (fun e => h e.symm) hk)]
theorem wipe_eq {σ σ' : L2.St} {vs : List Nat} (hl : σ'.length = (wipe σ vs).length) (h : ∀ k, k ∉ vs → σ'[k]? = (wipe σ vs)[k]?) : wipe σ' vs = wipe σ vs := by
  refine List.ext_getElem? fun k => ?_
  rw [wipe_get, wipe_get]
  rw [wipe_length] at hl
  by_cases hk : k ∈ vs
  · rw [if_pos hk, if_pos hk]
    by_cases hlt : k < σ.length
    · rw [List.getElem?_eq_getElem hlt, List.getElem?_eq_getElem (by omega)]
      rfl
    · rw [List.getElem?_eq_none (by omega), List.getElem?_eq_none (by omega)]
  · rw [if_neg hk, if_neg hk, h k hk, wipe_get, if_neg hk]
theorem wipeG_len (Γ : Ga) : ∀ vs : List Nat, (wipeG Γ vs).length = Γ.length
  | [] => rfl
  | v :: vs => by
    unfold wipeG
    rw [List.length_set, wipeG_len Γ vs]
theorem wipeG_get {Γ : Ga} {k : Nat} {s : Sl} : ∀ {vs : List Nat}, (wipeG Γ vs)[k]? = some s → s ≠ .no → Γ[k]? = some s ∧ k ∉ vs
  | [], h, _ => ⟨h, by simp⟩
  | v :: vs, h, n => by
    unfold wipeG at h
    rcases set_get h with ⟨_, e⟩ | ⟨hk, h⟩
    · exact absurd e n
    · obtain ⟨a, b⟩ := wipeG_get h n
      exact ⟨a, fun z => (List.mem_cons.mp z).elim hk b⟩
theorem StD.wiped {H0 H : Hp} {σ : L2.St} (S : StD K H0 H σ Γ) (vs : List Nat) : StD K H0 H (wipe σ vs) (wipeG Γ vs) := by
  have g : ∀ {k : Nat} {s : Sl}, (wipeG Γ vs)[k]? = some s → s ≠ .no → Γ[k]? = some s ∧ (wipe σ vs)[k]? = σ[k]? := fun {k s} h n => by
    obtain ⟨a, b⟩ := wipeG_get h n
    exact ⟨a, by rw [wipe_get, if_neg b]⟩
  refine ⟨by rw [wipe_length, wipeG_len]; exact S.len, S.sm, fun i d h => ?_, fun i d h => ?_, fun i d h => ?_, fun i j d1 d2 h1 h2 n => ?_⟩
  · obtain ⟨a, b⟩ := g h (fun z => by cases z)
    rw [b]
    exact S.arg i d a
  · obtain ⟨a, b⟩ := g h (fun z => by cases z)
    rw [b]
    exact S.dat i d a
  · obtain ⟨a, b⟩ := g h (fun z => by cases z)
    rw [b]
    exact S.own i d a
  · obtain ⟨a1, b1⟩ := g h1 (fun z => by cases z)
    obtain ⟨a2, b2⟩ := g h2 (fun z => by cases z)
    rw [b1, b2]
    exact S.apart i j d1 d2 a1 a2 n
/-! comprehensions -/
/-- [e for x in s if t]: item i makes f i (some z: it is kept) -/
theorem evf_lc {wi : TI} {g : TG} {tt : TT} {vs ws : List Nat} {f : Nat → Option PyData} {G : Nat → Ga} (hi : ItD K wi Γ ds) (hl : ds.length ≤ 1000000) (hw : ∀ i ∈ ws, i ∈ vs)
    (hg : ∀ i d, ds[i]? = some d → TgD K g ws (wipeG Γ vs) d (G i)) (ht : ∀ i d, ds[i]? = some d → EvB K tt (G i) (f i).isSome)
    (he : ∀ i d z, ds[i]? = some d → f i = some z → EvG K te (G i) z ∧ LF z) : EvF K (tLc wi g tt te vs) Γ ((List.range ds.length).filterMap f) := by
  intro H0 σ H S Q q
  refine hi H0 σ H S _ fun J H1 s1 y => ?_
  intro D hD
  have hsm : ∀ H', Same (upd H1 D (.lst [])) H' → Same H1 H' := fun H' s => (Same.new hD).trans s
  have sub : ∀ i, ((List.range i).filterMap f).length ≤ i := fun i => Nat.le_trans (List.length_filterMap_le _ _) (by simp)
  refine ⟨fun i m H' => m = ds.length - i ∧ i ≤ ds.length ∧ Same H1 H' ∧ ∃ acc, H' D = some (.lst acc) ∧ DpAll K H' acc ((List.range i).filterMap f) ∧ ∀ z ∈ (List.range i).filterMap f, LF z,
    ⟨ds.length, by simp, Nat.zero_le _, Same.new hD, [], upd_same, .nil, fun z hz => nomatch hz⟩, ?_⟩
  rintro i m H' ⟨rfl, hle, sm, acc, hacc, da, lf⟩
  obtain ⟨y1, y2⟩ := y i H' sm
  by_cases hlt : i < ds.length
  · have hd : ds[i]? = some ds[i] := List.getElem?_eq_getElem hlt
    obtain ⟨go, yl⟩ := y2 _ hd
    refine .inr ⟨go, fun H'' => Same H1 H'' ∧ ∃ acc, H'' D = some (.lst acc) ∧ DpAll K H'' acc ((List.range (i + 1)).filterMap f) ∧ ∀ z ∈ (List.range (i + 1)).filterMap f, LF z, fun H'' h => ⟨ds.length - (i + 1), by omega, rfl, hlt, h⟩, fun x H2 hy => ?_⟩
    obtain ⟨s2, dx⟩ := yl x H2 hy
    have S2 : StD K H0 H2 (wipe σ vs) (wipeG Γ vs) := (S.wiped vs).same ((s1.trans sm).trans s2)
    refine hg i _ hd H0 _ H2 x S2 dx _ fun σ' S3 len3 ag => ?_
    refine ⟨wipe_eq len3 fun k hk => ag k fun z => hk (hw k z), ht i _ hd H0 σ' H2 S3 _ fun H3 s3 => ?_⟩
    have er : (List.range (i + 1)).filterMap f = (List.range i).filterMap f ++ (f i).toList := by
      rw [List.range_succ, List.filterMap_append]
      cases h : f i <;> simp [h]
    cases hf : f i with
    | none =>
      rw [hf] at er
      show (if false = true then _ else _)
      rw [if_neg Bool.false_ne_true]
      refine ⟨(sm.trans s2).trans s3, acc, s3 _ _ (s2 _ _ hacc), ?_, ?_⟩
      · rw [er]
        simpa using DpAll.same (s2.trans s3) da
      · rw [er]
        simpa using lf
    | some z =>
      rw [hf] at er
      show (if true = true then _ else _)
      rw [if_pos rfl]
      obtain ⟨ez, lz⟩ := he i _ z hd hf
      refine ez H0 σ' H3 (S3.same s3) _ fun v H4 s4 dv => ?_
      have hq : H4 D = some (.lst acc) := s4 _ _ (s3 _ _ (s2 _ _ hacc))
      have ts : TStay H4 (upd H4 D (.lst (acc ++ [v]))) := TStay.mut hq
      have la : acc.length ≤ i := by
        rw [DpAll.length da]
        exact sub i
      refine ⟨acc, hq, Nat.lt_of_le_of_lt (Nat.le_trans la (Nat.le_of_lt (Nat.lt_of_lt_of_le hlt hl))) (by decide), Same.mut (((sm.trans s2).trans s3).trans s4) hD, _, upd_same, ?_, ?_⟩
      · rw [er]
        exact DpAll.append (DpAll.stay ts (DpAll.same ((s2.trans s3).trans s4) da) lf) (.cons (Dp.stay ts dv lz) .nil)
      · rw [er]
        intro u hu
        rcases List.mem_append.mp hu with hu | hu
        · exact lf u hu
        · have : u = z := by simpa using hu
          rw [this]
          exact lz
  · have e : i = ds.length := by omega
    subst e
    exact .inl ⟨y1 (Nat.le_refl _), q D acc _ (Same.free s1 hD) (s1.trans sm) hacc da⟩
/-- no test, every item: f -/
theorem evf_map {wi : TI} {g : TG} {vs ws : List Nat} {f : PyData → PyData} {G : Nat → Ga} (hi : ItD K wi Γ ds) (hl : ds.length ≤ 1000000) (hw : ∀ i ∈ ws, i ∈ vs)
    (hg : ∀ i d, ds[i]? = some d → TgD K g ws (wipeG Γ vs) d (G i)) (he : ∀ i d, ds[i]? = some d → EvG K te (G i) (f d) ∧ LF (f d)) : EvF K (tLc wi g tYes te vs) Γ (ds.map f) := by
  have key : ds.map f = (List.range ds.length).filterMap fun i => (ds[i]?).map f := by
    refine List.ext_getElem? fun k => ?_
    have e : ((List.range ds.length).filterMap fun i => (ds[i]?).map f) = (List.range ds.length).map fun i => f (ds.getD i .none) := by
      have gen : ∀ l : List Nat, (∀ i ∈ l, i < ds.length) → (l.filterMap fun i => (ds[i]?).map f) = l.map fun i => f (ds.getD i .none) := by
        intro l
        induction l with
        | nil => intro _; rfl
        | cons a l ih =>
          intro h
          have ha : a < ds.length := h a List.mem_cons_self
          have e1 : (ds[a]?).map f = some (f (ds.getD a .none)) := by
            rw [List.getElem?_eq_getElem ha]
            simp [ha]
          rw [List.filterMap_cons, e1, List.map_cons, ih fun i hi => h i (List.mem_cons_of_mem _ hi)]
      exact gen _ fun i hi => List.mem_range.mp hi
    rw [e, List.getElem?_map, List.getElem?_map]
    by_cases hk : k < ds.length
    · rw [List.getElem?_range hk, List.getElem?_eq_getElem hk]
      simp [hk]
    · rw [List.getElem?_eq_none (by omega), List.getElem?_eq_none (by simpa using hk)]
      rfl
  rw [key]
  refine evf_lc hi hl hw hg (fun i d hd => ?_) fun i d z hd hz => ?_
  · have e : ((ds[i]?).map f).isSome = true := by rw [hd]; rfl
    rw [e]
    exact fun H0 σ H S Q q => q H (Same.refl H)
  · rw [hd] at hz
    have e := Option.some.inj hz
    subst e
    exact he i d hd
end

/-! two fors -/
def delH (H : Hp) (a : Addr) : Hp := fun b => if b = a then none else H b
theorem delH_ne {H : Hp} {a b : Addr} (h : b ≠ a) : delH H a b = H b := if_neg h
theorem delH_at {H : Hp} {a : Addr} : delH H a a = none := if_pos rfl
theorem delH_tup {H : Hp} {D : Addr} {xs : List V} (h : H D = some (.lst xs)) : TStay H (delH H D) := ⟨fun b ys e => by
  rw [delH_ne (fun z => by rw [z, h] at e; cases e)]; exact e, fun b o ys e => by
  rw [delH_ne (fun z => by rw [z, h] at e; cases e)]; exact e⟩
theorem delH_same {H : Hp} {D : Addr} : Same (delH H D) H := fun b o e => by
  by_cases h : b = D
  · rw [h, delH_at] at e
    cases e
  · rw [delH_ne h] at e
    exact e
theorem same_del {H H' : Hp} {D : Addr} (e : Same H H') (h : H D = none) : Same H (delH H' D) := fun b o q => by
  rw [delH_ne (ne_of_none q h)]
  exact e _ _ q
theorem delH_upd {H : Hp} {D : Addr} {o : HO} : Same (delH H D) (upd H D o) := fun b u e => by
  by_cases h : b = D
  · rw [h, delH_at] at e
    cases e
  · rw [delH_ne h] at e
    rw [upd_ne h]
    exact e
theorem delH_mono {H H' : Hp} {D : Addr} (e : Same H H') : Same (delH H D) (delH H' D) := fun b u q => by
  by_cases h : b = D
  · rw [h, delH_at] at q
    cases q
  · rw [delH_ne h] at q ⊢
    exact e _ _ q
/-- a walk that a list D, made meanwhile, does not meet: what is known stands in Hb, where D is not -/
def ItN (K : PySem.W.Frag) (wi : TI) (Γ : Ga) (ds : List PyData) : Prop := ∀ (H0 : Hp) (σ : L2.St) (Hb H : Hp) (D : Addr) (acc : List V), StD K H0 Hb σ Γ → Hb D = none → Same Hb H → H D = some (.lst acc) → ∀ R : It → Hp → Prop, (∀ J H2, Same H H2 → YldD K J (Same (delH H2 D)) ds → R J H2) → wi σ H R
section
variable {K : PySem.W.Frag} {Γ Γ' : Ga} {te tl : TE} {d e : PyData} {ds : List PyData}
theorem yld_list {a D : Addr} {H : Hp} {xs acc : List V} (hs : SqL K (delH H D) a xs) (ha : DpAll K H xs ds) (hD : H D = some (.lst acc)) (lf : ∀ d ∈ ds, LF d) : YldD K (Itl K a) (Same (delH H D)) ds := fun i H' sm2 =>
  ⟨fun hl => ⟨xs, sm2.seq hs, by rw [DpAll.length ha]; exact hl⟩, fun d hd => by
  obtain ⟨v, hv, dv⟩ := DpAll.get ha hd
  exact ⟨⟨xs, v, sm2.seq hs, hv⟩, fun x H'' y => by
    obtain ⟨e1, y⟩ := y
    subst e1
    have e2 : x = v := Option.some.inj ((y xs (sm2.seq hs)).symm.trans hv)
    subst e2
    exact ⟨Same.refl _, Dp.same sm2 (Dp.stay (delH_tup hD) dv (lf d (List.mem_of_getElem? hd)))⟩⟩⟩
theorem itn_own {i : Nat} (h : Γ[i]? = some (.own ds)) : ItN K (iList K (tVar i)) Γ ds := fun H0 σ Hb H D acc S hb sm hD R q => by
  obtain ⟨p, xs, a, b, c, dd, lf⟩ := S.own i ds h
  have hq : H p = some (.lst xs) := sm _ _ c
  have ne : p ≠ D := ne_of_none c hb
  refine ⟨.ref p, a, p, rfl, ⟨xs, SqL.of hq⟩, q _ H (Same.refl H) (yld_list (SqL.of (by rw [delH_ne ne]; exact hq)) (DpAll.same sm dd) hD lf)⟩
theorem itn_fresh (h : EvF K tl Γ ds) (lf : ∀ d ∈ ds, LF d) : ItN K (iList K tl) Γ ds := fun H0 σ Hb H D acc S hb sm hD R q =>
  h H0 σ H (S.same sm) _ fun p xs H2 hp s2 hq hd => by
    have ne : p ≠ D := fun z => by
      rw [z, hD] at hp
      cases hp
    exact ⟨p, rfl, ⟨xs, SqL.of hq⟩, q _ H2 s2 (yld_list (SqL.of (by rw [delH_ne ne]; exact hq)) hd (s2 _ _ hD) lf)⟩
/-- [e for x in s for y in s1] -/
theorem evf_lc2 {wi wi1 : TI} {a b : Nat} {vs vs1 : List Nat} {es : PyData → List PyData} {f : PyData → PyData → PyData} (hi : ItD K wi Γ ds) (hl : ds.length ≤ 100000) (lfd : ∀ d ∈ ds, LF d) (hw : a ∈ vs) (hw1 : b ∈ vs1)
    (hi1 : ∀ d ∈ ds, ItN K wi1 ((wipeG Γ vs).set a (.dat d)) (es d) ∧ (es d).length ≤ 10)
    (he : ∀ d ∈ ds, ∀ e ∈ es d, EvG K te ((wipeG ((wipeG Γ vs).set a (.dat d)) vs1).set b (.dat e)) (f d e) ∧ LF (f d e)) :
    EvF K (tLc2 wi (gName a) tYes wi1 (gName b) tYes te vs vs1) Γ (ds.flatMap fun d => (es d).map (f d)) := by
  intro H0 σ H S Q q
  refine hi H0 σ H S _ fun J H1 s1 y => ?_
  intro D hD
  have bound : ∀ i, i ≤ ds.length → ((ds.take i).flatMap fun d => (es d).map (f d)).length ≤ i * 10 := by
    intro i
    induction i with
    | zero => intro _; simp
    | succ i ih =>
      intro hle
      have hlt : i < ds.length := by omega
      have hd : ds[i]? = some ds[i] := List.getElem?_eq_getElem hlt
      rw [List.take_add_one, hd, List.flatMap_append, List.length_append]
      have := ih (by omega)
      have h2 := (hi1 ds[i] (List.getElem_mem hlt)).2
      simp only [Option.toList_some, List.flatMap_cons, List.flatMap_nil, List.append_nil, List.length_map]
      omega
  refine ⟨fun i m H' => m = ds.length - i ∧ i ≤ ds.length ∧ Same H1 H' ∧ ∃ acc, H' D = some (.lst acc) ∧ DpAll K H' acc ((ds.take i).flatMap fun d => (es d).map (f d)) ∧ ∀ z ∈ ((ds.take i).flatMap fun d => (es d).map (f d)), LF z,
    ⟨ds.length, by simp, Nat.zero_le _, Same.new hD, [], upd_same, .nil, fun z hz => nomatch hz⟩, ?_⟩
  rintro i m H' ⟨rfl, hle, sm, acc, hacc, da, lf⟩
  obtain ⟨y1, y2⟩ := y i H' sm
  by_cases hlt : i < ds.length
  · have hd : ds[i]? = some ds[i] := List.getElem?_eq_getElem hlt
    have hm : ds[i] ∈ ds := List.getElem_mem hlt
    obtain ⟨go, yl⟩ := y2 _ hd
    refine .inr ⟨go, fun H'' => Same H1 H'' ∧ ∃ acc, H'' D = some (.lst acc) ∧ DpAll K H'' acc ((ds.take (i + 1)).flatMap fun d => (es d).map (f d)) ∧ ∀ z ∈ ((ds.take (i + 1)).flatMap fun d => (es d).map (f d)), LF z, fun H'' h => ⟨ds.length - (i + 1), by omega, rfl, hlt, h⟩, fun x H2 hy => ?_⟩
    obtain ⟨s2, dx⟩ := yl x H2 hy
    have hD2 : H2 D = some (.lst acc) := s2 _ _ hacc
    -- what is known without D
    have Sb : StD K H0 (delH H2 D) ((wipe σ vs).set a (some x)) ((wipeG Γ vs).set a (.dat ds[i])) :=
      ((S.wiped vs).same (s1.trans (same_del (sm.trans s2) hD))).setD (Dp.stay (delH_tup hD2) dx (lfd _ hm))
    refine ⟨wipe_eq (by rw [List.length_set]) fun k hk => List.getElem?_set_ne fun (z : a = k) => hk (by rw [← z]; exact hw), ?_⟩
    rw [show ∀ (σ : L2.St) (H : Hp) (Q : Bool → Hp → Prop), tYes σ H Q = Q true H from fun _ _ _ => rfl, if_pos rfl]
    refine (hi1 _ hm).1 H0 _ (delH H2 D) H2 D acc Sb delH_at delH_same hD2 _ fun J1 H4 s4 z => ?_
    have er : (ds.take (i + 1)).flatMap (fun d => (es d).map (f d)) = (ds.take i).flatMap (fun d => (es d).map (f d)) ++ (es ds[i]).map (f ds[i]) := by
      rw [List.take_add_one, hd, List.flatMap_append]
      simp
    have hD4 : H4 D = some (.lst acc) := s4 _ _ hD2
    have bb := bound i hle
    have bl := (hi1 _ hm).2
    refine ⟨fun j k H' => k = (es ds[i]).length - j ∧ j ≤ (es ds[i]).length ∧ Same (delH H4 D) H' ∧ ∃ acc, H' D = some (.lst acc) ∧ DpAll K H' acc ((ds.take i).flatMap (fun d => (es d).map (f d)) ++ ((es ds[i]).take j).map (f ds[i])) ∧ ∀ z ∈ ((ds.take i).flatMap (fun d => (es d).map (f d)) ++ ((es ds[i]).take j).map (f ds[i])), LF z,
      ⟨(es ds[i]).length, by simp, Nat.zero_le _, delH_same, acc, hD4, by simpa using DpAll.same (s2.trans s4) da, by simpa using lf⟩, ?_⟩
    rintro j k H6 ⟨rfl, hje, sm6, acc6, hacc6, da6, lf6⟩
    obtain ⟨z1, z2⟩ := z j H6 sm6
    have back : Same H1 (delH H4 D) := same_del ((sm.trans s2).trans s4) hD
    by_cases hjl : j < (es ds[i]).length
    · have he1 : (es ds[i])[j]? = some (es ds[i])[j] := List.getElem?_eq_getElem hjl
      obtain ⟨go1, yl1⟩ := z2 _ he1
      have hme : (es ds[i])[j] ∈ es ds[i] := List.getElem_mem hjl
      refine .inr ⟨go1, fun H' => Same (delH H4 D) H' ∧ ∃ acc, H' D = some (.lst acc) ∧ DpAll K H' acc ((ds.take i).flatMap (fun d => (es d).map (f d)) ++ ((es ds[i]).take (j + 1)).map (f ds[i])) ∧ ∀ z ∈ ((ds.take i).flatMap (fun d => (es d).map (f d)) ++ ((es ds[i]).take (j + 1)).map (f ds[i])), LF z,
        fun H' h => ⟨(es ds[i]).length - (j + 1), by omega, rfl, hjl, h⟩, fun x1 H7 hy1 => ?_⟩
      obtain ⟨s7, dx1⟩ := yl1 x1 H7 hy1
      have S7 : StD K H0 H7 ((wipe ((wipe σ vs).set a (some x)) vs1).set b (some x1)) ((wipeG ((wipeG Γ vs).set a (.dat ds[i])) vs1).set b (.dat (es ds[i])[j])) :=
        ((Sb.wiped vs1).same (((delH_mono s4).trans sm6).trans s7)).setD dx1
      refine ⟨wipe_eq (by rw [List.length_set]) fun k hk => List.getElem?_set_ne fun (z : b = k) => hk (by rw [← z]; exact hw1), ?_⟩
      rw [show ∀ (σ : L2.St) (H : Hp) (Q : Bool → Hp → Prop), tYes σ H Q = Q true H from fun _ _ _ => rfl, if_pos rfl]
      obtain ⟨ez, lz⟩ := he _ hm _ hme
      refine ez H0 _ H7 S7 _ fun v H8 s8 dv => ?_
      have hq : H8 D = some (.lst acc6) := s8 _ _ (s7 _ _ hacc6)
      have ts : TStay H8 (upd H8 D (.lst (acc6 ++ [v]))) := TStay.mut hq
      have er1 : ((es ds[i]).take (j + 1)).map (f ds[i]) = ((es ds[i]).take j).map (f ds[i]) ++ [f ds[i] (es ds[i])[j]] := by
        rw [List.take_add_one, he1, List.map_append]
        simp
      have la : acc6.length ≤ 1000000 := by
        rw [DpAll.length da6, List.length_append, List.length_map, List.length_take]
        have h1 := Nat.min_le_right j (es ds[i]).length
        have h2 : i * 10 ≤ 99999 * 10 := Nat.mul_le_mul_right _ (by omega)
        omega
      have smz : Same (delH H4 D) (upd H8 D (.lst (acc6 ++ [v]))) := Same.mut ((sm6.trans s7).trans s8) delH_at
      refine ⟨acc6, hq, Nat.lt_of_le_of_lt la (by decide), smz, _, upd_same, ?_, ?_⟩
      · rw [er1, ← List.append_assoc]
        exact DpAll.append (DpAll.stay ts (DpAll.same (s7.trans s8) da6) lf6) (.cons (Dp.stay ts dv lz) .nil)
      · rw [er1, ← List.append_assoc]
        intro u hu
        rcases List.mem_append.mp hu with hu | hu
        · exact lf6 u hu
        · rw [List.mem_singleton.mp hu]
          exact lz
    · have e1 : j = (es ds[i]).length := by omega
      subst e1
      refine .inl ⟨z1 (Nat.le_refl _), back.trans sm6, acc6, hacc6, ?_, ?_⟩
      · rw [er]
        rw [List.take_length] at da6
        exact da6
      · rw [er]
        rw [List.take_length] at lf6
        exact lf6
  · have e : i = ds.length := by omega
    subst e
    rw [List.take_length] at da
    exact .inl ⟨y1 (Nat.le_refl _), q D acc _ (Same.free s1 hD) (s1.trans sm) hacc da⟩
end

/-! ### promises whose answer is a new list -/
def spL (K : PySem.W.Frag) (n : Nat) (R : List PyData → List PyData → Prop) : Sp := fun vs H Q _ => ∃ ds es, DpAll K H vs ds ∧ ds.length = n ∧ R ds es ∧ ∀ p xs H', H p = none → Same H H' → H' p = some (.lst xs) → DpAll K H' xs es → Q (.ref p) H'
theorem spL_len {K : PySem.W.Frag} {n : Nat} {R : List PyData → List PyData → Prop} {vs : List V} {H : Hp} {Q : VK} {E : XK} (h : spL K n R vs H Q E) : vs.length = n := by
  obtain ⟨ds, d, h1, h2, _⟩ := h
  rw [DpAll.length h1, h2]
def RtF (K : PySem.W.Frag) (H0 : Hp) (D : Ends) (es : List PyData) : Prop := ∀ p xs H, H0 p = none → Same H0 H → H p = some (.lst xs) → DpAll K H xs es → D.rt (.ref p) H
section
variable {K : PySem.W.Frag} {H0 : Hp} {Γ Γ' : Ga} {te tl : TE} {d e : PyData} {ds es : List PyData} {tA : TA} {D : Ends}
theorem evf_call {n : Nat} {R : List PyData → List PyData → Prop} {E : XK} (h : EvA K tA Γ ds) (hn : ds.length = n) (hR : R ds es) : EvF K (tCall (spL K n R) [] E tA) Γ es := fun H0 σ H S Q q =>
  h H0 σ H S _ fun vs H1 s1 hv => by
    show spL K n R (vs ++ []) H1 Q E
    rw [List.append_nil]
    exact ⟨ds, es, hv, hn, hR, fun p xs H2 hp s2 hq hd => q p xs H2 (Same.free s1 hp) (s1.trans s2) hq hd⟩
theorem go_retF (h : EvF K te Γ es) (q : RtF K H0 D es) : Go K H0 (tRet te) Γ D := fun σ H S => h H0 σ H S _ fun p xs H2 hp sm hq hd => q p xs H2 (Same.free S.sm hp) (S.sm.trans sm) hq hd
theorem evf_if {t : TT} {b : Bool} {ta tb : TE} (h : EvB K t Γ b) (h1 : b = true → EvF K ta Γ ds) (h2 : b = false → EvF K tb Γ ds) : EvF K (tIf t ta tb) Γ ds := fun H0 σ H S Q q => h H0 σ H S _ fun H1 s1 => by
  cases b with
  | true => exact h1 rfl H0 σ H1 (S.same s1) Q fun p xs H2 hp s2 => q p xs H2 (Same.free s1 hp) (s1.trans s2)
  | false => exact h2 rfl H0 σ H1 (S.same s1) Q fun p xs H2 hp s2 => q p xs H2 (Same.free s1 hp) (s1.trans s2)
theorem evf_is (h : EvF K te Γ ds) (e : ds = es) : EvF K te Γ es := e ▸ h
end
theorem bodyL_of {K : PySem.W.Frag} {n m : Nat} {R : List PyData → List PyData → Prop} {t : TS} {N : List Str} (hN : N.length = n + m)
    (h : ∀ (ds es : List PyData), ds.length = n → R ds es → ∀ (H0 : Hp) (D : Ends), RtF K H0 D es → Go K H0 t (slots ds m) D)
    (vs : List V) (H : Hp) (Q : VK) (E : XK) (hs : spL K n R vs H Q E) : t { nx := fun _ H' => Q .non H', rt := Q } (start N vs) H := by
  obtain ⟨ds, d, h1, h2, h3, h4⟩ := hs
  exact h ds d h2 h3 H { nx := fun _ H' => Q .non H', rt := Q } h4 (start N vs) H (start_std h1 (by rw [hN, h2]))
theorem DefOk.okL {P : Program} {w : World} {K : PySem.W.Frag} {mg : Str → Option Value} {base : Heap} {x : Str} {st : Stmt} {f : Addr} {fd : FuncData} {N ps : List Str} {k n m : Nat} {R : List PyData → List PyData → Prop} (F : DefOk K mg x st f fd) (S : FnScope N ps (defScope st)) (hp : ps.length = n) (hN : N.length = n + m)
    (h : ∀ (cdv : Value) (A : Around) (outer : List Env) (s : Shared) (H : Hp) (E : XK), Room k (A.deeper (envOfC x (defScope st) s.heap.objs.size f cdv)) → ∃ t, PSs (cxOf CX0 P w K mg base N x (defScope st) f cdv A outer s H E).nox (defBody st) t ∧
      ∀ (ds es : List PyData), ds.length = n → R ds es → ∀ (H0 : Hp) (D : Ends), RtF K H0 D es → Go K H0 t (slots ds m) D) :
    FnOk P w K mg base CX0 (k + 1) f fd ps (spL K n R) :=
  F.f.ok S (fun vs H Q E q => by rw [spL_len q, hp]) fun cdv A outer s H vs Q E hr hs => let ⟨t, ht, hg⟩ := h cdv A outer s H E hr; ⟨t, ht.nox, bodyL_of hN hg vs H Q E hs⟩
/-! ### built-ins on data -/
def rLenD (K : PySem.W.Frag) : List V → Hp → VK → Prop := fun xs H Q => ∃ x n, xs = [x] ∧ LenV K x H n ∧ Q (.int n) H
theorem cr_len {X : Cx} : CallR X (.builtin "len") (rLenD X.K) := call_len
def rStrI : List V → Hp → VK → Prop := fun xs H Q => ∃ i : Int, xs = [.int i] ∧ i.natAbs.log2 < 1920 ∧ Q (.str (toString i)) H
theorem cr_str {X : Cx} : CallR X (.type "str") rStrI := call_str_int
def rIntS : List V → Hp → VK → Prop := fun xs H Q => ∃ (a : Str) (n : Int), xs = [.str a] ∧ PySem.intText? a = some n ∧ a.length ≤ 640 ∧ Q (.int n) H
theorem cr_intS {X : Cx} : CallR X (.type "int") rIntS := call_int_str
def rIntI : List V → Hp → VK → Prop := fun xs H Q => (∃ i, xs = [V.int i] ∧ Q (.int i) H) ∨ ∃ k, xs = [V.bl k] ∧ Q (.int (if k then 1 else 0)) H
theorem cr_intI {X : Cx} : CallR X (.type "int") rIntI := call_int1
def rAbsI : List V → Hp → VK → Prop := fun xs H Q => ∃ i, xs = [V.int i] ∧ Q (.int (if i < 0 then -i else i)) H
theorem cr_abs {X : Cx} : CallR X (.builtin "abs") rAbsI := call_abs
def rMax2I : List V → Hp → VK → Prop := fun xs H Q => ∃ i j, xs = [V.int i, V.int j] ∧ Q (.int (if j > i then j else i)) H
theorem cr_max2 {X : Cx} (hc : X.calm = true) : CallR X (.builtin "max") rMax2I := call_max2 hc
def rMin2I : List V → Hp → VK → Prop := fun xs H Q => ∃ i j, xs = [V.int i, V.int j] ∧ Q (.int (if j < i then j else i)) H
theorem cr_min2 {X : Cx} (hc : X.calm = true) : CallR X (.builtin "min") rMin2I := call_min2 hc
def rTupL (K : PySem.W.Frag) : List V → Hp → VK → Prop := fun xs H Q => ∃ p ys, xs = [V.ref p] ∧ ((SqL K H p ys ∧ ∀ l, H l = none → Q (.ref l) (upd H l (.tup ys))) ∨ (SqT K H p ys ∧ Q (.ref p) H))
theorem cr_tupL {X : Cx} : CallR X (.type "tuple") (rTupL X.K) := call_tuple_of
def rSplit : V → List V → Hp → VK → Prop := fun x xs H Q => ∃ a b, x = V.str a ∧ xs = [V.str b] ∧ (b.length == 0) = false ∧ a.length + 2 ≤ sizeLine ∧ rNewStrs (Txt.split a b) H Q
theorem mt_splitD {X : Cx} : MtR X "str.split" rSplit := mt_split
def rJoin (K : PySem.W.Frag) : V → List V → Hp → VK → Prop := fun x xs H Q => ∃ (a : Str) (p : Addr) (ys : List Str), x = V.str a ∧ xs = [V.ref p] ∧ (SqL K H p (ys.map V.str) ∨ SqT K H p (ys.map V.str)) ∧ (ys.map (·.length)).sum + ys.length * a.length ≤ 16777216 ∧ Q (.str (Txt.join a ys)) H
theorem mt_joinD {X : Cx} : MtR X "str.join" (rJoin X.K) := mt_join
def rRfind : V → List V → Hp → VK → Prop := fun x xs H Q => ∃ a b, x = V.str a ∧ xs = [V.str b] ∧ Q (.int (Txt.rfind a b)) H
theorem mt_rfindD {X : Cx} : MtR X "str.rfind" rRfind := mt_rfind
section
variable {K : PySem.W.Frag} {Γ : Ga} {te to : TE} {d : PyData} {ds : List PyData}
theorem cbv_lenL : CbV K (rLenD K) [.list ds] (.int (ds.length : Nat)) := fun H vs hv Q q => by
  cases hv with
  | cons h hr =>
    cases hr
    obtain ⟨a, xs, rfl, hs, ha⟩ := h.lstI
    exact ⟨_, ds.length, rfl, .inl ⟨xs, hs, (DpAll.length ha).symm⟩, q _ H (Same.refl H) (.int _)⟩
theorem cbv_lenT : CbV K (rLenD K) [.tuple ds] (.int (ds.length : Nat)) := fun H vs hv Q q => by
  cases hv with
  | cons h hr =>
    cases hr
    obtain ⟨a, xs, rfl, hs, ha⟩ := h.tupI
    exact ⟨_, ds.length, rfl, .inr ⟨xs, hs, (DpAll.length ha).symm⟩, q _ H (Same.refl H) (.int _)⟩
theorem cbv_lenS {x : Str} (hl : x.length ≤ 1000000) : CbV K (rLenD K) [.str x] (.int (x.length : Nat)) := fun H vs hv Q q => by
  cases hv with
  | cons h hr =>
    cases hr
    rw [h.strI]
    exact ⟨_, x.length, rfl, ⟨small_line hl, rfl⟩, q _ H (Same.refl H) (.int _)⟩
theorem cbv_str {i : Int} (h : i.natAbs.log2 < 1920) : CbV K rStrI [.int i] (.str (toString i)) := fun H vs hv Q q => by
  cases hv with
  | cons h1 hr =>
    cases hr
    rw [h1.intI]
    exact ⟨i, rfl, h, q _ H (Same.refl H) (.str _)⟩
theorem cbv_intS {x : Str} {n : Int} (h : PySem.intText? x = some n) (hl : x.length ≤ 640) : CbV K rIntS [.str x] (.int n) := fun H vs hv Q q => by
  cases hv with
  | cons h1 hr =>
    cases hr
    rw [h1.strI]
    exact ⟨x, n, rfl, h, hl, q _ H (Same.refl H) (.int _)⟩
theorem cbv_intI {i : Int} : CbV K rIntI [.int i] (.int i) := fun H vs hv Q q => by
  cases hv with
  | cons h1 hr =>
    cases hr
    rw [h1.intI]
    exact .inl ⟨i, rfl, q _ H (Same.refl H) (.int _)⟩
theorem cbv_abs {i : Int} : CbV K rAbsI [.int i] (.int (if i < 0 then -i else i)) := fun H vs hv Q q => by
  cases hv with
  | cons h1 hr =>
    cases hr
    rw [h1.intI]
    exact ⟨i, rfl, q _ H (Same.refl H) (.int _)⟩
theorem cbv_gcd {a b : Int} : CbV K rGcd [.int a, .int b] (.int ((Nat.gcd a.natAbs b.natAbs : Nat) : Int)) := fun H vs hv Q q => by
  cases hv with
  | cons h1 hr =>
    cases hr with
    | cons h2 hr =>
      cases hr
      rw [h1.intI, h2.intI]
      exact ⟨a, b, rfl, q _ H (Same.refl H) (.int _)⟩
theorem cbv_sum {ns : List Int} : CbV K (rSum K) [.list (ns.map .int)] (.int ns.sum) := fun H vs hv Q q => by
  cases hv with
  | cons h1 hr =>
    cases hr
    obtain ⟨a, xs, rfl, hs, ha⟩ := h1.lstI
    rw [DpAll.intsI ha] at hs
    exact ⟨a, ns, rfl, hs, q _ H (Same.refl H) (.int _)⟩
theorem cbv_all {bs : List Bool} : CbV K (rAll K) [.list (bs.map .bool)] (.bool (bs.all id)) := fun H vs hv Q q => by
  cases hv with
  | cons h1 hr =>
    cases hr
    obtain ⟨a, xs, rfl, hs, ha⟩ := h1.lstI
    rw [DpAll.blsI ha] at hs
    exact ⟨a, bs, rfl, hs, q _ H (Same.refl H) (.bl _)⟩
theorem cbv_tupL : CbV K (rTupL K) [.list ds] (.tuple ds) := fun H vs hv Q q => by
  cases hv with
  | cons h1 hr =>
    cases hr
    obtain ⟨a, xs, rfl, hs, ha⟩ := h1.lstI
    exact ⟨a, xs, rfl, .inl ⟨hs, fun l hl => q _ _ (Same.new hl) (.tup (SqT.of upd_same) (DpAll.same (Same.new hl) ha))⟩⟩
theorem cbv_tupI {H : Hp} {v : V} (h : Dp K H v (.tuple ds)) : TyX K H v (.type "tuple") := by
  obtain ⟨a, xs, rfl, hs, ha⟩ := h.tupI
  rcases hs with (h | ⟨o, h⟩) | h
  · exact .base (.tup h)
  · exact .fTuple h
  · obtain ⟨o, its, n, e, c, _⟩ := h
    exact .kTuple e c
/-- isinstance(e, T) -/
theorem ev_isi {n T : String} {b : Bool} (h : EvG K te Γ d) (hty : ∀ (H : Hp) (v : V), Dp K H v d → TyX K H v (.type T)) (hk : kitB T n = some b) : EvG K (tCB (rIsi K) (tCons te (tCons (tC (.ty n)) tNil))) Γ (.bool b) := fun H0 σ H S Q q =>
  h H0 σ H S _ fun v H1 s1 hv => ⟨v, .ty n, .type T, .type n, b, rfl, .ty n, hty H1 v hv, kit_ty hk, q _ H1 s1 (.bl b)⟩
theorem ty_tup {H : Hp} {v : V} (h : Dp K H v (.tuple ds)) : TyX K H v (.type "tuple") := cbv_tupI h
theorem ty_int {i : Int} {H : Hp} {v : V} (h : Dp K H v (.int i)) : TyX K H v (.type "int") := by
  rw [h.intI]
  exact .base (.int i)
theorem ty_str {x : Str} {H : Hp} {v : V} (h : Dp K H v (.str x)) : TyX K H v (.type "str") := by
  rw [h.strI]
  exact .base (.str x)
theorem evf_split {x y : Str} (h : EvG K to Γ (.str x)) (h2 : EvG K te Γ (.str y)) (hy : (y.length == 0) = false) (hl : x.length ≤ 100000) : EvF K (tM1 rSplit to te) Γ ((Txt.split x y).map .str) := fun H0 σ H S Q q =>
  h H0 σ H S _ fun v H1 s1 hv => by
    refine ⟨⟨x, hv.strI⟩, h2 H0 σ H1 (S.same s1) _ fun u H2 s2 hu => ⟨x, y, hv.strI, by rw [hu.strI], hy, small_line (by omega), fun p hp => ?_⟩⟩
    exact q p _ _ (Same.free (s1.trans s2) hp) ((s1.trans s2).trans (Same.new hp)) upd_same (DpAll.strs _)
theorem ev_join {x : Str} {ys : List Str} (h : EvG K to Γ (.str x)) (h2 : EvG K te Γ (.list (ys.map .str))) (hl : (ys.map (·.length)).sum + ys.length * x.length ≤ 1000000) : EvG K (tM1 (rJoin K) to te) Γ (.str (Txt.join x ys)) := fun H0 σ H S Q q =>
  h H0 σ H S _ fun v H1 s1 hv => by
    refine ⟨⟨x, hv.strI⟩, h2 H0 σ H1 (S.same s1) _ fun u H2 s2 hu => ?_⟩
    obtain ⟨a, xs, rfl, hs, ha⟩ := hu.lstI
    rw [DpAll.strsI ha] at hs
    exact ⟨x, a, ys, hv.strI, rfl, .inl hs, Nat.le_trans hl (by decide), q _ H2 (s1.trans s2) (.str _)⟩
theorem ev_rfind {x y : Str} (h : EvG K to Γ (.str x)) (h2 : EvG K te Γ (.str y)) : EvG K (tM1 rRfind to te) Γ (.int (Txt.rfind x y)) := fun H0 σ H S Q q =>
  h H0 σ H S _ fun v H1 s1 hv => ⟨⟨x, hv.strI⟩, h2 H0 σ H1 (S.same s1) _ fun u H2 s2 hu => ⟨x, y, hv.strI, by rw [hu.strI], q _ H2 (s1.trans s2) (.int _)⟩⟩
end
/-! ### loops -/
def toDat : Sl → Sl
  | .arg d => .dat d
  | .own ds => .dat (.list ds)
  | s => s
section
variable {K : PySem.W.Frag} {H0 H1 H : Hp} {Γ Γ' : Ga} {σ : L2.St} {ds : List PyData} {D : Ends} {g : TG} {tb : TS} {wi : TI}
theorem StD.based (S : StD K H0 H σ Γ) : StD K H H σ (Γ.map toDat) := by
  have g : ∀ {i : Nat} {s : Sl}, (Γ.map toDat)[i]? = some s → ∃ s', Γ[i]? = some s' ∧ toDat s' = s := fun {i s} h => by
    rw [List.getElem?_map] at h
    cases q : Γ[i]? with
    | none => rw [q] at h; cases h
    | some s' =>
      rw [q] at h
      exact ⟨s', rfl, Option.some.inj h⟩
  refine ⟨by rw [List.length_map]; exact S.len, Same.refl H, fun i d h => ?_, fun i d h => ?_, fun i d h => ?_, fun i j d1 d2 h1 _ _ => ?_⟩
  · obtain ⟨s', _, e⟩ := g h
    cases s' <;> cases e
  · obtain ⟨s', h', e⟩ := g h
    cases s' with
    | no => cases e
    | arg d' =>
      cases e
      obtain ⟨v, a, b⟩ := S.arg i _ h'
      exact ⟨v, a, Dp.same S.sm b⟩
    | dat d' =>
      cases e
      exact S.dat i _ h'
    | own ds' =>
      cases e
      obtain ⟨p, xs, a, _, c, dd, _⟩ := S.own i _ h'
      exact ⟨_, a, .lst (SqL.of c) dd⟩
  · obtain ⟨s', _, e⟩ := g h
    cases s' <;> cases e
  · obtain ⟨s', _, e⟩ := g h1
    cases s' <;> cases e
theorem StD.rebase (S : StD K H1 H σ Γ) (e : Same H0 H1) (na : ∀ (i : Nat) (d : PyData), Γ[i]? ≠ some (.arg d)) : StD K H0 H σ Γ :=
  ⟨S.len, e.trans S.sm, fun i d h => absurd h (na i d), S.dat, fun i ds h => let ⟨p, xs, a, b, c, d, l⟩ := S.own i ds h; ⟨p, xs, a, Same.free e b, c, d, l⟩, S.apart⟩
/-- a loop that changes no list of ours -/
theorem go_for (hi : ItD K wi Γ ds) (P : Nat → Prop) (G : Nat → Ga) (ws : List Nat) (h0 : P 0) (hl0 : (G 0).length = Γ.length) (hG0 : ∀ (j : Nat) (s : Sl), (G 0)[j]? = some s → s ≠ .no → (Γ.map toDat)[j]? = some s) (na : ∀ (i : Nat) (d : PyData), (G ds.length)[i]? ≠ some (.arg d))
    (ht : ∀ H1, Same H0 H1 → ∀ i d, ds[i]? = some d → P i → ∃ Γ1, TgD K g ws (G i) d Γ1 ∧ Go K H1 tb Γ1 { D with nx := fun σ H => StD K H1 H σ (G (i + 1)) ∧ P (i + 1), ct := fun σ H => StD K H1 H σ (G (i + 1)) ∧ P (i + 1), bk := D.nx })
    (hd : P ds.length → Nx K H0 D (G ds.length)) : Go K H0 (tFor wi g tb) Γ D := fun σ H S => by
  refine hi H0 σ H S _ fun J H1 s1 y => ?_
  have S1 : StD K H1 H1 σ (G 0) := (S.same s1).based.weak (by rw [List.length_map]; exact hl0) hG0
  refine ⟨fun i m σ H' => m = ds.length - i ∧ i ≤ ds.length ∧ StD K H1 H' σ (G i) ∧ P i, ⟨ds.length, by simp, Nat.zero_le _, S1, h0⟩, ?_⟩
  rintro i m σ' H' ⟨rfl, hle, S2, hp⟩
  obtain ⟨y1, y2⟩ := y i H' S2.sm
  by_cases hlt : i < ds.length
  · have hd : ds[i]? = some ds[i] := List.getElem?_eq_getElem hlt
    obtain ⟨go, yl⟩ := y2 _ hd
    obtain ⟨Γ1, tg, gb⟩ := ht H1 (S.sm.trans s1) i _ hd hp
    refine .inr ⟨go, fun σ H => StD K H1 H σ (G (i + 1)) ∧ P (i + 1), fun σ2 H2 h => ⟨ds.length - (i + 1), by omega, rfl, hlt, h.1, h.2⟩, fun x H2 hy => ?_⟩
    obtain ⟨s2, dx⟩ := yl x H2 hy
    exact tg H1 σ' H2 x (S2.same s2) dx _ fun σ3 S3 _ _ => gb σ3 H2 S3
  · have e : i = ds.length := by omega
    subst e
    exact .inl ⟨y1 (Nat.le_refl _), hd hp σ' H' (S2.rebase (S.sm.trans s1) na)⟩
/-- a loop over what does not hang on the heap: lists of ours may grow -/
theorem go_forA (hi : ItA K wi Γ ds) (P : Nat → Prop) (G : Nat → Ga) (ws : List Nat) (h0 : P 0) (hl0 : (G 0).length = Γ.length) (hG0 : ∀ (j : Nat) (s : Sl), (G 0)[j]? = some s → s ≠ .no → Γ[j]? = some s)
    (ht : ∀ i d, ds[i]? = some d → P i → ∃ Γ1, TgD K g ws (G i) d Γ1 ∧ Go K H0 tb Γ1 { D with nx := fun σ H => StD K H0 H σ (G (i + 1)) ∧ P (i + 1), ct := fun σ H => StD K H0 H σ (G (i + 1)) ∧ P (i + 1), bk := D.nx })
    (hd : P ds.length → Nx K H0 D (G ds.length)) : Go K H0 (tFor wi g tb) Γ D := fun σ H S => by
  refine hi H0 σ H S _ fun J H1 s1 y => ?_
  have S1 : StD K H0 H1 σ (G 0) := (S.same s1).weak hl0 hG0
  refine ⟨fun i m σ H' => m = ds.length - i ∧ i ≤ ds.length ∧ StD K H0 H' σ (G i) ∧ P i, ⟨ds.length, by simp, Nat.zero_le _, S1, h0⟩, ?_⟩
  rintro i m σ' H' ⟨rfl, hle, S2, hp⟩
  obtain ⟨y1, y2⟩ := y i H' trivial
  by_cases hlt : i < ds.length
  · have hd : ds[i]? = some ds[i] := List.getElem?_eq_getElem hlt
    obtain ⟨go, yl⟩ := y2 _ hd
    obtain ⟨Γ1, tg, gb⟩ := ht i _ hd hp
    refine .inr ⟨go, fun σ H => StD K H0 H σ (G (i + 1)) ∧ P (i + 1), fun σ2 H2 h => ⟨ds.length - (i + 1), by omega, rfl, hlt, h.1, h.2⟩, fun x H2 hy => ?_⟩
    obtain ⟨s2, dx⟩ := yl x H2 hy
    exact tg H0 σ' H2 x (S2.same s2) dx _ fun σ3 S3 _ _ => gb σ3 H2 S3
  · have e : i = ds.length := by omega
    subst e
    exact .inl ⟨y1 (Nat.le_refl _), hd hp σ' H' S2⟩
end
end K82

/-! part Ev -/
set_option Elab.async false
set_option linter.all false
set_option maxRecDepth 100000
set_option maxHeartbeats 4000000
set_option autoImplicit false
set_option exponentiation.threshold 9000
/-! data of this text, and what evaluates to it -/
namespace K82
open PySem PySem.Spec PyProof.Rows L2
open SX (S S_len S_cat S_inj num_S lens join_S split_S)
abbrev sD (l : List Nat) : PyData := .str (S l)
abbrev iD (i : Int) : PyData := .int i
def frD (f : Fr) : PyData := .tuple [.int f.1, .int f.2]
def nuD (u : Nu) : PyData := .tuple [frD u.1, frD u.2]
def vsD (us : List Nu) : PyData := .tuple (us.map nuD)
def paD (p : Pa) : PyData := .tuple [nuD p.1, vsD p.2]
def daD (D : Da) : PyData := .tuple (D.map paD)
abbrev slD : Sl → PyData
  | .no => .none
  | .arg d => d
  | .dat d => d
  | .own ds => .list ds
theorem lf_fr (f : Fr) : LF (frD f) := .tup fun x hx => by
  rcases List.mem_cons.mp hx with h | hx
  · rw [h]; exact .int _
  · rw [List.mem_singleton.mp hx]; exact .int _
theorem lf_nu (u : Nu) : LF (nuD u) := .tup fun x hx => by
  rcases List.mem_cons.mp hx with h | hx
  · rw [h]; exact lf_fr _
  · rw [List.mem_singleton.mp hx]; exact lf_fr _
theorem lf_vs (us : List Nu) : LF (vsD us) := .tup fun x hx => by
  obtain ⟨u, _, rfl⟩ := List.mem_map.mp hx
  exact lf_nu u
theorem lf_pa (p : Pa) : LF (paD p) := .tup fun x hx => by
  rcases List.mem_cons.mp hx with h | hx
  · rw [h]; exact lf_nu _
  · rw [List.mem_singleton.mp hx]; exact lf_vs _
theorem lf_da (D : Da) : LF (daD D) := .tup fun x hx => by
  obtain ⟨u, _, rfl⟩ := List.mem_map.mp hx
  exact lf_pa u
/-! ### shapes and == -/
theorem lay_fr (f : Fr) : (frD f).canLay0 = true := by simp [frD, PyData.canLay0, PyData.canLayAll0]
theorem dep_fr (f : Fr) : (frD f).depth = 1 := by simp [frD, PyData.depth, PyData.depthAll]
theorem lay_nu (u : Nu) : (nuD u).canLay0 = true := by simp [nuD, PyData.canLay0, PyData.canLayAll0, lay_fr]
theorem dep_nu (u : Nu) : (nuD u).depth = 2 := by simp [nuD, PyData.depth, PyData.depthAll, dep_fr]
theorem lay_all {f : Nu → PyData} (h : ∀ u, (f u).canLay0 = true) : ∀ us : List Nu, PyData.canLayAll0 (us.map f) = true
  | [] => by simp [PyData.canLayAll0]
  | u :: us => by simp [PyData.canLayAll0, h u, lay_all h us]
theorem dep_nus : ∀ us : List Nu, PyData.depthAll (us.map nuD) ≤ 2
  | [] => by simp [PyData.depthAll]
  | u :: us => by
    have h1 := dep_nus us
    have h2 := dep_nu u
    simp only [List.map_cons, PyData.depthAll]
    omega
theorem shp {d : PyData} (h : d.canLay0 = true) (h2 : d.depth ≤ 64) : SeqAt.shaped d = true := by
  show (d.canLay0 && decide (d.depth ≤ 64)) = true
  rw [Bool.and_eq_true]
  exact ⟨h, decide_eq_true h2⟩
theorem shp_fr (f : Fr) : SeqAt.shaped (frD f) = true := shp (lay_fr f) (by rw [dep_fr]; decide)
theorem shp_nu (u : Nu) : SeqAt.shaped (nuD u) = true := shp (lay_nu u) (by rw [dep_nu]; decide)
theorem shp_nus (us : List Nu) : SeqAt.shaped (.list (us.map nuD)) = true := shp (by simp only [PyData.canLay0]; exact lay_all lay_nu us) (by
  have := dep_nus us
  simp only [PyData.depth]
  omega)
theorem shp_nil : SeqAt.shaped (.list []) = true := by decide +kernel
theorem eqv_fr (f g : Fr) : PyData.eqv (frD f) (frD g) = decide (f = g) := by
  obtain ⟨a, b⟩ := f
  obtain ⟨c, d⟩ := g
  have e : PyData.eqv (frD (a, b)) (frD (c, d)) = ((a == c) && ((b == d) && true)) := by simp only [frD, PyData.eqv, PyData.eqvAll]
  rw [e, Bool.and_true, Bool.eq_iff_iff]
  simp
theorem eqv_nu (u v : Nu) : PyData.eqv (nuD u) (nuD v) = decide (u = v) := by
  obtain ⟨a, b⟩ := u
  obtain ⟨c, d⟩ := v
  have e : PyData.eqv (nuD (a, b)) (nuD (c, d)) = (PyData.eqv (frD a) (frD c) && (PyData.eqv (frD b) (frD d) && true)) := by simp only [nuD, PyData.eqv, PyData.eqvAll]
  rw [e, Bool.and_true, eqv_fr, eqv_fr, Bool.eq_iff_iff]
  simp
theorem eqv_nil (ds : List PyData) : PyData.eqv (.list ds) (.list []) = decide (ds = []) := by
  cases ds with
  | nil => simp [PyData.eqv, PyData.eqvAll]
  | cons d ds => simp [PyData.eqv, PyData.eqvAll]
theorem any_nu (us : List Nu) (u : Nu) : ((us.map nuD).any fun z => PyData.eqv z (nuD u)) = decide (u ∈ us) := by
  rw [List.any_map, Bool.eq_iff_iff, List.any_eq_true, decide_eq_true_iff]
  constructor
  · rintro ⟨v, hv, e⟩
    have e' : PyData.eqv (nuD v) (nuD u) = true := e
    rw [eqv_nu, decide_eq_true_iff] at e'
    exact e' ▸ hv
  · intro h
    refine ⟨u, h, ?_⟩
    show PyData.eqv (nuD u) (nuD u) = true
    rw [eqv_nu]
    exact decide_eq_true rfl
section
variable {K : PySem.W.Frag} {Γ : Ga} {ta tb te to tl : TE} {d e z : PyData} {ds es : List PyData} {t u : TT} {x y : List Nat}
theorem ev_no {i : Nat} : True := trivial
theorem ev_dat {i : Nat} (h : Γ[i]? = some (.dat d)) : EvG K (tVar i) Γ d := ev_var h
theorem ev_lit {q : Str} (h : q = S x) : EvG K (tC (.str q)) Γ (sD x) := by
  rw [h]
  exact ev_str
theorem ev_addS (h1 : EvG K ta Γ (sD x)) (h2 : EvG K tb Γ (sD y)) (hl : x.length + y.length ≤ 1000000) : EvG K (tOp rAddS ta tb) Γ (sD (x ++ y)) := by
  refine ev_is (ev_op h1 h2 (opv_addS (by rw [S_len, S_len]; exact hl))) ?_
  rw [S_cat]
theorem S_dec {a b : List Nat} : decide (V.str (S a) = V.str (S b)) = decide (a = b) := decide_eq_decide.mpr ⟨fun h => S_inj (V.str.inj h), fun h => by rw [h]⟩
theorem opv_eqS : OpV K rEq (sD x) (sD y) (.bool (decide (x = y))) := fun H a b ha hb Q q => by
  rw [ha.strI, hb.strI]
  refine ⟨rfl, ?_⟩
  rw [S_dec]
  exact q _ H (Same.refl H) (.bl _)
theorem opv_neS : OpV K rNe (sD x) (sD y) (.bool (!decide (x = y))) := fun H a b ha hb Q q => by
  rw [ha.strI, hb.strI]
  refine ⟨rfl, ?_⟩
  rw [S_dec]
  exact q _ H (Same.refl H) (.bl _)
theorem I_dec {a b : Int} : decide (V.int a = V.int b) = decide (a = b) := decide_eq_decide.mpr ⟨fun h => V.int.inj h, fun h => by rw [h]⟩
theorem opv_eqI {i j : Int} : OpV K rEq (.int i) (.int j) (.bool (decide (i = j))) := fun H a b ha hb Q q => by
  rw [ha.intI, hb.intI]
  refine ⟨rfl, ?_⟩
  rw [I_dec]
  exact q _ H (Same.refl H) (.bl _)
theorem opv_neI {i j : Int} : OpV K rNe (.int i) (.int j) (.bool (!decide (i = j))) := fun H a b ha hb Q q => by
  rw [ha.intI, hb.intI]
  refine ⟨rfl, ?_⟩
  rw [I_dec]
  exact q _ H (Same.refl H) (.bl _)
theorem opv_eqB {i j : Bool} : OpV K rEq (.bool i) (.bool j) (.bool (decide (i = j))) := fun H a b ha hb Q q => by
  rw [ha.blI, hb.blI]
  refine ⟨rfl, ?_⟩
  rw [show decide (V.bl i = V.bl j) = decide (i = j) from decide_eq_decide.mpr ⟨fun h => V.bl.inj h, fun h => by rw [h]⟩]
  exact q _ H (Same.refl H) (.bl _)
theorem opv_neB {i j : Bool} : OpV K rNe (.bool i) (.bool j) (.bool (!decide (i = j))) := fun H a b ha hb Q q => by
  rw [ha.blI, hb.blI]
  refine ⟨rfl, ?_⟩
  rw [show decide (V.bl i = V.bl j) = decide (i = j) from decide_eq_decide.mpr ⟨fun h => V.bl.inj h, fun h => by rw [h]⟩]
  exact q _ H (Same.refl H) (.bl _)
theorem opv_nil (h : SeqAt.shaped (.list ds) = true) : OpV K (rEqD K) (.list ds) (.list []) (.bool (decide (ds = []))) := by
  rw [← eqv_nil]
  exact opv_eq h shp_nil
theorem opv_nenil (h : SeqAt.shaped (.list ds) = true) : OpV K (rNeD K) (.list ds) (.list []) (.bool (!decide (ds = []))) := by
  rw [← eqv_nil]
  exact opv_ne h shp_nil
theorem opv_eqFr {f g : Fr} : OpV K (rEqD K) (frD f) (frD g) (.bool (decide (f = g))) := by
  rw [← eqv_fr]
  exact opv_eq (shp_fr f) (shp_fr g)
theorem opv_inNu {us : List Nu} {u : Nu} : OpV K (rInD K) (nuD u) (.list (us.map nuD)) (.bool (decide (u ∈ us))) := by
  rw [← any_nu]
  exact opv_inD (shp_nu u) (shp_nus us)
theorem opv_inC {c : Nat} : OpV K rInS (sD [c]) (sD x) (.bool (decide (c ∈ x))) := opv_inS
theorem opv_ixC {i : Nat} {c : Nat} (hl : x.length ≤ 1000000) (h : x[i]? = some c) : OpV K rIxS (sD x) (.int (i : Nat)) (sD [c]) := opv_ixS (by rw [S_len]; exact hl) h
/-! slices of texts -/
def cutL (x : List Nat) (lo hi : Option Int) : List Nat := (x.drop (HT.sIx x.length 0 lo)).take (HT.sIx x.length x.length hi - HT.sIx x.length 0 lo)
theorem cutS_L (x : List Nat) (lo hi : Option Int) : cutS (S x) lo hi = S (cutL x lo hi) := by
  unfold cutS cutL
  rw [S_len]
theorem ev_cut {tl th : TO} {lo hi : Option Int} (h : EvG K te Γ (sD x)) (h1 : EvO K tl Γ lo) (h2 : EvO K th Γ hi) (hl : x.length ≤ 1000000) : EvG K (tSl rSlS te tl th) Γ (sD (cutL x lo hi)) :=
  ev_is (ev_slS h h1 h2 (by rw [S_len]; exact hl)) (by rw [cutS_L])
theorem cut_to (x : List Nat) (n : Nat) : cutL x none (some (n : Int)) = x.take n := by
  unfold cutL
  rw [HT.sIx_none, HT.sIx_nat, List.drop_zero, Nat.sub_zero]
  rcases Nat.le_total n x.length with h | h
  · rw [Nat.min_eq_left h]
  · rw [Nat.min_eq_right h, List.take_of_length_le (Nat.le_refl _), List.take_of_length_le h]
theorem cut_from (x : List Nat) (n : Nat) : cutL x (some (n : Int)) none = x.drop n := by
  unfold cutL
  rw [HT.sIx_none, HT.sIx_nat]
  rcases Nat.le_total n x.length with h | h
  · rw [Nat.min_eq_left h, List.take_of_length_le (by rw [List.length_drop]; omega)]
  · rw [Nat.min_eq_right h, Nat.sub_self, List.take_zero, List.drop_eq_nil_of_le h]
theorem sIx_m1 (n d : Nat) : HT.sIx n d (some (-1)) = n - 1 := by
  show (if (-1 : Int) < 0 then ((-1 : Int) + (n : Int)).toNat else min (-1 : Int).toNat n) = _
  rw [if_pos (by decide)]
  omega
theorem cut_last (x : List Nat) : cutL x (some (-1)) none = x.drop (x.length - 1) := by
  unfold cutL
  rw [HT.sIx_none, sIx_m1, List.take_of_length_le (by rw [List.length_drop]; omega)]
theorem cut_init (x : List Nat) : cutL x none (some (-1)) = x.dropLast := by
  unfold cutL
  rw [HT.sIx_none, sIx_m1, List.drop_zero, Nat.sub_zero, List.dropLast_eq_take]
theorem cut_mid (x : List Nat) (n : Nat) (h : n ≤ x.length) : cutL x (some (n : Int)) (some (-1)) = (x.drop n).dropLast := by
  unfold cutL
  rw [HT.sIx_nat, sIx_m1, Nat.min_eq_left h, List.dropLast_eq_take, List.length_drop]
  congr 1
  omega
theorem last_is {c : Nat} (x : List Nat) : decide (x.drop (x.length - 1) = [c]) = decide (x.getLast? = some c) := by
  refine decide_eq_decide.mpr ?_
  rcases snoc_cases x with h | ⟨p, d, h⟩
  · subst h
    simp
  · subst h
    simp
theorem take1_is {c : Nat} (x : List Nat) : decide (x.take 1 = [c]) = decide (x.head? = some c) := by
  refine decide_eq_decide.mpr ?_
  cases x with
  | nil => simp
  | cons a r => simp
theorem neg_take (x : List Nat) : decide (x.take 1 = [45]) = negS x := by
  rw [take1_is]
  unfold negS
  rw [Bool.eq_iff_iff]
  simp
theorem cut_len (x : List Nat) (lo hi : Option Int) : (cutL x lo hi).length ≤ x.length := by
  unfold cutL
  rw [List.length_take, List.length_drop]
  omega
theorem body_len (x : List Nat) : (bodyS x).length ≤ x.length := by
  unfold bodyS
  split
  · rw [List.length_tail]
    omega
  · exact Nat.le_refl _
/-! built-ins on texts -/
theorem cbv_lenS' (hl : x.length ≤ 1000000) : CbV K (rLenD K) [sD x] (.int (x.length : Nat)) := by
  have := cbv_lenS (K := K) (x := S x) (by rw [S_len]; exact hl)
  rw [S_len] at this
  exact this
theorem str_intL (i : Int) : (toString i : String) = (toString i : String) := rfl
theorem ofStr_int (i : Int) : Str.ofString (toString i) = S (intL i) := by
  unfold intL
  by_cases h : i < 0
  · obtain ⟨n, rfl⟩ : ∃ n : Nat, i = Int.negSucc n := ⟨i.natAbs - 1, by omega⟩
    rw [if_pos h]
    refine TL.ext_tl ?_
    rw [TL.tl_ofString]
    have e : (toString (Int.negSucc n) : String) = "-" ++ toString (n + 1) := rfl
    rw [e]
    have e2 : (toString ((n + 1 : Nat) : Int) : String) = toString (n + 1) := rfl
    have e3 := TL.tl_num (n + 1)
    rw [TL.tl_ofString, e2] at e3
    rw [String.toList_append, List.map_append, e3]
    rfl
  · obtain ⟨n, rfl⟩ : ∃ n : Nat, i = (n : Int) := ⟨i.natAbs, by omega⟩
    rw [if_neg h, Int.natAbs_natCast]
    exact num_S n
theorem cbv_strI {i : Int} (h : i.natAbs < 10 ^ 400) : CbV K rStrI [.int i] (sD (intL i)) := by
  have p : i.natAbs < 2 ^ 1900 := Nat.lt_trans h (Nat.lt_of_lt_of_le pow_400 (Nat.pow_le_pow_right (by decide) (by decide)))
  have := cbv_str (K := K) (i := i) (Nat.lt_of_lt_of_le (PySem.Flt.log2_lt_of (by decide) p) (by decide))
  rw [ofStr_int] at this
  exact this
theorem cbv_intL {n : Nat} (h : wholeL x = some n) : CbV K rIntS [sD x] (.int (n : Nat)) := by
  obtain ⟨h1, h2⟩ := wholeL_some h
  rw [h1]
  have e : intText? (S (TL.numL n)) = some (n : Int) := by
    rw [← num_S]
    exact TL.int_num (by omega)
  exact cbv_intS e (by rw [S_len]; omega)
theorem splC_S {c : Nat} (hc : c < 256) (x : List Nat) : Txt.split (S x) (S [c]) = (splC c x).map S := by
  rw [split_S (by simp) (by simp [hc]), spl_splC]
  cases h : splC c x with
  | nil => exact absurd h (splC_ne c x)
  | cons p ps => rfl
theorem evf_spl {c : Nat} (hc : c < 256) (h : EvG K to Γ (sD x)) (h2 : EvG K te Γ (sD [c])) (hl : x.length ≤ 100000) : EvF K (tM1 rSplit to te) Γ ((splC c x).map sD) := by
  refine evf_is (evf_split h h2 (by rw [S_len]; rfl) (by rw [S_len]; exact hl)) ?_
  rw [splC_S hc, List.map_map]
  rfl
theorem ev_joinS {ys : List (List Nat)} (h : EvG K to Γ (sD x)) (h2 : EvG K te Γ (.list (ys.map sD))) (hl : (ys.map (·.length)).sum + ys.length * x.length ≤ 1000000) : EvG K (tM1 (rJoin K) to te) Γ (sD (TL.joinL x ys)) := by
  have h2' : EvG K te Γ (.list ((ys.map S).map .str)) := by
    rw [List.map_map]
    exact h2
  refine ev_is (ev_join h h2' (by
    rw [lens, S_len, List.length_map]
    exact hl)) ?_
  rw [join_S]
end
/-! rfind -/
theorem pre_one {c i : Nat} {x : List Nat} : TL.pre [c] (x.drop i) = true ↔ x[i]? = some c := by
  unfold TL.pre
  rw [beq_iff_eq]
  show (x.drop i).take 1 = [c] ↔ _
  cases h : x.drop i with
  | nil =>
    rw [List.drop_eq_nil_iff] at h
    rw [List.getElem?_eq_none h]
    simp
  | cons a r =>
    have e : x[i]? = some a := by
      have := congrArg (·[0]?) h
      simpa using this
    rw [e]
    simp
theorem rfind_S (c : Nat) (x : List Nat) : Txt.rfind (S x) (S [c]) = rfindL c x := by
  have hy : TL.tl (S [c]) ≠ [] := by simp
  have at_ : ∀ i, StrLaws.At (S x) (S [c]) (S x).length i ↔ x[i]? = some c := fun i => (TL.at_iff hy i).trans pre_one
  unfold Txt.rfind
  rcases StrLaws.last_spec (S x) (S [c]) with ⟨e, h⟩ | ⟨i, e, h, h2⟩
  · rw [e, rfind_none]
    intro z
    obtain ⟨i, hi, he⟩ := List.mem_iff_getElem.mp z
    exact h i ((at_ i).mpr (by rw [List.getElem?_eq_getElem hi, he]))
  · rw [e]
    have hi := (at_ i).mp h
    obtain ⟨hlt, he⟩ := List.getElem?_eq_some_iff.mp hi
    have cut : x = x.take i ++ c :: x.drop (i + 1) := by
      conv => lhs; rw [← List.take_append_drop i x]
      rw [List.drop_eq_getElem_cons hlt, he]
    have hn : c ∉ x.drop (i + 1) := fun z => by
      obtain ⟨j, hj, hje⟩ := List.mem_iff_getElem.mp z
      refine h2 (i + 1 + j) (by omega) ((at_ _).mpr ?_)
      rw [← List.getElem?_drop, List.getElem?_eq_getElem hj, hje]
    rw [cut, rfind_at hn, List.length_take, Nat.min_eq_left (by omega)]
section
variable {K : PySem.W.Frag} {Γ : Ga} {te to : TE} {x : List Nat} {c : Nat}
theorem ev_rfS (h : EvG K to Γ (sD x)) (h2 : EvG K te Γ (sD [c])) : EvG K (tM1 rRfind to te) Γ (.int (rfindL c x)) := ev_is (ev_rfind h h2) (by rw [rfind_S])
end
end K82

/-! part Txt -/
set_option Elab.async false
set_option linter.all false
set_option maxRecDepth 100000
set_option maxHeartbeats 4000000
set_option autoImplicit false
set_option exponentiation.threshold 9000
/-! the text: what its names stand for -/
namespace K82
open PySem PySem.Spec PyProof.Rows L2
open SX (S S_len S_cat S_inj num_S lens join_S split_S)
structure Txt (K : PySem.W.Frag) (mg : Str → Option Value) where
  e_is_whole : FuncData
  d_is_whole : DefOk K mg "is_whole" S_is_whole (He.ga K "is_whole") e_is_whole
  e_is_frac : FuncData
  d_is_frac : DefOk K mg "is_frac" S_is_frac (He.ga K "is_frac") e_is_frac
  e_is_num : FuncData
  d_is_num : DefOk K mg "is_num" S_is_num (He.ga K "is_num") e_is_num
  e_frac_reduced : FuncData
  d_frac_reduced : DefOk K mg "frac_reduced" S_frac_reduced (He.ga K "frac_reduced") e_frac_reduced
  e_num_size : FuncData
  d_num_size : DefOk K mg "num_size" S_num_size (He.ga K "num_size") e_num_size
  e_num_is_within : FuncData
  d_num_is_within : DefOk K mg "num_is_within" S_num_is_within (He.ga K "num_is_within") e_num_is_within
  e_is_place : FuncData
  d_is_place : DefOk K mg "is_place" S_is_place (He.ga K "is_place") e_is_place
  e_is_pair : FuncData
  d_is_pair : DefOk K mg "is_pair" S_is_pair (He.ga K "is_pair") e_is_pair
  e_count_values : FuncData
  d_count_values : DefOk K mg "count_values" S_count_values (He.ga K "count_values") e_count_values
  e_wrong_in_data : FuncData
  d_wrong_in_data : DefOk K mg "wrong_in_data" S_wrong_in_data (He.ga K "wrong_in_data") e_wrong_in_data
  e_places_of : FuncData
  d_places_of : DefOk K mg "places_of" S_places_of (He.ga K "places_of") e_places_of
  e_check_data : FuncData
  d_check_data : DefOk K mg "check_data" S_check_data (He.ga K "check_data") e_check_data
  e_fraction_text : FuncData
  d_fraction_text : DefOk K mg "fraction_text" S_fraction_text (He.ga K "fraction_text") e_fraction_text
  e_number_written : FuncData
  d_number_written : DefOk K mg "number_written" S_number_written (He.ga K "number_written") e_number_written
  e_numbers_written : FuncData
  d_numbers_written : DefOk K mg "numbers_written" S_numbers_written (He.ga K "numbers_written") e_numbers_written
  e_pair_written : FuncData
  d_pair_written : DefOk K mg "pair_written" S_pair_written (He.ga K "pair_written") e_pair_written
  e_data_written : FuncData
  d_data_written : DefOk K mg "data_written" S_data_written (He.ga K "data_written") e_data_written
  e_whole_in : FuncData
  d_whole_in : DefOk K mg "whole_in" S_whole_in (He.ga K "whole_in") e_whole_in
  e_fraction_in : FuncData
  d_fraction_in : DefOk K mg "fraction_in" S_fraction_in (He.ga K "fraction_in") e_fraction_in
  e_split_at : FuncData
  d_split_at : DefOk K mg "split_at" S_split_at (He.ga K "split_at") e_split_at
  e_number_in : FuncData
  d_number_in : DefOk K mg "number_in" S_number_in (He.ga K "number_in") e_number_in
  e_place_in : FuncData
  d_place_in : DefOk K mg "place_in" S_place_in (He.ga K "place_in") e_place_in
  e_wrong_word : FuncData
  d_wrong_word : DefOk K mg "wrong_word" S_wrong_word (He.ga K "wrong_word") e_wrong_word
  e_data_in : FuncData
  d_data_in : DefOk K mg "data_in" S_data_in (He.ga K "data_in") e_data_in
  e_check_text : FuncData
  d_check_text : DefOk K mg "check_text" S_check_text (He.ga K "check_text") e_check_text
  e_data_text : FuncData
  d_data_text : DefOk K mg "data_text" S_data_text (He.ga K "data_text") e_data_text
  e_read_data : FuncData
  d_read_data : DefOk K mg "read_data" S_read_data (He.ga K "read_data") e_read_data
  e__law_well : FuncData
  d__law_well : DefOk K mg "_law_well" S__law_well (He.ga K "_law_well") e__law_well
  e__law_draw : FuncData
  d__law_draw : DefOk K mg "_law_draw" S__law_draw (He.ga K "_law_draw") e__law_draw
  e__law_one_of : FuncData
  d__law_one_of : DefOk K mg "_law_one_of" S__law_one_of (He.ga K "_law_one_of") e__law_one_of
  e__law_near : FuncData
  d__law_near : DefOk K mg "_law_near" S__law_near (He.ga K "_law_near") e__law_near
  e__law_part : FuncData
  d__law_part : DefOk K mg "_law_part" S__law_part (He.ga K "_law_part") e__law_part
  e__law_part_text : FuncData
  d__law_part_text : DefOk K mg "_law_part_text" S__law_part_text (He.ga K "_law_part_text") e__law_part_text
  e__law_number_text : FuncData
  d__law_number_text : DefOk K mg "_law_number_text" S__law_number_text (He.ga K "_law_number_text") e__law_number_text
  e__law_read_whole : FuncData
  d__law_read_whole : DefOk K mg "_law_read_whole" S__law_read_whole (He.ga K "_law_read_whole") e__law_read_whole
  e__law_read_part : FuncData
  d__law_read_part : DefOk K mg "_law_read_part" S__law_read_part (He.ga K "_law_read_part") e__law_read_part
  e__law_read_number : FuncData
  d__law_read_number : DefOk K mg "_law_read_number" S__law_read_number (He.ga K "_law_read_number") e__law_read_number
  e__law_of_line : FuncData
  d__law_of_line : DefOk K mg "_law_of_line" S__law_of_line (He.ga K "_law_of_line") e__law_of_line
  e__law_is_within : FuncData
  d__law_is_within : DefOk K mg "_law_is_within" S__law_is_within (He.ga K "_law_is_within") e__law_is_within
  e__law_own : FuncData
  d__law_own : DefOk K mg "_law_own" S__law_own (He.ga K "_law_own") e__law_own
  e__law_told : FuncData
  d__law_told : DefOk K mg "_law_told" S__law_told (He.ga K "_law_told") e__law_told
  e__law_word : FuncData
  d__law_word : DefOk K mg "_law_word" S__law_word (He.ga K "_law_word") e__law_word
  e__law_spot : FuncData
  d__law_spot : DefOk K mg "_law_spot" S__law_spot (He.ga K "_law_spot") e__law_spot
  e__law_lines : FuncData
  d__law_lines : DefOk K mg "_law_lines" S__law_lines (He.ga K "_law_lines") e__law_lines
  e__law_bent_word : FuncData
  d__law_bent_word : DefOk K mg "_law_bent_word" S__law_bent_word (He.ga K "_law_bent_word") e__law_bent_word
  e__law_right : FuncData
  d__law_right : DefOk K mg "_law_right" S__law_right (He.ga K "_law_right") e__law_right
  e_law : FuncData
  d_law : DefOk K mg "law" S_law (He.ga K "law") e_law
  f_len : mg "len" = none
  f_isinstance : mg "isinstance" = none
  f_sum : mg "sum" = none
  f_all : mg "all" = none
  f_enumerate : mg "enumerate" = none
  f_max : mg "max" = none
  f_min : mg "min" = none
  f_str : mg "str" = none
  f_int : mg "int" = none
  f_bool : mg "bool" = none
  f_tuple : mg "tuple" = none
  f_range : mg "range" = none
  f_abs : mg "abs" = none
  f_divmod : mg "divmod" = none
  f_repr : mg "repr" = none
  f_ValueError : mg "ValueError" = none
  c_MOST_PLACES : ∃ t, mg "MOST_PLACES" = some (.int 6 t)
  c_MOST_AT_ONE : ∃ t, mg "MOST_AT_ONE" = some (.int 3 t)
  c_MOST_VALUES : ∃ t, mg "MOST_VALUES" = some (.int 6 t)
  c_MOST_FIGURES : ∃ t, mg "MOST_FIGURES" = some (.int 400 t)
  c_FIGURES : ∃ t, mg "FIGURES" = some (.str "0123456789" t)
  c_FRAC_NOUGHT : mg "FRAC_NOUGHT" = some (.ref (He.ga K "FRAC_NOUGHT"))
  c_InvalidText : mg "InvalidText" = some (.ref (He.ga K "InvalidText"))
  c_InvalidData : mg "InvalidData" = some (.ref (He.ga K "InvalidData"))
  c_RimError : mg "RimError" = some (.ref (He.ga K "RimError"))
  c_gcd : mg "gcd" = some (.builtin "math.gcd")
  e_init : FuncData
  d_init : FunD K "__init__" "InvalidText.__init__" (defArgs (inClass (top 21) 0)) (defBody (inClass (top 21) 0)) (defScope (inClass (top 21) 0)) [] [] (He.ma K (He.ga K "InvalidText") "__init__") e_init
  ex : exB K = true
variable {K : PySem.W.Frag} {mg : Str → Option Value}
theorem sc_is_whole : FnScope ["value"] ["value"] (defScope S_is_whole) := ⟨rfl, rfl, rfl, by decide +kernel, rfl, by decide +kernel, by decide +kernel⟩
theorem b_is_whole (T : Txt K mg) : Binds K T.e_is_whole ["value"] [] := T.d_is_whole.f.bindsN fun _ _ _ _ _ _ us hl => match us, hl with | [_], _ => rfl
theorem sc_is_frac : FnScope ["value"] ["value"] (defScope S_is_frac) := ⟨rfl, rfl, rfl, by decide +kernel, rfl, by decide +kernel, by decide +kernel⟩
theorem b_is_frac (T : Txt K mg) : Binds K T.e_is_frac ["value"] [] := T.d_is_frac.f.bindsN fun _ _ _ _ _ _ us hl => match us, hl with | [_], _ => rfl
theorem sc_is_num : FnScope ["value"] ["value"] (defScope S_is_num) := ⟨rfl, rfl, rfl, by decide +kernel, rfl, by decide +kernel, by decide +kernel⟩
theorem b_is_num (T : Txt K mg) : Binds K T.e_is_num ["value"] [] := T.d_is_num.f.bindsN fun _ _ _ _ _ _ us hl => match us, hl with | [_], _ => rfl
theorem sc_frac_reduced : FnScope ["n", "m", "divisor"] ["n", "m"] (defScope S_frac_reduced) := ⟨rfl, rfl, rfl, by decide +kernel, rfl, by decide +kernel, by decide +kernel⟩
theorem b_frac_reduced (T : Txt K mg) : Binds K T.e_frac_reduced ["n", "m"] [] := T.d_frac_reduced.f.bindsN fun _ _ _ _ _ _ us hl => match us, hl with | [_, _], _ => rfl
theorem sc_num_size : FnScope ["x", "a", "b", "c", "d"] ["x"] (defScope S_num_size) := ⟨rfl, rfl, rfl, by decide +kernel, rfl, by decide +kernel, by decide +kernel⟩
theorem b_num_size (T : Txt K mg) : Binds K T.e_num_size ["x"] [] := T.d_num_size.f.bindsN fun _ _ _ _ _ _ us hl => match us, hl with | [_], _ => rfl
theorem sc_num_is_within : FnScope ["x", "size"] ["x"] (defScope S_num_is_within) := ⟨rfl, rfl, rfl, by decide +kernel, rfl, by decide +kernel, by decide +kernel⟩
theorem b_num_is_within (T : Txt K mg) : Binds K T.e_num_is_within ["x"] [] := T.d_num_is_within.f.bindsN fun _ _ _ _ _ _ us hl => match us, hl with | [_], _ => rfl
theorem sc_is_place : FnScope ["value"] ["value"] (defScope S_is_place) := ⟨rfl, rfl, rfl, by decide +kernel, rfl, by decide +kernel, by decide +kernel⟩
theorem b_is_place (T : Txt K mg) : Binds K T.e_is_place ["value"] [] := T.d_is_place.f.bindsN fun _ _ _ _ _ _ us hl => match us, hl with | [_], _ => rfl
theorem sc_is_pair : FnScope ["value", "each"] ["value"] (defScope S_is_pair) := ⟨rfl, rfl, rfl, by decide +kernel, rfl, by decide +kernel, by decide +kernel⟩
theorem b_is_pair (T : Txt K mg) : Binds K T.e_is_pair ["value"] [] := T.d_is_pair.f.bindsN fun _ _ _ _ _ _ us hl => match us, hl with | [_], _ => rfl
theorem sc_count_values : FnScope ["data", "_", "values"] ["data"] (defScope S_count_values) := ⟨rfl, rfl, rfl, by decide +kernel, rfl, by decide +kernel, by decide +kernel⟩
theorem b_count_values (T : Txt K mg) : Binds K T.e_count_values ["data"] [] := T.d_count_values.f.bindsN fun _ _ _ _ _ _ us hl => match us, hl with | [_], _ => rfl
theorem sc_wrong_in_data : FnScope ["value", "at", "each"] ["value"] (defScope S_wrong_in_data) := ⟨rfl, rfl, rfl, by decide +kernel, rfl, by decide +kernel, by decide +kernel⟩
theorem b_wrong_in_data (T : Txt K mg) : Binds K T.e_wrong_in_data ["value"] [] := T.d_wrong_in_data.f.bindsN fun _ _ _ _ _ _ us hl => match us, hl with | [_], _ => rfl
theorem sc_places_of : FnScope ["data", "place", "_"] ["data"] (defScope S_places_of) := ⟨rfl, rfl, rfl, by decide +kernel, rfl, by decide +kernel, by decide +kernel⟩
theorem b_places_of (T : Txt K mg) : Binds K T.e_places_of ["data"] [] := T.d_places_of.f.bindsN fun _ _ _ _ _ _ us hl => match us, hl with | [_], _ => rfl
theorem sc_check_data : FnScope ["value", "index"] ["value"] (defScope S_check_data) := ⟨rfl, rfl, rfl, by decide +kernel, rfl, by decide +kernel, by decide +kernel⟩
theorem b_check_data (T : Txt K mg) : Binds K T.e_check_data ["value"] [] := T.d_check_data.f.bindsN fun _ _ _ _ _ _ us hl => match us, hl with | [_], _ => rfl
theorem sc_fraction_text : FnScope ["fraction"] ["fraction"] (defScope S_fraction_text) := ⟨rfl, rfl, rfl, by decide +kernel, rfl, by decide +kernel, by decide +kernel⟩
theorem b_fraction_text (T : Txt K mg) : Binds K T.e_fraction_text ["fraction"] [] := T.d_fraction_text.f.bindsN fun _ _ _ _ _ _ us hl => match us, hl with | [_], _ => rfl
theorem sc_number_written : FnScope ["number", "first", "second"] ["number"] (defScope S_number_written) := ⟨rfl, rfl, rfl, by decide +kernel, rfl, by decide +kernel, by decide +kernel⟩
theorem b_number_written (T : Txt K mg) : Binds K T.e_number_written ["number"] [] := T.d_number_written.f.bindsN fun _ _ _ _ _ _ us hl => match us, hl with | [_], _ => rfl
theorem sc_numbers_written : FnScope ["numbers", "each"] ["numbers"] (defScope S_numbers_written) := ⟨rfl, rfl, rfl, by decide +kernel, rfl, by decide +kernel, by decide +kernel⟩
theorem b_numbers_written (T : Txt K mg) : Binds K T.e_numbers_written ["numbers"] [] := T.d_numbers_written.f.bindsN fun _ _ _ _ _ _ us hl => match us, hl with | [_], _ => rfl
theorem sc_pair_written : FnScope ["pair"] ["pair"] (defScope S_pair_written) := ⟨rfl, rfl, rfl, by decide +kernel, rfl, by decide +kernel, by decide +kernel⟩
theorem b_pair_written (T : Txt K mg) : Binds K T.e_pair_written ["pair"] [] := T.d_pair_written.f.bindsN fun _ _ _ _ _ _ us hl => match us, hl with | [_], _ => rfl
theorem sc_data_written : FnScope ["data", "pair"] ["data"] (defScope S_data_written) := ⟨rfl, rfl, rfl, by decide +kernel, rfl, by decide +kernel, by decide +kernel⟩
theorem b_data_written (T : Txt K mg) : Binds K T.e_data_written ["data"] [] := T.d_data_written.f.bindsN fun _ _ _ _ _ _ us hl => match us, hl with | [_], _ => rfl
theorem sc_whole_in : FnScope ["word", "sign"] ["word"] (defScope S_whole_in) := ⟨rfl, rfl, rfl, by decide +kernel, rfl, by decide +kernel, by decide +kernel⟩
theorem b_whole_in (T : Txt K mg) : Binds K T.e_whole_in ["word"] [] := T.d_whole_in.f.bindsN fun _ _ _ _ _ _ us hl => match us, hl with | [_], _ => rfl
theorem sc_fraction_in : FnScope ["word", "parts", "numbers", "top", "low", "found", "part", "each"] ["word"] (defScope S_fraction_in) := ⟨rfl, rfl, rfl, by decide +kernel, rfl, by decide +kernel, by decide +kernel⟩
theorem b_fraction_in (T : Txt K mg) : Binds K T.e_fraction_in ["word"] [] := T.d_fraction_in.f.bindsN fun _ _ _ _ _ _ us hl => match us, hl with | [_], _ => rfl
theorem sc_split_at : FnScope ["word"] ["word"] (defScope S_split_at) := ⟨rfl, rfl, rfl, by decide +kernel, rfl, by decide +kernel, by decide +kernel⟩
theorem b_split_at (T : Txt K mg) : Binds K T.e_split_at ["word"] [] := T.d_split_at.f.bindsN fun _ _ _ _ _ _ us hl => match us, hl with | [_], _ => rfl
theorem sc_number_in : FnScope ["word", "at", "first", "second", "ahead", "behind", "found", "each", "one", "two"] ["word"] (defScope S_number_in) := ⟨rfl, rfl, rfl, by decide +kernel, rfl, by decide +kernel, by decide +kernel⟩
theorem b_number_in (T : Txt K mg) : Binds K T.e_number_in ["word"] [] := T.d_number_in.f.bindsN fun _ _ _ _ _ _ us hl => match us, hl with | [_], _ => rfl
theorem sc_place_in : FnScope ["word", "found", "each"] ["word"] (defScope S_place_in) := ⟨rfl, rfl, rfl, by decide +kernel, rfl, by decide +kernel, by decide +kernel⟩
theorem b_place_in (T : Txt K mg) : Binds K T.e_place_in ["word"] [] := T.d_place_in.f.bindsN fun _ _ _ _ _ _ us hl => match us, hl with | [_], _ => rfl
theorem sc_wrong_word : FnScope ["words", "data", "places", "values", "index", "word", "found"] ["words", "data"] (defScope S_wrong_word) := ⟨rfl, rfl, rfl, by decide +kernel, rfl, by decide +kernel, by decide +kernel⟩
theorem b_wrong_word (T : Txt K mg) : Binds K T.e_wrong_word ["words", "data"] [] := T.d_wrong_word.f.bindsN fun _ _ _ _ _ _ us hl => match us, hl with | [_, _], _ => rfl
theorem sc_data_in : FnScope ["text", "lines", "data", "index", "line", "is_last", "words", "wrong", "pair"] ["text"] (defScope S_data_in) := ⟨rfl, rfl, rfl, by decide +kernel, rfl, by decide +kernel, by decide +kernel⟩
theorem b_data_in (T : Txt K mg) : Binds K T.e_data_in ["text"] [] := T.d_data_in.f.bindsN fun _ _ _ _ _ _ us hl => match us, hl with | [_], _ => rfl
theorem sc_check_text : FnScope ["value"] ["value"] (defScope S_check_text) := ⟨rfl, rfl, rfl, by decide +kernel, rfl, by decide +kernel, by decide +kernel⟩
theorem b_check_text (T : Txt K mg) : Binds K T.e_check_text ["value"] [] := T.d_check_text.f.bindsN fun _ _ _ _ _ _ us hl => match us, hl with | [_], _ => rfl
theorem sc_data_text : FnScope ["data"] ["data"] (defScope S_data_text) := ⟨rfl, rfl, rfl, by decide +kernel, rfl, by decide +kernel, by decide +kernel⟩
theorem b_data_text (T : Txt K mg) : Binds K T.e_data_text ["data"] [] := T.d_data_text.f.bindsN fun _ _ _ _ _ _ us hl => match us, hl with | [_], _ => rfl
theorem sc_read_data : FnScope ["text", "wrong", "data"] ["text"] (defScope S_read_data) := ⟨rfl, rfl, rfl, by decide +kernel, rfl, by decide +kernel, by decide +kernel⟩
theorem b_read_data (T : Txt K mg) : Binds K T.e_read_data ["text"] [] := T.d_read_data.f.bindsN fun _ _ _ _ _ _ us hl => match us, hl with | [_], _ => rfl
theorem sc__law_well : FnScope ["_law_script", "_law_turn", "_law_own_here", "_law_stir", "_law_cell"] ["_law_script", "_law_turn"] (defScope S__law_well) := ⟨rfl, rfl, rfl, by decide +kernel, rfl, by decide +kernel, by decide +kernel⟩
theorem b__law_well (T : Txt K mg) : Binds K T.e__law_well ["_law_script", "_law_turn"] [] := T.d__law_well.f.bindsN fun _ _ _ _ _ _ us hl => match us, hl with | [_, _], _ => rfl
theorem sc__law_draw : FnScope ["_law_well_here", "_law_many", "_law_digit"] ["_law_well_here", "_law_many"] (defScope S__law_draw) := ⟨rfl, rfl, rfl, by decide +kernel, rfl, by decide +kernel, by decide +kernel⟩
theorem b__law_draw (T : Txt K mg) : Binds K T.e__law_draw ["_law_well_here", "_law_many"] [] := T.d__law_draw.f.bindsN fun _ _ _ _ _ _ us hl => match us, hl with | [_, _], _ => rfl
theorem sc__law_one_of : FnScope ["_law_well_here", "_law_some"] ["_law_well_here", "_law_some"] (defScope S__law_one_of) := ⟨rfl, rfl, rfl, by decide +kernel, rfl, by decide +kernel, by decide +kernel⟩
theorem b__law_one_of (T : Txt K mg) : Binds K T.e__law_one_of ["_law_well_here", "_law_some"] [] := T.d__law_one_of.f.bindsN fun _ _ _ _ _ _ us hl => match us, hl with | [_, _], _ => rfl
theorem sc__law_near : FnScope ["_law_one", "_law_two"] ["_law_one", "_law_two"] (defScope S__law_near) := ⟨rfl, rfl, rfl, by decide +kernel, rfl, by decide +kernel, by decide +kernel⟩
theorem b__law_near (T : Txt K mg) : Binds K T.e__law_near ["_law_one", "_law_two"] [] := T.d__law_near.f.bindsN fun _ _ _ _ _ _ us hl => match us, hl with | [_, _], _ => rfl
theorem sc__law_part : FnScope ["_law_n", "_law_m", "_law_g"] ["_law_n", "_law_m"] (defScope S__law_part) := ⟨rfl, rfl, rfl, by decide +kernel, rfl, by decide +kernel, by decide +kernel⟩
theorem b__law_part (T : Txt K mg) : Binds K T.e__law_part ["_law_n", "_law_m"] [] := T.d__law_part.f.bindsN fun _ _ _ _ _ _ us hl => match us, hl with | [_, _], _ => rfl
theorem sc__law_part_text : FnScope ["_law_part_here"] ["_law_part_here"] (defScope S__law_part_text) := ⟨rfl, rfl, rfl, by decide +kernel, rfl, by decide +kernel, by decide +kernel⟩
theorem b__law_part_text (T : Txt K mg) : Binds K T.e__law_part_text ["_law_part_here"] [] := T.d__law_part_text.f.bindsN fun _ _ _ _ _ _ us hl => match us, hl with | [_], _ => rfl
theorem sc__law_number_text : FnScope ["_law_num", "_law_ahead"] ["_law_num"] (defScope S__law_number_text) := ⟨rfl, rfl, rfl, by decide +kernel, rfl, by decide +kernel, by decide +kernel⟩
theorem b__law_number_text (T : Txt K mg) : Binds K T.e__law_number_text ["_law_num"] [] := T.d__law_number_text.f.bindsN fun _ _ _ _ _ _ us hl => match us, hl with | [_], _ => rfl
theorem sc__law_read_whole : FnScope ["_law_word_here", "_law_each"] ["_law_word_here"] (defScope S__law_read_whole) := ⟨rfl, rfl, rfl, by decide +kernel, rfl, by decide +kernel, by decide +kernel⟩
theorem b__law_read_whole (T : Txt K mg) : Binds K T.e__law_read_whole ["_law_word_here"] [] := T.d__law_read_whole.f.bindsN fun _ _ _ _ _ _ us hl => match us, hl with | [_], _ => rfl
theorem sc__law_read_part : FnScope ["_law_word_here", "_law_pieces", "_law_some", "_law_piece"] ["_law_word_here"] (defScope S__law_read_part) := ⟨rfl, rfl, rfl, by decide +kernel, rfl, by decide +kernel, by decide +kernel⟩
theorem b__law_read_part (T : Txt K mg) : Binds K T.e__law_read_part ["_law_word_here"] [] := T.d__law_read_part.f.bindsN fun _ _ _ _ _ _ us hl => match us, hl with | [_], _ => rfl
theorem sc__law_read_number : FnScope ["_law_word_here", "_law_one", "_law_cuts", "_law_at", "_law_two", "_law_k"] ["_law_word_here"] (defScope S__law_read_number) := ⟨rfl, rfl, rfl, by decide +kernel, rfl, by decide +kernel, by decide +kernel⟩
theorem b__law_read_number (T : Txt K mg) : Binds K T.e__law_read_number ["_law_word_here"] [] := T.d__law_read_number.f.bindsN fun _ _ _ _ _ _ us hl => match us, hl with | [_], _ => rfl
theorem sc__law_of_line : FnScope ["_law_words", "_law_found", "_law_room", "_law_at", "_law_told_here", "_law_spots", "_law_k", "_law_word_here", "_law_num", "_law_each"] ["_law_words", "_law_found", "_law_room", "_law_at"] (defScope S__law_of_line) := ⟨rfl, rfl, rfl, by decide +kernel, rfl, by decide +kernel, by decide +kernel⟩
theorem b__law_of_line (T : Txt K mg) : Binds K T.e__law_of_line ["_law_words", "_law_found", "_law_room", "_law_at"] [] := T.d__law_of_line.f.bindsN fun _ _ _ _ _ _ us hl => match us, hl with | [_, _, _, _], _ => rfl
theorem sc__law_is_within : FnScope ["_law_num", "_law_n", "_law_m", "_law_p", "_law_q"] ["_law_num"] (defScope S__law_is_within) := ⟨rfl, rfl, rfl, by decide +kernel, rfl, by decide +kernel, by decide +kernel⟩
theorem b__law_is_within (T : Txt K mg) : Binds K T.e__law_is_within ["_law_num"] [] := T.d__law_is_within.f.bindsN fun _ _ _ _ _ _ us hl => match us, hl with | [_], _ => rfl
theorem sc__law_own : FnScope ["_law_phrase", "_law_found", "_law_room", "_law_lines_here", "_law_at", "_law_words", "_law_pair", "_law_wrong"] ["_law_phrase"] (defScope S__law_own) := ⟨rfl, rfl, rfl, by decide +kernel, rfl, by decide +kernel, by decide +kernel⟩
theorem b__law_own (T : Txt K mg) : Binds K T.e__law_own ["_law_phrase"] [] := T.d__law_own.f.bindsN fun _ _ _ _ _ _ us hl => match us, hl with | [_], _ => rfl
theorem sc__law_told : FnScope ["_law_phrase", "_law_found", "_law_ways", "e"] ["_law_phrase"] (defScope S__law_told) := ⟨rfl, rfl, rfl, by decide +kernel, rfl, by decide +kernel, by decide +kernel⟩
theorem b__law_told (T : Txt K mg) : Binds K T.e__law_told ["_law_phrase"] [] := T.d__law_told.f.bindsN fun _ _ _ _ _ _ us hl => match us, hl with | [_], _ => rfl
theorem sc__law_word : FnScope ["_law_well_here", "_law_one", "_law_two"] ["_law_well_here"] (defScope S__law_word) := ⟨rfl, rfl, rfl, by decide +kernel, rfl, by decide +kernel, by decide +kernel⟩
theorem b__law_word (T : Txt K mg) : Binds K T.e__law_word ["_law_well_here"] [] := T.d__law_word.f.bindsN fun _ _ _ _ _ _ us hl => match us, hl with | [_], _ => rfl
theorem sc__law_spot : FnScope ["_law_well_here", "_law_under", "_law_part_here", "_law_other"] ["_law_well_here"] (defScope S__law_spot) := ⟨rfl, rfl, rfl, by decide +kernel, rfl, by decide +kernel, by decide +kernel⟩
theorem b__law_spot (T : Txt K mg) : Binds K T.e__law_spot ["_law_well_here"] [] := T.d__law_spot.f.bindsN fun _ _ _ _ _ _ us hl => match us, hl with | [_], _ => rfl
theorem sc__law_lines : FnScope ["_law_well_here", "_law_found", "_law_room", "_law_wild", "_law_taken", "_law_turn", "_law_spot_here", "_law_size", "_law_words", "_law_lap"] ["_law_well_here"] (defScope S__law_lines) := ⟨rfl, rfl, rfl, by decide +kernel, rfl, by decide +kernel, by decide +kernel⟩
theorem b__law_lines (T : Txt K mg) : Binds K T.e__law_lines ["_law_well_here"] [] := T.d__law_lines.f.bindsN fun _ _ _ _ _ _ us hl => match us, hl with | [_], _ => rfl
theorem sc__law_bent_word : FnScope ["_law_well_here", "_law_words", "_law_at", "_law_way", "_law_odd"] ["_law_well_here", "_law_words"] (defScope S__law_bent_word) := ⟨rfl, rfl, rfl, by decide +kernel, rfl, by decide +kernel, by decide +kernel⟩
theorem b__law_bent_word (T : Txt K mg) : Binds K T.e__law_bent_word ["_law_well_here", "_law_words"] [] := T.d__law_bent_word.f.bindsN fun _ _ _ _ _ _ us hl => match us, hl with | [_, _], _ => rfl
theorem sc__law_right : FnScope ["_law_well_here", "_law_lines_here", "_law_turn", "_law_at", "_law_phrase", "_law_way", "_law_due", "_law_words"] ["_law_well_here"] (defScope S__law_right) := ⟨rfl, rfl, rfl, by decide +kernel, rfl, by decide +kernel, by decide +kernel⟩
theorem b__law_right (T : Txt K mg) : Binds K T.e__law_right ["_law_well_here"] [] := T.d__law_right.f.bindsN fun _ _ _ _ _ _ us hl => match us, hl with | [_], _ => rfl
theorem sc_law : FnScope ["_law_script", "_law_turn"] ["_law_script"] (defScope S_law) := ⟨rfl, rfl, rfl, by decide +kernel, rfl, by decide +kernel, by decide +kernel⟩
theorem b_law (T : Txt K mg) : Binds K T.e_law ["_law_script"] [] := T.d_law.f.bindsN fun _ _ _ _ _ _ us hl => match us, hl with | [_], _ => rfl
theorem nought (T : Txt K mg) (H : Hp) : SqT K H (He.ga K "FRAC_NOUGHT") [.int 0, .int 1] := by
  have h := T.ex
  unfold exB at h
  rw [Bool.and_eq_true] at h
  exact He.tupB_ok h.1 H
theorem dp_nought (T : Txt K mg) (H : Hp) : Dp K H (.ref (He.ga K "FRAC_NOUGHT")) (frD (0, 1)) := .tup (nought T H) (.cons (.int 0) (.cons (.int 1) .nil))
theorem ev_nought (T : Txt K mg) {Γ : Ga} : EvG K (tC (.ref (He.ga K "FRAC_NOUGHT"))) Γ (frD (0, 1)) := fun H0 σ H S Q q => q _ H (Same.refl H) (dp_nought T H)
theorem u65 {k : Nat} {A : Around} (h : Room k A) : A.units + 65 < cLine := by
  have := h.un
  omega
theorem u64 {k : Nat} {A : Around} (h : Room k A) : A.units + 64 < cLine := by
  have := h.un
  omega
end K82

/-! part Fv -/
set_option Elab.async false
set_option linter.all false
set_option maxRecDepth 100000
set_option maxHeartbeats 4000000
set_option autoImplicit false
set_option exponentiation.threshold 9000
/-! more of the layer -/
namespace K82
open PySem PySem.Spec PyProof.Rows L2
open SX (S S_len S_cat S_inj num_S lens join_S split_S)
section
variable {K : PySem.W.Frag} {Γ Γ' : Ga} {ta tb te to tl : TE} {d e z : PyData} {ds es : List PyData} {t u : TT} {x y : List Nat} {D : Ends} {H0 : Hp} {t1 t2 : TS}
theorem ev_ifT (h : EvB K t Γ true) (h1 : EvG K ta Γ d) : EvG K (tIf t ta tb) Γ d := ev_if h (fun _ => h1) (fun z => nomatch z)
theorem ev_ifF (h : EvB K t Γ false) (h1 : EvG K tb Γ d) : EvG K (tIf t ta tb) Γ d := ev_if h (fun z => nomatch z) (fun _ => h1)
theorem evf_ifT (h : EvB K t Γ true) (h1 : EvF K ta Γ ds) : EvF K (tIf t ta tb) Γ ds := evf_if h (fun _ => h1) (fun z => nomatch z)
theorem evf_ifF (h : EvB K t Γ false) (h1 : EvF K tb Γ ds) : EvF K (tIf t ta tb) Γ ds := evf_if h (fun z => nomatch z) (fun _ => h1)
theorem go_ifT (h : EvB K t Γ true) (h1 : Go K H0 t1 Γ D) : Go K H0 (tIfS t t1 t2) Γ D := go_if h (fun _ => h1) (fun z => nomatch z)
theorem go_ifF (h : EvB K t Γ false) (h1 : Go K H0 t2 Γ D) : Go K H0 (tIfS t t1 t2) Γ D := go_if h (fun z => nomatch z) (fun _ => h1)
theorem evb_orT1 (h : EvB K t Γ true) : EvB K (tOr t u) Γ true := evb_is (evb_or (b := true) h (fun z => nomatch z)) rfl
theorem evb_orF (h : EvB K t Γ false) {b : Bool} (h2 : EvB K u Γ b) : EvB K (tOr t u) Γ b := evb_is (evb_or h (fun _ => h2)) (Bool.false_or b)
theorem evb_andF1 (h : EvB K t Γ false) : EvB K (tAnd t u) Γ false := evb_is (evb_and (b := true) h (fun z => nomatch z)) rfl
theorem evb_andT (h : EvB K t Γ true) {b : Bool} (h2 : EvB K u Γ b) : EvB K (tAnd t u) Γ b := evb_is (evb_and h (fun _ => h2)) (Bool.true_and b)
theorem ev_slT {tl th : TO} {lo hi : Option Int} (h : EvG K te Γ (.tuple ds)) (h1 : EvO K tl Γ lo) (h2 : EvO K th Γ hi) : EvG K (tSl (rSlA K) te tl th) Γ (.tuple (cutD ds lo hi)) := fun H0 σ H S Q q =>
  h H0 σ H S _ fun v H1 s1 hv => h1 H0 σ H1 (S.same s1) _ fun H2 s2 => h2 H0 σ H2 (S.same (s1.trans s2)) _ fun H3 s3 => by
    obtain ⟨a, xs, rfl, hs, ha⟩ := (Dp.same (s2.trans s3) hv).tupI
    have s123 := (s1.trans s2).trans s3
    have hl := DpAll.length ha
    refine ⟨a, xs, rfl, hs, fun w => ?_, fun _ p hp => ?_⟩
    · refine q _ _ s123 (.tup hs ?_)
      have e : cutD ds lo hi = ds := by
        unfold cutD
        rw [← hl, w.1, w.2, List.drop_zero, Nat.sub_zero, hl, List.take_length]
      rw [e]
      exact ha
    · exact q _ _ (s123.trans (Same.new hp)) (.tup (SqT.of upd_same) (DpAll.same (Same.new hp) (DpAll.cut lo hi ha)))
theorem cutD_to (ds : List PyData) (n : Nat) : cutD ds none (some (n : Int)) = ds.take n := by
  unfold cutD
  rw [HT.sIx_none, HT.sIx_nat, List.drop_zero, Nat.sub_zero]
  rcases Nat.le_total n ds.length with h | h
  · rw [Nat.min_eq_left h]
  · rw [Nat.min_eq_right h, List.take_of_length_le (Nat.le_refl _), List.take_of_length_le h]
theorem cutD_from (ds : List PyData) (n : Nat) : cutD ds (some (n : Int)) none = ds.drop n := by
  unfold cutD
  rw [HT.sIx_none, HT.sIx_nat]
  rcases Nat.le_total n ds.length with h | h
  · rw [Nat.min_eq_left h, List.take_of_length_le (by rw [List.length_drop]; omega)]
  · rw [Nat.min_eq_right h, Nat.sub_self, List.take_zero, List.drop_eq_nil_of_le h]
theorem cbv_max2 {i j : Int} : CbV K rMax2I [.int i, .int j] (.int (if j > i then j else i)) := fun H vs hv Q q => by
  cases hv with
  | cons h1 hr =>
    cases hr with
    | cons h2 hr =>
      cases hr
      rw [h1.intI, h2.intI]
      exact ⟨i, j, rfl, q _ H (Same.refl H) (.int _)⟩
theorem cbv_min2 {i j : Int} : CbV K rMin2I [.int i, .int j] (.int (if j < i then j else i)) := fun H vs hv Q q => by
  cases hv with
  | cons h1 hr =>
    cases hr with
    | cons h2 hr =>
      cases hr
      rw [h1.intI, h2.intI]
      exact ⟨i, j, rfl, q _ H (Same.refl H) (.int _)⟩
/-- while c: body, over data: step n holds W n, ends at 0 -/
theorem go_while {c : TT} {tb : TS} (W : Nat → Ga → Prop) (m : Nat) (h0 : W m Γ)
    (ht : ∀ m Γ, W m Γ → ∃ b, EvB K c Γ b ∧ (b = true → Go K H0 tb Γ { D with nx := fun σ H => ∃ m' Γ', m' < m ∧ W m' Γ' ∧ StD K H0 H σ Γ', ct := fun σ H => ∃ m' Γ', m' < m ∧ W m' Γ' ∧ StD K H0 H σ Γ', bk := D.nx }) ∧ (b = false → Nx K H0 D Γ)) : Go K H0 (tWhile c tb) Γ D := fun σ H S => by
  refine ⟨fun m σ H => ∃ Γ, W m Γ ∧ StD K H0 H σ Γ, ⟨m, Γ, h0, S⟩, ?_⟩
  rintro m σ H ⟨Γ, hw, S⟩
  obtain ⟨b, hb, h1, h2⟩ := ht m Γ hw
  refine hb H0 σ H S _ fun H1 s1 => ?_
  cases b with
  | true =>
    show (if true = true then _ else _)
    rw [if_pos rfl]
    exact ⟨fun σ H => ∃ m' Γ', m' < m ∧ W m' Γ' ∧ StD K H0 H σ Γ', fun σ' H' ⟨m', Γ', a, b, c⟩ => ⟨m', a, Γ', b, c⟩, h1 rfl σ H1 (S.same s1)⟩
  | false =>
    show (if false = true then _ else _)
    rw [if_neg (by simp)]
    exact h2 rfl σ H1 (S.same s1)
/-! comprehensions over lists of things of one kind -/
theorem range_get {α β : Type} (xs : List α) (g : α → Option β) : (List.range xs.length).filterMap (fun i => (xs[i]?).bind g) = xs.filterMap g := by
  have e : (List.range xs.length).map (fun i => xs[i]?) = xs.map some := by
    refine List.ext_getElem? fun k => ?_
    rw [List.getElem?_map, List.getElem?_map]
    by_cases hk : k < xs.length
    · rw [List.getElem?_range hk, List.getElem?_eq_getElem hk]
      simp [hk]
    · rw [List.getElem?_eq_none (by simpa using hk), List.getElem?_eq_none (by omega)]
      rfl
  have e2 : (List.range xs.length).filterMap (fun i => (xs[i]?).bind g) = ((List.range xs.length).map (fun i => xs[i]?)).filterMap (fun o => o.bind g) := by
    rw [List.filterMap_map]
    rfl
  rw [e2, e, List.filterMap_map]
  rfl
variable {α : Type} {wi : TI} {g : TG} {tt : TT} {vs ws : List Nat}
theorem evf_fltA (xs : List α) (enc : α → PyData) (b : α → Bool) (f : α → PyData) (G : α → Ga) (hi : ItD K wi Γ (xs.map enc)) (hl : xs.length ≤ 1000000) (hw : ∀ i ∈ ws, i ∈ vs)
    (hg : ∀ a ∈ xs, TgD K g ws (wipeG Γ vs) (enc a) (G a)) (ht : ∀ a ∈ xs, EvB K tt (G a) (b a)) (he : ∀ a ∈ xs, b a = true → EvG K te (G a) (f a) ∧ LF (f a)) :
    EvF K (tLc wi g tt te vs) Γ ((xs.filter b).map f) := by
  by_cases h0 : xs = []
  · subst h0
    exact evf_lc (f := fun _ => none) (G := fun _ => Γ) hi (by simp) hw (fun i d h => by simp at h) (fun i d h => by simp at h) (fun i d z h => by simp at h)
  have a0 : α := xs.head h0
  have key : (xs.filter b).map f = (List.range (xs.map enc).length).filterMap fun i => (xs[i]?).bind fun a => if b a = true then some (f a) else none := by
    rw [List.length_map, range_get]
    induction xs with
    | nil => rfl
    | cons a r ih =>
      clear hi hl hg ht he
      have gen : ∀ l : List α, (l.filter b).map f = l.filterMap fun a => if b a = true then some (f a) else none := by
        intro l
        induction l with
        | nil => rfl
        | cons a r ih =>
          rw [List.filter_cons, List.filterMap_cons]
          cases h : b a with
          | true => simp [ih]
          | false => simpa using ih
      exact gen _
  rw [key]
  have get : ∀ {i : Nat} {d : PyData}, (xs.map enc)[i]? = some d → ∃ a, xs[i]? = some a ∧ enc a = d ∧ a ∈ xs := fun {i d} h => by
    rw [List.getElem?_map] at h
    cases q : xs[i]? with
    | none => rw [q] at h; cases h
    | some a =>
      rw [q] at h
      exact ⟨a, rfl, Option.some.inj h, List.mem_of_getElem? q⟩
  refine evf_lc (G := fun i => G (xs.getD i a0)) hi (by rw [List.length_map]; exact hl) hw (fun i d h => ?_) (fun i d h => ?_) (fun i d z h hz => ?_)
  · obtain ⟨a, ha, rfl, hm⟩ := get h
    have e : xs.getD i a0 = a := by simp [List.getD, ha]
    rw [e]
    exact hg a hm
  · obtain ⟨a, ha, rfl, hm⟩ := get h
    have e : xs.getD i a0 = a := by simp [List.getD, ha]
    rw [e, ha]
    refine evb_is (ht a hm) ?_
    show b a = (if b a = true then some (f a) else none).isSome
    cases b a <;> rfl
  · obtain ⟨a, ha, rfl, hm⟩ := get h
    have e : xs.getD i a0 = a := by simp [List.getD, ha]
    rw [ha] at hz
    rw [e]
    have hz' : (if b a = true then some (f a) else none) = some z := hz
    cases hb : b a with
    | false => rw [hb] at hz'; cases hz'
    | true =>
      rw [hb] at hz'
      have := Option.some.inj hz'
      rw [← this]
      exact he a hm hb
theorem evf_mapA (xs : List α) (enc : α → PyData) (f : α → PyData) (G : α → Ga) (hi : ItD K wi Γ (xs.map enc)) (hl : xs.length ≤ 1000000) (hw : ∀ i ∈ ws, i ∈ vs)
    (hg : ∀ a ∈ xs, TgD K g ws (wipeG Γ vs) (enc a) (G a)) (he : ∀ a ∈ xs, EvG K te (G a) (f a) ∧ LF (f a)) :
    EvF K (tLc wi g tYes te vs) Γ (xs.map f) := by
  have h := evf_fltA (tt := tYes) xs enc (fun _ => true) f G hi hl hw hg (fun a _ => fun H0 σ H S Q q => q H (Same.refl H)) (fun a hm _ => he a hm)
  rw [List.filter_eq_self.mpr (fun _ _ => rfl)] at h
  exact h
/-! targets -/
theorem tg_pair {g1 g2 : TG} {w1 w2 : List Nat} {Γ1 Γ2 : Ga} (h1 : TgD K g1 w1 Γ d Γ1) (h2 : TgD K g2 w2 Γ1 e Γ2) : TgD K (gTup K 2 (gCons g1 (gCons g2 gNil))) (w1 ++ w2) Γ (.tuple [d, e]) Γ2 := fun H0 σ H x S hx Q q => by
  obtain ⟨a, xs, rfl, hs, ha⟩ := hx.tupI
  cases ha with
  | cons a1 hr =>
    cases hr with
    | cons a2 hr =>
      cases hr
      refine ⟨a, _, rfl, hs, rfl, _, _, rfl, h1 H0 σ H _ S a1 _ fun σ1 S1 l1 k1 => ?_⟩
      refine ⟨_, _, rfl, h2 H0 σ1 H _ S1 a2 _ fun σ2 S2 l2 k2 => ⟨rfl, q σ2 S2 (l2.trans l1) fun k hk => ?_⟩⟩
      rw [k2 k (fun z => hk (List.mem_append.mpr (.inr z))), k1 k (fun z => hk (List.mem_append.mpr (.inl z)))]
theorem go_asg {g : TG} {ws : List Nat} (h : EvG K te Γ d) (tg : TgD K g ws Γ d Γ') (q : Nx K H0 D Γ') : Go K H0 (tAsg te g) Γ D := fun σ H S => h H0 σ H S _ fun v H2 sm hv => tg H0 σ H2 v (S.same sm) hv _ fun σ' S' _ _ => q σ' H2 S'
theorem go_nx {t : TS} (h : Go K H0 t Γ D) : Nx K H0 { D with nx := t D } Γ := fun σ H S => h σ H S
/-! arguments as data -/
def a2d : Sl → Sl
  | .arg d => .dat d
  | s => s
theorem StD.argDat {H : Hp} {σ : L2.St} (S : StD K H0 H σ Γ) : StD K H0 H σ (Γ.map a2d) := by
  have g : ∀ {i : Nat} {s : Sl}, (Γ.map a2d)[i]? = some s → ∃ s', Γ[i]? = some s' ∧ a2d s' = s := fun {i s} h => by
    rw [List.getElem?_map] at h
    cases q : Γ[i]? with
    | none => rw [q] at h; cases h
    | some s' =>
      rw [q] at h
      exact ⟨s', rfl, Option.some.inj h⟩
  refine ⟨by rw [List.length_map]; exact S.len, S.sm, fun i d h => ?_, fun i d h => ?_, fun i d h => ?_, fun i j d1 d2 h1 h2 n => ?_⟩
  · obtain ⟨s', _, e⟩ := g h
    cases s' <;> cases e
  · obtain ⟨s', h', e⟩ := g h
    cases s' with
    | no => cases e
    | arg d' =>
      cases e
      obtain ⟨v, a, b⟩ := S.arg i _ h'
      exact ⟨v, a, Dp.same S.sm b⟩
    | dat d' =>
      cases e
      exact S.dat i _ h'
    | own ds' => cases e
  · obtain ⟨s', h', e⟩ := g h
    cases s' <;> cases e
    exact S.own i _ h'
  · obtain ⟨s1, h1', e1⟩ := g h1
    obtain ⟨s2, h2', e2⟩ := g h2
    cases s1 <;> cases e1
    cases s2 <;> cases e2
    exact S.apart i j _ _ h1' h2' n
theorem go_dat {t : TS} (h : Go K H0 t (Γ.map a2d) D) : Go K H0 t Γ D := fun σ H S => h σ H S.argDat
/-! loops with a state -/
theorem Rt.base {H1 : Hp} (e : Same H0 H1) (h : Rt K H0 D d) : Rt K H1 D d := fun v H s hd => h v H (e.trans s) hd
theorem RtF.base {H1 : Hp} (e : Same H0 H1) (h : RtF K H0 D ds) : RtF K H1 D ds := fun p xs H hp s hq hd => h p xs H (Same.free e hp) (e.trans s) hq hd
theorem go_forS {σt : Type} {wi : TI} {g : TG} {tb : TS} (hi : ItD K wi Γ ds) (P : Nat → σt → Prop) (G : Nat → σt → Ga) (s0 : σt) (ws : List Nat) (h0 : P 0 s0) (hl0 : (G 0 s0).length = Γ.length) (hG0 : ∀ (j : Nat) (s : Sl), (G 0 s0)[j]? = some s → s ≠ .no → (Γ.map toDat)[j]? = some s)
    (ht : ∀ H1, Same H0 H1 → ∀ i d st, ds[i]? = some d → P i st → ∃ Γ1, TgD K g ws (G i st) d Γ1 ∧ Go K H1 tb Γ1 { D with nx := fun σ H => ∃ st', StD K H1 H σ (G (i + 1) st') ∧ P (i + 1) st', ct := fun σ H => ∃ st', StD K H1 H σ (G (i + 1) st') ∧ P (i + 1) st', bk := D.nx })
    (hd : ∀ st, P ds.length st → Nx K H0 D (G ds.length st) ∧ ∀ (i : Nat) (d : PyData), (G ds.length st)[i]? ≠ some (.arg d)) : Go K H0 (tFor wi g tb) Γ D := fun σ H S => by
  refine hi H0 σ H S _ fun J H1 s1 y => ?_
  have S1 : StD K H1 H1 σ (G 0 s0) := (S.same s1).based.weak (by rw [List.length_map]; exact hl0) hG0
  refine ⟨fun i m σ H' => m = ds.length - i ∧ i ≤ ds.length ∧ ∃ st, StD K H1 H' σ (G i st) ∧ P i st, ⟨ds.length, by simp, Nat.zero_le _, s0, S1, h0⟩, ?_⟩
  rintro i m σ' H' ⟨rfl, hle, st, S2, hp⟩
  obtain ⟨y1, y2⟩ := y i H' S2.sm
  by_cases hlt : i < ds.length
  · have hd : ds[i]? = some ds[i] := List.getElem?_eq_getElem hlt
    obtain ⟨go, yl⟩ := y2 _ hd
    obtain ⟨Γ1, tg, gb⟩ := ht H1 (S.sm.trans s1) i _ st hd hp
    refine .inr ⟨go, fun σ H => ∃ st', StD K H1 H σ (G (i + 1) st') ∧ P (i + 1) st', fun σ2 H2 h => ⟨ds.length - (i + 1), by omega, rfl, hlt, h⟩, fun x H2 hy => ?_⟩
    obtain ⟨s2, dx⟩ := yl x H2 hy
    exact tg H1 σ' H2 x (S2.same s2) dx _ fun σ3 S3 _ _ => gb σ3 H2 S3
  · have e : i = ds.length := by omega
    subst e
    exact .inl ⟨y1 (Nat.le_refl _), (hd st hp).1 σ' H' (S2.rebase (S.sm.trans s1) (hd st hp).2)⟩
theorem go_forAS {σt : Type} {wi : TI} {g : TG} {tb : TS} (hi : ItA K wi Γ ds) (P : Nat → σt → Prop) (G : Nat → σt → Ga) (s0 : σt) (ws : List Nat) (h0 : P 0 s0) (hl0 : (G 0 s0).length = Γ.length) (hG0 : ∀ (j : Nat) (s : Sl), (G 0 s0)[j]? = some s → s ≠ .no → Γ[j]? = some s)
    (ht : ∀ i d st, ds[i]? = some d → P i st → ∃ Γ1, TgD K g ws (G i st) d Γ1 ∧ Go K H0 tb Γ1 { D with nx := fun σ H => ∃ st', StD K H0 H σ (G (i + 1) st') ∧ P (i + 1) st', ct := fun σ H => ∃ st', StD K H0 H σ (G (i + 1) st') ∧ P (i + 1) st', bk := D.nx })
    (hd : ∀ st, P ds.length st → Nx K H0 D (G ds.length st)) : Go K H0 (tFor wi g tb) Γ D := fun σ H S => by
  refine hi H0 σ H S _ fun J H1 s1 y => ?_
  have S1 : StD K H0 H1 σ (G 0 s0) := (S.same s1).weak hl0 hG0
  refine ⟨fun i m σ H' => m = ds.length - i ∧ i ≤ ds.length ∧ ∃ st, StD K H0 H' σ (G i st) ∧ P i st, ⟨ds.length, by simp, Nat.zero_le _, s0, S1, h0⟩, ?_⟩
  rintro i m σ' H' ⟨rfl, hle, st, S2, hp⟩
  obtain ⟨y1, y2⟩ := y i H' trivial
  by_cases hlt : i < ds.length
  · have hd : ds[i]? = some ds[i] := List.getElem?_eq_getElem hlt
    obtain ⟨go, yl⟩ := y2 _ hd
    obtain ⟨Γ1, tg, gb⟩ := ht i _ st hd hp
    refine .inr ⟨go, fun σ H => ∃ st', StD K H0 H σ (G (i + 1) st') ∧ P (i + 1) st', fun σ2 H2 h => ⟨ds.length - (i + 1), by omega, rfl, hlt, h⟩, fun x H2 hy => ?_⟩
    obtain ⟨s2, dx⟩ := yl x H2 hy
    exact tg H0 σ' H2 x (S2.same s2) dx _ fun σ3 S3 _ _ => gb σ3 H2 S3
  · have e : i = ds.length := by omega
    subst e
    exact .inl ⟨y1 (Nat.le_refl _), hd st hp σ' H' S2⟩
/-- over a new list of texts, by enumerate; lists of ours may grow -/
theorem go_forES {σt : Type} {g : TG} {tb : TS} {xs : List (List Nat)} (hi : EvF K tl Γ (xs.map sD)) (P : Nat → σt → Prop) (G : Nat → σt → Ga) (s0 : σt) (ws : List Nat) (h0 : P 0 s0) (hl0 : (G 0 s0).length = Γ.length) (hG0 : ∀ (j : Nat) (s : Sl), (G 0 s0)[j]? = some s → s ≠ .no → Γ[j]? = some s)
    (ht : ∀ H1, Same H0 H1 → ∀ i x st, xs[i]? = some x → P i st → ∃ Γ1, TgD K g ws (G i st) (.tuple [.int (i : Nat), sD x]) Γ1 ∧ Go K H1 tb Γ1 { D with nx := fun σ H => ∃ st', StD K H1 H σ (G (i + 1) st') ∧ P (i + 1) st', ct := fun σ H => ∃ st', StD K H1 H σ (G (i + 1) st') ∧ P (i + 1) st', bk := D.nx })
    (hd : ∀ st, P xs.length st → Nx K H0 D (G xs.length st) ∧ ∀ (i : Nat) (d : PyData), (G xs.length st)[i]? ≠ some (.arg d)) : Go K H0 (tFor (iEnum K (tCons tl tNil)) g tb) Γ D := fun σ H S => by
  refine hi H0 σ H S _ fun q vs H1 hq s1 hql hv => ?_
  have hvs : vs = (xs.map SX.S).map V.str := by
    have e : xs.map sD = (xs.map SX.S).map PyData.str := by rw [List.map_map]; rfl
    rw [e] at hv
    exact DpAll.strsI hv
  have hq0 : H0 q = none := Same.free S.sm hq
  have e0 : Same H0 (upd H0 q (.lst vs)) := Same.new hq0
  have e1 : Same (upd H0 q (.lst vs)) H1 := fun b o e => by
    by_cases hb : b = q
    · subst hb
      rw [upd_same] at e
      rw [hql]
      exact e
    · rw [upd_ne hb] at e
      exact (S.sm.trans s1) b o e
  have S1 : StD K (upd H0 q (.lst vs)) H1 σ (G 0 s0) := by
    have S0 := (S.same s1).weak hl0 hG0
    refine ⟨S0.len, e1, fun i d h => ?_, S0.dat, fun i ds h => ?_, S0.apart⟩
    · obtain ⟨v, a, b⟩ := S0.arg i d h
      exact ⟨v, a, Dp.same e0 b⟩
    · obtain ⟨p, ys, a, b, c, dd, l⟩ := S0.own i ds h
      obtain ⟨p', ys', a', _, c', _⟩ := (S.weak hl0 hG0).own i ds h
      have ep : p = p' := by
        rw [a] at a'
        exact V.ref.inj (Option.some.inj (Option.some.inj a'))
      have nq : p ≠ q := fun z => by
        rw [← ep, z, hq] at c'
        cases c'
      exact ⟨p, ys, a, by rw [upd_ne nq]; exact b, c, dd, l⟩
  refine ⟨q, vs, rfl, SqL.of hql, fun i m σ H' => m = xs.length - i ∧ i ≤ xs.length ∧ ∃ st, StD K (upd H0 q (.lst vs)) H' σ (G i st) ∧ P i st, ⟨xs.length, by simp, Nat.zero_le _, s0, S1, h0⟩, ?_⟩
  rintro i m σ' H' ⟨rfl, hle, st, S2, hp⟩
  have hq' : H' q = some (.lst vs) := S2.sm _ _ upd_same
  have hlen : vs.length = xs.length := by rw [hvs, List.length_map, List.length_map]
  by_cases hlt : i < xs.length
  · have hd : xs[i]? = some xs[i] := List.getElem?_eq_getElem hlt
    have hvi : vs[i]? = some (.str (SX.S xs[i])) := by
      rw [hvs, List.getElem?_map, List.getElem?_map, hd]
      rfl
    obtain ⟨Γ1, tg, gb⟩ := ht _ e0 i _ st hd hp
    refine .inr ⟨⟨vs, _, SqL.of hq', hvi⟩, fun σ H => ∃ st', StD K (upd H0 q (.lst vs)) H σ (G (i + 1) st') ∧ P (i + 1) st', fun σ2 H2 h => ⟨xs.length - (i + 1), by omega, rfl, hlt, h⟩, fun x H2 hy => ?_⟩
    obtain ⟨T, x', rfl, nT, rfl, hx⟩ := hy
    have ex : x' = .str (SX.S xs[i]) := Option.some.inj ((hx vs (SqL.of hq')).symm.trans hvi)
    subst ex
    exact tg _ σ' _ _ (S2.same (Same.new nT)) (.tup (SqT.of upd_same) (.cons (.int _) (.cons (.str _) .nil))) _ fun σ3 S3 _ _ => gb σ3 _ S3
  · have e : i = xs.length := by omega
    subst e
    exact .inl ⟨⟨vs, SqL.of hq', by rw [hlen]; exact Nat.le_refl _⟩, (hd st hp).1 σ' H' (S2.rebase e0 (hd st hp).2)⟩
/-! two, three at once -/
theorem go_par2N {i j : Nat} (h1 : EvF K ta Γ ds) (h2 : EvF K tb Γ es) (l1 : ∀ d ∈ ds, LF d) (l2 : ∀ d ∈ es, LF d) (q : Nx K H0 D ((Γ.set i (.own ds)).set j (.own es))) : Go K H0 (tPar i j (tCons ta (tCons tb tNil))) Γ D := fun σ H S =>
  h1 H0 σ H S _ fun p1 xs H1 f1 s1 hp1 d1 => h2 H0 σ H1 (S.same s1) _ fun p2 ys H2 f2 s2 hp2 d2 => ⟨_, _, rfl, q _ H2 ((S.setO s1 f1 hp1 d1 l1).setO s2 f2 hp2 d2 l2)⟩
theorem go_par3N {i j k : Nat} {tc : TE} (h1 : EvF K ta Γ ds) (h2 : EvG K tb Γ d) (h3 : EvF K tc Γ es) (l1 : ∀ d ∈ ds, LF d) (l2 : ∀ d ∈ es, LF d) (q : Nx K H0 D (((Γ.set i (.own ds)).set j (.dat d)).set k (.own es))) : Go K H0 (tPar3 i j k (tCons ta (tCons tb (tCons tc tNil)))) Γ D := fun σ H S =>
  h1 H0 σ H S _ fun p1 xs H1 f1 s1 hp1 d1 => h2 H0 σ H1 (S.same s1) _ fun v H2 s2 hv => h3 H0 σ H2 (S.same (s1.trans s2)) _ fun p2 ys H3 f2 s3 hp2 d2 =>
    ⟨_, _, _, rfl, q _ H3 (((((S.setO s1 f1 hp1 d1 l1).same s2).setD hv)).setO s3 f2 hp2 d2 l2)⟩
theorem eva_star {tA : TA} (h : EvG K te Γ (.tuple ds)) (h2 : EvA K tA Γ es) : EvA K (StX.tStar K te tA) Γ (ds ++ es) := fun H0 σ H S Q q =>
  h H0 σ H S _ fun v H1 s1 hv => by
    obtain ⟨a, xs, rfl, hs, ha⟩ := hv.tupI
    exact ⟨a, xs, rfl, .inl hs, h2 H0 σ H1 (S.same s1) _ fun ys H2 s2 hy => q _ H2 (s1.trans s2) (DpAll.append (DpAll.same s2 ha) hy)⟩
end
theorem mul4 {x y z w : Int} (hx : x.natAbs < 2 ^ 1400) (hy : y.natAbs < 2 ^ 1400) (hz : z.natAbs < 2 ^ 1400) (hw : w.natAbs < 2 ^ 1400) : CMulW x y ∧ CMulW (x * y) z ∧ CMulW (x * y * z) w :=
  ⟨wide_mul hx hy (by decide) (by decide) (by decide), wide_mul (wide_lt hx hy) hz (by decide) (by decide) (by decide), wide_mul (wide_lt (wide_lt hx hy) hz) hw (by decide) (by decide) (by decide)⟩
theorem FrOk.n2 {f : Fr} (h : FrOk f) : f.1.natAbs < 2 ^ 1400 := Nat.lt_trans h.n pow_400
theorem FrOk.m2 {f : Fr} (h : FrOk f) : f.2.natAbs < 2 ^ 1400 := Nat.lt_trans h.m pow_400
end K82

/-! part A -/
set_option Elab.async false
set_option linter.all false
set_option maxRecDepth 100000
set_option maxHeartbeats 4000000
set_option autoImplicit false
set_option exponentiation.threshold 9000
/-! data: what is asked of it -/
namespace K82
open PySem PySem.Spec PyProof.Rows L2
open SX (S S_len S_cat S_inj num_S lens join_S split_S)
section
variable {P : Program} {w : World} {K : PySem.W.Frag} {mg : Str → Option Value} {base : Heap}

def R_is_whole : List PyData → PyData → Prop := fun ds d => ∃ i : Int, ds = [.int i] ∧ d = .bool true
abbrev sp_is_whole (K : PySem.W.Frag) : Sp := spP K 1 R_is_whole
theorem G_is_whole (T : Txt K mg) : FnOk P w K mg base CX0 1 (He.ga K "is_whole") T.e_is_whole ["value"] (spP K 1 R_is_whole) := by
  refine T.d_is_whole.ok (n := 1) (m := 0) sc_is_whole rfl rfl fun cdv A outer s H E hr => ⟨_, (pss_one (ps_ret (pe_and (pe_callB call_isi rfl T.f_isinstance (by decide +kernel) (pa_cons (pv 0) (pa_cons (pe_bltn (v := .ty "int") rfl T.f_int (by decide +kernel) rfl) pa_nil))) (pe_one (pe_not (pe_callB call_isi rfl T.f_isinstance (by decide +kernel) (pa_cons (pv 0) (pa_cons (pe_bltn (v := .ty "bool") rfl T.f_bool (by decide +kernel) rfl) pa_nil)))))))),
    fun ds d hl hR H0 D hq hn => ?_⟩
  obtain ⟨i, rfl, rfl⟩ := hR
  exact go_ret (ev_is (ev_andV (ev_isi (b := true) (ev_arg rfl) (fun _ _ h => ty_int h) (by decide +kernel)) fun _ => (ev_notV (ev_isi (b := false) (ev_arg rfl) (fun _ _ h => ty_int h) (by decide +kernel)))) rfl) hq
def R_is_frac : List PyData → PyData → Prop := fun ds d => ∃ f : Fr, FrOk f ∧ ds = [frD f] ∧ d = .bool true
abbrev sp_is_frac (K : PySem.W.Frag) : Sp := spP K 1 R_is_frac
theorem G_is_frac (T : Txt K mg) : FnOk P w K mg base CX0 2 (He.ga K "is_frac") T.e_is_frac ["value"] (spP K 1 R_is_frac) := by
  refine T.d_is_frac.ok (n := 1) (m := 0) sc_is_frac rfl rfl fun cdv A outer s H E hr => ⟨_, (pss_cons (ps_if (PW.pt (pw_or (pt_not (pt_val (pe_callB call_isi rfl T.f_isinstance (by decide +kernel) (pa_cons (pv 0) (pa_cons (pe_bltn (v := .ty "tuple") rfl T.f_tuple (by decide +kernel) rfl) pa_nil))))) (pw_or (pt_cmpR (op_ne) (pe_callB cr_len rfl T.f_len (by decide +kernel) (pa_cons (pv 0) pa_nil)) pe_int (nomark _)) (pw_or (pt_not (pt_val (pe_call (G_is_whole T) (hr.mono (by decide)) rfl T.d_is_whole.g T.d_is_whole.f.kp (b_is_whole T) .nil pass0 (pa_cons (pe_ix ix_tup (pv 0) pe_int (fun _ _ => rfl)) pa_nil)))) (pw_or1 (pt_not (pt_val (pe_call (G_is_whole T) (hr.mono (by decide)) rfl T.d_is_whole.g T.d_is_whole.f.kp (b_is_whole T) .nil pass0 (pa_cons (pe_ix ix_tup (pv 0) pe_int (fun _ _ => rfl)) pa_nil))))))))) (pss_one (ps_ret pe_bl)) pss_nil)
      (pss_one (ps_ret (pe_and (pe_cmpR (op_gt) (pe_ix ix_tup (pv 0) pe_int (fun _ _ => rfl)) pe_int (nomark _)) (pe_one (pe_cmpR (op_eq) (pe_callBfun cr_gcd rfl T.c_gcd (pa_cons (pe_ix ix_tup (pv 0) pe_int (fun _ _ => rfl)) (pa_cons (pe_ix ix_tup (pv 0) pe_int (fun _ _ => rfl)) pa_nil))) pe_int (nomark _))))))),
    fun ds d hl hR H0 D hq hn => ?_⟩
  obtain ⟨f, ok, rfl, rfl⟩ := hR
  refine go_seq (go_ifF (evb_is (evb_or (evb_not (evb_val (ev_isi (b := true) (ev_arg rfl) (fun _ _ h => ty_tup h) (by decide +kernel)))) fun _ => (evb_or (evb_test (ev_op (ev_cb (eva_cons (ev_arg rfl) eva_nil) cbv_lenT) ev_int opv_neI)) fun _ => (evb_or (evb_not (evb_val (ev_call (eva_cons (ev_op (ev_arg rfl) ev_int (opv_ixT (i := 0) rfl)) eva_nil) rfl (⟨_, rfl, rfl⟩)))) fun _ => (evb_not (evb_val (ev_call (eva_cons (ev_op (ev_arg rfl) ev_int (opv_ixT (i := 1) rfl)) eva_nil) rfl (⟨_, rfl, rfl⟩))))))) (by simp)) ?_)
  refine go_ret (ev_is (ev_andV (ev_op (ev_op (ev_arg rfl) ev_int (opv_ixT (i := 1) rfl)) ev_int opv_B0) fun _ => (ev_op (ev_cb (eva_cons (ev_op (ev_arg rfl) ev_int (opv_ixT (i := 0) rfl)) (eva_cons (ev_op (ev_arg rfl) ev_int (opv_ixT (i := 1) rfl)) eva_nil)) cbv_gcd) ev_int opv_eqI)) ?_) hq
  have h1 := ok.pos
  have h2 := ok.gcd
  show PyData.bool (decide (0 < f.2) && decide (((Nat.gcd f.1.natAbs f.2.natAbs : Nat) : Int) = 1)) = _
  rw [decide_eq_true h1, h2]
  rfl
def R_is_num : List PyData → PyData → Prop := fun ds d => ∃ u : Nu, NuOk u ∧ ds = [nuD u] ∧ d = .bool true
abbrev sp_is_num (K : PySem.W.Frag) : Sp := spP K 1 R_is_num
theorem G_is_num (T : Txt K mg) : FnOk P w K mg base CX0 3 (He.ga K "is_num") T.e_is_num ["value"] (spP K 1 R_is_num) := by
  refine T.d_is_num.ok (n := 1) (m := 0) sc_is_num rfl rfl fun cdv A outer s H E hr => ⟨_, (pss_one (ps_ret (pe_and (pe_callB call_isi rfl T.f_isinstance (by decide +kernel) (pa_cons (pv 0) (pa_cons (pe_bltn (v := .ty "tuple") rfl T.f_tuple (by decide +kernel) rfl) pa_nil))) (pe_and (pe_cmpR (op_eq) (pe_callB cr_len rfl T.f_len (by decide +kernel) (pa_cons (pv 0) pa_nil)) pe_int (nomark _)) (pe_and (pe_call (G_is_frac T) (hr.mono (by decide)) rfl T.d_is_frac.g T.d_is_frac.f.kp (b_is_frac T) .nil pass0 (pa_cons (pe_ix ix_tup (pv 0) pe_int (fun _ _ => rfl)) pa_nil)) (pe_one (pe_call (G_is_frac T) (hr.mono (by decide)) rfl T.d_is_frac.g T.d_is_frac.f.kp (b_is_frac T) .nil pass0 (pa_cons (pe_ix ix_tup (pv 0) pe_int (fun _ _ => rfl)) pa_nil)))))))),
    fun ds d hl hR H0 D hq hn => ?_⟩
  obtain ⟨u, ok, rfl, rfl⟩ := hR
  exact go_ret (ev_is (ev_andV (ev_isi (b := true) (ev_arg rfl) (fun _ _ h => ty_tup h) (by decide +kernel)) fun _ => ev_andV (ev_op (ev_cb (eva_cons (ev_arg rfl) eva_nil) cbv_lenT) ev_int opv_eqI) fun _ => ev_andV (ev_call (eva_cons (ev_op (ev_arg rfl) ev_int (opv_ixT (i := 0) rfl)) eva_nil) rfl ⟨_, ok.a, rfl, rfl⟩) fun _ => ev_call (eva_cons (ev_op (ev_arg rfl) ev_int (opv_ixT (i := 1) rfl)) eva_nil) rfl ⟨_, ok.b, rfl, rfl⟩) rfl) hq
def R_frac_reduced : List PyData → PyData → Prop := fun ds d => ∃ n m : Int, 0 < m ∧ m.natAbs < 2 ^ 8000 ∧ ds = [.int n, .int m] ∧ d = frD (reduc n m)
abbrev sp_frac_reduced (K : PySem.W.Frag) : Sp := spP K 2 R_frac_reduced
theorem G_frac_reduced (T : Txt K mg) : FnOk P w K mg base CX0 1 (He.ga K "frac_reduced") T.e_frac_reduced ["n", "m"] (spP K 2 R_frac_reduced) := by
  refine T.d_frac_reduced.ok (n := 2) (m := 1) sc_frac_reduced rfl rfl fun cdv A outer s H E hr => ⟨_, (pss_cons (ps_set (i := 2) sc_frac_reduced.nd rfl (.inl rfl) (pe_ifExp (pt_cmpR (op_gt) (pv 1) pe_int (nomark _)) (pe_callBfun cr_gcd rfl T.c_gcd (pa_cons (pv 0) (pa_cons (pv 1) pa_nil))) (pe_un un_neg (pe_callBfun cr_gcd rfl T.c_gcd (pa_cons (pv 0) (pa_cons (pv 1) pa_nil))))))
      (pss_one (ps_ret (pe_tup (pa_cons (pe_op op_fdivW (pv 0) (pv 2)) (pa_cons (pe_op op_fdivW (pv 1) (pv 2)) pa_nil)))))),
    fun ds d hl hR H0 D hq hn => ?_⟩
  obtain ⟨n, m, h1, h2, rfl, rfl⟩ := hR
  have hg : 0 < Nat.gcd n.natAbs m.natAbs := Nat.gcd_pos_of_pos_right _ (by omega)
  have hg2 : Nat.gcd n.natAbs m.natAbs ≤ m.natAbs := Nat.gcd_le_right _ (by omega)
  have dv : ∀ i : Int, CDivW i ((Nat.gcd n.natAbs m.natAbs : Nat) : Int) := fun i => wide_div (b := 8000) (by omega) (by rw [Int.natAbs_natCast]; exact Nat.lt_of_le_of_lt hg2 h2) (by decide) (by decide)
  refine go_seq (go_set (d := .int (Nat.gcd n.natAbs m.natAbs : Nat)) (ev_ifT (evb_is (evb_test (ev_op (ev_arg rfl) ev_int opv_B0)) (decide_eq_true h1)) (ev_cb (eva_cons (ev_arg rfl) (eva_cons (ev_arg rfl) eva_nil)) cbv_gcd)) (go_nx ?_))
  exact go_ret (ev_tup2 (ev_op (ev_arg rfl) (ev_dat rfl) (opv_I (dv _))) (ev_op (ev_arg rfl) (ev_dat rfl) (opv_I (dv _)))) hq
def R_num_size : List PyData → PyData → Prop := fun ds d => ∃ u : Nu, NuOk u ∧ ds = [nuD u] ∧ d = frD (reduc (sizeN u) (sizeM u))
abbrev sp_num_size (K : PySem.W.Frag) : Sp := spP K 1 R_num_size
theorem G_num_size (T : Txt K mg) : FnOk P w K mg base CX0 2 (He.ga K "num_size") T.e_num_size ["x"] (spP K 1 R_num_size) := by
  refine T.d_num_size.ok (n := 1) (m := 4) sc_num_size rfl rfl fun cdv A outer s H E hr => ⟨_, (pss_cons (ps_asg (pv 0) (pg_tup rfl (pgs_cons (pg_tup rfl (pgs_cons (pg_name (i := 1) sc_num_size.nd rfl (.inl rfl)) (pgs_cons (pg_name (i := 2) sc_num_size.nd rfl (.inl rfl)) pgs_nil))) (pgs_cons (pg_tup rfl (pgs_cons (pg_name (i := 3) sc_num_size.nd rfl (.inl rfl)) (pgs_cons (pg_name (i := 4) sc_num_size.nd rfl (.inl rfl)) pgs_nil))) pgs_nil))))
      (pss_one (ps_ret (pe_call (G_frac_reduced T) (hr.mono (by decide)) rfl T.d_frac_reduced.g T.d_frac_reduced.f.kp (b_frac_reduced T) .nil pass0 (pa_cons (pe_op op_add (pe_op op_mulW (pe_op op_mulW (pe_op op_mulW (pv 1) (pv 1)) (pv 4)) (pv 4)) (pe_op op_mulW (pe_op op_mulW (pe_op op_mulW (pv 3) (pv 3)) (pv 2)) (pv 2))) (pa_cons (pe_op op_mulW (pe_op op_mulW (pe_op op_mulW (pv 2) (pv 2)) (pv 4)) (pv 4)) pa_nil)))))),
    fun ds d hl hR H0 D hq hn => ?_⟩
  obtain ⟨u, ok, rfl, rfl⟩ := hR
  have a := ok.a.n2
  have b := ok.a.m2
  have c := ok.b.n2
  have e := ok.b.m2
  obtain ⟨m1, m2, m3⟩ := mul4 a a e e
  obtain ⟨m4, m5, m6⟩ := mul4 c c b b
  obtain ⟨m7, m8, m9⟩ := mul4 b b e e
  refine go_seq (go_asg (ev_arg rfl) (tg_pair (tg_pair tg_name tg_name) (tg_pair tg_name tg_name)) (go_nx ?_))
  refine go_ret (ev_call (eva_2 (ev_op (ev_op (ev_op (ev_op (ev_dat rfl) (ev_dat rfl) (opv_I ?_)) (ev_dat rfl) (opv_I ?_)) (ev_dat rfl) (opv_I ?_)) (ev_op (ev_op (ev_op (ev_dat rfl) (ev_dat rfl) (opv_I ?_)) (ev_dat rfl) (opv_I ?_)) (ev_dat rfl) (opv_I ?_)) opv_I0) (ev_op (ev_op (ev_op (ev_dat rfl) (ev_dat rfl) (opv_I ?_)) (ev_dat rfl) (opv_I ?_)) (ev_dat rfl) (opv_I ?_))) rfl ⟨sizeN u, sizeM u, sizeM_pos ok, Nat.lt_trans (sizeM_lt ok) (Nat.pow_lt_pow_right (by decide) (by decide)), rfl, rfl⟩) hq
  all_goals assumption
def R_num_is_within : List PyData → PyData → Prop := fun ds d => ∃ u : Nu, NuOk u ∧ ds = [nuD u] ∧ d = .bool (withinL u)
abbrev sp_num_is_within (K : PySem.W.Frag) : Sp := spP K 1 R_num_is_within
theorem G_num_is_within (T : Txt K mg) : FnOk P w K mg base CX0 3 (He.ga K "num_is_within") T.e_num_is_within ["x"] (spP K 1 R_num_is_within) := by
  refine T.d_num_is_within.ok (n := 1) (m := 1) sc_num_is_within rfl rfl fun cdv A outer s H E hr => ⟨_, (pss_cons (ps_set (i := 1) sc_num_is_within.nd rfl (.inl rfl) (pe_call (G_num_size T) (hr.mono (by decide)) rfl T.d_num_size.g T.d_num_size.f.kp (b_num_size T) .nil pass0 (pa_cons (pv 0) pa_nil)))
      (pss_one (ps_ret (pe_cmpR (op_lt) (pe_ix ix_tup (pv 1) pe_int (fun _ _ => rfl)) (pe_ix ix_tup (pv 1) pe_int (fun _ _ => rfl)) (nomark _))))),
    fun ds d hl hR H0 D hq hn => ?_⟩
  obtain ⟨u, ok, rfl, rfl⟩ := hR
  refine go_seq (go_set (ev_call (eva_cons (ev_arg rfl) eva_nil) rfl ⟨u, ok, rfl, rfl⟩) (go_nx ?_))
  refine go_ret (ev_is (ev_op (ev_op (ev_dat rfl) ev_int (opv_ixT (i := 0) rfl)) (ev_op (ev_dat rfl) ev_int (opv_ixT (i := 1) rfl)) opv_B0) ?_) hq
  show PyData.bool (decide ((reduc (sizeN u) (sizeM u)).1 < (reduc (sizeN u) (sizeM u)).2)) = _
  rw [reduc_lt (sizeM_pos ok)]
  rfl
def R_is_place : List PyData → PyData → Prop := fun ds d => ∃ u : Nu, NuOk u ∧ ds = [nuD u] ∧ d = .bool (withinL u)
abbrev sp_is_place (K : PySem.W.Frag) : Sp := spP K 1 R_is_place
theorem G_is_place (T : Txt K mg) : FnOk P w K mg base CX0 4 (He.ga K "is_place") T.e_is_place ["value"] (spP K 1 R_is_place) := by
  refine T.d_is_place.ok (n := 1) (m := 0) sc_is_place rfl rfl fun cdv A outer s H E hr => ⟨_, (pss_one (ps_ret (pe_and (pe_call (G_is_num T) (hr.mono (by decide)) rfl T.d_is_num.g T.d_is_num.f.kp (b_is_num T) .nil pass0 (pa_cons (pv 0) pa_nil)) (pe_one (pe_call (G_num_is_within T) (hr.mono (by decide)) rfl T.d_num_is_within.g T.d_num_is_within.f.kp (b_num_is_within T) .nil pass0 (pa_cons (pv 0) pa_nil)))))),
    fun ds d hl hR H0 D hq hn => ?_⟩
  obtain ⟨u, ok, rfl, rfl⟩ := hR
  exact go_ret (ev_is (ev_andV (ev_call (eva_cons (ev_arg rfl) eva_nil) rfl ⟨_, ok, rfl, rfl⟩) fun _ => ev_call (eva_cons (ev_arg rfl) eva_nil) rfl ⟨_, ok, rfl, rfl⟩) (by simp)) hq
def R_count_values : List PyData → PyData → Prop := fun ds d => ∃ D : Da, D.length ≤ 1000 ∧ ds = [daD D] ∧ d = .int (cnt D : Nat)
abbrev sp_count_values (K : PySem.W.Frag) : Sp := spP K 1 R_count_values
theorem G_count_values (T : Txt K mg) : FnOk P w K mg base CX0 1 (He.ga K "count_values") T.e_count_values ["data"] (spP K 1 R_count_values) := by
  refine T.d_count_values.ok (n := 1) (m := 2) sc_count_values rfl rfl fun cdv A outer s H E hr => ⟨_, (pss_one (ps_ret (pe_callB (cr_sum rfl) rfl T.f_sum (by decide +kernel) (pa_cons (pe_lc (own := [("_", 1), ("values", 2)]) (wi := (iTup K (tVar 0))) (g := (gTup K 2 (gCons (gName 1) (gCons (gName 2) gNil)))) (tt := tYes) (te := (tCB (rLenD K) (tCons (tVar 2) tNil))) rfl sc_count_values.nd (pi_tup (pv 0)) (blkOk_by (own := [("_", 1), ("values", 2)]) (N := ["data", "_", "values"]) (sc := defScope S_count_values) (by decide +kernel)) (fun _ _ _ _ _ => (pg_tup rfl (pgs_cons (pg_name (i := 1) sc_count_values.nd rfl (.inl rfl)) (pgs_cons (pg_name (i := 2) sc_count_values.nd rfl (.inl rfl)) pgs_nil)))) (fun _ _ _ _ _ => pts_nil) (fun _ _ _ _ _ => (pe_callB cr_len rfl T.f_len (by decide +kernel) (pa_cons (pv 2) pa_nil)))) pa_nil)))),
    fun ds d hl hR H0 D hq hn => ?_⟩
  obtain ⟨D, hl, rfl, rfl⟩ := hR
  refine go_ret (ev_is (ev_cb (eva_1 (ev_fresh (evf_is (es := (D.map fun p => ((p.2.length : Nat) : Int)).map .int) (evf_mapA D paD (fun p => .int (p.2.length : Nat)) (fun p => ((wipeG _ _).set 1 (.dat (nuD p.1))).set 2 (.dat (vsD p.2))) (itd_tup (ev_arg rfl)) (by omega) (by simp) (fun p _ => tg_pair tg_name tg_name) (fun p _ => ⟨ev_is (ev_cb (eva_1 (ev_dat (d := vsD p.2) rfl)) cbv_lenT) (by rw [List.length_map]), .int _⟩)) (by rw [List.map_map]; rfl)))) cbv_sum) ?_) hq
  unfold cnt
  have key : ∀ D : Da, (D.map fun p => ((p.2.length : Nat) : Int)).sum = ((D.map fun p => p.2.length).sum : Nat) := by
    intro D
    induction D with
    | nil => rfl
    | cons p D ih =>
      rw [List.map_cons, List.map_cons, List.sum_cons, List.sum_cons]
      omega
  rw [key]
def R_places_of : List PyData → List PyData → Prop := fun ds d => ∃ D : Da, D.length ≤ 1000 ∧ ds = [daD D] ∧ d = (D.map (·.1)).map nuD
abbrev sp_places_of (K : PySem.W.Frag) : Sp := spL K 1 R_places_of
theorem G_places_of (T : Txt K mg) : FnOk P w K mg base CX0 1 (He.ga K "places_of") T.e_places_of ["data"] (spL K 1 R_places_of) := by
  refine T.d_places_of.okL (n := 1) (m := 2) sc_places_of rfl rfl fun cdv A outer s H E hr => ⟨_, (pss_one (ps_ret (pe_lc (own := [("place", 1), ("_", 2)]) (wi := (iTup K (tVar 0))) (g := (gTup K 2 (gCons (gName 1) (gCons (gName 2) gNil)))) (tt := tYes) (te := (tVar 1)) rfl sc_places_of.nd (pi_tup (pv 0)) (blkOk_by (own := [("place", 1), ("_", 2)]) (N := ["data", "place", "_"]) (sc := defScope S_places_of) (by decide +kernel)) (fun _ _ _ _ _ => (pg_tup rfl (pgs_cons (pg_name (i := 1) sc_places_of.nd rfl (.inl rfl)) (pgs_cons (pg_name (i := 2) sc_places_of.nd rfl (.inl rfl)) pgs_nil)))) (fun _ _ _ _ _ => pts_nil) (fun _ _ _ _ _ => (pv 1))))),
    fun ds d hl hR H0 D hq => ?_⟩
  obtain ⟨D, hl, rfl, rfl⟩ := hR
  exact go_retF (evf_is (evf_mapA D paD (fun p => nuD p.1) (fun p => ((wipeG _ _).set 1 (.dat (nuD p.1))).set 2 (.dat (vsD p.2))) (itd_tup (ev_arg rfl)) (by omega) (by simp) (fun p _ => tg_pair tg_name tg_name) (fun p _ => ⟨ev_dat rfl, lf_nu _⟩)) (by rw [List.map_map]; rfl)) hq
def R_is_pair : List PyData → PyData → Prop := fun ds d => ∃ p : Pa, PaOk p ∧ ds = [paD p] ∧ d = .bool true
abbrev sp_is_pair (K : PySem.W.Frag) : Sp := spP K 1 R_is_pair
theorem G_is_pair (T : Txt K mg) : FnOk P w K mg base CX0 5 (He.ga K "is_pair") T.e_is_pair ["value"] (spP K 1 R_is_pair) := by
  refine T.d_is_pair.ok (n := 1) (m := 1) sc_is_pair rfl rfl fun cdv A outer s H E hr => ⟨_, (pss_cons (ps_if (PW.pt (pw_or (pt_not (pt_val (pe_callB call_isi rfl T.f_isinstance (by decide +kernel) (pa_cons (pv 0) (pa_cons (pe_bltn (v := .ty "tuple") rfl T.f_tuple (by decide +kernel) rfl) pa_nil))))) (pw_or (pt_cmpR (op_ne) (pe_callB cr_len rfl T.f_len (by decide +kernel) (pa_cons (pv 0) pa_nil)) pe_int (nomark _)) (pw_or (pt_not (pt_val (pe_call (G_is_place T) (hr.mono (by decide)) rfl T.d_is_place.g T.d_is_place.f.kp (b_is_place T) .nil pass0 (pa_cons (pe_ix ix_tup (pv 0) pe_int (fun _ _ => rfl)) pa_nil)))) (pw_or1 (pt_not (pt_val (pe_callB call_isi rfl T.f_isinstance (by decide +kernel) (pa_cons (pe_ix ix_tup (pv 0) pe_int (fun _ _ => rfl)) (pa_cons (pe_bltn (v := .ty "tuple") rfl T.f_tuple (by decide +kernel) rfl) pa_nil)))))))))) (pss_one (ps_ret pe_bl)) pss_nil)
      (pss_one (ps_ret (pe_and (pe_chain op_le op_le pe_int (pe_callB cr_len rfl T.f_len (by decide +kernel) (pa_cons (pe_ix ix_tup (pv 0) pe_int (fun _ _ => rfl)) pa_nil)) (pe_glob (v := .int 3) rfl T.c_MOST_AT_ONE.choose_spec ⟨_, rfl⟩)) (pe_one (pe_callB (cr_all rfl) rfl T.f_all (by decide +kernel) (pa_cons (pe_lc (own := [("each", 1)]) (wi := (iTup K (tOp (rIxT K) (tVar 0) (tC (.int 1))))) (g := (gName 1)) (tt := tYes) (te := (tCall (sp_is_num K) [] E0 (tCons (tVar 1) tNil))) rfl sc_is_pair.nd (pi_tup (pe_ix ix_tup (pv 0) pe_int (fun _ _ => rfl))) (blkOk_by (own := [("each", 1)]) (N := ["value", "each"]) (sc := defScope S_is_pair) (by decide +kernel)) (fun _ _ _ _ _ => (pg_name (i := 1) sc_is_pair.nd rfl (.inl rfl))) (fun _ _ _ _ _ => pts_nil) (fun _ _ _ _ _ => (pe_call (G_is_num T) (hr.mono (by decide)) rfl T.d_is_num.g T.d_is_num.f.kp (b_is_num T) .nil pass0 (pa_cons (pv 1) pa_nil)))) pa_nil))))))),
    fun ds d hl hR H0 D hq hn => ?_⟩
  obtain ⟨p, ok, rfl, rfl⟩ := hR
  refine go_seq (go_ifF (evb_is (evb_or (evb_not (evb_val (ev_isi (b := true) (ev_arg rfl) (fun _ _ h => ty_tup h) (by decide +kernel)))) fun _ => evb_or (evb_test (ev_op (ev_cb (eva_cons (ev_arg rfl) eva_nil) cbv_lenT) ev_int opv_neI)) fun _ => evb_or (evb_not (evb_val (ev_is (ev_call (eva_cons (ev_op (ev_arg rfl) ev_int (opv_ixT (i := 0) rfl)) eva_nil) rfl ⟨_, ok.pl, rfl, rfl⟩) (by rw [ok.win])))) fun _ => evb_not (evb_val (ev_isi (b := true) (ev_op (ev_arg rfl) ev_int (opv_ixT (i := 1) rfl)) (fun _ _ h => ty_tup h) (by decide +kernel)))) (by simp)) ?_)
  have key : ∀ Γ, Γ[0]? = some (.arg (paD p)) → ∀ te, EvF K te Γ ((p.2.map fun _ => true).map .bool) → EvG K te Γ (.list ((p.2.map fun _ => true).map .bool)) := fun _ _ _ h => ev_fresh h
  refine go_ret (ev_is (ev_andV (ev_chain ev_int (ev_cb (eva_1 (ev_op (ev_arg rfl) ev_int (opv_ixT (i := 1) rfl))) cbv_lenT) opv_B0 (fun _ => ev_int) (fun _ => opv_B0)) fun _ => ev_cb (eva_1 (ev_fresh (evf_is (es := (p.2.map fun _ => true).map .bool) (evf_mapA p.2 nuD (fun _ => .bool true) (fun u => (wipeG _ _).set 1 (.dat (nuD u))) (itd_tup (ev_op (ev_arg rfl) ev_int (opv_ixT (i := 1) rfl))) (by have := ok.hi; omega) (by simp) (fun u _ => tg_name) (fun u hu => ⟨ev_call (eva_1 (ev_dat (d := nuD u) rfl)) rfl ⟨_, ok.vs u hu, rfl, rfl⟩, .bl _⟩)) (by rw [List.map_map]; rfl)))) cbv_all) ?_) hq
  have h1 := ok.lo
  have h2 := ok.hi
  rw [List.length_map, decide_eq_true (by omega), decide_eq_true (by omega)]
  simp
end
end K82

/-! part B -/
set_option Elab.async false
set_option linter.all false
set_option maxRecDepth 100000
set_option maxHeartbeats 4000000
set_option autoImplicit false
set_option exponentiation.threshold 9000
/-! texts written -/
namespace K82
open PySem PySem.Spec PyProof.Rows L2
open SX (S S_len S_cat S_inj num_S lens join_S split_S)
section
variable {P : Program} {w : World} {K : PySem.W.Frag} {mg : Str → Option Value} {base : Heap}

theorem sum_len {k : Nat} : ∀ {ps : List (List Nat)}, (∀ p ∈ ps, p.length ≤ k) → (ps.map (·.length)).sum ≤ ps.length * k
  | [], _ => by simp
  | p :: r, h => by
    have h1 := h p List.mem_cons_self
    have h2 := sum_len (ps := r) fun q hq => h q (List.mem_cons_of_mem _ hq)
    simp only [List.map_cons, List.sum_cons, List.length_cons, Nat.add_mul]
    omega
theorem absI (i : Int) : (if i < 0 then -i else i) = (i.natAbs : Int) := by
  split <;> omega
theorem pow30 : (10 : Nat) ^ 400 ≤ 2 ^ 8000 := Nat.le_of_lt (Nat.lt_trans pow_400 (Nat.pow_lt_pow_right (by decide) (by decide)))
def R_fraction_text : List PyData → PyData → Prop := fun ds d => ∃ f : Fr, f.1.natAbs < 10 ^ 400 ∧ f.2.natAbs < 10 ^ 400 ∧ ds = [frD f] ∧ d = sD (frL f)
abbrev sp_fraction_text (K : PySem.W.Frag) : Sp := spP K 1 R_fraction_text
theorem G_fraction_text (T : Txt K mg) : FnOk P w K mg base CX0 1 (He.ga K "fraction_text") T.e_fraction_text ["fraction"] (spP K 1 R_fraction_text) := by
  refine T.d_fraction_text.ok (n := 1) (m := 0) sc_fraction_text rfl rfl fun cdv A outer s H E hr => ⟨_, (pss_one (ps_ret (pe_ifExp (pt_cmpR (op_eq) (pe_ix ix_tup (pv 0) pe_int (fun _ _ => rfl)) pe_int (nomark _)) (pe_callTy cr_str rfl T.f_str (by decide +kernel) (pa_cons (pe_ix ix_tup (pv 0) pe_int (fun _ _ => rfl)) pa_nil)) (pe_op op_addS (pe_op op_addS (pe_callTy cr_str rfl T.f_str (by decide +kernel) (pa_cons (pe_ix ix_tup (pv 0) pe_int (fun _ _ => rfl)) pa_nil)) pe_str) (pe_callTy cr_str rfl T.f_str (by decide +kernel) (pa_cons (pe_ix ix_tup (pv 0) pe_int (fun _ _ => rfl)) pa_nil)))))),
    fun ds d hlen0 hR H0 D hq hn => ?_⟩
  obtain ⟨f, a, b, rfl, rfl⟩ := hR
  have la := intL_len a
  have lb := intL_len b
  by_cases h1 : f.2 = 1
  · refine go_ret (ev_ifT (evb_is (evb_test (ev_op (ev_op (ev_arg rfl) ev_int (opv_ixT (i := 1) rfl)) ev_int opv_eqI)) (decide_eq_true h1)) (ev_is (ev_cb (eva_cons (ev_op (ev_arg rfl) ev_int (opv_ixT (i := 0) rfl)) eva_nil) (cbv_strI a)) ?_)) hq
    unfold frL
    rw [if_pos h1]
  · refine go_ret (ev_ifF (evb_is (evb_test (ev_op (ev_op (ev_arg rfl) ev_int (opv_ixT (i := 1) rfl)) ev_int opv_eqI)) (decide_eq_false h1)) (ev_is (ev_addS (ev_addS (ev_cb (eva_cons (ev_op (ev_arg rfl) ev_int (opv_ixT (i := 0) rfl)) eva_nil) (cbv_strI a)) (ev_lit (x := [47]) (by decide +kernel)) (by simp; omega)) (ev_cb (eva_cons (ev_op (ev_arg rfl) ev_int (opv_ixT (i := 1) rfl)) eva_nil) (cbv_strI b)) (by simp; omega)) ?_)) hq
    unfold frL
    rw [if_neg h1]
    simp
def R__law_part_text : List PyData → PyData → Prop := fun ds d => ∃ f : Fr, f.1.natAbs < 10 ^ 400 ∧ f.2.natAbs < 10 ^ 400 ∧ ds = [frD f] ∧ d = sD (frL f)
abbrev sp__law_part_text (K : PySem.W.Frag) : Sp := spP K 1 R__law_part_text
theorem G__law_part_text (T : Txt K mg) : FnOk P w K mg base CX0 1 (He.ga K "_law_part_text") T.e__law_part_text ["_law_part_here"] (spP K 1 R__law_part_text) := by
  refine T.d__law_part_text.ok (n := 1) (m := 0) sc__law_part_text rfl rfl fun cdv A outer s H E hr => ⟨_, (pss_one (ps_ret (pe_ifExp (pt_cmpR (op_eq) (pe_ix ix_tup (pv 0) pe_int (fun _ _ => rfl)) pe_int (nomark _)) (pe_callTy cr_str rfl T.f_str (by decide +kernel) (pa_cons (pe_ix ix_tup (pv 0) pe_int (fun _ _ => rfl)) pa_nil)) (pe_op op_addS (pe_op op_addS (pe_callTy cr_str rfl T.f_str (by decide +kernel) (pa_cons (pe_ix ix_tup (pv 0) pe_int (fun _ _ => rfl)) pa_nil)) pe_str) (pe_callTy cr_str rfl T.f_str (by decide +kernel) (pa_cons (pe_ix ix_tup (pv 0) pe_int (fun _ _ => rfl)) pa_nil)))))),
    fun ds d hlen0 hR H0 D hq hn => ?_⟩
  obtain ⟨f, a, b, rfl, rfl⟩ := hR
  have la := intL_len a
  have lb := intL_len b
  by_cases h1 : f.2 = 1
  · refine go_ret (ev_ifT (evb_is (evb_test (ev_op (ev_op (ev_arg rfl) ev_int (opv_ixT (i := 1) rfl)) ev_int opv_eqI)) (decide_eq_true h1)) (ev_is (ev_cb (eva_cons (ev_op (ev_arg rfl) ev_int (opv_ixT (i := 0) rfl)) eva_nil) (cbv_strI a)) ?_)) hq
    unfold frL
    rw [if_pos h1]
  · refine go_ret (ev_ifF (evb_is (evb_test (ev_op (ev_op (ev_arg rfl) ev_int (opv_ixT (i := 1) rfl)) ev_int opv_eqI)) (decide_eq_false h1)) (ev_is (ev_addS (ev_addS (ev_cb (eva_cons (ev_op (ev_arg rfl) ev_int (opv_ixT (i := 0) rfl)) eva_nil) (cbv_strI a)) (ev_lit (x := [47]) (by decide +kernel)) (by simp; omega)) (ev_cb (eva_cons (ev_op (ev_arg rfl) ev_int (opv_ixT (i := 1) rfl)) eva_nil) (cbv_strI b)) (by simp; omega)) ?_)) hq
    unfold frL
    rw [if_neg h1]
    simp
def R_number_written : List PyData → PyData → Prop := fun ds d => ∃ u : Nu, NuOk u ∧ ds = [nuD u] ∧ d = sD (nuT u)
abbrev sp_number_written (K : PySem.W.Frag) : Sp := spP K 1 R_number_written
theorem G_number_written (T : Txt K mg) : FnOk P w K mg base CX0 2 (He.ga K "number_written") T.e_number_written ["number"] (spP K 1 R_number_written) := by
  refine T.d_number_written.ok (n := 1) (m := 2) sc_number_written rfl rfl fun cdv A outer s H E hr => ⟨_, (pss_cons (ps_asg (pv 0) (pg_tup rfl (pgs_cons (pg_name (i := 1) sc_number_written.nd rfl (.inl rfl)) (pgs_cons (pg_name (i := 2) sc_number_written.nd rfl (.inl rfl)) pgs_nil))))
      (pss_cons (ps_if (pt_cmpR (op_eqD (u64 hr)) (pv 2) (pe_glob (v := .ref (He.ga K "FRAC_NOUGHT")) rfl T.c_FRAC_NOUGHT rfl) (nomark _)) (pss_one (ps_ret (pe_call (G_fraction_text T) (hr.mono (by decide)) rfl T.d_fraction_text.g T.d_fraction_text.f.kp (b_fraction_text T) .nil pass0 (pa_cons (pv 1) pa_nil)))) pss_nil)
      (pss_cons (ps_if (pt_cmpR (op_eqD (u64 hr)) (pv 1) (pe_glob (v := .ref (He.ga K "FRAC_NOUGHT")) rfl T.c_FRAC_NOUGHT rfl) (nomark _)) (pss_one (ps_ret (pe_op op_addS (pe_call (G_fraction_text T) (hr.mono (by decide)) rfl T.d_fraction_text.g T.d_fraction_text.f.kp (b_fraction_text T) .nil pass0 (pa_cons (pv 2) pa_nil)) pe_str))) pss_nil)
      (pss_one (ps_ret (pe_op op_addS (pe_op op_addS (pe_op op_addS (pe_call (G_fraction_text T) (hr.mono (by decide)) rfl T.d_fraction_text.g T.d_fraction_text.f.kp (b_fraction_text T) .nil pass0 (pa_cons (pv 1) pa_nil)) (pe_ifExp (pt_cmpR (op_gt) (pe_ix ix_tup (pv 2) pe_int (fun _ _ => rfl)) pe_int (nomark _)) pe_str pe_str)) (pe_call (G_fraction_text T) (hr.mono (by decide)) rfl T.d_fraction_text.g T.d_fraction_text.f.kp (b_fraction_text T) .nil pass0 (pa_cons (pv 2) pa_nil))) pe_str)))))),
    fun ds d hlen0 hR H0 D hq hn => ?_⟩
  obtain ⟨u, ok, rfl, rfl⟩ := hR
  have la := frL_len ok.a
  have lb := frL_len ok.b
  refine go_seq (go_asg (ev_arg rfl) (tg_pair tg_name tg_name) (go_nx ?_))
  unfold nuT at hq
  by_cases h1 : u.2 = (0, 1)
  · rw [if_pos h1] at hq
    exact go_seq (go_ifT (evb_is (evb_test (ev_op (ev_dat rfl) (ev_nought T) opv_eqFr)) (decide_eq_true h1)) (go_ret (ev_call (eva_1 (ev_dat rfl)) rfl ⟨_, ok.a.n, ok.a.m, rfl, rfl⟩) hq))
  rw [if_neg h1] at hq
  refine go_seq (go_ifF (evb_is (evb_test (ev_op (ev_dat rfl) (ev_nought T) opv_eqFr)) (decide_eq_false h1)) (go_next (go_nx ?_)))
  by_cases h2 : u.1 = (0, 1)
  · rw [if_pos h2] at hq
    exact go_seq (go_ifT (evb_is (evb_test (ev_op (ev_dat rfl) (ev_nought T) opv_eqFr)) (decide_eq_true h2)) (go_ret (ev_addS (ev_call (eva_1 (ev_dat rfl)) rfl ⟨_, ok.b.n, ok.b.m, rfl, rfl⟩) (ev_lit (x := [105]) (by decide +kernel)) (by simp; omega)) hq))
  rw [if_neg h2] at hq
  refine go_seq (go_ifF (evb_is (evb_test (ev_op (ev_dat rfl) (ev_nought T) opv_eqFr)) (decide_eq_false h2)) (go_next (go_nx ?_)))
  have ls : (if 0 < u.2.1 then [43] else ([] : List Nat)).length ≤ 1 := by split <;> simp
  exact go_ret (ev_addS (ev_addS (ev_addS (ev_call (eva_1 (ev_dat rfl)) rfl ⟨_, ok.a.n, ok.a.m, rfl, rfl⟩) (ev_if (b := decide (0 < u.2.1)) (evb_test (ev_op (ev_op (ev_dat rfl) ev_int (opv_ixT (i := 0) rfl)) ev_int opv_B0)) (fun h => ev_is (ev_lit (x := [43]) (by decide +kernel)) (z := sD (if 0 < u.2.1 then [43] else [])) (by rw [if_pos (of_decide_eq_true h)])) (fun h => ev_is (ev_lit (x := []) (by decide +kernel)) (by rw [if_neg (of_decide_eq_false h)]))) (by omega)) (ev_call (eva_1 (ev_dat rfl)) rfl ⟨_, ok.b.n, ok.b.m, rfl, rfl⟩) (by simp only [List.length_append]; omega)) (ev_lit (x := [105]) (by decide +kernel)) (by simp only [List.length_append, List.length_singleton]; omega)) hq
def R_numbers_written : List PyData → PyData → Prop := fun ds d => ∃ us : List Nu, us.length ≤ 100 ∧ (∀ u ∈ us, NuOk u) ∧ ds = [vsD us] ∧ d = sD (joinC 32 (us.map nuT))
abbrev sp_numbers_written (K : PySem.W.Frag) : Sp := spP K 1 R_numbers_written
theorem G_numbers_written (T : Txt K mg) : FnOk P w K mg base CX0 3 (He.ga K "numbers_written") T.e_numbers_written ["numbers"] (spP K 1 R_numbers_written) := by
  refine T.d_numbers_written.ok (n := 1) (m := 1) sc_numbers_written rfl rfl fun cdv A outer s H E hr => ⟨_, (pss_one (ps_ret (pe_m1 PySem.F.slot_str_join PySem.F.type_str_join mt_joinD pe_str (pe_lc (own := [("each", 1)]) (wi := (iTup K (tVar 0))) (g := (gName 1)) (tt := tYes) (te := (tCall (sp_number_written K) [] E0 (tCons (tVar 1) tNil))) rfl sc_numbers_written.nd (pi_tup (pv 0)) (blkOk_by (own := [("each", 1)]) (N := ["numbers", "each"]) (sc := defScope S_numbers_written) (by decide +kernel)) (fun _ _ _ _ _ => (pg_name (i := 1) sc_numbers_written.nd rfl (.inl rfl))) (fun _ _ _ _ _ => pts_nil) (fun _ _ _ _ _ => (pe_call (G_number_written T) (hr.mono (by decide)) rfl T.d_number_written.g T.d_number_written.f.kp (b_number_written T) .nil pass0 (pa_cons (pv 1) pa_nil))))))),
    fun ds d hlen0 hR H0 D hq hn => ?_⟩
  obtain ⟨us, hl, ok, rfl, rfl⟩ := hR
  refine go_ret (ev_is (ev_joinS (ys := us.map nuT) (ev_lit (x := [32]) (by decide +kernel)) (ev_fresh (evf_is (evf_mapA us nuD (fun u => sD (nuT u)) (fun u => (wipeG _ _).set 1 (.dat (nuD u))) (itd_tup (ev_arg rfl)) (by omega) (by simp) (fun u _ => tg_name) (fun u hu => ⟨ev_call (eva_1 (ev_dat (d := nuD u) rfl)) rfl ⟨u, ok u hu, rfl, rfl⟩, .str _⟩)) (by rw [List.map_map]; rfl))) ?_) (by rw [joinL_one])) hq
  have := sum_len (ps := us.map nuT) (k := 1608) (fun p hp => by
    obtain ⟨u, hu, rfl⟩ := List.mem_map.mp hp
    exact nuT_len (ok u hu))
  rw [List.length_map] at this
  have h3 : us.length * 1608 ≤ 100 * 1608 := Nat.mul_le_mul_right _ hl
  simp only [List.length_map, List.length_singleton]
  omega
def R_pair_written : List PyData → PyData → Prop := fun ds d => ∃ p : Pa, PaOk p ∧ ds = [paD p] ∧ d = sD (paT p)
abbrev sp_pair_written (K : PySem.W.Frag) : Sp := spP K 1 R_pair_written
theorem G_pair_written (T : Txt K mg) : FnOk P w K mg base CX0 4 (He.ga K "pair_written") T.e_pair_written ["pair"] (spP K 1 R_pair_written) := by
  refine T.d_pair_written.ok (n := 1) (m := 0) sc_pair_written rfl rfl fun cdv A outer s H E hr => ⟨_, (pss_one (ps_ret (pe_op op_addS (pe_op op_addS (pe_call (G_number_written T) (hr.mono (by decide)) rfl T.d_number_written.g T.d_number_written.f.kp (b_number_written T) .nil pass0 (pa_cons (pe_ix ix_tup (pv 0) pe_int (fun _ _ => rfl)) pa_nil)) pe_str) (pe_call (G_numbers_written T) (hr.mono (by decide)) rfl T.d_numbers_written.g T.d_numbers_written.f.kp (b_numbers_written T) .nil pass0 (pa_cons (pe_ix ix_tup (pv 0) pe_int (fun _ _ => rfl)) pa_nil))))),
    fun ds d hlen0 hR H0 D hq hn => ?_⟩
  obtain ⟨p, ok, rfl, rfl⟩ := hR
  have l1 := nuT_len ok.pl
  have l2 := paT_len ok
  unfold paT at l2
  simp only [List.length_append, List.length_cons, List.length_nil] at l2
  exact go_ret (ev_addS (ev_addS (ev_call (eva_cons (ev_op (ev_arg rfl) ev_int (opv_ixT (i := 0) rfl)) eva_nil) rfl ⟨_, ok.pl, rfl, rfl⟩) (ev_lit (x := [58, 32]) (by decide +kernel)) (by simp only [List.length_cons, List.length_nil]; omega)) (ev_call (eva_cons (ev_op (ev_arg rfl) ev_int (opv_ixT (i := 1) rfl)) eva_nil) rfl ⟨_, by have := ok.hi; omega, ok.vs, rfl, rfl⟩) (by simp only [List.length_append, List.length_cons, List.length_nil]; omega)) hq
def R_data_written : List PyData → PyData → Prop := fun ds d => ∃ D : Da, DaOk D ∧ ds = [daD D] ∧ d = sD (daT D)
abbrev sp_data_written (K : PySem.W.Frag) : Sp := spP K 1 R_data_written
theorem G_data_written (T : Txt K mg) : FnOk P w K mg base CX0 5 (He.ga K "data_written") T.e_data_written ["data"] (spP K 1 R_data_written) := by
  refine T.d_data_written.ok (n := 1) (m := 1) sc_data_written rfl rfl fun cdv A outer s H E hr => ⟨_, (pss_one (ps_ret (pe_m1 PySem.F.slot_str_join PySem.F.type_str_join mt_joinD pe_str (pe_lc (own := [("pair", 1)]) (wi := (iTup K (tVar 0))) (g := (gName 1)) (tt := tYes) (te := (tOp rAddS (tCall (sp_pair_written K) [] E0 (tCons (tVar 1) tNil)) (tC (.str "\n")))) rfl sc_data_written.nd (pi_tup (pv 0)) (blkOk_by (own := [("pair", 1)]) (N := ["data", "pair"]) (sc := defScope S_data_written) (by decide +kernel)) (fun _ _ _ _ _ => (pg_name (i := 1) sc_data_written.nd rfl (.inl rfl))) (fun _ _ _ _ _ => pts_nil) (fun _ _ _ _ _ => (pe_op op_addS (pe_call (G_pair_written T) (hr.mono (by decide)) rfl T.d_pair_written.g T.d_pair_written.f.kp (b_pair_written T) .nil pass0 (pa_cons (pv 1) pa_nil)) pe_str)))))),
    fun ds d hlen0 hR H0 D hq hn => ?_⟩
  obtain ⟨D, ok, rfl, rfl⟩ := hR
  refine go_ret (ev_is (ev_joinS (ys := D.map fun p => paT p ++ [10]) (ev_lit (x := []) (by decide +kernel)) (ev_fresh (evf_is (evf_mapA D paD (fun p => sD (paT p ++ [10])) (fun p => (wipeG _ _).set 1 (.dat (paD p))) (itd_tup (ev_arg rfl)) (by have := ok.len; omega) (by simp) (fun p _ => tg_name) (fun p hp => ⟨ev_addS (ev_call (eva_1 (ev_dat (d := paD p) rfl)) rfl ⟨p, ok.ps p hp, rfl, rfl⟩) (ev_lit (x := [10]) (by decide +kernel)) (by have := paT_len (ok.ps p hp); simp; omega), .str _⟩)) (by rw [List.map_map]; rfl))) ?_) ?_) hq
  · have := sum_len (ps := D.map fun p => paT p ++ [10]) (k := 6501) (fun p hp => by
      obtain ⟨q, hq, rfl⟩ := List.mem_map.mp hp
      have := paT_len (ok.ps q hq)
      simp only [List.length_append, List.length_singleton]
      omega)
    rw [List.length_map] at this
    have h3 : D.length * 6501 ≤ 6 * 6501 := Nat.mul_le_mul_right _ ok.len
    simp only [List.length_map, List.length_nil]
    omega
  · unfold daT
    have key : ∀ D : Da, TL.joinL [] (D.map fun p => paT p ++ [10]) = D.flatMap fun p => paT p ++ [10] := by
      intro D
      induction D with
      | nil => rfl
      | cons p r ih =>
        cases r with
        | nil => simp [TL.joinL]
        | cons q r =>
          show (paT p ++ [10]) ++ ([] ++ TL.joinL [] ((q :: r).map fun p => paT p ++ [10])) = _
          rw [ih]
          rfl
    rw [key]
def R__law_near : List PyData → PyData → Prop := fun ds d => ∃ a b : Nat, ds = [.int a, .int b] ∧ d = .int (Nat.gcd a b : Nat)
abbrev sp__law_near (K : PySem.W.Frag) : Sp := spP K 2 R__law_near
theorem G__law_near (T : Txt K mg) : FnOk P w K mg base CX0 1 (He.ga K "_law_near") T.e__law_near ["_law_one", "_law_two"] (spP K 2 R__law_near) := by
  refine T.d__law_near.ok (n := 2) (m := 0) sc__law_near rfl rfl fun cdv A outer s H E hr => ⟨_, (pss_cons (ps_while PassesOwn.never (pt_cmpR (op_gt) (pv 1) pe_int (nomark _)) (pss_one (ps_par (i := 0) (j := 1) rfl sc__law_near.nd rfl rfl (by decide) rfl rfl (pa_cons (pv 1) (pa_cons (pe_op op_mod (pe_callTy cr_intI rfl T.f_int (by decide +kernel) (pa_cons (pv 0) pa_nil)) (pv 1)) pa_nil)) (by rfl))))
      (pss_one (ps_ret (pv 0)))),
    fun ds d hlen0 hR H0 D hq hn => ?_⟩
  obtain ⟨a, b, rfl, rfl⟩ := hR
  refine go_seq (go_dat (go_while (fun m Γ => ∃ x y : Nat, Γ = [.dat (.int x), .dat (.int y)] ∧ m = y ∧ Nat.gcd x y = Nat.gcd a b) b ⟨a, b, rfl, rfl, rfl⟩ ?_))
  rintro y Γ ⟨x, _, rfl, rfl, hg⟩
  refine ⟨decide (0 < y), evb_is (evb_test (ev_op (ev_dat rfl) ev_int opv_B0)) (by simp), fun hb => ?_, fun hb => ?_⟩
  · have hy : 0 < y := of_decide_eq_true hb
    refine go_par (eva_2 (ev_dat rfl) (ev_op (ev_cb (eva_1 (ev_dat rfl)) cbv_intI) (ev_dat rfl) (opv_I (by omega)))) ?_
    refine fun σ H S => ⟨x % y, _, Nat.mod_lt _ hy, ⟨y, x % y, rfl, rfl, ?_⟩, S⟩
    rw [← hg, Nat.gcd_comm x y, Nat.gcd_rec y x, Nat.gcd_comm]
  · have hy : y = 0 := by
      have := of_decide_eq_false hb
      omega
    subst hy
    refine go_nx (go_ret (ev_is (ev_dat rfl) ?_) hq)
    rw [← hg, Nat.gcd_zero_right]
def R__law_part : List PyData → PyData → Prop := fun ds d => ∃ n m : Int, 0 < m ∧ m.natAbs < 2 ^ 8000 ∧ ds = [.int n, .int m] ∧ d = frD (reduc n m)
abbrev sp__law_part (K : PySem.W.Frag) : Sp := spP K 2 R__law_part
theorem G__law_part (T : Txt K mg) : FnOk P w K mg base CX0 2 (He.ga K "_law_part") T.e__law_part ["_law_n", "_law_m"] (spP K 2 R__law_part) := by
  refine T.d__law_part.ok (n := 2) (m := 1) sc__law_part rfl rfl fun cdv A outer s H E hr => ⟨_, (pss_cons (ps_set (i := 2) sc__law_part.nd rfl (.inl rfl) (pe_call (G__law_near T) (hr.mono (by decide)) rfl T.d__law_near.g T.d__law_near.f.kp (b__law_near T) .nil pass0 (pa_cons (pe_callB cr_abs rfl T.f_abs (by decide +kernel) (pa_cons (pv 0) pa_nil)) (pa_cons (pv 1) pa_nil))))
      (pss_one (ps_ret (pe_tup (pa_cons (pe_op op_fdivW (pv 0) (pv 2)) (pa_cons (pe_op op_fdivW (pv 1) (pv 2)) pa_nil)))))),
    fun ds d hlen0 hR H0 D hq hn => ?_⟩
  obtain ⟨n, m, h1, h2, rfl, rfl⟩ := hR
  have hg : 0 < Nat.gcd n.natAbs m.natAbs := Nat.gcd_pos_of_pos_right _ (by omega)
  have hg2 : Nat.gcd n.natAbs m.natAbs ≤ m.natAbs := Nat.gcd_le_right _ (by omega)
  have dv : ∀ i : Int, CDivW i ((Nat.gcd n.natAbs m.natAbs : Nat) : Int) := fun i => wide_div (b := 8000) (by omega) (by rw [Int.natAbs_natCast]; exact Nat.lt_of_le_of_lt hg2 h2) (by decide) (by decide)
  refine go_seq (go_set (d := .int (Nat.gcd n.natAbs m.natAbs : Nat)) (ev_call (eva_2 (ev_is (ev_cb (eva_1 (ev_arg rfl)) cbv_abs) (by rw [absI])) (ev_is (ev_arg rfl) (z := .int (m.natAbs : Nat)) (by rw [show (m.natAbs : Int) = m by omega]))) rfl ⟨_, _, rfl, rfl⟩) (go_nx ?_))
  exact go_ret (ev_tup2 (ev_op (ev_arg rfl) (ev_dat rfl) (opv_I (dv _))) (ev_op (ev_arg rfl) (ev_dat rfl) (opv_I (dv _)))) hq
end
end K82

/-! part C -/
set_option Elab.async false
set_option linter.all false
set_option maxRecDepth 100000
set_option maxHeartbeats 4000000
set_option autoImplicit false
set_option exponentiation.threshold 9000
/-! texts read -/
namespace K82
open PySem PySem.Spec PyProof.Rows L2
open SX (S S_len S_cat S_inj num_S lens join_S split_S)
section
variable {P : Program} {w : World} {K : PySem.W.Frag} {mg : Str → Option Value} {base : Heap}

theorem mem_fig (c : Nat) : decide (c ∈ [48, 49, 50, 51, 52, 53, 54, 55, 56, 57]) = digC c := by
  rw [Bool.eq_iff_iff, decide_eq_true_iff, digC_iff]
  constructor
  · intro h
    simp at h
    omega
  · rintro ⟨h1, h2⟩
    have : c = 48 ∨ c = 49 ∨ c = 50 ∨ c = 51 ∨ c = 52 ∨ c = 53 ∨ c = 54 ∨ c = 55 ∨ c = 56 ∨ c = 57 := by omega
    simp [this]
theorem signs_S (x : List Nat) : signsD (S x) = x.map fun c => sD [c] := rfl
theorem all_dig (x : List Nat) : (x.map fun c => digC c).all id = x.all digC := by
  rw [List.all_map]
  rfl
theorem cr_max3 {X : Cx} (hc : X.calm = true) : CallR X (.builtin "max") (rNuC3 nuMax3) := call_max3Nu hc
abbrev rMax3 : List V → Hp → VK → Prop := rNuC3 nuMax3
theorem cbv_max3 {K : PySem.W.Frag} {i j k : Int} : CbV K rMax3 [.int i, .int j, .int k] (.int (max (max i j) k)) := fun H vs hv Q q => by
  cases hv with
  | cons h1 hr =>
    cases hr with
    | cons h2 hr =>
      cases hr with
      | cons h3 hr =>
        cases hr
        rw [h1.intI, h2.intI, h3.intI]
        refine ⟨_, _, _, .int (max (max i j) k), rfl, ?_, q _ H (Same.refl H) (.int _)⟩
        have e : ∀ a b : Int, nuMax2 (.int a) (.int b) = some (.int (max a b)) := fun a b => by
          show some (if decide (a < b) = true then V.int b else V.int a) = _
          by_cases h : a < b
          · rw [if_pos (decide_eq_true h), Int.max_eq_right (by omega)]
          · rw [if_neg (by simpa using h), Int.max_eq_left (by omega)]
        show (nuMax2 (.int i) (.int j)).bind _ = _
        rw [e]
        exact e _ _
theorem tail_drop (x : List Nat) : x.drop 1 = x.tail := by cases x <;> rfl
def R_whole_in : List PyData → List PyData → Prop := fun ds d => ∃ x : List Nat, x.length ≤ 50000 ∧ ds = [sD x] ∧ d = (wholeL x).toList.map fun n => .int (n : Nat)
abbrev sp_whole_in (K : PySem.W.Frag) : Sp := spL K 1 R_whole_in
theorem G_whole_in (T : Txt K mg) : FnOk P w K mg base CX0 1 (He.ga K "whole_in") T.e_whole_in ["word"] (spL K 1 R_whole_in) := by
  refine T.d_whole_in.okL (n := 1) (m := 1) sc_whole_in rfl rfl fun cdv A outer s H E hr => ⟨_, (pss_cons (ps_if (PW.pt (pw_or (pt_cmpR (op_eq) (pv 0) pe_str (nomark _)) (pw_or (pt_cmpR (op_gt) (pe_callB cr_len rfl T.f_len (by decide +kernel) (pa_cons (pv 0) pa_nil)) (pe_glob (v := .int 400) rfl T.c_MOST_FIGURES.choose_spec ⟨_, rfl⟩) (nomark _)) (pw_or1 (pt_not (pt_val (pe_callB (cr_all rfl) rfl T.f_all (by decide +kernel) (pa_cons (pe_lc (own := [("sign", 1)]) (wi := (iStr (tVar 0))) (g := (gName 1)) (tt := tYes) (te := (tOp rInS (tVar 1) (tC (.str "0123456789")))) rfl sc_whole_in.nd (pi_str (pv 0)) (blkOk_by (own := [("sign", 1)]) (N := ["word", "sign"]) (sc := defScope S_whole_in) (by decide +kernel)) (fun _ _ _ _ _ => (pg_name (i := 1) sc_whole_in.nd rfl (.inl rfl))) (fun _ _ _ _ _ => pts_nil) (fun _ _ _ _ _ => (pe_cmpR (op_inS) (pv 1) (pe_glob (v := .str "0123456789") rfl T.c_FIGURES.choose_spec ⟨_, rfl⟩) (by rfl)))) pa_nil)))))))) (pss_one (ps_ret (pe_lst pa_nil))) pss_nil)
      (pss_one (ps_ret (pe_ifExp (PW.pt (pw_or (pt_cmpR (op_eq) (pv 0) pe_str (nomark _)) (pw_or1 (pt_cmpR (op_ne) (pe_ix ix_str (pv 0) pe_int (fun _ _ => rfl)) pe_str (nomark _))))) (pe_lst (pa_cons (pe_callTy cr_intS rfl T.f_int (by decide +kernel) (pa_cons (pv 0) pa_nil)) pa_nil)) (pe_lst pa_nil))))),
    fun ds d hlen0 hR H0 D hq => ?_⟩
  obtain ⟨x, hx, rfl, rfl⟩ := hR
  refine go_seq (go_if (b := decide (x = []) || (decide ((400 : Int) < ((x.length : Nat) : Int)) || !(x.all digC))) (evb_or (evb_test (ev_op (ev_arg rfl) (ev_lit (x := []) (by decide +kernel)) opv_eqS)) fun _ => evb_or (evb_test (ev_op (ev_cb (eva_cons (ev_arg rfl) eva_nil) (cbv_lenS' (by omega))) ev_int opv_B0)) fun _ => evb_not (evb_val (ev_is (ev_cb (eva_1 (ev_fresh (evf_is (es := (x.map fun c => digC c).map .bool) (evf_mapA x (fun c => sD [c]) (fun c => .bool (digC c)) (fun c => (wipeG _ _).set 1 (.dat (sD [c]))) (ita_str (x := S x) (ev_arg rfl)).toD (by omega) (by simp) (fun c _ => tg_name) (fun c _ => ⟨ev_is (ev_op (ev_dat (d := sD [c]) rfl) (ev_lit (x := [48, 49, 50, 51, 52, 53, 54, 55, 56, 57]) (by decide +kernel)) opv_inC) (by rw [mem_fig]), .bl _⟩)) (by rw [List.map_map]; rfl)))) cbv_all) (by rw [all_dig])))) (fun hc => ?_) (fun hc => go_next (go_nx ?_)))
  · have e : wholeL x = none := by
      unfold wholeL
      rw [if_pos]
      rw [Bool.or_eq_true, Bool.or_eq_true] at hc
      rcases hc with h | h | h
      · exact .inl (of_decide_eq_true h)
      · have := of_decide_eq_true h
        exact .inr (.inl (by omega))
      · exact .inr (.inr (.inl (by simpa using h)))
    rw [e] at hq
    exact go_retF (evf_lst eva_nil (by simp)) hq
  · rw [Bool.or_eq_false_iff, Bool.or_eq_false_iff] at hc
    obtain ⟨c1, c2, c3⟩ := hc
    have c1 := of_decide_eq_false c1
    have c2 := of_decide_eq_false c2
    have c3 : x.all digC = true := by simpa using c3
    obtain ⟨a, r, rfl⟩ : ∃ a r, x = a :: r := by
      cases x with
      | nil => exact absurd rfl c1
      | cons a r => exact ⟨a, r, rfl⟩
    refine go_retF (evf_if (b := decide (a :: r = [48]) || !decide ([a] = [48])) (evb_or (evb_test (ev_op (ev_arg rfl) (ev_lit (x := [48]) (by decide +kernel)) opv_eqS)) fun _ => evb_test (ev_op (ev_op (ev_arg rfl) ev_int (opv_ixC (i := 0) (by omega) rfl)) (ev_lit (x := [48]) (by decide +kernel)) opv_neS)) (fun h => ?_) (fun h => ?_)) hq
    · have e : wholeL (a :: r) = some (NumText.digitsVal (a :: r)) := by
        unfold wholeL
        rw [if_neg]
        rintro (z | z | z | ⟨z1, z2⟩)
        · cases z
        · omega
        · rw [c3] at z; cases z
        · rw [Bool.or_eq_true] at h
          rcases h with h | h
          · exact z2 (of_decide_eq_true h)
          · have : a = 48 := Option.some.inj z1
            rw [this] at h
            simp at h
      rw [e]
      exact evf_lst (eva_1 (ev_cb (eva_1 (ev_arg rfl)) (cbv_intL e))) (by simp)
    · have e : wholeL (a :: r) = none := by
        unfold wholeL
        rw [if_pos]
        rw [Bool.or_eq_false_iff] at h
        refine .inr (.inr (.inr ⟨?_, of_decide_eq_false h.1⟩))
        have := h.2
        have : a = 48 := by simpa using this
        rw [this]
        rfl
      rw [e]
      exact evf_lst eva_nil (by simp)
def wD : Option Nat → PyData
  | none => .none
  | some n => .int (n : Nat)
def fD : Option Fr → PyData
  | none => .none
  | some x => frD x
def nD : Option Nu → PyData
  | none => .none
  | some x => nuD x
def R__law_read_whole : List PyData → PyData → Prop := fun ds d => ∃ x : List Nat, x.length ≤ 50000 ∧ ds = [sD x] ∧ d = wD (wholeL x)
abbrev sp__law_read_whole (K : PySem.W.Frag) : Sp := spP K 1 R__law_read_whole
theorem G__law_read_whole (T : Txt K mg) : FnOk P w K mg base CX0 1 (He.ga K "_law_read_whole") T.e__law_read_whole ["_law_word_here"] (spP K 1 R__law_read_whole) := by
  refine T.d__law_read_whole.ok (n := 1) (m := 1) sc__law_read_whole rfl rfl fun cdv A outer s H E hr => ⟨_, (pss_cons (ps_if (PW.pt (pw_or (pt_cmpR (op_eq) (pv 0) pe_str (nomark _)) (pw_or (pt_cmpR (op_gt) (pe_callB cr_len rfl T.f_len (by decide +kernel) (pa_cons (pv 0) pa_nil)) pe_int (nomark _)) (pw_or1 (PW.pt (pw_and (pt_cmpR (op_eq) (pe_ix ix_str (pv 0) pe_int (fun _ _ => rfl)) pe_str (nomark _)) (pw_and1 (pt_cmpR (op_ne) (pv 0) pe_str (nomark _))))))))) (pss_one (ps_ret pe_non)) pss_nil)
      (pss_one (ps_ret (pe_ifExp (pt_val (pe_callB (cr_all rfl) rfl T.f_all (by decide +kernel) (pa_cons (pe_lc (own := [("_law_each", 1)]) (wi := (iStr (tVar 0))) (g := (gName 1)) (tt := tYes) (te := (tOp rInS (tVar 1) (tC (.str "0123456789")))) rfl sc__law_read_whole.nd (pi_str (pv 0)) (blkOk_by (own := [("_law_each", 1)]) (N := ["_law_word_here", "_law_each"]) (sc := defScope S__law_read_whole) (by decide +kernel)) (fun _ _ _ _ _ => (pg_name (i := 1) sc__law_read_whole.nd rfl (.inl rfl))) (fun _ _ _ _ _ => pts_nil) (fun _ _ _ _ _ => (pe_cmpR (op_inS) (pv 1) pe_str (by rfl)))) pa_nil))) (pe_callTy cr_intS rfl T.f_int (by decide +kernel) (pa_cons (pv 0) pa_nil)) pe_non)))),
    fun ds d hlen0 hR H0 D hq hn => ?_⟩
  obtain ⟨x, hx, rfl, rfl⟩ := hR
  by_cases c1 : x = []
  · subst c1
    exact go_seq (go_ifT (evb_orT1 (evb_is (evb_test (ev_op (ev_arg rfl) (ev_lit (x := []) (by decide +kernel)) opv_eqS)) rfl)) (go_ret ev_non hq))
  obtain ⟨a, r, rfl⟩ : ∃ a r, x = a :: r := by
    cases x with
    | nil => exact absurd rfl c1
    | cons a r => exact ⟨a, r, rfl⟩
  refine go_seq (go_if (b := false || (decide ((400 : Int) < (((a :: r).length : Nat) : Int)) || (decide ([a] = [48]) && !decide (a :: r = [48])))) (evb_or (evb_is (evb_test (ev_op (ev_arg rfl) (ev_lit (x := []) (by decide +kernel)) opv_eqS)) (by simp)) fun _ => evb_or (evb_test (ev_op (ev_cb (eva_cons (ev_arg rfl) eva_nil) (cbv_lenS' (by omega))) ev_int opv_B0)) fun _ => evb_and (evb_test (ev_op (ev_op (ev_arg rfl) ev_int (opv_ixC (i := 0) (by omega) rfl)) (ev_lit (x := [48]) (by decide +kernel)) opv_eqS)) fun _ => (evb_test (ev_op (ev_arg rfl) (ev_lit (x := [48]) (by decide +kernel)) opv_neS))) (fun hc => ?_) (fun hc => go_next (go_nx ?_)))
  · have e : wholeL (a :: r) = none := by
      unfold wholeL
      rw [if_pos]
      rw [Bool.false_or, Bool.or_eq_true, Bool.and_eq_true] at hc
      rcases hc with h | ⟨h, h2⟩
      · have := of_decide_eq_true h
        exact .inr (.inl (by omega))
      · have : a = 48 := by simpa using h
        exact .inr (.inr (.inr ⟨by rw [this]; rfl, fun z => by rw [decide_eq_true z] at h2; cases h2⟩))
    rw [e] at hq
    exact go_ret ev_non hq
  · rw [Bool.false_or, Bool.or_eq_false_iff] at hc
    have c2 := of_decide_eq_false hc.1
    have c3 := hc.2
    generalize hx' : a :: r = x at *
    refine go_ret (ev_if (b := x.all digC) (evb_val (ev_is (ev_cb (eva_1 (ev_fresh (evf_is (es := (x.map fun c => digC c).map .bool) (evf_mapA x (fun c => sD [c]) (fun c => .bool (digC c)) (fun c => (wipeG _ _).set 1 (.dat (sD [c]))) (ita_str (x := S x) (ev_arg rfl)).toD (by omega) (by simp) (fun c _ => tg_name) (fun c _ => ⟨ev_is (ev_op (ev_dat (d := sD [c]) rfl) (ev_lit (x := [48, 49, 50, 51, 52, 53, 54, 55, 56, 57]) (by decide +kernel)) opv_inC) (by rw [mem_fig]), .bl _⟩)) (by rw [List.map_map]; rfl)))) cbv_all) (by rw [all_dig]))) (fun h => ?_) (fun h => ?_)) hq
    · have e : wholeL x = some (NumText.digitsVal x) := by
        unfold wholeL
        rw [if_neg]
        rintro (z | z | z | ⟨z1, z2⟩)
        · exact c1 z
        · omega
        · rw [h] at z; cases z
        · rw [← hx'] at z1
          have : a = 48 := Option.some.inj z1
          rw [this] at c3
          simp at c3
          exact z2 c3
      rw [e]
      exact ev_cb (eva_1 (ev_arg rfl)) (cbv_intL e)
    · have e : wholeL x = none := by
        unfold wholeL
        rw [if_pos (.inr (.inr (.inl h)))]
      rw [e]
      exact ev_non
theorem ediv_le {a : Int} {g : Nat} (h : (g : Int) ∣ a) : (a / (g : Int)).natAbs ≤ a.natAbs := by
  obtain ⟨k, rfl⟩ := h
  by_cases hg : g = 0
  · subst hg
    simp
  · rw [Int.mul_ediv_cancel_left _ (by omega), Int.natAbs_mul, Int.natAbs_natCast]
    exact Nat.le_mul_of_pos_left _ (by omega)
theorem reduc_le (n m : Int) : (reduc n m).1.natAbs ≤ n.natAbs ∧ (reduc n m).2.natAbs ≤ m.natAbs :=
  ⟨ediv_le (Int.ofNat_dvd_left.mpr (Nat.gcd_dvd_left _ _)), ediv_le (Int.ofNat_dvd_left.mpr (Nat.gcd_dvd_right _ _))⟩
theorem body_is (x : List Nat) : (if negS x = true then x.drop 1 else x) = bodyS x := by
  unfold bodyS
  rw [tail_drop]
theorem lf_int (ns : List Nat) : ∀ d ∈ ns.map fun n => PyData.int (n : Nat), LF d := fun d hd => by
  obtain ⟨n, _, rfl⟩ := List.mem_map.mp hd
  exact .int _
theorem lf_frs (ns : List Fr) : ∀ d ∈ ns.map frD, LF d := fun d hd => by
  obtain ⟨n, _, rfl⟩ := List.mem_map.mp hd
  exact lf_fr _
theorem lf_nus (ns : List Nu) : ∀ d ∈ ns.map nuD, LF d := fun d hd => by
  obtain ⟨n, _, rfl⟩ := List.mem_map.mp hd
  exact lf_nu _
theorem lf_strs (ns : List (List Nat)) : ∀ d ∈ ns.map sD, LF d := fun d hd => by
  obtain ⟨n, _, rfl⟩ := List.mem_map.mp hd
  exact .str _
theorem opt_len {α : Type} (o : Option α) : o.toList.length ≤ 1 := by cases o <;> simp
theorem whole_lt {p : List Nat} {n : Nat} (h : wholeL p = some n) : n < 10 ^ 400 := num_lt (wholeL_some h).2
theorem flat_map_eq (ps : List (List Nat)) : ((ps.map sD).flatMap fun d => match d with | .str q => ((wholeL q.cps.toList).toList.map fun n => PyData.int (n : Nat)) | _ => []) = (ps.flatMap fun p => (wholeL p).toList).map fun n => PyData.int (n : Nat) := by
  induction ps with
  | nil => rfl
  | cons p r ih =>
    rw [List.map_cons, List.flatMap_cons, ih, List.flatMap_cons, List.map_append]
def R_fraction_in : List PyData → List PyData → Prop := fun ds d => ∃ x : List Nat, x.length ≤ 50000 ∧ ds = [sD x] ∧ d = (fracL x).toList.map frD
abbrev sp_fraction_in (K : PySem.W.Frag) : Sp := spL K 1 R_fraction_in
theorem G_fraction_in (T : Txt K mg) : FnOk P w K mg base CX0 2 (He.ga K "fraction_in") T.e_fraction_in ["word"] (spL K 1 R_fraction_in) := by
  refine T.d_fraction_in.okL (n := 1) (m := 7) sc_fraction_in rfl rfl fun cdv A outer s H E hr => ⟨_, (pss_cons (ps_set (i := 1) sc_fraction_in.nd rfl (.inl rfl) (pe_m1 PySem.F.slot_str_split PySem.F.type_str_split mt_splitD (pe_ifExp (pt_cmpR (op_eq) (pe_slice sl_str (pv 0) po_none (po_some pe_int)) pe_str (nomark _)) (pe_slice sl_str (pv 0) (po_some pe_int) po_none) (pv 0)) pe_str))
      (pss_cons (ps_setLc2 (i := 2) (own := [("part", 6), ("each", 7)]) (vs1 := [7]) (wi := (iList K (tVar 1))) (g := (gName 6)) (tt := tYes) (wi1 := (iList K (tCall (sp_whole_in K) [] E0 (tCons (tVar 6) tNil)))) (g1 := (gName 7)) (tt1 := tYes) (te := (tVar 7)) rfl sc_fraction_in.nd rfl rfl (by rfl) (pi_list (pv 1)) (blkOk_by (own := [("part", 6), ("each", 7)]) (N := ["word", "parts", "numbers", "top", "low", "found", "part", "each"]) (sc := defScope S_fraction_in) (by decide +kernel)) (by decide) (fun _ _ _ _ _ => (pg_name (i := 6) sc_fraction_in.nd rfl (.inl rfl))) (fun _ _ _ _ _ => pts_nil) (fun _ _ _ _ _ => (pi_list (pe_call (G_whole_in T) (hr.mono (by decide)) rfl T.d_whole_in.g T.d_whole_in.f.kp (b_whole_in T) .nil pass0 (pa_cons (pv 6) pa_nil)))) (fun _ _ _ _ _ => (pg_name (i := 7) sc_fraction_in.nd rfl (.inl rfl))) (fun _ _ _ _ _ => pts_nil) (fun _ _ _ _ _ => (pv 7)))
      (pss_cons (ps_if (PW.pt (pw_or (pt_cmpR (op_gt) (pe_callB cr_len rfl T.f_len (by decide +kernel) (pa_cons (pv 1) pa_nil)) pe_int (nomark _)) (pw_or1 (pt_cmpR (op_ne) (pe_callB cr_len rfl T.f_len (by decide +kernel) (pa_cons (pv 2) pa_nil)) (pe_callB cr_len rfl T.f_len (by decide +kernel) (pa_cons (pv 1) pa_nil)) (nomark _))))) (pss_one (ps_ret (pe_lst pa_nil))) pss_nil)
      (pss_cons (ps_asg (pe_ifExp (pt_cmpR (op_eq) (pe_callB cr_len rfl T.f_len (by decide +kernel) (pa_cons (pv 1) pa_nil)) pe_int (nomark _)) (pe_tup (pa_cons (pe_ix ix_list (pv 2) pe_int (fun _ _ => rfl)) (pa_cons pe_int pa_nil))) (pe_tup (pa_cons (pe_ix ix_list (pv 2) pe_int (fun _ _ => rfl)) (pa_cons (pe_ix ix_list (pv 2) pe_int (fun _ _ => rfl)) pa_nil)))) (pg_tup rfl (pgs_cons (pg_name (i := 3) sc_fraction_in.nd rfl (.inl rfl)) (pgs_cons (pg_name (i := 4) sc_fraction_in.nd rfl (.inl rfl)) pgs_nil))))
      (pss_cons (ps_if (pt_cmpR (op_eq) (pv 4) pe_int (nomark _)) (pss_one (ps_ret (pe_lst pa_nil))) pss_nil)
      (pss_cons (ps_set (i := 5) sc_fraction_in.nd rfl (.inl rfl) (pe_call (G_frac_reduced T) (hr.mono (by decide)) rfl T.d_frac_reduced.g T.d_frac_reduced.f.kp (b_frac_reduced T) .nil pass0 (pa_cons (pe_ifExp (pt_cmpR (op_eq) (pe_slice sl_str (pv 0) po_none (po_some pe_int)) pe_str (nomark _)) (pe_un un_neg (pv 3)) (pv 3)) (pa_cons (pv 4) pa_nil))))
      (pss_one (ps_ret (pe_ifExp (pt_cmpR (op_eq) (pe_call (G_fraction_text T) (hr.mono (by decide)) rfl T.d_fraction_text.g T.d_fraction_text.f.kp (b_fraction_text T) .nil pass0 (pa_cons (pv 5) pa_nil)) (pv 0) (nomark _)) (pe_lst (pa_cons (pv 5) pa_nil)) (pe_lst pa_nil)))))))))),
    fun ds d hlen0 hR H0 D hq => ?_⟩
  obtain ⟨x, hx, rfl, rfl⟩ := hR
  rw [← fracP_eq] at hq
  have hbl := body_len x
  have tk : cutL x none (some 1) = x.take 1 := cut_to x 1
  have dr : cutL x (some 1) none = x.drop 1 := cut_from x 1
  refine go_seq (go_new (evf_spl (x := bodyS x) (c := 47) (by decide) (ev_is (ev_if (b := negS x) (evb_is (evb_test (ev_op (ev_cut (ev_arg rfl) evo_none (evo_some ev_int) ?_) (ev_lit (x := [45]) (by decide +kernel)) opv_eqS)) (by rw [tk, neg_take])) (fun h => ev_is (z := sD (if negS x = true then x.drop 1 else x)) (ev_cut (ev_arg rfl) (evo_some ev_int) evo_none ?_) (by rw [dr, if_pos h])) (fun h => ev_is (ev_arg rfl) (by rw [if_neg (by rw [h]; simp)]))) (by rw [body_is])) (ev_lit (x := [47]) (by decide +kernel)) (by omega)) (lf_strs _) (go_nx ?_))
  · omega
  · omega
  generalize hps : splC 47 (bodyS x) = ps
  have hpl : ps.length ≤ x.length + 1 := by
    have := splC_len 47 (bodyS x)
    rw [hps] at this
    omega
  have hpp : ∀ p ∈ ps, p.length ≤ 50000 := fun p hp => by
    have := splC_part 47 (bodyS x) p (by rw [hps]; exact hp)
    omega
  refine go_seq (go_new (evf_is (evf_lc2 (es := fun d => match d with | .str q => ((wholeL q.cps.toList).toList.map fun n => PyData.int (n : Nat)) | _ => []) (f := fun _ e => e) (itd_list (ev_own rfl)) (by rw [List.length_map]; omega) (lf_strs _) (by simp) (by simp) (fun d hd => ?_) (fun d hd e he => ?_)) (by
    simp only [List.map_id']
    exact flat_map_eq ps)) (lf_int _) (go_nx ?_))
  · obtain ⟨p, hp, rfl⟩ := List.mem_map.mp hd
    refine ⟨itn_fresh (evf_call (eva_1 (ev_dat (d := sD p) rfl)) rfl ⟨p, hpp p hp, rfl, rfl⟩) (lf_int _), ?_⟩
    show ((wholeL p).toList.map _).length ≤ 10
    rw [List.length_map]
    exact Nat.le_trans (opt_len _) (by decide)
  · obtain ⟨p, hp, rfl⟩ := List.mem_map.mp hd
    exact ⟨ev_dat rfl, lf_int _ _ he⟩
  unfold fracP at hq
  rw [hps] at hq
  generalize hns : (ps.flatMap fun p => (wholeL p).toList) = ns at hq ⊢
  have hlt : ∀ n ∈ ns, n < 10 ^ 400 := fun n hn => by
    rw [← hns] at hn
    obtain ⟨p, _, hp⟩ := List.mem_flatMap.mp hn
    cases h : wholeL p with
    | none => rw [h] at hp; simp at hp
    | some m =>
      rw [h] at hp
      have : n = m := by simpa using hp
      rw [this]
      exact whole_lt h
  refine go_seq (go_if (b := decide ((2 : Int) < ((ps.length : Nat) : Int)) || !decide (((ns.length : Nat) : Int) = ((ps.length : Nat) : Int))) (evb_is (evb_or (evb_test (ev_op (ev_cb (eva_cons (ev_own rfl) eva_nil) cbv_lenL) ev_int opv_B0)) fun _ => (evb_test (ev_op (ev_cb (eva_cons (ev_own rfl) eva_nil) cbv_lenL) (ev_cb (eva_cons (ev_own rfl) eva_nil) cbv_lenL) opv_neI))) (by rw [List.length_map, List.length_map])) (fun hc => ?_) (fun hc => go_next (go_nx ?_)))
  · rw [if_pos (by
      rw [Bool.or_eq_true] at hc
      rcases hc with h | h
      · have := of_decide_eq_true h
        exact .inl (by omega)
      · refine .inr fun z => ?_
        rw [z] at h
        simp at h)] at hq
    exact go_retF (evf_lst eva_nil (by simp)) hq
  rw [Bool.or_eq_false_iff] at hc
  have c1 := of_decide_eq_false hc.1
  have c2 : ns.length = ps.length := by
    have : ((ns.length : Nat) : Int) = ((ps.length : Nat) : Int) := by simpa using hc.2
    omega
  have hpn : ps ≠ [] := by rw [← hps]; exact splC_ne _ _
  rw [if_neg (by
    rintro (z | z)
    · omega
    · exact z c2)] at hq
  have sg : ∀ Γ, Γ[0]? = some (.arg (sD x)) → EvB K (tTest (tOp rEq (tSl rSlS (tVar 0) tNoPart (tPart (tC (.int 1)))) (tC (.str "-")))) Γ (negS x) := fun Γ h => evb_is (evb_test (ev_op (ev_cut (ev_arg h) evo_none (evo_some ev_int) (by omega)) (ev_lit (x := [45]) (by decide +kernel)) opv_eqS)) (by rw [tk, neg_take])
  have sgn_ev : ∀ (n : Nat) Γ, Γ[0]? = some (.arg (sD x)) → Γ[3]? = some (.dat (.int (n : Nat))) → EvG K (tIf (tTest (tOp rEq (tSl rSlS (tVar 0) tNoPart (tPart (tC (.int 1)))) (tC (.str "-")))) (tUn (rU fun i => .int (-i)) (tVar 3)) (tVar 3)) Γ (.int (sgn (negS x) n)) := fun n Γ h h2 => ev_if (b := negS x) (sg Γ h) (fun z => ev_is (ev_neg (ev_dat h2)) (by rw [z]; rfl)) (fun z => ev_is (ev_dat h2) (by rw [z]; rfl))
  have last : ∀ (n m : Nat) Γ, n < 10 ^ 400 → m < 10 ^ 400 → Γ[0]? = some (.arg (sD x)) → Γ[3]? = some (.dat (.int (n : Nat))) → Γ[4]? = some (.dat (.int (m : Nat))) → Γ.length = 8 → RtF K H0 D (List.map frD (if m = 0 then (none : Option Fr) else if frL (reduc (sgn (negS x) n) m) = x then some (reduc (sgn (negS x) n) m) else none).toList) → Go K H0 ((tSeq (tIfS (tTest (tOp rEq (tVar 4) (tC (.int 0)))) (tRet (tLst tNil)) tNext) (tSeq (tAsg (tCall (sp_frac_reduced K) [] E0 (tCons (tIf (tTest (tOp rEq (tSl rSlS (tVar 0) tNoPart (tPart (tC (.int 1)))) (tC (.str "-")))) (tUn (rU fun i => .int (-i)) (tVar 3)) (tVar 3)) (tCons (tVar 4) tNil))) (gName 5)) (tRet (tIf (tTest (tOp rEq (tCall (sp_fraction_text K) [] E0 (tCons (tVar 5) tNil)) (tVar 0))) (tLst (tCons (tVar 5) tNil)) (tLst tNil)))))) Γ D := by
    intro n m Γ hn hm h0 h3 h4 h8 hq
    by_cases hz : m = 0
    · rw [if_pos hz] at hq
      exact go_seq (go_ifT (evb_is (evb_test (ev_op (ev_dat h4) ev_int opv_eqI)) (decide_eq_true (by omega))) (go_retF (evf_lst eva_nil (by simp)) hq))
    rw [if_neg hz] at hq
    refine go_seq (go_ifF (evb_is (evb_test (ev_op (ev_dat h4) ev_int opv_eqI)) (decide_eq_false (by omega))) (go_next (go_nx ?_)))
    have hb := reduc_le (sgn (negS x) n) m
    rw [sgn_abs, Int.natAbs_natCast] at hb
    have g0 : (Γ.set 5 (.dat (frD (reduc (sgn (negS x) n) m))))[0]? = some (.arg (sD x)) := by rw [List.getElem?_set_ne (by decide)]; exact h0
    have g5 : (Γ.set 5 (.dat (frD (reduc (sgn (negS x) n) m))))[5]? = some (.dat (frD (reduc (sgn (negS x) n) m))) := List.getElem?_set_self (by omega)
    refine go_seq (go_set (ev_call (eva_2 (sgn_ev n _ h0 h3) (ev_dat h4)) rfl ⟨_, _, by omega, by rw [Int.natAbs_natCast]; exact Nat.lt_of_lt_of_le hm pow30, rfl, rfl⟩) (go_nx ?_))
    refine go_retF (evf_if (b := decide (frL (reduc (sgn (negS x) n) m) = x)) (evb_test (ev_op (ev_call (eva_1 (ev_dat g5)) rfl ⟨_, Nat.lt_of_le_of_lt hb.1 hn, Nat.lt_of_le_of_lt hb.2 hm, rfl, rfl⟩) (ev_arg g0) opv_eqS)) (fun h => ?_) (fun h => ?_)) hq
    · rw [if_pos (of_decide_eq_true h)]
      exact evf_lst (eva_1 (ev_dat g5)) (by simp)
    · rw [if_neg (of_decide_eq_false h)]
      exact evf_lst eva_nil (by simp)
  have p0 : 0 < ps.length := by
    cases ps with
    | nil => exact absurd rfl hpn
    | cons a r => simp
  rcases ns with _ | ⟨n, _ | ⟨m, _ | ⟨k, r⟩⟩⟩
  · simp at c2
    omega
  · have l1 : ps.length = 1 := by simpa using c2.symm
    refine go_seq (go_asg (ev_ifT (evb_is (evb_test (ev_op (ev_cb (eva_cons (ev_own rfl) eva_nil) cbv_lenL) ev_int opv_eqI)) (decide_eq_true (by rw [List.length_map, l1]; rfl))) (ev_tup (eva_cons (ev_op (ev_own rfl) ev_int (opv_ixL (i := 0) rfl)) (eva_cons ev_int eva_nil)) (by simp))) (tg_pair tg_name tg_name) (go_nx ?_))
    refine last n 1 _ (hlt n (by simp)) (Nat.one_lt_pow (by decide) (by decide)) rfl rfl rfl rfl ?_
    rw [if_neg (by decide)]
    exact hq
  · have l1 : ps.length = 2 := by simpa using c2.symm
    refine go_seq (go_asg (ev_ifF (evb_is (evb_test (ev_op (ev_cb (eva_cons (ev_own rfl) eva_nil) cbv_lenL) ev_int opv_eqI)) (decide_eq_false (by rw [List.length_map, l1]; decide))) (ev_tup (eva_cons (ev_op (ev_own rfl) ev_int (opv_ixL (i := 0) rfl)) (eva_cons (ev_op (ev_own rfl) ev_int (opv_ixL (i := 1) rfl)) eva_nil)) (by simp))) (tg_pair tg_name tg_name) (go_nx ?_))
    exact last n m _ (hlt n (by simp)) (hlt m (by simp)) rfl rfl rfl rfl hq
  · have : ps.length = r.length + 3 := by simpa using c2.symm
    omega
end
end K82

/-! part D -/
set_option Elab.async false
set_option linter.all false
set_option maxRecDepth 100000
set_option maxHeartbeats 4000000
set_option autoImplicit false
set_option exponentiation.threshold 9000
/-! numbers read -/
namespace K82
open PySem PySem.Spec PyProof.Rows L2
open SX (S S_len S_cat S_inj num_S lens join_S split_S)
section
variable {P : Program} {w : World} {K : PySem.W.Frag} {mg : Str → Option Value} {base : Heap}

theorem ev_m1 {K : PySem.W.Frag} {Γ : Ga} : EvG K (tUn (rU fun i => V.int (-i)) (tC (V.int 1))) Γ (.int (-1)) := ev_neg ev_int
theorem shp_ws (os : List (Option Nat)) : SeqAt.shaped (.list (os.map wD)) = true := by
  have h1 : PyData.canLayAll0 (os.map wD) = true := by
    induction os with
    | nil => simp [PyData.canLayAll0]
    | cons o r ih =>
      cases o <;> simp [PyData.canLayAll0, wD, PyData.canLay0, ih]
  have h2 : PyData.depthAll (os.map wD) ≤ 1 := by
    clear h1
    induction os with
    | nil => simp [PyData.depthAll]
    | cons o r ih =>
      cases o <;> simp [PyData.depthAll, wD, PyData.depth] <;> omega
  exact shp (by simp only [PyData.canLay0]; exact h1) (by simp only [PyData.depth]; omega)
theorem any_ws (os : List (Option Nat)) : ((os.map wD).any fun z => PyData.eqv z .none) = decide (none ∈ os) := by
  rw [List.any_map, Bool.eq_iff_iff, List.any_eq_true, decide_eq_true_iff]
  constructor
  · rintro ⟨v, hv, e⟩
    cases v with
    | none => exact hv
    | some n => exact absurd e (by simp [Function.comp, wD, PyData.eqv])
  · intro h
    exact ⟨none, h, by simp [Function.comp, wD, PyData.eqv]⟩
theorem opv_noneW {K : PySem.W.Frag} {os : List (Option Nat)} : OpV K (rInD K) .none (.list (os.map wD)) (.bool (decide (none ∈ os))) := by
  rw [← any_ws]
  exact opv_inD (by decide +kernel) (shp_ws os)
theorem lf_w (o : Option Nat) : LF (wD o) := by cases o <;> constructor
theorem lf_ws (os : List (Option Nat)) : ∀ d ∈ os.map wD, LF d := fun d hd => by
  obtain ⟨n, _, rfl⟩ := List.mem_map.mp hd
  exact lf_w _
def R__law_read_part : List PyData → PyData → Prop := fun ds d => ∃ x : List Nat, x.length ≤ 50000 ∧ ds = [sD x] ∧ d = fD (fracL x)
abbrev sp__law_read_part (K : PySem.W.Frag) : Sp := spP K 1 R__law_read_part
theorem G__law_read_part (T : Txt K mg) : FnOk P w K mg base CX0 2 (He.ga K "_law_read_part") T.e__law_read_part ["_law_word_here"] (spP K 1 R__law_read_part) := by
  refine T.d__law_read_part.ok (n := 1) (m := 3) sc__law_read_part rfl rfl fun cdv A outer s H E hr => ⟨_, (pss_cons (ps_set (i := 1) sc__law_read_part.nd rfl (.inl rfl) (pe_m1 PySem.F.slot_str_split PySem.F.type_str_split mt_splitD (pe_ifExp (pt_cmpR (op_eq) (pe_slice sl_str (pv 0) po_none (po_some pe_int)) pe_str (nomark _)) (pe_slice sl_str (pv 0) (po_some pe_int) po_none) (pv 0)) pe_str))
      (pss_cons (ps_setLc (i := 2) (own := [("_law_piece", 3)]) (wi := (iList K (tVar 1))) (g := (gName 3)) (tt := tYes) (te := (tCall (sp__law_read_whole K) [] E0 (tCons (tVar 3) tNil))) rfl sc__law_read_part.nd rfl rfl (sw_true rfl rfl rfl (by decide +kernel)) (pi_list (pv 1)) (blkOk_by (own := [("_law_piece", 3)]) (N := ["_law_word_here", "_law_pieces", "_law_some", "_law_piece"]) (sc := defScope S__law_read_part) (by decide +kernel)) (fun _ _ _ _ _ => (pg_name (i := 3) sc__law_read_part.nd rfl (.inl rfl))) (fun _ _ _ _ _ => pts_nil) (fun _ _ _ _ _ => (pe_call (G__law_read_whole T) (hr.mono (by decide)) rfl T.d__law_read_whole.g T.d__law_read_whole.f.kp (b__law_read_whole T) .nil pass0 (pa_cons (pv 3) pa_nil))))
      (pss_cons (ps_if (PW.pt (pw_or (pt_cmpR (op_gt) (pe_callB cr_len rfl T.f_len (by decide +kernel) (pa_cons (pv 2) pa_nil)) pe_int (nomark _)) (pw_or (pt_cmpR ((op_inD (u65 hr))) pe_non (pv 2) (by rfl)) (pw_or1 (pt_cmpR (op_eq) (pv 0) pe_str (nomark _)))))) (pss_one (ps_ret pe_non)) pss_nil)
      (pss_cons (ps_if (PW.pt (pw_and (pt_cmpR (op_eq) (pe_callB cr_len rfl T.f_len (by decide +kernel) (pa_cons (pv 2) pa_nil)) pe_int (nomark _)) (pw_and1 (PW.pt (pw_or (pt_cmpR (op_lt) (pe_ix ix_list (pv 2) pe_int (fun _ _ => rfl)) pe_int (nomark _)) (pw_or1 (pt_cmpR (op_ne) (pe_call (G__law_near T) (hr.mono (by decide)) rfl T.d__law_near.g T.d__law_near.f.kp (b__law_near T) .nil pass0 (pa_cons (pe_ix ix_list (pv 2) pe_int (fun _ _ => rfl)) (pa_cons (pe_ix ix_list (pv 2) pe_int (fun _ _ => rfl)) pa_nil))) pe_int (nomark _)))))))) (pss_one (ps_ret pe_non)) pss_nil)
      (pss_one (ps_ret (pe_tup (pa_cons (pe_ifExp (pt_cmpR (op_eq) (pe_slice sl_str (pv 0) po_none (po_some pe_int)) pe_str (nomark _)) (pe_op op_sub pe_int (pe_ix ix_list (pv 2) pe_int (fun _ _ => rfl))) (pe_ix ix_list (pv 2) pe_int (fun _ _ => rfl))) (pa_cons (pe_ifExp (pt_cmpR (op_eq) (pe_callB cr_len rfl T.f_len (by decide +kernel) (pa_cons (pv 2) pa_nil)) pe_int (nomark _)) (pe_ix ix_list (pv 2) pe_int (fun _ _ => rfl)) pe_int) pa_nil))))))))),
    fun ds d hlen0 hR H0 D hq hn => ?_⟩
  obtain ⟨x, hx, rfl, rfl⟩ := hR
  have hbl := body_len x
  have tk : cutL x none (some 1) = x.take 1 := cut_to x 1
  have dr : cutL x (some 1) none = x.drop 1 := cut_from x 1
  refine go_seq (go_new (evf_spl (x := bodyS x) (c := 47) (by decide) (ev_is (ev_if (b := negS x) (evb_is (evb_test (ev_op (ev_cut (ev_arg rfl) evo_none (evo_some ev_int) ?_) (ev_lit (x := [45]) (by decide +kernel)) opv_eqS)) (by rw [tk, neg_take])) (fun h => ev_is (z := sD (if negS x = true then x.drop 1 else x)) (ev_cut (ev_arg rfl) (evo_some ev_int) evo_none ?_) (by rw [dr, if_pos h])) (fun h => ev_is (ev_arg rfl) (by rw [if_neg (by rw [h]; simp)]))) (by rw [body_is])) (ev_lit (x := [47]) (by decide +kernel)) (by omega)) (lf_strs _) (go_nx ?_))
  · omega
  · omega
  generalize hps : splC 47 (bodyS x) = ps
  have hpl : ps.length ≤ x.length + 1 := by
    have := splC_len 47 (bodyS x)
    rw [hps] at this
    omega
  have hpp : ∀ p ∈ ps, p.length ≤ 50000 := fun p hp => by
    have := splC_part 47 (bodyS x) p (by rw [hps]; exact hp)
    omega
  refine go_seq (go_new (evf_is (evf_mapA ps sD (fun p => wD (wholeL p)) (fun p => (wipeG _ _).set 3 (.dat (sD p))) (itd_list (ev_own rfl)) (by omega) (by simp) (fun p _ => tg_name) (fun p hp => ⟨ev_call (eva_1 (ev_dat (d := sD p) rfl)) rfl ⟨p, hpp p hp, rfl, rfl⟩, lf_w _⟩)) (es := (ps.map wholeL).map wD) (by rw [List.map_map]; rfl)) (lf_ws _) (go_nx ?_))
  have cond : ∀ Γ (b : Bool), Γ[0]? = some (.arg (sD x)) → Γ[2]? = some (.own ((ps.map wholeL).map wD)) → b = (decide ((2 : Int) < ((ps.length : Nat) : Int)) || (decide (none ∈ ps.map wholeL) || decide (x = [45, 48]))) → EvB K ((tOr (tTest (tOp (rI0 fun i j => .bl (decide (j < i))) (tCB (rLenD K) (tCons (tVar 2) tNil)) (tC (.int 2)))) (tOr (tTest (tOp (rInD K) (tC .non) (tVar 2))) (tTest (tOp rEq (tVar 0) (tC (.str "-0"))))))) Γ b := fun Γ b h0 h2 hb => evb_is (evb_or (evb_test (ev_op (ev_cb (eva_1 (ev_own h2)) cbv_lenL) ev_int opv_B0)) fun _ => evb_or (evb_test (ev_op ev_non (ev_own h2) opv_noneW)) fun _ => evb_test (ev_op (ev_arg h0) (ev_lit (x := [45, 48]) (by decide +kernel)) opv_eqS)) (by rw [hb, List.length_map, List.length_map])
  have sg : ∀ Γ, Γ[0]? = some (.arg (sD x)) → EvB K (tTest (tOp rEq (tSl rSlS (tVar 0) tNoPart (tPart (tC (.int 1)))) (tC (.str "-")))) Γ (negS x) := fun Γ h => evb_is (evb_test (ev_op (ev_cut (ev_arg h) evo_none (evo_some ev_int) (by omega)) (ev_lit (x := [45]) (by decide +kernel)) opv_eqS)) (by rw [tk, neg_take])
  unfold fracL at hq
  rw [hps] at hq
  have hj := join_split 47 (bodyS x)
  rw [hps] at hj
  rcases ps with _ | ⟨p, _ | ⟨q, _ | ⟨k, r⟩⟩⟩
  · exact absurd hps (splC_ne _ _)
  · cases hp : wholeL p with
    | none =>
      simp only [hp] at hq
      exact go_seq (go_ifT (cond _ _ rfl rfl (by simp [hp])) (go_ret ev_non hq))
    | some n =>
      simp only [hp] at hq
      have hxx : x = [45, 48] ↔ (negS x = true ∧ n = 0) := by
        have e := (wholeL_some hp).1
        have b := body_eq x
        constructor
        · intro z
          have hb : bodyS x = [48] := by rw [z]; rfl
          have : TL.numL n = TL.numL 0 := by
            rw [← e, show p = bodyS x from hj, hb]
            rfl
          exact ⟨by rw [z]; rfl, TL.numL_inj this⟩
        · rintro ⟨z1, z2⟩
          rw [b, z1, ← show p = bodyS x from hj, e, z2]
          rfl
      by_cases hz : negS x = true ∧ n = 0
      · rw [if_pos hz] at hq
        exact go_seq (go_ifT (cond _ _ rfl rfl (by simp [hxx.mpr hz])) (go_ret ev_non hq))
      rw [if_neg hz] at hq
      have hx' : ¬ x = [45, 48] := fun z => hz (hxx.mp z)
      refine go_seq (go_ifF (cond _ _ rfl rfl (by simp [hp, hx'])) (go_next (go_nx ?_)))
      refine go_seq (go_ifF (evb_andF1 (evb_is (evb_test (ev_op (ev_cb (eva_cons (ev_own rfl) eva_nil) cbv_lenL) ev_int opv_eqI)) (by simp))) (go_next (go_nx ?_)))
      refine go_ret (ev_tup2 (d := .int (sgn (negS x) n)) (e := .int 1) (ev_if (b := negS x) (sg _ rfl) (fun z => ev_is (ev_op ev_int (ev_op (ev_own rfl) ev_int (opv_ixL (i := 0) (d := wD (some n)) (by simp [hp]))) (opv_I0 (j := (n : Int)))) (by rw [z]; show PyData.int (0 - (n : Int)) = .int (-(n : Int)); rw [Int.zero_sub])) (fun z => ev_is (ev_op (ev_own rfl) ev_int (opv_ixL (i := 0) (d := wD (some n)) (by simp [hp]))) (by rw [z]; rfl))) (ev_ifF (evb_is (evb_test (ev_op (ev_cb (eva_cons (ev_own rfl) eva_nil) cbv_lenL) ev_int opv_eqI)) (by simp)) ev_int)) hq
  · cases hp : wholeL p with
    | none =>
      simp only [hp] at hq
      exact go_seq (go_ifT (cond _ _ rfl rfl (by simp [hp])) (go_ret ev_non hq))
    | some n =>
      cases hqq : wholeL q with
      | none =>
        simp only [hp, hqq] at hq
        exact go_seq (go_ifT (cond _ _ rfl rfl (by simp [hp, hqq])) (go_ret ev_non hq))
      | some m =>
        simp only [hp, hqq] at hq
        have hx' : ¬ x = [45, 48] := fun z => by
          rw [z] at hps
          have e : splC 47 (bodyS [45, 48]) = [[48]] := by decide
          rw [e] at hps
          cases hps
        refine go_seq (go_ifF (cond _ _ rfl rfl (by simp [hp, hqq, hx'])) (go_next (go_nx ?_)))
        have i0 : ((([p, q].map wholeL).map wD))[0]? = some (wD (some n)) := by simp [hp]
        have i1 : ((([p, q].map wholeL).map wD))[1]? = some (wD (some m)) := by simp [hqq]
        refine go_seq (go_if (b := true && (decide ((m : Int) < 2) || !decide (((Nat.gcd n m : Nat) : Int) = 1))) (evb_and (evb_is (evb_test (ev_op (ev_cb (eva_cons (ev_own rfl) eva_nil) cbv_lenL) ev_int opv_eqI)) (by simp)) fun _ => evb_or (evb_test (ev_op (ev_op (ev_own rfl) ev_int (opv_ixL (i := 1) (d := wD (some m)) i1)) ev_int (opv_B0 (i := (m : Int))))) fun _ => evb_test (ev_op (ev_call (eva_2 (ev_op (ev_own rfl) ev_int (opv_ixL (i := 0) (d := wD (some n)) i0)) (ev_op (ev_own rfl) ev_int (opv_ixL (i := 1) (d := wD (some m)) i1))) rfl ⟨n, m, rfl, rfl⟩) ev_int opv_neI)) (fun hc => ?_) (fun hc => go_next (go_nx ?_)))
        · rw [if_pos (by
            rw [Bool.true_and, Bool.or_eq_true] at hc
            rcases hc with h | h
            · have := of_decide_eq_true h
              exact .inl (by omega)
            · refine .inr fun z => ?_
              rw [z] at h
              simp at h)] at hq
          exact go_ret ev_non hq
        · rw [if_neg (by
            rw [Bool.true_and, Bool.or_eq_false_iff] at hc
            have c1 := of_decide_eq_false hc.1
            have c2 : ((Nat.gcd n m : Nat) : Int) = 1 := by simpa using hc.2
            rintro (z | z)
            · omega
            · exact z (by omega))] at hq
          refine go_ret (ev_tup2 (d := .int (sgn (negS x) n)) (e := .int (m : Nat)) (ev_if (b := negS x) (sg _ rfl) (fun z => ev_is (ev_op ev_int (ev_op (ev_own rfl) ev_int (opv_ixL (i := 0) (d := wD (some n)) i0)) (opv_I0 (j := (n : Int)))) (by rw [z]; show PyData.int (0 - (n : Int)) = .int (-(n : Int)); rw [Int.zero_sub])) (fun z => ev_is (ev_op (ev_own rfl) ev_int (opv_ixL (i := 0) (d := wD (some n)) i0)) (by rw [z]; rfl))) (ev_ifT (evb_is (evb_test (ev_op (ev_cb (eva_cons (ev_own rfl) eva_nil) cbv_lenL) ev_int opv_eqI)) (by simp)) (ev_op (ev_own rfl) ev_int (opv_ixL (i := 1) (d := wD (some m)) i1)))) hq
  · exact go_seq (go_ifT (cond _ _ rfl rfl (by rw [decide_eq_true (by simp only [List.length_cons]; omega)]; rfl)) (go_ret ev_non hq))
def R_split_at : List PyData → PyData → Prop := fun ds d => ∃ x : List Nat, ds = [sD x] ∧ d = .int (cutR x)
abbrev sp_split_at (K : PySem.W.Frag) : Sp := spP K 1 R_split_at
theorem G_split_at (T : Txt K mg) : FnOk P w K mg base CX0 1 (He.ga K "split_at") T.e_split_at ["word"] (spP K 1 R_split_at) := by
  refine T.d_split_at.ok (n := 1) (m := 0) sc_split_at rfl rfl fun cdv A outer s H E hr => ⟨_, (pss_one (ps_ret (pe_callB (cr_max3 rfl) rfl T.f_max (by decide +kernel) (pa_cons (pe_m1 PySem.F.slot_str_rfind PySem.F.type_str_rfind mt_rfindD (pv 0) pe_str) (pa_cons (pe_m1 PySem.F.slot_str_rfind PySem.F.type_str_rfind mt_rfindD (pv 0) pe_str) (pa_cons pe_int pa_nil)))))),
    fun ds d hlen0 hR H0 D hq hn => ?_⟩
  obtain ⟨x, rfl, rfl⟩ := hR
  exact go_ret (ev_cb (eva_cons (ev_rfS (ev_arg rfl) (ev_lit (x := [43]) (by decide +kernel))) (eva_cons (ev_rfS (ev_arg rfl) (ev_lit (x := [45]) (by decide +kernel))) (eva_cons ev_int eva_nil))) cbv_max3) hq
def R__law_is_within : List PyData → PyData → Prop := fun ds d => ∃ u : Nu, NuOk u ∧ ds = [nuD u] ∧ d = .bool (withinL u)
abbrev sp__law_is_within (K : PySem.W.Frag) : Sp := spP K 1 R__law_is_within
theorem G__law_is_within (T : Txt K mg) : FnOk P w K mg base CX0 1 (He.ga K "_law_is_within") T.e__law_is_within ["_law_num"] (spP K 1 R__law_is_within) := by
  refine T.d__law_is_within.ok (n := 1) (m := 4) sc__law_is_within rfl rfl fun cdv A outer s H E hr => ⟨_, (pss_cons (ps_asg (pv 0) (pg_tup rfl (pgs_cons (pg_tup rfl (pgs_cons (pg_name (i := 1) sc__law_is_within.nd rfl (.inl rfl)) (pgs_cons (pg_name (i := 2) sc__law_is_within.nd rfl (.inl rfl)) pgs_nil))) (pgs_cons (pg_tup rfl (pgs_cons (pg_name (i := 3) sc__law_is_within.nd rfl (.inl rfl)) (pgs_cons (pg_name (i := 4) sc__law_is_within.nd rfl (.inl rfl)) pgs_nil))) pgs_nil))))
      (pss_one (ps_ret (pe_cmpR (op_lt) (pe_op op_add (pe_op op_mulW (pe_op op_mulW (pe_op op_mulW (pv 1) (pv 1)) (pv 4)) (pv 4)) (pe_op op_mulW (pe_op op_mulW (pe_op op_mulW (pv 3) (pv 3)) (pv 2)) (pv 2))) (pe_op op_mulW (pe_op op_mulW (pe_op op_mulW (pv 2) (pv 2)) (pv 4)) (pv 4)) (nomark _))))),
    fun ds d hlen0 hR H0 D hq hn => ?_⟩
  obtain ⟨u, ok, rfl, rfl⟩ := hR
  have a := ok.a.n2
  have b := ok.a.m2
  have c := ok.b.n2
  have e := ok.b.m2
  obtain ⟨m1, m2, m3⟩ := mul4 a a e e
  obtain ⟨m4, m5, m6⟩ := mul4 c c b b
  obtain ⟨m7, m8, m9⟩ := mul4 b b e e
  refine go_seq (go_asg (ev_arg rfl) (tg_pair (tg_pair tg_name tg_name) (tg_pair tg_name tg_name)) (go_nx ?_))
  refine go_ret (ev_is (ev_op (ev_op (ev_op (ev_op (ev_op (ev_dat rfl) (ev_dat rfl) (opv_I ?_)) (ev_dat rfl) (opv_I ?_)) (ev_dat rfl) (opv_I ?_)) (ev_op (ev_op (ev_op (ev_dat rfl) (ev_dat rfl) (opv_I ?_)) (ev_dat rfl) (opv_I ?_)) (ev_dat rfl) (opv_I ?_)) opv_I0) (ev_op (ev_op (ev_op (ev_dat rfl) (ev_dat rfl) (opv_I ?_)) (ev_dat rfl) (opv_I ?_)) (ev_dat rfl) (opv_I ?_)) opv_B0) rfl) hq
  all_goals assumption
theorem rfindL_lt (c : Nat) (x : List Nat) : rfindL c x ≤ x.length := by
  unfold rfindL
  split <;> omega
theorem cutR_nat (x : List Nat) : ∃ n : Nat, cutR x = (n : Int) ∧ n ≤ x.length := by
  have h1 := rfindL_lt 43 x
  have h2 := rfindL_lt 45 x
  refine ⟨(cutR x).toNat, ?_, ?_⟩
  · unfold cutR
    omega
  · unfold cutR
    omega
def aheadL (x : List Nat) : List Fr := if 0 < cutR x then (fracL (x.take (cutR x).toNat)).toList else [(0, 1)]
def secondL (x : List Nat) : List Nat := (x.drop (cutR x).toNat).dropLast
def behindL (x : List Nat) : List Fr := (fracL (if (secondL x).head? = some 43 ∧ 0 < cutR x then (secondL x).tail else secondL x)).toList
theorem nuP_lists {x : List Nat} (h : x.getLast? = some 105) : (((aheadL x).flatMap fun a => (behindL x).map fun b => (a, b)).filter fun u => decide (nuT u = x)) = (nuP x).toList := by
  unfold nuP
  rw [if_neg (fun z => z h)]
  have e1 : (if 0 < cutR x then fracL (x.take (cutR x).toNat) else some (0, 1)).toList = aheadL x := by
    unfold aheadL
    split <;> rfl
  have e2 : (fracL (if ((x.drop (cutR x).toNat).dropLast).head? = some 43 ∧ 0 < cutR x then ((x.drop (cutR x).toNat).dropLast).tail else (x.drop (cutR x).toNat).dropLast)).toList = behindL x := rfl
  rw [← e1, ← e2]
  generalize (if 0 < cutR x then fracL (x.take (cutR x).toNat) else some (0, 1)) = o1
  generalize fracL (if ((x.drop (cutR x).toNat).dropLast).head? = some 43 ∧ 0 < cutR x then ((x.drop (cutR x).toNat).dropLast).tail else (x.drop (cutR x).toNat).dropLast) = o2
  cases o1 with
  | none => rfl
  | some a =>
    cases o2 with
    | none => rfl
    | some b =>
      show ([(a, b)].filter fun u => decide (nuT u = x)) = (if nuT (a, b) = x then some (a, b) else none).toList
      by_cases hz : nuT (a, b) = x
      · rw [if_pos hz]
        simp [hz]
      · rw [if_neg hz]
        simp [hz]
theorem ahead_ok {x : List Nat} : ∀ a ∈ aheadL x, FrOk a := fun a ha => by
  unfold aheadL at ha
  split at ha
  · cases h : fracL (x.take (cutR x).toNat) with
    | none => rw [h] at ha; simp at ha
    | some f =>
      rw [h] at ha
      have : a = f := by simpa using ha
      rw [this]
      exact (fracL_ok h).2
  · have : a = (0, 1) := by simpa using ha
    rw [this]
    exact fr01
theorem behind_ok {x : List Nat} : ∀ a ∈ behindL x, FrOk a := fun a ha => by
  unfold behindL at ha
  generalize (if (secondL x).head? = some 43 ∧ 0 < cutR x then (secondL x).tail else secondL x) = y at ha
  cases h : fracL y with
  | none => rw [h] at ha; simp at ha
  | some f =>
    rw [h] at ha
    have : a = f := by simpa using ha
    rw [this]
    exact (fracL_ok h).2
theorem ahead_len (x : List Nat) : (aheadL x).length ≤ 1 := by
  unfold aheadL
  split
  · exact opt_len _
  · simp
theorem behind_len (x : List Nat) : (behindL x).length ≤ 1 := opt_len _
theorem second_len (x : List Nat) : (secondL x).length ≤ x.length := by
  unfold secondL
  rw [List.length_dropLast, List.length_drop]
  omega
theorem flat_pairs (as bs : List Fr) : ((as.map frD).flatMap fun a => (bs.map frD).map fun b => PyData.tuple [a, b]) = (as.flatMap fun a => bs.map fun b => ((a, b) : Nu)).map nuD := by
  induction as with
  | nil => rfl
  | cons a r ih =>
    rw [List.map_cons, List.flatMap_cons, ih, List.flatMap_cons, List.map_append, List.map_map, List.map_map]
    rfl
def R_number_in : List PyData → List PyData → Prop := fun ds d => ∃ x : List Nat, x.length ≤ 50000 ∧ ds = [sD x] ∧ d = (nuL x).toList.map nuD
abbrev sp_number_in (K : PySem.W.Frag) : Sp := spL K 1 R_number_in
theorem G_number_in (T : Txt K mg) : FnOk P w K mg base CX0 3 (He.ga K "number_in") T.e_number_in ["word"] (spL K 1 R_number_in) := by
  refine T.d_number_in.okL (n := 1) (m := 9) sc_number_in rfl rfl fun cdv A outer s H E hr => ⟨_, (pss_cons (ps_if (pt_cmpR (op_ne) (pe_slice sl_str (pv 0) (po_some (pe_un un_neg pe_int)) po_none) pe_str (nomark _)) (pss_one (ps_ret (pe_lc (own := [("each", 7)]) (wi := (iList K (tCall (sp_fraction_in K) [] E0 (tCons (tVar 0) tNil)))) (g := (gName 7)) (tt := tYes) (te := (tTup (tCons (tVar 7) (tCons (tC (.ref (He.ga K "FRAC_NOUGHT"))) tNil)))) rfl sc_number_in.nd (pi_list (pe_call (G_fraction_in T) (hr.mono (by decide)) rfl T.d_fraction_in.g T.d_fraction_in.f.kp (b_fraction_in T) .nil pass0 (pa_cons (pv 0) pa_nil))) (blkOk_by (own := [("each", 7)]) (N := ["word", "at", "first", "second", "ahead", "behind", "found", "each", "one", "two"]) (sc := defScope S_number_in) (by decide +kernel)) (fun _ _ _ _ _ => (pg_name (i := 7) sc_number_in.nd rfl (.inl rfl))) (fun _ _ _ _ _ => pts_nil) (fun _ _ _ _ _ => (pe_tup (pa_cons (pv 7) (pa_cons (pe_glob (v := .ref (He.ga K "FRAC_NOUGHT")) rfl T.c_FRAC_NOUGHT rfl) pa_nil))))))) pss_nil)
      (pss_cons (ps_set (i := 1) sc_number_in.nd rfl (.inl rfl) (pe_call (G_split_at T) (hr.mono (by decide)) rfl T.d_split_at.g T.d_split_at.f.kp (b_split_at T) .nil pass0 (pa_cons (pv 0) pa_nil)))
      (pss_cons (ps_par (i := 2) (j := 3) rfl sc_number_in.nd rfl rfl (by decide) rfl rfl (pa_cons (pe_slice sl_str (pv 0) po_none (po_some (pv 1))) (pa_cons (pe_slice sl_str (pv 0) (po_some (pv 1)) (po_some (pe_un un_neg pe_int))) pa_nil)) (by rfl))
      (pss_cons (ps_set (i := 4) sc_number_in.nd rfl (.inl rfl) (pe_ifExp (pt_cmpR (op_gt) (pv 1) pe_int (nomark _)) (pe_call (G_fraction_in T) (hr.mono (by decide)) rfl T.d_fraction_in.g T.d_fraction_in.f.kp (b_fraction_in T) .nil pass0 (pa_cons (pv 2) pa_nil)) (pe_lst (pa_cons (pe_glob (v := .ref (He.ga K "FRAC_NOUGHT")) rfl T.c_FRAC_NOUGHT rfl) pa_nil))))
      (pss_cons (ps_set (i := 5) sc_number_in.nd rfl (.inr rfl) (pe_call (G_fraction_in T) (hr.mono (by decide)) rfl T.d_fraction_in.g T.d_fraction_in.f.kp (b_fraction_in T) .nil pass0 (pa_cons (pe_ifExp (PW.pt (pw_and (pt_cmpR (op_eq) (pe_slice sl_str (pv 3) po_none (po_some pe_int)) pe_str (nomark _)) (pw_and1 (pt_cmpR (op_gt) (pv 1) pe_int (nomark _))))) (pe_slice sl_str (pv 3) (po_some pe_int) po_none) (pv 3)) pa_nil)))
      (pss_cons (ps_setLc2 (i := 6) (own := [("one", 8), ("two", 9)]) (vs1 := [9]) (wi := (iList K (tVar 4))) (g := (gName 8)) (tt := tYes) (wi1 := (iList K (tVar 5))) (g1 := (gName 9)) (tt1 := tYes) (te := (tTup (tCons (tVar 8) (tCons (tVar 9) tNil)))) rfl sc_number_in.nd rfl rfl (by rfl) (pi_list (pv 4)) (blkOk_by (own := [("one", 8), ("two", 9)]) (N := ["word", "at", "first", "second", "ahead", "behind", "found", "each", "one", "two"]) (sc := defScope S_number_in) (by decide +kernel)) (by decide) (fun _ _ _ _ _ => (pg_name (i := 8) sc_number_in.nd rfl (.inl rfl))) (fun _ _ _ _ _ => pts_nil) (fun _ _ _ _ _ => (pi_list (pv 5))) (fun _ _ _ _ _ => (pg_name (i := 9) sc_number_in.nd rfl (.inl rfl))) (fun _ _ _ _ _ => pts_nil) (fun _ _ _ _ _ => (pe_tup (pa_cons (pv 8) (pa_cons (pv 9) pa_nil)))))
      (pss_one (ps_ret (pe_lc (own := [("each", 7)]) (wi := (iList K (tVar 6))) (g := (gName 7)) (tt := (tTest (tOp rEq (tCall (sp_number_written K) [] E0 (tCons (tVar 7) tNil)) (tVar 0)))) (te := (tVar 7)) rfl sc_number_in.nd (pi_list (pv 6)) (blkOk_by (own := [("each", 7)]) (N := ["word", "at", "first", "second", "ahead", "behind", "found", "each", "one", "two"]) (sc := defScope S_number_in) (by decide +kernel)) (fun _ _ _ _ _ => (pg_name (i := 7) sc_number_in.nd rfl (.inl rfl))) (fun _ _ _ _ _ => (pts_one (pt_cmpR (op_eq) (pe_call (G_number_written T) (hr.mono (by decide)) rfl T.d_number_written.g T.d_number_written.f.kp (b_number_written T) .nil pass0 (pa_cons (pv 7) pa_nil)) (pv 0) (nomark _)))) (fun _ _ _ _ _ => (pv 7))))))))))),
    fun ds d hlen0 hR H0 D hq => ?_⟩
  obtain ⟨x, hx, rfl, rfl⟩ := hR
  have lst : cutL x (some (-1)) none = x.drop (x.length - 1) := cut_last x
  rw [← nuP_eq] at hq
  by_cases hi : x.getLast? = some 105
  case neg =>
    have e : nuP x = (fracL x).map fun f => (f, (0, 1)) := by
      unfold nuP
      rw [if_pos hi]
    rw [e] at hq
    refine go_seq (go_ifT (evb_is (evb_test (ev_op (ev_cut (ev_arg rfl) (evo_some ev_m1) evo_none (by omega)) (ev_lit (x := [105]) (by decide +kernel)) opv_neS)) (by rw [lst, last_is]; simp [hi])) (go_retF (evf_is (evf_mapA (fracL x).toList frD (fun f => nuD (f, (0, 1))) (fun f => (wipeG _ _).set 7 (.dat (frD f))) (itd_list (ev_fresh (evf_call (eva_1 (ev_arg rfl)) rfl ⟨x, hx, rfl, rfl⟩))) (Nat.le_trans (opt_len _) (by decide)) (by simp) (fun f _ => tg_name) (fun f _ => ⟨ev_tup2 (ev_dat rfl) (ev_nought T), lf_nu _⟩)) ?_) hq))
    cases fracL x <;> rfl
  refine go_seq (go_ifF (evb_is (evb_test (ev_op (ev_cut (ev_arg rfl) (evo_some ev_m1) evo_none (by omega)) (ev_lit (x := [105]) (by decide +kernel)) opv_neS)) (by rw [lst, last_is]; simp [hi])) (go_next (go_nx ?_)))
  obtain ⟨k, hk, hkl⟩ := cutR_nat x
  have hkn : (cutR x).toNat = k := by rw [hk]; rfl
  refine go_seq (go_set (d := .int (k : Nat)) (ev_call (eva_1 (ev_arg rfl)) rfl ⟨x, rfl, by rw [hk]⟩) (go_nx ?_))
  refine go_seq (go_par (d := sD (x.take k)) (e := sD (secondL x)) (eva_2 (ev_is (ev_cut (ev_arg rfl) evo_none (evo_some (ev_dat rfl)) (by omega)) (by rw [cut_to])) (ev_is (ev_cut (ev_arg rfl) (evo_some (ev_dat rfl)) (evo_some ev_m1) (by omega)) (by rw [cut_mid x k hkl]; unfold secondL; rw [hkn]))) (go_nx ?_))
  have sl := second_len x
  refine go_seq (go_new (ds := (aheadL x).map frD) (evf_if (b := decide ((0 : Int) < (k : Int))) (evb_test (ev_op (ev_dat rfl) ev_int opv_B0)) (fun h => evf_is (evf_call (eva_1 (ev_dat rfl)) rfl ⟨x.take k, by rw [List.length_take]; omega, rfl, rfl⟩) (by
    unfold aheadL
    rw [if_pos (by rw [hk]; exact of_decide_eq_true h), hkn])) (fun h => evf_is (evf_lst (eva_1 (ev_nought T)) (by simp)) (by
    unfold aheadL
    rw [if_neg (by rw [hk]; exact of_decide_eq_false h)]
    rfl))) (lf_frs _) (go_nx ?_))
  refine go_seq (go_new (ds := (behindL x).map frD) (evf_is (evf_call (eva_1 (ev_if (d := sD (if (secondL x).head? = some 43 ∧ 0 < cutR x then (secondL x).tail else secondL x)) (b := decide ((secondL x).head? = some 43) && decide ((0 : Int) < (k : Int))) (evb_is (evb_and (evb_test (ev_op (ev_cut (ev_dat rfl) evo_none (evo_some ev_int) (by omega)) (ev_lit (x := [43]) (by decide +kernel)) opv_eqS)) fun _ => (evb_test (ev_op (ev_dat rfl) ev_int opv_B0))) (by
    rw [show cutL (secondL x) none (some 1) = (secondL x).take 1 from cut_to _ 1, take1_is])) (fun h => ev_is (ev_cut (ev_dat rfl) (evo_some ev_int) evo_none (by omega)) (by
    rw [Bool.and_eq_true] at h
    rw [if_pos ⟨of_decide_eq_true h.1, by rw [hk]; exact of_decide_eq_true h.2⟩, show cutL (secondL x) (some 1) none = (secondL x).drop 1 from cut_from _ 1, tail_drop])) (fun h => ev_is (ev_dat rfl) (by
    rw [if_neg]
    rintro ⟨z1, z2⟩
    rw [hk] at z2
    rw [decide_eq_true z1, decide_eq_true z2] at h
    cases h)))) rfl ⟨_, by
    split
    · rw [List.length_tail]; omega
    · omega, rfl, rfl⟩) rfl) (lf_frs _) (go_nx ?_))
  refine go_seq (go_new (evf_is (evf_lc2 (es := fun _ => (behindL x).map frD) (f := fun a b => .tuple [a, b]) (itd_list (ev_own (ds := (aheadL x).map frD) rfl)) (by rw [List.length_map]; exact Nat.le_trans (ahead_len x) (by decide)) (lf_frs _) (by simp) (by simp) (fun d hd => ⟨itn_own rfl, by rw [List.length_map]; exact Nat.le_trans (behind_len x) (by decide)⟩) (fun d hd e he => ⟨ev_tup2 (ev_dat rfl) (ev_dat rfl), .tup fun z hz => ?_⟩)) (flat_pairs _ _)) (lf_nus _) (go_nx ?_))
  · rcases List.mem_cons.mp hz with h | h
    · rw [h]; exact lf_frs _ d hd
    · rw [List.mem_singleton.mp h]; exact lf_frs _ e he
  have okU : ∀ u ∈ ((aheadL x).flatMap fun a => (behindL x).map fun b => ((a, b) : Nu)), NuOk u := fun u hu => by
    obtain ⟨a, ha, hab⟩ := List.mem_flatMap.mp hu
    obtain ⟨b, hbb, rfl⟩ := List.mem_map.mp hab
    exact ⟨ahead_ok a ha, behind_ok b hbb⟩
  have lenU : ((aheadL x).flatMap fun a => (behindL x).map fun b => ((a, b) : Nu)).length ≤ 1000000 := by
    have h1 := ahead_len x
    have h2 := behind_len x
    generalize aheadL x = as at *
    generalize behindL x = bs at *
    rcases as with _ | ⟨a, _ | ⟨b, r⟩⟩
    · simp
    · simp; omega
    · simp at h1
  refine go_retF (evf_is (evf_fltA _ nuD (fun u => decide (nuT u = x)) nuD (fun u => (wipeG _ _).set 7 (.dat (nuD u))) (itd_list (ev_own rfl)) lenU (by simp) (fun u _ => tg_name) (fun u hu => evb_test (ev_op (ev_call (eva_1 (ev_dat (d := nuD u) rfl)) rfl ⟨u, okU u hu, rfl, rfl⟩) (ev_arg (d := sD x) rfl) opv_eqS)) (fun u _ _ => ⟨ev_dat rfl, lf_nu u⟩)) (by rw [nuP_lists hi])) hq
def R_place_in : List PyData → List PyData → Prop := fun ds d => ∃ x : List Nat, x.length ≤ 50000 ∧ ds = [sD x] ∧ d = (placeL x).toList.map nuD
abbrev sp_place_in (K : PySem.W.Frag) : Sp := spL K 1 R_place_in
theorem G_place_in (T : Txt K mg) : FnOk P w K mg base CX0 4 (He.ga K "place_in") T.e_place_in ["word"] (spL K 1 R_place_in) := by
  refine T.d_place_in.okL (n := 1) (m := 2) sc_place_in rfl rfl fun cdv A outer s H E hr => ⟨_, (pss_cons (ps_set (i := 1) sc_place_in.nd rfl (.inl rfl) (pe_ifExp (pt_cmpR (op_eq) (pe_slice sl_str (pv 0) (po_some (pe_un un_neg pe_int)) po_none) pe_str (nomark _)) (pe_call (G_number_in T) (hr.mono (by decide)) rfl T.d_number_in.g T.d_number_in.f.kp (b_number_in T) .nil pass0 (pa_cons (pe_slice sl_str (pv 0) po_none (po_some (pe_un un_neg pe_int))) pa_nil)) (pe_lst pa_nil)))
      (pss_one (ps_ret (pe_lc (own := [("each", 2)]) (wi := (iList K (tVar 1))) (g := (gName 2)) (tt := (tB (tCall (sp_num_is_within K) [] E0 (tCons (tVar 2) tNil)))) (te := (tVar 2)) rfl sc_place_in.nd (pi_list (pv 1)) (blkOk_by (own := [("each", 2)]) (N := ["word", "found", "each"]) (sc := defScope S_place_in) (by decide +kernel)) (fun _ _ _ _ _ => (pg_name (i := 2) sc_place_in.nd rfl (.inl rfl))) (fun _ _ _ _ _ => (pts_one (pt_val (pe_call (G_num_is_within T) (hr.mono (by decide)) rfl T.d_num_is_within.g T.d_num_is_within.f.kp (b_num_is_within T) .nil pass0 (pa_cons (pv 2) pa_nil))))) (fun _ _ _ _ _ => (pv 2)))))),
    fun ds d hlen0 hR H0 D hq => ?_⟩
  obtain ⟨x, hx, rfl, rfl⟩ := hR
  have lst : cutL x (some (-1)) none = x.drop (x.length - 1) := cut_last x
  have ini : cutL x none (some (-1)) = x.dropLast := cut_init x
  refine go_seq (go_new (ds := (if x.getLast? = some 58 then (nuL x.dropLast).toList else []).map nuD) (evf_if (b := decide (x.getLast? = some 58)) (evb_is (evb_test (ev_op (ev_cut (ev_arg rfl) (evo_some ev_m1) evo_none (by omega)) (ev_lit (x := [58]) (by decide +kernel)) opv_eqS)) (by rw [lst, last_is])) (fun h => evf_is (evf_call (eva_1 (ev_is (ev_cut (ev_arg rfl) evo_none (evo_some ev_m1) (by omega)) (by rw [ini]))) rfl ⟨_, by rw [List.length_dropLast]; omega, rfl, rfl⟩) (by rw [if_pos (of_decide_eq_true h)])) (fun h => evf_is (evf_lst eva_nil (by simp)) (by rw [if_neg (of_decide_eq_false h)]; rfl))) (lf_nus _) (go_nx ?_))
  have okU : ∀ u ∈ (if x.getLast? = some 58 then (nuL x.dropLast).toList else []), NuOk u := fun u hu => by
    split at hu
    · cases h : nuL x.dropLast with
      | none => rw [h] at hu; simp at hu
      | some v =>
        rw [h] at hu
        have : u = v := by simpa using hu
        rw [this]
        exact (nuL_ok h).2
    · simp at hu
  refine go_retF (evf_is (evf_fltA _ nuD withinL nuD (fun u => (wipeG _ _).set 2 (.dat (nuD u))) (itd_list (ev_own rfl)) (by split <;> first | exact Nat.le_trans (opt_len _) (by decide) | simp) (by simp) (fun u _ => tg_name) (fun u hu => evb_val (ev_call (eva_1 (ev_dat (d := nuD u) rfl)) rfl ⟨u, okU u hu, rfl, rfl⟩)) (fun u _ _ => ⟨ev_dat rfl, lf_nu u⟩)) ?_) hq
  congr 1
  unfold placeL
  split
  · cases nuL x.dropLast with
    | none => rfl
    | some u =>
      show [u].filter withinL = (if withinL u = true then some u else none).toList
      cases h : withinL u <;> simp [h]
  · rfl
theorem filt_find (p : Nat → Bool) : ∀ r : List Nat, ((List.range r.length).filter fun i => p (r.getD i 0)).head? = if r.any p = true then some (r.findIdx p) else none
  | [] => rfl
  | a :: r => by
    have ih := filt_find p r
    rw [List.length_cons, List.range_succ_eq_map, List.filter_cons]
    cases h : p a with
    | true =>
      rw [if_pos (by simpa using h), List.any_cons, h, Bool.true_or, if_pos rfl, List.findIdx_cons, h]
      rfl
    | false =>
      rw [if_neg (by simpa using h), List.any_cons, h, Bool.false_or, List.findIdx_cons, h, List.filter_map, List.head?_map]
      show Option.map Nat.succ (((List.range r.length).filter fun i => p (r.getD i 0)).head?) = _
      rw [ih]
      split <;> rfl
/-- the places of signs, from 1 on, less 1 -/
def cutsL (x : List Nat) : List Nat := (List.range (x.length - 1)).filter fun i => isCut (x.getD (i + 1) 0)
theorem cuts_head (x : List Nat) : cutF x = match (cutsL x).head? with | some i => i + 1 | none => 0 := by
  cases x with
  | nil => rfl
  | cons c r =>
    have e : cutsL (c :: r) = (List.range r.length).filter fun i => isCut (r.getD i 0) := rfl
    rw [e, filt_find]
    show (if r.any isCut then r.findIdx isCut + 1 else 0) = _
    split <;> rfl
theorem mem_cut (c : Nat) : decide (c ∈ [43, 45]) = isCut c := by
  unfold isCut
  rw [Bool.eq_iff_iff, decide_eq_true_iff]
  simp
theorem shp_ints (ns : List Int) : SeqAt.shaped (.list (ns.map .int)) = true := by
  have h1 : PyData.canLayAll0 (ns.map .int) = true := by
    induction ns with
    | nil => simp [PyData.canLayAll0]
    | cons o r ih => simp [PyData.canLayAll0, PyData.canLay0, ih]
  have h2 : PyData.depthAll (ns.map .int) ≤ 1 := by
    clear h1
    induction ns with
    | nil => simp [PyData.depthAll]
    | cons o r ih => simp [PyData.depthAll, PyData.depth] <;> omega
  exact shp (by simp only [PyData.canLay0]; exact h1) (by simp only [PyData.depth]; omega)
theorem fD_isN (o : Option Fr) : (match fD o with | .none => true | _ => false) = o.isNone := by cases o <;> rfl
theorem cutF_le (x : List Nat) (h : x ≠ []) : cutF x < x.length := by
  by_cases h0 : 0 < cutF x
  · obtain ⟨_, _, _, a⟩ := cutF_lt h0
    exact a
  · have : 0 < x.length := List.length_pos_iff.mpr h
    omega
def R__law_read_number : List PyData → PyData → Prop := fun ds d => ∃ x : List Nat, x.length ≤ 50000 ∧ ds = [sD x] ∧ d = nD (nuL x)
abbrev sp__law_read_number (K : PySem.W.Frag) : Sp := spP K 1 R__law_read_number
theorem G__law_read_number (T : Txt K mg) : FnOk P w K mg base CX0 3 (He.ga K "_law_read_number") T.e__law_read_number ["_law_word_here"] (spP K 1 R__law_read_number) := by
  refine T.d__law_read_number.ok (n := 1) (m := 5) sc__law_read_number rfl rfl fun cdv A outer s H E hr => ⟨_, (pss_cons (ps_if (pt_cmpR (op_ne) (pe_slice sl_str (pv 0) (po_some (pe_un un_neg pe_int)) po_none) pe_str (nomark _)) (pss_cons (ps_set (i := 1) sc__law_read_number.nd rfl (.inl rfl) (pe_call (G__law_read_part T) (hr.mono (by decide)) rfl T.d__law_read_part.g T.d__law_read_part.f.kp (b__law_read_part T) .nil pass0 (pa_cons (pv 0) pa_nil)))
      (pss_one (ps_ret (pe_ifExp (pt_cmpR (op_notN1) (pv 1) pe_non (nomark _)) (pe_tup (pa_cons (pv 1) (pa_cons (pe_tup (pa_cons pe_int (pa_cons pe_int pa_nil))) pa_nil))) pe_non)))) pss_nil)
      (pss_cons (ps_setLc (i := 2) (own := [("_law_k", 5)]) (wi := (iRng2 (tCons (tC (.int 1)) (tCons (tCB (rLenD K) (tCons (tVar 0) tNil)) tNil)))) (g := (gName 5)) (tt := (tTest (tOp rInS (tOp rIxS (tVar 0) (tVar 5)) (tC (.str "+-"))))) (te := (tVar 5)) rfl sc__law_read_number.nd rfl rfl (sw_true rfl rfl rfl (by decide +kernel)) (pi_range2 rfl T.f_range (pa_cons pe_int (pa_cons (pe_callB cr_len rfl T.f_len (by decide +kernel) (pa_cons (pv 0) pa_nil)) pa_nil))) (blkOk_by (own := [("_law_k", 5)]) (N := ["_law_word_here", "_law_one", "_law_cuts", "_law_at", "_law_two", "_law_k"]) (sc := defScope S__law_read_number) (by decide +kernel)) (fun _ _ _ _ _ => (pg_name (i := 5) sc__law_read_number.nd rfl (.inl rfl))) (fun _ _ _ _ _ => (pts_one (pt_cmpR (op_inS) (pe_ix ix_str (pv 0) (pv 5) (fun _ _ => rfl)) pe_str (by rfl)))) (fun _ _ _ _ _ => (pv 5)))
      (pss_cons (ps_set (i := 3) sc__law_read_number.nd rfl (.inl rfl) (pe_ifExp (pt_cmpR (op_neD (u64 hr)) (pv 2) (pe_lst pa_nil) (nomark _)) (pe_ix ix_list (pv 2) pe_int (fun _ _ => rfl)) pe_int))
      (pss_cons (ps_set (i := 1) sc__law_read_number.nd rfl (.inl rfl) (pe_ifExp (pt_cmpR (op_gt) (pv 3) pe_int (nomark _)) (pe_call (G__law_read_part T) (hr.mono (by decide)) rfl T.d__law_read_part.g T.d__law_read_part.f.kp (b__law_read_part T) .nil pass0 (pa_cons (pe_slice sl_str (pv 0) po_none (po_some (pv 3))) pa_nil)) (pe_tup (pa_cons pe_int (pa_cons pe_int pa_nil)))))
      (pss_cons (ps_set (i := 4) sc__law_read_number.nd rfl (.inl rfl) (pe_call (G__law_read_part T) (hr.mono (by decide)) rfl T.d__law_read_part.g T.d__law_read_part.f.kp (b__law_read_part T) .nil pass0 (pa_cons (pe_ifExp (PW.pt (pw_and (pt_cmpR (op_eq) (pe_ix ix_str (pv 0) (pv 3) (fun _ _ => rfl)) pe_str (nomark _)) (pw_and1 (pt_cmpR (op_gt) (pv 3) pe_int (nomark _))))) (pe_slice sl_str (pv 0) (po_some (pe_op op_add (pv 3) pe_int)) (po_some (pe_un un_neg pe_int))) (pe_slice sl_str (pv 0) (po_some (pv 3)) (po_some (pe_un un_neg pe_int)))) pa_nil)))
      (pss_cons (ps_if (PW.pt (pw_or (pt_cmpR (op_isN1) (pv 1) pe_non (nomark _)) (pw_or (pt_cmpR (op_isN1) (pv 4) pe_non (nomark _)) (pw_or (pt_cmpR (op_eq) (pe_ix ix_tup (pv 1) pe_int (fun _ _ => rfl)) pe_int (nomark _)) (pw_or (pt_cmpR (op_eq) (pe_ix ix_tup (pv 4) pe_int (fun _ _ => rfl)) pe_int (nomark _)) (pw_or1 (PW.pt (pw_and (pt_cmpR (op_gt) (pv 3) pe_int (nomark _)) (pw_and1 (pt_cmpR (op_ne) (pe_cmpR (op_eq) (pe_ix ix_str (pv 0) (pv 3) (fun _ _ => rfl)) pe_str (nomark _)) (pe_cmpR (op_gt) (pe_ix ix_tup (pv 4) pe_int (fun _ _ => rfl)) pe_int (nomark _)) (nomark _))))))))))) (pss_one (ps_ret pe_non)) pss_nil)
      (pss_one (ps_ret (pe_tup (pa_cons (pe_ifExp (pt_cmpR (op_gt) (pv 3) pe_int (nomark _)) (pv 1) (pe_tup (pa_cons pe_int (pa_cons pe_int pa_nil)))) (pa_cons (pv 4) pa_nil))))))))))),
    fun ds d hlen0 hR H0 D hq hn => ?_⟩
  obtain ⟨x, hx, rfl, rfl⟩ := hR
  have lst : cutL x (some (-1)) none = x.drop (x.length - 1) := cut_last x
  by_cases hi : x.getLast? = some 105
  case neg =>
    have e : nuL x = (fracL x).map fun f => (f, (0, 1)) := by
      unfold nuL
      rw [if_pos hi]
    rw [e] at hq
    refine go_seq (go_ifT (evb_is (evb_test (ev_op (ev_cut (ev_arg rfl) (evo_some ev_m1) evo_none (by omega)) (ev_lit (x := [105]) (by decide +kernel)) opv_neS)) (by rw [lst, last_is]; simp [hi])) (go_seq (go_set (ev_call (eva_1 (ev_arg rfl)) rfl ⟨x, hx, rfl, rfl⟩) (go_nx ?_))))
    cases h : fracL x with
    | none =>
      rw [h] at hq
      exact go_ret (ev_ifF (evb_test (ev_op (ev_dat (d := .none) rfl) ev_non opv_notN)) ev_non) hq
    | some f =>
      rw [h] at hq
      exact go_ret (ev_ifT (evb_test (ev_op (ev_dat (d := frD f) rfl) ev_non opv_notN)) (ev_tup2 (ev_dat (d := frD f) rfl) (ev_tup (eva_cons ev_int (eva_cons ev_int eva_nil)) (by simp)))) hq
  refine go_seq (go_ifF (evb_is (evb_test (ev_op (ev_cut (ev_arg rfl) (evo_some ev_m1) evo_none (by omega)) (ev_lit (x := [105]) (by decide +kernel)) opv_neS)) (by rw [lst, last_is]; simp [hi])) (go_next (go_nx ?_)))
  have hne : x ≠ [] := fun z => by rw [z] at hi; cases hi
  have hlen : 0 < x.length := List.length_pos_iff.mpr hne
  have hrg : rangeD 1 (((x.length : Nat) : Int) - 1).toNat = (List.range (x.length - 1)).map fun i => PyData.int ((i + 1 : Nat) : Int) := by
    unfold rangeD
    rw [show (((x.length : Nat) : Int) - 1).toNat = x.length - 1 by omega]
    refine List.map_congr_left fun i _ => ?_
    rw [show (1 : Int) + (i : Nat) = ((i + 1 : Nat) : Int) by omega]
  have get1 : ∀ i ∈ List.range (x.length - 1), x[i + 1]? = some (x.getD (i + 1) 0) := fun i hi => by
    have := List.mem_range.mp hi
    rw [List.getD_eq_getElem?_getD, List.getElem?_eq_getElem (by omega)]
    rfl
  have rng : ItD K (iRng2 (tCons (tC (.int 1)) (tCons (tCB (rLenD K) (tCons (tVar 0) tNil)) tNil))) (slots [sD x] 5) ((List.range (x.length - 1)).map fun i => PyData.int ((i + 1 : Nat) : Int)) := by
    rw [← hrg]
    exact (ita_range2 ev_int (ev_cb (eva_1 (ev_arg rfl)) (cbv_lenS' (by omega))) (by decide) (by decide) (by omega) (by omega)).toD
  refine go_seq (go_new (ds := ((cutsL x).map fun i => ((i + 1 : Nat) : Int)).map .int) (evf_is (evf_fltA (List.range (x.length - 1)) (fun i => PyData.int ((i + 1 : Nat) : Int)) (fun i => isCut (x.getD (i + 1) 0)) (fun i => PyData.int ((i + 1 : Nat) : Int)) (fun i => (wipeG _ _).set 5 (.dat (.int ((i + 1 : Nat) : Int)))) rng (by rw [List.length_range]; omega) (by simp) (fun i _ => tg_name) (fun i hi => evb_is (evb_test (ev_op (ev_op (ev_arg (d := sD x) rfl) (ev_dat (d := .int ((i + 1 : Nat) : Int)) rfl) (opv_ixC (i := i + 1) (by omega) (get1 i hi))) (ev_lit (x := [43, 45]) (by decide +kernel)) opv_inC)) (by rw [mem_cut])) (fun i _ _ => ⟨ev_dat (d := .int ((i + 1 : Nat) : Int)) rfl, .int _⟩)) (by rw [List.map_map]; rfl)) (fun d hd => by
    obtain ⟨n, _, rfl⟩ := List.mem_map.mp hd
    exact .int _) (go_nx ?_))
  have hcut := cuts_head x
  have hk := cutF_le x hne
  refine go_seq (go_set (d := .int (cutF x : Nat)) (ev_if (b := !decide (((cutsL x).map fun i => ((i + 1 : Nat) : Int)).map PyData.int = [])) (evb_test (ev_op (ev_own rfl) ev_lst0 (opv_nenil (shp_ints _)))) (fun h => ?_) (fun h => ?_)) (go_nx ?_))
  · cases hc : cutsL x with
    | nil =>
      rw [hc] at h
      simp at h
    | cons i r =>
      rw [hc] at hcut
      rw [hcut]
      exact ev_op (ev_own rfl) ev_int (opv_ixL (i := 0) (by rfl))
  · have : cutsL x = [] := by simpa using h
    rw [this] at hcut
    rw [hcut]
    exact ev_int
  generalize hkk : cutF x = k at hk ⊢
  obtain ⟨c, hc⟩ : ∃ c, x[k]? = some c := ⟨_, List.getElem?_eq_getElem hk⟩
  have e : nuL x = match (if 0 < k then fracL (x.take k) else some (1, 1)), fracL (if x[k]? = some 43 ∧ 0 < k then (x.drop (k + 1)).dropLast else (x.drop k).dropLast) with
      | some one, some two => if one.1 = 0 ∨ two.1 = 0 ∨ (0 < k ∧ decide (x[k]? = some 43) ≠ decide (0 < two.1)) then none else some (if 0 < k then one else (0, 1), two)
      | _, _ => none := by
    unfold nuL
    rw [if_neg (fun z => z hi), hkk] <;> rfl
  rw [e, hc] at hq
  have ek : decide ((some c : Option Nat) = some 43) = decide (c = 43) := by
    rw [Bool.eq_iff_iff]
    simp
  generalize ho1 : (if 0 < k then fracL (x.take k) else some (1, 1)) = o1 at hq
  generalize ho2 : fracL (if (some c : Option Nat) = some 43 ∧ 0 < k then (x.drop (k + 1)).dropLast else (x.drop k).dropLast) = o2 at hq
  refine go_seq (go_set (d := fD o1) (ev_if (b := decide ((0 : Int) < (k : Int))) (evb_test (ev_op (ev_dat rfl) ev_int opv_B0)) (fun h => ev_is (ev_call (eva_1 (ev_cut (ev_arg rfl) evo_none (evo_some (ev_dat rfl)) (by omega))) rfl ⟨_, Nat.le_trans (cut_len _ _ _) hx, rfl, rfl⟩) (by rw [cut_to, ← ho1, if_pos (by have := of_decide_eq_true h; omega)])) (fun h => ev_is (ev_tup (eva_cons ev_int (eva_cons ev_int eva_nil)) (by simp)) (by rw [← ho1, if_neg (by have := of_decide_eq_false h; omega)]; rfl))) (go_nx ?_))
  have sgn : ∀ Γ, Γ[0]? = some (.arg (sD x)) → Γ[3]? = some (.dat (.int (k : Nat))) → EvG K (tOp rEq (tOp rIxS (tVar 0) (tVar 3)) (tC (.str "+"))) Γ (.bool (decide (c = 43))) := fun Γ h0 h4 => ev_is (ev_op (ev_op (ev_arg h0) (ev_dat h4) (opv_ixC (i := k) (by omega) hc)) (ev_lit (x := [43]) (by decide +kernel)) opv_eqS) (by
    rw [show decide ([c] = [43]) = decide (c = 43) by rw [Bool.eq_iff_iff]; simp])
  refine go_seq (go_set (d := fD o2) (ev_is (ev_call (eva_1 (ev_if (d := sD (if (some c : Option Nat) = some 43 ∧ 0 < k then (x.drop (k + 1)).dropLast else (x.drop k).dropLast)) (b := decide (c = 43) && decide ((0 : Int) < (k : Int))) (evb_and (evb_test (sgn _ rfl rfl)) fun _ => (evb_test (ev_op (ev_dat rfl) ev_int opv_B0))) (fun h => ev_is (ev_cut (ev_arg rfl) (evo_some (ev_op (ev_dat (d := .int (k : Nat)) rfl) ev_int opv_I0)) (evo_some ev_m1) (by omega)) ?_) (fun h => ev_is (ev_cut (ev_arg rfl) (evo_some (ev_dat (d := .int (k : Nat)) rfl)) (evo_some ev_m1) (by omega)) ?_))) rfl ⟨_, ?_, rfl, rfl⟩) (by rw [ho2])) (go_nx ?_))
  · rw [Bool.and_eq_true] at h
    rw [if_pos ⟨by rw [of_decide_eq_true h.1], by have := of_decide_eq_true h.2; omega⟩, show ((k : Nat) : Int) + 1 = ((k + 1 : Nat) : Int) by omega, cut_mid x (k + 1) hk]
  · rw [if_neg, cut_mid x k (by omega)]
    rintro ⟨z1, z2⟩
    have z1' : c = 43 := Option.some.inj z1
    rw [decide_eq_true z1', decide_eq_true (by omega)] at h
    cases h
  · split <;> rw [List.length_dropLast, List.length_drop] <;> omega
  cases o1 with
  | none => exact go_seq (go_ifT (evb_orT1 (evb_test (ev_op (ev_dat (d := .none) rfl) ev_non opv_isN))) (go_ret ev_non hq))
  | some one =>
    cases o2 with
    | none => exact go_seq (go_ifT (evb_orF (evb_test (ev_op (ev_dat (d := frD one) rfl) ev_non opv_isN)) (evb_orT1 (evb_test (ev_op (ev_dat (d := .none) rfl) ev_non opv_isN)))) (go_ret ev_non hq))
    | some two =>
      have i1 : ∀ Γ, Γ[1]? = some (.dat (frD one)) → EvG K (tOp (rIxT K) (tVar 1) (tC (.int 0))) Γ (.int one.1) := fun Γ h => ev_op (ev_dat h) ev_int (opv_ixT (i := 0) rfl)
      have i2 : ∀ Γ, Γ[4]? = some (.dat (frD two)) → EvG K (tOp (rIxT K) (tVar 4) (tC (.int 0))) Γ (.int two.1) := fun Γ h => ev_op (ev_dat h) ev_int (opv_ixT (i := 0) rfl)
      refine go_seq (go_if (b := false || (false || (decide (one.1 = 0) || (decide (two.1 = 0) || (decide ((0 : Int) < (k : Int)) && !decide (decide (c = 43) = decide (0 < two.1))))))) (evb_or (evb_test (ev_op (ev_dat (d := frD one) rfl) ev_non opv_isN)) fun _ => evb_or (evb_test (ev_op (ev_dat (d := frD two) rfl) ev_non opv_isN)) fun _ => evb_or (evb_test (ev_op (i1 _ rfl) ev_int opv_eqI)) fun _ => evb_or (evb_test (ev_op (i2 _ rfl) ev_int opv_eqI)) fun _ => evb_and (evb_test (ev_op (ev_dat rfl) ev_int opv_B0)) fun _ => evb_test (ev_op (sgn _ rfl rfl) (ev_op (i2 _ rfl) ev_int opv_B0) opv_neB)) (fun h => ?_) (fun h => go_next (go_nx ?_)))
      · rw [Bool.false_or, Bool.false_or, Bool.or_eq_true, Bool.or_eq_true, Bool.and_eq_true] at h
        have hq' : Rt K H0 D (nD none) := by
          refine (show _ = nD none from ?_) ▸ hq
          show nD (if one.1 = 0 ∨ two.1 = 0 ∨ (0 < k ∧ decide ((some c : Option Nat) = some 43) ≠ decide (0 < two.1)) then none else some (if 0 < k then one else (0, 1), two)) = _
          rw [if_pos]
          rcases h with h | h | ⟨h1, h2⟩
          · exact .inl (of_decide_eq_true h)
          · exact .inr (.inl (of_decide_eq_true h))
          · refine .inr (.inr ⟨by have := of_decide_eq_true h1; omega, ?_⟩)
            rw [ek]
            simpa using h2
        exact go_ret ev_non hq'
      · rw [Bool.false_or, Bool.false_or, Bool.or_eq_false_iff, Bool.or_eq_false_iff] at h
        have h1 := of_decide_eq_false h.1
        have h2 := of_decide_eq_false h.2.1
        have hq' : Rt K H0 D (nuD (if 0 < k then one else (0, 1), two)) := by
          refine (show _ = nuD (if 0 < k then one else (0, 1), two) from ?_) ▸ hq
          show nD (if one.1 = 0 ∨ two.1 = 0 ∨ (0 < k ∧ decide ((some c : Option Nat) = some 43) ≠ decide (0 < two.1)) then none else some (if 0 < k then one else (0, 1), two)) = _
          rw [if_neg]
          · rfl
          rintro (z | z | ⟨z1, z2⟩)
          · exact h1 z
          · exact h2 z
          · have h3 := h.2.2
            rw [decide_eq_true (show (0 : Int) < (k : Int) by omega), Bool.true_and] at h3
            rw [ek] at z2
            simp at h3
            exact z2 (decide_eq_decide.mpr h3)
        refine go_ret (ev_tup2 (d := frD (if 0 < k then one else (0, 1))) (ev_if (b := decide ((0 : Int) < (k : Int))) (evb_test (ev_op (ev_dat rfl) ev_int opv_B0)) (fun h => ev_is (ev_dat (d := frD one) rfl) (by rw [if_pos (by have := of_decide_eq_true h; omega)])) (fun h => ev_is (ev_tup (eva_cons ev_int (eva_cons ev_int eva_nil)) (by simp)) (by rw [if_neg (by have := of_decide_eq_false h; omega)]; rfl))) (ev_dat (d := frD two) rfl)) hq'
end
end K82

/-! part E -/
set_option Elab.async false
set_option linter.all false
set_option maxRecDepth 100000
set_option maxHeartbeats 4000000
set_option autoImplicit false
set_option exponentiation.threshold 9000
/-! lines and data read -/
namespace K82
open PySem PySem.Spec PyProof.Rows L2
open SX (S S_len S_cat S_inj num_S lens join_S split_S)
section
variable {P : Program} {w : World} {K : PySem.W.Frag} {mg : Str → Option Value} {base : Heap}

def preV (vs : List Nu) : Nat ⊕ List Nu → Nat ⊕ List Nu
  | .inl j => .inl j
  | .inr us => .inr (vs ++ us)
def lineX1 (D : Da) (w : List Nat) (ws : List (List Nat)) : PyData := match placeL w with
  | none => .tuple [.int 0, .tuple []]
  | some u => if u ∈ D.map (·.1) ∨ D.length = 6 then .tuple [.int 0, .tuple []] else match valsL (6 - cnt D) 1 ws with
    | .inl j => .tuple [.int (j : Nat), .tuple []]
    | .inr us => .tuple [if us = [] then .int 1 else .none, paD (u, us)]
def lineX (D : Da) : List (List Nat) → PyData
  | [] => .none
  | w :: ws => lineX1 D w ws
/-- how lineX answers -/
theorem lineX_of (D : Da) {ws : List (List Nat)} (h : ws ≠ []) : (∃ j X, LF X ∧ lineL D ws = .inl j ∧ lineX D ws = .tuple [.int (j : Nat), X]) ∨ (∃ p, lineL D ws = .inr p ∧ lineX D ws = .tuple [.none, paD p]) := by
  cases ws with
  | nil => exact absurd rfl h
  | cons w ws =>
    show (∃ j X, LF X ∧ lineL1 D w ws = .inl j ∧ lineX1 D w ws = _) ∨ (∃ p, lineL1 D w ws = .inr p ∧ lineX1 D w ws = _)
    unfold lineL1 lineX1
    have l0 : LF (.tuple []) := .tup (fun x hx => nomatch hx)
    cases placeL w with
    | none => exact .inl ⟨0, _, l0, rfl, rfl⟩
    | some u =>
      by_cases hc : u ∈ D.map (·.1) ∨ D.length = 6
      · simp only [if_pos hc]
        exact .inl ⟨0, _, l0, rfl, rfl⟩
      · simp only [if_neg hc]
        cases valsL (6 - cnt D) 1 ws with
        | inl j => exact .inl ⟨j, _, l0, rfl, rfl⟩
        | inr us =>
          by_cases hu : us = []
          · exact .inl ⟨1, _, lf_pa (u, us), by simp [hu], by simp [hu]⟩
          · exact .inr ⟨(u, us), by simp [hu], by simp [hu]⟩
theorem valsL_step {room k : Nat} {w : List Nat} {ws : List (List Nat)} {u : Nu} (h : nuL w = some u) (h2 : ¬ (3 < k ∨ room < k)) (vs : List Nu) : preV vs (valsL room k (w :: ws)) = preV (vs ++ [u]) (valsL room (k + 1) ws) := by
  show preV vs (match nuL w with | none => _ | some u => _) = _
  rw [h]
  show preV vs (if 3 < k ∨ room < k then _ else _) = _
  rw [if_neg h2]
  cases valsL room (k + 1) ws with
  | inl j => rfl
  | inr us => simp [preV]
theorem valsL_none {room k : Nat} {w : List Nat} {ws : List (List Nat)} (h : nuL w = none) (vs : List Nu) : preV vs (valsL room k (w :: ws)) = .inl k := by
  show preV vs (match nuL w with | none => _ | some u => _) = _
  rw [h]
  rfl
theorem valsL_far {room k : Nat} {w : List Nat} {ws : List (List Nat)} (h2 : 3 < k ∨ room < k) (vs : List Nu) : preV vs (valsL room k (w :: ws)) = .inl k := by
  show preV vs (match nuL w with | none => _ | some u => _) = _
  cases nuL w with
  | none => rfl
  | some u =>
    show preV vs (if 3 < k ∨ room < k then _ else _) = _
    rw [if_pos h2]
    rfl
theorem valsL_le {room : Nat} : ∀ {ws : List (List Nat)} {k j : Nat}, valsL room k ws = .inl j → k ≤ j
  | [], _, _, h => by cases h
  | w :: ws, k, j, h => by
    unfold valsL at h
    split at h
    · have := Sum.inl.inj h
      omega
    · split at h
      · have := Sum.inl.inj h
        omega
      · split at h
        · rename_i j' hj
          have := valsL_le hj
          have := Sum.inl.inj h
          omega
        · cases h
def R_wrong_word : List PyData → PyData → Prop := fun ds d => ∃ (ws : List (List Nat)) (D : Da), ws ≠ [] ∧ ws.length ≤ 60000 ∧ (∀ p ∈ ws, p.length ≤ 50000) ∧ DaOk D ∧ ds = [.list (ws.map sD), daD D] ∧ d = lineX D ws
abbrev sp_wrong_word (K : PySem.W.Frag) : Sp := spP K 2 R_wrong_word
theorem G_wrong_word (T : Txt K mg) : FnOk P w K mg base CX0 5 (He.ga K "wrong_word") T.e_wrong_word ["words", "data"] (spP K 2 R_wrong_word) := by
  refine T.d_wrong_word.ok (n := 2) (m := 5) sc_wrong_word rfl rfl fun cdv A outer s H E hr => ⟨_, (pss_cons (ps_set (i := 2) sc_wrong_word.nd rfl (.inl rfl) (pe_call (G_place_in T) (hr.mono (by decide)) rfl T.d_place_in.g T.d_place_in.f.kp (b_place_in T) .nil pass0 (pa_cons (pe_ix ix_list (pv 0) pe_int (fun _ _ => rfl)) pa_nil)))
      (pss_cons (ps_if (PW.pt (pw_or (pt_cmpR (op_eqD (u64 hr)) (pv 2) (pe_lst pa_nil) (nomark _)) (pw_or (pt_cmpR ((op_inD (u65 hr))) (pe_ix ix_list (pv 2) pe_int (fun _ _ => rfl)) (pe_call (G_places_of T) (hr.mono (by decide)) rfl T.d_places_of.g T.d_places_of.f.kp (b_places_of T) .nil pass0 (pa_cons (pv 1) pa_nil)) (by rfl)) (pw_or1 (pt_cmpR (op_eq) (pe_callB cr_len rfl T.f_len (by decide +kernel) (pa_cons (pv 1) pa_nil)) (pe_glob (v := .int 6) rfl T.c_MOST_PLACES.choose_spec ⟨_, rfl⟩) (nomark _)))))) (pss_one (ps_ret (pe_tup (pa_cons pe_int (pa_cons (pe_tup pa_nil) pa_nil))))) pss_nil)
      (pss_cons (ps_set (i := 3) sc_wrong_word.nd rfl (.inl rfl) (pe_lst pa_nil))
      (pss_cons (ps_for PassesOwn.never rfl (pi_enum rfl T.f_enumerate (pa_cons (pe_slice sl_list (pv 0) (po_some pe_int) po_none) pa_nil)) (pg_tup rfl (pgs_cons (pg_name (i := 4) sc_wrong_word.nd rfl (.inl rfl)) (pgs_cons (pg_name (i := 5) sc_wrong_word.nd rfl (.inl rfl)) pgs_nil)))
      (pss_cons (ps_set (i := 6) sc_wrong_word.nd rfl (.inl rfl) (pe_call (G_number_in T) (hr.mono (by decide)) rfl T.d_number_in.g T.d_number_in.f.kp (b_number_in T) .nil pass0 (pa_cons (pv 5) pa_nil)))
      (pss_cons (ps_if (PW.pt (pw_or (pt_cmpR (op_eqD (u64 hr)) (pv 6) (pe_lst pa_nil) (nomark _)) (pw_or (pt_cmpR (op_eq) (pv 4) (pe_glob (v := .int 3) rfl T.c_MOST_AT_ONE.choose_spec ⟨_, rfl⟩) (nomark _)) (pw_or1 (pt_cmpR (op_eq) (pe_op op_add (pe_call (G_count_values T) (hr.mono (by decide)) rfl T.d_count_values.g T.d_count_values.f.kp (b_count_values T) .nil pass0 (pa_cons (pv 1) pa_nil)) (pv 4)) (pe_glob (v := .int 6) rfl T.c_MOST_VALUES.choose_spec ⟨_, rfl⟩) (nomark _)))))) (pss_one (ps_ret (pe_tup (pa_cons (pe_op op_add (pv 4) pe_int) (pa_cons (pe_tup pa_nil) pa_nil))))) pss_nil)
      (pss_one (ps_expr (pe_bm PySem.F.plainAttrs_list PySem.F.slot_list_append PySem.F.type_list_append mt_append (pv 3) (pa_cons (pe_ix ix_list (pv 6) pe_int (fun _ _ => rfl)) pa_nil)))))))
      (pss_one (ps_ret (pe_tup (pa_cons (pe_ifExp (pt_cmpR (op_neD (u64 hr)) (pv 3) (pe_lst pa_nil) (nomark _)) pe_non pe_int) (pa_cons (pe_tup (pa_cons (pe_ix ix_list (pv 2) pe_int (fun _ _ => rfl)) (pa_cons (pe_callTy cr_tupL rfl T.f_tuple (by decide +kernel) (pa_cons (pv 3) pa_nil)) pa_nil))) pa_nil))))))))),
    fun ds d hlen0 hR H0 D hq hn => ?_⟩
  obtain ⟨ws, D', hne, hwl, hwp, okD, rfl, rfl⟩ := hR
  obtain ⟨w, ws, rfl⟩ : ∃ w r, ws = w :: r := by
    cases ws with
    | nil => exact absurd rfl hne
    | cons a r => exact ⟨a, r, rfl⟩
  have dl := okD.len
  have hw := hwp w List.mem_cons_self
  have hq : Rt K H0 D (lineX1 D' w ws) := hq
  unfold lineX1 at hq
  refine go_seq (go_new (evf_call (eva_1 (ev_op (ev_arg (d := .list ((w :: ws).map sD)) rfl) ev_int (opv_ixL (i := 0) (d := sD w) rfl))) rfl ⟨w, hw, rfl, rfl⟩) (lf_nus _) (go_nx ?_))
  cases hp : placeL w with
  | none =>
    rw [hp] at hq
    exact go_seq (go_ifT (evb_orT1 (evb_test (ev_op (ev_own (ds := []) rfl) ev_lst0 (opv_nil shp_nil)))) (go_ret (ev_tup2 ev_int (ev_tup eva_nil (by simp))) hq))
  | some u =>
    rw [hp] at hq
    have hq : Rt K H0 D (if u ∈ D'.map (·.1) ∨ D'.length = 6 then .tuple [.int 0, .tuple []] else match valsL (6 - cnt D') 1 ws with
      | .inl j => .tuple [.int (j : Nat), .tuple []]
      | .inr us => .tuple [if us = [] then .int 1 else .none, paD (u, us)]) := hq
    have pl : EvG K (tVar 2) ((slots [PyData.list ((w :: ws).map sD), daD D'] 5).set 2 (.own ((placeL w).toList.map nuD))) (.list [nuD u]) := ev_own (by rw [hp]; rfl)
    rw [hp] at pl
    have cond : EvB K ((tOr (tTest (tOp (rEqD K) (tVar 2) (tLst tNil))) (tOr (tTest (tOp (rInD K) (tOp (rIxL K) (tVar 2) (tC (.int 0))) (tCall (sp_places_of K) [] E0 (tCons (tVar 1) tNil)))) (tTest (tOp rEq (tCB (rLenD K) (tCons (tVar 1) tNil)) (tC (.int 6))))))) ((slots [PyData.list ((w :: ws).map sD), daD D'] 5).set 2 (.own ((some u).toList.map nuD))) (decide (u ∈ D'.map (·.1) ∨ D'.length = 6)) := by
      refine evb_is (evb_or (evb_test (ev_op pl ev_lst0 (opv_nil (shp_nus [u])))) fun _ => evb_or (evb_test (ev_op (ev_op pl ev_int (opv_ixL (i := 0) rfl)) (ev_fresh (evf_call (eva_1 (ev_arg (d := daD D') rfl)) rfl ⟨D', by omega, rfl, rfl⟩)) opv_inNu)) fun _ => evb_test (ev_op (ev_cb (eva_1 (ev_arg (d := daD D') rfl)) cbv_lenT) ev_int opv_eqI)) ?_
      rw [List.length_map, Bool.eq_iff_iff]
      simp only [Bool.or_eq_true, decide_eq_true_iff]
      constructor
      · rintro (h | h | h)
        · cases h
        · exact .inl h
        · exact .inr (by omega)
      · rintro (h | h)
        · exact .inr (.inl h)
        · exact .inr (.inr (by omega))
    by_cases hc : u ∈ D'.map (·.1) ∨ D'.length = 6
    · rw [if_pos hc] at hq
      exact go_seq (go_ifT (evb_is cond (decide_eq_true hc)) (go_ret (ev_tup2 ev_int (ev_tup eva_nil (by simp))) hq))
    rw [if_neg hc] at hq
    refine go_seq (go_ifF (evb_is cond (decide_eq_false hc)) (go_next (go_nx ?_)))
    refine go_seq (go_new (i := 3) (evf_lst eva_nil (by simp)) (fun d hd => nomatch hd) (go_nx ?_))
    have cn := okD.cnt
    refine go_seq (go_dat ?_)
    refine go_forES (σt := List Nu) (xs := ws) (evf_is (evf_slL (ev_dat (d := .list ((w :: ws).map sD)) rfl) (evo_some ev_int) evo_none) (by rw [show cutD ((w :: ws).map sD) (some 1) none = ((w :: ws).map sD).drop 1 from cutD_from _ 1]; rfl))
      (fun i us => us.length = i ∧ preV us (valsL (6 - cnt D') (i + 1) (ws.drop i)) = valsL (6 - cnt D') 1 ws ∧ (i ≤ 3 ∧ i ≤ 6 - cnt D')) (fun i us => [.no, .dat (daD D'), .own [nuD u], .own (us.map nuD), .no, .no, .no]) [] [4, 5] ⟨rfl, ?_, by omega⟩ rfl ?_ ?_ ?_
    · show preV [] _ = _
      rw [List.drop_zero]
      cases valsL (6 - cnt D') 1 ws <;> rfl
    · intro j s hj hs
      rcases j with _ | _ | _ | _ | _ | _ | _ | j
      · exact absurd (Option.some.inj hj).symm hs
      · exact hj
      · exact hj
      · exact hj
      · exact absurd (Option.some.inj hj).symm hs
      · exact absurd (Option.some.inj hj).symm hs
      · exact absurd (Option.some.inj hj).symm hs
      · cases hj
    · rintro H1 e01 i x us hx ⟨h1, h2, h3⟩
      have hxm : x ∈ ws := List.mem_of_getElem? hx
      have hil : i < ws.length := (List.getElem?_eq_some_iff.mp hx).1
      have hdr : ws.drop i = x :: ws.drop (i + 1) := by
        rw [List.drop_eq_getElem_cons hil]
        rw [List.getElem?_eq_getElem hil] at hx
        rw [Option.some.inj hx]
      rw [hdr] at h2
      refine ⟨_, tg_tup2, ?_⟩
      refine go_seq (go_new (evf_call (eva_1 (ev_dat (d := sD x) rfl)) rfl ⟨x, hwp x (List.mem_cons_of_mem _ hxm), rfl, rfl⟩) (lf_nus _) (go_nx ?_))
      have cnt_ev : ∀ Γ, Γ[1]? = some (.dat (daD D')) → Γ[4]? = some (.dat (.int (i : Nat))) → EvB K (tOr (tTest (tOp rEq (tVar 4) (tC (.int 3)))) (tTest (tOp rEq (tOp (rI0 fun i j => .int (i + j)) (tCall (sp_count_values K) [] E0 (tCons (tVar 1) tNil)) (tVar 4)) (tC (.int 6))))) Γ (decide (3 < i + 1 ∨ 6 - cnt D' < i + 1)) := fun Γ g1 g4 => by
        refine evb_is (evb_or (evb_test (ev_op (ev_dat g4) ev_int opv_eqI)) fun _ => evb_test (ev_op (ev_op (ev_call (eva_1 (ev_dat g1)) rfl ⟨D', by omega, rfl, rfl⟩) (ev_dat g4) opv_I0) ev_int opv_eqI)) ?_
        rw [Bool.eq_iff_iff]
        simp only [Bool.or_eq_true, decide_eq_true_iff]
        constructor
        · rintro (h | h)
          · exact .inl (by omega)
          · exact .inr (by omega)
        · rintro (h | h)
          · exact .inl (by omega)
          · exact .inr (by omega)
      have wrong : preV us (valsL (6 - cnt D') (i + 1) (x :: ws.drop (i + 1))) = .inl (i + 1) → Rt K H1 D (.tuple [.int ((i : Nat) + 1), .tuple []]) := fun z => by
        rw [← h2, z] at hq
        exact Rt.base e01 hq
      have ret : ∀ Γ D2, Γ[4]? = some (.dat (.int (i : Nat))) → Rt K H1 D2 (.tuple [.int ((i : Nat) + 1), .tuple []]) → Go K H1 (tRet (tTup (tCons (tOp (rI0 fun i j => .int (i + j)) (tVar 4) (tC (.int 1))) (tCons (tTup tNil) tNil)))) Γ D2 := fun Γ D2 g4 h => go_ret (ev_tup2 (ev_op (ev_dat g4) ev_int opv_I0) (ev_tup eva_nil (by simp))) h
      cases hv : nuL x with
      | none => exact go_seq (go_ifT (evb_orT1 (evb_test (ev_op (ev_own (ds := []) rfl) ev_lst0 (opv_nil shp_nil)))) (ret _ _ rfl (wrong (valsL_none hv us))))
      | some v =>
        have fo : EvB K (tTest (tOp (rEqD K) (tVar 6) (tLst tNil))) ((((([Sl.no, .dat (daD D'), .own [nuD u], .own (us.map nuD), .no, .no, .no] : Ga).set 4 (.dat (.int (i : Nat)))).set 5 (.dat (sD x))).set 6 (.own ((some v).toList.map nuD)))) false := evb_is (evb_test (ev_op (ev_own (ds := [nuD v]) rfl) ev_lst0 (opv_nil (shp_nus [v])))) rfl
        by_cases hk : 3 < i + 1 ∨ 6 - cnt D' < i + 1
        · exact go_seq (go_ifT (evb_orF fo (evb_is (cnt_ev _ rfl rfl) (decide_eq_true hk))) (ret _ _ rfl (wrong (valsL_far hk us))))
        · refine go_seq (go_ifF (evb_orF fo (evb_is (cnt_ev _ rfl rfl) (decide_eq_false hk))) (go_next (go_nx ?_)))
          refine go_app (ds := us.map nuD) rfl (ev_op (ev_own (ds := [nuD v]) rfl) ev_int (opv_ixL (i := 0) (d := nuD v) rfl)) (lf_nu v) ?_ (by rw [List.length_map]; omega) fun σ H S => ⟨us ++ [v], ?_, ?_⟩
          · intro j s hj
            rcases j with _ | _ | _ | _ | _ | _ | _ | j
            · rw [← Option.some.inj hj]; trivial
            · rw [← Option.some.inj hj]; exact lf_da D'
            · rw [← Option.some.inj hj]; trivial
            · rw [← Option.some.inj hj]; trivial
            · rw [← Option.some.inj hj]; exact .int _
            · rw [← Option.some.inj hj]; exact .str _
            · rw [← Option.some.inj hj]; trivial
            · cases hj
          · refine S.weak rfl fun j s hj hs => ?_
            rcases j with _ | _ | _ | _ | _ | _ | _ | j
            · exact absurd (Option.some.inj hj).symm hs
            · exact hj
            · exact hj
            · rw [List.map_append] at hj
              exact hj
            · exact absurd (Option.some.inj hj).symm hs
            · exact absurd (Option.some.inj hj).symm hs
            · exact absurd (Option.some.inj hj).symm hs
            · cases hj
          · refine ⟨by rw [List.length_append, h1]; rfl, ?_, by omega⟩
            rw [← h2, valsL_step hv hk]
    · rintro us ⟨h1, h2, h3⟩
      refine ⟨go_nx ?_, ?_⟩
      · rw [List.drop_length] at h2
        have h2' : valsL (6 - cnt D') 1 ws = .inr us := by
          rw [← h2]
          show Sum.inr (us ++ []) = _
          rw [List.append_nil]
        rw [h2'] at hq
        refine go_ret (ev_tup2 (ev_if (b := !decide (us.map nuD = [])) (evb_test (ev_op (ev_own rfl) ev_lst0 (opv_nenil (shp_nus us)))) (fun h => ev_is ev_non ?_) (fun h => ev_is ev_int ?_)) (ev_tup2 (ev_op (ev_own (ds := [nuD u]) rfl) ev_int (opv_ixL (i := 0) (d := nuD u) rfl)) (ev_cb (eva_1 (ev_own (ds := us.map nuD) rfl)) cbv_tupL))) hq
        · rw [if_neg]
          intro z
          rw [z] at h
          simp at h
        · have : us = [] := by simpa using h
          rw [if_pos this]
      · intro j d hj
        rcases j with _ | _ | _ | _ | _ | _ | _ | j <;> cases hj
end
end K82

/-! part F -/
set_option Elab.async false
set_option linter.all false
set_option maxRecDepth 100000
set_option maxHeartbeats 4000000
set_option autoImplicit false
set_option exponentiation.threshold 9000
/-! data read, twice -/
namespace K82
open PySem PySem.Spec PyProof.Rows L2
open SX (S S_len S_cat S_inj num_S lens join_S split_S)
section
variable {P : Program} {w : World} {K : PySem.W.Frag} {mg : Str → Option Value} {base : Heap}

def dataX (x : List Nat) : PyData := match readL x with
  | .inl q => .tuple [.tuple [.int (q.1 : Nat), .int (q.2 : Nat)], .tuple []]
  | .inr D => .tuple [.none, daD D]
theorem rt_is {K : PySem.W.Frag} {H0 : Hp} {D : Ends} {d z : PyData} (h : Rt K H0 D d) (e : d = z) : Rt K H0 D z := e ▸ h
def lineR : Nat ⊕ Pa → PyData
  | .inl j => .tuple [.none, .int (j : Nat)]
  | .inr p => .tuple [paD p, .none]
def ownX (x : List Nat) : PyData := match readL x with
  | .inl q => .tuple [sD [119, 114, 111, 110, 103], .list [.int (q.1 : Nat), .int (q.2 : Nat), .bool true, .bool true]]
  | .inr D => .tuple [sD [114, 101, 97, 100], daD D]
theorem drop_at {α : Type} {l : List α} {i : Nat} {a : α} (h : l[i]? = some a) : l.drop i = a :: l.drop (i + 1) ∧ i < l.length ∧ a ∈ l := by
  have hil : i < l.length := (List.getElem?_eq_some_iff.mp h).1
  refine ⟨?_, hil, List.mem_of_getElem? h⟩
  rw [List.drop_eq_getElem_cons hil]
  rw [List.getElem?_eq_getElem hil] at h
  rw [Option.some.inj h]
theorem map_get {α β : Type} {l : List α} {f : α → β} {i : Nat} {b : β} (h : (l.map f)[i]? = some b) : ∃ a, l[i]? = some a ∧ f a = b := by
  rw [List.getElem?_map] at h
  cases q : l[i]? with
  | none => rw [q] at h; cases h
  | some a =>
    rw [q] at h
    exact ⟨a, rfl, Option.some.inj h⟩
theorem enum_get {xs : List (List Nat)} {i : Nat} {d : PyData} (h : (enumD 0 (xs.map sD))[i]? = some d) : ∃ x, xs[i]? = some x ∧ d = .tuple [.int (i : Nat), sD x] := by
  rw [enumD_get, Nat.zero_add] at h
  rw [List.getElem?_map] at h
  cases q : xs[i]? with
  | none => rw [q] at h; cases h
  | some x =>
    rw [q] at h
    exact ⟨x, rfl, (Option.some.inj h).symm⟩
theorem dataL_one {D : Da} {l : List Nat} (h : l ≠ []) : dataL D [l] = match lineL D (splC 32 l) with
    | .inl j => .inl (D.length, j)
    | .inr _ => .inl (D.length, (splC 32 l).length) := by
  show (if l = [] then _ else _) = _
  rw [if_neg h] <;> rfl
theorem dataL_more {D : Da} {l : List Nat} {r : List (List Nat)} (h : r ≠ []) : dataL D (l :: r) = match lineL D (splC 32 l) with
    | .inl j => .inl (D.length, j)
    | .inr p => dataL (D ++ [p]) r := by
  cases r with
  | nil => exact absurd rfl h
  | cons m r => rfl
def R_data_in : List PyData → PyData → Prop := fun ds d => ∃ x : List Nat, x.length ≤ 50000 ∧ ds = [sD x] ∧ d = dataX x
abbrev sp_data_in (K : PySem.W.Frag) : Sp := spP K 1 R_data_in
theorem G_data_in (T : Txt K mg) : FnOk P w K mg base CX0 6 (He.ga K "data_in") T.e_data_in ["text"] (spP K 1 R_data_in) := by
  refine T.d_data_in.ok (n := 1) (m := 8) sc_data_in rfl rfl fun cdv A outer s H E hr => ⟨_, (pss_cons (ps_set (i := 1) sc_data_in.nd rfl (.inl rfl) (pe_m1 PySem.F.slot_str_split PySem.F.type_str_split mt_splitD (pv 0) pe_str))
      (pss_cons (ps_set (i := 2) sc_data_in.nd rfl (.inl rfl) (pe_tup pa_nil))
      (pss_cons (ps_for PassesOwn.never rfl (pi_enum rfl T.f_enumerate (pa_cons (pv 1) pa_nil)) (pg_tup rfl (pgs_cons (pg_name (i := 3) sc_data_in.nd rfl (.inl rfl)) (pgs_cons (pg_name (i := 4) sc_data_in.nd rfl (.inl rfl)) pgs_nil)))
      (pss_cons (ps_set (i := 5) sc_data_in.nd rfl (.inl rfl) (pe_cmpR (op_eq) (pv 3) (pe_op op_sub (pe_callB cr_len rfl T.f_len (by decide +kernel) (pa_cons (pv 1) pa_nil)) pe_int) (nomark _)))
      (pss_cons (ps_if (PW.pt (pw_and (pt_val (pv 5)) (pw_and1 (pt_cmpR (op_eq) (pv 4) pe_str (nomark _))))) (pss_one (ps_ret (pe_tup (pa_cons pe_non (pa_cons (pv 2) pa_nil))))) pss_nil)
      (pss_cons (ps_set (i := 6) sc_data_in.nd rfl (.inl rfl) (pe_m1 PySem.F.slot_str_split PySem.F.type_str_split mt_splitD (pv 4) pe_str))
      (pss_cons (ps_asg (pe_call (G_wrong_word T) (hr.mono (by decide)) rfl T.d_wrong_word.g T.d_wrong_word.f.kp (b_wrong_word T) .nil pass0 (pa_cons (pv 6) (pa_cons (pv 2) pa_nil))) (pg_tup rfl (pgs_cons (pg_name (i := 7) sc_data_in.nd rfl (.inl rfl)) (pgs_cons (pg_name (i := 8) sc_data_in.nd rfl (.inl rfl)) pgs_nil))))
      (pss_cons (ps_if (PW.pt (pw_or (pt_cmpR (op_notN1) (pv 7) pe_non (nomark _)) (pw_or1 (pt_val (pv 5))))) (pss_one (ps_ret (pe_tup (pa_cons (pe_tup (pa_cons (pv 3) (pa_cons (pe_ifExp (pt_cmpR (op_isN1) (pv 7) pe_non (nomark _)) (pe_callB cr_len rfl T.f_len (by decide +kernel) (pa_cons (pv 6) pa_nil)) (pv 7)) pa_nil))) (pa_cons (pe_tup pa_nil) pa_nil))))) pss_nil)
      (pss_one (ps_set (i := 2) sc_data_in.nd rfl (.inl rfl) (pe_tup (StX.pa_star (pv 2) (pa_cons (pv 8) pa_nil)))))))))))
      (pss_one (ps_ret (pe_tup (pa_cons pe_non (pa_cons (pv 2) pa_nil)))))))),
    fun ds d hlen0 hR H0 D hq hn => ?_⟩
  obtain ⟨x, hx, rfl, rfl⟩ := hR
  refine go_seq (go_new (evf_spl (c := 10) (by decide) (ev_arg rfl) (ev_lit (x := [10]) (by decide +kernel)) (by omega)) (lf_strs _) (go_nx ?_))
  refine go_seq (go_set (d := daD []) (ev_tup eva_nil (by simp)) (go_nx ?_))
  generalize hls : splC 10 x = ls
  have hll : ls.length ≤ 60000 := by
    have := splC_len 10 x
    rw [hls] at this
    omega
  have hlp : ∀ p ∈ ls, p.length ≤ 50000 := fun p hp => by
    have := splC_part 10 x p (by rw [hls]; exact hp)
    omega
  have hrd : dataL [] ls = readL x := by rw [← hls]; rfl
  refine go_seq (go_forS (σt := Da) (itd_enum (ev_own rfl)) (fun i acc => dataL acc (ls.drop i) = readL x ∧ acc.length = i ∧ DaOk acc) (fun i acc => [.no, .dat (.list (ls.map sD)), .dat (daD acc), .no, .no, .no, .no, .no, .no]) [] [3, 4] ⟨by rw [List.drop_zero]; exact hrd, rfl, DaOk.nil⟩ rfl ?_ ?_ ?_)
  · intro j s hj hs
    rcases j with _ | _ | _ | _ | _ | _ | _ | _ | _ | j
    · exact absurd (Option.some.inj hj).symm hs
    · exact hj
    · exact hj
    all_goals first | exact absurd (Option.some.inj hj).symm hs | cases hj
  · rintro H1 e01 i d acc hd ⟨h1, h2, h3⟩
    obtain ⟨l, hl, rfl⟩ := enum_get hd
    obtain ⟨hdr, hil, hlm⟩ := drop_at hl
    rw [hdr] at h1
    have acl := h3.len
    have hll1 := hlp l hlm
    have hwl : (splC 32 l).length ≤ 60000 := by
      have := splC_len 32 l
      omega
    have hwp : ∀ p ∈ splC 32 l, p.length ≤ 50000 := fun p hp => by
      have := splC_part 32 l p hp
      omega
    refine ⟨_, tg_tup2, ?_⟩
    refine go_seq (go_set (d := .bool (decide (i = ls.length - 1))) (ev_is (ev_op (ev_dat rfl) (ev_op (ev_cb (eva_cons (ev_dat rfl) eva_nil) cbv_lenL) ev_int opv_I0) opv_eqI) (by
      rw [List.length_map]
      congr 1
      refine decide_eq_decide.mpr ?_
      omega)) (go_nx ?_))
    refine go_seq (go_if (b := decide (i = ls.length - 1) && decide (l = [])) (evb_and (evb_val (ev_dat rfl)) fun _ => (evb_test (ev_op (ev_dat rfl) (ev_lit (x := []) (by decide +kernel)) opv_eqS))) (fun hc => ?_) (fun hc => go_next (go_nx ?_)))
    · rw [Bool.and_eq_true] at hc
      have c1 := of_decide_eq_true hc.1
      have c2 := of_decide_eq_true hc.2
      have : ls.drop (i + 1) = [] := List.drop_eq_nil_of_le (by omega)
      rw [this, c2] at h1
      have h1' : readL x = .inr acc := h1.symm
      refine go_ret (ev_tup2 ev_non (ev_dat (d := daD acc) rfl)) (rt_is (Rt.base e01 hq) ?_)
      unfold dataX
      rw [h1']
    refine go_seq (go_new (evf_spl (c := 32) (by decide) (ev_dat (d := sD l) rfl) (ev_lit (x := [32]) (by decide +kernel)) (by omega)) (lf_strs _) (go_nx ?_))
    have call : ∀ Γ, Γ[6]? = some (.own ((splC 32 l).map sD)) → Γ[2]? = some (.dat (daD acc)) → EvG K (tCall (sp_wrong_word K) [] E0 (tCons (tVar 6) (tCons (tVar 2) tNil))) Γ (lineX acc (splC 32 l)) := fun Γ g1 g2 => ev_call (eva_2 (ev_own g1) (ev_dat g2)) rfl ⟨_, acc, splC_ne 32 l, hwl, hwp, h3, rfl, rfl⟩
    have hlast : i = ls.length - 1 → ls.drop (i + 1) = [] := fun z => List.drop_eq_nil_of_le (by omega)
    rcases lineX_of acc (splC_ne 32 l) with ⟨j, X, lfX, e1, e2⟩ | ⟨p, e1, e2⟩
    · refine go_seq (go_asg (ev_is (call _ rfl rfl) e2) (tg_pair tg_name tg_name) (go_nx ?_))
      refine go_seq (go_ifT (evb_orT1 (evb_test (ev_op (ev_dat (d := .int (j : Nat)) rfl) ev_non opv_notN))) (go_ret (ev_tup2 (ev_tup2 (ev_dat (d := .int (i : Nat)) rfl) (ev_ifF (evb_test (ev_op (ev_dat (d := .int (j : Nat)) rfl) ev_non opv_isN)) (ev_dat (d := .int (j : Nat)) rfl))) (ev_tup eva_nil (by simp))) (rt_is (Rt.base e01 hq) ?_)))
      have : readL x = .inl (i, j) := by
        rw [← h1]
        by_cases hr : ls.drop (i + 1) = []
        · rw [hr, dataL_one, e1, h2]
          intro z
          have : i = ls.length - 1 := by
            have := List.drop_eq_nil_iff.mp hr
            omega
          rw [decide_eq_true this, decide_eq_true z] at hc
          cases hc
        · rw [dataL_more hr, e1, h2]
      unfold dataX
      rw [this]
    · refine go_seq (go_asg (ev_is (call _ rfl rfl) e2) (tg_pair tg_name tg_name) (go_nx ?_))
      by_cases hla : i = ls.length - 1
      · refine go_seq (go_ifT (evb_orF (evb_test (ev_op (ev_dat (d := .none) rfl) ev_non opv_notN)) (evb_is (evb_val (ev_dat (d := .bool (decide (i = ls.length - 1))) rfl)) (decide_eq_true hla))) (go_ret (ev_tup2 (ev_tup2 (ev_dat (d := .int (i : Nat)) rfl) (ev_ifT (evb_test (ev_op (ev_dat (d := .none) rfl) ev_non opv_isN)) (ev_cb (eva_1 (ev_own (ds := (splC 32 l).map sD) rfl)) cbv_lenL))) (ev_tup eva_nil (by simp))) (rt_is (Rt.base e01 hq) ?_)))
        have : readL x = .inl (i, (splC 32 l).length) := by
          rw [← h1, hlast hla, dataL_one, e1, h2]
          intro z
          rw [decide_eq_true hla, decide_eq_true z] at hc
          cases hc
        unfold dataX
        rw [this, List.length_map]
      · refine go_seq (go_ifF (evb_orF (evb_test (ev_op (ev_dat (d := .none) rfl) ev_non opv_notN)) (evb_is (evb_val (ev_dat (d := .bool (decide (i = ls.length - 1))) rfl)) (decide_eq_false hla))) (go_next (go_nx ?_)))
        refine go_set (d := daD (acc ++ [p])) (ev_is (ev_tup (eva_star (ev_dat (d := daD acc) rfl) (eva_1 (ev_dat (d := paD p) rfl))) (by
          rw [List.length_append, List.length_map]
          simp
          omega)) (by
          unfold daD
          rw [List.map_append]
          rfl)) fun σ H S => ⟨acc ++ [p], ?_, ?_⟩
        · refine S.weak rfl fun j s hj hs => ?_
          rcases j with _ | _ | _ | _ | _ | _ | _ | _ | _ | j
          · exact absurd (Option.some.inj hj).symm hs
          · exact hj
          · exact hj
          all_goals first | exact absurd (Option.some.inj hj).symm hs | cases hj
        · have hr : ls.drop (i + 1) ≠ [] := fun z => by
            have := List.drop_eq_nil_iff.mp z
            omega
          rw [dataL_more hr, e1] at h1
          exact ⟨h1, by rw [List.length_append, h2]; rfl, (lineL_ok e1 h3).2⟩
  · rintro acc ⟨h1, h2, h3⟩
    have hn' : (enumD 0 (ls.map sD)).length = ls.length := by rw [enumD_len, List.length_map]
    refine ⟨go_nx (go_ret (ev_tup2 ev_non (ev_dat (d := daD acc) rfl)) (rt_is hq ?_)), fun j d hj => ?_⟩
    · rw [hn', List.drop_length] at h1
      have : readL x = .inr acc := h1.symm
      unfold dataX
      rw [this]
    · rcases j with _ | _ | _ | _ | _ | _ | _ | _ | _ | j <;> cases hj
theorem lineL_none {D : Da} {w : List Nat} {ws : List (List Nat)} (h : placeL w = none) : lineL1 D w ws = .inl 0 := by
  unfold lineL1
  rw [h]
theorem lineL_taken {D : Da} {w : List Nat} {ws : List (List Nat)} {u : Nu} (h : placeL w = some u) (h2 : u ∈ D.map (·.1) ∨ D.length = 6) : lineL1 D w ws = .inl 0 := by
  unfold lineL1
  rw [h]
  show (if u ∈ D.map (·.1) ∨ D.length = 6 then _ else _) = _
  rw [if_pos h2]
theorem lineL_full {D : Da} {w : List Nat} {ws : List (List Nat)} (h2 : D.length = 6) : lineL1 D w ws = .inl 0 := by
  cases h : placeL w with
  | none => exact lineL_none h
  | some u => exact lineL_taken h (.inr h2)
theorem lineL_vals {D : Da} {w : List Nat} {ws : List (List Nat)} {u : Nu} (h : placeL w = some u) (h2 : ¬ (u ∈ D.map (·.1) ∨ D.length = 6)) : lineL1 D w ws = match valsL (6 - cnt D) 1 ws with
      | .inl j => .inl j
      | .inr us => if us = [] then .inl 1 else .inr (u, us) := by
  unfold lineL1
  rw [h]
  show (if u ∈ D.map (·.1) ∨ D.length = 6 then _ else _) = _
  rw [if_neg h2] <;> rfl
theorem placeL_eq {w : List Nat} {u : Nu} (h1 : w.getLast? = some 58) (h2 : nuL w.dropLast = some u) : placeL w = if withinL u = true then some u else none := by
  unfold placeL
  rw [if_pos h1, h2]
structure ToldI (D : Da) (w : List Nat) (ws : List (List Nat)) (k : Nat) (told : List Nu) : Prop where
  len : told.length = k
  at0 : k = 0 → told = []
  at1 : k ≠ 0 → ∃ u vs, told = u :: vs ∧ placeL w = some u ∧ ¬ (u ∈ D.map (·.1) ∨ D.length = 6) ∧ preV vs (valsL (6 - cnt D) k ((w :: ws).drop k)) = valsL (6 - cnt D) 1 ws
  le : k ≤ 4
def lineG (D : Da) (ws : List (List Nat)) (told : List Nu) : Ga := [.arg (.list (ws.map sD)), .arg (.list (D.map paD)), .arg (.int ((6 - cnt D : Nat) : Int)), .arg (.int (D.length : Nat)), .own (told.map nuD), .own ((D.map (·.1)).map nuD), .no, .no, .no, .no]
def R__law_of_line : List PyData → PyData → Prop := fun ds d => ∃ (ws : List (List Nat)) (D : Da), ws ≠ [] ∧ ws.length ≤ 60000 ∧ (∀ p ∈ ws, p.length ≤ 50000) ∧ DaOk D ∧ ds = [.list (ws.map sD), .list (D.map paD), .int ((6 - cnt D : Nat) : Int), .int (D.length : Nat)] ∧ d = lineR (lineL D ws)
abbrev sp__law_of_line (K : PySem.W.Frag) : Sp := spP K 4 R__law_of_line
theorem G__law_of_line (T : Txt K mg) : FnOk P w K mg base CX0 4 (He.ga K "_law_of_line") T.e__law_of_line ["_law_words", "_law_found", "_law_room", "_law_at"] (spP K 4 R__law_of_line) := by
  refine T.d__law_of_line.ok (n := 4) (m := 6) sc__law_of_line rfl rfl fun cdv A outer s H E hr => ⟨_, (pss_cons (ps_par (i := 4) (j := 5) rfl sc__law_of_line.nd rfl rfl (by decide) rfl rfl (pa_cons (pe_lst pa_nil) (pa_cons (pe_lc (own := [("_law_each", 9)]) (wi := (iList K (tVar 1))) (g := (gName 9)) (tt := tYes) (te := (tOp (rIxT K) (tVar 9) (tC (.int 0)))) rfl sc__law_of_line.nd (pi_list (pv 1)) (blkOk_by (own := [("_law_each", 9)]) (N := ["_law_words", "_law_found", "_law_room", "_law_at", "_law_told_here", "_law_spots", "_law_k", "_law_word_here", "_law_num", "_law_each"]) (sc := defScope S__law_of_line) (by decide +kernel)) (fun _ _ _ _ _ => (pg_name (i := 9) sc__law_of_line.nd rfl (.inl rfl))) (fun _ _ _ _ _ => pts_nil) (fun _ _ _ _ _ => (pe_ix ix_tup (pv 9) pe_int (fun _ _ => rfl)))) pa_nil)) (by rfl))
      (pss_cons (ps_for PassesOwn.never rfl (pi_range1 rfl T.f_range (pa_cons (pe_callB cr_len rfl T.f_len (by decide +kernel) (pa_cons (pv 0) pa_nil)) pa_nil)) (pg_name (i := 6) sc__law_of_line.nd rfl (.inl rfl))
      (pss_cons (ps_set (i := 7) sc__law_of_line.nd rfl (.inl rfl) (pe_ix ix_list (pv 0) (pv 6) (fun _ _ => rfl)))
      (pss_cons (ps_set (i := 8) sc__law_of_line.nd rfl (.inl rfl) (pe_call (G__law_read_number T) (hr.mono (by decide)) rfl T.d__law_read_number.g T.d__law_read_number.f.kp (b__law_read_number T) .nil pass0 (pa_cons (pe_ifExp (pt_cmpR (op_eq) (pv 6) pe_int (nomark _)) (pe_slice sl_str (pv 7) po_none (po_some (pe_un un_neg pe_int))) (pv 7)) pa_nil)))
      (pss_cons (ps_if (PW.pt (pw_or (pt_cmpR (op_isN1) (pv 8) pe_non (nomark _)) (pw_or (pt_cmpR (op_eq) (pv 3) pe_int (nomark _)) (pw_or (pt_cmpR (op_gt) (pv 6) pe_int (nomark _)) (pw_or (pt_cmpR (op_gt) (pv 6) (pv 2) (nomark _)) (pw_or1 (PW.pt (pw_and (pt_cmpR (op_eq) (pv 6) pe_int (nomark _)) (pw_and1 (pt_cmpR (op_ne) (pe_slice sl_str (pv 7) (po_some (pe_un un_neg pe_int)) po_none) pe_str (nomark _))))))))))) (pss_one (ps_ret (pe_tup (pa_cons pe_non (pa_cons (pv 6) pa_nil))))) pss_nil)
      (pss_cons (ps_if (PW.pt (pw_and (pt_cmpR (op_eq) (pv 6) pe_int (nomark _)) (pw_and1 (PW.pt (pw_or (pt_cmpR ((op_inD (u65 hr))) (pv 8) (pv 5) (by rfl)) (pw_or1 (pt_not (pt_val (pe_call (G__law_is_within T) (hr.mono (by decide)) rfl T.d__law_is_within.g T.d__law_is_within.f.kp (b__law_is_within T) .nil pass0 (pa_cons (pv 8) pa_nil)))))))))) (pss_one (ps_ret (pe_tup (pa_cons pe_non (pa_cons (pv 6) pa_nil))))) pss_nil)
      (pss_one (ps_expr (pe_bm PySem.F.plainAttrs_list PySem.F.slot_list_append PySem.F.type_list_append mt_append (pv 4) (pa_cons (pv 8) pa_nil)))))))))
      (pss_one (ps_ret (pe_ifExp (pt_cmpR (op_gt) (pe_callB cr_len rfl T.f_len (by decide +kernel) (pa_cons (pv 4) pa_nil)) pe_int (nomark _)) (pe_tup (pa_cons (pe_tup (pa_cons (pe_ix ix_list (pv 4) pe_int (fun _ _ => rfl)) (pa_cons (pe_callTy cr_tupL rfl T.f_tuple (by decide +kernel) (pa_cons (pe_slice sl_list (pv 4) (po_some pe_int) po_none) pa_nil)) pa_nil))) (pa_cons pe_non pa_nil))) (pe_tup (pa_cons pe_non (pa_cons (pe_callB cr_len rfl T.f_len (by decide +kernel) (pa_cons (pv 0) pa_nil)) pa_nil)))))))),
    fun ds d hlen0 hR H0 D hq hn => ?_⟩
  obtain ⟨ws, D', hne, hwl, hwp, okD, rfl, rfl⟩ := hR
  obtain ⟨w, ws, rfl⟩ : ∃ w r, ws = w :: r := by
    cases ws with
    | nil => exact absurd rfl hne
    | cons a r => exact ⟨a, r, rfl⟩
  have dl := okD.len
  have cn := okD.cnt
  have hq : Rt K H0 D (lineR (lineL1 D' w ws)) := hq
  refine go_seq (go_par2N (ds := []) (es := (D'.map (·.1)).map nuD) (evf_lst eva_nil (by simp)) (evf_is (evf_mapA D' paD (fun p => nuD p.1) (fun p => (wipeG _ _).set 9 (.dat (paD p))) (itd_list (ev_arg rfl)) (by omega) (by simp) (fun p _ => tg_name) (fun p _ => ⟨ev_op (ev_dat (d := paD p) rfl) ev_int (opv_ixT (i := 0) (d := nuD p.1) rfl), lf_nu _⟩)) (by rw [List.map_map]; rfl)) (fun d hd => nomatch hd) (lf_nus _) (go_nx ?_))
  have hlen : (w :: ws).length ≤ 60000 := hwl
  refine go_seq (go_forAS (σt := List Nu) (ita_range1 (n := (w :: ws).length) (ev_is (ev_cb (eva_1 (ev_arg (d := .list ((w :: ws).map sD)) rfl)) cbv_lenL) (by rw [List.length_map])) (by omega)) (fun k told => ToldI D' w ws k told) (fun k told => lineG D' (w :: ws) told) [] [6] ⟨rfl, fun _ => rfl, fun z => absurd rfl z, by decide⟩ rfl ?_ ?_ ?_)
  · intro j s hj hs
    rcases j with _ | _ | _ | _ | _ | _ | _ | _ | _ | _ | j
    · exact hj
    · exact hj
    · exact hj
    · exact hj
    · exact hj
    · exact hj
    all_goals first | exact absurd (Option.some.inj hj).symm hs | cases hj
  · intro k d told hd I
    have hk : k < (w :: ws).length := by
      have := (List.getElem?_eq_some_iff.mp hd).1
      rw [rangeD_len] at this
      exact this
    have ed : d = .int (k : Nat) := by
      unfold rangeD at hd
      rw [List.getElem?_map, List.getElem?_range hk] at hd
      rw [← Option.some.inj hd]
      show PyData.int (0 + (k : Int)) = _
      rw [Int.zero_add]
    subst ed
    obtain ⟨x, hx⟩ : ∃ x, (w :: ws)[k]? = some x := ⟨_, List.getElem?_eq_getElem hk⟩
    obtain ⟨hdr, _, hxm⟩ := drop_at hx
    have hxl := hwp x hxm
    refine ⟨_, tg_name, ?_⟩
    refine go_seq (go_set (d := sD x) (ev_op (ev_arg (d := .list ((w :: ws).map sD)) rfl) (ev_dat (d := .int (k : Nat)) rfl) (opv_ixL (i := k) (by rw [List.getElem?_map, hx]; rfl))) (go_nx ?_))
    have ini : cutL x none (some (-1)) = x.dropLast := cut_init x
    have lst : cutL x (some (-1)) none = x.drop (x.length - 1) := cut_last x
    refine go_seq (go_set (d := nD (nuL (if k = 0 then x.dropLast else x))) (ev_call (eva_1 (ev_if (d := sD (if k = 0 then x.dropLast else x)) (b := decide ((k : Int) = 0)) (evb_test (ev_op (ev_dat rfl) ev_int opv_eqI)) (fun h => ev_is (ev_cut (ev_dat (d := sD x) rfl) evo_none (evo_some ev_m1) (by omega)) (by rw [ini, if_pos (by have := of_decide_eq_true h; omega)])) (fun h => ev_is (ev_dat (d := sD x) rfl) (by rw [if_neg (by have := of_decide_eq_false h; omega)])))) rfl ⟨_, by
      split
      · rw [List.length_dropLast]; omega
      · omega, rfl, rfl⟩) (go_nx ?_))
    have fin : ∀ Γ D2, Γ[6]? = some (.dat (.int (k : Nat))) → Rt K H0 D2 (lineR (lineL1 D' w ws)) → lineL1 D' w ws = .inl k → Go K H0 (tRet (tTup (tCons (tC .non) (tCons (tVar 6) tNil)))) Γ D2 := fun Γ D2 g6 h e => go_ret (ev_tup2 ev_non (ev_dat g6)) (by rw [e] at h; exact h)
    generalize hnu : nuL (if k = 0 then x.dropLast else x) = o
    cases o with
    | none =>
      refine go_seq (go_ifT (evb_orT1 (evb_test (ev_op (ev_dat (d := .none) rfl) ev_non opv_isN))) (fin _ _ rfl hq ?_))
      by_cases h0 : k = 0
      · subst h0
        have : x = w := (Option.some.inj hx).symm
        subst this
        rw [if_pos rfl] at hnu
        refine lineL_none ?_
        unfold placeL
        rw [hnu]
        split <;> rfl
      · obtain ⟨u, vs, e1, e2, e3, e4⟩ := I.at1 h0
        rw [if_neg h0] at hnu
        rw [lineL_vals e2 e3, ← e4, hdr, valsL_none hnu]
    | some u =>
      have okU : NuOk u := (nuL_ok hnu).2
      have c1 : ∀ Γ, Γ[8]? = some (.dat (nuD u)) → EvB K (tTest (tOp rIsN (tVar 8) (tC .non))) Γ false := fun Γ g => evb_test (ev_op (ev_dat g) ev_non opv_isN)
      refine go_seq (go_if (b := false || (decide (D'.length = 6) || (decide (3 < k) || (decide (6 - cnt D' < k) || (decide (k = 0) && !decide (x.getLast? = some 58)))))) (evb_is (evb_or (c1 _ rfl) fun _ => evb_or (evb_test (ev_op (ev_arg (d := .int (D'.length : Nat)) rfl) ev_int opv_eqI)) fun _ => evb_or (evb_test (ev_op (ev_dat (d := .int (k : Nat)) rfl) ev_int opv_B0)) fun _ => evb_or (evb_test (ev_op (ev_dat (d := .int (k : Nat)) rfl) (ev_arg (d := .int ((6 - cnt D' : Nat) : Int)) rfl) opv_B0)) fun _ => evb_and (evb_test (ev_op (ev_dat (d := .int (k : Nat)) rfl) ev_int opv_eqI)) fun _ => evb_test (ev_op (ev_cut (ev_dat (d := sD x) rfl) (evo_some ev_m1) evo_none (by omega)) (ev_lit (x := [58]) (by decide +kernel)) opv_neS)) (by
        rw [lst, last_is]
        congr 1
        congr 1
        · exact decide_eq_decide.mpr (by omega)
        congr 1
        · exact decide_eq_decide.mpr (by omega)
        congr 1
        · exact decide_eq_decide.mpr (by omega)
        congr 1
        · exact decide_eq_decide.mpr (by omega))) (fun hc => fin _ _ rfl hq ?_) (fun hc => go_next (go_nx ?_)))
      · rw [Bool.false_or, Bool.or_eq_true, Bool.or_eq_true, Bool.or_eq_true, Bool.and_eq_true] at hc
        by_cases h0 : k = 0
        · subst h0
          have : x = w := (Option.some.inj hx).symm
          subst this
          rcases hc with h | h | h | ⟨_, h⟩
          · exact lineL_full (of_decide_eq_true h)
          · have := of_decide_eq_true h
            omega
          · have := of_decide_eq_true h
            omega
          · refine lineL_none ?_
            unfold placeL
            rw [if_neg]
            intro z
            rw [decide_eq_true z] at h
            cases h
        · obtain ⟨u', vs, e1, e2, e3, e4⟩ := I.at1 h0
          rw [lineL_vals e2 e3, ← e4, hdr, valsL_far]
          rcases hc with h | h | h | ⟨h, _⟩
          · exact absurd (of_decide_eq_true h) (fun z => e3 (.inr z))
          · exact .inl (of_decide_eq_true h)
          · exact .inr (of_decide_eq_true h)
          · exact absurd (of_decide_eq_true h) h0
      · rw [Bool.false_or, Bool.or_eq_false_iff, Bool.or_eq_false_iff, Bool.or_eq_false_iff] at hc
        have d1 := of_decide_eq_false hc.1
        have d2 := of_decide_eq_false hc.2.1
        have d3 := of_decide_eq_false hc.2.2.1
        have d4 := hc.2.2.2
        refine go_seq (go_if (b := decide (k = 0) && (decide (u ∈ D'.map (·.1)) || !withinL u)) (evb_is (evb_and (evb_test (ev_op (ev_dat (d := .int (k : Nat)) rfl) ev_int opv_eqI)) fun _ => evb_or (evb_test (ev_op (ev_dat (d := nuD u) rfl) (ev_own (ds := (D'.map (·.1)).map nuD) rfl) opv_inNu)) fun _ => evb_not (evb_val (ev_call (eva_1 (ev_dat (d := nuD u) rfl)) rfl ⟨u, okU, rfl, rfl⟩))) (by
          congr 1
          exact decide_eq_decide.mpr (by omega))) (fun hc2 => fin _ _ rfl hq ?_) (fun hc2 => go_next (go_nx ?_)))
        · rw [Bool.and_eq_true] at hc2
          have h0 := of_decide_eq_true hc2.1
          subst h0
          have : x = w := (Option.some.inj hx).symm
          subst this
          rw [if_pos rfl] at hnu
          have l58 : x.getLast? = some 58 := by simpa using d4
          have hc3 := hc2.2
          rw [Bool.or_eq_true] at hc3
          by_cases hw : withinL u = true
          · refine lineL_taken (u := u) (by rw [placeL_eq l58 hnu, if_pos hw]) (.inl ?_)
            rcases hc3 with h | h
            · exact of_decide_eq_true h
            · rw [hw] at h
              cases h
          · exact lineL_none (by rw [placeL_eq l58 hnu, if_neg hw])
        · refine go_app (ds := told.map nuD) rfl (ev_dat (d := nuD u) rfl) (lf_nu u) ?_ (by rw [List.length_map, I.len]; omega) fun σ H S => ⟨told ++ [u], ?_, ?_⟩
          · intro j s hj
            rcases j with _ | _ | _ | _ | _ | _ | _ | _ | _ | _ | j
            · rw [← Option.some.inj hj]; trivial
            · rw [← Option.some.inj hj]; trivial
            · rw [← Option.some.inj hj]; trivial
            · rw [← Option.some.inj hj]; trivial
            · rw [← Option.some.inj hj]; trivial
            · rw [← Option.some.inj hj]; trivial
            · rw [← Option.some.inj hj]; exact .int _
            · rw [← Option.some.inj hj]; exact .str _
            · rw [← Option.some.inj hj]; exact lf_nu u
            · rw [← Option.some.inj hj]; trivial
            · cases hj
          · refine S.weak rfl fun j s hj hs => ?_
            rcases j with _ | _ | _ | _ | _ | _ | _ | _ | _ | _ | j
            · exact hj
            · exact hj
            · exact hj
            · exact hj
            · have hj' : some (Sl.own ((told ++ [u]).map nuD)) = some s := hj
              rw [List.map_append] at hj'
              exact hj'
            · exact hj
            all_goals first | exact absurd (Option.some.inj hj).symm hs | cases hj
          · refine ⟨by rw [List.length_append, I.len]; rfl, fun z => by omega, fun _ => ?_, by omega⟩
            by_cases h0 : k = 0
            · subst h0
              have : x = w := (Option.some.inj hx).symm
              subst this
              rw [if_pos rfl] at hnu
              have l58 : x.getLast? = some 58 := by simpa using d4
              have hw : withinL u = true ∧ ¬ u ∈ D'.map (·.1) := by
                rw [decide_eq_true rfl, Bool.true_and, Bool.or_eq_false_iff] at hc2
                exact ⟨by simpa using hc2.2, of_decide_eq_false hc2.1⟩
              refine ⟨u, [], by rw [I.at0 rfl]; rfl, by rw [placeL_eq l58 hnu, if_pos hw.1], fun z => z.elim hw.2 d1, ?_⟩
              show preV [] (valsL (6 - cnt D') 1 ws) = _
              cases valsL (6 - cnt D') 1 ws <;> rfl
            · obtain ⟨u', vs, e1, e2, e3, e4⟩ := I.at1 h0
              rw [if_neg h0] at hnu
              refine ⟨u', vs ++ [u], by rw [e1]; rfl, e2, e3, ?_⟩
              rw [← e4, hdr, valsL_step hnu (by omega)]
  · intro told I
    rw [rangeD_len] at I
    refine go_nx ?_
    obtain ⟨u, vs, e1, e2, e3, e4⟩ := I.at1 (by simp)
    rw [List.drop_length] at e4
    have e4' : valsL (6 - cnt D') 1 ws = .inr vs := by
      rw [← e4]
      show Sum.inr (vs ++ []) = _
      rw [List.append_nil]
    have hlt := I.len
    rw [e1] at hlt
    have hvl : vs.length = ws.length := by simpa using hlt
    rw [lineL_vals e2 e3, e4'] at hq
    have hq : Rt K H0 D (lineR (if vs = [] then .inl 1 else .inr (u, vs))) := hq
    subst e1
    refine go_ret (ev_if (b := decide ((1 : Int) < (((u :: vs).map nuD).length : Nat))) (evb_test (ev_op (ev_cb (eva_1 (ev_own (ds := (u :: vs).map nuD) rfl)) cbv_lenL) ev_int opv_B0)) (fun h => ?_) (fun h => ?_)) hq
    · have hne : vs ≠ [] := fun z => by
        rw [z] at h
        simp at h
      rw [if_neg hne]
      refine ev_tup2 (ev_tup2 (ev_op (ev_own (ds := (u :: vs).map nuD) rfl) ev_int (opv_ixL (i := 0) (d := nuD u) rfl)) (ev_cb (eva_1 (ev_fresh (evf_is (es := vs.map nuD) (evf_slL (ev_own (ds := (u :: vs).map nuD) rfl) (evo_some ev_int) evo_none) (by rw [show cutD ((u :: vs).map nuD) (some 1) none = ((u :: vs).map nuD).drop 1 from cutD_from _ 1]; rfl)))) cbv_tupL)) ev_non
    · have hne : vs = [] := by
        cases vs with
        | nil => rfl
        | cons a r =>
          have := of_decide_eq_false h
          simp at this
          omega
      rw [if_pos hne]
      have : ws = [] := by
        rw [hne] at hvl
        exact List.length_eq_zero_iff.mp hvl.symm
      subst this
      exact ev_tup2 ev_non (ev_cb (eva_1 (ev_arg (d := .list ([w].map sD)) rfl)) cbv_lenL)
def R__law_own : List PyData → PyData → Prop := fun ds d => ∃ x : List Nat, x.length ≤ 50000 ∧ ds = [sD x] ∧ d = ownX x
abbrev sp__law_own (K : PySem.W.Frag) : Sp := spP K 1 R__law_own
theorem G__law_own (T : Txt K mg) : FnOk P w K mg base CX0 5 (He.ga K "_law_own") T.e__law_own ["_law_phrase"] (spP K 1 R__law_own) := by
  refine T.d__law_own.ok (n := 1) (m := 7) sc__law_own rfl rfl fun cdv A outer s H E hr => ⟨_, (pss_cons (ps_par3 (i := 1) (j := 2) (l := 3) rfl sc__law_own.nd rfl rfl rfl (by decide) (by decide) (by decide) rfl rfl rfl (pa_cons (pe_lst pa_nil) (pa_cons pe_int (pa_cons (pe_m1 PySem.F.slot_str_split PySem.F.type_str_split mt_splitD (pv 0) pe_str) pa_nil))) (by rfl))
      (pss_cons (ps_for PassesOwn.never rfl (pi_range1 rfl T.f_range (pa_cons (pe_callB cr_len rfl T.f_len (by decide +kernel) (pa_cons (pv 3) pa_nil)) pa_nil)) (pg_name (i := 4) sc__law_own.nd rfl (.inl rfl))
      (pss_one (ps_if (PW.pt (pw_or (pt_cmpR (op_lt) (pv 4) (pe_op op_sub (pe_callB cr_len rfl T.f_len (by decide +kernel) (pa_cons (pv 3) pa_nil)) pe_int) (nomark _)) (pw_or1 (pt_cmpR (op_ne) (pe_ix ix_list (pv 3) (pv 4) (fun _ _ => rfl)) pe_str (nomark _))))) (pss_cons (ps_set (i := 5) sc__law_own.nd rfl (.inl rfl) (pe_m1 PySem.F.slot_str_split PySem.F.type_str_split mt_splitD (pe_ix ix_list (pv 3) (pv 4) (fun _ _ => rfl)) pe_str))
      (pss_cons (ps_asg (pe_call (G__law_of_line T) (hr.mono (by decide)) rfl T.d__law_of_line.g T.d__law_of_line.f.kp (b__law_of_line T) .nil pass0 (pa_cons (pv 5) (pa_cons (pv 1) (pa_cons (pv 2) (pa_cons (pv 4) pa_nil))))) (pg_tup rfl (pgs_cons (pg_name (i := 6) sc__law_own.nd rfl (.inl rfl)) (pgs_cons (pg_name (i := 7) sc__law_own.nd rfl (.inl rfl)) pgs_nil))))
      (pss_cons (ps_if (PW.pt (pw_and (pt_cmpR (op_isN1) (pv 7) pe_non (nomark _)) (pw_and1 (pt_cmpR (op_eq) (pv 4) (pe_op op_sub (pe_callB cr_len rfl T.f_len (by decide +kernel) (pa_cons (pv 3) pa_nil)) pe_int) (nomark _))))) (pss_one (ps_set (i := 7) sc__law_own.nd rfl (.inl rfl) (pe_callB cr_len rfl T.f_len (by decide +kernel) (pa_cons (pv 5) pa_nil)))) pss_nil)
      (pss_cons (ps_if (pt_cmpR (op_notN1) (pv 7) pe_non (nomark _)) (pss_one (ps_ret (pe_tup (pa_cons pe_str (pa_cons (pe_lst (pa_cons (pv 4) (pa_cons (pv 7) (pa_cons pe_bl (pa_cons pe_bl pa_nil))))) pa_nil))))) pss_nil)
      (pss_cons (ps_expr (pe_bm PySem.F.plainAttrs_list PySem.F.slot_list_append PySem.F.type_list_append mt_append (pv 1) (pa_cons (pv 6) pa_nil)))
      (pss_one (ps_set (i := 2) sc__law_own.nd rfl (.inl rfl) (pe_op op_sub (pv 2) (pe_callB cr_len rfl T.f_len (by decide +kernel) (pa_cons (pe_ix ix_tup (pv 6) pe_int (fun _ _ => rfl)) pa_nil)))))))))) pss_nil)))
      (pss_one (ps_ret (pe_tup (pa_cons pe_str (pa_cons (pe_callTy cr_tupL rfl T.f_tuple (by decide +kernel) (pa_cons (pv 1) pa_nil)) pa_nil))))))),
    fun ds d hlen0 hR H0 D hq hn => ?_⟩
  obtain ⟨x, hx, rfl, rfl⟩ := hR
  refine go_seq (go_par3N (ds := []) (d := .int 6) (evf_lst eva_nil (by simp)) ev_int (evf_spl (c := 10) (by decide) (ev_arg rfl) (ev_lit (x := [10]) (by decide +kernel)) (by omega)) (fun d hd => nomatch hd) (lf_strs _) (go_nx ?_))
  generalize hls : splC 10 x = ls
  have hll : ls.length ≤ 60000 := by
    have := splC_len 10 x
    rw [hls] at this
    omega
  have hlp : ∀ p ∈ ls, p.length ≤ 50000 := fun p hp => by
    have := splC_part 10 x p (by rw [hls]; exact hp)
    omega
  have hrd : dataL [] ls = readL x := by rw [← hls]; rfl
  have hne : 0 < ls.length := by
    rw [← hls]
    exact List.length_pos_iff.mpr (splC_ne 10 x)
  refine go_seq (go_forAS (σt := Da) (ita_range1 (n := ls.length) (ev_is (ev_cb (eva_1 (ev_own (ds := ls.map sD) rfl)) cbv_lenL) (by rw [List.length_map])) (by omega)) (fun k acc => (k < ls.length → dataL acc (ls.drop k) = readL x ∧ acc.length = k) ∧ (k = ls.length → readL x = .inr acc) ∧ DaOk acc) (fun k acc => [.arg (sD x), .own (acc.map paD), .dat (.int ((6 - cnt acc : Nat) : Int)), .own (ls.map sD), .no, .no, .no, .no]) [] [4] ⟨fun _ => ⟨by rw [List.drop_zero]; exact hrd, rfl⟩, fun z => by omega, DaOk.nil⟩ rfl ?_ ?_ ?_)
  · intro j s hj hs
    rcases j with _ | _ | _ | _ | _ | _ | _ | _ | j
    · exact hj
    · exact hj
    · exact hj
    · exact hj
    all_goals first | exact absurd (Option.some.inj hj).symm hs | cases hj
  · rintro k d acc hd ⟨h1, _, h3⟩
    have hk : k < ls.length := by
      have := (List.getElem?_eq_some_iff.mp hd).1
      rw [rangeD_len] at this
      exact this
    have ed : d = .int (k : Nat) := by
      unfold rangeD at hd
      rw [List.getElem?_map, List.getElem?_range hk] at hd
      rw [← Option.some.inj hd]
      show PyData.int (0 + (k : Int)) = _
      rw [Int.zero_add]
    subst ed
    obtain ⟨h1, h2⟩ := h1 hk
    obtain ⟨l, hl⟩ : ∃ l, ls[k]? = some l := ⟨_, List.getElem?_eq_getElem hk⟩
    obtain ⟨hdr, _, hlm⟩ := drop_at hl
    rw [hdr] at h1
    have acl := h3.len
    have hll1 := hlp l hlm
    have hwl : (splC 32 l).length ≤ 60000 := by
      have := splC_len 32 l
      omega
    have hwp : ∀ p ∈ splC 32 l, p.length ≤ 50000 := fun p hp => by
      have := splC_part 32 l p hp
      omega
    refine ⟨_, tg_name, ?_⟩
    have eln : ∀ Γ, Γ[3]? = some (.own (ls.map sD)) → EvG K (tCB (rLenD K) (tCons (tVar 3) tNil)) Γ (.int (ls.length : Nat)) := fun Γ g => ev_is (ev_cb (eva_1 (ev_own g)) cbv_lenL) (by rw [List.length_map])
    have eli : ∀ Γ, Γ[3]? = some (.own (ls.map sD)) → Γ[4]? = some (.dat (.int (k : Nat))) → EvG K (tOp (rIxL K) (tVar 3) (tVar 4)) Γ (sD l) := fun Γ g g4 => ev_op (ev_own g) (ev_dat g4) (opv_ixL (i := k) (by rw [List.getElem?_map, hl]; rfl))
    refine go_if (b := decide (k < ls.length - 1) || !decide (l = [])) (evb_is (evb_or (evb_test (ev_op (ev_dat (d := .int (k : Nat)) rfl) (ev_op (eln _ rfl) ev_int opv_I0) opv_B0)) fun _ => evb_test (ev_op (eli _ rfl rfl) (ev_lit (x := []) (by decide +kernel)) opv_neS)) (by
      congr 1
      exact decide_eq_decide.mpr (by omega))) (fun hc => ?_) (fun hc => ?_)
    · refine go_seq (go_new (evf_spl (c := 32) (by decide) (eli _ rfl rfl) (ev_lit (x := [32]) (by decide +kernel)) (by omega)) (lf_strs _) (go_nx ?_))
      have call : ∀ Γ, Γ[5]? = some (.own ((splC 32 l).map sD)) → Γ[1]? = some (.own (acc.map paD)) → Γ[2]? = some (.dat (.int ((6 - cnt acc : Nat) : Int))) → Γ[4]? = some (.dat (.int (k : Nat))) → EvG K (tCall (sp__law_of_line K) [] E0 (tCons (tVar 5) (tCons (tVar 1) (tCons (tVar 2) (tCons (tVar 4) tNil))))) Γ (lineR (lineL acc (splC 32 l))) := fun Γ g5 g1 g2 g4 => ev_call (eva_cons (ev_own g5) (eva_cons (ev_own g1) (eva_cons (ev_dat g2) (eva_cons (ev_dat g4) eva_nil)))) rfl ⟨_, acc, splC_ne 32 l, hwl, hwp, h3, by rw [h2], rfl⟩
      have hlast : k = ls.length - 1 → ls.drop (k + 1) = [] := fun z => List.drop_eq_nil_of_le (by omega)
      have hll0 : k = ls.length - 1 → l ≠ [] := fun z y => by
        rw [decide_eq_false (show ¬ k < ls.length - 1 by omega), decide_eq_true y] at hc
        cases hc
      have wrong : ∀ Γ (j : Nat), Γ[4]? = some (.dat (.int (k : Nat))) → Γ[7]? = some (.dat (.int (j : Nat))) → readL x = .inl (k, j) → Go K H0 (tRet (tTup (tCons (tC (.str "wrong")) (tCons (tLst (tCons (tVar 4) (tCons (tVar 7) (tCons (tC (.bl true)) (tCons (tC (.bl true)) tNil))))) tNil)))) Γ { D with nx := fun σ H => ∃ st', StD K H0 H σ [.arg (sD x), .own (st'.map paD), .dat (.int ((6 - cnt st' : Nat) : Int)), .own (ls.map sD), .no, .no, .no, .no] ∧ ((k + 1 < ls.length → dataL st' (ls.drop (k + 1)) = readL x ∧ st'.length = k + 1) ∧ (k + 1 = ls.length → readL x = .inr st') ∧ DaOk st'), ct := fun σ H => ∃ st', StD K H0 H σ [.arg (sD x), .own (st'.map paD), .dat (.int ((6 - cnt st' : Nat) : Int)), .own (ls.map sD), .no, .no, .no, .no] ∧ ((k + 1 < ls.length → dataL st' (ls.drop (k + 1)) = readL x ∧ st'.length = k + 1) ∧ (k + 1 = ls.length → readL x = .inr st') ∧ DaOk st'), bk := D.nx } := fun Γ j g4 g7 e => go_ret (ev_tup2 (ev_lit (x := [119, 114, 111, 110, 103]) (by decide +kernel)) (ev_fresh (evf_lst (eva_cons (ev_dat g4) (eva_cons (ev_dat g7) (eva_cons ev_bl (eva_cons ev_bl eva_nil)))) (by simp)))) (rt_is (show Rt K H0 D (ownX x) from hq) (by
        unfold ownX
        rw [e]))
      cases hlr : lineL acc (splC 32 l) with
      | inl j =>
        refine go_seq (go_asg (ev_is (call _ rfl rfl rfl rfl) (by rw [hlr]; rfl)) (tg_pair tg_name tg_name) (go_nx ?_))
        refine go_seq (go_ifF (evb_andF1 (evb_test (ev_op (ev_dat (d := .int (j : Nat)) rfl) ev_non opv_isN))) (go_next (go_nx ?_)))
        refine go_seq (go_ifT (evb_test (ev_op (ev_dat (d := .int (j : Nat)) rfl) ev_non opv_notN)) (wrong _ j rfl rfl ?_))
        rw [← h1]
        by_cases hr : ls.drop (k + 1) = []
        · rw [hr, dataL_one (hll0 (by
            have := List.drop_eq_nil_iff.mp hr
            omega)), hlr, h2]
        · rw [dataL_more hr, hlr, h2]
      | inr p =>
        refine go_seq (go_asg (ev_is (call _ rfl rfl rfl rfl) (by rw [hlr]; rfl)) (tg_pair tg_name tg_name) (go_nx ?_))
        by_cases hla : k = ls.length - 1
        · refine go_seq (go_ifT (evb_andT (evb_test (ev_op (ev_dat (d := .none) rfl) ev_non opv_isN)) (evb_is (evb_test (ev_op (ev_dat (d := .int (k : Nat)) rfl) (ev_op (eln _ rfl) ev_int opv_I0) opv_eqI)) (decide_eq_true (by omega)))) (go_set (d := .int ((splC 32 l).length : Nat)) (ev_is (ev_cb (eva_1 (ev_own (ds := (splC 32 l).map sD) rfl)) cbv_lenL) (by rw [List.length_map])) (go_nx ?_)))
          refine go_seq (go_ifT (evb_test (ev_op (ev_dat (d := .int ((splC 32 l).length : Nat)) rfl) ev_non opv_notN)) (wrong _ _ rfl rfl ?_))
          rw [← h1, hlast hla, dataL_one (hll0 hla), hlr, h2]
        · refine go_seq (go_ifF (evb_andT (evb_test (ev_op (ev_dat (d := .none) rfl) ev_non opv_isN)) (evb_is (evb_test (ev_op (ev_dat (d := .int (k : Nat)) rfl) (ev_op (eln _ rfl) ev_int opv_I0) opv_eqI)) (decide_eq_false (by omega)))) (go_next (go_nx ?_)))
          refine go_seq (go_ifF (evb_test (ev_op (ev_dat (d := .none) rfl) ev_non opv_notN)) (go_next (go_nx ?_)))
          refine go_seq (go_app (ds := acc.map paD) rfl (ev_dat (d := paD p) rfl) (lf_pa p) ?_ (by rw [List.length_map]; omega) (go_nx ?_))
          · intro j s hj
            rcases j with _ | _ | _ | _ | _ | _ | _ | _ | j
            · rw [← Option.some.inj hj]; trivial
            · rw [← Option.some.inj hj]; trivial
            · rw [← Option.some.inj hj]; exact .int _
            · rw [← Option.some.inj hj]; trivial
            · rw [← Option.some.inj hj]; exact .int _
            · rw [← Option.some.inj hj]; trivial
            · rw [← Option.some.inj hj]; exact lf_pa p
            · rw [← Option.some.inj hj]; exact .non
            · cases hj
          have ok2 := (lineL_ok hlr h3).2
          have cn2 := ok2.cnt
          rw [cnt_snoc] at cn2
          refine go_set (d := .int ((6 - cnt (acc ++ [p]) : Nat) : Int)) (ev_is (ev_op (ev_dat (d := .int ((6 - cnt acc : Nat) : Int)) rfl) (ev_cb (eva_1 (ev_op (ev_dat (d := paD p) rfl) ev_int (opv_ixT (i := 1) (d := vsD p.2) rfl))) cbv_lenT) opv_I0) (by
            rw [List.length_map, cnt_snoc]
            congr 1
            omega)) fun σ H S => ⟨acc ++ [p], S.weak rfl fun j s hj hs => ?_, fun _ => ⟨?_, ?_⟩, fun z => ?_, ok2⟩
          · rcases j with _ | _ | _ | _ | _ | _ | _ | _ | j
            · exact hj
            · have hj' : some (Sl.own ((acc ++ [p]).map paD)) = some s := hj
              rw [List.map_append] at hj'
              exact hj'
            · exact hj
            · exact hj
            all_goals first | exact absurd (Option.some.inj hj).symm hs | cases hj
          · have hr : ls.drop (k + 1) ≠ [] := fun z => by
              have := List.drop_eq_nil_iff.mp z
              omega
            rw [dataL_more hr, hlr] at h1
            exact h1
          · rw [List.length_append, h2]
            rfl
          · omega
    · rw [Bool.or_eq_false_iff] at hc
      have c1 := of_decide_eq_false hc.1
      have c2 : l = [] := by simpa using hc.2
      have hr : ls.drop (k + 1) = [] := List.drop_eq_nil_of_le (by omega)
      rw [hr, c2] at h1
      refine go_next fun σ H S => ⟨acc, S.weak rfl fun j s hj hs => ?_, fun z => by omega, fun _ => h1.symm, h3⟩
      rcases j with _ | _ | _ | _ | _ | _ | _ | _ | j
      · exact hj
      · exact hj
      · exact hj
      · exact hj
      all_goals first | exact absurd (Option.some.inj hj).symm hs | cases hj
  · rintro acc ⟨_, h2, h3⟩
    rw [rangeD_len] at h2
    have e := h2 rfl
    refine go_nx (go_ret (ev_tup2 (ev_lit (x := [114, 101, 97, 100]) (by decide +kernel)) (ev_cb (eva_1 (ev_own (ds := acc.map paD) rfl)) cbv_tupL)) (rt_is hq ?_))
    unfold ownX
    rw [e]
    rfl
end
end K82

/-! part En -/
set_option Elab.async false
set_option linter.all false
set_option maxRecDepth 100000
set_option maxHeartbeats 4000000
set_option autoImplicit false
/-! enumerate over a tuple -/
namespace K82
open PySem PySem.Spec PyProof.Rows L2
def tupIt (t : Addr) : Obj := { cls := .type "tuple_iterator", data := .fields #[.ref t, .int 0 0] }
def enumO (it : Addr) : Obj := { cls := .type "enumerate", data := .fields #[.none, .bool false, .ref it, rawInt 0, .none, .none] }
theorem enum_new1 {v : Value} {o : Obj} {H : Heap → Prop} (B : Begins v o H) : Meets (Builtin.«enumerate.__new__» ⟨[.type "enumerate", v], []⟩) (fun _ R s => H s.heap ∧ R (.ok (.ret (.ref (s.heap.push o).objs.size))) { s with heap := (s.heap.push o).push (enumO s.heap.objs.size) }) :=
  .of_wp fun pr wo Ar R sh both => by
    obtain ⟨hp, gl, dd, tk, os⟩ := sh
    obtain ⟨hB, hR⟩ := both
    have sub := sub_enumerate
    have go : ∀ {A' : Around} {E Q : Value → Shared → Prop}, Q (.ref hp.objs.size) ⟨hp.push o, gl, dd, tk, os⟩ → wpAny (model pr wo) A' (pyIter v) Q E ⟨hp, gl, dd, tk, os⟩ := fun q => B.iter _ _ _ _ ⟨hp, gl, dd, tk, os⟩ _ hB q
    wp_walk using go
    refine wpAny_stack_any fun _ => wpAny_pure ?_
    split
    · rename_i c _ _ _ _ _
      cases (c == Value.type "enumerate") <;> (wp_walk using go; exact ⟨_, rfl, hR⟩)
    · wp_walk using go
      exact ⟨_, rfl, hR⟩
section
variable {prog : Program} {w : World} {A : Around} {E : Value → Shared → Prop} {s : Shared}
theorem enum_call1 {v : Value} {o : Obj} {H : Heap → Prop} {Q : Value → Shared → Prop} (B : Begins v o H) (hB : H s.heap)
    (q : Q (.ref (s.heap.push o).objs.size) { s with heap := (s.heap.push o).push (enumO s.heap.objs.size) }) : wpAny (model prog w) A (call (.type "enumerate") [v]) Q E s := by
  refine callType_new F.called_enumerate (by decide) (F.typeCall_enumerate_1 _) (F.newCall_enumerate_1 _) (fun ob => F.args_object_init_2 ob _) F.entry_enumerate_new (enum_new1 B) ⟨hB, ?_⟩
  exact ⟨⟨_, Heap.get?_push_size (s.heap.push o) rfl, rfl⟩, q⟩
end
/-- the tuple at a, each item in a new pair -/
def IteT (K : PySem.W.Frag) (a : Addr) : It where
  go := fun i H => ∃ (xs : List V) (x : V), SqT K H a xs ∧ xs[i]? = some x
  yld := fun i H v H' => ∃ T x, v = .ref T ∧ H T = none ∧ H' = upd H T (.tup [.int (i : Nat), x]) ∧ ∀ xs, SqT K H a xs → xs[i]? = some x
  stop := fun i H => ∃ xs : List V, SqT K H a xs ∧ xs.length ≤ i
theorem turn_enumT {P : Program} {w : World} {K : PySem.W.Frag} {elts : List Expr} {kk : Nat} {tpos : Pos} (a e it : Addr) :
    Turn P w K (.Tuple elts kk tpos) (IteT K a) [e, it] e (fun i h => (∃ old, IsEnum h e it ((i : Nat) : Int) old) ∧ h.IsTupleIter it a i ∧ e ≠ it) := by
  have two : ∀ {b : Addr}, b ∈ [e, it] → b = e ∨ b = it := fun h => by simpa using h
  refine ⟨by simp, ?_, ?_, ?_, ?_, ?_⟩
  · rintro i h ⟨⟨old, he⟩, hi, _⟩ b hb
    rcases two hb with rfl | rfl
    · exact ⟨_, he, fun v z => by cases z⟩
    · obtain ⟨o, ho, _, hd⟩ := hi
      exact ⟨o, ho, fun v z => by rw [hd] at z; cases z⟩
  · rintro i h h' ⟨⟨old, he⟩, hi, ne⟩ k
    exact ⟨⟨old, k e (by simp) _ he⟩, hi.at fun o z => k it (by simp) o z, ne⟩
  · rintro X rfl rfl rfl hc i pins s σ H E I hf ⟨⟨old, he⟩, hit, hne⟩ ⟨xs, x, hq, hx⟩
    obtain ⟨its, rv, tp, _⟩ := I.tuple hq
    obtain ⟨u, hu, ru⟩ := rv.get hx
    have tp' : s.heap.IsTuple a its.toArray := tp
    have ait : a ≠ it := fun z => by
      obtain ⟨o, ho, hcl, _⟩ := tp'
      obtain ⟨o2, ho2, hcl2, _⟩ := hit
      rw [z, ho2] at ho
      cases ho
      rw [hcl2] at hcl
      exact absurd hcl (by decide)
    have lte : e < s.heap.objs.size := Heap.lt_size he
    have lti : it < s.heap.objs.size := by
      obtain ⟨_, z, _⟩ := id hit
      exact Heap.lt_size z
    have sz : i < its.toArray.size := by
      have := (List.getElem?_eq_some_iff.mp hu).1
      simpa using this
    have an : a ∉ [e] := fun z => by
      have ze : a = e := by simpa using z
      obtain ⟨o, ho, hcl, _⟩ := tp'
      rw [ze, he] at ho
      cases ho
      exact absurd (show Value.type "enumerate" = Value.type "tuple" from hcl) (by decide)
    have Dr := Draws.tuple (prog := X.prog) (w := X.w) (A := X.A.in1) (I.ok.hd hc) it a ait its.toArray
    refine wpAny_pyNext_enum_itemD Dr he ⟨hit, tp'⟩ sz hne (fun z => by
      rcases List.mem_cons.mp z with z | z
      · exact hne z
      · exact an (by rw [List.mem_singleton.mp z]; simp)) fun y h1 tk hy ho st hT hsz hk => ?_
    have ey : y = u := by
      have hy' : its.toArray[i]? = some y := hy
      rw [List.getElem?_toArray, hu] at hy'
      exact (Option.some.inj hy').symm
    subst ey
    refine ⟨_, rfl, wpAny_letOwnedTupleGo_enum (s := { s with heap := h1, toks := tk + 1 }) ho fun h2 he2 sb => ?_⟩
    have fresh : H s.heap.objs.size = none := I.hok.fresh (Nat.le_refl _)
    have hT2 : h2.get? s.heap.objs.size = some { cls := .type "tuple", data := .seq #[.int i tk, y] } := (sb.2 _ (Nat.ne_of_gt lte)).trans hT
    have nw : ObjOk X.prog X.w (upd H s.heap.objs.size (.tup [.int (i : Nat), x])) h2 s.heap.objs.size (.tup [.int (i : Nat), x]) := by
      refine ⟨?_, [.int i tk, y], .cons ⟨_, rfl⟩ (.cons ru .nil), ⟨_, hT2, rfl, _, rfl⟩⟩
      show 2 ≤ sizeLine
      decide
    have I2 := I.turnedNew (t' := tk + 1) (ch := [e, it]) (h' := h2) (fun b ob hb z => (sb.2 b (fun y => hb (by simp [y]))).trans (hk b ob (fun y => hb (by simp [y])) (fun y => hb (by simp [y])) z)) hf (Nat.le_refl _) nw
    refine ⟨.ref s.heap.objs.size, _, I2, rfl, ⟨_, x, rfl, fresh, rfl, fun ys hys => ?_⟩, ⟨⟨y, ?_⟩, ?_, hne⟩, fun b hb => ?_⟩
    · rw [I.tuple_inj hys hq]
      exact hx
    · have e1 : ((i + 1 : Nat) : Int) = (i : Int) + 1 := by omega
      rw [e1]
      exact he2
    · exact st.1.at fun o z => (sb.2 it (Ne.symm hne)).trans z
    · have lb : b < s.heap.objs.size := by
        rcases two hb with z | z
        · rw [z]; exact lte
        · rw [z]; exact lti
      rw [upd_ne (Nat.ne_of_lt lb)]
      exact (hf b hb).1
  · rintro X rfl rfl rfl hc i pins s σ H E I hf ⟨⟨old, he⟩, hit, hne⟩ ⟨xs, hq, hx⟩
    obtain ⟨its, rv, tp, _⟩ := I.tuple hq
    have tp' : s.heap.IsTuple a its.toArray := tp
    have ait : a ≠ it := fun z => by
      obtain ⟨o, ho, hcl, _⟩ := tp'
      obtain ⟨o2, ho2, hcl2, _⟩ := hit
      rw [z, ho2] at ho
      cases ho
      rw [hcl2] at hcl
      exact absurd hcl (by decide)
    obtain ⟨f0, f1, f2, f3, f4, f5⟩ := hf it (by simp)
    have ln := rv.length
    unfold pyNext
    have none_ : its.toArray[i]? = none := by
      rw [List.getElem?_toArray]
      exact List.getElem?_eq_none (by omega)
    refine wpAny_bind (wpAny_attempt (wpAny_callSpecial?_slot (name := Str.ofString "__next__") (show s.TypeIs (.ref e) "enumerate" from ⟨_, he, rfl⟩) F.slot_enumerate_next (wpAny_call_entry F.slot_enumerate_next (show s.TypeIs (.ref e) "enumerate" from ⟨_, he, rfl⟩) F.entry_enumerate_next ?_ (F.args_enumerate_next_1 _))))
    show wpAny _ _ (field (.ref e) 2 >>= _) _ _ _
    refine wpAny_bind (wpAny_field he rfl (x := .ref it) rfl ?_)
    refine wpAny_bind (wpAny_nextOf_tuple_end (I.ok.hd hc) hit tp' none_ fun h' x he' hx' => ?_)
    obtain ⟨ob, hob, hcl⟩ := hx'
    refine wpAny_bind (wpAny_isInstance (T := "StopIteration") (b := true) ⟨ob, hob, hcl⟩ isSubtype_stop ?_)
    exact wpAny_pure ⟨rfl, I.turned (t' := s.toks) (fun b o hb z => he' b o hb z) f0 f1 f3 f4 f5⟩
  · rintro Ar i s Q E ⟨⟨_, he⟩, _⟩ q
    exact wpAny_pyIter_enum he q
def iEnumT (K : PySem.W.Frag) (ta : TA) : TI := fun σ H R => ta σ H fun vs H1 => ∃ a xs, vs = [.ref a] ∧ SqT K H1 a xs ∧ R (IteT K a) H1
theorem pi_enumT {X : Cx} {e : Expr} {ta : TA} {p pos tpos : Pos} {elts : List Expr} {kk : Nat} (hg : Gl X "enumerate") (hm : X.mg "enumerate" = none) (ha : PA X [e] ta) (hs : starEach [e] X.env = [(false, eval e X.env)] := by rfl) :
    PI X (.Tuple elts kk tpos) (.Call (.Name "enumerate" p) [e] [] pos) (iEnumT X.K ta) := by
  refine ⟨fun pins s σ H R I h => ?_⟩
  refine Call_ (ld_blt I hg hm boot_enumerate (PyProof.Rows.callWith_type1 (thn (ha.run pos pins s σ H _ I h) fun us s1 ⟨vs, H1, I1, r1, q1⟩ => ?_) hs rfl))
  obtain ⟨a, xs, rfl, hq, q⟩ := q1
  obtain ⟨u, rfl, ru⟩ := vals1 r1
  cases ru
  obtain ⟨its, rv, tp, _⟩ := I1.tuple hq
  have tp' : s1.heap.IsTuple a its.toArray := tp
  have sz1 : (s1.heap.push (tupIt a)).objs.size = s1.heap.objs.size + 1 := Heap.size_push ..
  refine enum_call1 (begins_tuple a its.toArray) tp' ?_
  have he : IsEnum ((s1.heap.push (tupIt a)).push (enumO s1.heap.objs.size)) (s1.heap.push (tupIt a)).objs.size s1.heap.objs.size 0 .none := Heap.get?_push_size (s1.heap.push (tupIt a)) rfl
  refine wpAny_pyIter_enum he ?_
  have I2 : Inv X pins σ H1 { s1 with heap := (s1.heap.push (tupIt a)).push (enumO s1.heap.objs.size) } := I1.kept (t' := s1.toks) fun b o z => Heap.get?_push_of_some _ (Heap.get?_push_of_some _ z)
  refine ⟨(s1.heap.push (tupIt a)).objs.size, [(s1.heap.push (tupIt a)).objs.size, s1.heap.objs.size], _, _, H1, rfl, I2, turn_enumT a _ _, ⟨⟨.none, he⟩, ⟨_, Heap.get?_push_of_some _ (Heap.get?_push_size _ rfl), rfl, rfl⟩, by rw [sz1]; exact Nat.succ_ne_self _⟩, fun b hb => ?_, q⟩
  have le : s1.heap.objs.size ≤ b := by
    have z : b = (s1.heap.push (tupIt a)).objs.size ∨ b = s1.heap.objs.size := by simpa using hb
    rw [sz1] at z
    rcases z with z | z
    · rw [z]; exact Nat.le_succ _
    · rw [z]; exact Nat.le_refl _
  exact I1.fpOk le (I1.hok.fresh le)
section
variable {K : PySem.W.Frag} {Γ : Ga} {tl : TE} {ds : List PyData}
theorem itd_enumT (h : EvG K tl Γ (.tuple ds)) : ItD K (iEnumT K (tCons tl tNil)) Γ (enumD 0 ds) := fun H0 σ H S R q => h H0 σ H S _ fun v H2 sm hv => by
  obtain ⟨a, xs, rfl, hs, ha⟩ := hv.tupI
  refine ⟨a, xs, rfl, hs, q _ H2 sm fun i H' sm2 => ⟨fun hl => ⟨xs, Same.sqt sm2 hs, by rw [DpAll.length ha]; rw [enumD_len] at hl; exact hl⟩, fun d hd => ?_⟩⟩
  rw [enumD_get, Nat.zero_add] at hd
  cases hq : ds[i]? with
  | none => rw [hq] at hd; cases hd
  | some d' =>
    rw [hq] at hd
    have e := Option.some.inj hd
    subst e
    obtain ⟨v, hv, dv⟩ := DpAll.get ha hq
    exact ⟨⟨xs, v, Same.sqt sm2 hs, hv⟩, fun x H'' y => by
      obtain ⟨T, x', rfl, nT, rfl, y⟩ := y
      have e2 : x' = v := Option.some.inj ((y xs (Same.sqt sm2 hs)).symm.trans hv)
      subst e2
      exact ⟨Same.new nT, .tup (SqT.of upd_same) (.cons (.int _) (.cons (Dp.same (sm2.trans (Same.new nT)) dv) .nil))⟩⟩
end
end K82

/-! part G -/
set_option Elab.async false
set_option linter.all false
set_option maxRecDepth 100000
set_option maxHeartbeats 4000000
set_option autoImplicit false
set_option exponentiation.threshold 9000
/-! data written back -/
namespace K82
open PySem PySem.Spec PyProof.Rows L2
open SX (S S_len S_cat S_inj num_S lens join_S split_S)
section
variable {P : Program} {w : World} {K : PySem.W.Frag} {mg : Str → Option Value} {base : Heap}

theorem go_drop {K : PySem.W.Frag} {Γ : Ga} {te : TE} {d : PyData} {D : Ends} {H0 : Hp} (h : EvG K te Γ d) (q : Nx K H0 D Γ) : Go K H0 (tDrop te) Γ D := fun σ H S => h H0 σ H S _ fun v H2 sm _ => q σ H2 (S.same sm)
theorem cnt_take (D : Da) (n : Nat) : cnt (D.take n) ≤ cnt D := by
  induction D generalizing n with
  | nil => simp
  | cons p r ih =>
    cases n with
    | zero => exact Nat.zero_le _
    | succ n =>
      have := ih n
      unfold cnt at this ⊢
      rw [List.take_succ_cons, List.map_cons, List.map_cons, List.sum_cons, List.sum_cons]
      omega
theorem nodup_at {D : Da} {i : Nat} {p : Pa} (h : (D.map (·.1)).Nodup) (hp : D[i]? = some p) : ¬ p.1 ∈ (D.take i).map (·.1) := by
  induction D generalizing i with
  | nil => simp at hp
  | cons q r ih =>
    rw [List.map_cons, List.nodup_cons] at h
    cases i with
    | zero => simp
    | succ i =>
      have hp' : r[i]? = some p := hp
      rw [List.take_succ_cons, List.map_cons]
      intro z
      rcases List.mem_cons.mp z with z | z
      · exact h.1 (z ▸ List.mem_map.mpr ⟨p, List.mem_of_getElem? hp', rfl⟩)
      · exact ih h.2 hp' z
def R_wrong_in_data : List PyData → List PyData → Prop := fun ds d => ∃ D : Da, DaOk D ∧ ds = [daD D] ∧ d = []
abbrev sp_wrong_in_data (K : PySem.W.Frag) : Sp := spL K 1 R_wrong_in_data
theorem G_wrong_in_data (T : Txt K mg) : FnOk P w K mg base CX0 6 (He.ga K "wrong_in_data") T.e_wrong_in_data ["value"] (spL K 1 R_wrong_in_data) := by
  refine T.d_wrong_in_data.okL (n := 1) (m := 2) sc_wrong_in_data rfl rfl fun cdv A outer s H E hr => ⟨_, (pss_cons (ps_if (PW.pt (pw_or (pt_not (pt_val (pe_callB call_isi rfl T.f_isinstance (by decide +kernel) (pa_cons (pv 0) (pa_cons (pe_bltn (v := .ty "tuple") rfl T.f_tuple (by decide +kernel) rfl) pa_nil))))) (pw_or1 (pt_cmpR (op_gt) (pe_callB cr_len rfl T.f_len (by decide +kernel) (pa_cons (pv 0) pa_nil)) (pe_glob (v := .int 6) rfl T.c_MOST_PLACES.choose_spec ⟨_, rfl⟩) (nomark _))))) (pss_one (ps_ret (pe_lst (pa_cons pe_non pa_nil)))) pss_nil)
      (pss_cons (ps_for PassesOwn.never rfl (pi_enumT rfl T.f_enumerate (pa_cons (pv 0) pa_nil)) (pg_tup rfl (pgs_cons (pg_name (i := 1) sc_wrong_in_data.nd rfl (.inl rfl)) (pgs_cons (pg_name (i := 2) sc_wrong_in_data.nd rfl (.inl rfl)) pgs_nil)))
      (pss_one (ps_if (PW.pt (pw_or (pt_not (pt_val (pe_call (G_is_pair T) (hr.mono (by decide)) rfl T.d_is_pair.g T.d_is_pair.f.kp (b_is_pair T) .nil pass0 (pa_cons (pv 2) pa_nil)))) (pw_or (pt_cmpR ((op_inD (u65 hr))) (pe_ix ix_tup (pv 2) pe_int (fun _ _ => rfl)) (pe_call (G_places_of T) (hr.mono (by decide)) rfl T.d_places_of.g T.d_places_of.f.kp (b_places_of T) .nil pass0 (pa_cons (pe_slice sl_tupA (pv 0) po_none (po_some (pv 1))) pa_nil)) (by rfl)) (pw_or1 (pt_cmpR (op_gt) (pe_call (G_count_values T) (hr.mono (by decide)) rfl T.d_count_values.g T.d_count_values.f.kp (b_count_values T) .nil pass0 (pa_cons (pe_slice sl_tupA (pv 0) po_none (po_some (pe_op op_add (pv 1) pe_int))) pa_nil)) (pe_glob (v := .int 6) rfl T.c_MOST_VALUES.choose_spec ⟨_, rfl⟩) (nomark _)))))) (pss_one (ps_ret (pe_lst (pa_cons (pv 1) pa_nil)))) pss_nil)))
      (pss_one (ps_ret (pe_lst pa_nil))))),
    fun ds d hlen0 hR H0 D hq => ?_⟩
  obtain ⟨D', ok, rfl, rfl⟩ := hR
  have dl := ok.len
  refine go_seq (go_ifF (evb_is (evb_or (evb_not (evb_val (ev_isi (b := true) (ev_arg rfl) (fun _ _ h => ty_tup h) (by decide +kernel)))) fun _ => (evb_test (ev_op (ev_cb (eva_cons (ev_arg rfl) eva_nil) cbv_lenT) ev_int opv_B0))) (by
    rw [List.length_map]
    show (false || decide ((6 : Int) < ((D'.length : Nat) : Int))) = false
    rw [decide_eq_false (by omega)]
    rfl)) (go_next (go_nx ?_)))
  refine go_seq (go_forS (σt := Unit) (itd_enumT (ev_arg (d := daD D') rfl)) (fun _ _ => True) (fun _ _ => [.dat (daD D'), .no, .no]) () [1, 2] trivial rfl ?_ ?_ ?_)
  · intro j s hj hs
    rcases j with _ | _ | _ | j
    · exact hj
    all_goals first | exact absurd (Option.some.inj hj).symm hs | cases hj
  · rintro H1 e01 i d _ hd _
    rw [enumD_get, Nat.zero_add, List.getElem?_map] at hd
    obtain ⟨p, hp⟩ : ∃ p, D'[i]? = some p := by
      cases q : D'[i]? with
      | none => rw [q] at hd; cases hd
      | some p => exact ⟨p, rfl⟩
    rw [hp] at hd
    have ed : d = .tuple [.int (i : Nat), paD p] := (Option.some.inj hd).symm
    subst ed
    have hm : p ∈ D' := List.mem_of_getElem? hp
    refine ⟨_, tg_tup2, ?_⟩
    have tk : ∀ n : Nat, PyData.tuple (cutD (D'.map paD) none (some (n : Int))) = daD (D'.take n) := fun n => by
      rw [cutD_to, ← List.map_take]
      rfl
    have c1 := cnt_take D' (i + 1)
    have c2 := ok.cnt
    refine go_ifF (evb_is (evb_or (evb_not (evb_val (ev_call (eva_1 (ev_dat (d := paD p) rfl)) rfl ⟨p, ok.ps p hm, rfl, rfl⟩))) fun _ => evb_or (evb_test (ev_op (ev_op (ev_dat (d := paD p) rfl) ev_int (opv_ixT (i := 0) (d := nuD p.1) rfl)) (ev_fresh (evf_call (eva_1 (ev_is (ev_slT (ev_dat (d := daD D') rfl) evo_none (evo_some (ev_dat (d := .int (i : Nat)) rfl))) (tk i))) rfl ⟨D'.take i, by rw [List.length_take]; omega, rfl, rfl⟩)) opv_inNu)) fun _ => evb_test (ev_op (ev_call (eva_1 (ev_is (ev_slT (ev_dat (d := daD D') rfl) evo_none (evo_some (ev_op (ev_dat (d := .int (i : Nat)) rfl) ev_int opv_I0))) (tk (i + 1)))) rfl ⟨D'.take (i + 1), by rw [List.length_take]; omega, rfl, rfl⟩) ev_int opv_B0)) (by
      rw [decide_eq_false (nodup_at ok.nd hp), decide_eq_false (by omega)]
      rfl)) (go_next fun σ H S => ⟨(), S.weak rfl fun j s hj hs => ?_, trivial⟩)
    rcases j with _ | _ | _ | j
    · exact hj
    all_goals first | exact absurd (Option.some.inj hj).symm hs | cases hj
  · rintro _ _
    refine ⟨go_nx (go_retF (evf_lst eva_nil (by simp)) hq), fun j d hj => ?_⟩
    rcases j with _ | _ | _ | j <;> cases hj
def R_check_data : List PyData → PyData → Prop := fun ds d => ∃ D : Da, DaOk D ∧ ds = [daD D] ∧ d = .none
abbrev sp_check_data (K : PySem.W.Frag) : Sp := spP K 1 R_check_data
theorem G_check_data (T : Txt K mg) : FnOk P w K mg base CX0 7 (He.ga K "check_data") T.e_check_data ["value"] (spP K 1 R_check_data) := by
  refine T.d_check_data.ok (n := 1) (m := 1) sc_check_data rfl rfl fun cdv A outer s H E hr => ⟨_, (pss_one (ps_for PassesOwn.never rfl (pi_list (pe_call (G_wrong_in_data T) (hr.mono (by decide)) rfl T.d_wrong_in_data.g T.d_wrong_in_data.f.kp (b_wrong_in_data T) .nil pass0 (pa_cons (pv 0) pa_nil))) (pg_name (i := 1) sc_check_data.nd rfl (.inl rfl))
      (pss_one ps_never))),
    fun ds d hlen0 hR H0 D hq hn => ?_⟩
  obtain ⟨D', ok, rfl, rfl⟩ := hR
  refine go_forS (σt := Unit) (ds := []) (itd_list (ev_fresh (evf_call (eva_1 (ev_arg (d := daD D') rfl)) rfl ⟨D', ok, rfl, rfl⟩))) (fun _ _ => True) (fun _ _ => [.no, .no]) () [1] trivial rfl ?_ (fun H1 e01 i d _ hd _ => by simp at hd) ?_
  · intro j s hj hs
    rcases j with _ | _ | j
    all_goals first | exact absurd (Option.some.inj hj).symm hs | cases hj
  · rintro _ _
    refine ⟨fun σ H S => hn rfl σ H S.sm, fun j d hj => ?_⟩
    rcases j with _ | _ | j <;> cases hj
def R_data_text : List PyData → PyData → Prop := fun ds d => ∃ D : Da, DaOk D ∧ ds = [daD D] ∧ d = sD (daT D)
abbrev sp_data_text (K : PySem.W.Frag) : Sp := spP K 1 R_data_text
theorem G_data_text (T : Txt K mg) : FnOk P w K mg base CX0 8 (He.ga K "data_text") T.e_data_text ["data"] (spP K 1 R_data_text) := by
  refine T.d_data_text.ok (n := 1) (m := 0) sc_data_text rfl rfl fun cdv A outer s H E hr => ⟨_, (pss_cons (ps_expr (pe_call (G_check_data T) (hr.mono (by decide)) rfl T.d_check_data.g T.d_check_data.f.kp (b_check_data T) .nil pass0 (pa_cons (pv 0) pa_nil)))
      (pss_one (ps_ret (pe_call (G_data_written T) (hr.mono (by decide)) rfl T.d_data_written.g T.d_data_written.f.kp (b_data_written T) .nil pass0 (pa_cons (pv 0) pa_nil))))),
    fun ds d hlen0 hR H0 D hq hn => ?_⟩
  obtain ⟨D', ok, rfl, rfl⟩ := hR
  refine go_seq (go_drop (ev_call (eva_1 (ev_arg (d := daD D') rfl)) rfl ⟨D', ok, rfl, rfl⟩) (go_nx ?_))
  exact go_ret (ev_call (eva_1 (ev_arg (d := daD D') rfl)) rfl ⟨D', ok, rfl, rfl⟩) hq
end
end K82

/-! part H -/
set_option Elab.async false
set_option linter.all false
set_option maxRecDepth 100000
set_option maxHeartbeats 4000000
set_option autoImplicit false
set_option exponentiation.threshold 9000
/-! the error: raised, caught -/
namespace K82
open PySem PySem.Spec PyProof.Rows L2
open SX (S S_len S_cat S_inj num_S lens join_S split_S)
section
variable {P : Program} {w : World} {K : PySem.W.Frag} {mg : Str → Option Value} {base : Heap}

def R_check_text : List PyData → PyData → Prop := fun ds d => ∃ x : List Nat, ds = [sD x] ∧ d = .none
abbrev sp_check_text (K : PySem.W.Frag) : Sp := spP K 1 R_check_text
theorem G_check_text (T : Txt K mg) : FnOk P w K mg base CX0 2 (He.ga K "check_text") T.e_check_text ["value"] (spP K 1 R_check_text) := by
  refine T.d_check_text.ok (n := 1) (m := 0) sc_check_text rfl rfl fun cdv A outer s H E hr => ⟨_, (pss_one (ps_if (pt_not (pt_val (pe_callB call_isi rfl T.f_isinstance (by decide +kernel) (pa_cons (pv 0) (pa_cons (pe_bltn (v := .ty "str") rfl T.f_str (by decide +kernel) rfl) pa_nil))))) (pss_one ps_never) pss_nil)),
    fun ds d hlen0 hR H0 D hq hn => ?_⟩
  obtain ⟨x, rfl, rfl⟩ := hR
  exact go_ifF (evb_is (evb_not (evb_val (ev_isi (b := true) (ev_arg rfl) (fun _ _ h => ty_str h) (by decide +kernel)))) rfl) (go_next fun σ H S => hn rfl σ H S.sm)
abbrev itA (K : PySem.W.Frag) : Addr := He.ga K "InvalidText"
structure ExF (K : PySem.W.Frag) : Prop where
  o : oexB K (itA K) = true
  sa : PySem.W.findIn K (.ref (itA K)) "__setattr__" = some (some (.builtin "object.__setattr__"))
  sub : PySem.W.subIn K (.ref (itA K)) (.type "BaseException") = some true
  ty : PySem.W.typeIn K (.ref (itA K)) = some (.type "type")
  kp : PySem.W.keepIn K (.ref (itA K)) = true
  ini : PySem.W.findIn K (.ref (itA K)) "__init__" = some (some (.ref (He.ma K (itA K) "__init__")))
  tini : PySem.W.typeIn K (.ref (He.ma K (itA K) "__init__")) = some (.type "function")
  line : PySem.W.findIn K (.ref (itA K)) "line" = some none
  word : PySem.W.findIn K (.ref (itA K)) "word" = some none
  ga : PySem.W.findIn K (.ref (itA K)) "__getattribute__" = some (some (.builtin "BaseException.__getattribute__"))
  gt : PySem.W.findIn K (.ref (itA K)) "__getattr__" = some none
  hd : PySem.W.hasDictIn K (itA K) = true
  exm : PySem.W.exmOne K (.ref (itA K)) (.ref (itA K)) = some true
  k1 : PySem.W.kitOne K (.ref (itA K)) (.ref (He.ga K "RimError")) = some true
  k2 : PySem.W.kitOne K (.ref (itA K)) (.type "ValueError") = some true
  cl : PySem.W.findIn K (.ref (itA K)) "__class__" = some (some (.builtin "object.__class__"))
  gs : PySem.W.specialIn K (.builtin "object.__class__") "__get__" = some (some (.builtin "getset_descriptor.__get__"))
  tk : PySem.W.takesIn K (.builtin "object.__class__") = some true
  mr : PySem.W.mroIn K (itA K) (.type "object") = some true
  ci : (PySem.W.clsIn K (itA K)).isSome = true
theorem exf {K : PySem.W.Frag} (h : exB K = true) : ExF K := by
  unfold exB at h
  simp only [Bool.and_eq_true] at h
  obtain ⟨-, -, h1, h2, h3, h4, h5, h6, h7, h8, h9, h10, h11, h12, h13, h14, h15, h16, h17, h18, h19, h20⟩ := h
  exact ⟨h1, He.eqO_ok h2, of_decide_eq_true h3, of_decide_eq_true h4, h5, He.eqO_ok h6, of_decide_eq_true h7, He.eqO_ok h8, He.eqO_ok h9, He.eqO_ok h10, He.eqO_ok h11, h12, of_decide_eq_true h13, of_decide_eq_true h14, of_decide_eq_true h15, He.eqO_ok h16, He.eqO_ok h17, of_decide_eq_true h18, of_decide_eq_true h19, h20⟩
theorem oex_of {K : PySem.W.Frag} (h : ExF K) : OexC K (itA K) := by
  refine ⟨?_, h.sa, h.sub, h.ty, h.kp⟩
  have o := h.o
  unfold oexB at o
  split at o
  · rename_i od cd sl hl
    split at o
    · rename_i C' bm k0 k1 k2 k3 n k5 hm hs
      simp only [Bool.and_eq_true, decide_eq_true_eq] at o
      obtain ⟨e1, e2, e3, e4, e5⟩ := o
      obtain ⟨nm, bs, mro, ns, qn, hdict, sn, sb, ab, col, del⟩ := cd
      simp only at hm e3 e4
      have e3' : del = false := by simpa using e3
      subst e1 e2 e3' e4 hm
      refine ⟨nm, qn, ns, bs, bm, sn, sb, ab, col, od, k0, k1, k2, k3, k5, ?_, e5⟩
      rw [hl]
      have es : sl = #[k0, k1, k2, k3, some (.builtin "ValueError.__new__"), k5] := by
        refine Array.ext' ?_
        rw [hs]
      rw [es]
    · cases o
  · cases o
theorem sc_init : FnScope ["self", "line", "word"] ["self", "line", "word"] (defScope (inClass (top 21) 0)) := ⟨rfl, rfl, rfl, by decide +kernel, rfl, by decide +kernel, by decide +kernel⟩
theorem b_init (T : Txt K mg) : Binds K T.e_init ["self", "line", "word"] [] := T.d_init.bindsN fun _ _ _ _ _ _ us hl => match us, hl with | [_, _, _], _ => rfl
def sp_init (K : PySem.W.Frag) : Sp := fun vs H Q _ => ∃ (a : Addr) (l w : V), vs = [.ref a, l, w] ∧ H a = some (exo a (itA K) none) ∧ ∀ dx, H dx = none → dx ≠ a → Q .non (upd (upd (upd H dx (exd dx [("line", l)])) a (exo a (itA K) (some dx))) dx (exd dx [("word", w), ("line", l)]))
theorem G_init (T : Txt K mg) : FnOk P w K mg base CX0 1 (He.ma K (itA K) "__init__") T.e_init ["self", "line", "word"] (sp_init K) := by
  have F := exf T.ex
  have O := oex_of F
  refine T.d_init.ok sc_init (fun vs H Q E q => ?_) fun cdv A outer s H vs Q E hr hs => ⟨tSeq (tOst K "line" (tVar 0) (tVar 1)) (tOst K "word" (tVar 0) (tVar 2)), PSs.nox (pss_cons (ps_ost (pv 0) (pv 1)) (pss_one (ps_ost (pv 0) (pv 2)))), ?_⟩
  · obtain ⟨a, l, w, rfl, _⟩ := q
    rfl
  · obtain ⟨a, l, w, rfl, ha, hq⟩ := hs
    refine ⟨l, rfl, .ref a, rfl, a, itA K, rfl, O, F.line, .inl ⟨ha, fun dx hd ne => ?_⟩⟩
    refine ⟨w, rfl, .ref a, rfl, a, itA K, rfl, O, F.word, .inr ⟨dx, [("line", l)], upd_same, ?_, by simp, ?_⟩⟩
    · rw [upd_ne ne, upd_same]
    · exact hq dx hd ne
def R_read_data : List PyData → PyData → Prop := fun ds d => ∃ (x : List Nat) (D : Da), x.length ≤ 50000 ∧ readL x = .inr D ∧ ds = [sD x] ∧ d = daD D
abbrev sp_read_data (K : PySem.W.Frag) : Sp := spP K 1 R_read_data
theorem G_read_data (T : Txt K mg) : FnOk P w K mg base CX0 7 (He.ga K "read_data") T.e_read_data ["text"] (spP K 1 R_read_data) := by
  refine T.d_read_data.ok (n := 1) (m := 2) sc_read_data rfl rfl fun cdv A outer s H E hr => ⟨_, (pss_cons (ps_expr (pe_call (G_check_text T) (hr.mono (by decide)) rfl T.d_check_text.g T.d_check_text.f.kp (b_check_text T) .nil pass0 (pa_cons (pv 0) pa_nil)))
      (pss_cons (ps_asg (pe_call (G_data_in T) (hr.mono (by decide)) rfl T.d_data_in.g T.d_data_in.f.kp (b_data_in T) .nil pass0 (pa_cons (pv 0) pa_nil)) (pg_tup rfl (pgs_cons (pg_name (i := 1) sc_read_data.nd rfl (.inl rfl)) (pgs_cons (pg_name (i := 2) sc_read_data.nd rfl (.inl rfl)) pgs_nil))))
      (pss_cons (ps_if (pt_cmpR (op_notN1) (pv 1) pe_non (nomark _)) (pss_one ps_never) pss_nil)
      (pss_one (ps_ret (pv 2)))))),
    fun ds d hlen0 hR H0 D hq hn => ?_⟩
  obtain ⟨x, D', hx, hr', rfl, rfl⟩ := hR
  refine go_seq (go_drop (ev_call (eva_1 (ev_arg (d := sD x) rfl)) rfl ⟨x, rfl, rfl⟩) (go_nx ?_))
  refine go_seq (go_asg (ev_is (ev_call (eva_1 (ev_arg (d := sD x) rfl)) rfl ⟨x, hx, rfl, rfl⟩) (z := .tuple [.none, daD D']) (by unfold dataX; rw [hr'])) (tg_pair tg_name tg_name) (go_nx ?_))
  exact go_seq (go_ifF (evb_test (ev_op (ev_dat (d := .none) rfl) ev_non opv_notN)) (go_next (go_nx (go_ret (ev_dat (d := daD D') rfl) hq))))
def wrongF (a b : Nat) : List (Str × V) := [("word", .int (b : Nat)), ("line", .int (a : Nat))]
def sp_readX (K : PySem.W.Frag) : Sp := fun vs H Q E => ∃ x : List Nat, vs = [.str (S x)] ∧ x.length ≤ 50000 ∧ (∀ D, readL x = .inr D → ∀ v H', Same H H' → Dp K H' v (daD D) → Q v H') ∧ (∀ a b, readL x = .inl (a, b) → ∀ dd H', Same H H' → H' dd = some (.xd (wrongF a b)) → E (.ref (itA K)) (some dd) H')
theorem GX_read_data (T : Txt K mg) : FnOk P w K mg base (L2.CX P w) 7 (He.ga K "read_data") T.e_read_data ["text"] (sp_readX K) := by
  refine T.d_read_data.f.ok sc_read_data (fun vs H Q E q => ?_) fun cdv A outer s H vs Q E hr hs => ⟨_, (pss_cons (ps_expr (pe_call (G_check_text T) (hr.mono (by decide)) rfl T.d_check_text.g T.d_check_text.f.kp (b_check_text T) .nil pass0 (pa_cons (pv 0) pa_nil)))
      (pss_cons (ps_asg (pe_call (G_data_in T) (hr.mono (by decide)) rfl T.d_data_in.g T.d_data_in.f.kp (b_data_in T) .nil pass0 (pa_cons (pv 0) pa_nil)) (pg_tup rfl (pgs_cons (pg_name (i := 1) sc_read_data.nd rfl (.inl rfl)) (pgs_cons (pg_name (i := 2) sc_read_data.nd rfl (.inl rfl)) pgs_nil))))
      (pss_cons (ps_if (pt_cmpR (op_notN1) (pv 1) pe_non (nomark _)) (pss_one (ps_raise rfl (takes_of rfl rfl rfl rfl) (pmk_oex (oex_of (exf T.ex)) (exf T.ex).ini (exf T.ex).tini (G_init T) (hr.mono (by decide)) (b_init T) .nil pass0 rfl T.c_InvalidText (pa_cons (pe_ix ix_tup (pv 1) pe_int (fun _ _ => rfl)) (pa_cons (pe_ix ix_tup (pv 1) pe_int (fun _ _ => rfl)) pa_nil))))) pss_nil)
      (pss_one (ps_ret (pv 2)))))), ?_⟩
  · obtain ⟨x, rfl, _⟩ := q
    rfl
  obtain ⟨x, rfl, hx, q1, q2⟩ := hs
  have S0 : StD K H H (start ["text", "wrong", "data"] [V.str (S x)]) (slots [sD x] 2) := start_std (.cons (.str _) .nil) rfl
  refine go_seq (D := { nx := fun _ H' => Q .non H', rt := Q }) (go_drop (ev_call (eva_1 (ev_arg (d := sD x) rfl)) rfl ⟨x, rfl, rfl⟩) (go_nx ?_)) _ _ S0
  cases hrd : readL x with
  | inr D =>
    refine go_seq (go_asg (ev_is (ev_call (eva_1 (ev_arg (d := sD x) rfl)) rfl ⟨x, hx, rfl, rfl⟩) (z := .tuple [.none, daD D]) (by unfold dataX; rw [hrd])) (tg_pair tg_name tg_name) (go_nx ?_))
    exact go_seq (go_ifF (evb_test (ev_op (ev_dat (d := .none) rfl) ev_non opv_notN)) (go_next (go_nx (go_ret (ev_dat (d := daD D) rfl) (fun v H' s d => q1 D hrd v H' s d)))))
  | inl ab =>
    obtain ⟨a, b⟩ := ab
    refine go_seq (go_asg (ev_is (ev_call (eva_1 (ev_arg (d := sD x) rfl)) rfl ⟨x, hx, rfl, rfl⟩) (z := .tuple [.tuple [.int (a : Nat), .int (b : Nat)], .tuple []]) (by unfold dataX; rw [hrd])) (tg_pair tg_name tg_name) (go_nx ?_))
    refine go_seq (go_ifT (evb_test (ev_op (ev_dat (d := .tuple [.int (a : Nat), .int (b : Nat)]) rfl) ev_non opv_notN)) ?_)
    intro σ H1 S1
    have i0 : ∀ Γ, Γ[1]? = some (.dat (.tuple [.int (a : Nat), .int (b : Nat)])) → EvG K (tOp (rIxT K) (tVar 1) (tC (.int 0))) Γ (.int (a : Nat)) := fun Γ h => ev_op (ev_dat h) ev_int (opv_ixT (i := 0) rfl)
    have i1 : ∀ Γ, Γ[1]? = some (.dat (.tuple [.int (a : Nat), .int (b : Nat)])) → EvG K (tOp (rIxT K) (tVar 1) (tC (.int 1))) Γ (.int (b : Nat)) := fun Γ h => ev_op (ev_dat h) ev_int (opv_ixT (i := 1) rfl)
    refine eva_2 (i0 _ rfl) (i1 _ rfl) _ σ H1 S1 _ fun us H2 s2 hu => ?_
    have eu : us = [.int (a : Nat), .int (b : Nat)] := DpAll.intsI (ys := [(a : Int), (b : Int)]) hu
    subst eu
    refine ⟨by simp, fun e he => ⟨e, .int (a : Nat), .int (b : Nat), rfl, upd_same, fun dx hd ne => ?_⟩⟩
    have hdx : H2 dx = none := by
      rw [upd_ne ne] at hd
      exact hd
    refine ⟨rfl, dx, wrongF a b, ?_, upd_same, hdx, ?_⟩
    · rw [upd_ne (Ne.symm ne), upd_same]
      rfl
    · refine q2 a b hrd dx _ ?_ upd_same
      refine (S1.sm.trans s2).trans fun c u hc => ?_
      have n1 : c ≠ dx := ne_of_none hc hdx
      have n2 : c ≠ e := ne_of_none hc he
      rw [upd_ne n1, del_ne n2, upd_ne n1, upd_ne n2, upd_ne n1, upd_ne n2]
      exact hc
end
end K82

/-! part I -/
set_option Elab.async false
set_option linter.all false
set_option maxRecDepth 100000
set_option maxHeartbeats 4000000
set_option autoImplicit false
set_option exponentiation.threshold 9000
/-! the error caught -/
namespace K82
open PySem PySem.Spec PyProof.Rows L2
open SX (S S_len S_cat S_inj num_S lens join_S split_S)
section
variable {P : Program} {w : World} {K : PySem.W.Frag} {mg : Str → Option Value} {base : Heap}

def rIsED (K : PySem.W.Frag) (D a : Addr) (cls : Value) (d : Option Addr) : List V → Hp → VK → Prop := fun xs H Q => ∃ (c : V) (cv : Value) (b : Bool) (dd : Addr) (fs : List (Str × V)), xs = [.ref a, c] ∧ cls = .ref D ∧ d = some dd ∧ H dd = some (.xd fs) ∧ (∀ u, RelV c u → u = cv) ∧ PySem.W.kitOne K (.ref D) cv = some b ∧ Q (.bl b) H
theorem call_isED {X : Cx} {a : Addr} {oe : Obj} {cls : Value} {d : Option Addr} {pn : List (Addr × Obj)} (C : ExF X.K) (hz : Zc cls d oe) (hf : ∃ vs, oe.data = .fields vs) : CallR (X.suite a ((a, oe) :: pn)) (.builtin "isinstance") (rIsED X.K (itA X.K) a cls d) := by
  intro pins s σ H xs us Q I r h
  obtain ⟨c, cv, b, dd, fs, rfl, rfl, rfl, hdd, hcv, e, q⟩ := h
  cases r with
  | cons rx rr =>
    cases rr with
    | cons rt rr =>
      cases rr
      cases rx
      have ec := hcv _ rt
      subst ec
      obtain ⟨hg, _⟩ := I.pin (a, oe) (List.mem_append_left _ List.mem_cons_self)
      obtain ⟨vs, hv⟩ := hf
      have hx : ObjOk X.prog X.w H s.heap dd (.xd fs) := I.hok dd _ hdd
      obtain ⟨mA, hns, hr⟩ := hx
      obtain ⟨od, ho, hl⟩ := lookIn_ns hns
      have J : PySem.W.InstAt s.heap a oe (itA X.K) (some od) := ⟨hg, hz.1, by unfold PySem.W.notCls; rw [hv] <;> rfl, by rw [hz.2]; exact ho⟩
      exact PySem.W.kia_one (PySem.W.kitx_exc C.ci C.ga C.gt C.sub C.cl C.gs C.tk C.mr) I.kIn J e (fun z => nomatch z) fun tk => ⟨.bl b, H, I.kept (t' := tk) fun _ _ z => z, rfl, q⟩
section
variable {H0 H H' : Hp} {σ : L2.St} {Γ : Ga} {i : Nat}
theorem StD.setN (S : StD K H0 H σ Γ) (x : Option V) : StD K H0 H (σ.set i x) (Γ.set i .no) := by
  have g : ∀ {j : Nat} {s : Sl}, (Γ.set i .no)[j]? = some s → s ≠ .no → j ≠ i ∧ Γ[j]? = some s := fun {j s} h n => by
    rcases set_get h with ⟨_, e⟩ | h
    · exact absurd e n
    · exact h
  refine ⟨by rw [List.length_set, List.length_set, S.len], S.sm, fun j d h => ?_, fun j d h => ?_, fun j d h => ?_, fun j k d1 d2 h1 h2 n => ?_⟩
  · obtain ⟨n, h⟩ := g h (fun z => by cases z)
    rw [List.getElem?_set_ne (Ne.symm n)]
    exact S.arg j d h
  · obtain ⟨n, h⟩ := g h (fun z => by cases z)
    rw [List.getElem?_set_ne (Ne.symm n)]
    exact S.dat j d h
  · obtain ⟨n, h⟩ := g h (fun z => by cases z)
    rw [List.getElem?_set_ne (Ne.symm n)]
    exact S.own j d h
  · obtain ⟨n1, h1⟩ := g h1 (fun z => by cases z)
    obtain ⟨n2, h2⟩ := g h2 (fun z => by cases z)
    rw [List.getElem?_set_ne (Ne.symm n1), List.getElem?_set_ne (Ne.symm n2)]
    exact S.apart j k d1 d2 h1 h2 n
end
theorem go_parDN {H0 : Hp} {Γ : Ga} {ta tb : TE} {d : PyData} {es : List PyData} {D : Ends} {i j : Nat} (h1 : EvG K ta Γ d) (h2 : EvF K tb Γ es) (l2 : ∀ d ∈ es, LF d) (q : Nx K H0 D ((Γ.set i (.dat d)).set j (.own es))) : Go K H0 (tPar i j (tCons ta (tCons tb tNil))) Γ D := fun σ H S =>
  h1 H0 σ H S _ fun v H1 s1 hv => h2 H0 σ H1 (S.same s1) _ fun p2 ys H2 f2 s2 hp2 d2 => ⟨_, _, rfl, q _ H2 (((S.same s1).setD hv).setO s2 f2 hp2 d2 l2)⟩
theorem shp_told (a b : Int) : SeqAt.shaped (.list [.int a, .int b, .bool true, .bool true]) = true := by
  refine shp ?_ ?_
  · simp [PyData.canLay0, PyData.canLayAll0]
  · simp [PyData.depth, PyData.depthAll]
def tsE (K : PySem.W.Frag) (a : Addr) (cls : Value) (d : Option Addr) : TS := tAsg (tLst (tCons (tXf a cls d (itA K) "line" (tVar 3)) (tCons (tXf a cls d (itA K) "word" (tVar 3)) (tCons (tCB (rIsED K (itA K) a cls d) (tCons (tVar 3) (tCons (tC (.ref (He.ga K "RimError"))) tNil))) (tCons (tCB (rIsED K (itA K) a cls d) (tCons (tVar 3) (tCons (tC (.ty "ValueError")) tNil))) tNil))))) (gName 2)
def R__law_told : List PyData → PyData → Prop := fun ds d => ∃ x : List Nat, x.length ≤ 50000 ∧ ds = [sD x] ∧ d = ownX x
abbrev sp__law_told (K : PySem.W.Frag) : Sp := spP K 1 R__law_told
theorem G__law_told (T : Txt K mg) : FnOk P w K mg base CX0 8 (He.ga K "_law_told") T.e__law_told ["_law_phrase"] (sp__law_told K) := by
  refine T.d__law_told.ok (n := 1) (m := 3) sc__law_told rfl rfl fun cdv A outer s H E hr => ⟨_, (pss_cons (ps_par (i := 1) (j := 2) rfl sc__law_told.nd rfl rfl (by decide) rfl rfl (pa_cons pe_non (pa_cons (pe_lst pa_nil) pa_nil)) (by rfl))
      (pss_cons (ps_try_as (i := 3) (c := .ref (itA K)) (Wout := fun _ _ _ _ => False) (tb := fun W => tAsg (tCallS (sp_readX K) (WE W) (tCons (tVar 0) tNil)) (gName 1)) (ts := fun a cls d => tsE K a cls d) rfl rfl sc__law_told.nd rfl rfl ⟨rfl, by decide, .inl T.c_InvalidText⟩ (fun u s' ⟨_, _, _, _, _, _, _, _, _, _, _, _, _, _, _, _, z⟩ => z.elim) (fun W pn xe tk _ => pss_one (ps_set (i := 1) sc__law_told.nd rfl (.inl rfl) (pe_callS (GX_read_data T) (hr.mono (by decide)) rfl T.d_read_data.g T.d_read_data.f.kp (b_read_data T) (fun σ => passAt tk σ) (pa_cons (pv 0) pa_nil)))) (fun a oe cls d pn hz hf => (pss_one (ps_set (i := 2) sc__law_told.nd rfl (.inl rfl) (pe_lst (pa_cons (pe_xf ⟨(exf T.ex).ga, (exf T.ex).gt, (exf T.ex).sub, (exf T.ex).hd⟩ (exf T.ex).line hz hf (pv 3)) (pa_cons (pe_xf ⟨(exf T.ex).ga, (exf T.ex).gt, (exf T.ex).sub, (exf T.ex).hd⟩ (exf T.ex).word hz hf (pv 3)) (pa_cons (pe_callB (call_isED (exf T.ex) hz hf) rfl T.f_isinstance (by decide +kernel) (pa_cons (pv 3) (pa_cons (pe_glob (v := .ref (He.ga K "RimError")) rfl T.c_RimError rfl) pa_nil))) (pa_cons (pe_callB (call_isED (exf T.ex) hz hf) rfl T.f_isinstance (by decide +kernel) (pa_cons (pv 3) (pa_cons (pe_bltn (v := .ty "ValueError") rfl T.f_ValueError (by decide +kernel) rfl) pa_nil))) pa_nil)))))))))
      (pss_one (ps_ret (pe_ifExp (pt_cmpR (op_eqD (u64 hr)) (pv 2) (pe_lst pa_nil) (nomark _)) (pe_tup (pa_cons pe_str (pa_cons (pv 1) pa_nil))) (pe_tup (pa_cons pe_str (pa_cons (pv 2) pa_nil)))))))),
    fun ds d hlen0 hR H0 D hq hn => ?_⟩
  obtain ⟨x, hx, rfl, rfl⟩ := hR
  have F := exf T.ex
  refine go_seq (go_parDN (ev_non) (evf_lst eva_nil (by simp)) (fun d hd => nomatch hd) (go_nx ?_))
  refine go_seq ?_
  intro σ H1 S1
  refine (ev_arg (d := sD x) rfl) H0 σ H1 S1 _ fun v H2 s2 hv => ?_
  have hv := hv.strI
  subst hv
  have S2 := S1.same s2
  refine ⟨x, rfl, hx, fun D' hD v H3 s3 d3 => ?_, fun a b hab dd H3 s3 h3 => ?_⟩
  · refine go_ret (Γ := [.arg (sD x), .dat (daD D'), .own [], .no]) (ev_ifT (evb_test (ev_op (ev_own rfl) ev_lst0 (opv_nil shp_nil))) (ev_tup2 (ev_lit (x := [114, 101, 97, 100]) (by decide +kernel)) (ev_dat rfl))) (rt_is hq ?_) _ H3 ((S2.same s3).setD d3)
    unfold ownX
    rw [hD]
  · refine ⟨true, F.exm, fun _ e he => ?_, fun z => nomatch z⟩
    have S3 := S2.same s3
    have S4 : StD K H0 H3 (σ.set 3 (some (.ref e))) [.arg (sD x), .dat .none, .own [], .no] := S3.setN (i := 3) (some (.ref e))
    have h3s : (σ.set 3 (some (V.ref e)))[3]? = some (some (.ref e)) := List.getElem?_set_self (by rw [S3.len]; show 3 < 4; decide)
    refine ⟨.ref e, h3s, rfl, rfl, dd, wrongF a b, .int (a : Nat), rfl, h3, rfl, ?_⟩
    refine ⟨.ref e, h3s, rfl, rfl, dd, wrongF a b, .int (b : Nat), rfl, h3, rfl, ?_⟩
    refine ⟨.ref e, h3s, _, _, true, dd, wrongF a b, rfl, rfl, rfl, h3, fun u hu => hu, F.k1, ?_⟩
    refine ⟨.ref e, h3s, _, _, true, dd, wrongF a b, rfl, rfl, rfl, h3, fun u hu => hu, F.k2, ?_⟩
    refine ⟨(show 4 ≤ sizeLine by decide), fun p hp => ?_⟩
    have S5 := S4.setO (i := 2) (p := p) (xs := [.int (a : Nat), .int (b : Nat), .bl true, .bl true]) (ds := [.int (a : Nat), .int (b : Nat), .bool true, .bool true]) (Same.new hp) hp upd_same (.cons (.int _) (.cons (.int _) (.cons (.bl _) (.cons (.bl _) .nil)))) (fun d hd => by
      simp only [List.mem_cons, List.not_mem_nil, or_false] at hd
      rcases hd with rfl | rfl | rfl | rfl <;> constructor)
    have S6 := S5.setN (i := 3) none
    refine go_ret (Γ := [.arg (sD x), .dat .none, .own [.int (a : Nat), .int (b : Nat), .bool true, .bool true], .no]) (ev_ifF (evb_is (evb_test (ev_op (ev_own rfl) ev_lst0 (opv_nil (shp_told a b)))) rfl) (ev_tup2 (ev_lit (x := [119, 114, 111, 110, 103]) (by decide +kernel)) (ev_own rfl))) (rt_is hq ?_) _ _ S6
    unfold ownX
    rw [hab]
end
end K82

/-! part W -/
set_option Elab.async false
set_option linter.all false
set_option maxRecDepth 100000
set_option maxHeartbeats 4000000
set_option autoImplicit false
set_option exponentiation.threshold 9000
/-! the drawing half: a well at p that is written at, lists that grow beside it -/
namespace K82
open PySem PySem.Spec PyProof.Rows L2
open SX (S S_len S_cat S_inj num_S lens join_S split_S)
abbrev capW : Nat := 1073741824
def Wl (p : Addr) (H : Hp) (n : Nat) : Prop := ∃ a b c : Int, H p = some (.lst [.int a, .int b, .int c]) ∧ 0 ≤ b ∧ b < 2147483629 ∧ 0 ≤ c ∧ c ≤ n
theorem Wl.mono {p : Addr} {H : Hp} {m n : Nat} (h : Wl p H m) (e : m ≤ n) : Wl p H n := by
  obtain ⟨a, b, c, h1, h2, h3, h4, h5⟩ := h
  exact ⟨a, b, c, h1, h2, h3, h4, by omega⟩
/-- all but p stays -/
def FrP (p : Addr) (H H2 : Hp) : Prop := ∀ b o, b ≠ p → H b = some o → H2 b = some o
theorem FrP.refl (p : Addr) (H : Hp) : FrP p H H := fun _ _ _ h => h
theorem FrP.trans {p : Addr} {H H1 H2 : Hp} (a : FrP p H H1) (b : FrP p H1 H2) : FrP p H H2 := fun x o n h => b x o n (a x o n h)
theorem FrP.of {p : Addr} {H H2 : Hp} (a : Same H H2) : FrP p H H2 := fun x o _ h => a x o h
def hid (H : Hp) (p : Addr) (L : List (Addr × HO)) : Hp := fun b => if b = p ∨ b ∈ L.map (·.1) then none else H b
theorem hid_some {H : Hp} {p : Addr} {L : List (Addr × HO)} {b : Addr} {o : HO} (h : hid H p L b = some o) : b ≠ p ∧ b ∉ L.map (·.1) ∧ H b = some o := by
  unfold hid at h
  split at h
  · cases h
  · rename_i n
    exact ⟨fun z => n (.inl z), fun z => n (.inr z), h⟩
theorem hid_of {H : Hp} {p : Addr} {L : List (Addr × HO)} {b : Addr} (h1 : b ≠ p) (h2 : b ∉ L.map (·.1)) : hid H p L b = H b := if_neg (fun z => z.elim h1 h2)
theorem hid_same {H : Hp} {p : Addr} {L : List (Addr × HO)} : Same (hid H p L) H := fun b o h => (hid_some h).2.2
theorem hid_fr {H H2 : Hp} {p : Addr} {L : List (Addr × HO)} (f : FrP p H H2) : Same (hid H p L) (hid H2 p L) := fun b o h => by
  obtain ⟨a, b', c⟩ := hid_some h
  rw [hid_of a b']
  exact f b o a c
theorem hid_del {H : Hp} {p : Addr} {L : List (Addr × HO)} : Same (hid H p L) (delH H p) := fun b o h => by
  obtain ⟨a, _, c⟩ := hid_some h
  rw [delH_ne a]
  exact c
structure StW (K : PySem.W.Frag) (H0 : Hp) (p : Addr) (L : List (Addr × HO)) (R : List (Nat × Addr)) (n : Nat) (H : Hp) (σ : L2.St) (Γ : Ga) : Prop where
  sd : StD K H0 (hid H p L) σ Γ
  wl : Wl p H n
  pin : ∀ x ∈ L, H x.1 = some x.2 ∧ x.1 ≠ p ∧ ∃ xs, x.2 = .lst xs
  rf : ∀ x ∈ R, σ[x.1]? = some (some (.ref x.2)) ∧ Γ[x.1]? = some .no
section
variable {K : PySem.W.Frag} {H0 H H2 : Hp} {p : Addr} {L : List (Addr × HO)} {R : List (Nat × Addr)} {n m k k1 k2 : Nat} {σ : L2.St} {Γ : Ga}
theorem StW.step (S : StW K H0 p L R n H σ Γ) (f : FrP p H H2) (w : Wl p H2 m) : StW K H0 p L R m H2 σ Γ :=
  ⟨S.sd.same (hid_fr f), w, fun x hx => ⟨f _ _ (S.pin x hx).2.1 (S.pin x hx).1, (S.pin x hx).2⟩, S.rf⟩
theorem StW.tst (S : StW K H0 p L R n H σ Γ) : TStay H (hid H p L) := by
  have key : ∀ b o, H b = some o → (∀ xs, o ≠ .lst xs) → hid H p L b = some o := fun b o h no => by
    rw [hid_of]
    · exact h
    · intro z
      obtain ⟨a, b', c, h1, _⟩ := S.wl
      rw [z, h1] at h
      exact no _ (Option.some.inj h).symm
    · intro z
      obtain ⟨x, hx, e⟩ := List.mem_map.mp z
      obtain ⟨q1, _, xs, q3⟩ := S.pin x hx
      rw [← e, q1] at h
      exact no xs (by rw [← Option.some.inj h]; exact q3)
  exact ⟨fun b xs h => key b _ h (fun ys z => by cases z), fun b o xs h => key b _ h (fun ys z => by cases z)⟩
theorem StW.tst2 (S : StW K H0 p L R n H σ Γ) : TStay (delH H p) (hid H p L) :=
  ⟨fun b xs h => S.tst.t b xs (delH_same b _ h), fun b o xs h => S.tst.f b o xs (delH_same b _ h)⟩
theorem StW.pure (S : StW K H0 p L R n H σ Γ) : StD K H0 H σ Γ := S.sd.same hid_same
/-- a value, whatever it draws -/
def EvW (K : PySem.W.Frag) (te : TE) (p : Addr) (L : List (Addr × HO)) (R : List (Nat × Addr)) (Γ : Ga) (C : PyData → Prop) (k : Nat) : Prop := ∀ (H0 : Hp) (n : Nat) (σ : L2.St) (H : Hp), StW K H0 p L R n H σ Γ → n + k ≤ capW →
  ∀ Q : VK, (∀ v d H2, FrP p H H2 → Wl p H2 (n + k) → Dp K (hid H2 p L) v d → C d → Q v H2) → te σ H Q
def EvWA (K : PySem.W.Frag) (ta : TA) (p : Addr) (L : List (Addr × HO)) (R : List (Nat × Addr)) (Γ : Ga) (C : List PyData → Prop) (k : Nat) : Prop := ∀ (H0 : Hp) (n : Nat) (σ : L2.St) (H : Hp), StW K H0 p L R n H σ Γ → n + k ≤ capW →
  ∀ Q : List V → Hp → Prop, (∀ vs ds H2, FrP p H H2 → Wl p H2 (n + k) → DpAll K (hid H2 p L) vs ds → C ds → Q vs H2) → ta σ H Q
def EvWB (K : PySem.W.Frag) (tt : TT) (p : Addr) (L : List (Addr × HO)) (R : List (Nat × Addr)) (Γ : Ga) (k : Nat) : Prop := ∀ (H0 : Hp) (n : Nat) (σ : L2.St) (H : Hp), StW K H0 p L R n H σ Γ → n + k ≤ capW →
  ∀ Q : Bool → Hp → Prop, (∀ b H2, FrP p H H2 → Wl p H2 (n + k) → Q b H2) → tt σ H Q
/-- promises -/
def spW (K : PySem.W.Frag) (k : Nat) (Rl : List PyData → (PyData → Prop) → Prop) : Sp := fun vs H Q _ => ∃ (p : Addr) (n : Nat) (us : List V) (ds : List PyData) (C : PyData → Prop), vs = .ref p :: us ∧ Wl p H n ∧ n + k ≤ capW ∧ DpAll K (delH H p) us ds ∧ Rl ds C ∧
  ∀ v d H2, FrP p H H2 → Wl p H2 (n + k) → Dp K (delH H2 p) v d → LF d → C d → Q v H2
variable {te ta tb : TE} {tA : TA} {tt : TT} {d : PyData} {C C1 C2 : PyData → Prop} {CA : List PyData → Prop} {es : List PyData}
theorem evw_pure (h : EvG K te Γ d) (l : LF d) (c : C d) : EvW K te p L R Γ C 0 := fun H0 n σ H S hn Q q =>
  h H0 σ H S.pure Q fun v H2 sm hv => q v d H2 (FrP.of sm) ((S.step (FrP.of sm) (by
    obtain ⟨a, b, c, h1, h2⟩ := S.wl
    exact ⟨a, b, c, sm _ _ h1, h2⟩)).wl) (Dp.stay (S.step (H2 := H2) (m := n) (FrP.of sm) (by
    obtain ⟨a, b, c, h1, h2⟩ := S.wl
    exact ⟨a, b, c, sm _ _ h1, h2⟩)).tst hv l) c
theorem Wl.same (w : Wl p H n) (sm : Same H H2) : Wl p H2 n := by
  obtain ⟨a, b, c, h1, h2⟩ := w
  exact ⟨a, b, c, sm _ _ h1, h2⟩
theorem Wl.ex (w : Wl p H n) : ∃ o, H p = some o := by
  obtain ⟨a, b, c, h1, h2⟩ := w
  exact ⟨_, h1⟩
theorem evw_fresh (h : EvF K te Γ es) (l : ∀ d ∈ es, LF d) (c : C (.list es)) : EvW K te p L R Γ C 0 := fun H0 n σ H S hn Q q =>
  h H0 σ H S.pure Q fun a xs H2 ha sm hq hd => by
    have w2 := S.wl.same sm
    have S2 := S.step (FrP.of sm) w2
    obtain ⟨o, ho⟩ := S.wl.ex
    have n1 : a ≠ p := fun z => by rw [z, ho] at ha; cases ha
    have n2 : a ∉ L.map (·.1) := fun z => by
      obtain ⟨x, hx, e⟩ := List.mem_map.mp z
      rw [← e, (S.pin x hx).1] at ha
      cases ha
    exact q _ _ H2 (FrP.of sm) w2 (.lst (SqL.of (by rw [hid_of n1 n2]; exact hq)) (DpAll.stay S2.tst hd l)) c
theorem evw_arg {i : Nat} (h : Γ[i]? = some (.arg d)) (c : C d) : EvW K (tVar i) p L R Γ C 0 := fun H0 n σ H S hn Q q => by
  obtain ⟨v, h1, h2⟩ := S.sd.arg i d h
  exact ⟨v, h1, q v d H (FrP.refl p H) S.wl (Dp.same S.sd.sm h2) c⟩
theorem evw_imp (h : EvW K te p L R Γ C1 k1) (hc : ∀ d, C1 d → C d) (hk : k1 ≤ k) : EvW K te p L R Γ C k := fun H0 n σ H S hn Q q =>
  h H0 n σ H S (by omega) Q fun v d H2 f w dv c => q v d H2 f (w.mono (by omega)) dv (hc d c)
theorem evw_op {r : R2} (ha : EvW K ta p L R Γ C1 k1) (hb : EvW K tb p L R Γ C2 k2) (hr : ∀ d e, C1 d → C2 e → ∃ z, OpV K r d e z ∧ LF z ∧ C z) : EvW K (tOp r ta tb) p L R Γ C (k1 + k2) := fun H0 n σ H S hn Q q =>
  ha H0 n σ H S (by omega) _ fun x d H1 f1 w1 hx c1 => hb H0 (n + k1) σ H1 (S.step f1 w1) (by omega) _ fun y e H2 f2 w2 hy c2 => by
    obtain ⟨z, o, lz, cz⟩ := hr d e c1 c2
    have S2 := (S.step f1 w1).step f2 w2
    refine o H2 x y (Dp.same hid_same (Dp.same (hid_fr f2) hx)) (Dp.same hid_same hy) Q fun v H3 s3 hv => ?_
    have w3 := w2.same s3
    exact q v z H3 ((f1.trans f2).trans (FrP.of s3)) (by rw [← Nat.add_assoc]; exact w3) (Dp.stay (S2.step (FrP.of s3) w3).tst hv lz) cz
theorem evwA_nil : EvWA K tNil p L R Γ (fun ds => ds = []) 0 := fun H0 n σ H S hn Q q => q [] [] H (FrP.refl p H) S.wl .nil rfl
theorem evwA_cons (h : EvW K te p L R Γ C1 k1) (hr : EvWA K tA p L R Γ CA k2) : EvWA K (tCons te tA) p L R Γ (fun ds => ∃ d r, ds = d :: r ∧ C1 d ∧ CA r) (k1 + k2) := fun H0 n σ H S hn Q q =>
  h H0 n σ H S (by omega) _ fun x d H1 f1 w1 hx c1 => hr H0 (n + k1) σ H1 (S.step f1 w1) (by omega) _ fun xs ds H2 f2 w2 hxs c2 =>
    q _ _ H2 (f1.trans f2) (by rw [← Nat.add_assoc]; exact w2) (.cons (Dp.same (hid_fr f2) hx) hxs) ⟨d, ds, rfl, c1, c2⟩
theorem evwA_1 (h : EvW K te p L R Γ C1 k1) : EvWA K (tCons te tNil) p L R Γ (fun ds => ∃ d, ds = [d] ∧ C1 d) k1 := fun H0 n σ H S hn Q q =>
  evwA_cons h evwA_nil H0 n σ H S hn Q fun vs ds H2 f w dv ⟨d, r, e1, c, e2⟩ => q vs ds H2 f w dv ⟨d, by rw [e1, e2], c⟩
theorem evwA_2 (h : EvW K ta p L R Γ C1 k1) (h2 : EvW K tb p L R Γ C2 k2) : EvWA K (tCons ta (tCons tb tNil)) p L R Γ (fun ds => ∃ d e, ds = [d, e] ∧ C1 d ∧ C2 e) (k1 + k2) := fun H0 n σ H S hn Q q =>
  evwA_cons h (evwA_1 h2) H0 n σ H S hn Q fun vs ds H2 f w dv ⟨d, r, e1, c, e, e2, c2⟩ => q vs ds H2 f w dv ⟨d, e, by rw [e1, e2], c, c2⟩
theorem evw_callP {m : Nat} {Rl : List PyData → PyData → Prop} {E : XK} (h : EvWA K tA p L R Γ CA k) (hr : ∀ ds, CA ds → ds.length = m ∧ ∃ z, Rl ds z ∧ LF z ∧ C z) : EvW K (tCall (spP K m Rl) [] E tA) p L R Γ C k := fun H0 n σ H S hn Q q =>
  h H0 n σ H S hn _ fun vs ds H1 f1 w1 hv c => by
    obtain ⟨hl, z, hz, lz, cz⟩ := hr ds c
    show spP K m Rl (vs ++ []) H1 Q E
    rw [List.append_nil]
    refine ⟨ds, z, DpAll.same hid_same hv, hl, hz, fun v H2 s2 hd => ?_⟩
    have w2 := w1.same s2
    exact q v z H2 (f1.trans (FrP.of s2)) w2 (Dp.stay ((S.step f1 w1).step (FrP.of s2) w2).tst hd lz) cz
theorem evw_cb {rc : List V → Hp → VK → Prop} (h : EvWA K tA p L R Γ CA k) (hr : ∀ ds, CA ds → ∃ z, CbV K rc ds z ∧ LF z ∧ C z) : EvW K (tCB rc tA) p L R Γ C k := fun H0 n σ H S hn Q q =>
  h H0 n σ H S hn _ fun vs ds H1 f1 w1 hv c => by
    obtain ⟨z, hz, lz, cz⟩ := hr ds c
    refine hz H1 vs (DpAll.same hid_same hv) Q fun v H2 s2 hd => ?_
    have w2 := w1.same s2
    exact q v z H2 (f1.trans (FrP.of s2)) w2 (Dp.stay ((S.step f1 w1).step (FrP.of s2) w2).tst hd lz) cz
theorem evw_tup (h : EvWA K tA p L R Γ CA k) (hr : ∀ ds, CA ds → ds.length ≤ 1000000 ∧ C (.tuple ds)) : EvW K (tTup tA) p L R Γ C k := fun H0 n σ H S hn Q q =>
  h H0 n σ H S hn _ fun vs ds H1 f1 w1 hv c => by
    obtain ⟨hl, hc⟩ := hr ds c
    refine ⟨small_line (by rw [DpAll.length hv]; exact hl), fun a ha => ?_⟩
    have sm : Same H1 (upd H1 a (.tup vs)) := Same.new ha
    obtain ⟨o, ho⟩ := w1.ex
    have n1 : a ≠ p := fun z => by rw [z, ho] at ha; cases ha
    have n2 : a ∉ L.map (·.1) := fun z => by
      obtain ⟨x, hx, e⟩ := List.mem_map.mp z
      rw [← e, ((S.step f1 w1).pin x hx).1] at ha
      cases ha
    exact q _ _ _ (f1.trans (FrP.of sm)) (w1.same sm) (.tup (SqT.of (by rw [hid_of n1 n2, upd_same])) (DpAll.same (hid_fr (FrP.of sm)) hv)) hc
theorem evw_callW {k0 : Nat} {Rl : List PyData → (PyData → Prop) → Prop} {E : XK} {i : Nat} (hi : (i, p) ∈ R) (h : EvWA K tA p L R Γ CA k) (hr : ∀ ds, CA ds → Rl ds C) : EvW K (tCall (spW K k0 Rl) [] E (tCons (tVar i) tA)) p L R Γ C (k + k0) := fun H0 n σ H S hn Q q => by
  refine ⟨.ref p, (S.rf _ hi).1, ?_⟩
  refine h H0 n σ H S (by omega) _ fun vs ds H1 f1 w1 hv c => ?_
  show spW K k0 Rl ((.ref p :: vs) ++ []) H1 Q E
  rw [List.append_nil]
  refine ⟨p, n + k, vs, ds, C, rfl, w1, by omega, DpAll.same hid_del hv, hr ds c, fun v d H2 f2 w2 dv ld cd => ?_⟩
  have S2 := (S.step f1 w1).step f2 w2
  exact q v d H2 (f1.trans f2) (by rw [← Nat.add_assoc]; exact w2) (Dp.stay S2.tst2 dv ld) cd
theorem evwb_test (h : EvW K te p L R Γ (fun d => ∃ b, d = .bool b) k) : EvWB K (tTest te) p L R Γ k := fun H0 n σ H S hn Q q =>
  h H0 n σ H S hn _ fun v d H2 f w dv ⟨b, e⟩ => ⟨b, by subst e; exact dv.blI, q b H2 f w⟩
theorem evwb_pure {b : Bool} (h : EvB K tt Γ b) : EvWB K tt p L R Γ 0 := fun H0 n σ H S hn Q q => h H0 σ H S.pure _ fun H2 sm => q b H2 (FrP.of sm) (S.wl.same sm)
theorem evw_if (h : EvWB K tt p L R Γ k) (h1 : EvW K ta p L R Γ C k1) (h2 : EvW K tb p L R Γ C k1) : EvW K (tIf tt ta tb) p L R Γ C (k + k1) := fun H0 n σ H S hn Q q =>
  h H0 n σ H S (by omega) _ fun b H1 f1 w1 => by
    cases b with
    | true => exact h1 H0 (n + k) σ H1 (S.step f1 w1) (by omega) Q fun v d H2 f2 w2 dv c => q v d H2 (f1.trans f2) (by rw [← Nat.add_assoc]; exact w2) dv c
    | false => exact h2 H0 (n + k) σ H1 (S.step f1 w1) (by omega) Q fun v d H2 f2 w2 dv c => q v d H2 (f1.trans f2) (by rw [← Nat.add_assoc]; exact w2) dv c
/-! statements -/
def GoW (K : PySem.W.Frag) (H0 : Hp) (p : Addr) (L : List (Addr × HO)) (R : List (Nat × Addr)) (n : Nat) (t : TS) (Γ : Ga) (D : Ends) : Prop := ∀ (σ : L2.St) (H : Hp), StW K H0 p L R n H σ Γ → t D σ H
def NxW (K : PySem.W.Frag) (H0 : Hp) (p : Addr) (L : List (Addr × HO)) (R : List (Nat × Addr)) (n : Nat) (D : Ends) (Γ : Ga) : Prop := ∀ (σ : L2.St) (H : Hp), StW K H0 p L R n H σ Γ → D.nx σ H
variable {D : Ends} {t1 t2 : TS}
theorem gow_seq (h : GoW K H0 p L R n t1 Γ { D with nx := t2 D }) : GoW K H0 p L R n (tSeq t1 t2) Γ D := fun σ H S => h σ H S
theorem gow_nx {t : TS} (h : GoW K H0 p L R n t Γ D) : NxW K H0 p L R n { D with nx := t D } Γ := fun σ H S => h σ H S
theorem gow_ret (hn : n + k ≤ capW) (h : EvW K te p L R Γ C k) (q : ∀ v d H, Same H0 (hid H p L) → Wl p H (n + k) → Dp K (hid H p L) v d → C d → D.rt v H) : GoW K H0 p L R n (tRet te) Γ D := fun σ H S =>
  h H0 n σ H S hn _ fun v d H2 f w dv c => q v d H2 (S.sd.sm.trans (hid_fr f)) w dv c
theorem StW.setD (S : StW K H0 p L R n H σ Γ) {i : Nat} {v : V} (hv : Dp K (hid H p L) v d) (hi : ∀ x ∈ R, x.1 ≠ i) : StW K H0 p L R n H (σ.set i (some v)) (Γ.set i (.dat d)) :=
  ⟨S.sd.setD hv, S.wl, S.pin, fun x hx => by
    rw [List.getElem?_set_ne (Ne.symm (hi x hx)), List.getElem?_set_ne (Ne.symm (hi x hx))]
    exact S.rf x hx⟩
theorem gow_set {i : Nat} (hn : n + k ≤ capW) (hi : ∀ x ∈ R, x.1 ≠ i) (h : EvW K te p L R Γ C k) (q : ∀ d, C d → NxW K H0 p L R (n + k) D (Γ.set i (.dat d))) : GoW K H0 p L R n (tAsg te (gName i)) Γ D := fun σ H S =>
  h H0 n σ H S hn _ fun v d H2 f w dv c => q d c _ H2 ((S.step f w).setD dv hi)
theorem gow_par {i j : Nat} (hn : n + k1 + k2 ≤ capW) (hi : ∀ x ∈ R, x.1 ≠ i ∧ x.1 ≠ j) (h : EvW K ta p L R Γ C1 k1) (h2 : EvW K tb p L R Γ C2 k2) (q : ∀ d e, C1 d → C2 e → NxW K H0 p L R (n + k1 + k2) D ((Γ.set i (.dat d)).set j (.dat e))) : GoW K H0 p L R n (tPar i j (tCons ta (tCons tb tNil))) Γ D := fun σ H S =>
  h H0 n σ H S (by omega) _ fun v d H1 f1 w1 dv c1 => h2 H0 (n + k1) σ H1 (S.step f1 w1) hn _ fun u e H2 f2 w2 du c2 =>
    ⟨_, _, rfl, q d e c1 c2 _ H2 ((((S.step f1 w1).step f2 w2).setD (Dp.same (hid_fr f2) dv) (fun x hx => (hi x hx).1)).setD du (fun x hx => (hi x hx).2))⟩
theorem gow_if (hn : n + k ≤ capW) (h : EvWB K tt p L R Γ k) (h1 : GoW K H0 p L R (n + k) t1 Γ D) (h2 : GoW K H0 p L R (n + k) t2 Γ D) : GoW K H0 p L R n (tIfS tt t1 t2) Γ D := fun σ H S =>
  h H0 n σ H S hn _ fun b H1 f1 w1 => by
    cases b with
    | true => exact h1 σ H1 (S.step f1 w1)
    | false => exact h2 σ H1 (S.step f1 w1)
theorem gow_next (h : NxW K H0 p L R n D Γ) : GoW K H0 p L R n tNext Γ D := fun σ H S => h σ H S
end
/-! kinds of values -/
def isI (lo hi : Int) : PyData → Prop := fun d => ∃ i : Int, d = .int i ∧ lo ≤ i ∧ i ≤ hi
def isS (l : Nat) : PyData → Prop := fun d => ∃ x : List Nat, d = sD x ∧ x.length ≤ l
structure Small (f : Fr) : Prop where
  n : f.1.natAbs ≤ 9
  p : 0 < f.2
  m : f.2 ≤ 9
def isF : PyData → Prop := fun d => ∃ f, d = frD f ∧ Small f
def isB : PyData → Prop := fun d => ∃ b, d = .bool b
section
variable {K : PySem.W.Frag} {p : Addr} {L : List (Addr × HO)} {R : List (Nat × Addr)} {Γ : Ga} {ta tb : TE} {k1 k2 : Nat} {a b c d : Int}
theorem evw_int {i : Int} : EvW K (tC (.int i)) p L R Γ (isI i i) 0 := evw_pure ev_int (.int i) ⟨i, rfl, Int.le_refl _, Int.le_refl _⟩
theorem evw_add (ha : EvW K ta p L R Γ (isI a b) k1) (hb : EvW K tb p L R Γ (isI c d) k2) : EvW K (tOp (rI0 fun i j => .int (i + j)) ta tb) p L R Γ (isI (a + c) (b + d)) (k1 + k2) := evw_op ha hb fun x y hx hy => by
  obtain ⟨i, rfl, h1, h2⟩ := hx
  obtain ⟨j, rfl, h3, h4⟩ := hy
  exact ⟨_, opv_I0, .int _, _, rfl, by omega, by omega⟩
theorem evw_sub (ha : EvW K ta p L R Γ (isI a b) k1) (hb : EvW K tb p L R Γ (isI c d) k2) : EvW K (tOp (rI0 fun i j => .int (i - j)) ta tb) p L R Γ (isI (a - d) (b - c)) (k1 + k2) := evw_op ha hb fun x y hx hy => by
  obtain ⟨i, rfl, h1, h2⟩ := hx
  obtain ⟨j, rfl, h3, h4⟩ := hy
  exact ⟨_, opv_I0, .int _, _, rfl, by omega, by omega⟩
theorem evw_eqI (ha : EvW K ta p L R Γ (isI a b) k1) (hb : EvW K tb p L R Γ (isI c d) k2) : EvW K (tOp rEq ta tb) p L R Γ (fun d => ∃ b, d = .bool b) (k1 + k2) := evw_op ha hb fun x y hx hy => by
  obtain ⟨i, rfl, h1, h2⟩ := hx
  obtain ⟨j, rfl, h3, h4⟩ := hy
  exact ⟨_, opv_eqI, .bl _, _, rfl⟩
theorem evw_ltI (ha : EvW K ta p L R Γ (isI a b) k1) (hb : EvW K tb p L R Γ (isI c d) k2) {g : Int → Int → Bool} : EvW K (tOp (rI0 fun i j => .bl (g i j)) ta tb) p L R Γ (fun d => ∃ b, d = .bool b) (k1 + k2) := evw_op ha hb fun x y hx hy => by
  obtain ⟨i, rfl, h1, h2⟩ := hx
  obtain ⟨j, rfl, h3, h4⟩ := hy
  exact ⟨_, opv_B0, .bl _, _, rfl⟩
theorem evw_dat {i : Nat} {z : PyData} {C : PyData → Prop} (h : Γ[i]? = some (.dat z)) (c : C z) : EvW K (tVar i) p L R Γ C 0 := fun H0 n σ H S hn Q q => by
  obtain ⟨v, h1, h2⟩ := S.sd.dat i z h
  exact ⟨v, h1, q v z H (FrP.refl p H) S.wl h2 c⟩
end
end K82

/-! part X -/
set_option Elab.async false
set_option linter.all false
set_option maxRecDepth 100000
set_option maxHeartbeats 4000000
set_option autoImplicit false
set_option exponentiation.threshold 9000
/-! the draws -/
namespace K82
open PySem PySem.Spec PyProof.Rows L2
open SX (S S_len S_cat S_inj num_S lens join_S split_S)
section
variable {P : Program} {w : World} {K : PySem.W.Frag} {mg : Str → Option Value} {base : Heap}

def rDivmod : List V → Hp → VK → Prop := fun xs H Q => ∃ i j, xs = [.int i, .int j] ∧ CDivP i j ∧ ∀ p, H p = none → Q (.ref p) (upd H p (.tup [.int (i / j), .int (i % j)]))
theorem cr_divmod {X : Cx} : CallR X (.builtin "divmod") rDivmod := call_divmodW
section
variable {σ : L2.St} {H : Hp} {p : Addr} {xs : List V} {v : V} {Q : VK} {i : Nat}
theorem ix_at (hσ : σ[0]? = some (some (.ref p))) (h : H p = some (.lst xs)) (hv : xs[i]? = some v) (q : Q v H) : tOp (rIxL K) (tVar 0) (tC (.int (i : Nat))) σ H Q :=
  ⟨.ref p, hσ, p, xs, _, v, rfl, rfl, SqL.of h, atI_nat hv, q⟩
end
abbrev R__law_draw : List PyData → (PyData → Prop) → Prop := fun ds C => ∃ m : Int, 0 < m ∧ m ≤ 1000000 ∧ ds = [.int m] ∧ ∀ i : Int, 0 ≤ i → i < m → C (.int i)
abbrev sp__law_draw (K : PySem.W.Frag) : Sp := spW K 1 R__law_draw
theorem spW_len {k m : Nat} {Rl : List PyData → (PyData → Prop) → Prop} {vs : List V} {H : Hp} {Q : VK} {E : XK} (h : spW K k Rl vs H Q E) (hl : ∀ ds C, Rl ds C → ds.length = m) : vs.length = m + 1 := by
  obtain ⟨p, n, us, ds, C, rfl, _, _, hd, hr, _⟩ := h
  rw [List.length_cons, DpAll.length hd, hl ds C hr]
theorem stir_ok {b c : Int} (h1 : 0 ≤ b) (h2 : b < 2147483629) (h3 : 0 ≤ c) (h4 : c ≤ 1073741824) : CMulW b 48271 ∧ CMulW 70003 c :=
  ⟨wide_mul (a := 32) (b := 32) (by omega) (by decide) (by decide) (by decide) (by decide), wide_mul (a := 32) (b := 32) (by decide) (by omega) (by decide) (by decide) (by decide)⟩
theorem G__law_draw (T : Txt K mg) : FnOk P w K mg base CX0 1 (He.ga K "_law_draw") T.e__law_draw ["_law_well_here", "_law_many"] (sp__law_draw K) := by
  refine T.d__law_draw.f.ok sc__law_draw (fun vs H Q E q => spW_len (m := 1) q (fun ds C ⟨m, _, _, e, _⟩ => by rw [e]; rfl)) fun cdv A outer s H vs Q E hr hs => ⟨(tSeq (tIfS (tTest (tOp (rI0 fun i j => .bl (decide (j < i))) (tOp (rIxL K) (tVar 0) (tC (.int 0))) (tC (.int 0)))) (tSeq (tAsg (tCB rDivmod (tCons (tOp (rIxL K) (tVar 0) (tC (.int 0))) (tCons (tVar 1) tNil))) (gTup K 2 (gCons (gSub (tVar 0) (tC (.int 0)) rSetL) (gCons (gName 2) gNil)))) (tRet (tVar 2))) tNext) (tSeq (tAsg (tOp (rI0 fun i j => .int (i + j)) (tOp (rIxL K) (tVar 0) (tC (.int 2))) (tC (.int 1))) (gSub (tVar 0) (tC (.int 2)) rSetL)) (tSeq (tAsg (tOp (rI (fun _ j => 0 < j) fun i j => .int (i % j)) (tCB rIntI (tCons (tOp (rI0 fun i j => .int (i + j)) (tOp (rI0 fun i j => .int (i + j)) (tOp (rI CMulW fun i j => .int (i * j)) (tOp (rIxL K) (tVar 0) (tC (.int 1))) (tC (.int 48271))) (tOp (rI CMulW fun i j => .int (i * j)) (tC (.int 70003)) (tOp (rIxL K) (tVar 0) (tC (.int 2))))) (tC (.int 11))) tNil)) (tC (.int 2147483629))) (gSub (tVar 0) (tC (.int 1)) rSetL)) (tRet (tOp (rI (fun _ j => 0 < j) fun i j => .int (i % j)) (tCB rIntI (tCons (tOp (rI CDivW fun i j => .int (i / j)) (tOp (rIxL K) (tVar 0) (tC (.int 1))) (tC (.int 211))) tNil)) (tVar 1)))))), PSs.nox (X := cxOf CX0 P w K mg base _ _ _ _ cdv A outer s H E) (pss_cons (ps_if (pt_cmpR (op_gt) (pe_ix ix_list (pv 0) pe_int (fun _ _ => rfl)) pe_int (nomark _)) (pss_cons (ps_asg (pe_callB cr_divmod rfl T.f_divmod (by decide +kernel) (pa_cons (pe_ix ix_list (pv 0) pe_int (fun _ _ => rfl)) (pa_cons (pv 1) pa_nil))) (pg_tup rfl (pgs_cons (pg_sub (pv 0) pe_int set_list) (pgs_cons (pg_name (i := 2) sc__law_draw.nd rfl (.inl rfl)) pgs_nil))))
      (pss_one (ps_ret (pv 2)))) pss_nil)
      (pss_cons (ps_asg (pe_op op_add (pe_ix ix_list (pv 0) pe_int (fun _ _ => rfl)) pe_int) (pg_sub (pv 0) pe_int set_list))
      (pss_cons (ps_asg (pe_op op_mod (pe_callTy cr_intI rfl T.f_int (by decide +kernel) (pa_cons (pe_op op_add (pe_op op_add (pe_op op_mulW (pe_ix ix_list (pv 0) pe_int (fun _ _ => rfl)) pe_int) (pe_op op_mulW pe_int (pe_ix ix_list (pv 0) pe_int (fun _ _ => rfl)))) pe_int) pa_nil)) pe_int) (pg_sub (pv 0) pe_int set_list))
      (pss_one (ps_ret (pe_op op_mod (pe_callTy cr_intI rfl T.f_int (by decide +kernel) (pa_cons (pe_op op_fdivW (pe_ix ix_list (pv 0) pe_int (fun _ _ => rfl)) pe_int) pa_nil)) (pv 1))))))), ?_⟩
  obtain ⟨p, n, us, ds, C, rfl, ⟨a, b, c, hp, b0, b1, c0, c1⟩, hn, hd, ⟨m, m0, m1, rfl, hC⟩, q⟩ := hs
  have eu : us = [.int m] := DpAll.intsI (ys := [m]) hd
  subst eu
  have h0 : (start ["_law_well_here", "_law_many", "_law_digit"] [V.ref p, V.int m])[0]? = some (some (.ref p)) := rfl
  have h1 : (start ["_law_well_here", "_law_many", "_law_digit"] [V.ref p, V.int m])[1]? = some (some (.int m)) := rfl
  have h2 : ∀ v : V, ((start ["_law_well_here", "_law_many", "_law_digit"] [V.ref p, V.int m]).set 2 (some v))[2]? = some (some v) := fun v => rfl
  generalize start ["_law_well_here", "_law_many", "_law_digit"] [V.ref p, V.int m] = σ at h0 h1 h2
  have hcap : n + 1 ≤ 1073741824 := hn
  have new : ∀ (H2 : Hp) (d : Int) (a' b' c' : Int), FrP p H H2 → H2 p = some (.lst [.int a', .int b', .int c']) → 0 ≤ b' → b' < 2147483629 → 0 ≤ c' → c' ≤ (n + 1 : Nat) → 0 ≤ d → d < m → Q (.int d) H2 := fun H2 d a' b' c' f e x1 x2 x3 x4 x5 x6 => q _ (.int d) H2 f ⟨a', b', c', e, x1, x2, x3, x4⟩ (.int d) (.int d) (hC d x5 x6)
  refine ix_at (i := 0) h0 hp rfl ?_
  refine ⟨_, _, rfl, rfl, decide (0 < a), rfl, ?_⟩
  by_cases ha : 0 < a
  · rw [decide_eq_true ha]
    refine ix_at (i := 0) h0 hp rfl ?_
    refine ⟨.int m, h1, a, m, rfl, ⟨m0, PyProof.noPylong_small (by omega)⟩, fun t ht => ?_⟩
    have htp : t ≠ p := fun z => by rw [z, hp] at ht; cases ht
    have hp' : upd H t (.tup [.int (a / m), .int (a % m)]) p = some (.lst [.int a, .int b, .int c]) := by rw [upd_ne (Ne.symm htp)]; exact hp
    refine ⟨t, _, rfl, SqT.of upd_same, rfl, _, _, rfl, .ref p, h0, p, _, 0, 0, rfl, rfl, hp', rfl, _, _, rfl, rfl, ?_⟩
    refine ⟨_, h2 _, new _ _ (a / m) b c ?_ upd_same b0 b1 c0 (by omega) (Int.emod_nonneg _ (by omega)) (Int.emod_lt_of_pos _ m0)⟩
    exact fun x o hx e => by rw [upd_ne hx, upd_ne (ne_of_none e ht)]; exact e
  · rw [decide_eq_false ha]
    have c3 : c ≤ 1073741824 - 1 := by omega
    refine ix_at (i := 2) h0 hp rfl ?_
    refine ⟨_, _, rfl, rfl, .ref p, h0, p, _, 2, 2, rfl, rfl, hp, rfl, ?_⟩
    have hp1 : upd H p (.lst [.int a, .int b, .int (c + 1)]) p = some (.lst [.int a, .int b, .int (c + 1)]) := upd_same
    obtain ⟨s1, s2⟩ := stir_ok b0 b1 (show 0 ≤ c + 1 by omega) (by omega)
    refine ix_at (i := 1) h0 hp1 rfl ?_
    refine ⟨_, _, rfl, rfl, s1, ?_⟩
    refine ix_at (i := 2) h0 hp1 rfl ?_
    refine ⟨_, _, rfl, rfl, s2, _, _, rfl, rfl, _, _, rfl, rfl, .inl ⟨_, rfl, _, _, rfl, rfl, (show (0 : Int) < 2147483629 by decide), .ref p, h0, p, _, 1, 1, rfl, rfl, hp1, rfl, ?_⟩⟩
    refine ix_at (i := 1) h0 upd_same rfl ?_
    refine ⟨_, _, rfl, rfl, ⟨by decide, by decide⟩, .inl ⟨_, rfl, .int m, h1, _, _, rfl, rfl, m0, ?_⟩⟩
    refine new _ _ a _ (c + 1) ?_ upd_same (Int.emod_nonneg _ (by decide)) (Int.emod_lt_of_pos _ (by decide)) (by omega) (by omega) (Int.emod_nonneg _ (by omega)) (Int.emod_lt_of_pos _ m0)
    exact fun x o hx e => by rw [upd_ne hx, upd_ne hx]; exact e
theorem StD.consN {H0 H : Hp} {σ : L2.St} {Γ : Ga} (S : StD K H0 H σ Γ) (x : Option V) : StD K H0 H (x :: σ) (.no :: Γ) := by
  refine ⟨by rw [List.length_cons, List.length_cons, S.len], S.sm, fun i d h => ?_, fun i d h => ?_, fun i d h => ?_, fun i j d1 d2 h1 h2 n => ?_⟩
  · cases i with
    | zero => cases h
    | succ i => exact S.arg i d h
  · cases i with
    | zero => cases h
    | succ i => exact S.dat i d h
  · cases i with
    | zero => cases h
    | succ i => exact S.own i d h
  · cases i with
    | zero => cases h1
    | succ i =>
      cases j with
      | zero => cases h2
      | succ j => exact S.apart i j d1 d2 h1 h2 (fun z => n (by rw [z]))
theorem start_cons (x : Str) (N : List Str) (v : V) (vs : List V) : start (x :: N) (v :: vs) = some v :: start N vs := by
  unfold L2.start
  simp
theorem hid_nil (H : Hp) (p : Addr) : hid H p [] = delH H p := by
  funext b
  unfold hid delH
  simp
theorem fr_of {H H2 : Hp} {p : Addr} (h : Same (hid H p []) (hid H2 p [])) : FrP p H H2 := fun b o hb e => by
  have := h b o (by rw [hid_of hb (by simp)]; exact e)
  rw [hid_of hb (by simp)] at this
  exact this
/-- what a drawing def hands back -/
def RtW (K : PySem.W.Frag) (H0 : Hp) (p : Addr) (m : Nat) (D : Ends) (C : PyData → Prop) : Prop := ∀ v d H, Same H0 (hid H p []) → Wl p H m → Dp K (hid H p []) v d → LF d → C d → D.rt v H
theorem DefOk.okW {x : Str} {st : Stmt} {f : Addr} {fd : FuncData} {x0 : Str} {N ps : List Str} {k kk n0 m : Nat} {Rl : List PyData → (PyData → Prop) → Prop} (F : DefOk K mg x st f fd) (Sc : FnScope (x0 :: N) ps (defScope st)) (hp : ps.length = n0 + 1) (hN : N.length = n0 + m) (hl : ∀ ds C, Rl ds C → ds.length = n0)
    (h : ∀ (cdv : Value) (A : Around) (outer : List Env) (s : Shared) (H : Hp) (E : XK), Room k (A.deeper (envOfC x (defScope st) s.heap.objs.size f cdv)) → ∃ t, PSs (cxOf CX0 P w K mg base (x0 :: N) x (defScope st) f cdv A outer s H E).nox (defBody st) t ∧
      ∀ (ds : List PyData) (C : PyData → Prop), Rl ds C → ∀ (H0 : Hp) (p : Addr) (n : Nat) (D : Ends), n + kk ≤ capW → RtW K H0 p (n + kk) D C → GoW K H0 p [] [(0, p)] n t (.no :: slots ds m) D) :
    FnOk P w K mg base CX0 (k + 1) f fd ps (spW K kk Rl) :=
  F.f.ok Sc (fun vs H Q E q => by rw [spW_len q hl, hp]) fun cdv A outer s H vs Q E hr hs => by
    obtain ⟨t, ht, hg⟩ := h cdv A outer s H E hr
    refine ⟨t, ht.nox, ?_⟩
    obtain ⟨p, n, us, ds, C, rfl, wl, hn, hd, hR, q⟩ := hs
    rw [start_cons]
    refine hg ds C hR (hid H p []) p n { nx := fun _ H' => Q .non H', rt := Q } hn (fun v d H2 sm w2 dv lf cd => ?_) _ H ⟨(start_std (by rw [hid_nil]; exact hd) (by rw [hN, hl ds C hR])).consN _, wl, (fun y hy => nomatch hy), fun y hy => ?_⟩
    · rw [hid_nil] at dv
      exact q v d H2 (fr_of sm) w2 dv lf cd
    · have : y = (0, p) := by simpa using hy
      rw [this]
      exact ⟨rfl, rfl⟩
theorem evw_drawI {p : Addr} {L : List (Addr × HO)} {R : List (Nat × Addr)} {Γ : Ga} {te : TE} {k1 : Nat} {a b : Int} {E : XK} {i : Nat} (hi : (i, p) ∈ R) (h : EvW K te p L R Γ (isI a b) k1) (h1 : 0 < a) (h2 : b ≤ 1000000) : EvW K (tCall (sp__law_draw K) [] E (tCons (tVar i) (tCons te tNil))) p L R Γ (isI 0 (b - 1)) (k1 + 1) :=
  evw_callW hi (evwA_1 h) fun ds ⟨d, e1, m, e2, l1, l2⟩ => ⟨m, by omega, by omega, by rw [e1, e2], fun j j0 j1 => ⟨j, rfl, j0, by omega⟩⟩
theorem evw_draw {p : Addr} {L : List (Addr × HO)} {R : List (Nat × Addr)} {Γ : Ga} {E : XK} {i : Nat} {m : Int} (hi : (i, p) ∈ R) (h1 : 0 < m) (h2 : m ≤ 1000000) : EvW K (tCall (sp__law_draw K) [] E (tCons (tVar i) (tCons (tC (.int m)) tNil))) p L R Γ (isI 0 (m - 1)) 1 :=
  evw_drawI hi evw_int h1 h2
abbrev R__law_one_of : List PyData → (PyData → Prop) → Prop := fun ds C => ∃ es : List PyData, ds = [.list es] ∧ es ≠ [] ∧ es.length ≤ 1000 ∧ ∀ d ∈ es, LF d ∧ C d
abbrev sp__law_one_of (K : PySem.W.Frag) : Sp := spW K 1 R__law_one_of
theorem G__law_one_of (T : Txt K mg) : FnOk P w K mg base CX0 2 (He.ga K "_law_one_of") T.e__law_one_of ["_law_well_here", "_law_some"] (sp__law_one_of K) := by
  refine T.d__law_one_of.okW (n0 := 1) (m := 0) sc__law_one_of rfl rfl (fun ds C ⟨es, e, _⟩ => by rw [e]; rfl) fun cdv A outer s H E hr => ⟨_, (pss_one (ps_ret (pe_ix ix_list (pv 1) (pe_call (G__law_draw T) (hr.mono (by decide)) rfl T.d__law_draw.g T.d__law_draw.f.kp (b__law_draw T) .nil pass0 (pa_cons (pv 0) (pa_cons (pe_callB cr_len rfl T.f_len (by decide +kernel) (pa_cons (pv 1) pa_nil)) pa_nil))) (fun _ _ => rfl)))), fun ds C hR H0 p n D hn hq => ?_⟩
  obtain ⟨es, rfl, hne, hl, hC⟩ := hR
  have hpos : 0 < es.length := List.length_pos_iff.mpr hne
  refine gow_ret (k := 0 + (0 + 1)) hn (C := fun d => LF d ∧ C d) (evw_op (C1 := fun d => d = .list es) (evw_arg rfl rfl) (evw_drawI (a := (es.length : Nat)) (b := (es.length : Nat)) List.mem_cons_self (evw_cb (evwA_1 (C1 := fun d => d = .list es) (evw_arg rfl rfl)) fun ds ⟨d, e1, e2⟩ => by
    subst e1 e2
    exact ⟨.int (es.length : Nat), cbv_lenL, .int _, _, rfl, by omega, by omega⟩) (by omega) (by omega)) fun d e e1 ⟨i, e2, h1, h2⟩ => ?_) fun v d H2 s2 w2 dv c => hq v d H2 s2 w2 dv c.1 c.2
  subst e1 e2
  have hi : i.toNat < es.length := by omega
  refine ⟨es[i.toNat], ?_, (hC _ (List.getElem_mem hi)).1, hC _ (List.getElem_mem hi)⟩
  have := opv_ixL (K := K) (ds := es) (i := i.toNat) (List.getElem?_eq_getElem hi)
  rw [show ((i.toNat : Nat) : Int) = i by omega] at this
  exact this
def aheadX (u : Nu) : List Nat := if u.1.1 = 0 then [] else frL u.1
def nuX (u : Nu) : List Nat := if u.2.1 = 0 then frL u.1 else aheadX u ++ (if aheadX u ≠ [] ∧ 0 < u.2.1 then [43] else []) ++ frL u.2 ++ [105]
theorem small_frL {f : Fr} (h : Small f) : (frL f).length ≤ 5 := by
  have key : ∀ i : Int, i.natAbs ≤ 9 → (intL i).length ≤ 2 := fun i hi => by
    unfold intL
    have : TL.numL i.natAbs = [48 + i.natAbs] := TL.numL_lt (by omega)
    rw [this]
    split <;> simp
  have a := key _ h.n
  have b := key f.2 (by have := h.p; have := h.m; omega)
  unfold frL
  split
  · omega
  · simp only [List.length_append, List.length_cons]
    omega
theorem small_ok {f : Fr} (h : Small f) : f.1.natAbs < 10 ^ 400 ∧ f.2.natAbs < 10 ^ 400 := by
  have : (10 : Nat) ≤ 10 ^ 400 := Nat.le_of_lt (Nat.lt_of_lt_of_le (by decide : (10 : Nat) < 10 ^ 2) (Nat.pow_le_pow_right (by decide) (by decide)))
  have := h.n
  have := h.p
  have := h.m
  generalize (10 : Nat) ^ 400 = B at *
  omega
theorem ahead_len' {u : Nu} (h : Small u.1) : (aheadX u).length ≤ 5 := by
  unfold aheadX
  split
  · simp
  · exact small_frL h
theorem nuX_len {u : Nu} (h1 : Small u.1) (h2 : Small u.2) : (nuX u).length ≤ 12 := by
  have a := small_frL h1
  have b := small_frL h2
  have c := ahead_len' h1
  unfold nuX
  split
  · omega
  · simp only [List.length_append, List.length_singleton]
    split <;> simp only [List.length_singleton, List.length_nil] <;> omega
theorem frL_ne (f : Fr) : frL f ≠ [] := by
  have key : ∀ i : Int, intL i ≠ [] := fun i => by
    unfold intL
    split
    · exact fun z => nomatch z
    · exact TL.numL_ne _
  unfold frL
  split
  · exact key _
  · exact fun z => key f.1 (List.append_eq_nil_iff.mp z).1
def R__law_number_text : List PyData → PyData → Prop := fun ds d => ∃ u : Nu, Small u.1 ∧ Small u.2 ∧ ds = [nuD u] ∧ d = sD (nuX u)
abbrev sp__law_number_text (K : PySem.W.Frag) : Sp := spP K 1 R__law_number_text
theorem G__law_number_text (T : Txt K mg) : FnOk P w K mg base CX0 2 (He.ga K "_law_number_text") T.e__law_number_text ["_law_num"] (spP K 1 R__law_number_text) := by
  refine T.d__law_number_text.ok (n := 1) (m := 1) sc__law_number_text rfl rfl fun cdv A outer s H E hr => ⟨_, (pss_cons (ps_if (pt_cmpR (op_eq) (pe_ix ix_tup (pe_ix ix_tup (pv 0) pe_int (fun _ _ => rfl)) pe_int (fun _ _ => rfl)) pe_int (nomark _)) (pss_one (ps_ret (pe_call (G__law_part_text T) (hr.mono (by decide)) rfl T.d__law_part_text.g T.d__law_part_text.f.kp (b__law_part_text T) .nil pass0 (pa_cons (pe_ix ix_tup (pv 0) pe_int (fun _ _ => rfl)) pa_nil)))) pss_nil)
      (pss_cons (ps_set (i := 1) sc__law_number_text.nd rfl (.inl rfl) (pe_ifExp (pt_cmpR (op_ne) (pe_ix ix_tup (pe_ix ix_tup (pv 0) pe_int (fun _ _ => rfl)) pe_int (fun _ _ => rfl)) pe_int (nomark _)) (pe_call (G__law_part_text T) (hr.mono (by decide)) rfl T.d__law_part_text.g T.d__law_part_text.f.kp (b__law_part_text T) .nil pass0 (pa_cons (pe_ix ix_tup (pv 0) pe_int (fun _ _ => rfl)) pa_nil)) pe_str))
      (pss_one (ps_ret (pe_op op_addS (pe_op op_addS (pe_op op_addS (pv 1) (pe_ifExp (PW.pt (pw_and (pt_cmpR (op_ne) (pv 1) pe_str (nomark _)) (pw_and1 (pt_cmpR (op_gt) (pe_ix ix_tup (pe_ix ix_tup (pv 0) pe_int (fun _ _ => rfl)) pe_int (fun _ _ => rfl)) pe_int (nomark _))))) pe_str pe_str)) (pe_call (G__law_part_text T) (hr.mono (by decide)) rfl T.d__law_part_text.g T.d__law_part_text.f.kp (b__law_part_text T) .nil pass0 (pa_cons (pe_ix ix_tup (pv 0) pe_int (fun _ _ => rfl)) pa_nil))) pe_str))))),
    fun ds d hlen0 hR H0 D hq hn => ?_⟩
  obtain ⟨u, s1, s2, rfl, rfl⟩ := hR
  have l1 := small_frL s1
  have l2 := small_frL s2
  have l3 := ahead_len' s1
  obtain ⟨k1, k2⟩ := small_ok s1
  obtain ⟨k3, k4⟩ := small_ok s2
  by_cases h0 : u.2.1 = 0
  · refine go_seq (go_ifT (evb_is (evb_test (ev_op (ev_op (ev_op (ev_arg rfl) ev_int (opv_ixT (i := 1) rfl)) ev_int (opv_ixT (i := 0) rfl)) ev_int opv_eqI)) (decide_eq_true h0)) (go_ret (ev_call (eva_cons (ev_op (ev_arg rfl) ev_int (opv_ixT (i := 0) rfl)) eva_nil) rfl ⟨_, k1, k2, rfl, rfl⟩) (rt_is hq ?_)))
    unfold nuX
    rw [if_pos h0]
  refine go_seq (go_ifF (evb_is (evb_test (ev_op (ev_op (ev_op (ev_arg rfl) ev_int (opv_ixT (i := 1) rfl)) ev_int (opv_ixT (i := 0) rfl)) ev_int opv_eqI)) (decide_eq_false h0)) (go_next (go_nx ?_)))
  refine go_seq (go_set (d := sD (aheadX u)) (ev_if (b := !decide (u.1.1 = 0)) (evb_test (ev_op (ev_op (ev_op (ev_arg rfl) ev_int (opv_ixT (i := 0) rfl)) ev_int (opv_ixT (i := 0) rfl)) ev_int opv_neI)) (fun h => ev_is (ev_call (eva_cons (ev_op (ev_arg rfl) ev_int (opv_ixT (i := 0) rfl)) eva_nil) rfl ⟨_, k1, k2, rfl, rfl⟩) ?_) (fun h => ev_is (ev_lit (x := []) (by decide +kernel)) ?_)) (go_nx ?_))
  · unfold aheadX
    rw [if_neg (by intro z; rw [z] at h; simp at h)]
  · unfold aheadX
    rw [if_pos (by simpa using h)]
  refine go_ret (ev_addS (ev_addS (ev_addS (ev_dat (d := sD (aheadX u)) rfl) (ev_if (d := sD (if aheadX u ≠ [] ∧ 0 < u.2.1 then [43] else [])) (b := !decide (aheadX u = []) && decide (0 < u.2.1)) (evb_and (evb_test (ev_op (ev_dat rfl) (ev_lit (x := []) (by decide +kernel)) opv_neS)) fun _ => (evb_test (ev_op (ev_op (ev_op (ev_arg rfl) ev_int (opv_ixT (i := 1) rfl)) ev_int (opv_ixT (i := 0) rfl)) ev_int opv_B0))) (fun h => ev_is (ev_lit (x := [43]) (by decide +kernel)) ?_) (fun h => ev_is (ev_lit (x := []) (by decide +kernel)) ?_)) ?_) (ev_call (eva_cons (ev_op (ev_arg rfl) ev_int (opv_ixT (i := 1) rfl)) eva_nil) rfl ⟨_, k3, k4, rfl, rfl⟩) ?_) (ev_lit (x := [105]) (by decide +kernel)) ?_) (rt_is hq ?_)
  · rw [Bool.and_eq_true] at h
    rw [if_pos ⟨(fun z => by rw [decide_eq_true z] at h; cases h.1), of_decide_eq_true h.2⟩]
  · rw [if_neg]
    rintro ⟨z1, z2⟩
    rw [decide_eq_false z1, decide_eq_true z2] at h
    cases h
  · split <;> simp only [List.length_singleton, List.length_nil] <;> omega
  · simp only [List.length_append]
    split <;> simp only [List.length_singleton, List.length_nil] <;> omega
  · simp only [List.length_append, List.length_singleton]
    split <;> simp only [List.length_singleton, List.length_nil] <;> omega
  · unfold nuX
    rw [if_neg h0]
end
end K82

/-! part Y -/
set_option Elab.async false
set_option linter.all false
set_option maxRecDepth 100000
set_option maxHeartbeats 4000000
set_option autoImplicit false
set_option exponentiation.threshold 9000
/-! words and spots -/
namespace K82
open PySem PySem.Spec PyProof.Rows L2
open SX (S S_len S_cat S_inj num_S lens join_S split_S)
section
variable {P : Program} {w : World} {K : PySem.W.Frag} {mg : Str → Option Value} {base : Heap}

theorem small_red {n m : Int} (h1 : n.natAbs ≤ 9) (h2 : 0 < m) (h3 : m ≤ 9) : Small (reduc n m) := by
  have hb := reduc_le n m
  have hg : 0 < Nat.gcd n.natAbs m.natAbs := Nat.gcd_pos_of_pos_right _ (by omega)
  have hp : 0 < (reduc n m).2 := by
    have d2 : ((Nat.gcd n.natAbs m.natAbs : Nat) : Int) ∣ m := Int.ofNat_dvd_left.mpr (Nat.gcd_dvd_right _ _)
    show 0 < m / ((Nat.gcd n.natAbs m.natAbs : Nat) : Int)
    exact Int.ediv_pos_of_pos_of_dvd h2 (by omega) d2
  exact ⟨by omega, hp, by omega⟩
theorem nine_lt : (9 : Nat) < 2 ^ 8000 := Nat.lt_of_lt_of_le (by decide : (9 : Nat) < 2 ^ 4) (Nat.pow_le_pow_right (by decide) (by decide))
section
variable {p : Addr} {L : List (Addr × HO)} {R : List (Nat × Addr)} {Γ : Ga} {ta tb : TE} {k1 k2 : Nat} {a b c d : Int} {E : XK}
theorem evw_part (ha : EvW K ta p L R Γ (isI a b) k1) (hb : EvW K tb p L R Γ (isI c d) k2) (h1 : -9 ≤ a) (h2 : b ≤ 9) (h3 : 0 < c) (h4 : d ≤ 9) : EvW K (tCall (sp__law_part K) [] E (tCons ta (tCons tb tNil))) p L R Γ isF (k1 + k2) :=
  evw_callP (evwA_2 ha hb) fun ds ⟨x, y, e, ⟨i, e1, i1, i2⟩, ⟨j, e2, j1, j2⟩⟩ => by
    subst e e1 e2
    exact ⟨rfl, _, ⟨i, j, by omega, Nat.lt_of_le_of_lt (by omega) nine_lt, rfl, rfl⟩, lf_fr _, _, rfl, small_red (by omega) (by omega) (by omega)⟩
theorem evw_01 {x y : Int} (h : Small (x, y)) : EvW K (tTup (tCons (tC (.int x)) (tCons (tC (.int y)) tNil))) p L R Γ isF 0 := evw_pure (ev_tup2 ev_int ev_int) (lf_fr (x, y)) ⟨(x, y), rfl, h⟩
def isP : PyData → Prop := fun d => ∃ u : Nu, d = nuD u ∧ Small u.1 ∧ Small u.2
theorem evw_pair (ha : EvW K ta p L R Γ isF k1) (hb : EvW K tb p L R Γ isF k2) : EvW K (tTup (tCons ta (tCons tb tNil))) p L R Γ isP (k1 + k2) :=
  evw_tup (evwA_2 ha hb) fun ds ⟨x, y, e, ⟨u, e1, s1⟩, ⟨v, e2, s2⟩⟩ => by
    subst e e1 e2
    exact ⟨by simp, (u, v), rfl, s1, s2⟩
theorem evw_nt (h : EvW K ta p L R Γ isP k1) : EvW K (tCall (sp__law_number_text K) [] E (tCons ta tNil)) p L R Γ (isS 12) k1 :=
  evw_callP (evwA_1 h) fun ds ⟨x, e, ⟨u, e1, s1, s2⟩⟩ => by
    subst e e1
    exact ⟨rfl, _, ⟨u, s1, s2, rfl, rfl⟩, .str _, _, rfl, nuX_len s1 s2⟩
end
abbrev R_txt : List PyData → (PyData → Prop) → Prop := fun ds C => ds = [] ∧ ∀ x : List Nat, x.length ≤ 12 → C (sD x)
abbrev sp__law_word (K : PySem.W.Frag) : Sp := spW K 10 R_txt
abbrev sp__law_spot (K : PySem.W.Frag) : Sp := spW K 10 R_txt
theorem s01 : Small (0, 1) := ⟨by decide, by decide, by decide⟩
theorem s11 : Small (1, 1) := ⟨by decide, by decide, by decide⟩
theorem G__law_word (T : Txt K mg) : FnOk P w K mg base CX0 3 (He.ga K "_law_word") T.e__law_word ["_law_well_here"] (sp__law_word K) := by
  refine T.d__law_word.okW (n0 := 0) (m := 2) sc__law_word rfl rfl (fun ds C ⟨e, _⟩ => by rw [e]; rfl) fun cdv A outer s H E hr => ⟨_, (pss_cons (ps_set (i := 1) sc__law_word.nd rfl (.inl rfl) (pe_call (G__law_part T) (hr.mono (by decide)) rfl T.d__law_part.g T.d__law_part.f.kp (b__law_part T) .nil pass0 (pa_cons (pe_op op_sub (pe_call (G__law_draw T) (hr.mono (by decide)) rfl T.d__law_draw.g T.d__law_draw.f.kp (b__law_draw T) .nil pass0 (pa_cons (pv 0) (pa_cons pe_int pa_nil))) pe_int) (pa_cons (pe_op op_add pe_int (pe_call (G__law_draw T) (hr.mono (by decide)) rfl T.d__law_draw.g T.d__law_draw.f.kp (b__law_draw T) .nil pass0 (pa_cons (pv 0) (pa_cons pe_int pa_nil)))) pa_nil))))
      (pss_cons (ps_set (i := 2) sc__law_word.nd rfl (.inl rfl) (pe_ifExp (pt_cmpR (op_eq) (pe_call (G__law_draw T) (hr.mono (by decide)) rfl T.d__law_draw.g T.d__law_draw.f.kp (b__law_draw T) .nil pass0 (pa_cons (pv 0) (pa_cons pe_int pa_nil))) pe_int (nomark _)) (pe_call (G__law_part T) (hr.mono (by decide)) rfl T.d__law_part.g T.d__law_part.f.kp (b__law_part T) .nil pass0 (pa_cons (pe_op op_sub (pe_call (G__law_draw T) (hr.mono (by decide)) rfl T.d__law_draw.g T.d__law_draw.f.kp (b__law_draw T) .nil pass0 (pa_cons (pv 0) (pa_cons pe_int pa_nil))) pe_int) (pa_cons (pe_op op_add pe_int (pe_call (G__law_draw T) (hr.mono (by decide)) rfl T.d__law_draw.g T.d__law_draw.f.kp (b__law_draw T) .nil pass0 (pa_cons (pv 0) (pa_cons pe_int pa_nil)))) pa_nil))) (pe_tup (pa_cons pe_int (pa_cons pe_int pa_nil)))))
      (pss_one (ps_ret (pe_call (G__law_number_text T) (hr.mono (by decide)) rfl T.d__law_number_text.g T.d__law_number_text.f.kp (b__law_number_text T) .nil pass0 (pa_cons (pe_tup (pa_cons (pv 1) (pa_cons (pv 2) pa_nil))) pa_nil)))))), fun ds C hR H0 p n D hn hq => ?_⟩
  obtain ⟨rfl, hC⟩ := hR
  have me : (0, p) ∈ [(0, p)] := List.mem_cons_self
  have ne : ∀ i : Nat, i ≠ 0 → ∀ x ∈ [(0, p)], x.1 ≠ i := fun i hi x hx => by
    have : x = (0, p) := by simpa using hx
    rw [this]
    exact Ne.symm hi
  refine gow_seq (gow_set (by omega) (ne _ (by decide)) (evw_part (evw_sub (evw_draw me (by decide) (by decide)) evw_int) (evw_add evw_int (evw_draw me (by decide) (by decide))) (by decide) (by decide) (by decide) (by decide)) fun d ⟨u, e1, su⟩ => gow_nx ?_)
  subst e1
  refine gow_seq (gow_set (k := 0 + 1 + 0 + (0 + 1 + 0 + (0 + 1))) (by omega) (ne _ (by decide)) (evw_if (evwb_test (evw_eqI (evw_draw me (by decide) (by decide)) evw_int)) (evw_part (evw_sub (evw_draw me (by decide) (by decide)) evw_int) (evw_add evw_int (evw_draw me (by decide) (by decide))) (by decide) (by decide) (by decide) (by decide)) (evw_imp (evw_01 s01) (fun _ h => h) (by omega))) fun d ⟨v, e2, sv⟩ => gow_nx ?_)
  subst e2
  exact gow_ret (by omega) (evw_nt (evw_pair (evw_dat rfl ⟨u, rfl, su⟩) (evw_dat rfl ⟨v, rfl, sv⟩))) fun v d H2 s2 w2 dv ⟨x, e, hx⟩ => hq v d H2 s2 (w2.mono (by omega)) dv (by rw [e]; exact .str _) (by rw [e]; exact hC x hx)
theorem G__law_spot (T : Txt K mg) : FnOk P w K mg base CX0 3 (He.ga K "_law_spot") T.e__law_spot ["_law_well_here"] (sp__law_spot K) := by
  refine T.d__law_spot.okW (n0 := 0) (m := 3) sc__law_spot rfl rfl (fun ds C ⟨e, _⟩ => by rw [e]; rfl) fun cdv A outer s H E hr => ⟨_, (pss_cons (ps_set (i := 1) sc__law_spot.nd rfl (.inl rfl) (pe_op op_add pe_int (pe_call (G__law_draw T) (hr.mono (by decide)) rfl T.d__law_draw.g T.d__law_draw.f.kp (b__law_draw T) .nil pass0 (pa_cons (pv 0) (pa_cons pe_int pa_nil)))))
      (pss_cons (ps_par (i := 2) (j := 3) rfl sc__law_spot.nd rfl rfl (by decide) rfl rfl (pa_cons (pe_call (G__law_part T) (hr.mono (by decide)) rfl T.d__law_part.g T.d__law_part.f.kp (b__law_part T) .nil pass0 (pa_cons (pe_op op_add (pe_op op_sub (pe_call (G__law_draw T) (hr.mono (by decide)) rfl T.d__law_draw.g T.d__law_draw.f.kp (b__law_draw T) .nil pass0 (pa_cons (pv 0) (pa_cons (pe_op op_sub (pe_op op_mulW pe_int (pv 1)) pe_int) pa_nil))) (pv 1)) pe_int) (pa_cons (pv 1) pa_nil))) (pa_cons (pe_tup (pa_cons pe_int (pa_cons pe_int pa_nil))) pa_nil)) (by rfl))
      (pss_cons (ps_if (pt_cmpR (op_eq) (pe_call (G__law_draw T) (hr.mono (by decide)) rfl T.d__law_draw.g T.d__law_draw.f.kp (b__law_draw T) .nil pass0 (pa_cons (pv 0) (pa_cons pe_int pa_nil))) pe_int (nomark _)) (pss_one (ps_set (i := 3) sc__law_spot.nd rfl (.inl rfl) (pe_tup (pa_cons pe_int (pa_cons pe_int pa_nil))))) pss_nil)
      (pss_one (ps_ret (pe_call (G__law_number_text T) (hr.mono (by decide)) rfl T.d__law_number_text.g T.d__law_number_text.f.kp (b__law_number_text T) .nil pass0 (pa_cons (pe_ifExp (pt_cmpR (op_eq) (pe_call (G__law_draw T) (hr.mono (by decide)) rfl T.d__law_draw.g T.d__law_draw.f.kp (b__law_draw T) .nil pass0 (pa_cons (pv 0) (pa_cons pe_int pa_nil))) pe_int (nomark _)) (pe_tup (pa_cons (pv 2) (pa_cons (pv 3) pa_nil))) (pe_tup (pa_cons (pv 3) (pa_cons (pv 2) pa_nil)))) pa_nil))))))), fun ds C hR H0 p n D hn hq => ?_⟩
  obtain ⟨rfl, hC⟩ := hR
  have me : (0, p) ∈ [(0, p)] := List.mem_cons_self
  have ne : ∀ i : Nat, i ≠ 0 → ∀ x ∈ [(0, p)], x.1 ≠ i := fun i hi x hx => by
    have : x = (0, p) := by simpa using hx
    rw [this]
    exact Ne.symm hi
  refine gow_seq (gow_set (by omega) (ne _ (by decide)) (evw_add evw_int (evw_draw me (by decide) (by decide))) fun d ⟨i, e1, i1, i2⟩ => gow_nx ?_)
  subst e1
  have two : ∀ Γ, Γ[1]? = some (.dat (.int i)) → EvW K (tOp (rI0 fun i j => .int (i - j)) (tOp (rI CMulW fun i j => .int (i * j)) (tC (.int 2)) (tVar 1)) (tC (.int 1))) p [] [(0, p)] Γ (isI (2 * i - 1) (2 * i - 1)) 0 := fun Γ h => evw_pure (ev_op (ev_op ev_int (ev_dat h) (opv_I (wide_mul (a := 8) (b := 8) (by decide) (by omega) (by decide) (by decide) (by decide)))) ev_int opv_I0) (.int _) ⟨_, rfl, Int.le_refl _, Int.le_refl _⟩
  have un : ∀ Γ, Γ[1]? = some (.dat (.int i)) → EvW K (tVar 1) p [] [(0, p)] Γ (isI i i) 0 := fun Γ h => evw_dat h ⟨i, rfl, Int.le_refl _, Int.le_refl _⟩
  refine gow_seq (gow_par (by omega) (fun x hx => ⟨ne _ (by decide) x hx, ne _ (by decide) x hx⟩) (evw_part (evw_add (evw_sub (evw_drawI me (two _ rfl) (by omega) (by omega)) (un _ rfl)) evw_int) (un _ rfl) (by omega) (by omega) (by omega) (by omega)) (evw_01 s01) fun d e ⟨u, e1, su⟩ ⟨v, e2, sv⟩ => gow_nx ?_)
  subst e1 e2
  have fin : ∀ (m : Nat) (v : Fr), m + 1 ≤ n + 10 → Small v → GoW K H0 p [] [(0, p)] m ((tRet (tCall (sp__law_number_text K) [] E0 (tCons (tIf (tTest (tOp rEq (tCall (sp__law_draw K) [] E0 (tCons (tVar 0) (tCons (tC (.int 2)) tNil))) (tC (.int 0)))) (tTup (tCons (tVar 2) (tCons (tVar 3) tNil))) (tTup (tCons (tVar 3) (tCons (tVar 2) tNil)))) tNil)))) [.no, .dat (.int i), .dat (frD u), .dat (frD v)] D := fun m v hm sv => gow_ret (k := 0 + 1 + 0 + (0 + 0)) (by omega) (evw_nt (evw_if (evwb_test (evw_eqI (evw_draw me (by decide) (by decide)) evw_int)) (evw_pair (evw_dat rfl ⟨u, rfl, su⟩) (evw_dat rfl ⟨v, rfl, sv⟩)) (evw_pair (evw_dat rfl ⟨v, rfl, sv⟩) (evw_dat rfl ⟨u, rfl, su⟩)))) fun v d H2 s2 w2 dv ⟨x, e, hx⟩ => hq v d H2 s2 (w2.mono (by omega)) dv (by rw [e]; exact .str _) (by rw [e]; exact hC x hx)
  exact gow_seq (gow_if (by omega) (evwb_test (evw_eqI (evw_draw me (by decide) (by decide)) evw_int)) (gow_set (by omega) (ne _ (by decide)) (evw_01 s11) fun d ⟨v', e3, sv'⟩ => by
    subst e3
    exact gow_nx (fin _ v' (by omega) sv')) (gow_next (gow_nx (fin _ v (by omega) sv))))
end
end K82

/-! part Z -/
set_option Elab.async false
set_option linter.all false
set_option maxRecDepth 100000
set_option maxHeartbeats 4000000
set_option autoImplicit false
set_option exponentiation.threshold 9000
/-! bent words, lines -/
namespace K82
open PySem PySem.Spec PyProof.Rows L2
open SX (S S_len S_cat S_inj num_S lens join_S split_S)
section
variable {P : Program} {w : World} {K : PySem.W.Frag} {mg : Str → Option Value} {base : Heap}

def rEqPl (K : PySem.W.Frag) : R2 := fun x y H Q => ∃ d e, Dp K H x d ∧ Dp K H y e ∧ d.plain = true ∧ e.plain = true ∧ d.depth ≤ 64 ∧ Q (.bl (PyData.eqv d e)) H
def rNePl (K : PySem.W.Frag) : R2 := fun x y H Q => ∃ d e, Dp K H x d ∧ Dp K H y e ∧ d.plain = true ∧ e.plain = true ∧ d.depth ≤ 64 ∧ Q (.bl (!PyData.eqv d e)) H
theorem op_eqPl {X : Cx} (hu : X.A.units + 64 < cLine) : OpR X (compareOp .Eq) (rEqPl X.K) := by
  rintro pins s σ H x y v u Q I rx ry ⟨d, e, hd, he, sd, se, dp, q⟩
  obtain ⟨as, r1⟩ := Dp.reads I d x v hd rx
  obtain ⟨bs, r2⟩ := Dp.reads I e y u he ry
  exact SeqAt.eq_plain r1 r2 sd se (by omega) ⟨.bl _, H, I, rfl, q⟩
theorem op_nePl {X : Cx} (hu : X.A.units + 64 < cLine) : OpR X (compareOp .NotEq) (rNePl X.K) := by
  rintro pins s σ H x y v u Q I rx ry ⟨d, e, hd, he, sd, se, dp, q⟩
  obtain ⟨as, r1⟩ := Dp.reads I d x v hd rx
  obtain ⟨bs, r2⟩ := Dp.reads I e y u he ry
  exact SeqAt.ne_plain r1 r2 sd se (by omega) ⟨.bl _, H, I, rfl, q⟩
theorem pl_strs (ws : List (List Nat)) : PyData.plain (.list (ws.map sD)) = true ∧ PyData.depth (.list (ws.map sD)) ≤ 1 := by
  have h1 : PyData.plainAll (ws.map sD) = true := by
    induction ws with
    | nil => rfl
    | cons y r ih => simp [PyData.plainAll, PyData.plain, ih]
  have h2 : PyData.depthAll (ws.map sD) ≤ 0 := by
    clear h1
    induction ws with
    | nil => simp [PyData.depthAll]
    | cons y r ih => simp [PyData.depthAll, PyData.depth]; omega
  exact ⟨by simp only [PyData.plain]; exact h1, by simp only [PyData.depth]; omega⟩
theorem evb_nil {Γ : Ga} {te : TE} {ws : List (List Nat)} (h : EvG K te Γ (.list (ws.map sD))) : EvB K (tTest (tOp (rEqPl K) te (tLst tNil))) Γ (decide (ws.map sD = [])) := evb_test (ev_op h ev_lst0 fun H x y hx hy Q q => by
  obtain ⟨p1, p2⟩ := pl_strs ws
  refine ⟨_, _, hx, hy, p1, rfl, Nat.le_trans p2 (by decide), ?_⟩
  rw [eqv_nil]
  exact q _ H (Same.refl H) (.bl _))
abbrev stV (y : List Nat) : V := .str (S y)
theorem dp_strs {H : Hp} (ws : List (List Nat)) : DpAll K H (ws.map stV) (ws.map sD) := by
  induction ws with
  | nil => exact .nil
  | cons y r ih => exact .cons (.str _) ih
theorem dp_strsI {H : Hp} {ws : List (List Nat)} {vs : List V} (h : DpAll K H vs (ws.map sD)) : vs = ws.map stV := by
  have e : ws.map sD = (ws.map S).map PyData.str := by rw [List.map_map]; rfl
  rw [e] at h
  rw [DpAll.strsI h, List.map_map]
  rfl
section
variable {H0 H H2 : Hp} {p q : Addr} {L L' : List (Addr × HO)} {R : List (Nat × Addr)} {n m k : Nat} {σ : L2.St} {Γ : Ga} {ta tb te : TE} {ds es : List PyData} {D : Ends}
theorem evf_cat (h1 : EvF K ta Γ ds) (h2 : EvF K tb Γ es) (l1 : ∀ d ∈ ds, LF d) (hl : ds.length + es.length ≤ 1000000) : EvF K (tOp rCat ta tb) Γ (ds ++ es) := fun H0 σ H S Q z =>
  h1 H0 σ H S _ fun a xs H1 ha s1 hxs dx => h2 H0 σ H1 (S.same s1) _ fun b ys H2 hb s2 hys dy => by
    refine ⟨a, b, xs, ys, rfl, rfl, s2 _ _ hxs, hys, small_line (by rw [DpAll.length dx, DpAll.length dy]; exact hl), fun c hc => ?_⟩
    exact z c _ _ (Same.free s1 (Same.free s2 hc)) ((s1.trans s2).trans (Same.new hc)) upd_same (DpAll.same (Same.new hc) (DpAll.append (DpAll.same s2 dx) dy))
theorem FrP.free {q : Addr} (f : FrP p H H2) (w : Wl p H n) (w2 : Wl p H2 m) (h : H2 q = none) : H q = none := by
  obtain ⟨o, ho⟩ := w2.ex
  cases e : H q with
  | none => rfl
  | some x =>
    have nq : q ≠ p := fun z => by rw [z, ho] at h; cases h
    rw [f q x nq e] at h
    cases h
/-- a new list is one of the special ones -/
theorem StW.addL {xs : List V} (St : StW K H0 p L R n H σ Γ) (hq : H q = none) (sm : Same H H2) (h2 : H2 q = some (.lst xs)) : StW K H0 p ((q, .lst xs) :: L) R n H2 σ Γ := by
  have w2 := St.wl.same sm
  have S2 := St.step (FrP.of sm) w2
  obtain ⟨o, ho⟩ := St.wl.ex
  have nq : q ≠ p := fun z => by rw [z, ho] at hq; cases hq
  refine ⟨St.sd.same fun b u hb => ?_, w2, fun x hx => ?_, St.rf⟩
  · obtain ⟨a1, a2, a3⟩ := hid_some hb
    have nb : b ≠ q := fun z => by rw [z, hq] at a3; cases a3
    rw [hid_of a1]
    · exact sm b u a3
    · rw [List.map_cons]
      intro z
      rcases List.mem_cons.mp z with z | z
      · exact nb z
      · exact a2 z
  · rcases List.mem_cons.mp hx with z | z
    · rw [z]
      exact ⟨h2, nq, xs, rfl⟩
    · exact S2.pin x z
theorem StW.setR {i : Nat} (St : StW K H0 p L R n H σ Γ) (hi : i < Γ.length) (hR : ∀ x ∈ R, x.1 ≠ i) : StW K H0 p L ((i, q) :: R) n H (σ.set i (some (.ref q))) (Γ.set i .no) := by
  refine ⟨St.sd.setN _, St.wl, St.pin, fun x hx => ?_⟩
  rcases List.mem_cons.mp hx with z | z
  · rw [z]
    exact ⟨List.getElem?_set_self (by rw [St.sd.len]; exact hi), List.getElem?_set_self hi⟩
  · rw [List.getElem?_set_ne (Ne.symm (hR x z)), List.getElem?_set_ne (Ne.symm (hR x z))]
    exact St.rf x z
/-- a special list is changed -/
theorem StW.mutL {xs : List V} (St : StW K H0 p L R n H σ Γ) (hq : q ∈ L.map (·.1)) (ha : ∀ a, a ∈ L'.map (·.1) ↔ a ∈ L.map (·.1)) (hL : ∀ x ∈ L', (upd H q (.lst xs)) x.1 = some x.2 ∧ x.1 ≠ p ∧ ∃ ys, x.2 = .lst ys) : StW K H0 p L' R n (upd H q (.lst xs)) σ Γ := by
  have nq : q ≠ p := by
    obtain ⟨x, hx, e⟩ := List.mem_map.mp hq
    rw [← e]
    exact (St.pin x hx).2.1
  refine ⟨?_, ?_, hL, St.rf⟩
  · have e : hid (upd H q (.lst xs)) p L' = hid H p L := by
      funext b
      by_cases hb : b = p ∨ b ∈ L.map (·.1)
      · have hb' : b = p ∨ b ∈ L'.map (·.1) := hb.imp id (ha b).mpr
        unfold hid
        rw [if_pos hb, if_pos hb']
      · have hb' : ¬ (b = p ∨ b ∈ L'.map (·.1)) := fun z => hb (z.imp id (ha b).mp)
        unfold hid
        rw [if_neg hb, if_neg hb', upd_ne (fun z => hb (.inr (by rw [z]; exact hq)))]
    rw [e]
    exact St.sd
  · obtain ⟨a, b, c, h1, h2⟩ := St.wl
    exact ⟨a, b, c, by rw [upd_ne (Ne.symm nq)]; exact h1, h2⟩
theorem gow_ifT {tt : TT} {t1 t2 : TS} (h : EvB K tt Γ true) (h1 : GoW K H0 p L R n t1 Γ D) : GoW K H0 p L R n (tIfS tt t1 t2) Γ D := fun σ H St => h H0 σ H St.pure _ fun H1 sm => h1 σ H1 (St.step (FrP.of sm) (St.wl.same sm))
theorem gow_ifF {tt : TT} {t1 t2 : TS} (h : EvB K tt Γ false) (h1 : GoW K H0 p L R n t2 Γ D) : GoW K H0 p L R n (tIfS tt t1 t2) Γ D := fun σ H St => h H0 σ H St.pure _ fun H1 sm => h1 σ H1 (St.step (FrP.of sm) (St.wl.same sm))
theorem gow_retF (h : EvF K te Γ es) (l : ∀ d ∈ es, LF d) (z : ∀ q xs H H2, Same H0 (hid H p L) → Wl p H n → Same H H2 → Wl p H2 n → H q = none → H2 q = some (.lst xs) → DpAll K H2 xs es → D.rt (.ref q) H2) : GoW K H0 p L R n (tRet te) Γ D := fun σ H St =>
  h H0 σ H St.pure _ fun q xs H2 hq sm h2 hd => z q xs H H2 St.sd.sm St.wl sm (St.wl.same sm) hq h2 hd
end
def sp__law_bent_word (K : PySem.W.Frag) : Sp := fun vs H Q _ => ∃ (p : Addr) (n : Nat) (v0 : V) (ws : List (List Nat)), vs = [.ref p, v0] ∧ Wl p H n ∧ n + 3 ≤ capW ∧ Dp K (delH H p) v0 (.list (ws.map sD)) ∧ ws.length ≤ 100 ∧ (∀ y ∈ ws, y.length ≤ 20) ∧
  ∀ (q : Addr) (ws' : List (List Nat)) (H2 : Hp), FrP p H H2 → Wl p H2 (n + 3) → H q = none → H2 q = some (.lst (ws'.map stV)) → ws'.length ≤ ws.length + 1 → (∀ y ∈ ws', y.length ≤ 20) → Q (.ref q) H2
def oddL : List (List Nat) := [[], [50, 47, 52], [105], [45, 48], [49, 47, 49], [48, 49], [48, 43, 49, 105], [49, 105, 43, 49], [49, 58], [120], [43, 49], [51, 47], [49, 47, 45, 50], [49, 105, 58], [50, 58], [48]]
theorem shp_strs {ws : List (List Nat)} (h : ∀ y ∈ ws, ∀ c ∈ y, c < 1114112) : True := trivial
theorem len_mem {ws : List (List Nat)} (h : ∀ y ∈ ws, y.length ≤ 20) (a : Nat) : (∀ y ∈ ws.take a, y.length ≤ 20) ∧ (∀ y ∈ ws.drop a, y.length ≤ 20) := ⟨fun y hy => h y (List.mem_of_mem_take hy), fun y hy => h y (List.mem_of_mem_drop hy)⟩
theorem all_app {a b : List (List Nat)} (h1 : ∀ y ∈ a, y.length ≤ 20) (h2 : ∀ y ∈ b, y.length ≤ 20) : ∀ y ∈ a ++ b, y.length ≤ 20 := fun y hy => (List.mem_append.mp hy).elim (h1 y) (h2 y)
theorem all_one {x : List Nat} (h : x.length ≤ 20) : ∀ y ∈ [x], y.length ≤ 20 := fun y hy => by rw [List.mem_singleton.mp hy]; exact h
theorem G__law_bent_word (T : Txt K mg) : FnOk P w K mg base CX0 3 (He.ga K "_law_bent_word") T.e__law_bent_word ["_law_well_here", "_law_words"] (sp__law_bent_word K) := by
  refine T.d__law_bent_word.f.ok sc__law_bent_word (fun vs H Q E q => by
    obtain ⟨p, n, v0, ws, rfl, _⟩ := q
    rfl) fun cdv A outer s H vs Q E hr hs => ⟨_, PSs.nox (X := cxOf CX0 P w K mg base _ _ _ _ cdv A outer s H E) (pss_cons (ps_if (pt_cmpR (op_eqPl (u64 hr)) (pv 1) (pe_lst pa_nil) (nomark _)) (pss_one (ps_ret (pe_lst (pa_cons pe_str pa_nil)))) pss_nil)
      (pss_cons (ps_par (i := 2) (j := 3) rfl sc__law_bent_word.nd rfl rfl (by decide) rfl rfl (pa_cons (pe_call (G__law_draw T) (hr.mono (by decide)) rfl T.d__law_draw.g T.d__law_draw.f.kp (b__law_draw T) .nil pass0 (pa_cons (pv 0) (pa_cons (pe_callB cr_len rfl T.f_len (by decide +kernel) (pa_cons (pv 1) pa_nil)) pa_nil))) (pa_cons (pe_call (G__law_draw T) (hr.mono (by decide)) rfl T.d__law_draw.g T.d__law_draw.f.kp (b__law_draw T) .nil pass0 (pa_cons (pv 0) (pa_cons pe_int pa_nil))) pa_nil)) (by rfl))
      (pss_cons (ps_set (i := 4) sc__law_bent_word.nd rfl (.inl rfl) (pe_call (G__law_one_of T) (hr.mono (by decide)) rfl T.d__law_one_of.g T.d__law_one_of.f.kp (b__law_one_of T) .nil pass0 (pa_cons (pv 0) (pa_cons (pe_lst (pa_cons pe_str (pa_cons pe_str (pa_cons pe_str (pa_cons pe_str (pa_cons pe_str (pa_cons pe_str (pa_cons pe_str (pa_cons pe_str (pa_cons pe_str (pa_cons pe_str (pa_cons pe_str (pa_cons pe_str (pa_cons pe_str (pa_cons pe_str (pa_cons pe_str (pa_cons pe_str pa_nil))))))))))))))))) pa_nil))))
      (pss_cons (ps_if (pt_cmpR (op_lt) (pv 3) pe_int (nomark _)) (pss_one (ps_ret (pe_op op_cat (pe_op op_cat (pe_slice sl_list (pv 1) po_none (po_some (pv 2))) (pe_lst (pa_cons (pv 4) pa_nil))) (pe_slice sl_list (pv 1) (po_some (pe_op op_add (pv 2) pe_int)) po_none)))) pss_nil)
      (pss_cons (ps_if (pt_cmpR (op_eq) (pv 3) pe_int (nomark _)) (pss_one (ps_ret (pe_op op_cat (pe_slice sl_list (pv 1) po_none (po_some (pv 2))) (pe_slice sl_list (pv 1) (po_some (pe_op op_add (pv 2) pe_int)) po_none)))) pss_nil)
      (pss_cons (ps_if (pt_cmpR (op_eq) (pv 3) pe_int (nomark _)) (pss_one (ps_ret (pe_op op_cat (pe_slice sl_list (pv 1) po_none (po_some (pe_op op_add (pv 2) pe_int))) (pe_slice sl_list (pv 1) (po_some (pv 2)) po_none)))) pss_nil)
      (pss_cons (ps_if (pt_cmpR (op_eq) (pv 3) pe_int (nomark _)) (pss_one (ps_ret (pe_op op_cat (pe_op op_cat (pe_slice sl_list (pv 1) po_none (po_some (pv 2))) (pe_lst (pa_cons (pe_slice sl_str (pe_ix ix_list (pv 1) (pv 2) (fun _ _ => rfl)) po_none (po_some (pe_un un_neg pe_int))) pa_nil))) (pe_slice sl_list (pv 1) (po_some (pe_op op_add (pv 2) pe_int)) po_none)))) pss_nil)
      (pss_one (ps_ret (pe_op op_cat (pe_op op_cat (pe_slice sl_list (pv 1) po_none (po_some (pe_op op_add (pv 2) pe_int))) (pe_lst (pa_cons (pe_ifExp (pt_cmpR (op_eq) (pv 3) pe_int (nomark _)) (pv 4) pe_str) pa_nil))) (pe_slice sl_list (pv 1) (po_some (pe_op op_add (pv 2) pe_int)) po_none))))))))))), ?_⟩
  obtain ⟨p, n, v0, ws, rfl, wl, hn, hd, hl, hy, z⟩ := hs
  have me : (0, p) ∈ [(0, p)] := List.mem_cons_self
  have ne : ∀ i : Nat, i ≠ 0 → ∀ x ∈ [(0, p)], x.1 ≠ i := fun i hi x hx => by
    have : x = (0, p) := by simpa using hx
    rw [this]
    exact Ne.symm hi
  have S0 : StW K (hid H p []) p [] [(0, p)] n H (start ["_law_well_here", "_law_words", "_law_at", "_law_way", "_law_odd"] [.ref p, v0]) (.no :: slots [.list (ws.map sD)] 3) := by
    rw [start_cons]
    refine ⟨(start_std (.cons (by rw [hid_nil]; exact hd) .nil) rfl).consN _, wl, (fun y hy => nomatch hy), fun y hy => ?_⟩
    have : y = (0, p) := by simpa using hy
    rw [this]
    exact ⟨rfl, rfl⟩
  -- handing back
  have back : ∀ (m : Nat) (te : TE) (Γ : Ga) (es : List (List Nat)), m ≤ n + 3 → EvF K te Γ (es.map sD) → es.length ≤ ws.length + 1 → (∀ y ∈ es, y.length ≤ 20) → GoW K (hid H p []) p [] [(0, p)] m (tRet te) Γ { nx := fun _ H' => Q .non H', rt := Q } := fun m te Γ es hm he h1 h2 => gow_retF he (lf_strs _) fun q xs H1 H2 s1 w1 sm w2 hq h3 hxs => by
    rw [dp_strsI hxs] at h3
    exact z q es H2 ((fr_of s1).trans (FrP.of sm)) (w2.mono hm) ((fr_of s1).free wl w1 hq) h3 h1 h2
  have sw : ∀ Γ, Γ[1]? = some (.arg (.list (ws.map sD))) → EvG K (tVar 1) Γ (.list (ws.map sD)) := fun Γ h => ev_arg h
  have cmp : ∀ (m : Int) Γ, Γ[3]? = some (.dat (.int m)) → ∀ j : Int, EvB K (tTest (tOp rEq (tVar 3) (tC (.int j)))) Γ (decide (m = j)) := fun m Γ h j => evb_test (ev_op (ev_dat h) ev_int opv_eqI)
  have go : GoW K (hid H p []) p [] [(0, p)] n (tSeq (tIfS (tTest (tOp (rEqPl K) (tVar 1) (tLst tNil))) (tRet (tLst (tCons (tC (.str "")) tNil))) tNext) (tSeq (tPar 2 3 (tCons (tCall (sp__law_draw K) [] E0 (tCons (tVar 0) (tCons (tCB (rLenD K) (tCons (tVar 1) tNil)) tNil))) (tCons (tCall (sp__law_draw K) [] E0 (tCons (tVar 0) (tCons (tC (.int 8)) tNil))) tNil))) (tSeq (tAsg (tCall (sp__law_one_of K) [] E0 (tCons (tVar 0) (tCons (tLst (tCons (tC (.str "")) (tCons (tC (.str "2/4")) (tCons (tC (.str "i")) (tCons (tC (.str "-0")) (tCons (tC (.str "1/1")) (tCons (tC (.str "01")) (tCons (tC (.str "0+1i")) (tCons (tC (.str "1i+1")) (tCons (tC (.str "1:")) (tCons (tC (.str "x")) (tCons (tC (.str "+1")) (tCons (tC (.str "3/")) (tCons (tC (.str "1/-2")) (tCons (tC (.str "1i:")) (tCons (tC (.str "2:")) (tCons (tC (.str "0")) tNil))))))))))))))))) tNil))) (gName 4)) (tSeq (tIfS (tTest (tOp (rI0 fun i j => .bl (decide (i < j))) (tVar 3) (tC (.int 3)))) (tRet (tOp rCat (tOp rCat (tSl (rSlL K) (tVar 1) tNoPart (tPart (tVar 2))) (tLst (tCons (tVar 4) tNil))) (tSl (rSlL K) (tVar 1) (tPart (tOp (rI0 fun i j => .int (i + j)) (tVar 2) (tC (.int 1)))) tNoPart))) tNext) (tSeq (tIfS (tTest (tOp rEq (tVar 3) (tC (.int 3)))) (tRet (tOp rCat (tSl (rSlL K) (tVar 1) tNoPart (tPart (tVar 2))) (tSl (rSlL K) (tVar 1) (tPart (tOp (rI0 fun i j => .int (i + j)) (tVar 2) (tC (.int 1)))) tNoPart))) tNext) (tSeq (tIfS (tTest (tOp rEq (tVar 3) (tC (.int 4)))) (tRet (tOp rCat (tSl (rSlL K) (tVar 1) tNoPart (tPart (tOp (rI0 fun i j => .int (i + j)) (tVar 2) (tC (.int 1))))) (tSl (rSlL K) (tVar 1) (tPart (tVar 2)) tNoPart))) tNext) (tSeq (tIfS (tTest (tOp rEq (tVar 3) (tC (.int 5)))) (tRet (tOp rCat (tOp rCat (tSl (rSlL K) (tVar 1) tNoPart (tPart (tVar 2))) (tLst (tCons (tSl rSlS (tOp (rIxL K) (tVar 1) (tVar 2)) tNoPart (tPart (tUn (rU fun i => .int (-i)) (tC (.int 1))))) tNil))) (tSl (rSlL K) (tVar 1) (tPart (tOp (rI0 fun i j => .int (i + j)) (tVar 2) (tC (.int 1)))) tNoPart))) tNext) (tRet (tOp rCat (tOp rCat (tSl (rSlL K) (tVar 1) tNoPart (tPart (tOp (rI0 fun i j => .int (i + j)) (tVar 2) (tC (.int 1))))) (tLst (tCons (tIf (tTest (tOp rEq (tVar 3) (tC (.int 6)))) (tVar 4) (tC (.str ""))) tNil))) (tSl (rSlL K) (tVar 1) (tPart (tOp (rI0 fun i j => .int (i + j)) (tVar 2) (tC (.int 1)))) tNoPart)))))))))) (.no :: slots [.list (ws.map sD)] 3) { nx := fun _ H' => Q .non H', rt := Q } := by
    by_cases hws : ws = []
    · exact gow_seq (gow_ifT (evb_is (evb_nil (sw _ rfl)) (decide_eq_true (by rw [hws]; rfl))) (back n _ _ [[]] (by omega) (evf_lst (eva_1 (ev_lit (x := []) (by decide +kernel))) (by simp)) (by simp) (by simp)))
    have wpos : 0 < ws.length := List.length_pos_iff.mpr hws
    refine gow_seq (gow_ifF (evb_is (evb_nil (sw _ rfl)) (decide_eq_false (fun z => hws (List.map_eq_nil_iff.mp z)))) (gow_next (gow_nx ?_)))
    have eln : ∀ Γ, Γ[1]? = some (.arg (.list (ws.map sD))) → EvW K (tCB (rLenD K) (tCons (tVar 1) tNil)) p [] [(0, p)] Γ (isI (ws.length : Nat) (ws.length : Nat)) 0 := fun Γ h => evw_pure (ev_is (ev_cb (eva_1 (ev_arg h)) cbv_lenL) (by rw [List.length_map])) (.int _) ⟨_, rfl, Int.le_refl _, Int.le_refl _⟩
    refine gow_seq (gow_par (by omega) (fun x hx => ⟨ne _ (by decide) x hx, ne _ (by decide) x hx⟩) (evw_drawI me (eln _ rfl) (by omega) (by omega)) (evw_draw me (by decide) (by decide)) fun d e ⟨a, e1, a0, a1⟩ ⟨m, e2, m0, m1⟩ => gow_nx ?_)
    subst e1 e2
    obtain ⟨a, rfl⟩ : ∃ b : Nat, a = (b : Int) := ⟨a.toNat, by omega⟩
    have ha : a < ws.length := by omega
    refine gow_seq (gow_set (C := isS 4) (by omega) (ne _ (by decide)) (evw_callW me (evwA_1 (C1 := fun d => d = .list (oddL.map sD)) (evw_fresh (es := oddL.map sD) (evf_lst (eva_cons (ev_lit (x := []) (by decide +kernel)) (eva_cons (ev_lit (x := [50, 47, 52]) (by decide +kernel)) (eva_cons (ev_lit (x := [105]) (by decide +kernel)) (eva_cons (ev_lit (x := [45, 48]) (by decide +kernel)) (eva_cons (ev_lit (x := [49, 47, 49]) (by decide +kernel)) (eva_cons (ev_lit (x := [48, 49]) (by decide +kernel)) (eva_cons (ev_lit (x := [48, 43, 49, 105]) (by decide +kernel)) (eva_cons (ev_lit (x := [49, 105, 43, 49]) (by decide +kernel)) (eva_cons (ev_lit (x := [49, 58]) (by decide +kernel)) (eva_cons (ev_lit (x := [120]) (by decide +kernel)) (eva_cons (ev_lit (x := [43, 49]) (by decide +kernel)) (eva_cons (ev_lit (x := [51, 47]) (by decide +kernel)) (eva_cons (ev_lit (x := [49, 47, 45, 50]) (by decide +kernel)) (eva_cons (ev_lit (x := [49, 105, 58]) (by decide +kernel)) (eva_cons (ev_lit (x := [50, 58]) (by decide +kernel)) (eva_cons (ev_lit (x := [48]) (by decide +kernel)) eva_nil)))))))))))))))) (by decide)) (lf_strs _) rfl)) fun ds ⟨d, e1, e2⟩ => ⟨oddL.map sD, by rw [e1, e2], by decide, by decide, fun d hd => by
      obtain ⟨o, ho, rfl⟩ := List.mem_map.mp hd
      refine ⟨.str _, o, rfl, ?_⟩
      have : ∀ o ∈ oddL, o.length ≤ 4 := by decide
      exact this o ho⟩) fun d ⟨o, e3, ho⟩ => gow_nx ?_)
    subst e3
    obtain ⟨hy1, hy2⟩ := len_mem hy a
    obtain ⟨hy3, hy4⟩ := len_mem hy (a + 1)
    have g1 : ∀ (i : Nat) (te : TE) Γ, Γ[1]? = some (.arg (.list (ws.map sD))) → EvG K te Γ (.int (i : Nat)) → EvF K (tSl (rSlL K) (tVar 1) tNoPart (tPart te)) Γ ((ws.take i).map sD) := fun i te Γ h h2 => evf_is (evf_slL (ev_arg h) evo_none (evo_some h2)) (by rw [cutD_to, List.map_take])
    have g2 : ∀ (i : Nat) (te : TE) Γ, Γ[1]? = some (.arg (.list (ws.map sD))) → EvG K te Γ (.int (i : Nat)) → EvF K (tSl (rSlL K) (tVar 1) (tPart te) tNoPart) Γ ((ws.drop i).map sD) := fun i te Γ h h2 => evf_is (evf_slL (ev_arg h) (evo_some h2) evo_none) (by rw [cutD_from, List.map_drop])
    have ea : ∀ Γ, Γ[2]? = some (.dat (.int (a : Nat))) → EvG K (tVar 2) Γ (.int (a : Nat)) := fun Γ h => ev_dat h
    have ea1 : ∀ Γ, Γ[2]? = some (.dat (.int (a : Nat))) → EvG K (tOp (rI0 fun i j => .int (i + j)) (tVar 2) (tC (.int 1))) Γ (.int ((a + 1 : Nat) : Int)) := fun Γ h => ev_is (ev_op (ev_dat h) ev_int opv_I0) (by congr 1)
    have lt1 : (ws.take a).length = a := by rw [List.length_take]; omega
    have lt2 : (ws.take (a + 1)).length = a + 1 := by rw [List.length_take]; omega
    have ld1 : (ws.drop a).length = ws.length - a := List.length_drop
    have ld2 : (ws.drop (a + 1)).length = ws.length - (a + 1) := List.length_drop
    have three : ∀ (x : List Nat) (i j : Nat) (ti tj tx : TE) Γ, Γ[1]? = some (.arg (.list (ws.map sD))) → EvG K ti Γ (.int (i : Nat)) → EvG K tj Γ (.int (j : Nat)) → EvG K tx Γ (sD x) → EvF K (tOp rCat (tOp rCat (tSl (rSlL K) (tVar 1) tNoPart (tPart ti)) (tLst (tCons tx tNil))) (tSl (rSlL K) (tVar 1) (tPart tj) tNoPart)) Γ ((ws.take i ++ [x] ++ ws.drop j).map sD) := fun x i j ti tj tx Γ h hi hj hx => by
      have l1 := List.length_take_le i ws
      have l2 : (ws.drop j).length ≤ ws.length := by rw [List.length_drop]; omega
      have t1 : (ws.take i).length ≤ ws.length := by rw [List.length_take]; omega
      refine evf_is (evf_cat (evf_cat (g1 i ti Γ h hi) (evf_lst (eva_1 hx) (by simp)) (lf_strs _) (by rw [List.length_map, List.length_singleton]; omega)) (g2 j tj Γ h hj) (fun d hd => ?_) (by rw [List.length_append, List.length_map, List.length_map, List.length_singleton]; omega)) (by rw [List.map_append, List.map_append]; rfl)
      rcases List.mem_append.mp hd with z | z
      · exact lf_strs _ d z
      · rw [List.mem_singleton.mp z]; exact .str _
    by_cases m3 : m < 3
    · exact gow_seq (gow_ifT (evb_is (evb_test (ev_op (ev_dat (d := .int m) rfl) ev_int opv_B0)) (decide_eq_true m3)) (back _ _ _ (ws.take a ++ [o] ++ ws.drop (a + 1)) (by omega) (three o a (a + 1) _ _ _ _ rfl (ea _ rfl) (ea1 _ rfl) (ev_dat (d := sD o) rfl)) (by rw [List.length_append, List.length_append, lt1, ld2, List.length_singleton]; omega) (all_app (all_app hy1 (all_one (by omega))) hy4)))
    refine gow_seq (gow_ifF (evb_is (evb_test (ev_op (ev_dat (d := .int m) rfl) ev_int opv_B0)) (decide_eq_false m3)) (gow_next (gow_nx ?_)))
    by_cases m4 : m = 3
    · exact gow_seq (gow_ifT (evb_is (cmp m _ rfl 3) (decide_eq_true m4)) (back _ _ _ (ws.take a ++ ws.drop (a + 1)) (by omega) (evf_is (evf_cat (g1 a _ _ rfl (ea _ rfl)) (g2 (a + 1) _ _ rfl (ea1 _ rfl)) (lf_strs _) (by rw [List.length_map, List.length_map, lt1, ld2]; omega)) (by rw [List.map_append])) (by rw [List.length_append, lt1, ld2]; omega) (all_app hy1 hy4)))
    refine gow_seq (gow_ifF (evb_is (cmp m _ rfl 3) (decide_eq_false m4)) (gow_next (gow_nx ?_)))
    by_cases m5 : m = 4
    · exact gow_seq (gow_ifT (evb_is (cmp m _ rfl 4) (decide_eq_true m5)) (back _ _ _ (ws.take (a + 1) ++ ws.drop a) (by omega) (evf_is (evf_cat (g1 (a + 1) _ _ rfl (ea1 _ rfl)) (g2 a _ _ rfl (ea _ rfl)) (lf_strs _) (by rw [List.length_map, List.length_map, lt2, ld1]; omega)) (by rw [List.map_append])) (by rw [List.length_append, lt2, ld1]; omega) (all_app hy3 hy2)))
    refine gow_seq (gow_ifF (evb_is (cmp m _ rfl 4) (decide_eq_false m5)) (gow_next (gow_nx ?_)))
    by_cases m6 : m = 5
    · have hxl := hy _ (List.getElem_mem ha)
      exact gow_seq (gow_ifT (evb_is (cmp m _ rfl 5) (decide_eq_true m6)) (back _ _ _ (ws.take a ++ [ws[a].dropLast] ++ ws.drop (a + 1)) (by omega) (three ws[a].dropLast a (a + 1) _ _ _ _ rfl (ea _ rfl) (ea1 _ rfl) (ev_is (ev_cut (x := ws[a]) (ev_op (ev_arg (d := .list (ws.map sD)) rfl) (ea _ rfl) (opv_ixL (i := a) (by rw [List.getElem?_map, List.getElem?_eq_getElem ha]; rfl))) evo_none (evo_some ev_m1) (by omega)) (by rw [cut_init]))) (by rw [List.length_append, List.length_append, lt1, ld2, List.length_singleton]; omega) (all_app (all_app hy1 (all_one (by rw [List.length_dropLast]; omega))) hy4)))
    refine gow_seq (gow_ifF (evb_is (cmp m _ rfl 5) (decide_eq_false m6)) (gow_next (gow_nx ?_)))
    refine back _ _ _ (ws.take (a + 1) ++ [if m = 6 then o else []] ++ ws.drop (a + 1)) (by omega) (three (if m = 6 then o else []) (a + 1) (a + 1) _ _ _ _ rfl (ea1 _ rfl) (ea1 _ rfl) (ev_if (b := decide (m = 6)) (cmp m _ rfl 6) (fun h => ev_is (ev_dat (d := sD o) rfl) (by rw [if_pos (of_decide_eq_true h)])) (fun h => ev_is (ev_lit (x := []) (by decide +kernel)) (by rw [if_neg (of_decide_eq_false h)])))) (by rw [List.length_append, List.length_append, lt2, ld2, List.length_singleton]; omega) (all_app (all_app hy3 (all_one (by split <;> first | (simp; done) | omega))) hy4)
  exact go _ _ S0
end
end K82

/-! part L -/
set_option Elab.async false
set_option linter.all false
set_option maxRecDepth 100000
set_option maxHeartbeats 4000000
set_option autoImplicit false
set_option exponentiation.threshold 9000
/-! lines -/
namespace K82
open PySem PySem.Spec PyProof.Rows L2
open SX (S S_len S_cat S_inj num_S lens join_S split_S)
section
variable {P : Program} {w : World} {K : PySem.W.Frag} {mg : Str → Option Value} {base : Heap}

section
variable {H0 H H2 : Hp} {p q : Addr} {L L' : List (Addr × HO)} {R R' : List (Nat × Addr)} {n m k : Nat} {σ : L2.St} {Γ Γ' : Ga} {te : TE} {D : Ends} {tb : TS}
theorem StW.relist (St : StW K H0 p L R n H σ Γ) (ha : ∀ a, a ∈ L'.map (·.1) ↔ a ∈ L.map (·.1)) (hL : ∀ x ∈ L', x ∈ L) : StW K H0 p L' R n H σ Γ := by
  refine ⟨?_, St.wl, fun x hx => St.pin x (hL x hx), St.rf⟩
  have e : hid H p L' = hid H p L := by
    funext b
    unfold hid
    by_cases hb : b = p ∨ b ∈ L.map (·.1)
    · rw [if_pos hb, if_pos (hb.imp id (ha b).mpr)]
    · rw [if_neg hb, if_neg (fun z => hb (z.imp id (ha b).mp))]
  rw [e]
  exact St.sd
theorem StW.weak (St : StW K H0 p L R n H σ Γ) (hl : Γ'.length = Γ.length) (h : ∀ (j : Nat) (s : Sl), Γ'[j]? = some s → s ≠ .no → Γ[j]? = some s) (hR : ∀ x ∈ R', x ∈ R) : StW K H0 p L R' n H σ Γ' := by
  refine ⟨St.sd.weak hl h, St.wl, St.pin, fun x hx => ?_⟩
  obtain ⟨a, b⟩ := St.rf x (hR x hx)
  refine ⟨a, ?_⟩
  have hlt : x.1 < Γ'.length := by
    rw [hl]
    exact (List.getElem?_eq_some_iff.mp b).1
  cases hs : Γ'[x.1] with
  | no => rw [List.getElem?_eq_getElem hlt, hs]
  | arg d =>
    have := h x.1 (.arg d) (by rw [List.getElem?_eq_getElem hlt, hs]) (fun z => nomatch z)
    rw [b] at this
    cases this
  | dat d =>
    have := h x.1 (.dat d) (by rw [List.getElem?_eq_getElem hlt, hs]) (fun z => nomatch z)
    rw [b] at this
    cases this
  | own d =>
    have := h x.1 (.own d) (by rw [List.getElem?_eq_getElem hlt, hs]) (fun z => nomatch z)
    rw [b] at this
    cases this
theorem StW.mono (St : StW K H0 p L R n H σ Γ) (h : n ≤ m) : StW K H0 p L R m H σ Γ := ⟨St.sd, St.wl.mono h, St.pin, St.rf⟩
/-- behind a range's bound v -/
def RngK (D : Ends) (i0 : Nat) (tb : TS) (σ : L2.St) (v : V) (H : Hp) : Prop := ∃ j : Int, [v] = [V.int j] ∧ -(2 ^ 62) ≤ j ∧ j < 2 ^ 62 ∧ ∃ W : Nat → Nat → L2.St → Hp → Prop, (∃ m, W 0 m σ H) ∧ ∀ i m σ H, W i m σ H →
      ((Itr 0 j.toNat).stop i H ∧ D.nx σ H) ∨ ((Itr 0 j.toNat).go i H ∧ ∃ N : L2.St → Hp → Prop, (∀ σ' H', N σ' H' → ∃ m', m' < m ∧ W (i + 1) m' σ' H') ∧ ∀ x H', (Itr 0 j.toNat).yld i H x H' → gName i0 x σ H' fun σ2 H2 => tb { D with nx := N, ct := N, bk := D.nx } σ2 H2)
theorem seq_rng {te : TE} {i0 : Nat} {tb u : TS} {D : Ends} {σ : L2.St} {H : Hp} (h : te σ H (fun x H1 => RngK { D with nx := u D } i0 tb σ x H1)) : tSeq (tFor (iRng1 (tCons te tNil)) (gName i0) tb) u D σ H := h
theorem gname_to {i : Nat} {v : V} {σ : L2.St} {H : Hp} {Q : L2.St → Hp → Prop} (h : Q (σ.set i (some v)) H) : gName i v σ H Q := h
/-- for i in range(m), behind m -/
theorem rng_cont {i0 : Nat} {σ : L2.St} {v : V} (I : Nat → L2.St → Hp → Prop) (mm : Nat) (hv : v = .int (mm : Nat)) (hm : mm ≤ 1000000) (h0 : I 0 σ H)
    (hs : ∀ k σ' H', k < mm → I k σ' H' → tb { D with nx := I (k + 1), ct := I (k + 1), bk := D.nx } (σ'.set i0 (some (.int (k : Nat)))) H') (he : ∀ σ' H', I mm σ' H' → D.nx σ' H') :
    RngK D i0 tb σ v H := by
  refine ⟨(mm : Int), by rw [hv], by omega, by omega, fun i m σ H => m = mm - i ∧ i ≤ mm ∧ I i σ H, ⟨mm, by simp, Nat.zero_le _, h0⟩, ?_⟩
  rintro i m σ' H' ⟨rfl, hle, hi⟩
  rw [Int.toNat_natCast]
  by_cases hlt : i < mm
  · refine .inr ⟨hlt, I (i + 1), fun σ2 H2 h => ⟨mm - (i + 1), by omega, rfl, hlt, h⟩, fun x H2 y => ?_⟩
    obtain ⟨rfl, rfl⟩ := y
    have e : (0 : Int) + (i : Nat) = (i : Nat) := by omega
    show tb _ (σ'.set i0 (some (.int (0 + (i : Nat))))) _
    rw [e]
    exact hs i σ' _ hlt hi
  · have e : i = mm := by omega
    subst e
    exact .inl ⟨Nat.le_refl _, he σ' H' hi⟩
end
theorem ne_of {R : List (Nat × Addr)} {l : List Nat} {i : Nat} (h : R.map (·.1) = l) (h2 : i ∉ l) : ∀ x ∈ R, x.1 ≠ i := fun x hx z => h2 (by rw [← h, ← z]; exact List.mem_map.mpr ⟨x, hx, rfl⟩)
theorem seq_asg {te : TE} {g : TG} {u : TS} {D : Ends} {σ : L2.St} {H : Hp} (h : te σ H (fun x H1 => g x σ H1 (u D))) : tSeq (tAsg te g) u D σ H := h
abbrev lsO (x : Addr × List (List Nat)) : Addr × HO := (x.1, .lst (x.2.map stV))
abbrev Lf (f t : Addr) (ls : List (Addr × List (List Nat))) (tk : List (List Nat)) : List (Addr × HO) := (f, .lst (ls.map fun x => V.ref x.1)) :: (t, .lst (tk.map stV)) :: ls.map lsO
theorem Lf_fst (f t : Addr) (ls : List (Addr × List (List Nat))) (tk : List (List Nat)) : (Lf f t ls tk).map (·.1) = f :: t :: ls.map (·.1) := by
  show f :: t :: (ls.map lsO).map (·.1) = _
  rw [List.map_map]
  rfl
abbrev lnG (room : Int) (wild : Bool) : Ga := [.no, .no, .dat (.int room), .dat (.bool wild), .no, .no, .no, .no, .no, .no]
abbrev wsG (room : Int) (wild : Bool) (x : List Nat) (sz : Int) : Ga := [.no, .no, .dat (.int room), .dat (.bool wild), .no, .no, .dat (sD x), .dat (.int sz), .no, .no]
theorem flat_st (tk : List (List Nat)) : (tk.map stV).all flatV = true := by
  rw [List.all_eq_true]
  intro v hv
  obtain ⟨y, _, rfl⟩ := List.mem_map.mp hv
  rfl
theorem small_sz {n : Nat} (h : n ≤ 1000) : n < sizeLine := Nat.lt_of_le_of_lt h (by decide)
structure LnI (K : PySem.W.Frag) (H0 Hin : Hp) (p f t : Addr) (n0 : Nat) (wild : Bool) (k : Nat) (σ : L2.St) (H : Hp) (ls : List (Addr × List (List Nat))) (tk : List (List Nat)) (room : Int) (n : Nat) : Prop where
  st : StW K H0 p (Lf f t ls tk) [(4, t), (1, f), (0, p)] n H σ (lnG room wild)
  hn : n ≤ n0 + k * 100
  l1 : ls.length ≤ k
  l2 : tk.length ≤ k
  bd : ∀ x ∈ ls, x.2.length ≤ 5 ∧ ∀ y ∈ x.2, y.length ≤ 20
  nd : (f :: t :: ls.map (·.1)).Nodup
  fr : ∀ a ∈ f :: t :: ls.map (·.1), Hin a = none
  fp : FrP p Hin H
def sp__law_lines (K : PySem.W.Frag) : Sp := fun vs H Q _ => ∃ (p : Addr) (n : Nat), vs = [.ref p] ∧ Wl p H n ∧ n + 3000 ≤ capW ∧ ∀ (f : Addr) (ls : List (Addr × List (List Nat))) (H2 : Hp), FrP p H H2 → Wl p H2 (n + 3000) → H f = none → f ≠ p → H2 f = some (.lst (ls.map fun x => V.ref x.1)) →
  (∀ x ∈ ls, H2 x.1 = some (.lst (x.2.map stV)) ∧ x.1 ≠ p ∧ H x.1 = none) → (f :: ls.map (·.1)).Nodup → ls.length ≤ 7 → (∀ x ∈ ls, x.2.length ≤ 5 ∧ ∀ y ∈ x.2, y.length ≤ 20) → Q (.ref f) H2
theorem G__law_lines (T : Txt K mg) : FnOk P w K mg base CX0 4 (He.ga K "_law_lines") T.e__law_lines ["_law_well_here"] (sp__law_lines K) := by
  refine T.d__law_lines.f.ok sc__law_lines (fun vs H Q E q => by
    obtain ⟨p, n, rfl, _⟩ := q
    rfl) fun cdv A outer s Hin vs Q E hr hs => ⟨(tSeq (tAsg (tTup (tCons (tLst tNil) (tCons (tC (.int 6)) (tCons (tOp rEq (tCall (sp__law_draw K) [] E0 (tCons (tVar 0) (tCons (tC (.int 4)) tNil))) (tC (.int 0))) (tCons (tLst tNil) tNil))))) (gTup K 4 (gCons (gName 1) (gCons (gName 2) (gCons (gName 3) (gCons (gName 4) gNil)))))) (tSeq (tFor (iRng1 (tCons (tCall (sp__law_draw K) [] E0 (tCons (tVar 0) (tCons (tC (.int 8)) tNil))) tNil)) (gName 5) (tSeq (tPar 6 7 (tCons (tCall (sp__law_spot K) [] E0 (tCons (tVar 0) tNil)) (tCons (tOp (rI0 fun i j => .int (i + j)) (tC (.int 1)) (tCall (sp__law_one_of K) [] E0 (tCons (tVar 0) (tCons (tLst (tCons (tC (.int 0)) (tCons (tC (.int 0)) (tCons (tC (.int 0)) (tCons (tC (.int 1)) (tCons (tC (.int 2)) (tCons (tIf (tB (tVar 3)) (tC (.int 3)) (tC (.int 0))) tNil))))))) tNil)))) tNil))) (tIfS (tOr (tB (tVar 3)) (tAnd (tTest (tOp (rIn K true) (tVar 6) (tVar 4))) (tTest (tOp (rI0 fun i j => .bl (decide (j < i))) (tVar 2) (tC (.int 0)))))) (tSeq (tAsg (tLst (tCons (tOp rAddS (tVar 6) (tC (.str ":"))) tNil)) (gName 8)) (tSeq (tFor (iRng1 (tCons (tIf (tB (tVar 3)) (tVar 7) (tCB rMin2I (tCons (tVar 7) (tCons (tVar 2) tNil)))) tNil)) (gName 9) (tDrop (tBM K "list" rAppend (tVar 8) (tCons (tCall (sp__law_word K) [] E0 (tCons (tVar 0) tNil)) tNil)))) (tSeq (tAsg (tOp (rI0 fun i j => .int (i + j)) (tOp (rI0 fun i j => .int (i - j)) (tVar 2) (tCB (rLenD K) (tCons (tVar 8) tNil))) (tC (.int 1))) (gName 2)) (tSeq (tDrop (tBM K "list" rAppend (tVar 4) (tCons (tVar 6) tNil))) (tDrop (tBM K "list" rAppend (tVar 1) (tCons (tVar 8) tNil))))))) tNext))) (tRet (tVar 1)))), PSs.nox (X := cxOf CX0 P w K mg base _ _ _ _ cdv A outer s Hin E) (pss_cons (ps_asg (pe_tup (pa_cons (pe_lst pa_nil) (pa_cons pe_int (pa_cons (pe_cmpR (op_eq) (pe_call (G__law_draw T) (hr.mono (by decide)) rfl T.d__law_draw.g T.d__law_draw.f.kp (b__law_draw T) .nil pass0 (pa_cons (pv 0) (pa_cons pe_int pa_nil))) pe_int (nomark _)) (pa_cons (pe_lst pa_nil) pa_nil))))) (pg_tup rfl (pgs_cons (pg_name (i := 1) sc__law_lines.nd rfl (.inl rfl)) (pgs_cons (pg_name (i := 2) sc__law_lines.nd rfl (.inl rfl)) (pgs_cons (pg_name (i := 3) sc__law_lines.nd rfl (.inl rfl)) (pgs_cons (pg_name (i := 4) sc__law_lines.nd rfl (.inl rfl)) pgs_nil))))))
      (pss_cons (ps_for PassesOwn.never rfl (pi_range1 rfl T.f_range (pa_cons (pe_call (G__law_draw T) (hr.mono (by decide)) rfl T.d__law_draw.g T.d__law_draw.f.kp (b__law_draw T) .nil pass0 (pa_cons (pv 0) (pa_cons pe_int pa_nil))) pa_nil)) (pg_name (i := 5) sc__law_lines.nd rfl (.inl rfl))
      (pss_cons (ps_par (i := 6) (j := 7) rfl sc__law_lines.nd rfl rfl (by decide) rfl rfl (pa_cons (pe_call (G__law_spot T) (hr.mono (by decide)) rfl T.d__law_spot.g T.d__law_spot.f.kp (b__law_spot T) .nil pass0 (pa_cons (pv 0) pa_nil)) (pa_cons (pe_op op_add pe_int (pe_call (G__law_one_of T) (hr.mono (by decide)) rfl T.d__law_one_of.g T.d__law_one_of.f.kp (b__law_one_of T) .nil pass0 (pa_cons (pv 0) (pa_cons (pe_lst (pa_cons pe_int (pa_cons pe_int (pa_cons pe_int (pa_cons pe_int (pa_cons pe_int (pa_cons (pe_ifExp (pt_val (pv 3)) pe_int pe_int) pa_nil))))))) pa_nil)))) pa_nil)) (by rfl))
      (pss_one (ps_if (PW.pt (pw_or (pt_val (pv 3)) (pw_or1 (PW.pt (pw_and (pt_cmpR (op_notIn_seq) (pv 6) (pv 4) (by rfl)) (pw_and1 (pt_cmpR (op_gt) (pv 2) pe_int (nomark _)))))))) (pss_cons (ps_set (i := 8) sc__law_lines.nd rfl (.inl rfl) (pe_lst (pa_cons (pe_op op_addS (pv 6) pe_str) pa_nil)))
      (pss_cons (ps_for PassesOwn.never rfl (pi_range1 rfl T.f_range (pa_cons (pe_ifExp (pt_val (pv 3)) (pv 7) (pe_callB (cr_min2 rfl) rfl T.f_min (by decide +kernel) (pa_cons (pv 7) (pa_cons (pv 2) pa_nil)))) pa_nil)) (pg_name (i := 9) sc__law_lines.nd rfl (.inl rfl))
      (pss_one (ps_expr (pe_bm PySem.F.plainAttrs_list PySem.F.slot_list_append PySem.F.type_list_append mt_append (pv 8) (pa_cons (pe_call (G__law_word T) (hr.mono (by decide)) rfl T.d__law_word.g T.d__law_word.f.kp (b__law_word T) .nil pass0 (pa_cons (pv 0) pa_nil)) pa_nil)))))
      (pss_cons (ps_set (i := 2) sc__law_lines.nd rfl (.inl rfl) (pe_op op_add (pe_op op_sub (pv 2) (pe_callB cr_len rfl T.f_len (by decide +kernel) (pa_cons (pv 8) pa_nil))) pe_int))
      (pss_cons (ps_expr (pe_bm PySem.F.plainAttrs_list PySem.F.slot_list_append PySem.F.type_list_append mt_append (pv 4) (pa_cons (pv 6) pa_nil)))
      (pss_one (ps_expr (pe_bm PySem.F.plainAttrs_list PySem.F.slot_list_append PySem.F.type_list_append mt_append (pv 1) (pa_cons (pv 8) pa_nil)))))))) pss_nil))))
      (pss_one (ps_ret (pv 1))))), ?_⟩
  obtain ⟨p, n, rfl, wl, hn, z⟩ := hs
  have S0 : StW K (hid Hin p []) p [] [(0, p)] n Hin (start ["_law_well_here", "_law_found", "_law_room", "_law_wild", "_law_taken", "_law_turn", "_law_spot_here", "_law_size", "_law_words", "_law_lap"] [.ref p]) (.no :: slots [] 9) := by
    rw [start_cons]
    refine ⟨(start_std .nil rfl).consN _, wl, (fun y hy => nomatch hy), fun y hy => ?_⟩
    have : y = (0, p) := by simpa using hy
    rw [this]
    exact ⟨rfl, rfl⟩
  generalize start ["_law_well_here", "_law_found", "_law_room", "_law_wild", "_law_taken", "_law_turn", "_law_spot_here", "_law_size", "_law_words", "_law_lap"] [V.ref p] = σ0 at S0
  obtain ⟨ow, how⟩ := wl.ex
  -- the first row
  refine ⟨by decide, fun f hf => ?_⟩
  have S1 := S0.addL hf (Same.new (o := .lst []) hf) upd_same
  have fnp : f ≠ p := fun e => by rw [e, how] at hf; cases hf
  refine evw_eqI (evw_draw (i := 0) (m := 4) List.mem_cons_self (by decide) (by decide)) evw_int _ n σ0 _ S1 (by omega) _ fun v d H2 f2 w2 dv ⟨wild, e⟩ => ?_
  subst e
  have ev := dv.blI
  subst ev
  have S2 := S1.step f2 w2
  have hf2 : H2 f = some (.lst []) := (S2.pin _ List.mem_cons_self).1
  refine ⟨by decide, fun t ht => ?_⟩
  have tnf : t ≠ f := fun e => by rw [e, hf2] at ht; cases ht
  have S3 := S2.addL ht (Same.new (o := .lst []) ht) upd_same
  have tin : Hin t = none := ((FrP.of (Same.new hf)).trans f2).free wl w2 ht
  refine ⟨(show 4 ≤ sizeLine by decide), fun u hu => ?_⟩
  have S4 := S3.step (FrP.of (Same.new (o := .tup [.ref f, .int 6, .bl wild, .ref t]) hu)) (S3.wl.same (Same.new hu))
  refine ⟨u, _, rfl, SqT.of upd_same, rfl, _, _, rfl, _, _, rfl, _, _, rfl, _, _, rfl, rfl, ?_⟩
  have S5 := (((S4.setR (i := 1) (q := f) (show 1 < 10 by decide) (ne_of (l := [0]) rfl (by decide))).setD (i := 2) (v := .int 6) (.int 6) (ne_of (l := [1, 0]) rfl (by decide))).setD (i := 3) (v := .bl wild) (.bl wild) (ne_of (l := [1, 0]) rfl (by decide))).setR (i := 4) (q := t) (show 4 < 10 by decide) (ne_of (l := [1, 0]) rfl (by decide))
  have I0 : LnI K (hid Hin p []) Hin p f t (n + 1) wild 0 _ _ [] [] 6 (n + 1) := ⟨S5.relist (L' := Lf f t [] []) (fun a => by
      show a ∈ [f, t] ↔ a ∈ [t, f]
      simp only [List.mem_cons, List.not_mem_nil, or_false]
      exact Or.comm) (fun x hx => by
      have : x = (f, .lst []) ∨ x = (t, .lst []) := by simpa using hx
      rcases this with e | e <;> rw [e] <;> simp), by omega, Nat.le_refl _, Nat.le_refl _, (fun x hx => nomatch hx), by
      show [f, t].Nodup
      simp [Ne.symm tnf], fun a ha => by
      have : a = f ∨ a = t := by simpa using ha
      rcases this with e | e
      · rw [e]; exact hf
      · rw [e]; exact tin, (FrP.of (Same.new hf)).trans (f2.trans ((FrP.of (Same.new ht)).trans (FrP.of (Same.new hu))))⟩
  revert I0
  generalize (((σ0.set 1 (some (V.ref f))).set 2 (some (V.int 6))).set 3 (some (V.bl wild))).set 4 (some (V.ref t)) = σ1
  generalize upd (upd H2 t (.lst [])) u (.tup [.ref f, .int 6, .bl wild, .ref t]) = H5
  intro I0
  refine evw_draw (i := 0) (m := 8) (by simp) (by decide) (by decide) _ (n + 1) σ1 H5 I0.st (by omega) _ fun v d H6 f6 w6 dv ⟨turns, e, t0, t1⟩ => ?_
  subst e
  have ev := dv.intI
  subst ev
  obtain ⟨turns, rfl⟩ : ∃ b : Nat, turns = (b : Int) := ⟨turns.toNat, by omega⟩
  have ht7 : turns ≤ 7 := by omega
  refine rng_cont (fun k σ H => ∃ ls tk room n', LnI K (hid Hin p []) Hin p f t (n + 2) wild k σ H ls tk room n') turns rfl (by omega) ⟨[], [], 6, _, ⟨I0.st.step f6 w6, by omega, I0.l1, I0.l2, I0.bd, I0.nd, I0.fr, I0.fp.trans f6⟩⟩ ?_ ?_
  · rintro k σ H hk ⟨ls, tk, room, n', I⟩
    have hkn : n' ≤ n + 2 + k * 100 := I.hn
    have hk7 : k * 100 ≤ 600 := by omega
    have S0 := I.st.setD (i := 5) (v := .int (k : Nat)) (.int _) (ne_of (l := [4, 1, 0]) rfl (by decide))
    have me : (0, p) ∈ [(4, t), (1, f), (0, p)] := by simp
    refine gow_seq (gow_par (n := n') (k1 := 0 + 10) (k2 := 0 + (0 + 1)) (C1 := isS 12) (C2 := isI (1 + 0) (1 + 3)) (by omega) (fun x hx => ⟨ne_of (l := [4, 1, 0]) rfl (by decide) x hx, ne_of (l := [4, 1, 0]) rfl (by decide) x hx⟩)
      (evw_callW me evwA_nil fun ds e => ⟨e, fun x hx => ⟨x, rfl, hx⟩⟩)
      (evw_add evw_int (evw_callW me (evwA_1 (C1 := fun d => d = .list [.int 0, .int 0, .int 0, .int 1, .int 2, .int (if wild = true then 3 else 0)]) (evw_fresh (evf_lst (eva_cons ev_int (eva_cons ev_int (eva_cons ev_int (eva_cons ev_int (eva_cons ev_int (eva_cons (ev_if (b := wild) (evb_val (ev_dat (d := .bool wild) rfl)) (fun h => ev_is ev_int (by rw [if_pos h])) (fun h => ev_is ev_int (by rw [if_neg (by rw [h]; simp)]))) eva_nil)))))) (by simp)) (fun d hd => by
        simp only [List.mem_cons, List.not_mem_nil, or_false] at hd
        rcases hd with rfl | rfl | rfl | rfl | rfl | rfl <;> constructor) rfl)) fun ds ⟨d, e1, e2⟩ => by
        subst e1 e2
        refine ⟨_, rfl, by simp, by simp, fun d hd => ?_⟩
        simp only [List.mem_cons, List.not_mem_nil, or_false] at hd
        rcases hd with rfl | rfl | rfl | rfl | rfl | rfl
        · exact ⟨.int _, _, rfl, by decide, by decide⟩
        · exact ⟨.int _, _, rfl, by decide, by decide⟩
        · exact ⟨.int _, _, rfl, by decide, by decide⟩
        · exact ⟨.int _, _, rfl, by decide, by decide⟩
        · exact ⟨.int _, _, rfl, by decide, by decide⟩
        · refine ⟨.int _, _, rfl, ?_, ?_⟩ <;> split <;> decide)) fun d e ⟨x, e1, hx⟩ ⟨sz, e2, z1, z2⟩ => ?_) _ _ S0
    subst e1 e2
    intro σ1 H1 S1
    have S1' : StW K (hid Hin p []) p (Lf f t ls tk) [(4, t), (1, f), (0, p)] (n' + 11) H1 σ1 (wsG room wild x sz) := (S1.mono (by omega)).weak rfl (fun j s hj hs => by
      rcases j with _ | _ | _ | _ | _ | _ | _ | _ | _ | _ | j
      all_goals first | exact hj | exact absurd (Option.some.inj hj).symm hs | cases hj) (fun x hx => hx)
    clear S1
    have fp1 : FrP p Hin H1 := fun b o hb e => by
      have q1 := S1'.sd.sm b o (by rw [hid_of hb (by simp)]; exact e)
      exact hid_same b o q1
    -- skipping the line
    have skip : ∀ (D2 : Ends), (∀ σ H, (∃ ls tk room n', LnI K (hid Hin p []) Hin p f t (n + 2) wild (k + 1) σ H ls tk room n') → D2.nx σ H) → tNext D2 σ1 H1 := fun D2 h => h σ1 H1 ⟨ls, tk, room, n' + 11, ⟨S1'.weak rfl (fun j s hj hs => by
      rcases j with _ | _ | _ | _ | _ | _ | _ | _ | _ | _ | j
      all_goals first | exact hj | exact absurd (Option.some.inj hj).symm hs | cases hj) (fun x hx => hx), by omega, by have := I.l1; omega, by have := I.l2; omega, I.bd, I.nd, I.fr, fp1⟩⟩
    obtain ⟨v2, g2, d2⟩ := S1'.sd.dat 2 (.int room) rfl
    obtain ⟨v3, g3, d3⟩ := S1'.sd.dat 3 (.bool wild) rfl
    obtain ⟨v6, g6, d6⟩ := S1'.sd.dat 6 (sD x) rfl
    have d2 := d2.intI
    have d3 := d3.blI
    have d6 := d6.strI
    subst d2 d3 d6
    have g4 := (S1'.rf (4, t) (by simp)).1
    have hT1 := (S1'.pin (t, .lst (tk.map stV)) (by simp)).1
    -- the test
    have test : ∀ (t1 t2 : TS) (D2 : Ends), ((wild = true ∨ 0 < room) → t1 D2 σ1 H1) → t2 D2 σ1 H1 → tIfS (tOr (tB (tVar 3)) (tAnd (tTest (tOp (rIn K true) (tVar 6) (tVar 4))) (tTest (tOp (rI0 fun i j => .bl (decide (j < i))) (tVar 2) (tC (.int 0)))))) t1 t2 D2 σ1 H1 := fun t1 t2 D2 h1 h2 => by
      have fin : ∀ b : Bool, (b = true → (wild = true ∨ 0 < room)) → (if b = true then t1 D2 σ1 H1 else t2 D2 σ1 H1) := fun b hb => by
        cases b with
        | true => exact h1 (hb rfl)
        | false => exact h2
      cases wild with
      | true => exact ⟨_, g3, true, rfl, fin true fun _ => .inl rfl⟩
      | false =>
        refine ⟨_, g3, false, rfl, ?_⟩
        refine ⟨_, g6, _, g4, t, _, rfl, .inl (SqL.of hT1), rfl, flat_st tk, _, rfl, ?_⟩
        cases hin : inV (V.str (S x)) (tk.map stV) with
        | true =>
          exact fin false fun z => nomatch z
        | false =>
          exact ⟨_, g2, _, _, rfl, rfl, decide (0 < room), rfl, fin _ fun h => .inr (of_decide_eq_true h)⟩
    refine test _ _ _ (fun hc => ?_) (skip _ fun σ H h => h)
    have xl : x.length ≤ 12 := hx
    -- words
    have e58 : EvF K (tLst (tCons (tOp rAddS (tVar 6) (tC (.str ":"))) tNil)) (wsG room wild x sz) [sD (x ++ [58])] := evf_lst (eva_1 (ev_addS (ev_dat (d := sD x) rfl) (ev_lit (x := [58]) (by decide +kernel)) (by simp; omega))) (by simp)
    refine seq_asg (e58 _ σ1 H1 S1'.pure _ fun q vs H2 hq s2 h2q hvs => ?_)
    have evs : vs = ([x ++ [58]] : List (List Nat)).map stV := dp_strsI (ws := [x ++ [58]]) hvs
    subst evs
    have fp2 := fp1.trans (FrP.of s2)
    have qin : Hin q = none := fp1.free wl S1'.wl hq
    have nq : q ∉ (Lf f t ls tk).map (·.1) := fun z => by
      obtain ⟨y, hy, e⟩ := List.mem_map.mp z
      rw [← e, (S1'.pin y hy).1] at hq
      cases hq
    have S2 := (S1'.addL hq s2 h2q).setR (i := 8) (q := q) (show 8 < 10 by decide) (ne_of (l := [4, 1, 0]) rfl (by decide))
    generalize hσ2 : σ1.set 8 (some (V.ref q)) = σ2 at S2
    -- how many
    obtain ⟨m, hm, em⟩ : ∃ m : Nat, m ≤ 4 ∧ (if wild = true then sz else (if room < sz then room else sz)) = (m : Int) := by
      refine ⟨(if wild = true then sz else (if room < sz then room else sz)).toNat, ?_, ?_⟩
      · split
        · omega
        · split <;> omega
      · rcases hc with h | h
        · rw [if_pos h]
          omega
        · split
          · omega
          · split <;> omega
    have e7 : EvG K (tIf (tB (tVar 3)) (tVar 7) (tCB rMin2I (tCons (tVar 7) (tCons (tVar 2) tNil)))) (wsG room wild x sz) (.int (m : Nat)) := ev_if (b := wild) (evb_val (ev_dat (d := .bool wild) rfl)) (fun h => ev_is (ev_dat (d := .int sz) rfl) (by rw [← em, if_pos h])) (fun h => ev_is (ev_cb (eva_2 (ev_dat (d := .int sz) rfl) (ev_dat (d := .int room) rfl)) cbv_min2) (by rw [← em, if_neg (show ¬ wild = true by rw [h]; simp)]))
    refine gname_to ?_
    rw [hσ2]
    refine seq_rng (e7 _ σ2 H2 S2.pure _ fun v H3 s3 hv => ?_)
    have S3 := S2.step (FrP.of s3) (S2.wl.same s3)
    refine rng_cont (fun j σ H => ∃ ws n3, StW K (hid Hin p []) p ((q, .lst (ws.map stV)) :: Lf f t ls tk) [(8, q), (4, t), (1, f), (0, p)] n3 H σ (wsG room wild x sz) ∧ ws.length = 1 + j ∧ (∀ y ∈ ws, y.length ≤ 20) ∧ n3 ≤ n' + 11 + j * 10 ∧ FrP p Hin H) m hv.intI (by omega) ⟨[x ++ [58]], _, S3, rfl, all_one (by simp; omega), by omega, fp2.trans (FrP.of s3)⟩ ?_ ?_
    · rintro j σ3 H4 hj ⟨ws, n3, S4, w1, w2, w3, w4⟩
      have S5 := S4.setD (i := 9) (v := .int (j : Nat)) (.int _) (ne_of (l := [8, 4, 1, 0]) rfl (by decide))
      have hQ := (S5.pin (q, .lst (ws.map stV)) List.mem_cons_self).1
      refine ⟨.ref q, (S5.rf (8, q) (by simp)).1, .inl ⟨rfl, _, SqL.of hQ⟩, ?_⟩
      refine evw_callW (C := isS 12) (k0 := 10) (k := 0) (by simp : (0, p) ∈ [(8, q), (4, t), (1, f), (0, p)]) evwA_nil (fun ds e => ⟨e, fun y hy => ⟨y, rfl, hy⟩⟩) _ n3 _ H4 S5 (by omega) _ fun v2 dd H5 f5 w5 dv ⟨y, e, hy⟩ => ?_
      subst e
      have ev := dv.strI
      subst ev
      have S6 := S5.step f5 w5
      have hQ6 := (S6.pin (q, .lst (ws.map stV)) List.mem_cons_self).1
      refine ⟨q, _, _, rfl, rfl, hQ6, small_sz (by rw [List.length_map]; omega), ws ++ [y], n3 + (0 + 10), ?_, by rw [List.length_append, w1]; rfl, all_app w2 (all_one (by omega)), by omega, ?_⟩
      · have S7 := S6.mutL (q := q) (xs := ws.map stV ++ [stV y]) (L' := (q, .lst ((ws ++ [y]).map stV)) :: Lf f t ls tk) (List.mem_cons_self) (fun a => Iff.rfl) (fun z hz => by
          rcases List.mem_cons.mp hz with e | hz
          · rw [e]
            exact ⟨by rw [upd_same, List.map_append]; rfl, (S6.pin (q, .lst (ws.map stV)) List.mem_cons_self).2.1, _, rfl⟩
          · have nz : z.1 ≠ q := fun e => nq (e ▸ List.mem_map.mpr ⟨z, hz, rfl⟩)
            rw [upd_ne nz]
            exact S6.pin z (List.mem_cons_of_mem _ hz))
        exact S7.weak rfl (fun j s hj hs => by
          rcases j with _ | _ | _ | _ | _ | _ | _ | _ | _ | _ | j
          all_goals first | exact hj | exact absurd (Option.some.inj hj).symm hs | cases hj) (fun x hx => hx)
      · intro b o hb e
        have nb : b ≠ q := fun z => by rw [z, qin] at e; cases e
        rw [upd_ne nb]
        exact (w4.trans f5) b o hb e
    · rintro σ3 H4 ⟨ws, n3, S4, w1, w2, w3, w4⟩
      have nd := I.nd
      have ndf : f ∉ t :: ls.map (·.1) := (List.nodup_cons.mp nd).1
      have ndt : t ∉ ls.map (·.1) := (List.nodup_cons.mp (List.nodup_cons.mp nd).2).1
      have nqf : q ≠ f := fun e => nq (by rw [e]; simp)
      have nqt : q ≠ t := fun e => nq (by rw [e]; simp)
      have nql : q ∉ ls.map (·.1) := fun e => nq (by
        rw [Lf_fst]
        exact List.mem_cons_of_mem _ (List.mem_cons_of_mem _ e))
      have nft : f ≠ t := fun e => ndf (by rw [e]; simp)
      obtain ⟨v2', h2, e2⟩ := S4.sd.dat 2 (.int room) rfl
      have e2 := e2.intI
      subst e2
      have h8 := (S4.rf (8, q) (by simp)).1
      have hQ := (S4.pin (q, .lst (ws.map stV)) List.mem_cons_self).1
      dsimp only
      refine seq_asg ⟨_, h2, _, h8, _, (ws.map stV).length, rfl, .inl ⟨_, SqL.of hQ, rfl⟩, _, _, rfl, rfl, _, _, rfl, rfl, ?_⟩
      refine gname_to ?_
      have S5 := S4.setD (i := 2) (v := .int (room - ((ws.map stV).length : Nat) + 1)) (.int _) (ne_of (l := [8, 4, 1, 0]) rfl (by decide))
      generalize hσ4 : σ3.set 2 (some (V.int (room - ((ws.map stV).length : Nat) + 1))) = σ4 at S5
      obtain ⟨v6, h6, e6⟩ := S5.sd.dat 6 (sD x) rfl
      have e6 := e6.strI
      subst e6
      have hT := (S5.pin (t, .lst (tk.map stV)) (by simp)).1
      have lk := I.l2
      have ll := I.l1
      refine ⟨.ref t, (S5.rf (4, t) (by simp)).1, .inl ⟨rfl, _, SqL.of hT⟩, _, h6, t, _, _, rfl, rfl, hT, small_sz (by rw [List.length_map]; omega), ?_⟩
      have lsne : ∀ {b : Addr}, b ∉ ls.map (·.1) → ∀ z ∈ ls.map lsO, z.1 ≠ b := fun {b} hb z hz e => hb (by
        obtain ⟨y, hy, rfl⟩ := List.mem_map.mp hz
        rw [← e]
        exact List.mem_map.mpr ⟨y, hy, rfl⟩)
      have S6 := S5.mutL (q := t) (xs := tk.map stV ++ [stV x]) (L' := (q, .lst (ws.map stV)) :: Lf f t ls (tk ++ [x])) (by simp) (fun a => Iff.rfl) (fun z hz => by
        rcases List.mem_cons.mp hz with e | hz
        · rw [e, upd_ne nqt]
          exact S5.pin _ List.mem_cons_self
        rcases List.mem_cons.mp hz with e | hz
        · rw [e, upd_ne nft]
          exact S5.pin (f, .lst (ls.map fun x => V.ref x.1)) (by simp)
        rcases List.mem_cons.mp hz with e | hz
        · rw [e]
          exact ⟨by rw [upd_same, List.map_append]; rfl, (S5.pin (t, .lst (tk.map stV)) (by simp)).2.1, _, rfl⟩
        · rw [upd_ne (lsne ndt z hz)]
          exact S5.pin z (List.mem_cons_of_mem _ (List.mem_cons_of_mem _ (List.mem_cons_of_mem _ hz))))
      have hF := (S6.pin (f, .lst (ls.map fun x => V.ref x.1)) (by simp)).1
      refine ⟨.ref f, (S6.rf (1, f) (by simp)).1, .inl ⟨rfl, _, SqL.of hF⟩, _, (S6.rf (8, q) (by simp)).1, f, _, _, rfl, rfl, hF, small_sz (by rw [List.length_map]; omega), ?_⟩
      have S7 := S6.mutL (q := f) (xs := (ls.map fun x => V.ref x.1) ++ [.ref q]) (L' := Lf f t (ls ++ [(q, ws)]) (tk ++ [x])) (by simp) (fun a => by
        rw [Lf_fst]
        show _ ↔ a ∈ q :: (Lf f t ls (tk ++ [x])).map (·.1)
        rw [Lf_fst, List.map_append]
        simp only [List.mem_cons, List.mem_append, List.map_cons, List.map_nil, List.not_mem_nil, or_false]
        constructor
        · rintro (h | h | h | h)
          · exact .inr (.inl h)
          · exact .inr (.inr (.inl h))
          · exact .inr (.inr (.inr h))
          · exact .inl h
        · rintro (h | h | h | h)
          · exact .inr (.inr (.inr h))
          · exact .inl h
          · exact .inr (.inl h)
          · exact .inr (.inr (.inl h))) (fun z hz => by
        rcases List.mem_cons.mp hz with e | hz
        · rw [e]
          exact ⟨by rw [upd_same, List.map_append]; rfl, fnp, _, rfl⟩
        rcases List.mem_cons.mp hz with e | hz
        · rw [e, upd_ne (Ne.symm nft)]
          exact S6.pin (t, .lst ((tk ++ [x]).map stV)) (by simp)
        · rw [List.map_append] at hz
          rcases List.mem_append.mp hz with hz | hz
          · rw [upd_ne (lsne (fun e => ndf (List.mem_cons_of_mem _ e)) z hz)]
            exact S6.pin z (List.mem_cons_of_mem _ (List.mem_cons_of_mem _ (List.mem_cons_of_mem _ hz)))
          · have e : z = (q, .lst (ws.map stV)) := by simpa using hz
            rw [e, upd_ne nqf]
            exact S6.pin _ List.mem_cons_self)
      refine ⟨ls ++ [(q, ws)], tk ++ [x], _, n3, ⟨S7.weak (Γ' := lnG (room - ((ws.map stV).length : Nat) + 1) wild) (R' := [(4, t), (1, f), (0, p)]) rfl (fun j s hj hs => by
          rcases j with _ | _ | _ | _ | _ | _ | _ | _ | _ | _ | j
          all_goals first | exact hj | exact absurd (Option.some.inj hj).symm hs | cases hj) (fun x hx => List.mem_cons_of_mem _ hx), by omega, by rw [List.length_append, List.length_singleton]; omega, by rw [List.length_append, List.length_singleton]; omega, fun y hy => ?_, ?_, fun a ha => ?_, fun b o hb e => ?_⟩⟩
      · rcases List.mem_append.mp hy with h | h
        · exact I.bd y h
        · rw [List.mem_singleton.mp h]
          exact ⟨by show ws.length ≤ 5; omega, w2⟩
      · rw [List.map_append]
        show (f :: t :: (ls.map (·.1) ++ [q])).Nodup
        have base := List.nodup_append.mpr ⟨nd, (by simp : [q].Nodup), fun a ha b hb => by
          rw [List.mem_singleton.mp hb]
          intro e
          rw [e] at ha
          rcases List.mem_cons.mp ha with h | h
          · exact nqf h
          rcases List.mem_cons.mp h with h | h
          · exact nqt h
          · exact nql h⟩
        exact base
      · rw [List.map_append] at ha
        have ha' : a ∈ f :: t :: ls.map (·.1) ∨ a = q := by
          rcases List.mem_cons.mp ha with h | h
          · exact .inl (by rw [h]; simp)
          rcases List.mem_cons.mp h with h | h
          · exact .inl (by rw [h]; simp)
          rcases List.mem_append.mp h with h | h
          · exact .inl (List.mem_cons_of_mem _ (List.mem_cons_of_mem _ h))
          · exact .inr (by simpa using h)
        rcases ha' with h | h
        · exact I.fr a h
        · rw [h]; exact qin
      · have n1 : b ≠ f := fun z => by rw [z, hf] at e; cases e
        have n2 : b ≠ t := fun z => by rw [z, I.fr t (by simp)] at e; cases e
        rw [upd_ne n1, upd_ne n2]
        exact w4 b o hb e
  · rintro σ H ⟨ls, tk, room, n', I⟩
    refine ⟨.ref f, (I.st.rf (1, f) (by simp)).1, z f ls H I.fp (I.st.wl.mono (by have := I.hn; omega)) hf fnp (I.st.pin _ List.mem_cons_self).1 (fun x hx => ?_) ?_ (by have := I.l1; omega) I.bd⟩
    · have := I.st.pin (lsO x) (List.mem_cons_of_mem _ (List.mem_cons_of_mem _ (List.mem_map.mpr ⟨x, hx, rfl⟩)))
      exact ⟨this.1, this.2.1, I.fr _ (List.mem_cons_of_mem _ (List.mem_cons_of_mem _ (List.mem_map.mpr ⟨x, hx, rfl⟩)))⟩
    · have nd := I.nd
      rw [List.nodup_cons, List.nodup_cons] at nd
      rw [List.nodup_cons]
      exact ⟨fun y => nd.1 (List.mem_cons_of_mem _ y), nd.2.2⟩
end
end K82

/-! part Gu -/
set_option Elab.async false
set_option linter.all false
set_option maxRecDepth 100000
set_option maxHeartbeats 4000000
set_option autoImplicit false
set_option exponentiation.threshold 9000
/-! defs that are called where no repr is under way -/
namespace K82
open PySem PySem.Spec PyProof.Rows L2
open SX (S S_len S_cat S_inj num_S lens join_S split_S)
section
variable {P : Program} {w : World} {K : PySem.W.Frag} {mg : Str → Option Value} {base : Heap}
structure FnG (P : Program) (w : World) (K : PySem.W.Frag) (mg : Str → Option Value) (base : Heap) (k : Nat) (f : Addr) (fd : FuncData) (ps : List Str) (sp : Sp) : Prop where
  len : ∀ vs H Q E, sp vs H Q E → vs.length = ps.length
  run : ∀ (A : Around) (outer : List Env) (s : Shared) (H : Hp) (args : Args) (us : List Value) (vs : List V) (Q : VK) (E : XK), Room k A → A.guards = some [] → Env0 P w K mg base A outer s H →
    BindsTo s fd args (ps.zip us) → Vals vs us → sp vs H Q E → codeAny (model P w) A (.call (.ref f) args) (CR CX0 outer P w H s Q E) s
theorem okG {x qual : Str} {params : Arguments} {body : List Stmt} {scope : Scope} {f : Addr} {fd : FuncData} {N ps : List Str} {k : Nat} {sp : Sp} (F : FunD K x qual params body scope [] [] f fd) (Sc : FnScope N ps scope) (len : ∀ vs H Q E, sp vs H Q E → vs.length = ps.length)
    (hb : ∀ (cdv : Value) (A : Around) (outer : List Env) (s : Shared) (H : Hp) (vs : List V) (Q : VK) (E : XK), Room k (A.deeper (envOfC qual scope s.heap.objs.size f cdv)) → A.guards = some [] → sp vs H Q E →
      ∃ t, PSs (cxOf CX0 P w K mg base N qual scope f cdv A outer s H E) body t ∧ t { nx := fun _ H' => Q .non H', rt := Q } (start N vs) H) : FnG P w K mg base (k + 1) f fd ps sp := by
  obtain ⟨oc, od, dV, kV, doc, pm, an, cdv, ct, osl, rfl, lk, hcd, _, _⟩ := F.ex
  constructor
  · exact len
  intro A outer s H args us vs Q E room guard env bnd rel hsp
  have heap_in : K.In s.heap := env.mod.kin.keeps fun b o h => (env.bs b o h).1
  have limit : s.heap.NoLimit := env.mod.nolimit.keeps fun b o h => (env.bs b o h).1
  have kinds : ∀ y ∈ ps.zip us, scope.names.lookup y.1 = some .local ∨ (scope.names.lookup y.1 = some .cell ∧ ((cellsFrom (s.heap.objs.size + 1) scope.names []).lookup y.1).isSome = true) := by
    rintro ⟨nm, vv⟩ hy
    rcases Sc.par nm (List.of_mem_zip hy).1 with h | h
    · exact Or.inl h
    · exact Or.inr ⟨h, PySem.W.cellsFrom_some _ _ _ (Or.inl h)⟩
  have same_len : us.length = ps.length := by
    rw [← rel.length]
    exact len _ _ _ _ hsp
  refine codeAny_call_function room.depth (heap_in _ _ lk) rfl Sc.co Sc.gen rfl (PySem.W.codeRec_of heap_in hcd) (bnd _ _ _ _ ?_)
  refine wpAny_newFunctionEnv_cells Sc.kind kinds fun en hen sh inc => ?_
  subst hen
  refine ⟨limit.keeps inc.toInCall.keep, codeAny_func ?_⟩
  obtain ⟨t, walk, goal⟩ := hb cdv A outer s H vs Q E (room.deeper _) guard hsp
  have J0 := inv_start (CX := CX0) (qual := qual) (f := f) (cd := cdv) (E := E) Sc room.hd env (len _ _ _ _ hsp) rel inc
  refine wpAny_mono (walk.run [] sh (start N vs) H _ J0 goal) (fun fl s' hs => ?_) fun e s' hs => hs
  cases fl with
  | brk => exact (hs.choose_spec.choose_spec.2 : False).elim
  | cont => exact (hs.choose_spec.choose_spec.2 : False).elim
  | next =>
    obtain ⟨σ', H', J, q⟩ := hs
    exact ⟨V.non, H', J.os, J.bare, J.base, J.hok, rfl, q⟩
  | ret u =>
    obtain ⟨v, σ', H', J, rv, q⟩ := hs
    exact ⟨v, H', J.os, J.bare, J.base, J.hok, rv, q⟩
/-- a call of such a def -/
theorem pe_callG {X : Cx} {k : Nat} {f : Addr} {fd : FuncData} {ps : List Str} {sp : Sp} {E : XK} {x : Str} {e : Expr} {es : List Expr} {t : TA} {p pos : Pos} (F : FnG X.prog X.w X.K X.mg X.base k f fd ps sp) (hr : Room k X.A) (hgd : X.A.guards = some []) (hg : Gl X x) (hm : X.mg x = some (.ref f)) (hk : PySem.W.keepIn X.K (.ref f) = true) (hb : Binds X.K fd ps [])
    (ha : PA X (e :: es) t) (hdb : (x == ("__debug__" : Str)) = false := by decide) (he : starEach (e :: es) X.env = (false, eval e X.env) :: starEach es X.env := by rfl) (hpl : (backTo pos (starEach es X.env)).any (·.1) = false := by rfl) :
    PE X (.Call (.Name x p) (e :: es) [] pos) (tCall sp [] E t) := by
  constructor
  intro pins s σ H Q I hq
  refine wpAny_Call_Name_kw (ld_glob I hg hm ?_ hdb)
  refine PySem.W.callWith_K (h₀ := X.base) I.ok.mod.kin hk (thn (ha.run pos pins s σ H _ I hq) fun us s1 ⟨vs, H1, I1, rv, hsp⟩ => ⟨I1.kIn, ?_⟩) he hpl
  have hsp' : sp vs H1 Q E := by
    have z : sp (vs ++ []) H1 Q E := hsp
    rw [List.append_nil] at z
    exact z
  have lens_ : us.length = ps.length := by
    rw [← rv.length]
    exact F.len _ _ _ _ hsp'
  have bnd := hb s1 us I1.kIn (by rw [List.append_nil]; exact lens_)
  rw [List.append_nil] at bnd
  refine wpAny_call (codeAny_mono (F.run X.A X.stack s1 H1 ⟨us, []⟩ us vs Q E hr hgd I1.env0 bnd rv hsp') fun res s' hres => ?_)
  cases res with
  | error er => exact (hres : False).elim
  | ok fl =>
    cases fl with
    | ret u => exact I1.after hres
    | next => exact (hres : False).elim
    | brk => exact (hres : False).elim
    | cont => exact (hres : False).elim
/-- repr of data -/
def rRepr (K : PySem.W.Frag) : List V → Hp → VK → Prop := fun xs H Q => ∃ (a : Addr) (d : PyData), xs = [.ref a] ∧ Dp K H (.ref a) d ∧ d.showable = true ∧ d.hasDict = false ∧ d.depth ≤ 60 ∧ d.shown.length ≤ sizeLine ∧ Q (.str d.shown) H
theorem cr_repr {X : Cx} {k : Nat} (hg : X.A.guards = some []) (hr : Room k X.A) : CallR X (.builtin "repr") (rRepr X.K) := by
  rintro pins s σ H xs us Q I r ⟨a, d, rfl, hd, sh, nd, dp, sz, q⟩
  obtain ⟨u, rfl, ru⟩ := vals1 r
  obtain ⟨as, rd⟩ := Dp.reads I d (.ref a) u hd ru
  cases ru
  refine repr_of_reads' rd sh (fun z => by rw [nd] at z; cases z) hg (by have := hr.un; omega) (fun b o e => e) (fun h' t tk hk => ?_) sz
  exact ⟨.str d.shown, H, I.kept (t' := tk) hk, ⟨_, rfl⟩, q⟩
end
end K82

/-! part Re -/
set_option Elab.async false
set_option linter.all false
set_option maxRecDepth 100000
set_option maxHeartbeats 4000000
set_option autoImplicit false
set_option exponentiation.threshold 9000
/-! what is told can be shown -/
namespace K82
open PySem PySem.Spec PyProof.Rows L2
open SX (S S_len S_cat S_inj num_S lens join_S split_S)
/-- shown, with at most n signs -/
structure Sh (d : PyData) (n : Nat) : Prop where
  sh : d.showable = true
  nd : d.hasDict = false
  len : d.shown.length ≤ n
theorem Sh.mono {d : PyData} {m n : Nat} (h : Sh d m) (e : m ≤ n) : Sh d n := ⟨h.sh, h.nd, Nat.le_trans h.len e⟩
theorem sh_int {i : Int} (h : i.natAbs < 10 ^ 400) : Sh (.int i) 401 := by
  have p : i.natAbs < 2 ^ 1900 := Nat.lt_trans h (Nat.lt_of_lt_of_le pow_400 (Nat.pow_le_pow_right (by decide) (by decide)))
  refine ⟨decide_eq_true (Nat.lt_of_lt_of_le (PySem.Flt.log2_lt_of (by decide) p) (by decide)), rfl, ?_⟩
  show (Str.ofString (toString i)).length ≤ 401
  rw [ofStr_int, S_len]
  exact intL_len h
theorem sh_all : ∀ {ds : List PyData} {n : Nat}, (∀ d ∈ ds, Sh d n) → PyData.showableAll ds = true ∧ PyData.hasDictAll ds = false ∧ (∀ t ∈ PyData.shownAll ds, t.length ≤ n) ∧ (PyData.shownAll ds).length = ds.length
  | [], n, _ => ⟨rfl, rfl, (fun t ht => nomatch ht), rfl⟩
  | d :: r, n, h => by
    obtain ⟨a, b, c, e⟩ := sh_all fun x hx => h x (List.mem_cons_of_mem _ hx)
    have hd := h d List.mem_cons_self
    refine ⟨?_, ?_, fun t ht => ?_, ?_⟩
    · show (PyData.showable d && PyData.showableAll r) = true
      rw [hd.sh, a]
      rfl
    · show (PyData.hasDict d || PyData.hasDictAll r) = false
      rw [hd.nd, b]
      rfl
    · have ht' : t ∈ PyData.shown d :: PyData.shownAll r := ht
      rcases List.mem_cons.mp ht' with z | z
      · rw [z]; exact hd.len
      · exact c t z
    · show (PyData.shown d :: PyData.shownAll r).length = _
      rw [List.length_cons, e]
      rfl
theorem piled_le {n : Nat} : ∀ {ts : List Str}, (∀ t ∈ ts, t.length ≤ n) → piled ts ≤ ts.length * (n + 2)
  | [], _ => by simp [piled]
  | t :: r, h => by
    have h1 := h t List.mem_cons_self
    have h2 := piled_le (ts := r) fun x hx => h x (List.mem_cons_of_mem _ hx)
    simp only [piled, List.map_cons, List.sum_cons, List.length_cons, Nat.add_mul] at h2 ⊢
    omega
theorem sh_tup {ds : List PyData} {n k : Nat} (h : ∀ d ∈ ds, Sh d n) (hk : ds.length ≤ k) : Sh (.tuple ds) (k * (n + 2) + 4) := by
  obtain ⟨a, b, c, e⟩ := sh_all h
  refine ⟨a, b, ?_⟩
  show (tupleText (PyData.shownAll ds)).length ≤ _
  unfold tupleText
  rw [strLen_append, strLen_append]
  have h1 : (Str.join ", " (PyData.shownAll ds)).length ≤ piled (PyData.shownAll ds) := by
    cases hs : PyData.shownAll ds with
    | nil => exact Nat.zero_le _
    | cons t r =>
      have := join_length_add (t :: r) (by simp)
      omega
  have h2 := piled_le c
  rw [e] at h2
  have h3 : ds.length * (n + 2) ≤ k * (n + 2) := Nat.mul_le_mul_right _ hk
  have h4 : (("(" : String) : Str).length = 1 := rfl
  have h5 : ((if ((PyData.shownAll ds).length == 1) = true then ",)" else ")" : String) : Str).length ≤ 2 := by
    split
    · exact Nat.le_refl _
    · decide
  omega
theorem from_le {n : Nat} : ∀ {ts : List Str} {k : Nat} {acc : Str}, (∀ t ∈ ts, t.length ≤ n) → (textFrom k acc ts).length ≤ acc.length + ts.length * (n + 2)
  | [], k, acc, _ => by
    show acc.length ≤ _
    omega
  | t :: r, k, acc, h => by
    have h1 := h t List.mem_cons_self
    have h2 := from_le (ts := r) (k := k + 1) (acc := acc ++ (if k > 0 then ", " else "" : String) ++ t) fun x hx => h x (List.mem_cons_of_mem _ hx)
    rw [strLen_append, strLen_append] at h2
    have h3 : ((if k > 0 then ", " else "" : String) : Str).length ≤ 2 := by
      split
      · exact Nat.le_refl _
      · exact Nat.zero_le _
    show (textFrom (k + 1) (acc ++ (if k > 0 then ", " else "" : String) ++ t) r).length ≤ _
    rw [List.length_cons, Nat.add_mul]
    omega
theorem sh_list {ds : List PyData} {n k : Nat} (h : ∀ d ∈ ds, Sh d n) (hk : ds.length ≤ k) : PyData.showable (.list ds) = true ∧ PyData.hasDict (.list ds) = false := by
  obtain ⟨a, b, c, e⟩ := sh_all h
  exact ⟨a, b⟩
theorem sh_fr {f : Fr} (h : FrOk f) : Sh (frD f) 810 := sh_tup (n := 401) (k := 2) (fun d hd => by
  rcases List.mem_cons.mp hd with e | hd
  · rw [e]; exact sh_int h.n
  · rw [List.mem_singleton.mp hd]; exact sh_int h.m) (by simp)
theorem sh_nu {u : Nu} (h : NuOk u) : Sh (nuD u) 1628 := sh_tup (n := 810) (k := 2) (fun d hd => by
  rcases List.mem_cons.mp hd with e | hd
  · rw [e]; exact sh_fr h.a
  · rw [List.mem_singleton.mp hd]; exact sh_fr h.b) (by simp)
theorem sh_vs {us : List Nu} (h : ∀ u ∈ us, NuOk u) (hl : us.length ≤ 3) : Sh (vsD us) 4894 := sh_tup (n := 1628) (k := 3) (fun d hd => by
  obtain ⟨u, hu, rfl⟩ := List.mem_map.mp hd
  exact sh_nu (h u hu)) (by rw [List.length_map]; exact hl)
theorem sh_pa {p : Pa} (h : PaOk p) : Sh (paD p) 9796 := sh_tup (n := 4894) (k := 2) (fun d hd => by
  rcases List.mem_cons.mp hd with e | hd
  · rw [e]; exact (sh_nu h.pl).mono (by decide)
  · rw [List.mem_singleton.mp hd]; exact sh_vs h.vs h.hi) (by simp)
theorem sh_da {D : Da} (h : DaOk D) : Sh (daD D) 58792 := sh_tup (n := 9796) (k := 6) (fun d hd => by
  obtain ⟨p, hp, rfl⟩ := List.mem_map.mp hd
  exact sh_pa (h.ps p hp)) (by rw [List.length_map]; exact h.len)
theorem sh_word (x : List Nat) (h : (PyData.shown (sD x)).length ≤ 20) : Sh (sD x) 20 := ⟨rfl, rfl, h⟩
/-! how far a wrong place lies -/
theorem valsL_hi {room : Nat} : ∀ {ws : List (List Nat)} {k j : Nat}, k ≤ 4 → valsL room k ws = .inl j → j ≤ 4
  | [], _, _, _, h => by cases h
  | w :: ws, k, j, hk, h => by
    unfold valsL at h
    split at h
    · have := Sum.inl.inj h
      omega
    · split at h
      · have := Sum.inl.inj h
        omega
      · split at h
        · rename_i j' hj
          have := valsL_hi (by omega) hj
          have := Sum.inl.inj h
          omega
        · cases h
theorem lineL_hi {D : Da} {ws : List (List Nat)} {j : Nat} (h : lineL D ws = .inl j) : j ≤ 4 := by
  cases ws with
  | nil =>
    have := Sum.inl.inj h
    omega
  | cons w ws =>
    change lineL1 D w ws = _ at h
    unfold lineL1 at h
    split at h
    · have := Sum.inl.inj h
      omega
    · split at h
      · have := Sum.inl.inj h
        omega
      · rcases hv : valsL (6 - cnt D) 1 ws with i | us
        · rw [hv] at h
          have := valsL_hi (by decide) hv
          have := Sum.inl.inj h
          omega
        · rw [hv] at h
          dsimp only at h
          split at h
          · have := Sum.inl.inj h
            omega
          · cases h
theorem dataL_hi {m : Nat} : ∀ {ls : List (List Nat)} {D : Da} {a b : Nat}, DaOk D → (∀ l ∈ ls, l.length ≤ m) → dataL D ls = .inl (a, b) → a ≤ 6 ∧ b ≤ m + 5
  | [], _, _, _, _, _, h => by cases h
  | [l], D, a, b, hD, hm, h => by
    have hl := hm l List.mem_cons_self
    have hw := splC_len 32 l
    have hd := hD.len
    unfold dataL at h
    split at h
    · cases h
    · split at h
      · rename_i j hj
        have e := Sum.inl.inj h
        have := lineL_hi hj
        have e1 := congrArg Prod.fst e
        have e2 := congrArg Prod.snd e
        simp only at e1 e2
        omega
      · have e := Sum.inl.inj h
        have e1 := congrArg Prod.fst e
        have e2 := congrArg Prod.snd e
        simp only at e1 e2
        omega
  | l :: q :: r, D, a, b, hD, hm, h => by
    have hd := hD.len
    unfold dataL at h
    split at h
    · rename_i j hj
      have e := Sum.inl.inj h
      have := lineL_hi hj
      have e1 := congrArg Prod.fst e
      have e2 := congrArg Prod.snd e
      simp only at e1 e2
      omega
    · rename_i p hp
      exact dataL_hi (lineL_ok hp hD).2 (fun x hx => hm x (List.mem_cons_of_mem _ hx)) h
theorem own_sh {x : List Nat} (hx : x.length ≤ 50000) : (ownX x).showable = true ∧ (ownX x).hasDict = false ∧ (ownX x).depth ≤ 60 ∧ (ownX x).shown.length ≤ sizeLine := by
  unfold ownX
  cases h : readL x with
  | inr D =>
    have ok := (readL_ok h).2
    have s := sh_tup (ds := [sD [114, 101, 97, 100], daD D]) (n := 58792) (k := 2) (fun d hd => by
      rcases List.mem_cons.mp hd with e | hd
      · rw [e]; exact (sh_word _ (by decide +kernel)).mono (by decide)
      · rw [List.mem_singleton.mp hd]; exact sh_da ok) (by simp)
    refine ⟨s.sh, s.nd, ?_, Nat.le_trans s.len (by decide)⟩
    have dv : ∀ us : List Nu, (vsD us).depth ≤ 3 := fun us => by
      have := dep_nus us
      simp only [vsD, PyData.depth]
      omega
    have dp : ∀ p : Pa, (paD p).depth ≤ 4 := fun p => by
      have := dv p.2
      have := dep_nu p.1
      simp only [paD, PyData.depth, PyData.depthAll]
      omega
    have da : ∀ D : Da, PyData.depthAll (D.map paD) ≤ 4 := fun D => by
      induction D with
      | nil => simp [PyData.depthAll]
      | cons p r ih =>
        have := dp p
        simp only [List.map_cons, PyData.depthAll]
        omega
    have := da D
    simp only [daD, PyData.depth, PyData.depthAll]
    omega
  | inl q =>
    obtain ⟨a, b⟩ := q
    obtain ⟨h1, h2⟩ := dataL_hi (m := 50000) DaOk.nil (fun l hl => Nat.le_trans (splC_part 10 x l hl) hx) h
    have big : (60000 : Nat) < 10 ^ 400 := Nat.lt_of_lt_of_le (by decide : (60000 : Nat) < 10 ^ 5) (Nat.pow_le_pow_right (by decide) (by decide))
    have ia : Sh (.int (a : Nat)) 401 := sh_int (by rw [Int.natAbs_natCast]; omega)
    have ib : Sh (.int (b : Nat)) 401 := sh_int (by rw [Int.natAbs_natCast]; omega)
    have it : Sh (.bool true) 401 := ⟨rfl, rfl, by decide⟩
    have all4 : ∀ d ∈ [PyData.int (a : Nat), .int (b : Nat), .bool true, .bool true], Sh d 401 := fun d hd => by
      simp only [List.mem_cons, List.not_mem_nil, or_false] at hd
      rcases hd with rfl | rfl | rfl | rfl
      · exact ia
      · exact ib
      · exact it
      · exact it
    have sl : Sh (.list [.int (a : Nat), .int (b : Nat), .bool true, .bool true]) 2000 := by
      obtain ⟨z1, z2⟩ := sh_list (k := 4) all4 (by simp)
      refine ⟨z1, z2, ?_⟩
      obtain ⟨_, _, c, e⟩ := sh_all all4
      have hf := from_le (k := 0) (acc := ("[" : String)) c
      rw [e] at hf
      have h1 : (("[" : String) : Str).length = 1 := rfl
      have h2 : (("]" : String) : Str).length = 1 := rfl
      show (textFrom 0 ("[" : String) (PyData.shownAll [PyData.int (a : Nat), .int (b : Nat), .bool true, .bool true]) ++ (("]" : String) : Str)).length ≤ _
      rw [strLen_append, h2]
      simp only [List.length_cons, List.length_nil] at hf
      omega
    have s := sh_tup (ds := [sD [119, 114, 111, 110, 103], .list [.int (a : Nat), .int (b : Nat), .bool true, .bool true]]) (n := 2000) (k := 2) (fun d hd => by
      rcases List.mem_cons.mp hd with e | hd
      · rw [e]; exact (sh_word _ (by decide +kernel)).mono (by decide)
      · rw [List.mem_singleton.mp hd]; exact sl) (by simp)
    refine ⟨s.sh, s.nd, ?_, Nat.le_trans s.len (by decide)⟩
    simp [PyData.depth, PyData.depthAll]
end K82

/-! part V -/
set_option Elab.async false
set_option linter.all false
set_option maxRecDepth 100000
set_option maxHeartbeats 4000000
set_option autoImplicit false
set_option exponentiation.threshold 9000
/-! the well -/
namespace K82
open PySem PySem.Spec PyProof.Rows L2
open SX (S S_len S_cat S_inj num_S lens join_S split_S)
section
variable {P : Program} {w : World} {K : PySem.W.Frag} {mg : Str → Option Value} {base : Heap}

def stirS (s c : Int) : Int := (s * 69621 + c % 1000000009 * 31 + 12347) % 2147483629
def ownN (ns : List Int) (t : Nat) : Int := if t < ns.length then ns.getD t 0 else 0
def stirF (ns : List Int) (t : Nat) : Int := (ns.take 9 ++ [ownN ns t]).foldl stirS (90001 + 7211 * (t : Int))
def bigN (i : Int) : Int := if (1000000000000000000 : Int) ≤ (if i < 0 then -i else i) then (if i < 0 then -i else i) else 0
theorem stir_rng (s c : Int) : 0 ≤ stirS s c ∧ stirS s c < 2147483629 := ⟨Int.emod_nonneg _ (by decide), Int.emod_lt_of_pos _ (by decide)⟩
theorem stirF_rng (ns : List Int) (t : Nat) : 0 ≤ stirF ns t ∧ stirF ns t < 2147483629 := by
  unfold stirF
  rw [List.foldl_append]
  exact stir_rng _ _
def R__law_well : List PyData → List PyData → Prop := fun ds d => ∃ (ns : List Int) (t : Nat), t ≤ 100 ∧ ns.length ≤ 1000 ∧ ds = [.list (ns.map .int), .int (t : Nat)] ∧ d = [.int (bigN (ownN ns t)), .int (stirF ns t), .int 0]
abbrev sp__law_well (K : PySem.W.Frag) : Sp := spL K 2 R__law_well
theorem G__law_well (T : Txt K mg) : FnOk P w K mg base CX0 1 (He.ga K "_law_well") T.e__law_well ["_law_script", "_law_turn"] (spL K 2 R__law_well) := by
  refine T.d__law_well.okL (n := 2) (m := 3) sc__law_well rfl rfl fun cdv A outer s H E hr => ⟨_, (pss_cons (ps_set (i := 2) sc__law_well.nd rfl (.inl rfl) (pe_ifExp (pt_cmpR (op_lt) (pv 1) (pe_callB cr_len rfl T.f_len (by decide +kernel) (pa_cons (pv 0) pa_nil)) (nomark _)) (pe_callTy cr_intI rfl T.f_int (by decide +kernel) (pa_cons (pe_ix ix_list (pv 0) (pv 1) (fun _ _ => rfl)) pa_nil)) pe_int))
      (pss_cons (ps_set (i := 3) sc__law_well.nd rfl (.inl rfl) (pe_op op_add pe_int (pe_op op_mulW pe_int (pv 1))))
      (pss_cons (ps_for PassesOwn.never rfl (pi_list (pe_op op_cat (pe_slice sl_list (pv 0) po_none (po_some pe_int)) (pe_lst (pa_cons (pv 2) pa_nil)))) (pg_name (i := 4) sc__law_well.nd rfl (.inl rfl))
      (pss_one (ps_set (i := 3) sc__law_well.nd rfl (.inl rfl) (pe_op op_mod (pe_callTy cr_intI rfl T.f_int (by decide +kernel) (pa_cons (pe_op op_add (pe_op op_add (pe_op op_mulW (pv 3) pe_int) (pe_op op_mulW (pe_op op_mod (pe_callTy cr_intI rfl T.f_int (by decide +kernel) (pa_cons (pv 4) pa_nil)) pe_int) pe_int)) pe_int) pa_nil)) pe_int))))
      (pss_one (ps_ret (pe_lst (pa_cons (pe_ifExp (pt_cmpR (op_ge) (pe_callB cr_abs rfl T.f_abs (by decide +kernel) (pa_cons (pv 2) pa_nil)) (pe_op op_pow pe_int pe_int) (nomark _)) (pe_callB cr_abs rfl T.f_abs (by decide +kernel) (pa_cons (pv 2) pa_nil)) pe_int) (pa_cons (pv 3) (pa_cons pe_int pa_nil))))))))),
    fun ds d hlen0 hR H0 D hq => ?_⟩
  obtain ⟨ns, t, ht, hl, rfl, rfl⟩ := hR
  have lfi : ∀ l : List Int, ∀ d ∈ l.map PyData.int, LF d := fun l d hd => by
    obtain ⟨i, _, rfl⟩ := List.mem_map.mp hd
    exact .int _
  refine go_seq (go_set (d := .int (ownN ns t)) (ev_if (b := decide ((t : Int) < (ns.length : Nat))) (evb_is (evb_test (ev_op (ev_arg rfl) (ev_cb (eva_cons (ev_arg rfl) eva_nil) cbv_lenL) opv_B0)) (by rw [List.length_map])) (fun h => ?_) (fun h => ev_is ev_int (by
    unfold ownN
    rw [if_neg (by have := of_decide_eq_false h; omega)]))) (go_nx ?_))
  · have hlt : t < ns.length := by
      have := of_decide_eq_true h
      omega
    refine ev_is (ev_cb (eva_1 (ev_op (ev_arg (d := .list (ns.map .int)) rfl) (ev_arg (d := .int (t : Nat)) rfl) (opv_ixL (i := t) (d := .int ns[t]) (by rw [List.getElem?_map, List.getElem?_eq_getElem hlt]; rfl)))) cbv_intI) ?_
    unfold ownN
    rw [if_pos hlt, List.getD_eq_getElem?_getD, List.getElem?_eq_getElem hlt]
    rfl
  refine go_seq (go_set (d := .int (90001 + 7211 * (t : Int))) (ev_op ev_int (ev_op ev_int (ev_arg (d := .int (t : Nat)) rfl) (opv_I (wide_mul (a := 32) (b := 32) (by decide) (by omega) (by decide) (by decide) (by decide)))) opv_I0) (go_nx ?_))
  have cells : EvF K (tOp rCat (tSl (rSlL K) (tVar 0) tNoPart (tPart (tC (.int 9)))) (tLst (tCons (tVar 2) tNil))) (((slots [PyData.list (ns.map .int), PyData.int (t : Nat)] 3).set 2 (.dat (.int (ownN ns t)))).set 3 (.dat (.int (90001 + 7211 * (t : Int))))) ((ns.take 9 ++ [ownN ns t]).map .int) := evf_is (evf_cat (evf_slL (ev_arg (d := .list (ns.map .int)) rfl) evo_none (evo_some (ev_int (i := 9)))) (evf_lst (eva_1 (ev_dat (d := .int (ownN ns t)) rfl)) (by simp)) (fun d hd => lfi (ns.take 9) d (by
    rw [show cutD (ns.map PyData.int) none (some 9) = (ns.map PyData.int).take 9 from cutD_to _ 9, ← List.map_take] at hd
    exact hd)) (by
    rw [show cutD (ns.map PyData.int) none (some 9) = (ns.map PyData.int).take 9 from cutD_to _ 9, List.length_take]
    simp
    omega)) (by
    rw [show cutD (ns.map PyData.int) none (some 9) = (ns.map PyData.int).take 9 from cutD_to _ 9, ← List.map_take, List.map_append]
    rfl)
  refine go_seq (go_forS (σt := Int) (itd_list (ev_fresh cells)) (fun i st => st = ((ns.take 9 ++ [ownN ns t]).take i).foldl stirS (90001 + 7211 * (t : Int)) ∧ 0 ≤ st ∧ st < 2147483629) (fun i st => [.no, .no, .dat (.int (ownN ns t)), .dat (.int st), .no]) (90001 + 7211 * (t : Int)) [4] ⟨rfl, by omega, by omega⟩ rfl ?_ ?_ ?_)
  · intro j s hj hs
    rcases j with _ | _ | _ | _ | _ | j
    all_goals first | exact hj | exact absurd (Option.some.inj hj).symm hs | cases hj
  · rintro H1 e01 i d st hd ⟨p1, p2, p3⟩
    obtain ⟨c, hc, rfl⟩ := map_get hd
    refine ⟨_, tg_name, ?_⟩
    have m0 : 0 ≤ c % 1000000009 := Int.emod_nonneg _ (by decide)
    have m1 : c % 1000000009 < 1000000009 := Int.emod_lt_of_pos _ (by decide)
    refine go_set (d := .int (stirS st c)) (ev_op (ev_cb (eva_1 (ev_op (ev_op (ev_op (ev_dat (d := .int st) rfl) ev_int (opv_I (wide_mul (a := 32) (b := 32) (by omega) (by decide) (by decide) (by decide) (by decide)))) (ev_op (ev_op (ev_cb (eva_1 (ev_dat (d := .int c) rfl)) cbv_intI) ev_int (opv_I (show (0 : Int) < 1000000009 by decide))) ev_int (opv_I (wide_mul (a := 32) (b := 32) (by omega) (by decide) (by decide) (by decide) (by decide)))) opv_I0) ev_int opv_I0)) cbv_intI) ev_int (opv_I (show (0 : Int) < 2147483629 by decide))) fun σ H S => ⟨stirS st c, S.weak rfl fun j s hj hs => ?_, ?_, (stir_rng _ _).1, (stir_rng _ _).2⟩
    · rcases j with _ | _ | _ | _ | _ | j
      all_goals first | exact hj | exact absurd (Option.some.inj hj).symm hs | cases hj
    · rw [p1, List.take_add_one (i := i), hc, List.foldl_append]
      rfl
  · rintro st ⟨p1, p2, p3⟩
    refine ⟨go_nx ?_, fun j d hj => ?_⟩
    · have e : st = stirF ns t := by
        rw [p1, List.length_map, List.take_length]
        rfl
      subst e
      refine go_retF (evf_lst (eva_cons (ev_if (d := .int (bigN (ownN ns t))) (b := decide ((1000000000000000000 : Int) ≤ (if ownN ns t < 0 then -ownN ns t else ownN ns t))) (evb_test (ev_op (ev_cb (eva_1 (ev_dat (d := .int (ownN ns t)) rfl)) cbv_abs) (ev_is (ev_op ev_int ev_int (opv_I ⟨by decide, by decide, by decide⟩)) (z := .int 1000000000000000000) (congrArg PyData.int (by decide +kernel))) opv_B0)) (fun h => ev_is (ev_cb (eva_1 (ev_dat (d := .int (ownN ns t)) rfl)) cbv_abs) (by
        unfold bigN
        rw [if_pos (of_decide_eq_true h)])) (fun h => ev_is ev_int (by
        unfold bigN
        rw [if_neg (of_decide_eq_false h)]))) (eva_cons (ev_dat (d := .int (stirF ns t)) rfl) (eva_cons ev_int eva_nil))) (by simp)) hq
    · rcases j with _ | _ | _ | _ | _ | j <;> cases hj
end
end K82

/-! part R -/
set_option Elab.async false
set_option linter.all false
set_option maxRecDepth 100000
set_option maxHeartbeats 4000000
set_option autoImplicit false
set_option exponentiation.threshold 9000
/-! each number: right -/
namespace K82
open PySem PySem.Spec PyProof.Rows L2
open SX (S S_len S_cat S_inj num_S lens join_S split_S)
section
variable {P : Program} {w : World} {K : PySem.W.Frag} {mg : Str → Option Value} {base : Heap}

def tKw1 (sp : Sp) (E : XK) (te : TE) : TE := fun σ H Q => te σ H fun v H1 => sp [v] H1 Q E
theorem pe_kw1 {X : Cx} {k : Nat} {f : Addr} {fd : FuncData} {z : Str} {sp : Sp} {E : XK} {x : Str} {e : Expr} {te : TE} {p pos kpos : Pos} (F : FnOk X.prog X.w X.K X.mg X.base CX0 k f fd [z] sp) (hr : Room k X.A) (hg : Gl X x) (hm : X.mg x = some (.ref f)) (hk : PySem.W.keepIn X.K (.ref f) = true)
    (hb : ∀ (s : Shared) (v : Value), BindsTo s fd ⟨[], [(z, v)]⟩ [(z, v)]) (he : PE X e te) (hdb : (x == ("__debug__" : Str)) = false := by decide) (hall : (backToKw pos (keywordEach [⟨some z, e, kpos⟩] X.env)).all (·.1.isSome) = true := by rfl)
    (hks : (backToKw pos (keywordEach [⟨some z, e, kpos⟩] X.env)).filterMap (·.1) = [z] := by rfl) (hpl : ((backTo pos (starEach [] X.env)).any (·.1) || (backToKw pos (keywordEach [⟨some z, e, kpos⟩] X.env)).any (·.1.isNone)) = false := by rfl) :
    PE X (.Call (.Name x p) [] [⟨some z, e, kpos⟩] pos) (tKw1 sp E te) := by
  constructor
  intro pins s σ H Q I h
  refine wpAny_Call_Name_kw (ld_glob I hg hm ?_ hdb)
  have hrun := (pk_cons (nm := some z) (kpos := kpos) he pk_nil).run pos pins s σ H (fun vs H1 => sp vs H1 Q E) I h
  refine PySem.W.callWith_KW0 (h₀ := X.base) I.ok.mod.kin hk hall (thn hrun fun ws s2 ⟨zs, H2, I2, rz, q⟩ => ⟨I2.kIn, ?_⟩) hpl
  · obtain ⟨v, rfl⟩ : ∃ v, zs = [v] := List.length_eq_one_iff.mp (F.len _ _ _ _ q)
    obtain ⟨u, rfl, ru⟩ := vals1 rz
    rw [hks]
    refine wpAny_call (codeAny_mono (F.run X.A X.stack s2 H2 ⟨[], [(z, u)]⟩ [u] [v] Q E hr I2.env0 (hb s2 u) (.cons ru .nil) q) fun res s' hres => ?_)
    cases res with
    | error er => exact (hres : False).elim
    | ok fl =>
      cases fl with
      | ret u => exact I2.after hres
      | next => exact (hres : False).elim
      | brk => exact (hres : False).elim
      | cont => exact (hres : False).elim
theorem kb_read_data (T : Txt K mg) (s : Shared) (v : Value) : BindsTo s T.e_read_data ⟨[], [("text", v)]⟩ [("text", v)] := by
  obtain ⟨oc, od, dV, kV, doc, pm, an, cdv, ct, osl, e, lk, hcd, hD, hK⟩ := T.d_read_data.f.ex
  rw [e]
  rcases hD with ⟨_, rfl⟩ | ⟨e, _⟩
  · exact .of_eq rfl
  · exact absurd rfl e
end
end K82

/-! part S -/
set_option Elab.async false
set_option linter.all false
set_option maxRecDepth 100000
set_option maxHeartbeats 4000000
set_option autoImplicit false
set_option exponentiation.threshold 9000
/-! each number: right, walked -/
namespace K82
open PySem PySem.Spec PyProof.Rows L2
open SX (S S_len S_cat S_inj num_S lens join_S split_S)
section
variable {P : Program} {w : World} {K : PySem.W.Frag} {mg : Str → Option Value} {base : Heap}

section
variable {H0 H H2 : Hp} {p q : Addr} {L : List (Addr × HO)} {R : List (Nat × Addr)} {n m : Nat} {σ : L2.St} {Γ : Ga} {te : TE}
theorem ixN_at {n k : Nat} (h : k < n) : ixN n (k : Int) = some k := by
  unfold ixN
  rw [if_pos (by omega), if_pos (by omega), Int.toNat_natCast]
theorem StW.addLF {xs : List V} (St : StW K H0 p L R n H σ Γ) (hq : H q = none) (fr : FrP p H H2) (w2 : Wl p H2 m) (nq : q ≠ p) (h2 : H2 q = some (.lst xs)) : StW K H0 p ((q, .lst xs) :: L) R m H2 σ Γ := by
  have S2 := St.step fr w2
  refine ⟨St.sd.same fun b u hb => ?_, w2, fun x hx => ?_, St.rf⟩
  · obtain ⟨a1, a2, a3⟩ := hid_some hb
    have nb : b ≠ q := fun z => by rw [z, hq] at a3; cases a3
    rw [hid_of a1]
    · exact fr b u a1 a3
    · rw [List.map_cons]
      intro z
      rcases List.mem_cons.mp z with z | z
      · exact nb z
      · exact a2 z
  · rcases List.mem_cons.mp hx with z | z
    · rw [z]
      exact ⟨h2, nq, xs, rfl⟩
    · exact S2.pin x z
theorem evw_lenR {i : Nat} {xs : List V} (hi : (i, q) ∈ R) (hq : (q, .lst xs) ∈ L) : EvW K (tCB (rLenD K) (tCons (tVar i) tNil)) p L R Γ (isI (xs.length : Nat) (xs.length : Nat)) 0 := fun H0 n σ H St hn Q z =>
  ⟨.ref q, (St.rf _ hi).1, _, xs.length, rfl, .inl ⟨xs, SqL.of (St.pin _ hq).1, rfl⟩, z _ (.int _) H (FrP.refl p H) St.wl (.int _) ⟨_, rfl, Int.le_refl _, Int.le_refl _⟩⟩
theorem opv_neSame {x : Str} : OpV K rNe (.str x) (.str x) (.bool false) := fun H a b ha hb Q z => by
  rw [ha.strI, hb.strI]
  refine ⟨rfl, ?_⟩
  rw [decide_eq_true rfl]
  exact z _ H (Same.refl H) (.bl _)
theorem cbv_repr {x : List Nat} (hx : x.length ≤ 50000) : CbV K (rRepr K) [ownX x] (.str (ownX x).shown) := fun H vs hv Q z => by
  obtain ⟨s1, s2, s3, s4⟩ := own_sh hx
  cases hv with
  | cons h1 hr =>
    cases hr
    have : ∃ ds, ownX x = .tuple ds := by
      unfold ownX
      cases readL x <;> exact ⟨_, rfl⟩
    obtain ⟨ds, e⟩ := this
    have h1' := h1
    rw [e] at h1'
    obtain ⟨a, xs, rfl, _, _⟩ := h1'.tupI
    exact ⟨a, ownX x, rfl, h1, s1, s2, s3, s4, z _ H (Same.refl H) (.str _)⟩
theorem ev_kw1 {Rl : List PyData → PyData → Prop} {E : XK} {d z : PyData} (h : EvG K te Γ d) (hR : Rl [d] z) : EvG K (tKw1 (spP K 1 Rl) E te) Γ z := fun H0 σ H S Q q =>
  h H0 σ H S _ fun v H1 s1 hv => ⟨[d], z, .cons hv .nil, rfl, hR, fun u H2 s2 hu => q u H2 (s1.trans s2) hu⟩
end
abbrev lnsD (ls : List (Addr × List (List Nat))) : List PyData := ls.map fun x => .list (x.2.map sD)
theorem dp_lines {H : Hp} {f : Addr} {ls : List (Addr × List (List Nat))} (hf : H f = some (.lst (ls.map fun x => V.ref x.1))) (hl : ∀ x ∈ ls, H x.1 = some (.lst (x.2.map stV))) : Dp K H (.ref f) (.list (lnsD ls)) := by
  refine .lst (SqL.of hf) ?_
  clear hf
  induction ls with
  | nil => exact .nil
  | cons x r ih => exact .cons (.lst (SqL.of (hl x List.mem_cons_self)) (dp_strs x.2)) (ih fun y hy => hl y (List.mem_cons_of_mem _ hy))
theorem pl_lines (ls : List (Addr × List (List Nat))) : PyData.plain (.list (lnsD ls)) = true ∧ PyData.depth (.list (lnsD ls)) ≤ 2 := by
  have h : PyData.plainAll (lnsD ls) = true ∧ PyData.depthAll (lnsD ls) ≤ 1 := by
    induction ls with
    | nil => exact ⟨rfl, Nat.zero_le _⟩
    | cons x r ih =>
      obtain ⟨a, b⟩ := pl_strs x.2
      refine ⟨?_, ?_⟩
      · show (PyData.plain (.list (x.2.map sD)) && PyData.plainAll (lnsD r)) = true
        rw [a, ih.1]
        rfl
      · have e : PyData.depthAll (lnsD (x :: r)) = max (PyData.depth (.list (x.2.map sD))) (PyData.depthAll (lnsD r)) := by
          simp only [lnsD, List.map_cons, PyData.depthAll]
        rw [e]
        omega
  refine ⟨by simp only [PyData.plain]; exact h.1, ?_⟩
  have := h.2
  simp only [PyData.depth]
  omega
abbrev Lg (f : Addr) (ls : List (Addr × List (List Nat))) (Ls : List (Addr × HO)) : List (Addr × HO) := (f, .lst (ls.map fun x => V.ref x.1)) :: Ls
abbrev G8 : Ga := [.no, .no, .no, .no, .no, .no, .no, .no]
structure RI (K : PySem.W.Frag) (H0 Hin : Hp) (p f : Addr) (n0 k : Nat) (σ : L2.St) (H : Hp) (ls : List (Addr × List (List Nat))) (Ls : List (Addr × HO)) (n : Nat) : Prop where
  st : StW K H0 p (Lg f ls Ls) [(1, f), (0, p)] n H σ G8
  sub : ∀ x ∈ ls, lsO x ∈ Ls
  nf : f ∉ Ls.map (·.1)
  len : ls.length ≤ 7
  bd : ∀ x ∈ ls, x.2.length ≤ 5 + k ∧ ∀ y ∈ x.2, y.length ≤ 20
  hn : n ≤ n0 + k * 10
  fp : FrP p Hin H
def sp__law_right (K : PySem.W.Frag) : Sp := fun vs H Q _ => ∃ (p : Addr) (n : Nat), vs = [.ref p] ∧ Wl p H n ∧ n + 10000 ≤ capW ∧ ∀ H', FrP p H H' → Q (.bl true) H'
theorem text_len {ls : List (Addr × List (List Nat))} (h : ∀ x ∈ ls, x.2.length ≤ 7 ∧ ∀ y ∈ x.2, y.length ≤ 20) : ∀ z ∈ ls.map (fun x => TL.joinL [32] x.2 ++ [10]), z.length ≤ 150 := fun z hz => by
  obtain ⟨x, hx, rfl⟩ := List.mem_map.mp hz
  obtain ⟨a, b⟩ := h x hx
  have := joinC_len (c := 32) (k := 20) (ps := x.2) b
  rw [joinL_one, List.length_append, List.length_singleton]
  have h2 : x.2.length * (20 + 1) ≤ 7 * (20 + 1) := Nat.mul_le_mul_right _ a
  omega
theorem join0_len : ∀ ps : List (List Nat), (TL.joinL [] ps).length = (ps.map (·.length)).sum
  | [] => rfl
  | [p] => by simp [TL.joinL]
  | p :: q :: r => by
    show (p ++ ([] ++ TL.joinL [] (q :: r))).length = _
    have := join0_len (q :: r)
    simp only [List.length_append, List.nil_append, List.map_cons, List.sum_cons] at this ⊢
    omega
/-- the end of right, with no draw -/
theorem pure_right (T : Txt K mg) {H : Hp} {X : List Nat} {D : Ends} (hX : X.length ≤ 50000) (q : Rt K H D (.bool true)) : Go K H (tSeq (tAsg (tCall (sp__law_own K) [] E0 (tCons (tVar 4) tNil)) (gName 6)) (tSeq (tIfS (tTest (tOp rNe (tCB (rRepr K) (tCons (tCall (sp__law_told K) [] E0 (tCons (tVar 4) tNil)) tNil)) (tCB (rRepr K) (tCons (tVar 6) tNil)))) (tRet (tC (.bl false))) tNext) (tRet (tOrV (tOp rEq (tOp (rIxT K) (tVar 6) (tC (.int 0))) (tC (.str "wrong"))) (tOp rEq (tCall (sp_data_text K) [] E0 (tCons (tKw1 (sp_read_data K) E0 (tVar 4)) tNil)) (tVar 4)))))) [.no, .no, .no, .no, .dat (sD X), .no, .no, .no] D := by
  refine go_seq (go_set (d := ownX X) (ev_call (eva_1 (ev_dat (d := sD X) rfl)) rfl ⟨X, hX, rfl, rfl⟩) (go_nx ?_))
  refine go_seq (go_ifF (evb_test (ev_op (ev_cb (eva_1 (ev_call (eva_1 (ev_dat (d := sD X) rfl)) rfl ⟨X, hX, rfl, rfl⟩)) (cbv_repr hX)) (ev_cb (eva_1 (ev_dat (d := ownX X) rfl)) (cbv_repr hX)) opv_neSame)) (go_next (go_nx ?_)))
  cases h : readL X with
  | inl ab =>
    have e : ownX X = .tuple [sD [119, 114, 111, 110, 103], .list [.int (ab.1 : Nat), .int (ab.2 : Nat), .bool true, .bool true]] := by
      unfold ownX
      rw [h]
    refine go_ret (ev_is (ev_orV (a := true) (b := true) (ev_is (ev_op (ev_op (ev_is (ev_dat (d := ownX X) rfl) e) ev_int (opv_ixT (i := 0) rfl)) (ev_lit (x := [119, 114, 111, 110, 103]) (by decide +kernel)) opv_eqS) rfl) (fun z => nomatch z)) rfl) q
  | inr D' =>
    have e : ownX X = .tuple [sD [114, 101, 97, 100], daD D'] := by
      unfold ownX
      rw [h]
    obtain ⟨e1, ok⟩ := readL_ok h
    refine go_ret (ev_is (ev_orV (a := false) (b := true) (ev_is (ev_op (ev_op (ev_is (ev_dat (d := ownX X) rfl) e) ev_int (opv_ixT (i := 0) rfl)) (ev_lit (x := [119, 114, 111, 110, 103]) (by decide +kernel)) opv_eqS) rfl) (fun _ => ev_is (ev_op (ev_call (eva_1 (ev_kw1 (ev_dat (d := sD X) rfl) ⟨X, D', hX, h, rfl, rfl⟩)) rfl ⟨D', ok, rfl, rfl⟩) (ev_dat (d := sD X) rfl) opv_eqS) (by rw [e1, decide_eq_true rfl]))) rfl) q
theorem G__law_right (T : Txt K mg) : FnG P w K mg base 9 (He.ga K "_law_right") T.e__law_right ["_law_well_here"] (sp__law_right K) := by
  refine okG T.d__law_right.f sc__law_right (fun vs H Q E q => by
    obtain ⟨p, n, rfl, _⟩ := q
    rfl) fun cdv A outer s Hin vs Q E hr hgd0 hs => ⟨(tSeq (tAsg (tCall (sp__law_lines K) [] E0 (tCons (tVar 0) tNil)) (gName 1)) (tSeq (tFor (iRng1 (tCons (tIf (tTest (tOp (rNePl K) (tVar 1) (tLst tNil))) (tCall (sp__law_one_of K) [] E0 (tCons (tVar 0) (tCons (tLst (tCons (tC (.int 0)) (tCons (tC (.int 0)) (tCons (tC (.int 1)) (tCons (tC (.int 1)) (tCons (tC (.int 2)) tNil)))))) tNil))) (tC (.int 0))) tNil)) (gName 2) (tSeq (tAsg (tCall (sp__law_draw K) [] E0 (tCons (tVar 0) (tCons (tCB (rLenD K) (tCons (tVar 1) tNil)) tNil))) (gName 3)) (tAsg (tCall (sp__law_bent_word K) [] E0 (tCons (tVar 0) (tCons (tOp (rIxL K) (tVar 1) (tVar 3)) tNil))) (gSub (tVar 1) (tVar 3) rSetL)))) (tSeq (tAsg (tM1 (rJoin K) (tC (.str "")) (tLc (iList K (tVar 1)) (gName 7) tYes (tOp rAddS (tM1 (rJoin K) (tC (.str " ")) (tVar 7)) (tC (.str "\n"))) [7])) (gName 4)) (tSeq (tAsg (tCall (sp__law_draw K) [] E0 (tCons (tVar 0) (tCons (tC (.int 8)) tNil))) (gName 5)) (tSeq (tIfS (tTest (tOp rEq (tVar 5) (tC (.int 0)))) (tAsg (tSl rSlS (tVar 4) tNoPart (tPart (tUn (rU fun i => .int (-i)) (tC (.int 1))))) (gName 4)) tNext) (tSeq (tIfS (tTest (tOp rEq (tVar 5) (tC (.int 1)))) (tSeq (tAsg (tCall (sp__law_draw K) [] E0 (tCons (tVar 0) (tCons (tOp (rI0 fun i j => .int (i + j)) (tCB (rLenD K) (tCons (tVar 4) tNil)) (tC (.int 1))) tNil))) (gName 3)) (tAsg (tOp rAddS (tOp rAddS (tSl rSlS (tVar 4) tNoPart (tPart (tVar 3))) (tC (.str "\n"))) (tSl rSlS (tVar 4) (tPart (tVar 3)) tNoPart)) (gName 4))) tNext) (tSeq (tAsg (tCall (sp__law_own K) [] E0 (tCons (tVar 4) tNil)) (gName 6)) (tSeq (tIfS (tTest (tOp rNe (tCB (rRepr K) (tCons (tCall (sp__law_told K) [] E0 (tCons (tVar 4) tNil)) tNil)) (tCB (rRepr K) (tCons (tVar 6) tNil)))) (tRet (tC (.bl false))) tNext) (tRet (tOrV (tOp rEq (tOp (rIxT K) (tVar 6) (tC (.int 0))) (tC (.str "wrong"))) (tOp rEq (tCall (sp_data_text K) [] E0 (tCons (tKw1 (sp_read_data K) E0 (tVar 4)) tNil)) (tVar 4)))))))))))), ?_, ?_⟩
  · have hgd : (cxOf CX0 P w K mg base ["_law_well_here", "_law_lines_here", "_law_turn", "_law_at", "_law_phrase", "_law_way", "_law_due", "_law_words"] "_law_right" (defScope S__law_right) (He.ga K "_law_right") cdv A outer s Hin E).nox.A.guards = some [] := hgd0
    exact PSs.nox (X := cxOf CX0 P w K mg base _ _ _ _ cdv A outer s Hin E) (pss_cons (ps_set (i := 1) sc__law_right.nd rfl (.inl rfl) (pe_call (G__law_lines T) (hr.mono (by decide)) rfl T.d__law_lines.g T.d__law_lines.f.kp (b__law_lines T) .nil pass0 (pa_cons (pv 0) pa_nil)))
      (pss_cons (ps_for PassesOwn.never rfl (pi_range1 rfl T.f_range (pa_cons (pe_ifExp (pt_cmpR (op_nePl (u64 hr)) (pv 1) (pe_lst pa_nil) (nomark _)) (pe_call (G__law_one_of T) (hr.mono (by decide)) rfl T.d__law_one_of.g T.d__law_one_of.f.kp (b__law_one_of T) .nil pass0 (pa_cons (pv 0) (pa_cons (pe_lst (pa_cons pe_int (pa_cons pe_int (pa_cons pe_int (pa_cons pe_int (pa_cons pe_int pa_nil)))))) pa_nil))) pe_int) pa_nil)) (pg_name (i := 2) sc__law_right.nd rfl (.inl rfl))
      (pss_cons (ps_set (i := 3) sc__law_right.nd rfl (.inl rfl) (pe_call (G__law_draw T) (hr.mono (by decide)) rfl T.d__law_draw.g T.d__law_draw.f.kp (b__law_draw T) .nil pass0 (pa_cons (pv 0) (pa_cons (pe_callB cr_len rfl T.f_len (by decide +kernel) (pa_cons (pv 1) pa_nil)) pa_nil))))
      (pss_one (ps_asg (pe_call (G__law_bent_word T) (hr.mono (by decide)) rfl T.d__law_bent_word.g T.d__law_bent_word.f.kp (b__law_bent_word T) .nil pass0 (pa_cons (pv 0) (pa_cons (pe_ix ix_list (pv 1) (pv 3) (fun _ _ => rfl)) pa_nil))) (pg_sub (pv 1) (pv 3) set_list)))))
      (pss_cons (ps_set (i := 4) sc__law_right.nd rfl (.inl rfl) (pe_m1 PySem.F.slot_str_join PySem.F.type_str_join mt_joinD pe_str (pe_lc (own := [("_law_words", 7)]) (wi := (iList K (tVar 1))) (g := (gName 7)) (tt := tYes) (te := (tOp rAddS (tM1 (rJoin K) (tC (.str " ")) (tVar 7)) (tC (.str "\n")))) rfl sc__law_right.nd (pi_list (pv 1)) (blkOk_by (own := [("_law_words", 7)]) (N := ["_law_well_here", "_law_lines_here", "_law_turn", "_law_at", "_law_phrase", "_law_way", "_law_due", "_law_words"]) (sc := defScope S__law_right) (by decide +kernel)) (fun _ _ _ _ _ => (pg_name (i := 7) sc__law_right.nd rfl (.inl rfl))) (fun _ _ _ _ _ => pts_nil) (fun _ _ _ _ _ => (pe_op op_addS (pe_m1 PySem.F.slot_str_join PySem.F.type_str_join mt_joinD pe_str (pv 7)) pe_str)))))
      (pss_cons (ps_set (i := 5) sc__law_right.nd rfl (.inl rfl) (pe_call (G__law_draw T) (hr.mono (by decide)) rfl T.d__law_draw.g T.d__law_draw.f.kp (b__law_draw T) .nil pass0 (pa_cons (pv 0) (pa_cons pe_int pa_nil))))
      (pss_cons (ps_if (pt_cmpR (op_eq) (pv 5) pe_int (nomark _)) (pss_one (ps_set (i := 4) sc__law_right.nd rfl (.inl rfl) (pe_slice sl_str (pv 4) po_none (po_some (pe_un un_neg pe_int))))) pss_nil)
      (pss_cons (ps_if (pt_cmpR (op_eq) (pv 5) pe_int (nomark _)) (pss_cons (ps_set (i := 3) sc__law_right.nd rfl (.inl rfl) (pe_call (G__law_draw T) (hr.mono (by decide)) rfl T.d__law_draw.g T.d__law_draw.f.kp (b__law_draw T) .nil pass0 (pa_cons (pv 0) (pa_cons (pe_op op_add (pe_callB cr_len rfl T.f_len (by decide +kernel) (pa_cons (pv 4) pa_nil)) pe_int) pa_nil))))
      (pss_one (ps_set (i := 4) sc__law_right.nd rfl (.inl rfl) (pe_op op_addS (pe_op op_addS (pe_slice sl_str (pv 4) po_none (po_some (pv 3))) pe_str) (pe_slice sl_str (pv 4) (po_some (pv 3)) po_none))))) pss_nil)
      (pss_cons (ps_set (i := 6) sc__law_right.nd rfl (.inl rfl) (pe_call (G__law_own T) (hr.mono (by decide)) rfl T.d__law_own.g T.d__law_own.f.kp (b__law_own T) .nil pass0 (pa_cons (pv 4) pa_nil)))
      (pss_cons (ps_if (pt_cmpR (op_ne) (pe_callB (cr_repr hgd hr) rfl T.f_repr (by decide +kernel) (pa_cons (pe_call (G__law_told T) (hr.mono (by decide)) rfl T.d__law_told.g T.d__law_told.f.kp (b__law_told T) .nil pass0 (pa_cons (pv 4) pa_nil)) pa_nil)) (pe_callB (cr_repr hgd hr) rfl T.f_repr (by decide +kernel) (pa_cons (pv 6) pa_nil)) (nomark _)) (pss_one (ps_ret pe_bl)) pss_nil)
      (pss_one (ps_ret (pe_or (pe_cmpR (op_eq) (pe_ix ix_tup (pv 6) pe_int (fun _ _ => rfl)) pe_str (nomark _)) (pe_one (pe_cmpR (op_eq) (pe_call (G_data_text T) (hr.mono (by decide)) rfl T.d_data_text.g T.d_data_text.f.kp (b_data_text T) .nil pass0 (pa_cons (pe_kw1 (G_read_data T) (hr.mono (by decide)) rfl T.d_read_data.g T.d_read_data.f.kp (kb_read_data T) (pv 4)) pa_nil)) (pv 4) (nomark _))))))))))))))
  obtain ⟨p, n, rfl, wl, hn, z⟩ := hs
  have S0 : StW K (hid Hin p []) p [] [(0, p)] n Hin (start ["_law_well_here", "_law_lines_here", "_law_turn", "_law_at", "_law_phrase", "_law_way", "_law_due", "_law_words"] [.ref p]) G8 := by
    rw [start_cons]
    refine ⟨(start_std (ds := []) (n := 7) .nil rfl).consN _, wl, (fun y hy => nomatch hy), fun y hy => ?_⟩
    have : y = (0, p) := by simpa using hy
    rw [this]
    exact ⟨rfl, rfl⟩
  generalize start ["_law_well_here", "_law_lines_here", "_law_turn", "_law_at", "_law_phrase", "_law_way", "_law_due", "_law_words"] [V.ref p] = σ0 at S0
  refine seq_asg ⟨.ref p, (S0.rf (0, p) List.mem_cons_self).1, p, n, rfl, wl, by omega, fun f ls H2 f2 w2 hf fnp h2 hls nd l7 bd => ?_⟩
  refine gname_to ?_
  have nf : f ∉ (ls.map lsO).map (·.1) := by
    rw [List.map_map]
    exact (List.nodup_cons.mp nd).1
  have I0 : RI K (hid Hin p []) Hin p f (n + 3000) 0 (σ0.set 1 (some (.ref f))) H2 ls (ls.map lsO) (n + 3000) := by
    have pins : ∀ x ∈ Lg f ls (ls.map lsO), H2 x.1 = some x.2 ∧ x.1 ≠ p ∧ ∃ xs, x.2 = .lst xs := fun x hx => by
      rcases List.mem_cons.mp hx with e | hx
      · rw [e]; exact ⟨h2, fnp, _, rfl⟩
      · obtain ⟨y, hy, rfl⟩ := List.mem_map.mp hx
        exact ⟨(hls y hy).1, (hls y hy).2.1, _, rfl⟩
    have S1 : StW K (hid Hin p []) p (Lg f ls (ls.map lsO)) [(0, p)] (n + 3000) H2 σ0 G8 := by
      refine ⟨S0.sd.same fun b u hb => ?_, w2, pins, S0.rf⟩
      obtain ⟨a1, _, a3⟩ := hid_some hb
      rw [hid_of a1]
      · exact f2 b u a1 a3
      · intro zz
        obtain ⟨x, hx, e⟩ := List.mem_map.mp zz
        rcases List.mem_cons.mp hx with e2 | hx
        · rw [← e, e2, hf] at a3; cases a3
        · obtain ⟨y, hy, rfl⟩ := List.mem_map.mp hx
          rw [← e, (hls y hy).2.2] at a3; cases a3
    exact ⟨S1.setR (i := 1) (q := f) (show 1 < 8 by decide) (ne_of (l := [0]) rfl (by decide)), fun x hx => List.mem_map.mpr ⟨x, hx, rfl⟩, nf, l7, fun x hx => ⟨(bd x hx).1, (bd x hx).2⟩, by omega, f2⟩
  generalize σ0.set 1 (some (V.ref f)) = σ1 at I0
  -- the loop
  have loop : ∀ (D2 : Ends) (v : V) (H3 : Hp) (m : Nat) (n3 : Nat), n3 ≤ n + 3001 → v = .int (m : Nat) → m ≤ 2 → (0 < m → ls ≠ []) → RI K (hid Hin p []) Hin p f (n + 3001) 0 σ1 H3 ls (ls.map lsO) n3 → (∀ σ' H' ls' Ls' n', RI K (hid Hin p []) Hin p f (n + 3001) m σ' H' ls' Ls' n' → D2.nx σ' H') → RngK D2 2 (tSeq (tAsg (tCall (sp__law_draw K) [] E0 (tCons (tVar 0) (tCons (tCB (rLenD K) (tCons (tVar 1) tNil)) tNil))) (gName 3)) (tAsg (tCall (sp__law_bent_word K) [] E0 (tCons (tVar 0) (tCons (tOp (rIxL K) (tVar 1) (tVar 3)) tNil))) (gSub (tVar 1) (tVar 3) rSetL))) σ1 v H3 := fun D2 v H3 m n3 hn3 hv hm hne I3 hfin => by
    refine rng_cont (fun k σ H => ∃ ls' Ls' n', RI K (hid Hin p []) Hin p f (n + 3001) k σ H ls' Ls' n' ∧ ls'.length = ls.length) m hv (by omega) ⟨ls, _, n3, I3, rfl⟩ ?_ (fun σ' H' ⟨ls', Ls', n', I, _⟩ => hfin σ' H' ls' Ls' n' I)
    rintro k σ H hk ⟨ls', Ls', n', I, hlen⟩
    have lpos : 0 < ls'.length := by
      rw [hlen]
      exact List.length_pos_iff.mpr (hne (by omega))
    have l7' := I.len
    have hn' := I.hn
    have Sa := I.st.setD (i := 2) (v := .int (k : Nat)) (.int _) (ne_of (l := [1, 0]) rfl (by decide))
    refine gow_seq (gow_set (n := n') (C := isI 0 (((ls'.map fun x => V.ref x.1).length : Nat) - 1)) (k := 0 + 1) (by omega) (ne_of (l := [1, 0]) rfl (by decide)) (evw_drawI (i := 0) (by simp) (evw_lenR (i := 1) (q := f) (by simp) List.mem_cons_self) (by rw [List.length_map]; omega) (by rw [List.length_map]; omega)) fun d ⟨a, e1, a0, a1⟩ => ?_) _ _ Sa
    subst e1
    obtain ⟨a, rfl⟩ : ∃ b : Nat, a = (b : Int) := ⟨a.toNat, by omega⟩
    rw [List.length_map] at a1
    have ha : a < ls'.length := by omega
    intro σ2 H4 S2
    dsimp only
    obtain ⟨v3, g3, e3⟩ := S2.sd.dat 3 (.int (a : Nat)) rfl
    have e3 := e3.intI
    subst e3
    have hF := (S2.pin (f, .lst (ls'.map fun x => V.ref x.1)) List.mem_cons_self)
    have hm : ls'[a] ∈ ls' := List.getElem_mem ha
    have hX := S2.pin (lsO ls'[a]) (List.mem_cons_of_mem _ (I.sub _ hm))
    obtain ⟨b1, b2⟩ := I.bd _ hm
    refine ⟨.ref p, (S2.rf (0, p) (by simp)).1, .ref f, (S2.rf (1, f) (by simp)).1, _, g3, f, _, _, .ref ls'[a].1, rfl, rfl, SqL.of hF.1, atI_nat (by rw [List.getElem?_map, List.getElem?_eq_getElem ha]; rfl), ?_⟩
    refine ⟨p, n' + (0 + 1), .ref ls'[a].1, ls'[a].2, rfl, S2.wl, by omega, .lst (SqL.of (by rw [delH_ne hX.2.1]; exact hX.1)) (dp_strs _), by omega, b2, fun q ws' H5 f5 w5 hq h5 c1 c2 => ?_⟩
    have nqp : q ≠ p := fun e => by
      obtain ⟨o, ho⟩ := S2.wl.ex
      rw [e, ho] at hq; cases hq
    have nqf : q ≠ f := fun e => by rw [e, hF.1] at hq; cases hq
    have S5 := S2.addLF hq f5 w5 nqp h5
    have hF5 := (S5.pin (f, .lst (ls'.map fun x => V.ref x.1)) (List.mem_cons_of_mem _ List.mem_cons_self))
    refine ⟨.ref f, (S5.rf (1, f) (by simp)).1, _, g3, f, _, _, a, rfl, rfl, hF5.1, ixN_at (by rw [List.length_map]; exact ha), ?_⟩
    have S6 := S5.mutL (q := f) (xs := (ls'.map fun x => V.ref x.1).set a (.ref q)) (L' := Lg f (ls'.set a (q, ws')) ((q, .lst (ws'.map stV)) :: Ls')) (by simp) (fun b => by
      show b ∈ f :: q :: Ls'.map (·.1) ↔ b ∈ q :: f :: Ls'.map (·.1)
      simp only [List.mem_cons]
      constructor
      · rintro (h | h | h)
        · exact .inr (.inl h)
        · exact .inl h
        · exact .inr (.inr h)
      · rintro (h | h | h)
        · exact .inr (.inl h)
        · exact .inl h
        · exact .inr (.inr h)) (fun y hy => by
      rcases List.mem_cons.mp hy with e | hy
      · rw [e]
        exact ⟨by rw [upd_same, List.map_set], hF5.2.1, _, rfl⟩
      rcases List.mem_cons.mp hy with e | hy
      · rw [e, upd_ne nqf]
        exact S5.pin _ List.mem_cons_self
      · have ny : y.1 ≠ f := fun e => I.nf (e ▸ List.mem_map.mpr ⟨y, hy, rfl⟩)
        rw [upd_ne ny]
        exact S5.pin y (List.mem_cons_of_mem _ (List.mem_cons_of_mem _ hy)))
    refine ⟨ls'.set a (q, ws'), (q, .lst (ws'.map stV)) :: Ls', _, ⟨S6.weak (Γ' := G8) (R' := [(1, f), (0, p)]) rfl (fun j s hj hs => by
        rcases j with _ | _ | _ | _ | _ | _ | _ | _ | j
        all_goals first | exact absurd (Option.some.inj hj).symm hs | cases hj) (fun x hx => hx), fun x hx => ?_, ?_, by rw [List.length_set]; exact I.len, fun x hx => ?_, by omega, fun b o hb e => ?_⟩, by rw [List.length_set]; exact hlen⟩
    · rcases List.mem_or_eq_of_mem_set hx with h | h
      · exact List.mem_cons_of_mem _ (I.sub x h)
      · rw [h]
        exact List.mem_cons_self
    · show f ∉ q :: Ls'.map (·.1)
      intro h
      rcases List.mem_cons.mp h with h | h
      · exact nqf h.symm
      · exact I.nf h
    · rcases List.mem_or_eq_of_mem_set hx with h | h
      · exact ⟨by have := (I.bd x h).1; omega, (I.bd x h).2⟩
      · rw [h]
        exact ⟨by show ws'.length ≤ _; omega, c2⟩
    · have hb2 := S6.sd.sm b o (by rw [hid_of hb (by simp)]; exact e)
      exact hid_same b o hb2
  -- behind the loop
  have tail : ∀ (σ : L2.St) (H : Hp) (ls' : List (Addr × List (List Nat))) (Ls' : List (Addr × HO)) (n' k : Nat), k ≤ 2 → RI K (hid Hin p []) Hin p f (n + 3001) k σ H ls' Ls' n' → (tSeq (tAsg (tM1 (rJoin K) (tC (.str "")) (tLc (iList K (tVar 1)) (gName 7) tYes (tOp rAddS (tM1 (rJoin K) (tC (.str " ")) (tVar 7)) (tC (.str "\n"))) [7])) (gName 4)) (tSeq (tAsg (tCall (sp__law_draw K) [] E0 (tCons (tVar 0) (tCons (tC (.int 8)) tNil))) (gName 5)) (tSeq (tIfS (tTest (tOp rEq (tVar 5) (tC (.int 0)))) (tAsg (tSl rSlS (tVar 4) tNoPart (tPart (tUn (rU fun i => .int (-i)) (tC (.int 1))))) (gName 4)) tNext) (tSeq (tIfS (tTest (tOp rEq (tVar 5) (tC (.int 1)))) (tSeq (tAsg (tCall (sp__law_draw K) [] E0 (tCons (tVar 0) (tCons (tOp (rI0 fun i j => .int (i + j)) (tCB (rLenD K) (tCons (tVar 4) tNil)) (tC (.int 1))) tNil))) (gName 3)) (tAsg (tOp rAddS (tOp rAddS (tSl rSlS (tVar 4) tNoPart (tPart (tVar 3))) (tC (.str "\n"))) (tSl rSlS (tVar 4) (tPart (tVar 3)) tNoPart)) (gName 4))) tNext) (tSeq (tAsg (tCall (sp__law_own K) [] E0 (tCons (tVar 4) tNil)) (gName 6)) (tSeq (tIfS (tTest (tOp rNe (tCB (rRepr K) (tCons (tCall (sp__law_told K) [] E0 (tCons (tVar 4) tNil)) tNil)) (tCB (rRepr K) (tCons (tVar 6) tNil)))) (tRet (tC (.bl false))) tNext) (tRet (tOrV (tOp rEq (tOp (rIxT K) (tVar 6) (tC (.int 0))) (tC (.str "wrong"))) (tOp rEq (tCall (sp_data_text K) [] E0 (tCons (tKw1 (sp_read_data K) E0 (tVar 4)) tNil)) (tVar 4)))))))))) { nx := fun _ H' => Q .non H', rt := Q } σ H := fun σ H ls' Ls' n' k hk I => by
    have l7' := I.len
    have bd7 : ∀ x ∈ ls', x.2.length ≤ 7 ∧ ∀ y ∈ x.2, y.length ≤ 20 := fun x hx => ⟨by have := (I.bd x hx).1; omega, (I.bd x hx).2⟩
    have hF := (I.st.pin (f, .lst (ls'.map fun x => V.ref x.1)) List.mem_cons_self).1
    have hL : ∀ x ∈ ls', H x.1 = some (.lst (x.2.map stV)) := fun x hx => (I.st.pin (lsO x) (List.mem_cons_of_mem _ (I.sub x hx))).1
    have h1 := (I.st.rf (1, f) (by simp)).1
    have Sp : StD K H H σ [.no, .dat (.list (lnsD ls')), .no, .no, .no, .no, .no, .no] := by
      refine ⟨I.st.sd.len, Same.refl H, fun i d h => ?_, fun i d h => ?_, fun i d h => ?_, fun i j d1 d2 h _ _ => ?_⟩
      · rcases i with _ | _ | _ | _ | _ | _ | _ | _ | i <;> cases h
      · rcases i with _ | _ | _ | _ | _ | _ | _ | _ | i
        · cases h
        · cases h
          exact ⟨_, h1, dp_lines hF hL⟩
        all_goals cases h
      · rcases i with _ | _ | _ | _ | _ | _ | _ | _ | i <;> cases h
      · rcases i with _ | _ | _ | _ | _ | _ | _ | _ | i <;> cases h
    have tl := text_len bd7
    have sl := sum_len tl
    rw [List.length_map] at sl
    have sl2 : ls'.length * 150 ≤ 7 * 150 := Nat.mul_le_mul_right _ l7'
    have ej : EvG K ((tM1 (rJoin K) (tC (.str "")) (tLc (iList K (tVar 1)) (gName 7) tYes (tOp rAddS (tM1 (rJoin K) (tC (.str " ")) (tVar 7)) (tC (.str "\n"))) [7]))) [.no, .dat (.list (lnsD ls')), .no, .no, .no, .no, .no, .no] (sD (TL.joinL [] (ls'.map fun x => TL.joinL [32] x.2 ++ [10]))) := by
      refine ev_joinS (ev_lit (x := []) (by decide +kernel)) (ev_fresh (evf_is (evf_mapA ls' (fun x => .list (x.2.map sD)) (fun x => sD (TL.joinL [32] x.2 ++ [10])) (fun x => (wipeG _ _).set 7 (.dat (.list (x.2.map sD)))) (itd_list (ev_dat rfl)) (by omega) (by simp) (fun x _ => tg_name) (fun x hx => ⟨?_, .str _⟩)) (by rw [List.map_map]; rfl))) (by rw [List.length_nil, Nat.mul_zero, Nat.add_zero]; omega)
      have hb := bd7 x hx
      have s1 := sum_len hb.2
      have s2 : x.2.length * 20 ≤ 7 * 20 := Nat.mul_le_mul_right _ hb.1
      have s3 := tl _ (List.mem_map.mpr ⟨x, hx, rfl⟩)
      rw [List.length_append] at s3
      exact ev_addS (ev_joinS (ys := x.2) (ev_lit (x := [32]) (by decide +kernel)) (ev_dat (d := .list (x.2.map sD)) rfl) (by rw [List.length_singleton]; omega)) (ev_lit (x := [10]) (by decide +kernel)) (by rw [List.length_singleton] at s3 ⊢; omega)
    refine seq_asg (ej _ σ H Sp _ fun v H3 s3 hv => ?_)
    refine gname_to ?_
    have ev := hv.strI
    subst ev
    have hXl : (TL.joinL [] (ls'.map fun x => TL.joinL [32] x.2 ++ [10])).length ≤ 1050 := by
      rw [join0_len]
      omega
    generalize TL.joinL [] (ls'.map fun x => TL.joinL [32] x.2 ++ [10]) = X at hXl
    have hn' := I.hn
    have S4 := (I.st.step (FrP.of s3) (I.st.wl.same s3)).setD (i := 4) (v := .str (S X)) (d := sD X) (.str _) (ne_of (l := [1, 0]) rfl (by decide))
    generalize σ.set 4 (some (V.str (S X))) = σ4 at S4
    -- the end
    have fin : ∀ (Y : List Nat) (m : Nat) (Γ : Ga), Y.length ≤ 3000 → Γ.length = 8 → (∀ (i : Nat) (d : PyData), Γ[i]? ≠ some (Sl.arg d)) → Γ[4]? = some (.dat (sD Y)) → GoW K (hid Hin p []) p (Lg f ls' Ls') [(1, f), (0, p)] m (tSeq (tAsg (tCall (sp__law_own K) [] E0 (tCons (tVar 4) tNil)) (gName 6)) (tSeq (tIfS (tTest (tOp rNe (tCB (rRepr K) (tCons (tCall (sp__law_told K) [] E0 (tCons (tVar 4) tNil)) tNil)) (tCB (rRepr K) (tCons (tVar 6) tNil)))) (tRet (tC (.bl false))) tNext) (tRet (tOrV (tOp rEq (tOp (rIxT K) (tVar 6) (tC (.int 0))) (tC (.str "wrong"))) (tOp rEq (tCall (sp_data_text K) [] E0 (tCons (tKw1 (sp_read_data K) E0 (tVar 4)) tNil)) (tVar 4)))))) Γ { nx := fun _ H' => Q .non H', rt := Q } := fun Y m Γ hY hl hna h4 σ5 H5 S5 => by
      have fp5 : FrP p Hin H5 := fun b o hb e => hid_same b o (S5.sd.sm b o (by rw [hid_of hb (by simp)]; exact e))
      refine pure_right T (X := Y) (by omega) (fun v H' sm hv => ?_) σ5 H5 (S5.pure.based.weak (by rw [List.length_map]; exact hl.symm) fun j s hj hs => ?_)
      · rw [hv.blI]
        exact z H' (fp5.trans (FrP.of sm))
      · rcases j with _ | _ | _ | _ | _ | _ | _ | _ | j
        all_goals first | exact absurd (Option.some.inj hj).symm hs | skip
        · rw [List.getElem?_map, h4, ← hj]
          rfl
        · cases hj
    refine gow_seq (gow_set (n := n') (C := isI 0 (8 - 1)) (k := 1) (by omega) (ne_of (l := [1, 0]) rfl (by decide)) (evw_draw (by simp) (by decide) (by decide)) fun d ⟨way, e1, y0, y1⟩ => gow_nx ?_) _ _ S4
    subst e1
    -- way 0
    have second : ∀ (Y : List Nat), Y.length ≤ 1050 → GoW K (hid Hin p []) p (Lg f ls' Ls') [(1, f), (0, p)] (n' + 1) (tSeq (tIfS (tTest (tOp rEq (tVar 5) (tC (.int 1)))) (tSeq (tAsg (tCall (sp__law_draw K) [] E0 (tCons (tVar 0) (tCons (tOp (rI0 fun i j => .int (i + j)) (tCB (rLenD K) (tCons (tVar 4) tNil)) (tC (.int 1))) tNil))) (gName 3)) (tAsg (tOp rAddS (tOp rAddS (tSl rSlS (tVar 4) tNoPart (tPart (tVar 3))) (tC (.str "\n"))) (tSl rSlS (tVar 4) (tPart (tVar 3)) tNoPart)) (gName 4))) tNext) (tSeq (tAsg (tCall (sp__law_own K) [] E0 (tCons (tVar 4) tNil)) (gName 6)) (tSeq (tIfS (tTest (tOp rNe (tCB (rRepr K) (tCons (tCall (sp__law_told K) [] E0 (tCons (tVar 4) tNil)) tNil)) (tCB (rRepr K) (tCons (tVar 6) tNil)))) (tRet (tC (.bl false))) tNext) (tRet (tOrV (tOp rEq (tOp (rIxT K) (tVar 6) (tC (.int 0))) (tC (.str "wrong"))) (tOp rEq (tCall (sp_data_text K) [] E0 (tCons (tKw1 (sp_read_data K) E0 (tVar 4)) tNil)) (tVar 4))))))) [.no, .no, .no, .no, .dat (sD Y), .dat (.int way), .no, .no] { nx := fun _ H' => Q .non H', rt := Q } := fun Y hY => by
      by_cases w1 : way = 1
      · refine gow_seq (gow_ifT (evb_is (evb_test (ev_op (ev_dat (d := .int way) rfl) ev_int opv_eqI)) (decide_eq_true w1)) (gow_seq (gow_set (k := 0 + 1) (C := isI 0 (((Y.length : Nat) : Int) + 1 - 1)) (by omega) (ne_of (l := [1, 0]) rfl (by decide)) (evw_drawI (i := 0) (a := (Y.length : Nat) + 1) (b := (Y.length : Nat) + 1) (by simp) (evw_pure (ev_op (ev_cb (eva_1 (ev_dat (d := sD Y) rfl)) (cbv_lenS' (by omega))) ev_int opv_I0) (.int _) ⟨_, rfl, Int.le_refl _, Int.le_refl _⟩) (by omega) (by omega)) fun d ⟨a, e2, a0, a1⟩ => gow_nx ?_)))
        subst e2
        obtain ⟨a, rfl⟩ : ∃ b : Nat, a = (b : Int) := ⟨a.toNat, by omega⟩
        have l1 : (Y.take a).length ≤ Y.length := by rw [List.length_take]; omega
        have l2 : (Y.drop a).length ≤ Y.length := by rw [List.length_drop]; omega
        refine gow_set (k := 0) (C := fun d => d = sD (Y.take a ++ [10] ++ Y.drop a)) (by omega) (ne_of (l := [1, 0]) rfl (by decide)) (evw_pure (ev_is (ev_addS (ev_addS (ev_cut (ev_dat (d := sD Y) rfl) evo_none (evo_some (ev_dat (d := .int (a : Nat)) rfl)) (by omega)) (ev_lit (x := [10]) (by decide +kernel)) (by have := cut_len Y none (some (a : Int)); simp only [List.length_singleton]; omega)) (ev_cut (ev_dat (d := sD Y) rfl) (evo_some (ev_dat (d := .int (a : Nat)) rfl)) evo_none (by omega)) (by have := cut_len Y none (some (a : Int)); have := cut_len Y (some (a : Int)) none; simp only [List.length_append, List.length_singleton]; omega)) (by rw [cut_to, cut_from])) (.str _) rfl) fun d e2 => ?_
        subst e2
        exact gow_nx (fin (Y.take a ++ [10] ++ Y.drop a) _ _ (by simp only [List.length_append, List.length_singleton]; omega) rfl (fun i d h => by rcases i with _ | _ | _ | _ | _ | _ | _ | _ | i <;> cases h) rfl)
      · exact gow_seq (gow_ifF (evb_is (evb_test (ev_op (ev_dat (d := .int way) rfl) ev_int opv_eqI)) (decide_eq_false w1)) (gow_next (gow_nx (fin Y _ _ (by omega) rfl (fun i d h => by rcases i with _ | _ | _ | _ | _ | _ | _ | _ | i <;> cases h) rfl))))
    by_cases w0 : way = 0
    · refine gow_seq (gow_ifT (evb_is (evb_test (ev_op (ev_dat (d := .int way) rfl) ev_int opv_eqI)) (decide_eq_true w0)) (gow_set (k := 0) (C := fun d => d = sD X.dropLast) (by omega) (ne_of (l := [1, 0]) rfl (by decide)) (evw_pure (ev_is (ev_cut (ev_dat (d := sD X) rfl) evo_none (evo_some ev_m1) (by omega)) (by rw [cut_init])) (.str _) rfl) fun d e2 => ?_))
      subst e2
      exact gow_nx (second X.dropLast (by rw [List.length_dropLast]; omega))
    · exact gow_seq (gow_ifF (evb_is (evb_test (ev_op (ev_dat (d := .int way) rfl) ev_int opv_eqI)) (decide_eq_false w0)) (gow_next (gow_nx (second X hXl))))
  -- how many turns
  refine seq_rng ⟨.ref f, (I0.st.rf (1, f) (by simp)).1, by decide, fun e he => ?_⟩
  have s2 : Same H2 (upd H2 e (.lst [])) := Same.new he
  have S2 := I0.st.step (FrP.of s2) (I0.st.wl.same s2)
  have hF := (S2.pin (f, .lst (ls.map fun x => V.ref x.1)) List.mem_cons_self).1
  have hL : ∀ x ∈ ls, (upd H2 e (.lst [])) x.1 = some (.lst (x.2.map stV)) := fun x hx => (S2.pin (lsO x) (List.mem_cons_of_mem _ (I0.sub x hx))).1
  obtain ⟨p1, p2⟩ := pl_lines ls
  refine ⟨.list (lnsD ls), .list [], dp_lines hF hL, .lst (SqL.of upd_same) .nil, p1, rfl, Nat.le_trans p2 (by decide), _, rfl, ?_⟩
  rw [eqv_nil]
  have fp2 : FrP p Hin (upd H2 e (.lst [])) := I0.fp.trans (FrP.of s2)
  by_cases hls : ls = []
  · rw [decide_eq_true (show lnsD ls = [] by rw [hls]; rfl)]
    exact loop _ _ _ 0 (n + 3000) (by omega) rfl (by decide) (fun zz => absurd zz (by decide)) ⟨S2, I0.sub, I0.nf, I0.len, I0.bd, by omega, fp2⟩ (fun σ' H' ls' Ls' n' I => tail σ' H' ls' Ls' n' 0 (by decide) I)
  · rw [decide_eq_false (show ¬ lnsD ls = [] from fun zz => hls (List.map_eq_nil_iff.mp zz))]
    have eo : EvW K ((tCall (sp__law_one_of K) [] E0 (tCons (tVar 0) (tCons (tLst (tCons (tC (.int 0)) (tCons (tC (.int 0)) (tCons (tC (.int 1)) (tCons (tC (.int 1)) (tCons (tC (.int 2)) tNil)))))) tNil)))) p (Lg f ls (ls.map lsO)) [(1, f), (0, p)] G8 (isI 0 2) (0 + 1) := evw_callW (by simp) (evwA_1 (C1 := fun d => d = .list [.int 0, .int 0, .int 1, .int 1, .int 2]) (evw_fresh (evf_lst (eva_cons ev_int (eva_cons ev_int (eva_cons ev_int (eva_cons ev_int (eva_cons ev_int eva_nil))))) (by simp)) (fun d hd => by
        simp only [List.mem_cons, List.not_mem_nil, or_false] at hd
        rcases hd with rfl | rfl | rfl | rfl | rfl <;> constructor) rfl)) fun ds ⟨d, e1, e2⟩ => by
        subst e1 e2
        refine ⟨_, rfl, by simp, by simp, fun d hd => ?_⟩
        simp only [List.mem_cons, List.not_mem_nil, or_false] at hd
        rcases hd with rfl | rfl | rfl | rfl | rfl <;> exact ⟨.int _, _, rfl, by decide, by decide⟩
    refine eo _ (n + 3000) σ1 _ S2 (by omega) _ fun v d H3 f3 w3 dv ⟨m, e1, m0, m1⟩ => ?_
    subst e1
    have ev := dv.intI
    subst ev
    obtain ⟨m, rfl⟩ : ∃ b : Nat, m = (b : Int) := ⟨m.toNat, by omega⟩
    exact loop _ _ _ m (n + 3001) (by omega) rfl (by omega) (fun _ => hls) ⟨S2.step f3 w3, I0.sub, I0.nf, I0.len, I0.bd, by omega, fp2.trans f3⟩ (fun σ' H' ls' Ls' n' I => tail σ' H' ls' Ls' n' m (by omega) I)
end
end K82

/-! part T -/
set_option Elab.async false
set_option linter.all false
set_option maxRecDepth 100000
set_option maxHeartbeats 4000000
set_option autoImplicit false
set_option exponentiation.threshold 9000
/-! the law -/
namespace K82
open PySem PySem.Spec PyProof.Rows L2
open SX (S S_len S_cat S_inj num_S lens join_S split_S)
section
variable {P : Program} {w : World} {K : PySem.W.Frag} {mg : Str → Option Value} {base : Heap}

theorem ev_right {Γ : Ga} {ns : List Int} {t : Nat} {ta tb : TE} {E1 E2 : XK} (h1 : EvG K ta Γ (.list (ns.map .int))) (h2 : EvG K tb Γ (.int (t : Nat))) (ht : t ≤ 100) (hl : ns.length ≤ 1000) :
    EvG K (tCall (sp__law_right K) [] E1 (tCons (tCall (sp__law_well K) [] E2 (tCons ta (tCons tb tNil))) tNil)) Γ (.bool true) := fun H0 σ H St Q q => by
  refine (evf_call (R := R__law_well) (eva_2 h1 h2) rfl ⟨ns, t, ht, hl, rfl, rfl⟩) H0 σ H St _ fun p xs H1 hp sm hq hd => ?_
  have ex : xs = [.int (bigN (ownN ns t)), .int (stirF ns t), .int 0] := DpAll.intsI (ys := [bigN (ownN ns t), stirF ns t, 0]) hd
  subst ex
  obtain ⟨b0, b1⟩ := stirF_rng ns t
  refine ⟨p, 0, rfl, ⟨_, _, _, hq, b0, b1, Int.le_refl _, Int.le_refl _⟩, by decide, fun H' fr => q _ H' (fun b o hb => ?_) (.bl true)⟩
  have nb : b ≠ p := fun z => by rw [z, hp] at hb; cases hb
  exact fr b o nb (sm b o hb)
def sp_law (K : PySem.W.Frag) : Sp := fun vs H Q _ => ∃ (a : Addr) (ns : List Int), vs = [.ref a] ∧ ns.length ≤ 63 ∧ SqL K H a (ns.map V.int) ∧ ∀ H', Q (.bl true) H'
theorem dp_ints {H : Hp} (ns : List Int) : DpAll K H (ns.map V.int) (ns.map PyData.int) := by
  induction ns with
  | nil => exact .nil
  | cons i r ih => exact .cons (.int i) ih
theorem G_law (T : Txt K mg) : FnG P w K mg base 10 (He.ga K "law") T.e_law ["_law_script"] (sp_law K) := by
  refine okG T.d_law.f sc_law (fun vs H Q E q => by
    obtain ⟨a, ns, rfl, _⟩ := q
    rfl) fun cdv A outer s H vs Q E hr hgd0 hs => ⟨(tRet (tCB (rAll K) (tCons (tLc (iRng1 (tCons (tCB rMax2I (tCons (tC (.int 3)) (tCons (tCB rMin2I (tCons (tCB (rLenD K) (tCons (tVar 0) tNil)) (tCons (tC (.int 6)) tNil))) tNil))) tNil)) (gName 1) tYes (tCall (sp__law_right K) [] E0 (tCons (tCall (sp__law_well K) [] E0 (tCons (tVar 0) (tCons (tVar 1) tNil))) tNil)) [1]) tNil))), ?_, ?_⟩
  · have hgd : (cxOf CX0 P w K mg base ["_law_script", "_law_turn"] "law" (defScope S_law) (He.ga K "law") cdv A outer s H E).nox.A.guards = some [] := hgd0
    exact PSs.nox (X := cxOf CX0 P w K mg base _ _ _ _ cdv A outer s H E) (pss_one (ps_ret (pe_callB (cr_all rfl) rfl T.f_all (by decide +kernel) (pa_cons (pe_lc (own := [("_law_turn", 1)]) (wi := (iRng1 (tCons (tCB rMax2I (tCons (tC (.int 3)) (tCons (tCB rMin2I (tCons (tCB (rLenD K) (tCons (tVar 0) tNil)) (tCons (tC (.int 6)) tNil))) tNil))) tNil))) (g := (gName 1)) (tt := tYes) (te := (tCall (sp__law_right K) [] E0 (tCons (tCall (sp__law_well K) [] E0 (tCons (tVar 0) (tCons (tVar 1) tNil))) tNil))) rfl sc_law.nd (pi_range1 rfl T.f_range (pa_cons (pe_callB (cr_max2 rfl) rfl T.f_max (by decide +kernel) (pa_cons pe_int (pa_cons (pe_callB (cr_min2 rfl) rfl T.f_min (by decide +kernel) (pa_cons (pe_callB cr_len rfl T.f_len (by decide +kernel) (pa_cons (pv 0) pa_nil)) (pa_cons pe_int pa_nil))) pa_nil))) pa_nil)) (blkOk_by (own := [("_law_turn", 1)]) (N := ["_law_script", "_law_turn"]) (sc := defScope S_law) (by decide +kernel)) (fun _ _ _ _ _ => (pg_name (i := 1) sc_law.nd rfl (.inl rfl))) (fun _ _ _ _ _ => pts_nil) (fun _ _ _ _ _ => (pe_callG (G__law_right T) (hr.mono (by decide)) hgd rfl T.d__law_right.g T.d__law_right.f.kp (b__law_right T) (pa_cons (pe_call (G__law_well T) (hr.mono (by decide)) rfl T.d__law_well.g T.d__law_well.f.kp (b__law_well T) .nil pass0 (pa_cons (pv 0) (pa_cons (pv 1) pa_nil))) pa_nil)))) pa_nil))))
  obtain ⟨a, ns, rfl, hl, hS, z⟩ := hs
  have S0 : StD K H H (start ["_law_script", "_law_turn"] [V.ref a]) (slots [.list (ns.map .int)] 1) := start_std (.cons (.lst hS (dp_ints ns)) .nil) rfl
  obtain ⟨m, hm, em⟩ : ∃ m : Nat, m ≤ 6 ∧ (if (if (6 : Int) < ((ns.map PyData.int).length : Nat) then (6 : Int) else ((ns.map PyData.int).length : Nat)) > 3 then (if (6 : Int) < ((ns.map PyData.int).length : Nat) then (6 : Int) else ((ns.map PyData.int).length : Nat)) else 3) = (m : Int) := by
    refine ⟨(if (if (6 : Int) < ((ns.map PyData.int).length : Nat) then (6 : Int) else ((ns.map PyData.int).length : Nat)) > 3 then (if (6 : Int) < ((ns.map PyData.int).length : Nat) then (6 : Int) else ((ns.map PyData.int).length : Nat)) else 3).toNat, ?_, ?_⟩ <;> split <;> (try split) <;> omega
  refine go_ret (H0 := H) (D := { nx := fun _ H' => Q .non H', rt := Q }) (d := .bool true) (ev_is (ev_cb (eva_1 (ev_fresh (evf_is (es := ((List.range m).map fun _ => true).map .bool) (evf_mapA (List.range m) (fun i => PyData.int (0 + (i : Nat))) (fun _ => .bool true) (fun i => (wipeG _ _).set 1 (.dat (.int (0 + (i : Nat))))) (ita_range1 (n := m) (ev_is (ev_cb (eva_2 ev_int (ev_cb (eva_2 (ev_cb (eva_1 (ev_arg (d := .list (ns.map .int)) rfl)) cbv_lenL) ev_int) cbv_min2)) cbv_max2) (by rw [em])) (by omega)).toD (by rw [List.length_range]; omega) (by simp) (fun i _ => tg_name) (fun i hi => ⟨ev_right (ns := ns) (t := i) (ev_arg (d := .list (ns.map .int)) rfl) (ev_is (ev_dat (d := .int (0 + (i : Nat))) rfl) (by rw [Int.zero_add])) (by have := List.mem_range.mp hi; omega) (by omega), .bl _⟩)) (by rw [List.map_map]; rfl)))) cbv_all) ?_) (fun v H' sm hv => ?_) _ _ S0
  · congr 1
    rw [List.all_map, List.all_eq_true]
    intro x _
    rfl
  · rw [hv.blI]
    exact z H' 
end
end K82

/-! part End -/
set_option Elab.async false
set_option linter.all false
set_option maxRecDepth 100000
set_option maxHeartbeats 0
set_option autoImplicit false
/-! the end: from the head's facts to the law -/
namespace K82
open PySem PySem.Spec PyProof.Rows L2
section
variable {K : PySem.W.Frag} {mg : Str → Option Value}
theorem ex_gcd (h : exB K = true) : He.eqO (PySem.W.nsIn K mainGlobals "gcd") (some (some (.builtin "math.gcd"))) = true := by
  unfold exB at h
  simp only [Bool.and_eq_true] at h
  exact h.2.1
/-- what the head leaves, as the walks take it -/
theorem txt_of {h : Heap} (X : K.In h) (G : h.Ns mainGlobals mg) (c : He.SaysD faList fnList K) (e : exB K = true) : Nonempty (Txt K mg) := by
  obtain ⟨e0, F0⟩ := c.def_ 0 (d := dOf "is_whole" S_is_whole) rfl
  obtain ⟨e1, F1⟩ := c.def_ 1 (d := dOf "is_frac" S_is_frac) rfl
  obtain ⟨e2, F2⟩ := c.def_ 2 (d := dOf "is_num" S_is_num) rfl
  obtain ⟨e3, F3⟩ := c.def_ 3 (d := dOf "frac_reduced" S_frac_reduced) rfl
  obtain ⟨e4, F4⟩ := c.def_ 4 (d := dOf "num_size" S_num_size) rfl
  obtain ⟨e5, F5⟩ := c.def_ 5 (d := dOf "num_is_within" S_num_is_within) rfl
  obtain ⟨e6, F6⟩ := c.def_ 6 (d := dOf "is_place" S_is_place) rfl
  obtain ⟨e7, F7⟩ := c.def_ 7 (d := dOf "is_pair" S_is_pair) rfl
  obtain ⟨e8, F8⟩ := c.def_ 8 (d := dOf "count_values" S_count_values) rfl
  obtain ⟨e9, F9⟩ := c.def_ 9 (d := dOf "wrong_in_data" S_wrong_in_data) rfl
  obtain ⟨e10, F10⟩ := c.def_ 10 (d := dOf "places_of" S_places_of) rfl
  obtain ⟨e11, F11⟩ := c.def_ 11 (d := dOf "check_data" S_check_data) rfl
  obtain ⟨e12, F12⟩ := c.def_ 12 (d := dOf "fraction_text" S_fraction_text) rfl
  obtain ⟨e13, F13⟩ := c.def_ 13 (d := dOf "number_written" S_number_written) rfl
  obtain ⟨e14, F14⟩ := c.def_ 14 (d := dOf "numbers_written" S_numbers_written) rfl
  obtain ⟨e15, F15⟩ := c.def_ 15 (d := dOf "pair_written" S_pair_written) rfl
  obtain ⟨e16, F16⟩ := c.def_ 16 (d := dOf "data_written" S_data_written) rfl
  obtain ⟨e17, F17⟩ := c.def_ 17 (d := dOf "whole_in" S_whole_in) rfl
  obtain ⟨e18, F18⟩ := c.def_ 18 (d := dOf "fraction_in" S_fraction_in) rfl
  obtain ⟨e19, F19⟩ := c.def_ 19 (d := dOf "split_at" S_split_at) rfl
  obtain ⟨e20, F20⟩ := c.def_ 20 (d := dOf "number_in" S_number_in) rfl
  obtain ⟨e21, F21⟩ := c.def_ 21 (d := dOf "place_in" S_place_in) rfl
  obtain ⟨e22, F22⟩ := c.def_ 22 (d := dOf "wrong_word" S_wrong_word) rfl
  obtain ⟨e23, F23⟩ := c.def_ 23 (d := dOf "data_in" S_data_in) rfl
  obtain ⟨e24, F24⟩ := c.def_ 24 (d := dOf "check_text" S_check_text) rfl
  obtain ⟨e25, F25⟩ := c.def_ 25 (d := dOf "data_text" S_data_text) rfl
  obtain ⟨e26, F26⟩ := c.def_ 26 (d := dOf "read_data" S_read_data) rfl
  obtain ⟨e27, F27⟩ := c.def_ 27 (d := dOf "_law_well" S__law_well) rfl
  obtain ⟨e28, F28⟩ := c.def_ 28 (d := dOf "_law_draw" S__law_draw) rfl
  obtain ⟨e29, F29⟩ := c.def_ 29 (d := dOf "_law_one_of" S__law_one_of) rfl
  obtain ⟨e30, F30⟩ := c.def_ 30 (d := dOf "_law_near" S__law_near) rfl
  obtain ⟨e31, F31⟩ := c.def_ 31 (d := dOf "_law_part" S__law_part) rfl
  obtain ⟨e32, F32⟩ := c.def_ 32 (d := dOf "_law_part_text" S__law_part_text) rfl
  obtain ⟨e33, F33⟩ := c.def_ 33 (d := dOf "_law_number_text" S__law_number_text) rfl
  obtain ⟨e34, F34⟩ := c.def_ 34 (d := dOf "_law_read_whole" S__law_read_whole) rfl
  obtain ⟨e35, F35⟩ := c.def_ 35 (d := dOf "_law_read_part" S__law_read_part) rfl
  obtain ⟨e36, F36⟩ := c.def_ 36 (d := dOf "_law_read_number" S__law_read_number) rfl
  obtain ⟨e37, F37⟩ := c.def_ 37 (d := dOf "_law_of_line" S__law_of_line) rfl
  obtain ⟨e38, F38⟩ := c.def_ 38 (d := dOf "_law_is_within" S__law_is_within) rfl
  obtain ⟨e39, F39⟩ := c.def_ 39 (d := dOf "_law_own" S__law_own) rfl
  obtain ⟨e40, F40⟩ := c.def_ 40 (d := dOf "_law_told" S__law_told) rfl
  obtain ⟨e41, F41⟩ := c.def_ 41 (d := dOf "_law_word" S__law_word) rfl
  obtain ⟨e42, F42⟩ := c.def_ 42 (d := dOf "_law_spot" S__law_spot) rfl
  obtain ⟨e43, F43⟩ := c.def_ 43 (d := dOf "_law_lines" S__law_lines) rfl
  obtain ⟨e44, F44⟩ := c.def_ 44 (d := dOf "_law_bent_word" S__law_bent_word) rfl
  obtain ⟨e45, F45⟩ := c.def_ 45 (d := dOf "_law_right" S__law_right) rfl
  obtain ⟨e46, F46⟩ := c.def_ 46 (d := dOf "law" S_law) rfl
  obtain ⟨ei, Fi⟩ := c.def_ 47 (d := ⟨("InvalidText", some "__init__"), "__init__", "InvalidText.__init__", defArgs (inClass (top 21) 0), defBody (inClass (top 21) 0), defScope (inClass (top 21) 0), [], []⟩) rfl
  exact ⟨{
    e_is_whole := e0
    d_is_whole := ⟨He.glo_ok X G (c.fact 0 (f := .glo "is_whole") rfl), F0⟩
    e_is_frac := e1
    d_is_frac := ⟨He.glo_ok X G (c.fact 1 (f := .glo "is_frac") rfl), F1⟩
    e_is_num := e2
    d_is_num := ⟨He.glo_ok X G (c.fact 2 (f := .glo "is_num") rfl), F2⟩
    e_frac_reduced := e3
    d_frac_reduced := ⟨He.glo_ok X G (c.fact 3 (f := .glo "frac_reduced") rfl), F3⟩
    e_num_size := e4
    d_num_size := ⟨He.glo_ok X G (c.fact 4 (f := .glo "num_size") rfl), F4⟩
    e_num_is_within := e5
    d_num_is_within := ⟨He.glo_ok X G (c.fact 5 (f := .glo "num_is_within") rfl), F5⟩
    e_is_place := e6
    d_is_place := ⟨He.glo_ok X G (c.fact 6 (f := .glo "is_place") rfl), F6⟩
    e_is_pair := e7
    d_is_pair := ⟨He.glo_ok X G (c.fact 7 (f := .glo "is_pair") rfl), F7⟩
    e_count_values := e8
    d_count_values := ⟨He.glo_ok X G (c.fact 8 (f := .glo "count_values") rfl), F8⟩
    e_wrong_in_data := e9
    d_wrong_in_data := ⟨He.glo_ok X G (c.fact 9 (f := .glo "wrong_in_data") rfl), F9⟩
    e_places_of := e10
    d_places_of := ⟨He.glo_ok X G (c.fact 10 (f := .glo "places_of") rfl), F10⟩
    e_check_data := e11
    d_check_data := ⟨He.glo_ok X G (c.fact 11 (f := .glo "check_data") rfl), F11⟩
    e_fraction_text := e12
    d_fraction_text := ⟨He.glo_ok X G (c.fact 12 (f := .glo "fraction_text") rfl), F12⟩
    e_number_written := e13
    d_number_written := ⟨He.glo_ok X G (c.fact 13 (f := .glo "number_written") rfl), F13⟩
    e_numbers_written := e14
    d_numbers_written := ⟨He.glo_ok X G (c.fact 14 (f := .glo "numbers_written") rfl), F14⟩
    e_pair_written := e15
    d_pair_written := ⟨He.glo_ok X G (c.fact 15 (f := .glo "pair_written") rfl), F15⟩
    e_data_written := e16
    d_data_written := ⟨He.glo_ok X G (c.fact 16 (f := .glo "data_written") rfl), F16⟩
    e_whole_in := e17
    d_whole_in := ⟨He.glo_ok X G (c.fact 17 (f := .glo "whole_in") rfl), F17⟩
    e_fraction_in := e18
    d_fraction_in := ⟨He.glo_ok X G (c.fact 18 (f := .glo "fraction_in") rfl), F18⟩
    e_split_at := e19
    d_split_at := ⟨He.glo_ok X G (c.fact 19 (f := .glo "split_at") rfl), F19⟩
    e_number_in := e20
    d_number_in := ⟨He.glo_ok X G (c.fact 20 (f := .glo "number_in") rfl), F20⟩
    e_place_in := e21
    d_place_in := ⟨He.glo_ok X G (c.fact 21 (f := .glo "place_in") rfl), F21⟩
    e_wrong_word := e22
    d_wrong_word := ⟨He.glo_ok X G (c.fact 22 (f := .glo "wrong_word") rfl), F22⟩
    e_data_in := e23
    d_data_in := ⟨He.glo_ok X G (c.fact 23 (f := .glo "data_in") rfl), F23⟩
    e_check_text := e24
    d_check_text := ⟨He.glo_ok X G (c.fact 24 (f := .glo "check_text") rfl), F24⟩
    e_data_text := e25
    d_data_text := ⟨He.glo_ok X G (c.fact 25 (f := .glo "data_text") rfl), F25⟩
    e_read_data := e26
    d_read_data := ⟨He.glo_ok X G (c.fact 26 (f := .glo "read_data") rfl), F26⟩
    e__law_well := e27
    d__law_well := ⟨He.glo_ok X G (c.fact 27 (f := .glo "_law_well") rfl), F27⟩
    e__law_draw := e28
    d__law_draw := ⟨He.glo_ok X G (c.fact 28 (f := .glo "_law_draw") rfl), F28⟩
    e__law_one_of := e29
    d__law_one_of := ⟨He.glo_ok X G (c.fact 29 (f := .glo "_law_one_of") rfl), F29⟩
    e__law_near := e30
    d__law_near := ⟨He.glo_ok X G (c.fact 30 (f := .glo "_law_near") rfl), F30⟩
    e__law_part := e31
    d__law_part := ⟨He.glo_ok X G (c.fact 31 (f := .glo "_law_part") rfl), F31⟩
    e__law_part_text := e32
    d__law_part_text := ⟨He.glo_ok X G (c.fact 32 (f := .glo "_law_part_text") rfl), F32⟩
    e__law_number_text := e33
    d__law_number_text := ⟨He.glo_ok X G (c.fact 33 (f := .glo "_law_number_text") rfl), F33⟩
    e__law_read_whole := e34
    d__law_read_whole := ⟨He.glo_ok X G (c.fact 34 (f := .glo "_law_read_whole") rfl), F34⟩
    e__law_read_part := e35
    d__law_read_part := ⟨He.glo_ok X G (c.fact 35 (f := .glo "_law_read_part") rfl), F35⟩
    e__law_read_number := e36
    d__law_read_number := ⟨He.glo_ok X G (c.fact 36 (f := .glo "_law_read_number") rfl), F36⟩
    e__law_of_line := e37
    d__law_of_line := ⟨He.glo_ok X G (c.fact 37 (f := .glo "_law_of_line") rfl), F37⟩
    e__law_is_within := e38
    d__law_is_within := ⟨He.glo_ok X G (c.fact 38 (f := .glo "_law_is_within") rfl), F38⟩
    e__law_own := e39
    d__law_own := ⟨He.glo_ok X G (c.fact 39 (f := .glo "_law_own") rfl), F39⟩
    e__law_told := e40
    d__law_told := ⟨He.glo_ok X G (c.fact 40 (f := .glo "_law_told") rfl), F40⟩
    e__law_word := e41
    d__law_word := ⟨He.glo_ok X G (c.fact 41 (f := .glo "_law_word") rfl), F41⟩
    e__law_spot := e42
    d__law_spot := ⟨He.glo_ok X G (c.fact 42 (f := .glo "_law_spot") rfl), F42⟩
    e__law_lines := e43
    d__law_lines := ⟨He.glo_ok X G (c.fact 43 (f := .glo "_law_lines") rfl), F43⟩
    e__law_bent_word := e44
    d__law_bent_word := ⟨He.glo_ok X G (c.fact 44 (f := .glo "_law_bent_word") rfl), F44⟩
    e__law_right := e45
    d__law_right := ⟨He.glo_ok X G (c.fact 45 (f := .glo "_law_right") rfl), F45⟩
    e_law := e46
    d_law := ⟨He.glo_ok X G (c.fact 46 (f := .glo "law") rfl), F46⟩
    f_len := He.free_ok X G (c.fact 47 (f := .free "len") rfl)
    f_isinstance := He.free_ok X G (c.fact 48 (f := .free "isinstance") rfl)
    f_sum := He.free_ok X G (c.fact 49 (f := .free "sum") rfl)
    f_all := He.free_ok X G (c.fact 50 (f := .free "all") rfl)
    f_enumerate := He.free_ok X G (c.fact 51 (f := .free "enumerate") rfl)
    f_max := He.free_ok X G (c.fact 52 (f := .free "max") rfl)
    f_min := He.free_ok X G (c.fact 53 (f := .free "min") rfl)
    f_str := He.free_ok X G (c.fact 54 (f := .free "str") rfl)
    f_int := He.free_ok X G (c.fact 55 (f := .free "int") rfl)
    f_bool := He.free_ok X G (c.fact 56 (f := .free "bool") rfl)
    f_tuple := He.free_ok X G (c.fact 57 (f := .free "tuple") rfl)
    f_range := He.free_ok X G (c.fact 58 (f := .free "range") rfl)
    f_abs := He.free_ok X G (c.fact 59 (f := .free "abs") rfl)
    f_divmod := He.free_ok X G (c.fact 60 (f := .free "divmod") rfl)
    f_repr := He.free_ok X G (c.fact 61 (f := .free "repr") rfl)
    f_ValueError := He.free_ok X G (c.fact 62 (f := .free "ValueError") rfl)
    c_MOST_PLACES := He.int_ok X G (c.fact 63 (f := .int "MOST_PLACES" 6) rfl)
    c_MOST_AT_ONE := He.int_ok X G (c.fact 64 (f := .int "MOST_AT_ONE" 3) rfl)
    c_MOST_VALUES := He.int_ok X G (c.fact 65 (f := .int "MOST_VALUES" 6) rfl)
    c_MOST_FIGURES := He.int_ok X G (c.fact 66 (f := .int "MOST_FIGURES" 400) rfl)
    c_FIGURES := He.str_ok X G (c.fact 67 (f := .str "FIGURES" "0123456789") rfl)
    c_FRAC_NOUGHT := He.glo_ok X G (c.fact 68 (f := .glo "FRAC_NOUGHT") rfl)
    c_InvalidText := He.glo_ok X G (c.fact 69 (f := .glo "InvalidText") rfl)
    c_InvalidData := He.glo_ok X G (c.fact 70 (f := .glo "InvalidData") rfl)
    c_RimError := He.glo_ok X G (c.fact 71 (f := .glo "RimError") rfl)
    c_gcd := PySem.W.mg_of X G (He.eqO_ok (ex_gcd e))
    e_init := ei
    d_init := Fi
    ex := e }⟩
end
/-- the call of the law, from its promise where no repr is under way -/
theorem call_law {P : Program} {w : World} {K : PySem.W.Frag} {mg mb : Str → Option Value} {k : Nat} {fa a : Addr} {fd : FuncData} {x : Str} {sp : Sp} {s1 : Shared} {vs : List Value} {ns : List Int}
    (KX : K.In s1.heap) (gns : s1.heap.Ns mainGlobals mg) (bns : s1.heap.Ns builtinsNs mb) (bb : ∀ y : Str, y ≠ "__name__" → mb y = bootBuiltins y) (nl : s1.heap.NoLimit) (gens : s1.gens = #[])
    (obj : s1.heap.get? a = some { cls := .type "list", data := .seq vs.toArray }) (itg : IntsAre vs ns) (small : ns.length ≤ sizeLine) (room : Room k callerA)
    (F : ∀ base : Heap, FnG P w K mg base k fa fd [x] sp) (bind : ∀ (s : Shared) (u : Value), BindsTo s fd ⟨[u], []⟩ [(x, u)])
    (said : ∀ H : Hp, Only H → SqL K H a (ns.map V.int) → sp [.ref a] H (fun v _ => v = .bl true) fun _ _ _ => False) :
    codeAny (model P w) callerA (.call (.ref fa) ⟨[.ref a], []⟩) (fun r s' => r = .ok (.ret (.bool true)) ∧ OldK s1.heap s'.heap ∧ s'.os = s1.os ∧ AllBare s'.gens) s1 := by
  have vals : Vals (ns.map V.int) vs := vals_ints itg
  have len_ : vs.length = ns.length := itg.length
  -- one run, from any heap that knows of the script alone
  have one : ∀ H : Hp, Only H → SqL K H a (ns.map V.int) → HOk P w H s1.heap → (∀ b, H b ≠ none → b = a) → (H a ≠ none → K.lookup a = none) →
      codeAny (model P w) callerA (.call (.ref fa) ⟨[.ref a], []⟩) (fun r s' => r = .ok (.ret (.bool true)) ∧ OldK s1.heap s'.heap ∧ s'.os = s1.os ∧ AllBare s'.gens) s1 := by
    intro H only hS hok onlyA freeK
    have stays : ∀ {b : Addr} {o : Obj}, s1.heap.get? b = some o → H b = none → (hidT s1.heap H).get? b = some o := fun q r => hidT_get q r
    have dicts : ∀ {b : Addr} {o : Obj} {es : Array DictEntry} {ep : Nat}, s1.heap.get? b = some o → o.data = .dict es ep → H b = none := by
      intro b o es ep q d
      cases hb : H b with
      | none => rfl
      | some u =>
        have ba : b = a := onlyA b (fun y => by rw [hb] at y; cases y)
        rw [ba, obj] at q
        cases q
        have d2 : Data.seq vs.toArray _ = Data.dict es ep := d
        cases d2
    have spaces : ∀ {b : Addr} {m : Str → Option Value}, s1.heap.Ns b m → (hidT s1.heap H).Ns b m := by
      rintro b m ⟨o, es, ep, q, d, r⟩
      exact ⟨o, es, ep, stays q (dicts q d), d, r⟩
    have inB : K.In (hidT s1.heap H) := by
      intro b o q
      refine stays (KX b o q) ?_
      cases hb : H b with
      | none => rfl
      | some u =>
        have ba : b = a := onlyA b (fun y => by rw [hb] at y; cases y)
        have ha : H a ≠ none := fun y => by rw [← ba, hb] at y; cases y
        rw [ba, freeK ha] at q
        cases q
    obtain ⟨mc, l1, l2⟩ := nl
    have md : Mod K mg (hidT s1.heap H) := ⟨inB, spaces gns, ⟨mb, spaces bns, bb⟩, ⟨mc, spaces l1, l2⟩⟩
    have env : Env0 P w K mg (hidT s1.heap H) callerA [] s1 H := by
      refine ⟨rfl, md, fun b o q => of_hidT q, Nat.le_of_eq (hidT_size _ _), trivial, fun b hb => ?_, hok, .of_eq gens⟩
      exact absurd (show b ∈ ([] : List Addr) from hb) (by simp)
    refine codeAny_mono ((F (hidT s1.heap H)).run callerA [] s1 H ⟨[.ref a], []⟩ [.ref a] [.ref a] _ _ room rfl env (bind s1 (.ref a)) (.cons rfl .nil) (said H only hS)) fun res s' back => ?_
    cases res with
    | error er => exact (back : False).elim
    | ok fl =>
      cases fl with
      | next => exact (back : False).elim
      | brk => exact (back : False).elim
      | cont => exact (back : False).elim
      | ret u =>
        obtain ⟨v, H', os_, bare, un, hok', rv, val⟩ := back
        have val' : v = .bl true := val
        rw [val'] at rv
        have eu : u = Value.bool true := rv
        rw [eu]
        refine ⟨rfl, OldK.of_keep fun b o q => ?_, os_, bare⟩
        cases hb : H b with
        | none => exact un.keep b o q hb (fun y => absurd (show b ∈ ([] : List Addr) from y) (by simp)) (by simp)
        | some u =>
          rcases only b with y | ⟨ob, xs, y⟩
          · rw [hb] at y
            cases y
          · have old := (hok b _ y).1
            rw [q] at old
            cases old
            exact (hok' b _ (un.frzs b _ _ y)).1
  cases inK : K.lookup a with
  | some o =>
    have same_ := KX a o inK
    rw [obj] at same_
    cases same_
    refine one (fun _ => none) (fun _ => Or.inl rfl) (Or.inr ⟨_, vs.toArray, _, inK, rfl, rfl, rfl, by rw [List.size_toArray, len_]; exact small, by simpa using vals⟩) (fun b u y => ?_) (fun b y => absurd rfl y) (fun y => absurd rfl y)
    have y2 : (none : Option HO) = some u := y
    cases y2
  | none =>
    refine one (fun b => if b = a then some (.frz { cls := .type "list", data := .seq vs.toArray } (.lst (ns.map V.int))) else none) (fun b => ?_) (Or.inl (Or.inr ⟨{ cls := .type "list", data := .seq vs.toArray }, if_pos rfl⟩)) (fun b u y => ?_) (fun b y => ?_) (fun _ => inK)
    · by_cases ba : b = a
      · exact Or.inr ⟨_, _, if_pos ba⟩
      · exact Or.inl (if_neg ba)
    · by_cases ba : b = a
      · have y2 := (if_pos ba).symm.trans y
        cases y2
        rw [ba]
        exact ⟨obj, by rw [List.length_map]; exact small, vs, _, vals, obj⟩
      · have y2 := (if_neg ba).symm.trans y
        cases y2
    · exact Classical.byContradiction fun ba => y (if_neg ba)
theorem law_walk : PySem.W.WalkO (PySem.W.view R.prog [0, 63]) looseL (PySem.W.XL (PySem.W.view R.prog [0, 63]) []) hk.says R.toRowW (HeadRun.topDef R.prog 63) [] (fun f vs => PySem.call f vs) := by
  refine Att.attach_call (l := PySem.Challenge.rw_withinrim_k82_whole_texts_of_data_first) (n := 63) rfl (by kernel_rfl) fun w s0 s1 mg mb fa o pm cd doc a vs ns G Y ho hd hcd hmg0 hobj hints hlen hg => ?_
  obtain ⟨K, KX, c⟩ := Y
  have hmg : mg ("law" : PySem.Str) = some (.ref fa) := by
    have e : (HeadRun.topDef R.prog 63).name = ("law" : PySem.Str) := by kernel_rfl
    rw [← e]
    exact hmg0
  obtain ⟨T⟩ := txt_of KX G.T.g c.t.d c.more
  have ef := hmg.symm.trans T.d_law.g
  have ef : fa = He.ga K "law" := Value.ref.inj (Option.some.inj ef)
  subst ef
  have bnd := FunD.bindsA (ps := ["_law_script"]) T.d_law.f fun _ _ _ _ _ _ us hl => match us, hl with | [_], _ => rfl
  exact call_law (k := 10) KX G.T.g G.T.b G.T.builtins G.T.nolimit hg hobj hints (Nat.le_trans hlen (by decide)) ⟨rfl, by decide, by decide⟩ (fun base => G_law T) (fun s u => bnd s [u] rfl) fun H _ hS => ⟨a, ns, rfl, hlen, hS, fun _ => rfl⟩
end K82
open PySem PySem.W PySem.Calls PyProof.Rows in
theorem PySem.Challenge.cw_withinrim_k82_whole_texts_of_data_first_holds : PySem.Challenge.rw_withinrim_k82_whole_texts_of_data_first.Holds := by
  w_on; o_law
  refine HeadRun.head_imp (r := OpenLaw.row PySem.Challenge.rw_withinrim_k82_whole_texts_of_data_first) (q := view (OpenLaw.row PySem.Challenge.rw_withinrim_k82_whole_texts_of_data_first).prog [0, 63]) (H := K82.hk) (ob := K82.ob) (M := 6000) (loose := K82.looseL) (d := HeadRun.topDef (OpenLaw.row PySem.Challenge.rw_withinrim_k82_whole_texts_of_data_first).prog 63) (kwd := []) K82.ob_eq K82.run
    (by kernel_rfl) (by kernel_rfl) (by kernel_rfl) (by rfl) (by first | assumption | decide +kernel) (by decide +kernel) ⟨rfl, rfl, rfl, rfl, rfl, by decide +kernel⟩ ?hw ?hc
  case hw => w_witness2
  case hc => exact K82.law_walk

