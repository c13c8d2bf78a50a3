import PyProof.Rows.All
import Wide.All
import OpenK.AllK
import Wide.FinOn
import HandS.Text
import PyProof.P3Eq
import PyProof.ReprReads
import PyProof.StrLawsRepr
import KE.KFromBytes
import KE.KExcSuper
import HandS.ForExc
import HandS.ExcInit
import HandS.ExcField
import HandS.Small
import HandS.ForMost
import HandS.Walk
import HandS.Style
import HandS.IsInst
import HandS.RaiseMore
import HandS.FStr
import HandS.Evl
import PyProof.ReprRoads
import PyProof.StrOps2
import HandS.TryOnly
import HandS.WordsExc
import PySem.Challenge.RW_soonsure_k98_values_told_as_texts
set_option Elab.async false
set_option linter.all false
set_option maxRecDepth 100000
/- K98, the plain law: texts as lists of codes; what is plain, how it is told, how it is read. -/
namespace K9
open PySem

/-! ### signs -/
def LET : List Nat := (List.range 26).map (· + 97)
def DIG : List Nat := (List.range 10).map (· + 48)
def isLet (c : Nat) : Bool := decide (c ∈ LET)
def isLD (c : Nat) : Bool := decide (c ∈ LET ++ DIG)
def isDig (c : Nat) : Bool := decide (c ∈ DIG)
def goOn (c : Nat) : Bool := !decide (c ∈ [32, 40, 41])
theorem let_iff {c : Nat} : isLet c = true ↔ 97 ≤ c ∧ c ≤ 122 := by
  unfold isLet LET
  simp only [decide_eq_true_eq, List.mem_map, List.mem_range]
  constructor
  · rintro ⟨a, h, rfl⟩; omega
  · intro h; exact ⟨c - 97, by omega, by omega⟩
theorem dig_iff {c : Nat} : isDig c = true ↔ 48 ≤ c ∧ c ≤ 57 := by
  unfold isDig DIG
  simp only [decide_eq_true_eq, List.mem_map, List.mem_range]
  constructor
  · rintro ⟨a, h, rfl⟩; omega
  · intro h; exact ⟨c - 48, by omega, by omega⟩
theorem ld_iff {c : Nat} : isLD c = true ↔ (97 ≤ c ∧ c ≤ 122) ∨ (48 ≤ c ∧ c ≤ 57) := by
  have h1 : isLD c = true ↔ isLet c = true ∨ isDig c = true := by
    unfold isLD isLet isDig
    simp only [decide_eq_true_eq, List.mem_append]
  rw [h1, let_iff, dig_iff]
theorem go_iff {c : Nat} : goOn c = true ↔ c ≠ 32 ∧ c ≠ 40 ∧ c ≠ 41 := by
  unfold goOn
  simp
/-- a text of letters and digits that begins with a letter -/
def isWord : List Nat → Bool
  | [] => false
  | c :: r => isLet c && (c :: r).all isLD
/-- the number of a run of digits with perhaps a - ahead, as the program reads it -/
def figs (run : List Nat) : Option Int :=
  let below := decide (run.take 1 = [45])
  let ds := if below = true then run.drop 1 else run
  if ds = [] ∨ 40 < ds.length ∨ ds.all isDig = false then none
  else if ds.take 1 = [48] ∧ (below = true ∨ ds ≠ [48]) then none
  else some (if below = true then 0 - ((NumText.digitsVal ds : Nat) : Int) else ((NumText.digitsVal ds : Nat) : Int))
def atomOf (run : List Nat) : Option PyData :=
  if run = [45] then some .none
  else if isWord run = true then some (.str ⟨run.toArray⟩)
  else (figs run).map PyData.int
/-- the law's own reader of a run -/
def lawBody (run : List Nat) : List Nat := if run.take 1 = [45] then run.drop 1 else run
def lawNum (run : List Nat) : Bool :=
  decide (lawBody run = []) || (decide ((lawBody run).filter (fun c => !isDig c) ≠ []) || (decide (40 < (lawBody run).length) || (decide ((lawBody run).take 1 = [48]) && decide (run ≠ [48]))))
theorem filter_nil_iff {p : Nat → Bool} {l : List Nat} : l.filter (fun c => !p c) = [] ↔ l.all p = true := by
  rw [List.filter_eq_nil_iff, List.all_eq_true]
  constructor
  · intro h x hx
    have := h x hx
    simpa using this
  · intro h x hx
    have := h x hx
    simpa using this
/-- which way the law's reader of a run goes, and what it gives -/
theorem law_word {run : List Nat} {c : Nat} {r : List Nat} (e : run = c :: r) (hc : isLet c = true) (h45 : run ≠ [45]) :
    atomOf run = if run.filter (fun c => !isLD c) = [] then some (.str ⟨run.toArray⟩) else none := by
  subst e
  unfold atomOf
  rw [if_neg h45]
  by_cases hw : (c :: r).filter (fun c => !isLD c) = []
  · rw [if_pos hw, if_pos]
    show (isLet c && (c :: r).all isLD) = true
    rw [hc, filter_nil_iff.mp hw]; rfl
  · rw [if_neg hw, if_neg]
    · have hl := let_iff.mp hc
      have hb : decide ((c :: r).take 1 = [45]) = false := by
        apply decide_eq_false
        intro z
        simp at z
        omega
      unfold figs
      simp only [hb]
      rw [if_pos]
      · rfl
      · refine .inr (.inr ?_)
        show (c :: r).all isDig = false
        rw [List.all_cons]
        have : isDig c = false := by
          cases h : isDig c with
          | false => rfl
          | true => have := dig_iff.mp h; omega
        rw [this]; rfl
    · intro z
      have z' : (isLet c && (c :: r).all isLD) = true := z
      rw [hc, Bool.true_and] at z'
      exact hw (filter_nil_iff.mpr z')
theorem law_num {run : List Nat} (h45 : run ≠ [45]) (hw : ∀ c r, run = c :: r → isLet c = false) :
    atomOf run = if lawNum run = true then none else some (.int (if run.take 1 = [45] then - ((NumText.digitsVal (run.drop 1) : Nat) : Int) else ((NumText.digitsVal run : Nat) : Int))) := by
  unfold atomOf
  rw [if_neg h45]
  have hnw : ¬ isWord run = true := by
    cases run with
    | nil => exact Bool.false_ne_true
    | cons c r =>
      intro z
      have z' : (isLet c && (c :: r).all isLD) = true := z
      rw [hw c r rfl, Bool.false_and] at z'
      exact Bool.false_ne_true z'
  rw [if_neg hnw]
  unfold figs lawNum lawBody
  by_cases hb : run.take 1 = [45]
  · simp only [decide_eq_true hb, if_pos hb, if_true, true_or, and_true]
    have h48 : decide (run ≠ [48]) = true := by
      apply decide_eq_true
      intro z
      rw [z] at hb
      simp at hb
    rw [h48]
    generalize run.drop 1 = ds
    by_cases h1 : ds = []
    · simp [h1]
    · by_cases h2 : 40 < ds.length
      · simp [h1, h2]
      · cases h3 : ds.all isDig with
        | false =>
          have h3' : ds.filter (fun c => !isDig c) ≠ [] := fun z => by
            rw [filter_nil_iff.mp z] at h3; cases h3
          simp [h1, h2, h3']
        | true =>
          have h3' := filter_nil_iff.mpr h3
          by_cases h4 : ds.take 1 = [48]
          · simp [h1, h2, h3', h4]
          · simp [h1, h2, h3', h4]
  · simp only [decide_eq_false hb, if_neg hb, Bool.false_eq_true, if_false, false_or]
    by_cases h1 : run = []
    · simp [h1]
    · by_cases h2 : 40 < run.length
      · simp [h1, h2]
      · cases h3 : run.all isDig with
        | false =>
          have h3' : run.filter (fun c => !isDig c) ≠ [] := fun z => by
            rw [filter_nil_iff.mp z] at h3; cases h3
          simp [h1, h2, h3']
        | true =>
          have h3' := filter_nil_iff.mpr h3
          by_cases h4 : run.take 1 = [48]
          · by_cases h5 : run = [48]
            · have hd : isDig 48 = true := by decide
              simp [h5, hd]
            · simp [h1, h2, h3', h4, h5]
          · simp [h1, h2, h3', h4]

/-! ### reading -/
inductive Res where
  | ok (d : PyData) (r : List Nat)
  | bad (r : List Nat)
def runOf (r : List Nat) : List Nat := r.takeWhile goOn
mutual
def rdv : Nat → List Nat → Option Res
  | 0, _ => none
  | n + 1, r => if r.take 1 = [40] then rdl n [] (r.drop 1)
    else match atomOf (runOf r) with
      | some d => some (.ok d (r.drop (runOf r).length))
      | none => some (.bad r)
def rdl : Nat → List PyData → List Nat → Option Res
  | 0, _, _ => none
  | n + 1, acc, r => if r.take 1 = [41] then some (.ok (.tuple acc) (r.drop 1))
    else if acc ≠ [] ∧ r.take 1 ≠ [32] then some (.bad r)
    else match rdv n (if acc = [] then r else r.drop 1) with
      | none => none
      | some (.bad r') => some (.bad r')
      | some (.ok d r') => rdl n (acc ++ [d]) r'
end
theorem pv_open {n : Nat} {r : List Nat} (h : r.take 1 = [40]) : rdv (n + 1) r = rdl n [] (r.drop 1) := by
  rw [rdv, if_pos h]
theorem pv_atom {n : Nat} {r : List Nat} {d : PyData} (h : r.take 1 ≠ [40]) (e : atomOf (runOf r) = some d) : rdv (n + 1) r = some (.ok d (r.drop (runOf r).length)) := by
  rw [rdv, if_neg h, e]
theorem pv_none {n : Nat} {r : List Nat} (h : r.take 1 ≠ [40]) (e : atomOf (runOf r) = none) : rdv (n + 1) r = some (.bad r) := by
  rw [rdv, if_neg h, e]
theorem pl_close {n : Nat} {acc : List PyData} {r : List Nat} (h : r.take 1 = [41]) : rdl (n + 1) acc r = some (.ok (.tuple acc) (r.drop 1)) := by
  rw [rdl, if_pos h]
theorem pl_bad {n : Nat} {acc : List PyData} {r : List Nat} (h : r.take 1 ≠ [41]) (ha : acc ≠ []) (hs : r.take 1 ≠ [32]) : rdl (n + 1) acc r = some (.bad r) := by
  rw [rdl, if_neg h, if_pos ⟨ha, hs⟩]
theorem pl_item {n : Nat} {acc : List PyData} {r : List Nat} (h : r.take 1 ≠ [41]) (hs : acc ≠ [] → r.take 1 = [32]) :
    rdl (n + 1) acc r = match rdv n (if acc = [] then r else r.drop 1) with
      | none => none
      | some (.bad r') => some (.bad r')
      | some (.ok d r') => rdl n (acc ++ [d]) r' := by
  rw [rdl, if_neg h, if_neg]
  rintro ⟨a, b⟩
  exact b (hs a)
theorem take1_drop {r : List Nat} {c : Nat} (h : r.take 1 = [c]) : r = c :: r.drop 1 := by
  cases r with
  | nil => simp at h
  | cons x t => simp at h; subst h; rfl
theorem atom_nil : atomOf [] = none := by
  unfold atomOf figs isWord
  simp
theorem runOf_le (r : List Nat) : (runOf r).length ≤ r.length := by
  unfold runOf
  exact List.Sublist.length_le (List.takeWhile_sublist _)
/-- what is left is an end of what was there, and shorter where a value was read -/
structure Left (r r' : List Nat) : Prop where
  suf : r' <:+ r
def resLeft (r : List Nat) : Res → Prop
  | .ok _ r' => r' <:+ r ∧ r'.length < r.length
  | .bad r' => r' <:+ r
theorem left_both : ∀ n : Nat, (∀ r res, rdv n r = some res → resLeft r res) ∧ (∀ acc r res, rdl n acc r = some res → resLeft r res)
  | 0 => ⟨fun _ _ h => (by rw [rdv] at h; cases h), fun _ _ _ h => (by rw [rdl] at h; cases h)⟩
  | n + 1 => by
    obtain ⟨ihv, ihl⟩ := left_both n
    constructor
    · intro r res h
      by_cases h40 : r.take 1 = [40]
      · rw [pv_open h40] at h
        have z := ihl _ _ _ h
        have e := take1_drop h40
        generalize r.drop 1 = t at *
        subst e
        cases res with
        | ok d r' => exact ⟨z.1.trans (List.suffix_cons _ _), by have := z.2; rw [List.length_cons]; omega⟩
        | bad r' => exact List.IsSuffix.trans z (List.suffix_cons _ _)
      · cases ha : atomOf (runOf r) with
        | some d =>
          rw [pv_atom h40 ha] at h
          cases h
          refine ⟨List.drop_suffix _ _, ?_⟩
          have hne : runOf r ≠ [] := fun z => by rw [z, atom_nil] at ha; cases ha
          have h1 : 0 < (runOf r).length := List.length_pos_iff.mpr hne
          have h2 := runOf_le r
          rw [List.length_drop]
          omega
        | none =>
          rw [pv_none h40 ha] at h
          cases h
          exact List.suffix_refl _
    · intro acc r res h
      by_cases h41 : r.take 1 = [41]
      · rw [pl_close h41] at h
        cases h
        have e := take1_drop h41
        refine ⟨List.drop_suffix _ _, ?_⟩
        rw [e]
        simp
      · by_cases hb : acc ≠ [] ∧ r.take 1 ≠ [32]
        · rw [pl_bad h41 hb.1 hb.2] at h
          cases h
          exact List.suffix_refl _
        · have hs : acc ≠ [] → r.take 1 = [32] := fun a => Classical.byContradiction fun b => hb ⟨a, b⟩
          rw [pl_item h41 hs] at h
          have hle : (if acc = [] then r else r.drop 1) <:+ r := by
            split
            · exact List.suffix_refl _
            · exact List.drop_suffix _ _
          cases hv : rdv n (if acc = [] then r else r.drop 1) with
          | none => rw [hv] at h; cases h
          | some q =>
            rw [hv] at h
            have z := ihv _ _ hv
            cases q with
            | bad r' =>
              cases h
              exact List.IsSuffix.trans z hle
            | ok d r' =>
              have y := ihl _ _ _ h
              have l1 := z.2
              have l2 := hle.length_le
              cases res with
              | ok d2 r2 => exact ⟨y.1.trans (z.1.trans hle), by have := y.2; omega⟩
              | bad r2 => exact List.IsSuffix.trans y (z.1.trans hle)
theorem pv_left {n : Nat} {r : List Nat} {res : Res} (h : rdv n r = some res) : resLeft r res := (left_both n).1 r res h
theorem pl_left {n : Nat} {acc : List PyData} {r : List Nat} {res : Res} (h : rdl n acc r = some res) : resLeft r res := (left_both n).2 acc r res h
/-- with steps enough there is an answer -/
theorem total_both : ∀ n : Nat, (∀ r : List Nat, 2 * r.length + 1 ≤ n → ∃ res, rdv n r = some res) ∧ (∀ (acc : List PyData) (r : List Nat), 2 * r.length + 2 ≤ n → ∃ res, rdl n acc r = some res)
  | 0 => ⟨fun _ h => by omega, fun _ _ h => by omega⟩
  | n + 1 => by
    obtain ⟨ihv, ihl⟩ := total_both n
    constructor
    · intro r h
      by_cases h40 : r.take 1 = [40]
      · rw [pv_open h40]
        refine ihl _ _ ?_
        have e := take1_drop h40
        have l : r.length = (r.drop 1).length + 1 := by conv => lhs; rw [e, List.length_cons]
        omega
      · cases ha : atomOf (runOf r) with
        | some d => exact ⟨_, pv_atom h40 ha⟩
        | none => exact ⟨_, pv_none h40 ha⟩
    · intro acc r h
      by_cases h41 : r.take 1 = [41]
      · exact ⟨_, pl_close h41⟩
      · by_cases hb : acc ≠ [] ∧ r.take 1 ≠ [32]
        · exact ⟨_, pl_bad h41 hb.1 hb.2⟩
        · have hs : acc ≠ [] → r.take 1 = [32] := fun a => Classical.byContradiction fun b => hb ⟨a, b⟩
          rw [pl_item h41 hs]
          have hl : (if acc = [] then r else r.drop 1).length ≤ r.length := by
            split
            · exact Nat.le_refl _
            · rw [List.length_drop]; omega
          obtain ⟨q, hq⟩ := ihv (if acc = [] then r else r.drop 1) (by omega)
          rw [hq]
          cases q with
          | bad r' => exact ⟨_, rfl⟩
          | ok d r' =>
            have z := (pv_left hq).2
            exact ihl _ _ (by omega)
theorem pv_total (r : List Nat) : ∃ n res, rdv n r = some res := ⟨_, (total_both (2 * r.length + 1)).1 r (Nat.le_refl _)⟩

/-! ### how many open brackets -/
def opens (r : List Nat) : Nat := r.count 40
theorem opens_suffix {r r' : List Nat} (h : r' <:+ r) : opens r' ≤ opens r := h.sublist.count_le 40

/-! ### telling -/
mutual
def told : PyData → List Nat
  | .none => [45]
  | .bool _ => []
  | .int i => TL.tl (Str.ofString (toString i))
  | .str x => TL.tl x
  | .list _ => []
  | .tuple ds => 40 :: (TL.joinL [32] (toldAll ds) ++ [41])
  | .dict _ => []
def toldAll : List PyData → List (List Nat)
  | [] => []
  | d :: ds => told d :: toldAll ds
end
theorem toldAll_map : ∀ ds : List PyData, toldAll ds = ds.map told
  | [] => rfl
  | d :: ds => by rw [toldAll, toldAll_map ds]; rfl
theorem told_tuple (ds : List PyData) : told (.tuple ds) = 40 :: (TL.joinL [32] (ds.map told) ++ [41]) := by rw [told, toldAll_map]

/-- what the law draws: at most so many tuples in one another, each of at most three -/
inductive Dr : Nat → PyData → Prop where
  | none {n : Nat} : Dr n .none
  | int {n : Nat} {i : Int} (h : i.natAbs < 10 ^ 40) : Dr n (.int i)
  | str {n : Nat} {x : Str} (h : isWord (TL.tl x) = true) (hl : x.length ≤ 40) : Dr n (.str x)
  | tup {n : Nat} {ds : List PyData} (hl : ds.length ≤ 3) (h : ∀ d ∈ ds, Dr n d) : Dr (n + 1) (.tuple ds)

/-! ### plain -/
def isPlain : Nat → PyData → Bool
  | _, .none => true
  | _, .str x => isWord (TL.tl x)
  | _, .int i => decide ((if i < 0 then -i else i) < 10 ^ 40)
  | 0, .tuple _ => false
  | n + 1, .tuple ds => ds.all (isPlain n)
  | _, _ => false
theorem plain_dr : ∀ {n m : Nat} {d : PyData}, n ≤ m → Dr n d → isPlain m d = true := by
  intro n m d hm h
  induction h generalizing m with
  | none => cases m <;> rfl
  | int h =>
    rename_i i
    have e : isPlain m (.int i) = decide ((if i < 0 then -i else i) < 10 ^ 40) := by cases m <;> rfl
    rw [e, decide_eq_true]
    have e2 : ((10 : Int) ^ 40) = ((10 ^ 40 : Nat) : Int) := by decide
    rw [e2]
    split <;> omega
  | str h hl =>
    rename_i x
    have e : isPlain m (.str x) = isWord (TL.tl x) := by cases m <;> rfl
    rw [e, h]
  | tup hl h ih =>
    rename_i k ds
    cases m with
    | zero => omega
    | succ m =>
      show ds.all (isPlain m) = true
      rw [List.all_eq_true]
      intro d hd
      exact ih d hd (by omega)
end K9

set_option Elab.async false
set_option linter.all false
set_option maxRecDepth 100000
/- K98, the plain law, second part: what is told is read back; sizes of what is read. -/
namespace K9
open PySem

theorem go_ld {c : Nat} (h : isLD c = true) : goOn c = true := by
  have := ld_iff.mp h
  rw [go_iff]; omega
theorem go_digit {c : Nat} (h : 48 ≤ c ∧ c ≤ 57) : goOn c = true := by rw [go_iff]; omega
/-- the rest of a text begins with a sign that ends a run, or is empty -/
def Stop (rest : List Nat) : Prop := ∀ c t, rest = c :: t → goOn c = false
theorem run_app : ∀ {l rest : List Nat}, (∀ c ∈ l, goOn c = true) → Stop rest → runOf (l ++ rest) = l
  | [], rest, _, hs => by
    cases rest with
    | nil => rfl
    | cons c t =>
      show (c :: t).takeWhile goOn = []
      rw [List.takeWhile_cons, hs c t rfl]; rfl
  | a :: l, rest, h, hs => by
    have ih := run_app (l := l) (rest := rest) (fun c hc => h c (List.mem_cons_of_mem _ hc)) hs
    show (a :: (l ++ rest)).takeWhile goOn = a :: l
    rw [List.takeWhile_cons, h a (List.mem_cons_self ..)]
    show a :: (l ++ rest).takeWhile goOn = a :: l
    exact congrArg (a :: ·) ih

/-! ### numbers -/
theorem num_head {n : Nat} : (TL.numL n).take 1 = [48] → n = 0 := by
  induction n using Nat.strongRecOn with
  | _ n ih =>
    intro h
    by_cases hn : n < 10
    · rw [TL.numL_lt hn] at h
      simp at h
      omega
    · rw [TL.numL_step (by omega)] at h
      have hne := TL.numL_ne (n / 10)
      rw [List.take_append_of_le_length (by have := List.length_pos_iff.mpr hne; omega)] at h
      have := ih (n / 10) (by omega) h
      omega
theorem tl_neg (n : Nat) : TL.tl (Str.ofString (toString (Int.negSucc n))) = 45 :: TL.numL (n + 1) := by
  have e1 : toString (Int.negSucc n) = "-" ++ toString (n + 1) := rfl
  rw [e1, TL.tl_ofString, String.toList_append, List.map_append]
  have e2 : (toString (n + 1)).toList.map Char.toNat = TL.numL (n + 1) := by
    rw [← TL.tl_ofString]
    exact TL.tl_num (n + 1)
  rw [e2]
  rfl
theorem dig_all {n : Nat} : (TL.numL n).all isDig = true := by
  rw [List.all_eq_true]
  intro c hc
  exact dig_iff.mpr (TL.numL_digits n c hc)
theorem notlet_digit {c : Nat} (h : 48 ≤ c ∧ c ≤ 57) : isLet c = false := by
  cases e : isLet c with
  | false => rfl
  | true => have := let_iff.mp e; omega
theorem num_word (n : Nat) : isWord (TL.numL n) = false := by
  cases e : TL.numL n with
  | nil => rfl
  | cons c r =>
    have hc := TL.numL_digits n c (by rw [e]; exact List.mem_cons_self ..)
    show (isLet c && _) = false
    rw [notlet_digit hc]; rfl
theorem atom_nat {n : Nat} (h : n < 10 ^ 40) : atomOf (TL.numL n) = some (.int (n : Int)) := by
  have hne := TL.numL_ne n
  have hlen := TL.numL_len (n := n) (k := 40) (by omega) h
  have h45 : TL.numL n ≠ [45] := fun z => by
    have := TL.numL_digits n 45 (by rw [z]; exact List.mem_cons_self ..)
    omega
  have hb : decide ((TL.numL n).take 1 = [45]) = false := by
    apply decide_eq_false
    intro z
    have := TL.numL_digits n 45 (List.mem_of_mem_take (i := 1) (by rw [z]; exact List.mem_cons_self ..))
    omega
  unfold atomOf
  rw [if_neg h45, if_neg (by rw [num_word]; exact Bool.false_ne_true)]
  have hf : figs (TL.numL n) = some (n : Int) := by
    unfold figs
    simp only [hb, Bool.false_eq_true, if_false, false_or]
    rw [if_neg, if_neg]
    · rw [TL.numL_val]
    · rintro ⟨z1, z2⟩
      have := num_head z1
      subst this
      exact z2 rfl
    · rintro (z | z | z)
      · exact hne z
      · omega
      · rw [dig_all] at z; cases z
  rw [hf]; rfl
theorem atom_neg {n : Nat} (h : n + 1 < 10 ^ 40) : atomOf (45 :: TL.numL (n + 1)) = some (.int (Int.negSucc n)) := by
  have hne := TL.numL_ne (n + 1)
  have hlen := TL.numL_len (n := n + 1) (k := 40) (by omega) h
  have h45 : 45 :: TL.numL (n + 1) ≠ [45] := fun z => by
    injection z with _ z
    exact hne z
  have hb : decide ((45 :: TL.numL (n + 1)).take 1 = [45]) = true := by
    apply decide_eq_true
    rfl
  unfold atomOf
  rw [if_neg h45, if_neg (show ¬ isWord (45 :: TL.numL (n + 1)) = true from by
    show ¬ (isLet 45 && (45 :: TL.numL (n + 1)).all isLD) = true
    rw [show isLet 45 = false by decide]
    exact Bool.false_ne_true)]
  have hf : figs (45 :: TL.numL (n + 1)) = some (Int.negSucc n) := by
    unfold figs
    simp only [hb, if_true, true_or, and_true]
    show (if TL.numL (n + 1) = [] ∨ 40 < (TL.numL (n + 1)).length ∨ (TL.numL (n + 1)).all isDig = false then none else
      if (TL.numL (n + 1)).take 1 = [48] then none else some (0 - ((NumText.digitsVal (TL.numL (n + 1)) : Nat) : Int))) = _
    rw [if_neg, if_neg]
    · rw [TL.numL_val]
      first
        | rfl
        | exact congrArg some (by omega)
    · intro z
      have := num_head z
      omega
    · rintro (z | z | z)
      · exact hne z
      · omega
      · rw [dig_all] at z; cases z
  rw [hf]; rfl
theorem atom_int {i : Int} (h : i.natAbs < 10 ^ 40) : atomOf (told (.int i)) = some (.int i) := by
  show atomOf (TL.tl (Str.ofString (toString i))) = _
  cases i with
  | ofNat n =>
    rw [show TL.tl (Str.ofString (toString (Int.ofNat n))) = TL.numL n from TL.tl_num n]
    exact atom_nat (by simpa using h)
  | negSucc n =>
    rw [tl_neg]
    exact atom_neg (by simpa using h)
theorem int_go {i : Int} : ∀ c ∈ told (.int i), goOn c = true := by
  show ∀ c ∈ TL.tl (Str.ofString (toString i)), goOn c = true
  cases i with
  | ofNat n =>
    rw [show TL.tl (Str.ofString (toString (Int.ofNat n))) = TL.numL n from TL.tl_num n]
    exact fun c hc => go_digit (TL.numL_digits n c hc)
  | negSucc n =>
    rw [tl_neg]
    intro c hc
    rcases List.mem_cons.mp hc with rfl | hc
    · decide
    · exact go_digit (TL.numL_digits (n + 1) c hc)
theorem int_head {i : Int} : ∃ c t, told (.int i) = c :: t ∧ (c = 45 ∨ (48 ≤ c ∧ c ≤ 57)) := by
  show ∃ c t, TL.tl (Str.ofString (toString i)) = c :: t ∧ _
  cases i with
  | ofNat n =>
    rw [show TL.tl (Str.ofString (toString (Int.ofNat n))) = TL.numL n from TL.tl_num n]
    cases e : TL.numL n with
    | nil => exact absurd e (TL.numL_ne n)
    | cons c t => exact ⟨c, t, rfl, .inr (TL.numL_digits n c (by rw [e]; exact List.mem_cons_self ..))⟩
  | negSucc n =>
    rw [tl_neg]
    exact ⟨_, _, rfl, .inl rfl⟩
theorem word_shape {l : List Nat} (h : isWord l = true) : ∃ c t, l = c :: t ∧ isLet c = true ∧ ∀ c ∈ l, isLD c = true := by
  cases l with
  | nil => cases h
  | cons c t =>
    have z : (isLet c && (c :: t).all isLD) = true := h
    obtain ⟨h1, h2⟩ := Bool.and_eq_true_iff.mp z
    exact ⟨c, t, rfl, h1, List.all_eq_true.mp h2⟩
theorem atom_str {x : Str} (h : isWord (TL.tl x) = true) : atomOf (told (.str x)) = some (.str x) := by
  show atomOf (TL.tl x) = _
  obtain ⟨c, t, e, hc, _⟩ := word_shape h
  unfold atomOf
  rw [if_neg (fun z => by rw [z] at e; injection e with e1 _; rw [← e1] at hc; revert hc; decide), if_pos h, TL.mk_tl]

/-! ### what is told is read back -/
def RT (d : PyData) : Prop := ∀ (n : Nat) (rest : List Nat), Stop rest → 2 * (told d).length + 1 ≤ n → rdv n (told d ++ rest) = some (.ok d rest)
theorem rt_atom {d : PyData} (ha : atomOf (told d) = some d) (hg : ∀ c ∈ told d, goOn c = true) : RT d := by
  intro n rest hs hn
  obtain ⟨m, rfl⟩ : ∃ m, n = m + 1 := ⟨n - 1, by omega⟩
  have hne : told d ≠ [] := fun z => by rw [z, atom_nil] at ha; cases ha
  have h40 : (told d ++ rest).take 1 ≠ [40] := by
    intro z
    cases e : told d with
    | nil => exact hne e
    | cons c t =>
      rw [e] at z
      have : c = 40 := by simpa using z
      have hc := hg c (by rw [e]; exact List.mem_cons_self ..)
      rw [this] at hc
      revert hc; decide
  rw [pv_atom h40 (by rw [run_app hg hs]; exact ha), run_app hg hs, List.drop_left]
theorem joinL_cons (p : List Nat) : ∀ r : List (List Nat), TL.joinL [32] (p :: r) = p ++ r.flatMap (fun q => 32 :: q)
  | [] => by show p = p ++ []; rw [List.append_nil]
  | q :: r => by
    show p ++ ([32] ++ TL.joinL [32] (q :: r)) = _
    rw [joinL_cons q r, List.flatMap_cons]
    rfl
theorem stop_tail {ds : List PyData} {rest : List Nat} : Stop (ds.flatMap (fun d => 32 :: told d) ++ 41 :: rest) := by
  intro c t e
  cases ds with
  | nil =>
    have : 41 = c := by
      have e' : 41 :: rest = c :: t := e
      injection e'
    rw [← this]; decide
  | cons d ds =>
    rw [List.flatMap_cons] at e
    have : 32 = c := by
      have e' : 32 :: (told d ++ ds.flatMap (fun d => 32 :: told d) ++ 41 :: rest) = c :: t := e
      injection e'
    rw [← this]; decide
theorem rt_more : ∀ (ds acc : List PyData) (n : Nat) (rest : List Nat), (∀ d ∈ ds, RT d) → acc ≠ [] → 2 * (ds.flatMap (fun d => 32 :: told d)).length + 2 ≤ n →
    rdl n acc (ds.flatMap (fun d => 32 :: told d) ++ 41 :: rest) = some (.ok (.tuple (acc ++ ds)) rest)
  | [], acc, n, rest, _, _, hn => by
    obtain ⟨m, rfl⟩ : ∃ m, n = m + 1 := ⟨n - 1, by omega⟩
    show rdl (m + 1) acc (41 :: rest) = _
    rw [pl_close rfl, List.append_nil]
    rfl
  | d :: ds, acc, n, rest, h, ha, hn => by
    rw [List.flatMap_cons, List.length_append, List.length_cons] at hn
    obtain ⟨m, rfl⟩ : ∃ m, n = m + 1 := ⟨n - 1, by omega⟩
    rw [List.flatMap_cons]
    have e : (32 :: told d ++ ds.flatMap (fun d => 32 :: told d)) ++ 41 :: rest = 32 :: (told d ++ (ds.flatMap (fun d => 32 :: told d) ++ 41 :: rest)) := by
      simp
    rw [e, pl_item (by intro z; cases z) (fun _ => rfl), if_neg ha]
    have hd := h d (List.mem_cons_self ..) m (ds.flatMap (fun d => 32 :: told d) ++ 41 :: rest) stop_tail (by omega)
    show (match rdv m (told d ++ (ds.flatMap (fun d => 32 :: told d) ++ 41 :: rest)) with
      | none => none
      | some (Res.bad r') => some (Res.bad r')
      | some (Res.ok d r') => rdl m (acc ++ [d]) r') = _
    rw [hd]
    show rdl m (acc ++ [d]) (ds.flatMap (fun d => 32 :: told d) ++ 41 :: rest) = _
    rw [rt_more ds (acc ++ [d]) m rest (fun x hx => h x (List.mem_cons_of_mem _ hx)) (by simp) (by omega)]
    simp
theorem told_head {n : Nat} {d : PyData} (h : Dr n d) : ∃ c t, told d = c :: t ∧ c ≠ 41 ∧ c ≠ 32 := by
  cases h with
  | none => exact ⟨45, [], rfl, by decide, by decide⟩
  | int h =>
    obtain ⟨c, t, e, hc⟩ := int_head (i := by assumption)
    exact ⟨c, t, e, by omega, by omega⟩
  | str h hl =>
    obtain ⟨c, t, e, hc, _⟩ := word_shape h
    have := let_iff.mp hc
    exact ⟨c, t, e, by omega, by omega⟩
  | tup hl h => exact ⟨40, _, by rw [told_tuple], by decide, by decide⟩
theorem rt_dr {n : Nat} {d : PyData} (h : Dr n d) : RT d := by
  induction h with
  | none => exact rt_atom rfl (by decide)
  | int h => exact rt_atom (atom_int h) int_go
  | str h hl => exact rt_atom (atom_str h) (fun c hc => go_ld ((word_shape h).elim fun _ q => q.elim fun _ q => q.2.2 c hc))
  | @tup k ds hl h ih =>
    intro n rest hs hn
    rw [told_tuple] at hn ⊢
    obtain ⟨m, rfl⟩ : ∃ m, n = m + 1 := ⟨n - 1, by omega⟩
    rw [pv_open rfl]
    show rdl m [] ((TL.joinL [32] (ds.map told) ++ [41]) ++ rest) = _
    rw [List.length_cons, List.length_append, List.length_singleton] at hn
    rw [List.append_assoc]
    cases ds with
    | nil =>
      obtain ⟨k, rfl⟩ : ∃ k, m = k + 1 := ⟨m - 1, by omega⟩
      show rdl (k + 1) [] (41 :: rest) = _
      rw [pl_close rfl]; rfl
    | cons d ds =>
      rw [List.map_cons, joinL_cons, List.flatMap_map] at hn ⊢
      rw [List.length_append] at hn
      obtain ⟨c, t, e, hc, _⟩ := told_head (h d (List.mem_cons_self ..))
      obtain ⟨k, rfl⟩ : ∃ k, m = k + 1 := ⟨m - 1, by omega⟩
      rw [List.append_assoc, pl_item (by rw [e]; intro z; simp at z; exact hc z) (fun z => absurd rfl z), if_pos rfl]
      have hd := ih d (List.mem_cons_self ..) k (ds.flatMap (fun d => 32 :: told d) ++ 41 :: rest) stop_tail (by omega)
      show (match rdv k (told d ++ (ds.flatMap (fun d => 32 :: told d) ++ 41 :: rest)) with
        | none => none
        | some (Res.bad r') => some (Res.bad r')
        | some (Res.ok d r') => rdl k ([] ++ [d]) r') = _
      rw [hd]
      show rdl k [d] (ds.flatMap (fun d => 32 :: told d) ++ 41 :: rest) = _
      rw [rt_more ds [d] k rest (fun x hx => ih x (List.mem_cons_of_mem _ hx)) (by simp) (by omega)]
      rfl
theorem told_reads {n : Nat} {d : PyData} (h : Dr n d) : ∃ m, rdv m (told d) = some (.ok d []) := by
  have e := rt_dr h (2 * (told d).length + 1) [] (fun c t z => nomatch z) (Nat.le_refl _)
  rw [List.append_nil] at e
  exact ⟨_, e⟩

/-! ### sizes of what is told -/
def most : Nat → Nat
  | 0 => 41
  | n + 1 => 3 * most n + 4
def openMost : Nat → Nat
  | 0 => 0
  | n + 1 => 3 * openMost n + 1
theorem most_mono (n : Nat) : 41 ≤ most n := by
  induction n with
  | zero => exact Nat.le_refl _
  | succ n ih => show 41 ≤ 3 * most n + 4; omega
theorem flat_len {ds : List PyData} {L : Nat} (h : ∀ d ∈ ds, (told d).length ≤ L) : (ds.flatMap (fun d => 32 :: told d)).length ≤ ds.length * (L + 1) := by
  induction ds with
  | nil => exact Nat.zero_le _
  | cons d ds ih =>
    rw [List.flatMap_cons, List.length_append, List.length_cons, List.length_cons, Nat.add_mul]
    have h1 := h d (List.mem_cons_self ..)
    have h2 := ih fun x hx => h x (List.mem_cons_of_mem _ hx)
    omega
theorem told_len {n : Nat} {d : PyData} (h : Dr n d) : (told d).length ≤ most n := by
  induction h with
  | none => have := most_mono; show 1 ≤ _; rename_i n; have := most_mono n; omega
  | @int n i h =>
    have := most_mono n
    show (TL.tl (Str.ofString (toString i))).length ≤ _
    cases i with
    | ofNat k =>
      rw [show TL.tl (Str.ofString (toString (Int.ofNat k))) = TL.numL k from TL.tl_num k]
      have := TL.numL_len (n := k) (k := 40) (by omega) (by simpa using h)
      omega
    | negSucc k =>
      rw [tl_neg, List.length_cons]
      have := TL.numL_len (n := k + 1) (k := 40) (by omega) (by simpa using h)
      omega
  | @str n x h hl =>
    have := most_mono n
    show (TL.tl x).length ≤ _
    rw [← TL.len_tl]
    omega
  | @tup n ds hl h ih =>
    rw [told_tuple, List.length_cons, List.length_append, List.length_singleton]
    show _ ≤ 3 * most n + 4
    cases ds with
    | nil => show 0 + 1 + 1 ≤ _; omega
    | cons d ds =>
      rw [List.map_cons, joinL_cons, List.flatMap_map, List.length_append]
      have h1 := ih d (List.mem_cons_self ..)
      have h2 := flat_len (ds := ds) (L := most n) fun x hx => ih x (List.mem_cons_of_mem _ hx)
      rw [List.length_cons] at hl
      have h3 : ds.length * (most n + 1) ≤ 2 * (most n + 1) := Nat.mul_le_mul_right _ (by omega)
      omega
theorem opens_none {l : List Nat} (h : ∀ c ∈ l, goOn c = true) : opens l = 0 := by
  unfold opens
  rw [List.count_eq_zero]
  intro z
  have := h 40 z
  revert this; decide
theorem flat_opens {ds : List PyData} {L : Nat} (h : ∀ d ∈ ds, opens (told d) ≤ L) : opens (ds.flatMap (fun d => 32 :: told d)) ≤ ds.length * L := by
  induction ds with
  | nil => exact Nat.zero_le _
  | cons d ds ih =>
    have h1 := h d (List.mem_cons_self ..)
    have h2 := ih fun x hx => h x (List.mem_cons_of_mem _ hx)
    have e : opens ((d :: ds).flatMap (fun d => 32 :: told d)) = opens (told d) + opens (ds.flatMap (fun d => 32 :: told d)) := by
      rw [List.flatMap_cons]
      unfold opens
      rw [List.count_append, List.count_cons]
      simp
    rw [e, List.length_cons, Nat.add_mul]
    omega
theorem told_opens {n : Nat} {d : PyData} (h : Dr n d) : opens (told d) ≤ openMost n := by
  induction h with
  | none => exact Nat.zero_le _
  | int h => rw [opens_none int_go]; exact Nat.zero_le _
  | str h hl =>
    show opens (TL.tl _) ≤ _
    rw [opens_none (fun c hc => go_ld ((word_shape h).elim fun _ q => q.elim fun _ q => q.2.2 c hc))]; exact Nat.zero_le _
  | @tup n ds hl h ih =>
    rw [told_tuple]
    show _ ≤ 3 * openMost n + 1
    have e : opens (40 :: (TL.joinL [32] (ds.map told) ++ [41])) = opens (TL.joinL [32] (ds.map told)) + 1 := by
      unfold opens
      rw [List.count_cons, List.count_append]
      simp
    rw [e]
    cases ds with
    | nil => show 0 + 1 ≤ _; omega
    | cons d ds =>
      rw [List.map_cons, joinL_cons, List.flatMap_map]
      have e2 : opens (told d ++ ds.flatMap (fun q => 32 :: told q)) = opens (told d) + opens (ds.flatMap (fun q => 32 :: told q)) := by
        unfold opens
        rw [List.count_append]
      have h1 := ih d (List.mem_cons_self ..)
      have h2 := flat_opens (ds := ds) (L := openMost n) fun x hx => ih x (List.mem_cons_of_mem _ hx)
      rw [List.length_cons] at hl
      have h3 : ds.length * openMost n ≤ 2 * openMost n := Nat.mul_le_mul_right _ (by omega)
      have e3 : opens (told d ++ List.flatMap (fun a => 32 :: told a) ds) = opens (told d) + opens (ds.flatMap (fun q => 32 :: told q)) := e2
      omega
end K9

set_option Elab.async false
set_option linter.all false
set_option maxRecDepth 100000
/- K98, the plain law, third part: what is read can be shown and compared. -/
namespace K9
open PySem

/-- what a value read from so many signs, of so many open brackets, is worth -/
structure Fit (d : PyData) (c o : Nat) : Prop where
  lay : d.canLay0 = true
  sh : d.showable = true
  len : d.shown.length + 2 ≤ 14 * c
  dep : d.depth ≤ o
structure FitAll (ds : List PyData) (c o : Nat) : Prop where
  lay : PyData.canLayAll0 ds = true
  sh : PyData.showableAll ds = true
  len : ((PyData.shownAll ds).map Str.length).sum + 2 * ds.length ≤ 14 * c
  dep : PyData.depthAll ds ≤ o
theorem fitAll_nil (o : Nat) : FitAll [] 0 o := ⟨rfl, rfl, Nat.le_refl _, Nat.zero_le _⟩
theorem canLayAll_app : ∀ {a b : List PyData}, PyData.canLayAll0 a = true → PyData.canLayAll0 b = true → PyData.canLayAll0 (a ++ b) = true
  | [], _, _, h => h
  | x :: a, b, h, h2 => by
    have h' : (x.canLay0 && PyData.canLayAll0 a) = true := by simpa [PyData.canLayAll0] using h
    obtain ⟨h3, h4⟩ := Bool.and_eq_true_iff.mp h'
    show PyData.canLayAll0 (x :: (a ++ b)) = true
    rw [PyData.canLayAll0, h3, canLayAll_app h4 h2]; rfl
theorem showAll_app : ∀ {a b : List PyData}, PyData.showableAll a = true → PyData.showableAll b = true → PyData.showableAll (a ++ b) = true
  | [], _, _, h => h
  | x :: a, b, h, h2 => by
    have h' : (x.showable && PyData.showableAll a) = true := by simpa [PyData.showableAll] using h
    obtain ⟨h3, h4⟩ := Bool.and_eq_true_iff.mp h'
    show PyData.showableAll (x :: (a ++ b)) = true
    rw [PyData.showableAll, h3, showAll_app h4 h2]; rfl
theorem shownAll_app : ∀ (a b : List PyData), PyData.shownAll (a ++ b) = PyData.shownAll a ++ PyData.shownAll b
  | [], _ => rfl
  | x :: a, b => by
    show PyData.shownAll (x :: (a ++ b)) = _
    rw [PyData.shownAll, shownAll_app a b, PyData.shownAll]; rfl
theorem shownAll_length : ∀ a : List PyData, (PyData.shownAll a).length = a.length
  | [] => rfl
  | x :: a => by rw [PyData.shownAll, List.length_cons, shownAll_length a]; rfl
theorem depthAll_app : ∀ (a b : List PyData) (o : Nat), PyData.depthAll a ≤ o → PyData.depthAll b ≤ o → PyData.depthAll (a ++ b) ≤ o
  | [], _, _, _, h => h
  | x :: a, b, o, h, h2 => by
    rw [PyData.depthAll] at h
    show PyData.depthAll (x :: (a ++ b)) ≤ o
    rw [PyData.depthAll]
    have := depthAll_app a b o (by omega) h2
    omega
theorem FitAll.snoc {acc : List PyData} {d : PyData} {c c2 o : Nat} (h : FitAll acc c o) (f : Fit d c2 o) : FitAll (acc ++ [d]) (c + c2) o := by
  refine ⟨canLayAll_app h.lay ?_, showAll_app h.sh ?_, ?_, depthAll_app _ _ _ h.dep ?_⟩
  · rw [PyData.canLayAll0, f.lay]; rfl
  · rw [PyData.showableAll, f.sh]; rfl
  · rw [shownAll_app, List.map_append, List.sum_append, List.length_append]
    have e : ((PyData.shownAll [d]).map Str.length).sum = d.shown.length := by
      rw [PyData.shownAll, PyData.shownAll]
      show d.shown.length + 0 = _
      omega
    rw [e]
    have := h.len
    have := f.len
    show _ + 2 * (acc.length + 1) ≤ _
    omega
  · rw [PyData.depthAll, PyData.depthAll]
    have := f.dep
    omega
theorem joinL_len (S : List Nat) : ∀ l : List (List Nat), (TL.joinL S l).length ≤ (l.map List.length).sum + S.length * l.length
  | [] => Nat.zero_le _
  | [p] => by
    show p.length ≤ p.length + 0 + S.length * 1
    omega
  | p :: q :: r => by
    show (p ++ (S ++ TL.joinL S (q :: r))).length ≤ _
    have ih := joinL_len S (q :: r)
    rw [List.length_append, List.length_append, List.map_cons, List.sum_cons, List.length_cons, Nat.mul_succ]
    omega
theorem tupleText_len (ts : List Str) : (tupleText ts).length ≤ (ts.map Str.length).sum + 2 * ts.length + 3 := by
  unfold tupleText
  rw [TL.len_tl, TL.tl_append, TL.tl_append, TL.tl_join]
  rw [List.length_append, List.length_append]
  have h1 := joinL_len (TL.tl (Str.ofString ", ")) (ts.map TL.tl)
  have h2 : (TL.tl (Str.ofString ", ")).length = 2 := by rw [TL.tl_ofString]; rfl
  have h3 : (TL.tl (Str.ofString "(")).length = 1 := by rw [TL.tl_ofString]; rfl
  have h4 : (TL.tl (Str.ofString (if (ts.length == 1) = true then ",)" else ")"))).length ≤ 2 := by
    rw [TL.tl_ofString]
    split <;> decide
  have h5 : ((ts.map TL.tl).map List.length).sum = (ts.map Str.length).sum := by
    rw [List.map_map]
    exact congrArg List.sum (List.map_congr_left fun x _ => (TL.len_tl x).symm)
  rw [h2, h5, List.length_map] at h1
  omega
theorem digitsVal_lt : ∀ (l : List Nat) (a : Nat), NumText.AllDigits l → l.foldl (fun acc c => acc * 10 + (c - 48)) a < (a + 1) * 10 ^ l.length
  | [], a, _ => by show a < (a + 1) * 1; omega
  | c :: l, a, h => by
    have hc := h.head
    have ih := digitsVal_lt l (a * 10 + (c - 48)) h.tail
    rw [List.foldl_cons, List.length_cons, Nat.pow_succ]
    have e : (a + 1) * (10 ^ l.length * 10) = ((a + 1) * 10) * 10 ^ l.length := by
      rw [Nat.mul_comm (10 ^ l.length) 10, ← Nat.mul_assoc]
    rw [e]
    refine Nat.lt_of_lt_of_le ih (Nat.mul_le_mul_right _ ?_)
    omega
theorem val_lt {l : List Nat} (h : l.all isDig = true) : NumText.digitsVal l < 10 ^ l.length := by
  have z := digitsVal_lt l 0 fun c hc => dig_iff.mp (List.all_eq_true.mp h c hc)
  unfold NumText.digitsVal
  simpa using z
theorem log_ok {n : Nat} (h : n < 10 ^ 41) : n.log2 < 1920 := by
  by_cases h0 : n = 0
  · subst h0
    decide
  · rw [Nat.log2_lt h0]
    exact Nat.lt_trans h (by decide)
theorem int_text_len {i : Int} {k : Nat} (hk : 0 < k) (h : i.natAbs < 10 ^ k) : (TL.tl (Str.ofString (toString i))).length ≤ k + 1 := by
  cases i with
  | ofNat n =>
    rw [show TL.tl (Str.ofString (toString (Int.ofNat n))) = TL.numL n from TL.tl_num n]
    have := TL.numL_len (n := n) hk (by simpa using h)
    omega
  | negSucc n =>
    rw [tl_neg, List.length_cons]
    have := TL.numL_len (n := n + 1) hk (by simpa using h)
    omega
/-- a number read: of how many figures -/
theorem figs_size {run : List Nat} {i : Int} (h : figs run = some i) : ∃ k, 0 < k ∧ k ≤ 40 ∧ k ≤ run.length ∧ i.natAbs < 10 ^ k := by
  unfold figs at h
  by_cases hb : run.take 1 = [45]
  · simp only [decide_eq_true hb, if_true, true_or, and_true] at h
    split at h
    · cases h
    · rename_i hn
      split at h
      · cases h
      · cases h
        have h1 : run.drop 1 ≠ [] := fun z => hn (.inl z)
        have h2 : ¬ 40 < (run.drop 1).length := fun z => hn (.inr (.inl z))
        have h3 : (run.drop 1).all isDig = true := by
          cases e : (run.drop 1).all isDig with
          | true => rfl
          | false => exact absurd (.inr (.inr e)) hn
        have := val_lt h3
        exact ⟨(run.drop 1).length, List.length_pos_iff.mpr h1, by omega, by rw [List.length_drop]; omega, by omega⟩
  · simp only [decide_eq_false hb, Bool.false_eq_true, if_false, false_or] at h
    split at h
    · cases h
    · rename_i hn
      split at h
      · cases h
      · cases h
        have h1 : run ≠ [] := fun z => hn (.inl z)
        have h2 : ¬ 40 < run.length := fun z => hn (.inr (.inl z))
        have h3 : run.all isDig = true := by
          cases e : run.all isDig with
          | true => rfl
          | false => exact absurd (.inr (.inr e)) hn
        have := val_lt h3
        exact ⟨run.length, List.length_pos_iff.mpr h1, by omega, Nat.le_refl _, by omega⟩
theorem fit_int {i : Int} {c k o : Nat} (h0 : 0 < k) (h1 : k ≤ 40) (h2 : k ≤ c) (h : i.natAbs < 10 ^ k) : Fit (.int i) c o := by
  refine ⟨rfl, ?_, ?_, Nat.zero_le _⟩
  · show decide (i.natAbs.log2 < 1920) = true
    rw [decide_eq_true]
    exact log_ok (Nat.lt_of_lt_of_le h (Nat.pow_le_pow_right (by decide) (by omega)))
  · have e : (PyData.int i).shown = Str.ofString (toString i) := rfl
    rw [e, TL.len_tl]
    have := int_text_len h0 h
    omega
theorem word_strOk {x : Str} (h : isWord (TL.tl x) = true) : PyData.strOk x = true := by
  obtain ⟨c, t, e2, _, ha⟩ := word_shape h
  unfold PyData.strOk
  rw [Array.all_eq_true']
  intro y hy
  have := ld_iff.mp (ha y (Array.mem_toList_iff.mpr hy))
  apply decide_eq_true
  omega
theorem fit_str {x : Str} {o : Nat} (h : isWord (TL.tl x) = true) : Fit (.str x) (TL.tl x).length o := by
  have e : (PyData.str x).shown = reprText x := rfl
  obtain ⟨c, t, e2, _, ha⟩ := word_shape h
  refine ⟨?_, rfl, ?_, Nat.zero_le _⟩
  · rw [PyData.canLay0]
    exact word_strOk h
  have h1 := StrLaws.reprText_len x fun c hc => by
    have := ld_iff.mp (ha c hc)
    have : (16 : Nat) ^ 8 = 4294967296 := by decide
    omega
  rw [e]
  rw [TL.len_tl x, e2, List.length_cons] at h1
  rw [e2, List.length_cons]
  omega
theorem fit_none {c o : Nat} (h : 1 ≤ c) : Fit .none c o := by
  refine ⟨rfl, rfl, ?_, Nat.zero_le _⟩
  have e : PyData.none.shown = Str.ofString "None" := rfl
  rw [e, TL.len_tl, TL.tl_ofString]
  show 4 + 2 ≤ _
  omega
theorem fit_atom {run : List Nat} {d : PyData} {o : Nat} (h : atomOf run = some d) : Fit d run.length o := by
  unfold atomOf at h
  split at h
  · rename_i e
    cases h
    rw [e]
    exact fit_none (Nat.le_refl _)
  · split at h
    · rename_i hw
      cases h
      exact fit_str (x := ⟨run.toArray⟩) hw
    · cases hf : figs run with
      | none => rw [hf] at h; cases h
      | some i =>
        rw [hf] at h
        cases h
        obtain ⟨k, h0, h1, h2, h3⟩ := figs_size hf
        exact fit_int h0 h1 h2 h3
theorem Fit.mono {d : PyData} {c c2 o o2 : Nat} (f : Fit d c o) (h : c ≤ c2) (h2 : o ≤ o2) : Fit d c2 o2 := ⟨f.lay, f.sh, by have := f.len; omega, Nat.le_trans f.dep h2⟩
theorem fit_both : ∀ n : Nat, (∀ r d r', rdv n r = some (.ok d r') → Fit d (r.length - r'.length) (opens r)) ∧
    (∀ acc r d r' c o, FitAll acc c o → opens r ≤ o → rdl n acc r = some (.ok d r') → Fit d (c + (r.length - r'.length) + 1) (o + 1))
  | 0 => ⟨fun _ _ _ h => (by rw [rdv] at h; cases h), fun _ _ _ _ _ _ _ _ h => (by rw [rdl] at h; cases h)⟩
  | n + 1 => by
    obtain ⟨ihv, ihl⟩ := fit_both n
    constructor
    · intro r d r' h
      by_cases h40 : r.take 1 = [40]
      · rw [pv_open h40] at h
        have e := take1_drop h40
        have l := pl_left h
        have f := ihl [] (r.drop 1) d r' 0 (opens (r.drop 1)) (fitAll_nil _) (Nat.le_refl _) h
        have l2 : r'.length < (r.drop 1).length := l.2
        have l3 : r.length = (r.drop 1).length + 1 := by conv => lhs; rw [e, List.length_cons]
        have l4 : opens r = opens (r.drop 1) + 1 := by
          conv => lhs; rw [e]
          unfold opens
          rw [List.count_cons]
          simp
        exact f.mono (by omega) (by omega)
      · cases ha : atomOf (runOf r) with
        | some d2 =>
          rw [pv_atom h40 ha] at h
          cases h
          have := runOf_le r
          exact (fit_atom ha).mono (by rw [List.length_drop]; omega) (Nat.le_refl _)
        | none =>
          rw [pv_none h40 ha] at h
          cases h
    · intro acc r d r' c o fa ho h
      by_cases h41 : r.take 1 = [41]
      · rw [pl_close h41] at h
        cases h
        have e := take1_drop h41
        have l3 : r.length = (r.drop 1).length + 1 := by conv => lhs; rw [e, List.length_cons]
        refine ⟨?_, ?_, ?_, ?_⟩
        · rw [PyData.canLay0]; exact fa.lay
        · rw [PyData.showable]; exact fa.sh
        · rw [PyData.shown]
          have h1 := tupleText_len (PyData.shownAll acc)
          have h2 := fa.len
          rw [shownAll_length] at h1
          omega
        · rw [PyData.depth]
          have := fa.dep
          omega
      · by_cases hb : acc ≠ [] ∧ r.take 1 ≠ [32]
        · rw [pl_bad h41 hb.1 hb.2] at h
          cases h
        · have hs : acc ≠ [] → r.take 1 = [32] := fun a => Classical.byContradiction fun b => hb ⟨a, b⟩
          rw [pl_item h41 hs] at h
          have hle : (if acc = [] then r else r.drop 1) <:+ r := by
            split
            · exact List.suffix_refl _
            · exact List.drop_suffix _ _
          generalize (if acc = [] then r else r.drop 1) = r0 at h hle
          cases hv : rdv n r0 with
          | none => rw [hv] at h; cases h
          | some q =>
            rw [hv] at h
            cases q with
            | bad r1 => cases h
            | ok d1 r1 =>
              have z := pv_left hv
              have z2 : rdl n (acc ++ [d1]) r1 = some (.ok d r') := h
              have y := pl_left z2
              have h1 := opens_suffix hle
              have h2 := opens_suffix z.1
              have f1 := (ihv r0 d1 r1 hv).mono (Nat.le_refl _) (show opens r0 ≤ o by omega)
              have f2 := ihl (acc ++ [d1]) r1 d r' _ o (fa.snoc f1) (by omega) z2
              have l1 := hle.length_le
              have l2 := z.2
              have l3 : r'.length < r1.length := y.2
              exact f2.mono (by omega) (Nat.le_refl _)
theorem fit_read {n : Nat} {r r' : List Nat} {d : PyData} (h : rdv n r = some (.ok d r')) : Fit d r.length (opens r) :=
  ((fit_both n).1 r d r' h).mono (by omega) (Nat.le_refl _)
end K9

set_option Elab.async false
set_option linter.all false
set_option maxRecDepth 100000
set_option maxHeartbeats 4000000
/- BadText(line, column): an own error whose __init__ hands both on to the base's by super() and keeps them. -/
namespace K9
namespace Bt
open PySem PySem.W PySem.Calls PyProof.Rows PySem.HandSPX
/-! ### the text of __init__ -/
def iA : Arguments := { posonlyargs := [], args := [{ arg := "self", annotation := none, pos := ⟨11, 17, 11, 21⟩ }, { arg := "line", annotation := none, pos := ⟨11, 23, 11, 27⟩ }, { arg := "column", annotation := none, pos := ⟨11, 29, 11, 35⟩ }], vararg := none, kwonlyargs := [], kw_defaults := [], kwarg := none, defaults := [] }
def iB : List Stmt :=
  [.Expr (.Call (.Attribute (.Call (.Name "super" ⟨12, 8, 12, 13⟩) [] [] ⟨12, 8, 12, 15⟩) "__init__" ⟨12, 8, 12, 24⟩) [.Name "line" ⟨12, 25, 12, 29⟩, .Name "column" ⟨12, 31, 12, 37⟩] [] ⟨12, 8, 12, 38⟩) ⟨12, 8, 12, 38⟩,
   .Assign [.Attribute (.Name "self" ⟨13, 8, 13, 12⟩) "line" ⟨13, 8, 13, 17⟩] (.Name "line" ⟨13, 20, 13, 24⟩) ⟨13, 8, 13, 24⟩,
   .Assign [.Attribute (.Name "self" ⟨14, 8, 14, 12⟩) "column" ⟨14, 8, 14, 19⟩] (.Name "column" ⟨14, 22, 14, 28⟩) ⟨14, 8, 14, 28⟩]
def iS : Scope := { kind := .function, names := [(PySem.Str.ofString "self", .local), (PySem.Str.ofString "line", .local), (PySem.Str.ofString "column", .local), (PySem.Str.ofString "__class__", .free), (PySem.Str.ofString "super", .globalImplicit)], isGenerator := false, isCoroutine := false, more := [] }
/-- what the written part says of the class at C, of its __init__ at fI -/
structure Txt (P : Program) (K : Frag) (mg : Str → Option Value) (C fI : Addr) : Prop where
  gC : mg "BadText" = some (.ref C)
  zs : mg "super" = none
  cls : ∃ nm q N bs bm sn sub ab col dd k0 k1 k2 k3 k5, K.lookup C = some (excClassObj nm q C N bs bm true sn sub ab col dd k0 k1 k2 k3 k5 "ValueError.__new__") ∧ refsVE bm = true ∧ alongIn K "__init__" bm = some (some (.builtin "ValueError.__init__"))
  sa : findIn K (.ref C) "__setattr__" = some (some (.builtin "object.__setattr__"))
  ga : findIn K (.ref C) "__getattribute__" = some (some (.builtin "BaseException.__getattribute__"))
  gg : findIn K (.ref C) "__getattr__" = some none
  noL : findIn K (.ref C) "line" = some none
  noC : findIn K (.ref C) "column" = some none
  iC : findIn K (.ref C) "__init__" = some (some (.ref fI))
  tC : typeIn K (.ref fI) = some (.type "function")
  kC : keepIn K (.ref C) = true
  exC : subIn K (.ref C) (.type "BaseException") = some true
  veC : subIn K (.ref C) (.type "ValueError") = some true
  tyC : typeIn K (.ref C) = some (.type "type")
  hdC : hasDictIn K C = true
  slf : mroIn K C (.ref C) = some true
  op : nsIn K cStatics "thirdparty.any" = some none
  top : (P.main.scope.names.lookup ("super" : Str)).isSome = false
  fn : ∃ (oc : Value) (od : Option Addr) (dV kV doc pm : Value) (an : Option Addr) (cda cc : Addr) (ct : Value) (osl : Array (Option Value)) (ccl cl : Value) (cdd cld : Option Addr) (vs : Array Value) (file : Str) (tf : Tok) (ccs csl : Array (Option Value)),
    K.lookup fI = some ⟨oc, od, .func (ksFn "__init__" "BadText.__init__" iA iB iS .none .none doc pm an (.ref cda) ct cc), osl⟩ ∧ codeIn K (.ref cda) "BadText.__init__" = true ∧
    K.lookup cda = some ⟨ccl, cdd, .fields vs, ccs⟩ ∧ vs[2]? = some (.str file tf) ∧ ((P.main.file : Str) == file) = true ∧ K.lookup cc = some ⟨cl, cld, .cell (some (.ref C)), csl⟩
theorem iS_cell : ∀ x ∈ iS.names, x.2 ≠ .cell := by decide
theorem binds_loc (a b c : Value) : ∀ x ∈ [(("self" : Str), a), (("line" : Str), b), (("column" : Str), c)], iS.names.lookup x.1 = some .local := by
  intro x hx
  rcases List.mem_cons.mp hx with rfl | hx
  · rfl
  rcases List.mem_cons.mp hx with rfl | hx
  · rfl
  rcases List.mem_cons.mp hx with rfl | hx
  · rfl
  cases hx
theorem two_size (u v : Value) : [u, v].length ≤ sizeLine := by
  rw [sizeLine_eq]
  exact (by decide : 2 ≤ 16777216)
theorem ldl {M : Model} {s : Shared} {env : Env} {m : Str → Option Value} {x : Str} {pos : Pos} {v : Value} {Q : Value → Shared → Prop} {A : Around} {E : Value → Shared → Prop} (hn : s.heap.Ns env.locals m) (hv : m x = some v) (h : Q v s)
    (hk : env.scope.kind = .function := by rfl) (hl : env.kindOf x = some .local := by rfl) (hd : (x == ("__debug__" : Str)) = false := by decide) :
    wpAny M A (eval (.Name x pos) env) Q E s := wpAny_Name (wpAny_loadName_local hk hl hn hv h) hd
/-- what __init__ leaves of a fresh exception at x -/
structure InitEnd (h h' : Heap) (x C dx t1 : Addr) (u v : Value) : Prop where
  keep : ∀ b o, b ≠ x → h.get? b = some o → h'.get? b = some o
  obj : h'.get? x = some { cls := .ref C, dict := some dx, data := .fields #[.ref t1, .none, .none, .none, .bool false, .none] }
  dbig : h.objs.size ≤ dx
  dne : dx ≠ x
  ns : h'.Ns1 dx (fun y => if y = "column" then some v else if y = "line" then some u else none)
/-- the bound built-in __init__ called -/
theorem call_bound {prog : Program} {w : World} {A : Around} {E : Value → Shared → Prop} {h : Heap} {g : Array GenState} {d : Drawn} {t : Nat} {os : OsState} {nm q : Str} {C N : Addr} {bs bm : List Value} {hdct : Bool} {sn : List Str} {sub : List Value} {ab : Bool} {col : Option Bool} {dd : Option Addr} {k0 k1 k2 k3 k5 : Option Value}
    {u e t0 : Addr} {rest : List Value} {Q : Value → Shared → Prop}
    (hC : h.get? C = some (excClassObj nm q C N bs bm hdct sn sub ab col dd k0 k1 k2 k3 k5 "ValueError.__new__")) (he : h.get? e = some (excO C t0)) (hu : h.get? u = some (kxs_mw "ValueError.__init__" e)) (hrest : rest.length ≤ sizeLine)
    (hq : ∀ h' t1, (∀ b o, b ≠ e → h.get? b = some o → h'.get? b = some o) → h'.get? e = some (excO C t1) → Q .none ⟨h', g, d, t, os⟩) :
    wpAny (model prog w) A (call (.ref u) rest) Q E ⟨h, g, d, t, os⟩ := by
  refine wpAny_call (codeAny_of_tree ?_)
  show wpAny _ A.in1 (callAny (.ref u) ⟨rest, []⟩) _ _ _
  simp only [callAny]
  refine wpAny_bind (wpAny_load hu ?_)
  simp only [kxs_mw, show (Value.type "method-wrapper" == Value.type "method" || Value.type "method-wrapper" == Value.type "builtin_function_or_method" || Value.type "method-wrapper" == Value.type "method-wrapper") = true by decide, if_true]
  refine KFB.if_so (by decide) ?_
  refine wpAny_bind (check_bound_init F.excBase_ValueError.toExcCallFacts hC he rfl ?_)
  refine wpAny_bind (wpAny_pure (wpAny_pure ?_))
  refine ⟨plainId_quiet F.excBase_ValueError.init.plain _, codeAny_builtin F.excBase_ValueError.initEntry ?_⟩
  exact exc_init_tree (cls := .ref C) (t0 := t0) (dv := none) (c2 := .none) (c3 := .none) (b4 := .bool false) he hrest fun h' k e' _ => hq h' _ k e'
section
variable {prog : Program} {w : World} {A : Around} {E : Value → Shared → Prop} {R : Result → Shared → Prop} {s : Shared} {K : Frag} {mg mb : Str → Option Value} {C fI : Addr}
theorem init_ok (T : Txt prog K mg C fI) {x t0 : Addr} {v1 v2 : Value} (X : K.In s.heap) (hg : s.heap.Ns mainGlobals mg) (hb : s.heap.Ns builtinsNs mb) (hbs : mb "super" = some (.type "super")) (hlim : s.heap.NoLimit) (hx : s.heap.get? x = some (excO C t0)) (hnx : K.lookup x = none) (hroom : A.depth < recursionLimit)
    (hq : ∀ h' tk dx t1, InitEnd s.heap h' x C dx t1 v1 v2 → R (.ok (.ret .none)) { s with heap := h', toks := tk }) :
    codeAny (model prog w) A (.call (.ref fI) ⟨[.ref x, v1, v2], []⟩) R s := by
  obtain ⟨oc, od, dV, kV, doc, pm, an, cda, cc, ct, osl, ccl, cl, cdd, cld, vs, file, tf, ccs, csl, ho, hcd, hcode, hvs, hfile, hcell⟩ := T.fn
  obtain ⟨nm, q, N, bs, bm, sn, sub, ab, col, dd, k0, k1, k2, k3, k5, hC, hbm, hal⟩ := T.cls
  have hcl : clsIn K C = some { name := nm, bases := bs, mro := .ref C :: bm, ns := N, qualname := q, hasDict := true, slotNames := sn, subclasses := sub, abstract := ab, collection := col, hasDel := false } := by unfold clsIn; rw [hC] <;> rfl
  have hxC : x ≠ C := fun z => by rw [z, hC] at hnx; cases hnx
  refine ks_codeAny_call_defAt (fd := ksFn "__init__" "BadText.__init__" iA iB iS .none .none doc pm an (.ref cda) ct cc) (binds := [("self", .ref x), ("line", v1), ("column", v2)])
    hroom (X _ _ ho) rfl hlim (codeRec_of X hcd) rfl (BindsTo.of_eq (by first | rfl | with_unfolding_all rfl)) iS_cell (binds_loc _ _ _) (fun h₁ hn k => ?_) rfl rfl rfl
  have hxL : s.heap.objs.size ≠ x := Nat.ne_of_gt (Heap.lt_size hx)
  have X₁ : K.In h₁ := X.keeps k
  have hx₁ := k _ _ hx
  have gl₁ : h₁.Ns mainGlobals mg := hg.at fun o e => k _ _ e
  have bl₁ : h₁.Ns builtinsNs mb := hb.at fun o e => k _ _ e
  obtain ⟨hp0, g, d, tk, os⟩ := s
  -- super().__init__(line, column)
  refine ks_wpAt_execs_cons (ks_wpAt_Expr_any (ks_wpAt_MethodCall (ks_wpAt_super_base (env := ksEnv "BadText.__init__" iS hp0.objs.size fI (.ref cda) cc) (ar := { arg := "self", annotation := none, pos := ⟨11, 17, 11, 21⟩ }) rfl rfl rfl rfl (X₁ _ _ ho) rfl rfl rfl (X₁ _ _ hcode) rfl hvs hfile T.top ?_)))
  refine ks_loadName_global rfl rfl (loadGlobal_builtin gl₁ T.zs bl₁ hbs ⟨rfl, ?_⟩)
  refine wpAny_loadName_free rfl rfl rfl ⟨_, X₁ _ _ hcell, rfl⟩ ?_
  refine wpAny_loadName_local rfl rfl hn (v := .ref x) (by first | rfl | with_unfolding_all rfl | kernel_rfl) ?_
  have hCo := X₁ _ _ hC
  refine ks_wpAny_isType_cls hCo rfl ⟨rfl, ?_⟩
  refine ks_wpAny_call_super hCo rfl hx₁ rfl (fun c e => by cases e) (looks_mroIn X₁ T.slf) (fun h₂ hso k₂ => ?_)
  have X₂ : K.In h₂ := X₁.keeps k₂
  have I₂ : InstAt h₂ x (excO C t0) C none := ⟨k₂ _ _ hx₁, rfl, rfl, trivial⟩
  refine kxs_getMethod (K := K) kxs_ValueError (l₀ := .ref C :: bm) (l := bm) hso (looks_opaque X₂ T.op) ((looks_clsIn X₂ hcl).andThen .now) (by simp [List.dropWhile_cons]) X₂ hal (I₂.type.andThen (looks_subIn X₂ T.veC)) hxC rfl ?_
  have n₂ : h₂.Ns hp0.objs.size _ := hn.at fun o e => k₂ _ _ e
  have k₃ : ∀ b o, h₂.get? b = some o → (h₂.push (kxs_mw "ValueError.__init__" x)).get? b = some o := fun b o e => Heap.get?_push_of_some _ e
  have n₃ : (h₂.push (kxs_mw "ValueError.__init__" x)).Ns hp0.objs.size _ := n₂.at fun o e => k₃ _ _ e
  have hu : (h₂.push (kxs_mw "ValueError.__init__" x)).get? h₂.objs.size = some (kxs_mw "ValueError.__init__" x) := Heap.get?_push_at rfl rfl
  refine kxs_callWith (i := "ValueError.__init__") (x := x) rfl (evalArgs_plain ?_)
  refine spliced_cons (ldl (v := v1) n₃ (by first | rfl | with_unfolding_all rfl | kernel_rfl) ?_)
  refine spliced_cons (ldl (v := v2) n₃ (by first | rfl | with_unfolding_all rfl | kernel_rfl) ?_)
  refine spliced_nil ⟨hu, ?_⟩
  have X₃ : K.In (h₂.push (kxs_mw "ValueError.__init__" x)) := X₂.keeps k₃
  refine call_bound (X₃ _ _ hC) (k₃ _ _ (k₂ _ _ hx₁)) hu (two_size _ _) (fun h₄ t1 k₄ hx₄ => ?_)
  have kk : ∀ b o, b ≠ x → h₁.get? b = some o → h₄.get? b = some o := fun b o hb e => k₄ b o hb (k₃ _ _ (k₂ _ _ e))
  have X₄ : K.In h₄ := fun b o e => kk b o (fun z => by rw [z, hnx] at e; cases e) (X₁ _ _ e)
  have n₄ : h₄.Ns hp0.objs.size _ := hn.at fun o e => kk _ _ hxL e
  -- self.line = line
  refine wpAt_of_wpAny (wpAny_execs_cons (plainObj_wpAny_Assign_Attribute ?_))
  refine ldl (v := v1) n₄ (by first | rfl | with_unfolding_all rfl | kernel_rfl) (ldl (v := .ref x) n₄ (by first | rfl | with_unfolding_all rfl | kernel_rfl) ?_)
  refine set_plain X₄ (ox := excO C t1) (od := none) ⟨hx₄, rfl, rfl, trivial⟩ T.sa ?_
  refine exc_osa X₄ hx₄ hcl (show refsVE (.ref C :: bm) = true from hbm) rfl T.noL (fun h₅ tk₅ dx k₅ dn dne hx₅ hn₅ => ?_)
  have X₅ : K.In h₅ := fun b o e => k₅ b o (fun z => by rw [z, hnx] at e; cases e) (X₄ _ _ e)
  have n₅ : h₅.Ns hp0.objs.size _ := n₄.at fun o e => k₅ _ _ hxL e
  -- self.column = column
  refine wpAny_execs_cons (plainObj_wpAny_Assign_Attribute ?_)
  refine ldl (v := v2) n₅ (by first | rfl | with_unfolding_all rfl | kernel_rfl) (ldl (v := .ref x) n₅ (by first | rfl | with_unfolding_all rfl | kernel_rfl) ?_)
  have hw : Within (fun y => if y = "line" then some v1 else none) ["line"] := fun y hy => by
    by_cases e : y = "line"
    · exact List.mem_singleton.mpr e
    · exact absurd (if_neg e) hy
  obtain ⟨oD, _, _, hoD, _, _⟩ := hn₅.count hw
  refine set_plain X₅ (ox := { cls := .ref C, dict := some dx, data := .fields #[.ref t1, .none, .none, .none, .bool false, .none] }) (od := some oD) ⟨hx₅, rfl, rfl, hoD⟩ T.sa ?_
  refine PySem.OEX.osa_old X₅ hx₅ hn₅ hw (by decide) hcl (show refsVE (.ref C :: bm) = true from hbm) rfl T.noC (fun h₆ tk₆ k₆ hn₆ => ?_)
  refine wpAny_execs_nil (hq h₆ tk₆ dx t1 ⟨fun b o hb e => ?_, ?_, ?_, dne, hn₆⟩)
  · have e1 := k b o e
    have e4 := kk b o hb e1
    have z : b < h₄.objs.size := Heap.lt_size e4
    exact k₆ b o (Nat.ne_of_lt (Nat.lt_of_lt_of_le z dn)) (k₅ b o hb e4)
  · exact k₆ x _ (Ne.symm dne) hx₅
  · refine Nat.le_trans ?_ dn
    have z : hp0.objs.size < h₄.objs.size := n₄.lt
    exact Nat.le_of_lt z
end
end Bt
end K9

set_option Elab.async false
set_option linter.all false
set_option maxRecDepth 100000
set_option maxHeartbeats 4000000
/- BadText(e1, e2) and Nothing() as exceptions made. -/
namespace K9
namespace Bt
open PySem PySem.W PySem.Calls PyProof.Rows PySem.HandSPX
/-- a made BadText -/
structure Made (h h' : Heap) (e C d : Addr) (u v : Value) : Prop where
  keep : ∀ b o, h.get? b = some o → h'.get? b = some o
  new : h.objs.size ≤ e
  obj : ∃ oe vs, h'.get? e = some oe ∧ oe.cls = .ref C ∧ oe.dict = some d ∧ oe.data = .fields vs ∧ vs[1]? = some .none
  dbig : h.objs.size ≤ d
  dne : d ≠ e
  ns : h'.Ns1 d (fun y => if y = "column" then some v else if y = "line" then some u else none)
section
variable {prog : Program} {w : World} {A : Around} {E : Value → Shared → Prop} {R : Result → Shared → Prop} {s : Shared} {K : Frag} {mg mb : Str → Option Value} {C fI : Addr}
theorem made_ok (T : Txt prog K mg C fI) {v1 v2 : Value} (X : K.In s.heap) (hg : s.heap.Ns mainGlobals mg) (hb : s.heap.Ns builtinsNs mb) (hbs : mb "super" = some (.type "super")) (hlim : s.heap.NoLimit) (hroom : A.depth + 1 < recursionLimit)
    (hq : ∀ h' tk e d, Made s.heap h' e C d v1 v2 → R (.ok (.ret (.ref e))) { s with heap := h', toks := tk }) :
    codeAny (model prog w) A (.call (.ref C) ⟨[v1, v2], []⟩) R s := by
  obtain ⟨nm, q, N, bs, bm, sn, sub, ab, col, dd, k0, k1, k2, k3, k5, hC, hbm, hal⟩ := T.cls
  obtain ⟨hp, g, dr, tk, os⟩ := s
  have k : ∀ b o, hp.get? b = some o → ((hp.push (kdv_tup [v1, v2])).push (excO C hp.objs.size)).get? b = some o := fun b o e => Heap.get?_push_of_some _ (Heap.get?_push_of_some _ e)
  have hget : ((hp.push (kdv_tup [v1, v2])).push (excO C hp.objs.size)).get? (hp.objs.size + 1) = some (excO C hp.objs.size) := by heap_get
  have hnx : K.lookup (hp.objs.size + 1) = none := by
    cases e : K.lookup (hp.objs.size + 1) with
    | none => rfl
    | some o =>
      have z : hp.get? (hp.objs.size + 1) = some o := X _ _ e
      exact absurd (Nat.lt_of_succ_lt (Heap.lt_size z)) (Nat.lt_irrefl _)
  refine call_own F.excBase_ValueError (fun Y => refsVE_contains Y bm hbm) (X _ _ hC) (looks_findIn X T.iC) (fun self => bind_fn X self T.tC) (two_size v1 v2) ?_
  refine init_ok (s := ⟨(hp.push (kdv_tup [v1, v2])).push (excO C hp.objs.size), g, dr, tk, os⟩) T (X.keeps k) (hg.at fun o e => k _ _ e) (hb.at fun o e => k _ _ e) hbs (hlim.keeps k) hget hnx ?_ fun h' tk' dx t1 Z => ?_
  · show A.depth + 1 < recursionLimit
    exact hroom
  · have old : ∀ b o, hp.get? b = some o → h'.get? b = some o := fun b o e => Z.keep b o (Nat.ne_of_lt (Nat.lt_succ_of_lt (Heap.lt_size e))) (k b o e)
    have z : hp.objs.size + 1 + 1 ≤ dx := by
      have q := Z.dbig
      first
        | (simpa only [Heap.size_push] using q)
        | exact q
        | (rw [Heap.size_push, Heap.size_push] at q; exact q)
    exact ⟨rfl, hq h' tk' (hp.objs.size + 1) dx ⟨old, Nat.le_succ _, ⟨_, _, Z.obj, rfl, rfl, rfl, rfl⟩, Nat.le_trans (Nat.le_trans (Nat.le_succ _) (Nat.le_succ _)) z, Z.dne, Z.ns⟩⟩
end
end Bt
end K9
namespace K9
open PySem PySem.Spec PyProof.Rows L2
/-- the fields of a BadText -/
abbrev btFs (x y : V) : List (Str × V) := [("column", y), ("line", x)]
section
variable {X : Cx} {C fI : Addr}
def tMkBt (C : Addr) (ta : TA) : L2.St → Hp → XK → Prop := fun σ H Q => ta σ H fun vs H1 => ∃ x y, vs = [x, y] ∧ ∀ d, H1 d = none → Q (.ref C) (some d) (upd H1 d (.xd (btFs x y)))
theorem pmk_bt {e1 e2 : Expr} {ta : TA} {p pos : Pos} {k : Nat} (T : Bt.Txt X.prog X.K X.mg C fI) (hr : Room k X.A) (ha : PA X [e1, e2] ta) (hg : Gl X "BadText" := by rfl)
    (he : starEach (e1 :: [e2]) X.env = (false, eval e1 X.env) :: starEach [e2] X.env := by rfl) (hpl : (backTo pos (starEach [e2] X.env)).any (·.1) = false := by rfl) :
    PMk X (.Call (.Name "BadText" p) [e1, e2] [] pos) (tMkBt C ta) := by
  intro pins s σ H Q I h
  refine wpAny_Call_Name_kw (ld_glob I hg T.gC ?_)
  refine PySem.W.callWith_K (h₀ := X.base) I.ok.mod.kin T.kC (thn (ha.run pos pins s σ H _ I h) fun us s1 hh => ?_) he hpl
  obtain ⟨vs, H1, I1, r1, x, y, ev, q1⟩ := hh
  subst ev
  refine ⟨I1.kIn, ?_⟩
  cases r1 with
  | @cons _ u1 _ _ rx r2 =>
    cases r2 with
    | @cons _ u2 _ _ ry rn =>
      cases rn
      show wpAny _ _ (call (.ref C) [u1, u2]) _ _ _
      have hlim := I1.nolimit
      obtain ⟨mb, hmb, hbb⟩ := I1.ok.mod.blt
      have gl := I1.ok.mod.glob
      have bk := I1.bk
      obtain ⟨hp, g, dr, tk, os⟩ := s1
      refine wpAny_call (Bt.made_ok T I1.kIn (gl.at fun o e => bk _ _ e) (hmb.at fun o e => bk _ _ e) ((hbb _ (by decide)).trans (by decide +kernel)) hlim (by have := hr.dp; omega) fun h' tk' e d M => ?_)
      show MkP X pins σ Q (.ref e) ⟨h', g, dr, tk', os⟩
      obtain ⟨oe, fv, hoe, hc, hd, hdat, h1⟩ := M.obj
      have hns := M.ns
      obtain ⟨G', g1, g2⟩ := restrict h' fun b => decide (b ≠ e)
      have gk : ∀ b, b ≠ e → G'.get? b = h'.get? b := fun b hb => g1 b (decide_eq_true hb)
      have ge : G'.get? e = none := g2 e (by simp)
      have old : ∀ b o, hp.get? b = some o → G'.get? b = some o := fun b o q => (gk b (Nat.ne_of_lt (Nat.lt_of_lt_of_le (Heap.lt_size q) M.new))).trans (M.keep b o q)
      have ob : ObjOk X.prog X.w (upd H1 d (.xd (btFs x y))) G' d (.xd (btFs x y)) :=
        ⟨_, hns.at (fun o q => (gk d M.dne).trans q), fun f => relO_put ry (relO_put (fs := []) (mA := fun _ => none) rx fun _ => True.intro) f⟩
      have J : Inv X pins σ (upd H1 d (.xd (btFs x y))) ⟨G', g, dr, tk', os⟩ := I1.laid (t' := tk') old M.dbig ob
      refine ⟨e, oe, fv, ⟨G', g, dr, tk', os⟩, _, .ref C, some d, rfl, J, fun b o q => ?_, ge, hoe, ⟨hc, hd⟩, hdat, h1, ?_, rfl, I1.bare, raises_own T.exC T.tyC, q1 d (I1.hok.fresh M.dbig)⟩
      · by_cases hb : b = e
        · have q' : G'.get? b = some o := q
          rw [hb, ge] at q'; cases q'
        · exact (gk b hb).symm.trans q
      · rw [upd_ne (Ne.symm M.dne)]
        exact I1.hok.fresh M.new
/-- X(), an own class without __init__ -/
theorem pmk_own0 {bmB : List Value} {B newId initId : String} {x : Str} {p pos : Pos} (F : ExcBaseFacts B newId initId bmB) (q : PySem.W.excIn X.K C bmB newId = true) (gC : X.mg x = some (.ref C)) (kC : PySem.W.keepIn X.K (.ref C) = true) (r : Raises X (.ref C)) (hg : Gl X x)
    (hdb : (x == ("__debug__" : Str)) = false := by decide) : PMk X (.Call (.Name x p) [] [] pos) (fun _ H Q => Q (.ref C) none H) := by
  intro pins s σ H Q I h
  refine wpAny_Call_Name_kw (ld_glob I hg gC ?_ hdb)
  refine PySem.W.callWith_K0 I.kIn kC ?_
  show wpAny _ _ (call (.ref C) []) _ _ _
  obtain ⟨bm, N, nm, qn, bs, hdct, sn, sub, ab, col, dd, k0, k1, k2, k3, k5, mN, hC, hN, hni, T⟩ := exc_obj I.kIn q
  refine wpAny_call_exc_subT F T hC hN hni (fun h' e hm => ?_) (Nat.zero_le _)
  exact mk_of I hm r h (I.hok.gone hm.new)
end
end K9

set_option Elab.async false
set_option linter.all false
set_option maxRecDepth 100000
set_option maxHeartbeats 4000000
/- K98: further rules: repr of data (where no repr is under way), o[i] of a list in an augmented store, a def's promise where no repr is under way. -/
namespace K9
open PySem PySem.Spec PyProof.Rows L2
section
variable {X : Cx}
/-- o[i] of a list, for an augmented store -/
def rGetL (K : PySem.W.Frag) : V → V → Hp → VK → Prop := fun o i H Q => ∃ (p : Addr) (xs : List V) (j : Nat) (v : V), o = .ref p ∧ i = .int j ∧ j < 1000 ∧ SqL K H p xs ∧ xs[j]? = some v ∧ Q v H
theorem get_list : PGet X (rGetL X.K) := by
  intro pins s σ H o i ov iv Q I ro ri h
  obtain ⟨p, xs, j, v, rfl, rfl, hj, hS, hx, q⟩ := h
  cases ro
  obtain ⟨t, rfl⟩ := ri
  obtain ⟨its, r, pl, hz⟩ := I.list hS
  obtain ⟨u, hu, ru⟩ := r.get hx
  exact wpAny_getItem_list pl.isList (Int.natCast_nonneg j) (by omega) (by simpa using hu) ⟨v, H, I, ru, q⟩
/-- repr of data, no repr being under way -/
def rReprD (K : PySem.W.Frag) : List V → Hp → VK → Prop := fun xs H Q => ∃ (v : V) (d : PyData), xs = [v] ∧ Dp K H v d ∧ d.canLay0 = true ∧ d.showable = true ∧ d.depth ≤ 64 ∧ d.shown.length ≤ sizeLine ∧ Q (.str d.shown) H
theorem call_reprD {k : Nat} (hg : X.A.guards = some []) (hr : Room k X.A) : CallR X (.builtin "repr") (rReprD X.K) := by
  intro pins s σ H xs us Q I r h
  obtain ⟨v, d, rfl, hd, hl, hs, hdp, hz, q⟩ := h
  obtain ⟨u, rfl, ru⟩ := vals1 r
  have hun := hr.un
  cases hd with
  | non =>
    cases ru
    exact PySem.P.repr_of_none ⟨.str _, H, I.tok _, ⟨_, rfl⟩, q⟩
  | bl b =>
    cases ru
    exact PySem.P.repr_of_bool ⟨.str _, H, I.tok _, ⟨_, rfl⟩, q⟩
  | int i =>
    obtain ⟨t, rfl⟩ := ru
    exact PySem.P.repr_of_int (of_decide_eq_true hs) ⟨.str _, H, I.tok _, ⟨_, rfl⟩, q⟩
  | str x =>
    obtain ⟨t, rfl⟩ := ru
    exact PySem.P.repr_of_str ⟨.str _, H, I.tok _, ⟨_, rfl⟩, q⟩ hz
  | lst h1 h2 =>
    cases ru
    obtain ⟨as, rd⟩ := Dp.reads I _ _ _ (Dp.lst h1 h2) (show RelV (.ref _) _ from rfl)
    refine repr_of_reads' rd hs (fun z => ?_) hg (by omega) (fun _ _ e => e) (fun h' u tk k => ⟨.str _, H, I.kept (t' := tk) k, ⟨_, rfl⟩, q⟩) hz
    rw [PyData.hasDict_of_canLay _ hl] at z
    cases z
  | tup h1 h2 =>
    cases ru
    obtain ⟨as, rd⟩ := Dp.reads I _ _ _ (Dp.tup h1 h2) (show RelV (.ref _) _ from rfl)
    refine repr_of_reads' rd hs (fun z => ?_) hg (by omega) (fun _ _ e => e) (fun h' u tk k => ⟨.str _, H, I.kept (t' := tk) k, ⟨_, rfl⟩, q⟩) hz
    rw [PyData.hasDict_of_canLay _ hl] at z
    cases z
end

/-! ### a def's promise where no repr is under way -/
structure FnG (P : Program) (w : World) (K : PySem.W.Frag) (mg : Str → Option Value) (base : Heap) (CX : CXT) (k : Nat) (f : Addr) (fd : FuncData) (ps : List Str) (sp : Sp) : Prop where
  len : ∀ vs H Q E, sp vs H Q E → vs.length = ps.length
  run : ∀ (A : Around), A.guards = some [] → ∀ (outer : List Env) (s : Shared) (H : Hp) (args : Args) (us : List Value) (vs : List V) (Q : VK) (E : XK), Room k A → Env0 P w K mg base A outer s H → BindsTo s fd args (ps.zip us) → Vals vs us → sp vs H Q E →
    codeAny (model P w) A (.call (.ref f) args) (CR CX outer P w H s Q E) s
theorem fun_okG {P : Program} {w : World} {K : PySem.W.Frag} {mg : Str → Option Value} {base : Heap} {x qual : Str} {st : Stmt} {f : Addr} {fd : FuncData} {N ps : List Str} {k : Nat} {sp : Sp} (F : Fun K x qual st f fd) (S : FnScope N ps (defScope st))
    (len : ∀ vs H Q E, sp vs H Q E → vs.length = ps.length)
    (hbody : ∀ (cdv : Value) (A : Around), A.guards = some [] → ∀ (outer : List Env) (s : Shared) (H : Hp) (vs : List V) (Q : VK) (E : XK), Room k (A.deeper (envOfC qual (defScope st) s.heap.objs.size f cdv)) → sp vs H Q E →
      ∃ t, PSs (cxOf CX0 P w K mg base N qual (defScope st) f cdv A outer s H E) (defBody st) t ∧ t { nx := fun _ H' => Q .non H', rt := Q } (start N vs) H) : FnG P w K mg base CX0 (k + 1) f fd ps sp := by
  obtain ⟨oc, od, kV, doc, pm, an, cdv, ct, osl, rfl, lk, hcd⟩ := F.ex
  refine ⟨len, fun A hg outer s H args us vs Q E hr e0 hb r hsp => ?_⟩
  have hN := len _ _ _ _ hsp
  have kept : ∀ b o, base.get? b = some o → s.heap.get? b = some o := fun b o e => (e0.bs b o e).1
  have KX : K.In s.heap := e0.mod.kin.keeps kept
  have kinds : ∀ y ∈ ps.zip us, (defScope st).names.lookup y.1 = some .local ∨ ((defScope st).names.lookup y.1 = some .cell ∧ ((cellsFrom (s.heap.objs.size + 1) (defScope st).names []).lookup y.1).isSome = true) := by
    rintro ⟨n, v⟩ hy
    rcases S.par n (List.of_mem_zip hy).1 with z | z
    · exact .inl z
    · exact .inr ⟨z, PySem.W.cellsFrom_some _ _ _ (.inl z)⟩
  refine codeAny_call_function hr.depth (KX _ _ lk) rfl S.co S.gen rfl (PySem.W.codeRec_of KX hcd) (hb _ _ _ _ (wpAny_newFunctionEnv_cells S.kind kinds fun env he s1 ic => ?_))
  subst he
  refine ⟨(e0.mod.nolimit.keeps kept).keeps ic.toInCall.keep, codeAny_func ?_⟩
  obtain ⟨t, ht, hq⟩ := hbody cdv A hg outer s H vs Q E (hr.deeper _) hsp
  have J0 := inv_start (CX := CX0) (E := E) (qual := qual) (f := f) (cd := cdv) (outer := outer) (mg := mg) S hr.hd e0 hN r ic
  refine wpAny_mono (ht.run [] s1 (start N vs) H _ J0 hq) (fun fl s' hs => ?_) fun _ _ z => z
  cases fl with
  | next =>
    obtain ⟨σ', H', J, q⟩ := hs
    exact ⟨.non, H', J.os, J.bare, J.base, J.hok, rfl, q⟩
  | ret u =>
    obtain ⟨v, σ', H', J, rv, q⟩ := hs
    exact ⟨v, H', J.os, J.bare, J.base, J.hok, rv, q⟩
  | brk =>
    obtain ⟨_, _, _, q⟩ := hs
    exact q.elim
  | cont =>
    obtain ⟨_, _, _, q⟩ := hs
    exact q.elim
section
variable {X : Cx} {CX : CXT} {k : Nat} {f : Addr} {fd : FuncData} {ps : List Str} {sp : Sp} {E : XK} {x : Str} {p pos : Pos} {e : Expr} {es : List Expr} {t : TA}
/-- f(..) where no repr is under way -/
theorem pe_callG (G : FnG X.prog X.w X.K X.mg X.base CX k f fd ps sp) (hgd : X.A.guards = some []) (hr : Room k X.A) (hg : Gl X x) (hm : X.mg x = some (.ref f)) (hk : PySem.W.keepIn X.K (.ref f) = true) (hb : Binds X.K fd ps []) (hx : Passes CX X E)
    (ha : PA X (e :: es) t) (hdb : (x == ("__debug__" : Str)) = false := by decide) (he : starEach (e :: es) X.env = (false, eval e X.env) :: starEach es X.env := by rfl) (hpl : (backTo pos (starEach es X.env)).any (·.1) = false := by rfl) :
    PE X (.Call (.Name x p) (e :: es) [] pos) (tCall sp [] E t) := by
  refine ⟨fun pins s σ H Q I h => wpAny_Call_Name_kw (ld_glob I hg hm ?_ hdb)⟩
  refine PySem.W.callWith_K (h₀ := X.base) I.ok.mod.kin hk (thn (ha.run pos pins s σ H _ I h) fun us s1 ⟨vs, H1, I1, r, q⟩ => ⟨I1.kIn, ?_⟩) he hpl
  have q' : sp vs H1 Q E := by
    have z : sp (vs ++ []) H1 Q E := q
    rwa [List.append_nil] at z
  have hl : us.length = ps.length := r.length.symm.trans (G.len _ _ _ _ q')
  have hbb := hb s1 us I1.kIn (by rw [List.append_nil]; exact hl)
  rw [List.append_nil] at hbb
  refine wpAny_call (codeAny_mono (G.run X.A hgd X.stack s1 H1 ⟨us, []⟩ us vs Q E hr I1.env0 hbb r q') fun res s' hq => ?_)
  cases res with
  | error e => exact hx pins σ H1 s1 e s' I1 hq
  | ok fl =>
    cases fl with
    | ret u => exact I1.after hq
    | next => exact False.elim hq
    | brk => exact False.elim hq
    | cont => exact False.elim hq
end
/-! ### the law's call, from such a promise -/
section
variable {P : Program} {w : World} {K : PySem.W.Frag} {mg mb : Str → Option Value} {CX : CXT} {k : Nat} {fa a : Addr} {fd : FuncData} {x : Str} {sp : Sp} {s₁ : Shared} {vs : List Value} {ns : List Int}
theorem law_from (KX : K.In s₁.heap) (hns : s₁.heap.Ns mainGlobals mg) (hb : s₁.heap.Ns builtinsNs mb) (hbb : ∀ x : Str, x ≠ "__name__" → mb x = bootBuiltins x) (hlim : s₁.heap.NoLimit) (hgn : s₁.gens = #[])
    (ha : s₁.heap.get? a = some { cls := .type "list", data := .seq vs.toArray }) (hr : Room k callerA)
    (G : ∀ base : Heap, K.In base → base.Ns mainGlobals mg → FnG P w K mg base CX k fa fd [x] sp) (hbind : ∀ (s : Shared) (u : Value), BindsTo s fd ⟨[u], []⟩ [(x, u)])
    (hsp : ∀ H : Hp, Only H → SqL K H a (ns.map V.int) → sp [.ref a] H (fun v _ => v = .bl true) fun _ _ _ => False) (hCX : ∀ H e s', CX [] H s₁ (fun _ _ _ => False) e s' → False)
    (H : Hp) (hO : Only H) (hS : SqL K H a (ns.map V.int)) (ok : HOk P w H s₁.heap) (only : ∀ b, H b ≠ none → b = a) (apart : H a ≠ none → K.lookup a = none) :
    codeAny (model P w) callerA (.call (.ref fa) ⟨[.ref a], []⟩) (fun r s' => r = .ok (.ret (.bool true)) ∧ OldK s₁.heap s'.heap ∧ s'.os = s₁.os ∧ AllBare s'.gens) s₁ := by
  have none_or : ∀ b : Addr, H b = none ∨ b = a := fun b => by
    by_cases z : H b = none
    · exact .inl z
    · exact .inr (only b z)
  have dictFree : ∀ {b : Addr} {o : Obj} {es : Array DictEntry} {ep : Nat}, s₁.heap.get? b = some o → o.data = .dict es ep → H b = none := by
    intro b o es ep e d
    rcases none_or b with z | z
    · exact z
    · subst z
      rw [ha] at e
      cases e
      cases (show Data.seq vs.toArray _ = Data.dict es ep from d)
  have ns' : ∀ {b : Addr} {m : Str → Option Value}, s₁.heap.Ns b m → (hidT s₁.heap H).Ns b m := by
    rintro b m ⟨o, es, ep, e, d, r⟩
    exact ⟨o, es, ep, hidT_get e (dictFree e d), d, r⟩
  have kin : K.In (hidT s₁.heap H) := by
    intro b o e
    refine hidT_get (KX b o e) ?_
    rcases none_or b with z | z
    · exact z
    · subst z
      by_cases y : H b = none
      · exact y
      · rw [apart y] at e
        cases e
  obtain ⟨mc, lim1, lim2⟩ := hlim
  have modul : Mod K mg (hidT s₁.heap H) := ⟨kin, ns' hns, ⟨mb, ns' hb, hbb⟩, mc, ns' lim1, lim2⟩
  have env0 : Env0 P w K mg (hidT s₁.heap H) callerA [] s₁ H :=
    ⟨rfl, modul, fun _ _ e => of_hidT e, Nat.le_of_eq (hidT_size _ _), trivial, fun b z => absurd (show b ∈ ([] : List Addr) from z) List.not_mem_nil, ok, .of_eq hgn⟩
  have run := (G _ kin (ns' hns)).run callerA rfl [] s₁ H ⟨[.ref a], []⟩ [.ref a] [.ref a] _ _ hr env0 (hbind s₁ (.ref a)) (.cons rfl .nil) (hsp H hO hS)
  refine codeAny_mono run fun res s' z => ?_
  cases res with
  | error e => exact (hCX H e s' z).elim
  | ok fl =>
    cases fl with
    | ret u =>
      obtain ⟨v, H', os, bare, un, ok', rv, (qv : v = .bl true)⟩ := z
      subst qv
      cases (show u = Value.bool true from rv)
      refine ⟨rfl, OldK.of_keep fun b o e => ?_, os, bare⟩
      rcases hO b with y | ⟨ob, xs, y⟩
      · exact un.keep b o e y (fun q => absurd (show b ∈ ([] : List Addr) from q) List.not_mem_nil) (fun q => absurd q List.not_mem_nil)
      · have e1 := (ok b _ y).1
        have e2 := (ok' b _ (un.frzs b ob _ y)).1
        rw [e] at e1
        cases e1
        exact e2
    | next => exact False.elim z
    | brk => exact False.elim z
    | cont => exact False.elim z
theorem law_callG (KX : K.In s₁.heap) (hns : s₁.heap.Ns mainGlobals mg) (hb : s₁.heap.Ns builtinsNs mb) (hbb : ∀ x : Str, x ≠ "__name__" → mb x = bootBuiltins x) (hlim : s₁.heap.NoLimit) (hgn : s₁.gens = #[])
    (ha : s₁.heap.get? a = some { cls := .type "list", data := .seq vs.toArray }) (hi : IntsAre vs ns) (hl : ns.length ≤ sizeLine) (hr : Room k callerA)
    (G : ∀ base : Heap, K.In base → base.Ns mainGlobals mg → FnG P w K mg base CX k fa fd [x] sp) (hbind : ∀ (s : Shared) (u : Value), BindsTo s fd ⟨[u], []⟩ [(x, u)])
    (hsp : ∀ H : Hp, Only H → SqL K H a (ns.map V.int) → sp [.ref a] H (fun v _ => v = .bl true) fun _ _ _ => False) (hCX : ∀ H e s', CX [] H s₁ (fun _ _ _ => False) e s' → False) :
    codeAny (model P w) callerA (.call (.ref fa) ⟨[.ref a], []⟩) (fun r s' => r = .ok (.ret (.bool true)) ∧ OldK s₁.heap s'.heap ∧ s'.os = s₁.os ∧ AllBare s'.gens) s₁ := by
  have rv := vals_ints hi
  cases hk : K.lookup a with
  | some o =>
    have e := KX a o hk
    rw [ha] at e
    cases e
    refine law_from (ns := ns) KX hns hb hbb hlim hgn ha hr G hbind hsp hCX (fun _ => none) (fun _ => .inl rfl) (.inr ⟨_, vs.toArray, _, hk, rfl, rfl, rfl, ?_, ?_⟩) (fun b u z => ?_) (fun b z => absurd rfl z) fun z => absurd rfl z
    · rw [List.size_toArray, hi.length]; exact hl
    · simpa using rv
    · cases (show (none : Option HO) = some u from z)
  | none =>
    let H : Hp := fun b => if b = a then some (.frz { cls := .type "list", data := .seq vs.toArray } (.lst (ns.map V.int))) else none
    have at_a : H a = some (.frz { cls := .type "list", data := .seq vs.toArray } (.lst (ns.map V.int))) := if_pos rfl
    have off : ∀ b, b ≠ a → H b = none := fun b z => if_neg z
    refine law_from (ns := ns) KX hns hb hbb hlim hgn ha hr G hbind hsp hCX H (fun b => ?_) (.inl (.inr ⟨_, at_a⟩)) (fun b u z => ?_) (fun b z => ?_) fun _ => hk
    · by_cases y : b = a
      · exact .inr ⟨_, _, y ▸ at_a⟩
      · exact .inl (off b y)
    · by_cases y : b = a
      · subst y
        rw [at_a] at z
        cases z
        exact ⟨ha, by rw [List.length_map]; exact hl, vs, _, rv, ha⟩
      · rw [off b y] at z
        cases z
    · by_cases y : b = a
      · exact y
      · exact absurd (off b y) z
end
theorem walk_ofG {l : PySem.W.OpenLaw} {n k : Nat} {q : Program} {loose : List Str} {XP : (Str → Option Value) → Heap → Prop} {YP : World → Heap → Prop} {d : DefRec} {K : Params → PySem.W.Frag} {CX : World → CXT} {sp : World → Sp} {x : Str}
    (hn : l.most = some n) (hn2 : n ≤ sizeLine) (hdf : d.params.defaults = []) (hr : Room k callerA) (hY : ∀ (w : World) (h : Heap), YP w h → (K w.params).In h)
    (G : ∀ (w : World) (mg : Str → Option Value) (fa : Addr) (h : Heap), (K w.params).In h → h.Ns mainGlobals mg → mg d.name = some (.ref fa) →
      ∃ fd : FuncData, (∀ (s : Shared) (u : Value), BindsTo s fd ⟨[u], []⟩ [(x, u)]) ∧ ∀ base : Heap, (K w.params).In base → base.Ns mainGlobals mg → FnG l.prog w (K w.params) mg base (CX w) k fa fd [x] (sp w))
    (hsp : ∀ (w : World) (H : Hp) (a : Addr) (ns : List Int), ns.length ≤ n → Only H → SqL (K w.params) H a (ns.map V.int) → sp w [.ref a] H (fun v _ => v = .bl true) fun _ _ _ => False)
    (hCX : ∀ (w : World) (H : Hp) (s : Shared) (e : Value) (s' : Shared), CX w [] H s (fun _ _ _ => False) e s' → False) :
    PySem.W.WalkO q loose XP YP l.row.toRowW d [] (fun f vs => PySem.call f vs) := by
  refine Att.attach_call hn hdf fun w s₀ s₁ mg mb fa o pm cd doc a vs ns Gr Y ho hd hcd hmg hobj hints hlen hgn => ?_
  obtain ⟨fd, hbd, hG⟩ := G w mg fa _ (hY w _ Y) Gr.T.g hmg
  exact law_callG (hY w _ Y) Gr.T.g Gr.T.b Gr.T.builtins Gr.T.nolimit hgn hobj hints (Nat.le_trans hlen hn2) hr hG hbd (fun H hO hS => hsp w H a ns hlen hO hS) fun H e s' => hCX w H s₁ e s'
end K9

set_option Elab.async false
set_option linter.all false
set_option maxRecDepth 100000
set_option maxHeartbeats 4000000
/- K98: the text by places; data in the heap; what evaluates to data. -/
namespace K9
open PySem PySem.Spec PyProof.Rows L2 Evl
/-! ### the text by places -/
def topS (i : Nat) : Stmt := PySem.Challenge.pw_soonsure_k98_values_told_as_texts.main.body.getD i (.Pass ⟨0, 0, 0, 0⟩)
abbrev sIsNumber : Stmt := topS 8
abbrev sIsWord : Stmt := topS 12
abbrev sIsPlain : Stmt := topS 13
abbrev sIsPlainValue : Stmt := topS 14
abbrev sShown : Stmt := topS 15
abbrev sValueText : Stmt := topS 16
abbrev sFigures : Stmt := topS 17
abbrev sRunValue : Stmt := topS 18
abbrev cValues : Stmt := topS 19
abbrev sInit : Stmt := inClass cValues 0
abbrev sFail : Stmt := inClass cValues 1
abbrev sIsNext : Stmt := inClass cValues 2
abbrev sRun : Stmt := inClass cValues 3
abbrev sValue : Stmt := inClass cValues 4
abbrev sReadValue : Stmt := topS 20
abbrev sTake : Stmt := topS 22
abbrev sSome : Stmt := topS 23
abbrev sBag : Stmt := topS 24
abbrev sAlike : Stmt := topS 25
abbrev sValueOf : Stmt := topS 26
abbrev sTold : Stmt := topS 27
abbrev sAtom : Stmt := topS 28
abbrev sAt : Stmt := topS 29
abbrev sLaw : Stmt := topS 30
/-! ### the module's names -/
abbrev LETTERS : Str := "abcdefghijklmnopqrstuvwxyz"
abbrev DIGITS : Str := "0123456789"
structure Zs (mg : Str → Option Value) : Prop where
  isinstance : mg "isinstance" = none
  int : mg "int" = none
  bool : mg "bool" = none
  str : mg "str" = none
  tuple : mg "tuple" = none
  all : mg "all" = none
  abs : mg "abs" = none
  len : mg "len" = none
  repr : mg "repr" = none
  range : mg "range" = none
  letters : ∃ t, mg "LETTERS" = some (.str LETTERS t)
  digits : ∃ t, mg "DIGITS" = some (.str DIGITS t)
  mostL : ∃ t, mg "MOST_LEVELS" = some (.int 60 t)
  mostF : ∃ t, mg "MOST_FIGURES" = some (.int 40 t)
theorem tl_letters : TL.tl LETTERS = LET := by decide +kernel
theorem tl_digits : TL.tl DIGITS = DIG := by decide +kernel
theorem len_letters : LETTERS.length = 26 := by decide +kernel
theorem len_digits : DIGITS.length = 10 := by decide +kernel

/-! ### data of tuples alone -/
section
mutual
inductive TD (K : PySem.W.Frag) (H : Hp) : V → PyData → Prop
  | non : TD K H .non .none
  | int (i : Int) : TD K H (.int i) (.int i)
  | str (x : Str) : TD K H (.str x) (.str x)
  | tup {a : Addr} {xs : List V} {ds : List PyData} : SqT K H a xs → TDs K H xs ds → TD K H (.ref a) (.tuple ds)
inductive TDs (K : PySem.W.Frag) (H : Hp) : List V → List PyData → Prop
  | nil : TDs K H [] []
  | cons {v : V} {vs : List V} {d : PyData} {ds : List PyData} : TD K H v d → TDs K H vs ds → TDs K H (v :: vs) (d :: ds)
end
variable {K : PySem.W.Frag} {H H' : Hp}
/-- tuples stand as they stood -/
def TupKeep (K : PySem.W.Frag) (H H' : Hp) : Prop := ∀ a xs, SqT K H a xs → SqT K H' a xs
theorem TupKeep.of_ex (e : Ex H H') : TupKeep K H H' := fun _ _ h => ex_t e h
theorem TupKeep.trans {H2 : Hp} (a : TupKeep K H H') (b : TupKeep K H' H2) : TupKeep K H H2 := fun p xs h => b p xs (a p xs h)
mutual
theorem TD.keep (k : TupKeep K H H') : ∀ (d : PyData) (v : V), TD K H v d → TD K H' v d
  | .none, _, h => by cases h; exact .non
  | .bool _, _, h => by cases h
  | .int i, _, h => by cases h; exact .int i
  | .str x, _, h => by cases h; exact .str x
  | .list _, _, h => by cases h
  | .dict _, _, h => by cases h
  | .tuple ds, _, h => by
    cases h with
    | tup h1 h2 => exact .tup (k _ _ h1) (TDs.keep k ds _ h2)
theorem TDs.keep (k : TupKeep K H H') : ∀ (ds : List PyData) (vs : List V), TDs K H vs ds → TDs K H' vs ds
  | [], _, h => by cases h; exact .nil
  | d :: ds, _, h => by
    cases h with
    | cons h1 h2 => exact .cons (TD.keep k d _ h1) (TDs.keep k ds _ h2)
end
theorem TD.ex {v : V} {d : PyData} (e : Ex H H') (h : TD K H v d) : TD K H' v d := TD.keep (.of_ex e) d v h
theorem TDs.ex {vs : List V} {ds : List PyData} (e : Ex H H') (h : TDs K H vs ds) : TDs K H' vs ds := TDs.keep (.of_ex e) ds vs h
mutual
theorem TD.dp : ∀ (d : PyData) (v : V), TD K H v d → Dp K H v d
  | .none, _, h => by cases h; exact .non
  | .bool _, _, h => by cases h
  | .int i, _, h => by cases h; exact .int i
  | .str x, _, h => by cases h; exact .str x
  | .list _, _, h => by cases h
  | .dict _, _, h => by cases h
  | .tuple ds, _, h => by
    cases h with
    | tup h1 h2 => exact .tup h1 (TDs.dp ds _ h2)
theorem TDs.dp : ∀ (ds : List PyData) (vs : List V), TDs K H vs ds → DpAll K H vs ds
  | [], _, h => by cases h; exact .nil
  | d :: ds, _, h => by
    cases h with
    | cons h1 h2 => exact .cons (TD.dp d _ h1) (TDs.dp ds _ h2)
end
theorem TDs.snoc : ∀ {vs : List V} {ds : List PyData} {v : V} {d : PyData}, TDs K H vs ds → TD K H v d → TDs K H (vs ++ [v]) (ds ++ [d])
  | _, _, _, _, .nil, h => .cons h .nil
  | _, _, _, _, .cons h1 h2, h => .cons h1 (TDs.snoc h2 h)
theorem TDs.len : ∀ {vs : List V} {ds : List PyData}, TDs K H vs ds → vs.length = ds.length
  | _, _, .nil => rfl
  | _, _, .cons _ h => congrArg (· + 1) (TDs.len h)
theorem TDs.get : ∀ {vs : List V} {ds : List PyData} {i : Nat} {v : V}, TDs K H vs ds → vs[i]? = some v → ∃ d, ds[i]? = some d ∧ TD K H v d
  | _, _, _, _, .nil, e => by simp at e
  | _, _, 0, _, .cons h _, e => by
    have e' := Option.some.inj e
    subst e'
    exact ⟨_, rfl, h⟩
  | _, _, i + 1, _, .cons _ h, e => TDs.get (i := i) h e
theorem DpAll.get : ∀ {vs : List V} {ds : List PyData} {i : Nat} {v : V}, DpAll K H vs ds → vs[i]? = some v → ∃ d, ds[i]? = some d ∧ Dp K H v d
  | _, _, _, _, .nil, e => by simp at e
  | _, _, 0, _, .cons h _, e => by
    have e' := Option.some.inj e
    subst e'
    exact ⟨_, rfl, h⟩
  | _, _, i + 1, _, .cons _ h, e => DpAll.get (i := i) h e
theorem DpAll.len : ∀ {vs : List V} {ds : List PyData}, DpAll K H vs ds → vs.length = ds.length
  | _, _, .nil => rfl
  | _, _, .cons _ h => congrArg (· + 1) (DpAll.len h)
mutual
theorem Dp.ex (e : Ex H H') : ∀ (d : PyData) (v : V), Dp K H v d → Dp K H' v d
  | .none, _, h => by cases h; exact .non
  | .bool b, _, h => by cases h; exact .bl b
  | .int i, _, h => by cases h; exact .int i
  | .str x, _, h => by cases h; exact .str x
  | .list ds, _, h => by
    cases h with
    | lst h1 h2 => exact .lst (ex_l e h1) (DpAll.ex e ds _ h2)
  | .dict _, _, h => by cases h
  | .tuple ds, _, h => by
    cases h with
    | tup h1 h2 => exact .tup (ex_t e h1) (DpAll.ex e ds _ h2)
theorem DpAll.ex (e : Ex H H') : ∀ (ds : List PyData) (vs : List V), DpAll K H vs ds → DpAll K H' vs ds
  | [], _, h => by cases h; exact .nil
  | d :: ds, _, h => by
    cases h with
    | cons h1 h2 => exact .cons (Dp.ex e d _ h1) (DpAll.ex e ds _ h2)
end
end

/-! ### types -/
def tyD : PyData → String
  | .none => "NoneType"
  | .bool _ => "bool"
  | .int _ => "int"
  | .str _ => "str"
  | .list _ => "list"
  | .tuple _ => "tuple"
  | .dict _ => "dict"
theorem tyx {K : PySem.W.Frag} {H : Hp} {v : V} {d : PyData} (h : Dp K H v d) : TyX K H v (.type (tyD d)) := by
  cases h with
  | non => exact .base .non
  | bl b => exact .base (.bl b)
  | int i => exact .base (.int i)
  | str x => exact .base (.str x)
  | lst h1 h2 =>
    rcases h1 with (h1 | ⟨o, h1⟩) | h1
    · exact .base (.lst h1)
    · exact .base (.frz h1)
    · obtain ⟨o, its, n, e, c, _⟩ := h1
      exact .kList e c
  | tup h1 h2 =>
    rcases h1 with (h1 | ⟨o, h1⟩) | h1
    · exact .base (.tup h1)
    · exact .fTuple h1
    · obtain ⟨o, its, n, e, c, _⟩ := h1
      exact .kTuple e c
def isK (T : String) (d : PyData) : Bool := tyD d == T || (T == "int" && tyD d == "bool")
theorem kit_table : ∀ a ∈ ["NoneType", "bool", "int", "str", "list", "tuple"], ∀ T ∈ ["str", "int", "bool", "tuple"], kitB a T = some (a == T || (T == "int" && a == "bool")) := by decide +kernel
theorem tyD_mem {d : PyData} (h : tyD d ≠ "dict") : tyD d ∈ ["NoneType", "bool", "int", "str", "list", "tuple"] := by
  cases d with
  | none => exact List.mem_cons_self ..
  | bool _ => exact .tail _ (List.mem_cons_self ..)
  | int _ => exact .tail _ (.tail _ (List.mem_cons_self ..))
  | str _ => exact .tail _ (.tail _ (.tail _ (List.mem_cons_self ..)))
  | list _ => exact .tail _ (.tail _ (.tail _ (.tail _ (List.mem_cons_self ..))))
  | tuple _ => exact .tail _ (.tail _ (.tail _ (.tail _ (.tail _ (List.mem_cons_self ..)))))
  | dict _ => exact absurd rfl h
theorem kit_d {K : PySem.W.Frag} {d : PyData} {T : String} (hd : tyD d ≠ "dict") (hT : T ∈ ["str", "int", "bool", "tuple"]) : PySem.W.kitOne K (.type (tyD d)) (.type T) = some (isK T d) :=
  kit_ty (kit_table _ (tyD_mem hd) T hT)
theorem dp_nodict {K : PySem.W.Frag} {H : Hp} {v : V} {d : PyData} (h : Dp K H v d) : tyD d ≠ "dict" := by
  cases h with
  | non => exact (by decide : ("NoneType" : String) ≠ "dict")
  | bl _ => exact (by decide : ("bool" : String) ≠ "dict")
  | int _ => exact (by decide : ("int" : String) ≠ "dict")
  | str _ => exact (by decide : ("str" : String) ≠ "dict")
  | lst _ _ => exact (by decide : ("list" : String) ≠ "dict")
  | tup _ _ => exact (by decide : ("tuple" : String) ≠ "dict")
/-- isinstance(x, T) -/
theorem rc_isi {K : PySem.W.Frag} {H : Hp} {v : V} {d : PyData} {T : String} (h : Dp K H v d) (hT : T ∈ ["str", "int", "bool", "tuple"]) : RC (rIsi K) [v, .ty T] H (.bl (isK T d)) :=
  fun H1 e _ q => ⟨v, .ty T, .type (tyD d), .type T, isK T d, rfl, .ty T, tyx (Dp.ex e d v h), kit_d (dp_nodict h) hT, q H1 (Ex.refl H1)⟩

/-! ### what evaluates to data -/
variable {K : PySem.W.Frag} {σ : L2.St} {H H' : Hp}
def EvD (K : PySem.W.Frag) (te : TE) (σ : L2.St) (H : Hp) (d : PyData) : Prop := ∀ H1, Ex H H1 → ∀ Q : VK, (∀ v H2, Ex H1 H2 → TD K H2 v d → Q v H2) → te σ H1 Q
/-- the promises' shape: data handed back, all that was tracked as it was -/
def RetD (K : PySem.W.Frag) (d : PyData) (H : Hp) (Q : VK) : Prop := ∀ v H2, Ex H H2 → TD K H2 v d → Q v H2

/-! ### comprehensions over a text -/
theorem lc_text {tl : TE} {tt : TT} {te : TE} {j : Nat} {vs : List Nat} {z : Str} (p : Nat → Bool) (f : Nat → V) (h : Ev tl σ H (.str z)) (hz : z.length ≤ 100000) (hw : ∀ x, wipe ((wipe σ vs).set j (some x)) vs = wipe σ vs)
    (ht : ∀ c H1, Ex H H1 → EvT tt ((wipe σ vs).set j (some (.str ⟨#[c]⟩))) H1 (p c)) (he : ∀ c H1, Ex H H1 → p c = true → Ev te ((wipe σ vs).set j (some (.str ⟨#[c]⟩))) H1 (f c)) :
    EvL (tLc (iStr tl) (gName j) tt te vs) σ H (((TL.tl z).filter p).map f) := fun H0 e Q q => h H0 e _ fun H1 e1 => ⟨z, rfl, fun D hD => by
  have hsz : z.cps.size = (TL.tl z).length := by rw [Array.length_toList]
  refine lc_it walk_str (fun i H' => Ex H1 H' ∧ H' D = some (.lst ((((TL.tl z).take i).filter p).map f))) ⟨Ex.new hD, upd_same⟩ (fun _ _ _ _ => trivial) ?_ ?_
  · rintro i x H2 H3 hi ⟨p1, p2⟩ ⟨rfl, c, hc, rfl⟩
    have hc' : (TL.tl z)[i]? = some c := by rw [Array.getElem?_toList]; exact hc
    have hl : (((TL.tl z).take i).filter p).length ≤ i := Nat.le_trans (List.length_filter_le _ _) (by rw [List.length_take]; omega)
    have hi2 : i < z.length := hi
    refine ⟨hw _, ht c H3 ((e.trans e1).trans p1) H3 (Ex.refl H3) _ fun H4 e4 => ?_⟩
    have et : (TL.tl z).take (i + 1) = (TL.tl z).take i ++ [c] := by
      rw [List.take_succ, hc']; rfl
    cases hp : p c with
    | true =>
      show te _ H4 _
      refine he c H4 (((e.trans e1).trans p1).trans e4) hp H4 (Ex.refl H4) _ fun H5 e5 => ⟨_, e5 D _ (e4 D _ p2), ?_, ?_, ?_⟩
      · rw [List.length_map]
        exact sz_lt (by omega)
      · exact Ex.mut ((p1.trans e4).trans e5) hD
      · rw [upd_same, et, List.filter_append, List.map_append]
        simp [hp]
    | false =>
      show Ex H1 H4 ∧ _
      refine ⟨p1.trans e4, ?_⟩
      rw [e4 D _ p2, et, List.filter_append, List.map_append]
      simp [hp]
  · rintro H2 ⟨p1, p2⟩
    have ea : (TL.tl z).take z.cps.size = TL.tl z := by rw [hsz, List.take_length]
    rw [ea] at p2
    exact q D H2 (fresh_back e1 hD) (e1.trans p1) p2⟩
/-- all of a list of truths that was just made -/
theorem ev_allL {tl : TE} {bs : List Bool} (h : EvL tl σ H (bs.map V.bl)) : Ev (tCB (rAll K) (tCons tl tNil)) σ H (.bl (bs.all id)) := fun H1 e Q q =>
  h H1 e _ fun p H2 _ e2 hp => ⟨p, bs, rfl, sq_of hp, q H2 e2⟩
theorem bls_map {l : List Nat} (p : Nat → Bool) : l.map (fun c => V.bl (p c)) = (l.map p).map V.bl := by rw [List.map_map]; rfl
theorem all_map {l : List Nat} (p : Nat → Bool) : (l.map p).all id = l.all p := by rw [List.all_map]; rfl
/-- one sign in a text -/
theorem rv_inS {c : Nat} {z : Str} : RV (fun x y H Q => ∃ (c : Nat) (z : Str), x = .str ⟨#[c]⟩ ∧ y = .str z ∧ Q (.bl (decide (c ∈ z.cps.toList))) H) (.str ⟨#[c]⟩) (.str z) H (.bl (decide (c ∈ TL.tl z))) :=
  fun H1 _ _ q => ⟨c, z, rfl, rfl, q H1 (Ex.refl H1)⟩
theorem rv_niS {c : Nat} {z : Str} : RV (fun x y H Q => ∃ (c : Nat) (z : Str), x = .str ⟨#[c]⟩ ∧ y = .str z ∧ Q (.bl (!decide (c ∈ z.cps.toList))) H) (.str ⟨#[c]⟩) (.str z) H (.bl (!decide (c ∈ TL.tl z))) :=
  fun H1 _ _ q => ⟨c, z, rfl, rfl, q H1 (Ex.refl H1)⟩
theorem rv_addS {a b : Str} (h : a.length + b.length ≤ 100000) : RV (fun x y H Q => ∃ i j, x = .str i ∧ y = .str j ∧ i.length + j.length ≤ sizeLine ∧ Q (.str (i ++ j)) H) (.str a) (.str b) H (.str (a ++ b)) :=
  fun H1 _ _ q => ⟨a, b, rfl, rfl, sz_of h, q H1 (Ex.refl H1)⟩
end K9

set_option Elab.async false
set_option linter.all false
set_option maxRecDepth 100000
set_option maxHeartbeats 4000000
/- K98: is_number, is_word, is_plain, is_plain_value. -/
namespace K9
open PySem PySem.Spec PyProof.Rows L2 Evl
section
variable {P : Program} {w : World} {K : PySem.W.Frag} {mg : Str → Option Value} {base : Heap} {f : Addr} {fd : FuncData}
/-! ### is_number -/
def numD (d : PyData) : Bool := isK "int" d && !isK "bool" d
def spNum (K : PySem.W.Frag) : Sp := fun vs H Q _ => ∃ v d, vs = [v] ∧ Dp K H v d ∧ RetV (.bl (numD d)) H Q
theorem scNum : FnScope ["thing"] ["thing"] (defScope sIsNumber) := ⟨rfl, rfl, rfl, by decide +kernel, rfl, by decide +kernel, by decide +kernel⟩
theorem ok_num {k : Nat} (F : Fun K "is_number" "is_number" sIsNumber f fd) (Z : Zs mg) : FnOk P w K mg base CX0 (k + 1) f fd ["thing"] (spNum K) := by
  refine F.ok scNum (fun vs H Q E h => ?_) (fun cdv A outer s H vs Q E hr h => ?_)
  · obtain ⟨v, d, rfl, _⟩ := h
    rfl
  obtain ⟨v, d, rfl, hd, q⟩ := h
  refine ⟨_, pss_one (ps_ret (pe_and
      (pe_callB call_isi (by rfl) Z.isinstance (by decide +kernel) (pa_cons (pv 0) (pa_cons (pe_bltn (v := .ty "int") (by rfl) Z.int (by decide +kernel) rfl) pa_nil)))
      (pe_one (pe_not (pe_callB call_isi (by rfl) Z.isinstance (by decide +kernel) (pa_cons (pv 0) (pa_cons (pe_bltn (v := .ty "bool") (by rfl) Z.bool (by decide +kernel) rfl) pa_nil))))))), ?_⟩
  exact s_ret (ev_andV (ev_cb (ea_cons (ev_var rfl) (ea_cons ev_c ea_nil)) (rc_isi hd (by decide))) (fun _ => ev_notV (ev_cb (ea_cons (ev_var rfl) (ea_cons ev_c ea_nil)) (rc_isi hd (by decide))))) q
/-! ### is_word -/
def wordD : PyData → Bool
  | .str x => isWord (TL.tl x)
  | _ => false
def spWord (K : PySem.W.Frag) : Sp := fun vs H Q _ => ∃ v d, vs = [v] ∧ Dp K H v d ∧ (∀ x, d = .str x → x.length ≤ 100000) ∧ RetV (.bl (wordD d)) H Q
theorem scWord : FnScope ["thing", "sign"] ["thing"] (defScope sIsWord) := ⟨rfl, rfl, rfl, by decide +kernel, rfl, by decide +kernel, by decide +kernel⟩
theorem ld_both {c : Nat} : decide (c ∈ TL.tl (LETTERS ++ DIGITS)) = isLD c := by
  rw [TL.tl_append, tl_letters, tl_digits]; rfl
theorem ok_word {k : Nat} (F : Fun K "is_word" "is_word" sIsWord f fd) (Z : Zs mg) : FnOk P w K mg base CX0 (k + 1) f fd ["thing"] (spWord K) := by
  obtain ⟨tkl, mL⟩ := Z.letters
  obtain ⟨tkd, mD⟩ := Z.digits
  refine F.ok scWord (fun vs H Q E h => ?_) (fun cdv A outer s H vs Q E hr h => ?_)
  · obtain ⟨v, d, rfl, _⟩ := h
    rfl
  obtain ⟨v, d, rfl, hd, hl, q⟩ := h
  refine ⟨_, pss_cons (ps_if (PW.pt (pw_or (pt_not (pt_val (pe_callB call_isi (by rfl) Z.isinstance (by decide +kernel) (pa_cons (pv 0) (pa_cons (pe_bltn (v := .ty "str") (by rfl) Z.str (by decide +kernel) rfl) pa_nil)))))
      (pw_or (pt_cmpR op_eq (pv 0) pe_str (nomark _)) (pw_or1 (pt_cmpR op_notIn_sign (pe_ix ix_str (pv 0) pe_int (fun _ _ => rfl)) (pe_glob (v := .str LETTERS) (by rfl) mL ⟨_, rfl⟩) rfl)))))
      (pss_one (ps_ret pe_bl)) pss_nil)
    (pss_one (ps_ret (pe_callB (cr_all rfl) (by rfl) Z.all (by decide +kernel) (pa_cons
      (pe_lc (own := [("sign", 1)]) (g := gName 1) (tt := tYes) rfl scWord.nd (pi_str (pv 0)) (blkOk_by (N := ["thing", "sign"]) (sc := defScope sIsWord) (by decide +kernel)) (fun _ _ _ _ _ => pg_name (i := 1) scWord.nd rfl (Or.inl rfl)) (fun _ _ _ _ _ => pts_nil)
        (fun _ _ _ _ _ => pe_cmpR op_in_sign (pv 1) (pe_op op_add_str (pe_glob (v := .str LETTERS) (by rfl) mL ⟨_, rfl⟩) (pe_glob (v := .str DIGITS) (by rfl) mD ⟨_, rfl⟩)) rfl)) pa_nil)))), ?_⟩
  have isi : ∀ H1, Ex H H1 → EvT (tNot (tB (tCB (rIsi K) (tCons (tVar 0) (tCons (tC (.ty "str")) tNil))))) (start ["thing", "sign"] [v]) H1 (!isK "str" d) :=
    fun H1 e1 => et_not (et_B (ev_cb (ea_cons (ev_var rfl) (ea_cons ev_c ea_nil)) (rc_isi (Dp.ex e1 d v hd) (by decide))))
  by_cases hs : ∃ x, d = .str x
  · obtain ⟨x, rfl⟩ := hs
    cases hd
    have hlen := hl x rfl
    have hw : isK "str" (.str x) = true := rfl
    cases hx : TL.tl x with
    | nil =>
      have he : x = Str.ofString "" := TL.ext_tl (by rw [hx]; rfl)
      have e1 : EvT (tTest (tOp rEq (tVar 0) (tC (.str (Str.ofString ""))))) (start ["thing", "sign"] [V.str x]) H true :=
        et_is (et_test (ev_op (ev_var rfl) ev_c (rv_eq rfl))) (by rw [he]; simp)
      refine q_when (b := true) (et_is (et_or (isi H (Ex.refl H)) fun _ => et_or (b := true) e1 fun z => nomatch z) (by rw [hw]; rfl)) (fun _ H1 e1 => s_ret ev_c fun H2 e2 => ?_) (fun z => nomatch z)
      have r := q H2 (e1.trans e2)
      have z : wordD (.str x) = false := by show isWord (TL.tl x) = false; rw [hx]; rfl
      rw [z] at r
      exact r
    | cons c t =>
      have h0 : atI x.cps.toList 0 = some c := by
        have : atI (TL.tl x) ((0 : Nat) : Int) = some c := atI_nat (by rw [hx]; rfl)
        exact this
      have e1 : EvT (tTest (tOp rEq (tVar 0) (tC (.str (Str.ofString ""))))) (start ["thing", "sign"] [V.str x]) H false := by
        refine et_is (et_test (ev_op (ev_var rfl) ev_c (rv_eq rfl))) (decide_eq_false fun z => ?_)
        have z' : x = Str.ofString "" := V.str.inj z
        rw [z'] at hx
        cases hx
      have e2 : EvT (tTest (tOp (fun x y H Q => ∃ (c : Nat) (z : Str), x = .str ⟨#[c]⟩ ∧ y = .str z ∧ Q (.bl (!decide (c ∈ z.cps.toList))) H) (tOp rIxS (tVar 0) (tC (.int 0))) (tC (.str LETTERS)))) (start ["thing", "sign"] [V.str x]) H (!isLet c) :=
        et_is (et_test (ev_op (ev_op (ev_var rfl) ev_c (rv_ixS hlen h0)) ev_c rv_niS)) (by rw [tl_letters]; rfl)
      refine q_when (et_is (et_or (isi H (Ex.refl H)) fun _ => et_or e1 fun _ => e2) (b := !isLet c) (by rw [hw]; simp)) (fun hb H1 e1 => s_ret ev_c fun H2 e2 => ?_) (fun hb H1 e1 => ?_)
      · have r := q H2 (e1.trans e2)
        have z : wordD (.str x) = false := by
          show isWord (TL.tl x) = false
          rw [hx]
          show (isLet c && _) = false
          have : isLet c = false := by simpa using hb
          rw [this]; rfl
        rw [z] at r
        exact r
      · have hc : isLet c = true := by simpa using hb
        have lst := lc_text (σ := start ["thing", "sign"] [V.str x]) (H := H1) (tl := tVar 0) (tt := tYes) (te := tOp (fun x y H Q => ∃ (c : Nat) (z : Str), x = .str ⟨#[c]⟩ ∧ y = .str z ∧ Q (.bl (decide (c ∈ z.cps.toList))) H) (tVar 1) (tOp (fun x y H Q => ∃ i j, x = .str i ∧ y = .str j ∧ i.length + j.length ≤ sizeLine ∧ Q (.str (i ++ j)) H) (tC (.str LETTERS)) (tC (.str DIGITS))))
          (j := 1) (vs := [1]) (z := x) (fun _ => true) (fun c => .bl (isLD c)) (ev_var rfl) hlen (fun _ => rfl) (fun c H2 _ H3 e3 Q' q' => q' H3 (Ex.refl H3))
          (fun c H2 _ _ => ev_is (ev_op (ev_var rfl) (ev_op ev_c ev_c (rv_addS (by rw [len_letters, len_digits]; decide))) rv_inS) (by rw [ld_both]))
        rw [List.filter_eq_self.mpr (fun _ _ => rfl), bls_map] at lst
        refine s_ret (ev_is (ev_allL lst) (w := .bl (wordD (.str x))) ?_) fun H2 e2 => q H2 (e1.trans e2)
        rw [all_map]
        show _ = V.bl (isWord (TL.tl x))
        rw [hx]
        show _ = V.bl (isLet c && (c :: t).all isLD)
        rw [hc, Bool.true_and]
  · have hw : isK "str" d = false := by
      cases hd with
      | str x => exact absurd ⟨x, rfl⟩ hs
      | non => rfl
      | bl _ => rfl
      | int _ => rfl
      | lst _ _ => rfl
      | tup _ _ => rfl
    have hw2 : wordD d = false := by
      cases hd with
      | str x => exact absurd ⟨x, rfl⟩ hs
      | non => rfl
      | bl _ => rfl
      | int _ => rfl
      | lst _ _ => rfl
      | tup _ _ => rfl
    refine q_when (b := true) (et_is (et_or (b := true) (isi H (Ex.refl H)) fun z => by rw [hw] at z; cases z) (by rw [hw]; rfl)) (fun _ H1 e1 => s_ret ev_c fun H2 e2 => ?_) (fun z => nomatch z)
    have r := q H2 (e1.trans e2)
    rw [hw2] at r
    exact r
/-! ### is_plain -/
/-- the depth of data as is_plain goes down -/
theorem plain_cut {m : Nat} {ds : List PyData} : isPlain (m + 1) (.tuple ds) = ds.all (isPlain m) := rfl
/-- texts in data are not long -/
inductive Short : Nat → PyData → Prop where
  | none {n : Nat} : Short n .none
  | bool {n : Nat} {b : Bool} : Short n (.bool b)
  | int {n : Nat} {i : Int} : Short n (.int i)
  | str {n : Nat} {x : Str} (h : x.length ≤ 100000) : Short n (.str x)
  | list {n : Nat} {ds : List PyData} : Short n (.list ds)
  | tup {n : Nat} {ds : List PyData} (hl : ds.length ≤ 1000) (h : ∀ d ∈ ds, Short n d) : Short (n + 1) (.tuple ds)
def spPlain (K : PySem.W.Frag) (n : Nat) : Sp := fun vs H Q _ => ∃ (v : V) (d : PyData) (m : Nat), vs = [v, .int m] ∧ Dp K H v d ∧ Short n d ∧ RetV (.bl (isPlain m d)) H Q
theorem scPlain : FnScope ["thing", "deep", "part"] ["thing", "deep"] (defScope sIsPlain) := ⟨rfl, rfl, rfl, by decide +kernel, rfl, by decide +kernel, by decide +kernel⟩
/-- what the rules of a body need of a def that is called -/
structure Callee (K : PySem.W.Frag) (mg : Str → Option Value) (x : Str) (f : Addr) (fd : FuncData) (ps : List Str) : Prop where
  m : mg x = some (.ref f)
  k : PySem.W.keepIn K (.ref f) = true
  b : Binds K fd ps []
theorem int_lt {i : Int} : decide ((if i < 0 then -i else i) < (10 : Int) ^ (40 : Int).toNat) = decide ((if i < 0 then -i else i) < 10 ^ 40) := rfl
/-- a list of truths, made by a comprehension over a tuple -/
theorem lc_tupB {σ : L2.St} {H : Hp} {tl te : TE} {j : Nat} {vs : List Nat} {a : Addr} {xs : List V} (g : Nat → Bool) (h : Ev tl σ H (.ref a)) (hx : SqT K H a xs) (hz : xs.length ≤ 1000) (hw : ∀ x, wipe ((wipe σ vs).set j (some x)) vs = wipe σ vs)
    (he : ∀ (i : Nat) (x : V) H1, Ex H H1 → xs[i]? = some x → Ev te ((wipe σ vs).set j (some x)) H1 (.bl (g i))) :
    EvL (tLc (iTup K tl) (gName j) tYes te vs) σ H (((List.range xs.length).map g).map V.bl) := fun H0 e Q q => h H0 e _ fun H1 e1 => ⟨a, rfl, ⟨xs, ex_t (e.trans e1) hx⟩, fun D hD => by
  refine lc_it (walk_tup (K := K) (a := a) (xs := xs)) (fun i H' => Ex H1 H' ∧ H' D = some (.lst (((List.range i).map g).map V.bl))) ⟨Ex.new hD, upd_same⟩ (fun i H' _ p => ex_t ((e.trans e1).trans p.1) hx) ?_ ?_
  · rintro i x H2 H3 hi ⟨p1, p2⟩ ⟨rfl, hxi⟩
    refine ⟨hw _, ?_⟩
    show te _ H3 _
    refine he i x H3 ((e.trans e1).trans p1) hxi H3 (Ex.refl H3) _ fun H4 e4 => ⟨_, e4 D _ p2, ?_, Ex.mut (p1.trans e4) hD, ?_⟩
    · rw [List.length_map, List.length_map, List.length_range]
      exact sz_lt (by omega)
    · rw [upd_same, List.range_succ, List.map_append, List.map_append]
      rfl
  · rintro H2 ⟨p1, p2⟩
    exact q D H2 (fresh_back e1 hD) (e1.trans p1) p2⟩
theorem all_range {ds : List PyData} (p : PyData → Bool) : ((List.range ds.length).map fun i => p (ds.getD i .none)).all id = ds.all p := by
  have e : (List.range ds.length).map (fun i => p (ds.getD i .none)) = ds.map p := by
    apply List.ext_getElem
    · simp
    · intro i h1 h2
      have hi : i < ds.length := by simpa using h2
      simp [List.getD, List.getElem?_eq_getElem hi]
  rw [e, List.all_map]; rfl
def cNone (d : PyData) : Bool := match d with
  | .none => true
  | _ => false
theorem is_none {H : Hp} {v : V} {d : PyData} (h : Dp K H v d) : decide (v = .non) = cNone d := by
  cases h <;> first | rfl | exact decide_eq_false (fun z => nomatch z)
theorem step_plain {fw fn : Addr} {fdw fdn : FuncData} (F : Fun K "is_plain" "is_plain" sIsPlain f fd) (Z : Zs mg) (C : Callee K mg "is_plain" f fd ["thing", "deep"])
    (CW : Callee K mg "is_word" fw fdw ["thing"]) (CN : Callee K mg "is_number" fn fdn ["thing"]) (GW : FnOk P w K mg base CX0 1 fw fdw ["thing"] (spWord K)) (GN : FnOk P w K mg base CX0 1 fn fdn ["thing"] (spNum K))
    (n : Nat) (spIn : Sp) (G : FnOk P w K mg base CX0 (n + 1) f fd ["thing", "deep"] spIn) (hin : ∀ m, n = m + 1 → ∀ vs H Q E, spPlain K m vs H Q E → spIn vs H Q E) :
    FnOk P w K mg base CX0 (n + 2) f fd ["thing", "deep"] (spPlain K n) := by
  refine F.ok scPlain (fun vs H Q E h => ?_) (fun cdv A outer s H vs Q E hr h => ?_)
  · obtain ⟨v, d, m, rfl, _⟩ := h
    rfl
  obtain ⟨v, d, m, rfl, hd, hs, q⟩ := h
  have hr1 : Room 1 _ := hr.mono (by omega)
  refine ⟨_, pss_cons (ps_if (PW.pt (pw_or (pt_cmpR op_isN (pv 0) pe_non (nomark _)) (pw_or1 (pt_val (pe_call GW hr1 (by rfl) CW.m CW.k CW.b .nil pass0 (pa_cons (pv 0) pa_nil))))))
      (pss_one (ps_ret pe_bl)) pss_nil)
    (pss_cons (ps_if (pt_val (pe_call GN hr1 (by rfl) CN.m CN.k CN.b .nil pass0 (pa_cons (pv 0) pa_nil)))
      (pss_one (ps_ret (pe_cmpR op_lt (pe_callB call_abs (by rfl) Z.abs (by decide +kernel) (pa_cons (pv 0) pa_nil)) (pe_op op_pow pe_int pe_int) (nomark _)))) pss_nil)
    (pss_cons (ps_if (PW.pt (pw_or (pt_not (pt_val (pe_callB call_isi (by rfl) Z.isinstance (by decide +kernel) (pa_cons (pv 0) (pa_cons (pe_bltn (v := .ty "tuple") (by rfl) Z.tuple (by decide +kernel) rfl) pa_nil)))))
        (pw_or1 (pt_cmpR op_eq (pv 1) pe_int (nomark _))))) (pss_one (ps_ret pe_bl)) pss_nil)
    (pss_one (ps_ret (pe_callB (cr_all rfl) (by rfl) Z.all (by decide +kernel) (pa_cons
      (pe_lc (own := [("part", 2)]) (g := gName 2) (tt := tYes) rfl scPlain.nd (pi_tup (pv 0)) (blkOk_by (N := ["thing", "deep", "part"]) (sc := defScope sIsPlain) (by decide +kernel)) (fun _ _ _ _ _ => pg_name (i := 2) scPlain.nd rfl (Or.inl rfl)) (fun _ _ _ _ _ => pts_nil)
        (fun _ _ _ _ _ => pe_call G (hr.mono (by omega)) (by rfl) C.m C.k C.b .nil pass0 (pa_cons (pv 2) (pa_cons (pe_op op_sub (pv 1) pe_int) pa_nil)))) pa_nil)))))), ?_⟩
  have hshort : ∀ x, d = .str x → x.length ≤ 100000 := by
    rintro x rfl
    cases hs with
    | str h => exact h
  -- thing is None or is_word(thing)
  refine q_when (b := cNone d || wordD d) (et_or (et_is (et_test (ev_op (ev_var rfl) ev_c (rv_val fun H1 _ Q' q' => ⟨rfl, q'⟩))) (is_none hd)) fun _ => et_B (ev_call (ea_cons (ev_var rfl) ea_nil) fun H1 e1 Q' q' _ => ⟨v, d, rfl, Dp.ex e1 d v hd, hshort, q'⟩))
    (fun hb H1 e1 => s_ret ev_c fun H2 e2 => ?_) (fun hb H1 e1 => ?_)
  · have r := q H2 (e1.trans e2)
    have z : isPlain m d = true := by
      rcases Bool.or_eq_true_iff.mp hb with z | z
      · cases d <;> first | (cases m <;> rfl) | cases z
      · cases d <;> first | (cases m <;> exact z) | cases z
    rw [z] at r
    exact r
  obtain ⟨hn, hw⟩ := Bool.or_eq_false_iff.mp hb
  -- is_number(thing)
  refine q_when (b := numD d) (et_B (ev_call (ea_cons (ev_var rfl) ea_nil) fun H2 e2 Q' q' _ => ⟨v, d, rfl, Dp.ex (e1.trans e2) d v hd, q'⟩)) (fun hb2 H2 e2 => ?_) (fun hb2 H2 e2 => ?_)
  · cases hd with
    | int i =>
      refine s_ret (v := .bl (isPlain m (.int i))) ?_ fun H3 e3 => q H3 ((e1.trans e2).trans e3)
      have z : isPlain m (.int i) = decide ((if i < 0 then -i else i) < 10 ^ 40) := by cases m <;> rfl
      rw [z]
      exact ev_op (ev_cb (ea_cons (ev_var rfl) ea_nil) (z := .int (if i < 0 then -i else i)) fun H3 e3 Q' q' => ⟨i, rfl, q' H3 (Ex.refl H3)⟩)
        (ev_op ev_c ev_c (rv_I (C := CPow) (g := fun i j => .int (i ^ j.toNat)) (i := 10) (j := 40) ⟨by decide, by decide, by decide⟩)) (rv_I0 (g := fun i j => .bl (decide (i < j))))
    | non => cases hb2
    | bl _ => cases hb2
    | str _ => cases hb2
    | lst _ _ => cases hb2
    | tup _ _ => cases hb2
  -- not isinstance(thing, tuple) or deep == 0
  refine q_when (b := !isK "tuple" d || decide (m = 0)) (et_or (et_not (et_B (ev_cb (ea_cons (ev_var rfl) (ea_cons ev_c ea_nil)) (rc_isi (Dp.ex (e1.trans e2) d v hd) (by decide))))) fun _ => et_is (et_test (ev_op (ev_var rfl) ev_c (rv_eq rfl))) ?_) (fun hb3 H3 e3 => s_ret ev_c fun H4 e4 => ?_) (fun hb3 H3 e3 => ?_)
  · by_cases hm : m = 0
    · subst hm; rfl
    · rw [decide_eq_false hm, decide_eq_false]
      intro z
      have := V.int.inj z
      omega
  · have r := q H4 (((e1.trans e2).trans e3).trans e4)
    have z : isPlain m d = false := by
      cases hd with
      | non => cases hn
      | int _ => cases hb2
      | str x => cases m <;> exact hw
      | bl _ => cases m <;> rfl
      | lst _ _ => cases m <;> rfl
      | tup _ _ =>
        have hm : m = 0 := by simpa [isK, tyD] using hb3
        subst hm; rfl
    rw [z] at r
    exact r
  obtain ⟨ht, hm⟩ := Bool.or_eq_false_iff.mp hb3
  obtain ⟨k, rfl⟩ : ∃ k, m = k + 1 := ⟨m - 1, by have := of_decide_eq_false hm; omega⟩
  cases hd with
  | tup h1 h2 =>
    rename_i a xs ds
    cases hs with
    | tup hl hsd =>
      rename_i n'
      have hlen := DpAll.len h2
      have e123 := (e1.trans e2).trans e3
      have lst := lc_tupB (K := K) (σ := start ["thing", "deep", "part"] [.ref a, .int ((k + 1 : Nat) : Int)]) (H := H3) (tl := tVar 0) (te := tCall spIn [] E0 (tCons (tVar 2) (tCons (tOp (rI0 fun i j => .int (i - j)) (tVar 1) (tC (.int 1))) tNil)))
        (j := 2) (vs := [2]) (a := a) (xs := xs) (fun i => isPlain k (ds.getD i .none)) (ev_var rfl) (ex_t e123 h1) (by omega) (fun _ => rfl)
        (fun i x H4 e4 hxi => by
          obtain ⟨d', hd', hx'⟩ := DpAll.get h2 hxi
          have hk : ((k + 1 : Nat) : Int) - 1 = (k : Int) := by omega
          refine ev_call (ea_cons (ev_var rfl) (ea_cons (ev_is (ev_op (ev_var rfl) ev_c (rv_I0 (g := fun i j => .int (i - j)))) (congrArg V.int hk)) ea_nil)) fun H5 e5 Q' q' E' => ?_
          refine hin n' rfl _ _ _ _ ⟨x, d', k, rfl, Dp.ex ((e123.trans e4).trans e5) d' x hx', hsd d' (List.mem_of_getElem? hd'), fun H6 e6 => ?_⟩
          have r := q' H6 e6
          rw [List.getD_eq_getElem?_getD, hd'] at r
          exact r)
      refine s_ret (ev_is (ev_allL lst) (w := .bl (isPlain (k + 1) (.tuple ds))) ?_) fun H4 e4 => q H4 (e123.trans e4)
      rw [hlen, all_range (isPlain k)]
      rfl
  | non => cases ht
  | bl _ => cases ht
  | int _ => cases ht
  | str _ => cases ht
  | lst _ _ => cases ht
theorem fn_none {k : Nat} {ps : List Str} : FnOk P w K mg base CX0 k f fd ps (fun _ _ _ _ => False) := ⟨fun _ _ _ _ h => h.elim, fun _ _ _ _ _ _ _ _ _ _ _ _ _ h => h.elim⟩
theorem ok_plain {fw fn : Addr} {fdw fdn : FuncData} (F : Fun K "is_plain" "is_plain" sIsPlain f fd) (Z : Zs mg) (C : Callee K mg "is_plain" f fd ["thing", "deep"])
    (CW : Callee K mg "is_word" fw fdw ["thing"]) (CN : Callee K mg "is_number" fn fdn ["thing"]) (GW : FnOk P w K mg base CX0 1 fw fdw ["thing"] (spWord K)) (GN : FnOk P w K mg base CX0 1 fn fdn ["thing"] (spNum K)) :
    ∀ n : Nat, FnOk P w K mg base CX0 (n + 2) f fd ["thing", "deep"] (spPlain K n)
  | 0 => step_plain F Z C CW CN GW GN 0 _ fn_none fun m z => by omega
  | n + 1 => step_plain F Z C CW CN GW GN (n + 1) _ (ok_plain F Z C CW CN GW GN n) fun m z vs H Q E h => by
    cases z
    exact h
/-! ### is_plain_value -/
def spPv (K : PySem.W.Frag) (n : Nat) : Sp := fun vs H Q _ => ∃ v d, vs = [v] ∧ Dp K H v d ∧ Short n d ∧ RetV (.bl (isPlain 60 d)) H Q
theorem scPv : FnScope ["thing"] ["thing"] (defScope sIsPlainValue) := ⟨rfl, rfl, rfl, by decide +kernel, rfl, by decide +kernel, by decide +kernel⟩
theorem ok_pv {n : Nat} {fp : Addr} {fdp : FuncData} (F : Fun K "is_plain_value" "is_plain_value" sIsPlainValue f fd) (Z : Zs mg) (CP : Callee K mg "is_plain" fp fdp ["thing", "deep"]) (GP : FnOk P w K mg base CX0 (n + 2) fp fdp ["thing", "deep"] (spPlain K n)) :
    FnOk P w K mg base CX0 (n + 3) f fd ["thing"] (spPv K n) := by
  obtain ⟨tk, mM⟩ := Z.mostL
  refine F.ok scPv (fun vs H Q E h => ?_) (fun cdv A outer s H vs Q E hr h => ?_)
  · obtain ⟨v, d, rfl, _⟩ := h
    rfl
  obtain ⟨v, d, rfl, hd, hs, q⟩ := h
  refine ⟨_, pss_one (ps_ret (pe_call GP hr (by rfl) CP.m CP.k CP.b .nil pass0 (pa_cons (pv 0) (pa_cons (pe_glob (v := .int 60) (by rfl) mM ⟨_, rfl⟩) pa_nil)))), ?_⟩
  exact s_ret (ev_call (ea_cons (ev_var rfl) (ea_cons ev_c ea_nil)) fun H1 e1 Q' q' _ => ⟨v, d, 60, rfl, Dp.ex e1 d v hd, hs, q'⟩) q
end
end K9

set_option Elab.async false
set_option linter.all false
set_option maxRecDepth 100000
set_option maxHeartbeats 4000000
/- K98: shown, value_text, _law_told. -/
namespace K9
open PySem PySem.Spec PyProof.Rows L2 Evl
/-! ### slices of texts -/
def mkS (l : List Nat) : Str := ⟨l.toArray⟩
theorem tl_mkS (l : List Nat) : TL.tl (mkS l) = l := TL.tl_mk l
theorem mkS_tl (x : Str) : mkS (TL.tl x) = x := TL.mk_tl x
theorem mkS_len (l : List Nat) : (mkS l).length = l.length := by rw [TL.len_tl, tl_mkS]
theorem cut_from (z : Str) (p : Nat) : cutS z (some (p : Int)) none = mkS ((TL.tl z).drop p) := by
  apply TL.ext_tl
  rw [tl_mkS]
  show ((TL.tl z).drop (HT.sIx z.length 0 (some (p : Int)))).take (HT.sIx z.length z.length none - HT.sIx z.length 0 (some (p : Int))) = _
  rw [HT.sIx_nat, HT.sIx_none]
  have hl := TL.len_tl z
  rw [List.take_of_length_le (by rw [List.length_drop]; omega)]
  by_cases h : p ≤ z.length
  · rw [Nat.min_eq_left h]
  · rw [Nat.min_eq_right (by omega), List.drop_eq_nil_of_le (by omega), List.drop_eq_nil_of_le (by omega)]
theorem cut_mid (z : Str) (p q : Nat) (hpq : p ≤ q) : cutS z (some (p : Int)) (some (q : Int)) = mkS (((TL.tl z).drop p).take (q - p)) := by
  apply TL.ext_tl
  rw [tl_mkS]
  show ((TL.tl z).drop (HT.sIx z.length 0 (some (p : Int)))).take (HT.sIx z.length z.length (some (q : Int)) - HT.sIx z.length 0 (some (p : Int))) = _
  rw [HT.sIx_nat, HT.sIx_nat]
  have hl := TL.len_tl z
  by_cases h : p ≤ z.length
  · rw [Nat.min_eq_left h]
    by_cases h2 : q ≤ z.length
    · rw [Nat.min_eq_left h2]
    · rw [Nat.min_eq_right (by omega), List.take_of_length_le (by rw [List.length_drop]; omega), List.take_of_length_le (by rw [List.length_drop]; omega)]
  · rw [Nat.min_eq_right (by omega), List.drop_eq_nil_of_le (by omega), List.drop_eq_nil_of_le (by omega)]
    simp
theorem cut_to (z : Str) (q : Nat) : cutS z none (some (q : Int)) = mkS ((TL.tl z).take q) := by
  have e : cutS z none (some (q : Int)) = cutS z (some ((0 : Nat) : Int)) (some (q : Int)) := by
    apply TL.ext_tl
    show ((TL.tl z).drop (HT.sIx z.length 0 none)).take (HT.sIx z.length z.length (some (q : Int)) - HT.sIx z.length 0 none) = ((TL.tl z).drop (HT.sIx z.length 0 (some ((0 : Nat) : Int)))).take (HT.sIx z.length z.length (some (q : Int)) - HT.sIx z.length 0 (some ((0 : Nat) : Int)))
    have e0 : HT.sIx z.length 0 (some ((0 : Nat) : Int)) = 0 := (HT.sIx_nat z.length 0 0).trans (Nat.zero_min _)
    rw [e0, HT.sIx_none]
  rw [e, cut_mid z 0 q (Nat.zero_le _)]
  rfl
theorem strV_eq {a b : Str} : decide (V.str a = V.str b) = decide (TL.tl a = TL.tl b) := by
  by_cases h : TL.tl a = TL.tl b
  · rw [decide_eq_true h, TL.ext_tl h]; simp
  · rw [decide_eq_false h, decide_eq_false]
    intro z
    exact h (congrArg TL.tl (V.str.inj z))
section
variable {P : Program} {w : World} {K : PySem.W.Frag} {mg : Str → Option Value} {base : Heap} {f : Addr} {fd : FuncData} {σ : L2.St} {H : Hp}
theorem ev_slS {tl th : TO} {te : TE} {z : Str} {lo hi : Option Int} (h : Ev te σ H (.str z)) (h1 : EvO tl σ H lo) (h2 : EvO th σ H hi) (hz : z.length ≤ 100000) : Ev (tSl rSlS te tl th) σ H (.str (cutS z lo hi)) := fun H1 e Q q =>
  h H1 e _ fun H2 e2 => h1 H2 (e.trans e2) _ fun H3 e3 => h2 H3 ((e.trans e2).trans e3) _ fun H4 e4 => ⟨z, rfl, sz_of hz, q H4 ((e2.trans e3).trans e4)⟩
/-- a list made by a comprehension over a tuple -/
theorem lc_tupV {tl te : TE} {j : Nat} {vs : List Nat} {a : Addr} {xs : List V} (g : Nat → V) (h : Ev tl σ H (.ref a)) (hx : SqT K H a xs) (hz : xs.length ≤ 1000) (hw : ∀ x, wipe ((wipe σ vs).set j (some x)) vs = wipe σ vs)
    (he : ∀ (i : Nat) (x : V) H1, Ex H H1 → xs[i]? = some x → Ev te ((wipe σ vs).set j (some x)) H1 (g i)) :
    EvL (tLc (iTup K tl) (gName j) tYes te vs) σ H ((List.range xs.length).map g) := fun H0 e Q q => h H0 e _ fun H1 e1 => ⟨a, rfl, ⟨xs, ex_t (e.trans e1) hx⟩, fun D hD => by
  refine lc_it (walk_tup (K := K) (a := a) (xs := xs)) (fun i H' => Ex H1 H' ∧ H' D = some (.lst ((List.range i).map g))) ⟨Ex.new hD, upd_same⟩ (fun i H' _ p => ex_t ((e.trans e1).trans p.1) hx) ?_ ?_
  · rintro i x H2 H3 hi ⟨p1, p2⟩ ⟨rfl, hxi⟩
    refine ⟨hw _, ?_⟩
    show te _ H3 _
    refine he i x H3 ((e.trans e1).trans p1) hxi H3 (Ex.refl H3) _ fun H4 e4 => ⟨_, e4 D _ p2, ?_, Ex.mut (p1.trans e4) hD, ?_⟩
    · rw [List.length_map, List.length_range]
      exact sz_lt (by omega)
    · rw [upd_same, List.range_succ, List.map_append]
      rfl
  · rintro H2 ⟨p1, p2⟩
    exact q D H2 (fresh_back e1 hD) (e1.trans p1) p2⟩
theorem map_range {α : Type} {ds : List PyData} (p : PyData → α) : (List.range ds.length).map (fun i => p (ds.getD i .none)) = ds.map p := by
  apply List.ext_getElem
  · simp
  · intro i h1 h2
    have hi : i < ds.length := by simpa using h2
    simp [List.getD, List.getElem?_eq_getElem hi]
/-- sep.join of a list that was just made -/
theorem ev_joinN {te to : TE} {a : Str} {ys : List Str} (ho : Ev to σ H (.str a)) (h : EvL te σ H (ys.map V.str)) (hz : (ys.map (·.length)).sum + ys.length * a.length ≤ 16777216) :
    Ev (tM1 (fun x xs H Q => ∃ a p, ∃ ys : List Str, x = .str a ∧ xs = [.ref p] ∧ (SqL K H p (ys.map V.str) ∨ SqT K H p (ys.map V.str)) ∧ (ys.map (·.length)).sum + ys.length * a.length ≤ 16777216 ∧ Q (.str (Txt.join a ys)) H) to te) σ H (.str (Txt.join a ys)) := fun H1 e Q q =>
  ho H1 e _ fun H2 e2 => ⟨⟨a, rfl⟩, h H2 (e.trans e2) _ fun p H3 _ e3 hp => ⟨a, p, ys, rfl, rfl, .inl (sq_of hp), hz, q H3 (e2.trans e3)⟩⟩

/-! ### told -/
def toldS (d : PyData) : Str := mkS (told d)
theorem toldS_str (x : Str) : toldS (.str x) = x := mkS_tl x
theorem toldS_int (i : Int) : toldS (.int i) = Str.ofString (toString i) := mkS_tl _
theorem toldS_none : toldS .none = Str.ofString "-" := TL.ext_tl (by rw [toldS, tl_mkS]; rfl)
theorem joined (ds : List PyData) : TL.tl (Txt.join (Str.ofString " ") (ds.map toldS)) = TL.joinL [32] (ds.map told) := by
  rw [TL.join_eq, TL.tl_join, List.map_map]
  have e : TL.tl (Str.ofString " ") = [32] := by rw [TL.tl_ofString]; rfl
  rw [e]
  congr 1
theorem most3 {n : Nat} (h : n ≤ 3) : most n ≤ 1159 := by
  rcases (by omega : n = 0 ∨ n = 1 ∨ n = 2 ∨ n = 3) with rfl | rfl | rfl | rfl <;> decide
theorem toldS_len {n : Nat} {d : PyData} (hn : n ≤ 3) (h : Dr n d) : (toldS d).length ≤ 1159 := by
  rw [toldS, mkS_len]
  exact Nat.le_trans (told_len h) (most3 hn)
theorem sum_len {ds : List PyData} (hl : ds.length ≤ 3) (h : ∀ d ∈ ds, (toldS d).length ≤ 1159) : ((ds.map toldS).map (·.length)).sum + (ds.map toldS).length * (Str.ofString " ").length ≤ 16777216 := by
  have e1 : (Str.ofString " ").length = 1 := by decide
  have key : ∀ l : List PyData, (∀ d ∈ l, (toldS d).length ≤ 1159) → ((l.map toldS).map (·.length)).sum ≤ l.length * 1159 := by
    intro l
    induction l with
    | nil => intro _; exact Nat.zero_le _
    | cons d l ih =>
      intro h
      have h1 := h d (List.mem_cons_self ..)
      have h2 := ih fun x hx => h x (List.mem_cons_of_mem _ hx)
      show (toldS d).length + ((l.map toldS).map (·.length)).sum ≤ (l.length + 1) * 1159
      omega
  have := key ds h
  rw [e1, List.length_map]
  omega
theorem join_len {n : Nat} {ds : List PyData} (hn : n ≤ 2) (h : Dr (n + 1) (.tuple ds)) : (Txt.join (Str.ofString " ") (ds.map toldS)).length ≤ 1159 := by
  rw [TL.len_tl, joined]
  have := told_len h
  have := most3 (n := n + 1) (by omega)
  rw [told_tuple] at *
  simp at *
  omega
def spTold (K : PySem.W.Frag) (n : Nat) : Sp := fun vs H Q _ => ∃ v d, vs = [v] ∧ TD K H v d ∧ Dr n d ∧ RetV (.str (toldS d)) H Q
theorem told_mem {n : Nat} {ds : List PyData} (hn : n ≤ 2) (h : Dr (n + 1) (.tuple ds)) : ds.length ≤ 3 ∧ (∀ d ∈ ds, Dr n d) ∧ ∀ d ∈ ds, (toldS d).length ≤ 1159 := by
  cases h with
  | tup hl h => exact ⟨hl, h, fun d hd => toldS_len (by omega) (h d hd)⟩
/-! ### shown -/
theorem scShown : FnScope ["value", "parts", "part"] ["value"] (defScope sShown) := ⟨rfl, rfl, rfl, by decide +kernel, rfl, by decide +kernel, by decide +kernel⟩
theorem dr_log {n : Nat} {i : Int} (h : Dr n (.int i)) : i.natAbs.log2 < 1920 := by
  cases h with
  | int h => exact log_ok (Nat.lt_trans h (by decide))
theorem dr_str {n : Nat} {x : Str} (h : Dr n (.str x)) : x.length ≤ 40 := by
  cases h with
  | str _ h => exact h
theorem step_shown (F : Fun K "shown" "shown" sShown f fd) (Z : Zs mg) (C : Callee K mg "shown" f fd ["value"]) (n : Nat) (hn : n ≤ 3) (spIn : Sp) (G : FnOk P w K mg base CX0 (n + 1) f fd ["value"] spIn) (hin : ∀ m, n = m + 1 → ∀ vs H Q E, spTold K m vs H Q E → spIn vs H Q E) :
    FnOk P w K mg base CX0 (n + 2) f fd ["value"] (spTold K n) := by
  refine F.ok scShown (fun vs H Q E h => ?_) (fun cdv A outer s H vs Q E hr h => ?_)
  · obtain ⟨v, d, rfl, _⟩ := h
    rfl
  obtain ⟨v, d, rfl, hd, hdr, q⟩ := h
  refine ⟨_, pss_cons (ps_if (pt_cmpR op_isN (pv 0) pe_non (nomark _)) (pss_one (ps_ret pe_str)) pss_nil)
    (pss_cons (ps_if (pt_not (pt_val (pe_callB call_isi (by rfl) Z.isinstance (by decide +kernel) (pa_cons (pv 0) (pa_cons (pe_bltn (v := .ty "tuple") (by rfl) Z.tuple (by decide +kernel) rfl) pa_nil))))) (pss_one (ps_ret (pe_joined1 (pe_fmt (pv 0))))) pss_nil)
    (pss_cons (ps_set (i := 1) scShown.nd rfl (Or.inl rfl) (pe_join pe_str
      (pe_lc (own := [("part", 2)]) (g := gName 2) (tt := tYes) rfl scShown.nd (pi_tup (pv 0)) (blkOk_by (N := ["value", "parts", "part"]) (sc := defScope sShown) (by decide +kernel)) (fun _ _ _ _ _ => pg_name (i := 2) scShown.nd rfl (Or.inl rfl)) (fun _ _ _ _ _ => pts_nil)
        (fun _ _ _ _ _ => pe_call G (hr.mono (by omega)) (by rfl) C.m C.k C.b .nil pass0 (pa_cons (pv 2) pa_nil)))))
    (pss_one (ps_ret (pe_joined (.cons pe_str (.cons (pe_fmt (pv 1)) (.cons pe_str .nil)))))))), ?_⟩
  have hdp := TD.dp d v hd
  refine q_when (b := cNone d) (et_is (et_test (ev_op (ev_var rfl) ev_c (rv_val fun H1 _ Q' q' => ⟨rfl, q'⟩))) (is_none hdp)) (fun hb H1 e1 => s_ret ev_c fun H2 e2 => ?_) (fun hb H1 e1 => ?_)
  · cases d <;> first | cases hb | skip
    have r := q H2 (e1.trans e2)
    rw [toldS_none] at r
    exact r
  refine q_when (b := !isK "tuple" d) (et_not (et_B (ev_cb (ea_cons (ev_var rfl) (ea_cons ev_c ea_nil)) (rc_isi (Dp.ex e1 d v hdp) (by decide))))) (fun hb2 H2 e2 => ?_) (fun hb2 H2 e2 => ?_)
  · have e12 := e1.trans e2
    refine s_ret (v := .str (toldS d)) (fun H3 e3 Q' q' => ⟨v, rfl, ?_⟩) fun H3 e3 => q H3 (e12.trans e3)
    cases hd with
    | str x =>
      have := dr_str hdr
      rw [toldS_str] at q'
      exact .inl ⟨x, rfl, sz_of (by omega), q' H3 (Ex.refl H3)⟩
    | int i =>
      rw [toldS_int] at q'
      exact .inr ⟨i, rfl, dr_log hdr, q' H3 (Ex.refl H3)⟩
    | non => cases hb
    | tup _ _ => cases hb2
  cases hd with
  | tup h1 h2 =>
    rename_i a xs ds
    have e12 := e1.trans e2
    obtain ⟨m, rfl⟩ : ∃ m, n = m + 1 := by
      cases hdr with
      | tup _ _ => exact ⟨_, rfl⟩
    obtain ⟨hl, hsub, hlen⟩ := told_mem (by omega) hdr
    have lenx := TDs.len h2
    have lst := lc_tupV (K := K) (σ := start ["value", "parts", "part"] [.ref a]) (H := H2) (tl := tVar 0) (te := tCall spIn [] E0 (tCons (tVar 2) tNil)) (j := 2) (vs := [2]) (a := a) (xs := xs) (fun i => .str (toldS (ds.getD i .none))) (ev_var rfl) (ex_t e12 h1) (by omega) (fun _ => rfl)
      (fun i x H4 e4 hxi => by
        obtain ⟨d', hd', hx'⟩ := TDs.get h2 hxi
        refine ev_call (ea_cons (ev_var rfl) ea_nil) fun H5 e5 Q' q' E' => ?_
        refine hin m rfl _ _ _ _ ⟨x, d', rfl, TD.ex ((e12.trans e4).trans e5) hx', hsub d' (List.mem_of_getElem? hd'), fun H6 e6 => ?_⟩
        have r := q' H6 e6
        rw [List.getD_eq_getElem?_getD, hd'] at r
        exact r)
    rw [lenx, map_range (fun d => V.str (toldS d))] at lst
    have lst' : EvL (tLc (iTup K (tVar 0)) (gName 2) tYes (tCall spIn [] E0 (tCons (tVar 2) tNil)) [2]) (start ["value", "parts", "part"] [.ref a]) H2 ((ds.map toldS).map V.str) := by
      rw [List.map_map]
      exact lst
    have hj := join_len (n := m) (by omega) hdr
    refine q_asg (ev_joinN (K := K) ev_c lst' (sum_len hl hlen)) fun H3 e3 => ?_
    refine s_ret (v := .str (toldS (.tuple ds))) (fun H4 e4 Q' q' => ?_) fun H4 e4 => q H4 ((e12.trans e3).trans e4)
    have o1 : (Str.ofString "(").length = 1 := by decide
    have o2 : (Str.ofString ")").length = 1 := by decide
    have z1 : (Str.empty ++ Str.ofString "(").length = 1 := by decide
    have z2 : ((Str.empty ++ Str.ofString "(") ++ Txt.join (Str.ofString " ") (ds.map toldS)).length ≤ 1200 := by
      rw [TL.len_tl, TL.tl_append, List.length_append, ← TL.len_tl, ← TL.len_tl]
      omega
    have z3 : (((Str.empty ++ Str.ofString "(") ++ Txt.join (Str.ofString " ") (ds.map toldS)) ++ Str.ofString ")").length ≤ 1300 := by
      rw [TL.len_tl, TL.tl_append, List.length_append, ← TL.len_tl, ← TL.len_tl]
      omega
    have out : ((Str.empty ++ Str.ofString "(") ++ Txt.join (Str.ofString " ") (ds.map toldS)) ++ Str.ofString ")" = toldS (.tuple ds) := by
      apply TL.ext_tl
      rw [TL.tl_append, TL.tl_append, joined, toldS, tl_mkS, told_tuple]
      rfl
    refine ⟨_, rfl, by rw [z1]; exact sz_of (by decide), _, rfl, .inl ⟨_, rfl, sz_of (by omega), _, rfl, sz_of (by omega), _, rfl, sz_of (by omega), ?_⟩⟩
    rw [out]
    exact q' H4 (Ex.refl H4)
  | non => cases hb
  | int _ => cases hb2
  | str _ => cases hb2
theorem ok_shown (F : Fun K "shown" "shown" sShown f fd) (Z : Zs mg) (C : Callee K mg "shown" f fd ["value"]) : ∀ n : Nat, n ≤ 3 → FnOk P w K mg base CX0 (n + 2) f fd ["value"] (spTold K n)
  | 0, h => step_shown F Z C 0 h _ fn_none fun m z => by omega
  | n + 1, h => step_shown F Z C (n + 1) h _ (ok_shown F Z C n (by omega)) fun m z vs H Q E h => by
    cases z
    exact h
end
end K9

set_option Elab.async false
set_option linter.all false
set_option maxRecDepth 100000
set_option maxHeartbeats 4000000
/- K98: _law_told, value_text, figures_value, run_value, _law_atom. -/
namespace K9
open PySem PySem.Spec PyProof.Rows L2 Evl
section
variable {P : Program} {w : World} {K : PySem.W.Frag} {mg : Str → Option Value} {base : Heap} {f : Addr} {fd : FuncData} {σ : L2.St} {H : Hp}
/-! ### _law_told -/
theorem scTold : FnScope ["thing", "one"] ["thing"] (defScope sTold) := ⟨rfl, rfl, rfl, by decide +kernel, rfl, by decide +kernel, by decide +kernel⟩
theorem step_told (F : Fun K "_law_told" "_law_told" sTold f fd) (Z : Zs mg) (C : Callee K mg "_law_told" f fd ["thing"]) (n : Nat) (hn : n ≤ 3) (spIn : Sp) (G : FnOk P w K mg base CX0 (n + 1) f fd ["thing"] spIn) (hin : ∀ m, n = m + 1 → ∀ vs H Q E, spTold K m vs H Q E → spIn vs H Q E) :
    FnOk P w K mg base CX0 (n + 2) f fd ["thing"] (spTold K n) := by
  refine F.ok scTold (fun vs H Q E h => ?_) (fun cdv A outer s H vs Q E hr h => ?_)
  · obtain ⟨v, d, rfl, _⟩ := h
    rfl
  obtain ⟨v, d, rfl, hd, hdr, q⟩ := h
  refine ⟨_, pss_cons (ps_if (pt_cmpR op_isN (pv 0) pe_non (nomark _)) (pss_one (ps_ret pe_str)) pss_nil)
    (pss_cons (ps_if (pt_val (pe_callB call_isi (by rfl) Z.isinstance (by decide +kernel) (pa_cons (pv 0) (pa_cons (pe_bltn (v := .ty "tuple") (by rfl) Z.tuple (by decide +kernel) rfl) pa_nil))))
      (pss_one (ps_ret (pe_op op_add_str (pe_op op_add_str pe_str (pe_join pe_str
        (pe_lc (own := [("one", 1)]) (g := gName 1) (tt := tYes) rfl scTold.nd (pi_tup (pv 0)) (blkOk_by (N := ["thing", "one"]) (sc := defScope sTold) (by decide +kernel)) (fun _ _ _ _ _ => pg_name (i := 1) scTold.nd rfl (Or.inl rfl)) (fun _ _ _ _ _ => pts_nil)
          (fun _ _ _ _ _ => pe_call G (hr.mono (by omega)) (by rfl) C.m C.k C.b .nil pass0 (pa_cons (pv 1) pa_nil))))) pe_str))) pss_nil)
    (pss_one (ps_ret (pe_callTy (CallR.or call_str_int SkE.call_str_str) (by rfl) Z.str (by decide +kernel) (pa_cons (pv 0) pa_nil))))), ?_⟩
  have hdp := TD.dp d v hd
  refine q_when (b := cNone d) (et_is (et_test (ev_op (ev_var rfl) ev_c (rv_val fun H1 _ Q' q' => ⟨rfl, q'⟩))) (is_none hdp)) (fun hb H1 e1 => s_ret ev_c fun H2 e2 => ?_) (fun hb H1 e1 => ?_)
  · cases d <;> first | cases hb | skip
    have r := q H2 (e1.trans e2)
    rw [toldS_none] at r
    exact r
  refine q_when (b := isK "tuple" d) (et_B (ev_cb (ea_cons (ev_var rfl) (ea_cons ev_c ea_nil)) (rc_isi (Dp.ex e1 d v hdp) (by decide)))) (fun hb2 H2 e2 => ?_) (fun hb2 H2 e2 => ?_)
  · cases hd with
    | tup h1 h2 =>
      rename_i a xs ds
      have e12 := e1.trans e2
      obtain ⟨m, rfl⟩ : ∃ m, n = m + 1 := by
        cases hdr with
        | tup _ _ => exact ⟨_, rfl⟩
      obtain ⟨hl, hsub, hlen⟩ := told_mem (by omega) hdr
      have lenx := TDs.len h2
      have lst := lc_tupV (K := K) (σ := start ["thing", "one"] [.ref a]) (H := H2) (tl := tVar 0) (te := tCall spIn [] E0 (tCons (tVar 1) tNil)) (j := 1) (vs := [1]) (a := a) (xs := xs) (fun i => .str (toldS (ds.getD i .none))) (ev_var rfl) (ex_t e12 h1) (by omega) (fun _ => rfl)
        (fun i x H4 e4 hxi => by
          obtain ⟨d', hd', hx'⟩ := TDs.get h2 hxi
          refine ev_call (ea_cons (ev_var rfl) ea_nil) fun H5 e5 Q' q' E' => ?_
          refine hin m rfl _ _ _ _ ⟨x, d', rfl, TD.ex ((e12.trans e4).trans e5) hx', hsub d' (List.mem_of_getElem? hd'), fun H6 e6 => ?_⟩
          have r := q' H6 e6
          rw [List.getD_eq_getElem?_getD, hd'] at r
          exact r)
      rw [lenx, map_range (fun d => V.str (toldS d))] at lst
      have lst' : EvL (tLc (iTup K (tVar 0)) (gName 1) tYes (tCall spIn [] E0 (tCons (tVar 1) tNil)) [1]) (start ["thing", "one"] [.ref a]) H2 ((ds.map toldS).map V.str) := by
        rw [List.map_map]
        exact lst
      have hj := join_len (n := m) (by omega) hdr
      have o1 : (Str.ofString "(").length = 1 := by decide
      have o2 : (Str.ofString ")").length = 1 := by decide
      have z2 : (Str.ofString "(" ++ Txt.join (Str.ofString " ") (ds.map toldS)).length ≤ 1200 := by
        rw [TL.len_tl, TL.tl_append, List.length_append, ← TL.len_tl, ← TL.len_tl]
        omega
      refine s_ret (ev_is (ev_op (ev_op ev_c (ev_joinN (K := K) ev_c lst' (sum_len hl hlen)) (rv_addS (by omega))) ev_c (rv_addS (by omega))) (w := .str (toldS (.tuple ds))) (congrArg V.str ?_)) fun H4 e4 => q H4 (e12.trans e4)
      apply TL.ext_tl
      rw [TL.tl_append, TL.tl_append, joined, toldS, tl_mkS, told_tuple, TL.tl_ofString, TL.tl_ofString]
      rfl
    | non => cases hb
    | int _ => cases hb2
    | str _ => cases hb2
  · have e12 := e1.trans e2
    refine s_ret (v := .str (toldS d)) (ev_cb (ea_cons (ev_var rfl) ea_nil) fun H3 e3 Q' q' => ?_) fun H3 e3 => q H3 (e12.trans e3)
    cases hd with
    | str x =>
      rw [toldS_str] at q'
      exact .inr ⟨x, rfl, q' H3 (Ex.refl H3)⟩
    | int i =>
      rw [toldS_int] at q'
      exact .inl ⟨i, rfl, dr_log hdr, q' H3 (Ex.refl H3)⟩
    | non => cases hb
    | tup _ _ => cases hb2
theorem ok_told (F : Fun K "_law_told" "_law_told" sTold f fd) (Z : Zs mg) (C : Callee K mg "_law_told" f fd ["thing"]) : ∀ n : Nat, n ≤ 3 → FnOk P w K mg base CX0 (n + 2) f fd ["thing"] (spTold K n)
  | 0, h => step_told F Z C 0 h _ fn_none fun m z => by omega
  | n + 1, h => step_told F Z C (n + 1) h _ (ok_told F Z C n (by omega)) fun m z vs H Q E h => by
    cases z
    exact h
/-! ### value_text -/
/-- what the written part says of Nothing -/
structure NoT (K : PySem.W.Frag) (mg : Str → Option Value) (C : Addr) : Prop where
  gC : mg "Nothing" = some (.ref C)
  q : PySem.W.excIn K C PySem.HandSPX.veTail "ValueError.__new__" = true
  kC : PySem.W.keepIn K (.ref C) = true
  exC : PySem.W.subIn K (.ref C) (.type "BaseException") = some true
  tyC : PySem.W.typeIn K (.ref C) = some (.type "type")
def spVt (K : PySem.W.Frag) (C : Addr) : Sp := fun vs H Q E => ∃ v d, vs = [v] ∧ ((TD K H v d ∧ Dr 3 d ∧ RetV (.str (toldS d)) H Q) ∨ (Dp K H v d ∧ Short 3 d ∧ isPlain 60 d = false ∧ ∀ H', Ex H H' → E (.ref C) none H'))
theorem scVt : FnScope ["thing"] ["thing"] (defScope sValueText) := ⟨rfl, rfl, rfl, by decide +kernel, rfl, by decide +kernel, by decide +kernel⟩
theorem short_dr {n : Nat} {d : PyData} (h : Dr n d) : Short n d := by
  induction h with
  | none => exact .none
  | int _ => exact .int
  | str _ h => exact .str (by omega)
  | tup hl h ih => exact .tup (by omega) ih
theorem ok_vt {C fp fs : Addr} {fdp fds : FuncData} (F : Fun K "value_text" "value_text" sValueText f fd) (T : NoT K mg C) (CP : Callee K mg "is_plain_value" fp fdp ["thing"]) (CS : Callee K mg "shown" fs fds ["value"])
    (GP : FnOk P w K mg base CX0 6 fp fdp ["thing"] (spPv K 3)) (GS : FnOk P w K mg base CX0 5 fs fds ["value"] (spTold K 3)) : FnOk P w K mg base (L2.CX P w) 7 f fd ["thing"] (spVt K C) := by
  refine F.okX scVt (fun vs H Q E h => ?_) (fun cdv A outer s H vs Q E hr h => ?_)
  · obtain ⟨v, d, rfl, _⟩ := h
    rfl
  obtain ⟨v, d, rfl, h⟩ := h
  refine ⟨_, pss_cons (ps_if (pt_not (pt_val (pe_call GP hr (by rfl) CP.m CP.k CP.b .nil pass0 (pa_cons (pv 0) pa_nil))))
      (pss_one (ps_raise rfl (takes_of rfl rfl rfl rfl) (pmk_own0 PySem.F.excBase_ValueError T.q T.gC T.kC (raises_own T.exC T.tyC) (by exact rfl)))) pss_nil)
    (pss_one (ps_ret (pe_call GS (hr.mono (by decide)) (by rfl) CS.m CS.k CS.b .nil pass0 (pa_cons (pv 0) pa_nil)))), ?_⟩
  rcases h with ⟨hd, hdr, q⟩ | ⟨hd, hs, hp, q⟩
  · refine q_when (b := false) (et_not (et_B (b := true) (ev_call (ea_cons (ev_var rfl) ea_nil) fun H1 e1 Q' q' _ => ⟨v, d, rfl, TD.dp d v (TD.ex e1 hd), short_dr hdr, fun H2 e2 => ?_⟩))) (fun z => nomatch z) (fun _ H1 e1 => ?_)
    · have r := q' H2 e2
      rw [plain_dr (m := 60) (by decide) hdr]
      exact r
    · exact s_ret (ev_call (ea_cons (ev_var rfl) ea_nil) fun H2 e2 Q' q' _ => ⟨v, d, rfl, TD.ex (e1.trans e2) hd, hdr, q'⟩) fun H2 e2 => q H2 (e1.trans e2)
  · refine q_when (b := true) (et_not (et_B (b := false) (ev_call (ea_cons (ev_var rfl) ea_nil) fun H1 e1 Q' q' _ => ⟨v, d, rfl, Dp.ex e1 d v hd, hs, fun H2 e2 => ?_⟩))) (fun _ H1 e1 => q H1 e1) (fun z => nomatch z)
    have r := q' H2 e2
    rw [hp]
    exact r
end
end K9

set_option Elab.async false
set_option linter.all false
set_option maxRecDepth 100000
set_option maxHeartbeats 4000000
/- K98: figures_value, run_value, _law_atom. -/
namespace K9
open PySem PySem.Spec PyProof.Rows L2 Evl
section
variable {P : Program} {w : World} {K : PySem.W.Frag} {mg : Str → Option Value} {base : Heap} {f : Addr} {fd : FuncData} {σ : L2.St} {H : Hp}
/-! ### what evaluates to data, further -/
theorem ed_if {t : TT} {ta tb : TE} {b : Bool} {d : PyData} (h : EvT t σ H b) (h1 : b = true → EvD K ta σ H d) (h2 : b = false → EvD K tb σ H d) : EvD K (tIf t ta tb) σ H d := fun H1 e Q q => h H1 e _ fun H2 e2 => by
  cases b with
  | true =>
    show ta σ H2 Q
    exact h1 rfl H2 (e.trans e2) Q fun v H3 e3 z => q v H3 (e2.trans e3) z
  | false =>
    show tb σ H2 Q
    exact h2 rfl H2 (e.trans e2) Q fun v H3 e3 z => q v H3 (e2.trans e3) z
theorem ed_tup {ta : TA} {vs : List V} {ds : List PyData} (h : EvA ta σ H vs) (hz : vs.length ≤ 1000) (hd : TDs K H vs ds) : EvD K (tTup ta) σ H (.tuple ds) := fun H1 e Q q =>
  eu_tup h (by omega) H1 e Q fun p H2 _ e2 hp => q (.ref p) H2 e2 (.tup (st_of hp) (TDs.ex (e.trans e2) hd))
theorem ed_ev {te : TE} {v : V} {d : PyData} (h : Ev te σ H v) (hd : ∀ H1, Ex H H1 → TD K H1 v d) : EvD K te σ H d := fun H1 e Q q => h H1 e Q fun H2 e2 => q v H2 e2 (hd H2 (e.trans e2))
theorem s_retD {te : TE} {D : Ends} {d : PyData} (h : EvD K te σ H d) (k : RetD K d H D.rt) : tRet te D σ H := h H (Ex.refl H) _ fun v H1 e z => k v H1 e z
theorem RetD.go {d : PyData} {H1 : Hp} {Q : VK} (k : RetD K d H Q) (e : Ex H H1) : RetD K d H1 Q := fun v H2 e2 z => k v H2 (e.trans e2) z
theorem ed_call {sp : Sp} {vs : List V} {E : XK} {ta : TA} {d : PyData} (h : EvA ta σ H vs) (hs : ∀ H1, Ex H H1 → ∀ (Q : VK), RetD K d H1 Q → sp (vs ++ []) H1 Q E) : EvD K (tCall sp [] E ta) σ H d := fun H1 e Q q =>
  h H1 e _ fun H2 e2 => hs H2 (e.trans e2) Q fun v H3 e3 z => q v H3 (e2.trans e3) z
/-! ### texts compared -/
theorem eq_lit {a : Str} {l : List Nat} {s : Str} (hs : TL.tl s = l) : decide (V.str a = V.str s) = decide (TL.tl a = l) := by rw [strV_eq, hs]
theorem tl_minus : TL.tl (Str.ofString "-") = [45] := by rw [TL.tl_ofString]; rfl
theorem tl_empty : TL.tl (Str.ofString "") = [] := by rw [TL.tl_ofString]; rfl
theorem tl_zero : TL.tl (Str.ofString "0") = [48] := by rw [TL.tl_ofString]; rfl
theorem sign_eq {c : Nat} {s : Str} {k : Nat} (hs : TL.tl s = [k]) : decide (V.str ⟨#[c]⟩ = V.str s) = decide (c = k) := by
  rw [strV_eq, hs]
  by_cases h : c = k
  · subst h
    rw [decide_eq_true rfl, decide_eq_true]
    rfl
  · rw [decide_eq_false h, decide_eq_false]
    intro z
    have z' : [c] = [k] := z
    exact h (List.cons.inj z').1
theorem at0 {z : Str} {c : Nat} {t : List Nat} (e : TL.tl z = c :: t) : atI z.cps.toList 0 = some c := by
  have : atI (TL.tl z) ((0 : Nat) : Int) = some c := atI_nat (by rw [e]; rfl)
  exact this
theorem take1_iff {l : List Nat} {c : Nat} {t : List Nat} {k : Nat} (e : l = c :: t) : decide (c = k) = decide (l.take 1 = [k]) := by
  subst e
  by_cases h : c = k
  · subst h; simp
  · rw [decide_eq_false h, decide_eq_false]
    intro z
    have z' : [c] = [k] := z
    exact h (List.cons.inj z').1
/-! ### figures_value -/
def figD (l : List Nat) : PyData := match figs l with
  | some i => .tuple [.int i]
  | none => .none
def spFig (K : PySem.W.Frag) : Sp := fun vs H Q _ => ∃ z : Str, vs = [.str z] ∧ z.length ≤ 100000 ∧ RetD K (figD (TL.tl z)) H Q
theorem scFig : FnScope ["run", "is_below", "digits", "sign"] ["run"] (defScope sFigures) := ⟨rfl, rfl, rfl, by decide +kernel, rfl, by decide +kernel, by decide +kernel⟩
theorem ok_fig {k : Nat} (F : Fun K "figures_value" "figures_value" sFigures f fd) (Z : Zs mg) : FnOk P w K mg base CX0 (k + 1) f fd ["run"] (spFig K) := by
  obtain ⟨tkd, mD⟩ := Z.digits
  obtain ⟨tkm, mM⟩ := Z.mostF
  refine F.ok scFig (fun vs H Q E h => ?_) (fun cdv A outer s H vs Q E hr h => ?_)
  · obtain ⟨z, rfl, _⟩ := h
    rfl
  obtain ⟨z, rfl, hz, q⟩ := h
  refine ⟨_, pss_cons (ps_set (i := 1) scFig.nd rfl (Or.inl rfl) (pe_cmpR op_eq (pe_slice sl_str (pv 0) po_none (po_some pe_int)) pe_str (nomark _)))
    (pss_cons (ps_set (i := 2) scFig.nd rfl (Or.inl rfl) (pe_ifExp (pt_val (pv 1)) (pe_slice sl_str (pv 0) (po_some pe_int) po_none) (pv 0)))
    (pss_cons (ps_if (PW.pt (pw_or (pt_cmpR op_eq (pv 2) pe_str (nomark _)) (pw_or (pt_cmpR op_gt (pe_callB call_len_str (by rfl) Z.len PySem.boot_len (pa_cons (pv 2) pa_nil)) (pe_glob (v := .int 40) (by rfl) mM ⟨_, rfl⟩) (nomark _))
        (pw_or1 (pt_not (pt_val (pe_callB (cr_all rfl) (by rfl) Z.all (by decide +kernel) (pa_cons
          (pe_lc (own := [("sign", 3)]) (g := gName 3) (tt := tYes) rfl scFig.nd (pi_str (pv 2)) (blkOk_by (N := ["run", "is_below", "digits", "sign"]) (sc := defScope sFigures) (by decide +kernel)) (fun _ _ _ _ _ => pg_name (i := 3) scFig.nd rfl (Or.inl rfl)) (fun _ _ _ _ _ => pts_nil)
            (fun _ _ _ _ _ => pe_cmpR op_in_sign (pv 3) (pe_glob (v := .str DIGITS) (by rfl) mD ⟨_, rfl⟩) rfl)) pa_nil))))))))
      (pss_one (ps_ret pe_non)) pss_nil)
    (pss_cons (ps_if (PW.pt (pw_and (pt_cmpR op_eq (pe_ix ix_str (pv 2) pe_int (fun _ _ => rfl)) pe_str (nomark _)) (pw_and1 (PW.pt (pw_or (pt_val (pv 1)) (pw_or1 (pt_cmpR op_ne (pv 2) pe_str (nomark _))))))))
      (pss_one (ps_ret pe_non)) pss_nil)
    (pss_one (ps_ret (pe_tup (pa_cons (pe_ifExp (pt_val (pv 1)) (pe_op op_sub pe_int (pe_callTy call_int_str (by rfl) Z.int (by decide +kernel) (pa_cons (pv 2) pa_nil))) (pe_callTy call_int_str (by rfl) Z.int (by decide +kernel) (pa_cons (pv 2) pa_nil))) pa_nil))))))), ?_⟩
  generalize hL : TL.tl z = l at q
  have hlz : l.length ≤ 100000 := by rw [← hL, ← TL.len_tl]; exact hz
  -- is_below
  refine q_asg (v := .bl (decide (l.take 1 = [45]))) (ev_is (ev_op (ev_slS (ev_var rfl) eo_none (eo_some ev_c) hz) ev_c (rv_eq rfl)) ?_) fun H1 e1 => ?_
  · have c1 := cut_to z 1
    rw [show ((1 : Nat) : Int) = 1 from rfl] at c1
    rw [c1, eq_lit tl_minus, tl_mkS, hL]
  generalize hB : decide (l.take 1 = [45]) = below
  generalize hD : (if below = true then l.drop 1 else l) = ds
  -- digits
  refine q_asg (v := .str (mkS ds)) (ev_if (b := below) (et_B (ev_var rfl)) (fun hb => ev_is (ev_slS (ev_var rfl) (eo_some ev_c) eo_none hz) ?_) (fun hb => ev_is (ev_var rfl) ?_)) fun H2 e2 => ?_
  · have c1 := cut_from z 1
    rw [show ((1 : Nat) : Int) = 1 from rfl] at c1
    rw [c1, hL, ← hD, if_pos hb]
  · rw [← hD, if_neg (by rw [hb]; exact Bool.false_ne_true), ← hL, mkS_tl]
  have hds : ds.length ≤ 100000 := by
    rw [← hD]
    split
    · rw [List.length_drop]; omega
    · exact hlz
  have hdz : (mkS ds).length ≤ 100000 := by rw [mkS_len]; exact hds
  have e12 := e1.trans e2
  have hf : figs l = if ds = [] ∨ 40 < ds.length ∨ ds.all isDig = false then none
      else if ds.take 1 = [48] ∧ (below = true ∨ ds ≠ [48]) then none
      else some (if below = true then 0 - ((NumText.digitsVal ds : Nat) : Int) else ((NumText.digitsVal ds : Nat) : Int)) := by
    unfold figs
    simp only [hB, hD]
  have lst : ∀ H3, Ex H2 H3 → Ev (tCB (rAll K) (tCons (tLc (iStr (tVar 2)) (gName 3) tYes (tOp (fun x y H Q => ∃ (c : Nat) (z : Str), x = .str ⟨#[c]⟩ ∧ y = .str z ∧ Q (.bl (decide (c ∈ z.cps.toList))) H) (tVar 3) (tC (.str DIGITS))) [3]) tNil)) [some (.str z), some (.bl below), some (.str (mkS ds)), none] H3 (.bl (ds.all isDig)) := fun H3 _ => by
    have r := lc_text (σ := [some (.str z), some (.bl below), some (.str (mkS ds)), none]) (H := H3) (tl := tVar 2) (tt := tYes) (te := tOp (fun x y H Q => ∃ (c : Nat) (z : Str), x = .str ⟨#[c]⟩ ∧ y = .str z ∧ Q (.bl (decide (c ∈ z.cps.toList))) H) (tVar 3) (tC (.str DIGITS)))
      (j := 3) (vs := [3]) (z := mkS ds) (fun _ => true) (fun c => .bl (isDig c)) (ev_var rfl) hdz (fun _ => rfl) (fun c H2 _ H3 e3 Q' q' => q' H3 (Ex.refl H3)) (fun c H2 _ _ => ev_is (ev_op (ev_var rfl) ev_c rv_inS) (by rw [tl_digits]; rfl))
    rw [List.filter_eq_self.mpr (fun _ _ => rfl), tl_mkS, bls_map] at r
    exact ev_is (ev_allL r) (by rw [all_map])
  refine q_when (b := decide (ds = []) || (decide (40 < ds.length) || !ds.all isDig)) (et_or (et_is (et_test (ev_op (ev_var rfl) ev_c (rv_eq rfl))) (by rw [eq_lit tl_empty, tl_mkS])) fun _ =>
    et_or (et_is (et_test (ev_op (ev_cb (ea_cons (ev_var rfl) ea_nil) (z := .int ((mkS ds).length : Nat)) fun H3 e3 Q' q' => ⟨mkS ds, rfl, sz_of hdz, q' H3 (Ex.refl H3)⟩) ev_c (rv_I0 (g := fun i j => .bl (decide (j < i)))))) (by
      rw [mkS_len]
      by_cases h : 40 < ds.length
      · rw [decide_eq_true h, decide_eq_true (by omega)]
      · rw [decide_eq_false h, decide_eq_false (by omega)])) fun _ => et_not (et_B (lst H2 (Ex.refl H2)))) (fun hb H3 e3 => ?_) (fun hb H3 e3 => ?_)
  · have z1 : figD l = .none := by
      unfold figD
      rw [hf, if_pos]
      simpa using hb
    refine s_ret ev_c fun H4 e4 => q .non H4 ((e12.trans e3).trans e4) ?_
    rw [z1]
    exact .non
  obtain ⟨hb1, hb'⟩ := Bool.or_eq_false_iff.mp hb
  obtain ⟨hb2, hb3⟩ := Bool.or_eq_false_iff.mp hb'
  have g1 : ds ≠ [] := of_decide_eq_false hb1
  have g2 : ¬ 40 < ds.length := of_decide_eq_false hb2
  have g3 : ds.all isDig = true := by simpa using hb3
  have hf2 : figs l = if ds.take 1 = [48] ∧ (below = true ∨ ds ≠ [48]) then none
      else some (if below = true then 0 - ((NumText.digitsVal ds : Nat) : Int) else ((NumText.digitsVal ds : Nat) : Int)) := by
    rw [hf, if_neg]
    rintro (y | y | y)
    · exact g1 y
    · exact g2 y
    · rw [g3] at y; cases y
  obtain ⟨c, t, hct⟩ : ∃ c t, ds = c :: t := by
    cases ds with
    | nil => exact absurd rfl g1
    | cons c t => exact ⟨c, t, rfl⟩
  have hc0 : atI (mkS ds).cps.toList 0 = some c := at0 (by rw [tl_mkS]; exact hct)
  refine q_when (b := decide (ds.take 1 = [48]) && (below || !decide (ds = [48]))) (et_and (et_is (et_test (ev_op (ev_op (ev_var rfl) ev_c (rv_ixS hdz hc0)) ev_c (rv_eq rfl))) (by rw [sign_eq tl_zero, take1_iff hct])) fun _ =>
    et_or (et_B (ev_var rfl)) fun _ => et_is (et_test (ev_op (ev_var rfl) ev_c (rv_ne rfl))) (by rw [eq_lit tl_zero, tl_mkS])) (fun hb4 H4 e4 => ?_) (fun hb4 H4 e4 => ?_)
  · have z1 : figD l = .none := by
      unfold figD
      rw [hf2, if_pos]
      simpa using hb4
    refine s_ret ev_c fun H5 e5 => q .non H5 (((e12.trans e3).trans e4).trans e5) ?_
    rw [z1]
    exact .non
  have z1 : figD l = .tuple [.int (if below = true then 0 - ((NumText.digitsVal ds : Nat) : Int) else ((NumText.digitsVal ds : Nat) : Int))] := by
    unfold figD
    rw [hf2, if_neg]
    intro y
    have y' : (decide (ds.take 1 = [48]) && (below || !decide (ds = [48]))) = true := by simpa using y
    rw [y'] at hb4
    cases hb4
  rw [z1] at q
  have hint : PySem.intText? (mkS ds) = some ((NumText.digitsVal ds : Nat) : Int) := by
    have e := intText_digits (x := mkS ds) (fun c hc => dig_iff.mp (List.all_eq_true.mp g3 c hc)) g1 (by rw [mkS_len]; omega)
    exact e
  have rint : ∀ H5 : Hp, RC (fun xs H Q => ∃ a n, xs = [.str a] ∧ PySem.intText? a = some n ∧ a.length ≤ 640 ∧ Q (.int n) H) [.str (mkS ds)] H5 (.int ((NumText.digitsVal ds : Nat) : Int)) := fun H5 H6 _ Q' q' => ⟨mkS ds, _, rfl, hint, by rw [mkS_len]; omega, q' H6 (Ex.refl H6)⟩
  refine s_retD (K := K) (ed_tup (ea_cons (ev_if (b := below) (et_B (ev_var rfl)) (fun hb => ev_is (ev_op ev_c (ev_cb (ea_cons (ev_var rfl) ea_nil) (rint _)) (rv_I0 (g := fun i j => .int (i - j)))) (by rw [if_pos hb])) (fun hb => ev_is (ev_cb (ea_cons (ev_var rfl) ea_nil) (rint _)) (by rw [if_neg (by rw [hb]; exact Bool.false_ne_true)]))) ea_nil) (by show 1 ≤ 1000; decide) (.cons (.int _) .nil)) (q.go ((e12.trans e3).trans e4))
/-! ### run_value -/
def atomD (l : List Nat) : PyData := match atomOf l with
  | some d => .tuple [d]
  | none => .none
def spRv (K : PySem.W.Frag) : Sp := fun vs H Q _ => ∃ z : Str, vs = [.str z] ∧ z.length ≤ 100000 ∧ RetD K (atomD (TL.tl z)) H Q
theorem scRv : FnScope ["run"] ["run"] (defScope sRunValue) := ⟨rfl, rfl, rfl, by decide +kernel, rfl, by decide +kernel, by decide +kernel⟩
theorem ok_rv {fw ff : Addr} {fdw fdf : FuncData} (F : Fun K "run_value" "run_value" sRunValue f fd) (CW : Callee K mg "is_word" fw fdw ["thing"]) (CF : Callee K mg "figures_value" ff fdf ["run"])
    (GW : FnOk P w K mg base CX0 1 fw fdw ["thing"] (spWord K)) (GF : FnOk P w K mg base CX0 1 ff fdf ["run"] (spFig K)) : FnOk P w K mg base CX0 2 f fd ["run"] (spRv K) := by
  refine F.ok scRv (fun vs H Q E h => ?_) (fun cdv A outer s H vs Q E hr h => ?_)
  · obtain ⟨z, rfl, _⟩ := h
    rfl
  obtain ⟨z, rfl, hz, q⟩ := h
  refine ⟨_, pss_cons (ps_if (pt_cmpR op_eq (pv 0) pe_str (nomark _)) (pss_one (ps_ret (pe_tup (pa_cons pe_non pa_nil)))) pss_nil)
    (pss_one (ps_ret (pe_ifExp (pt_val (pe_call GW hr (by rfl) CW.m CW.k CW.b .nil pass0 (pa_cons (pv 0) pa_nil))) (pe_tup (pa_cons (pv 0) pa_nil)) (pe_call GF hr (by rfl) CF.m CF.k CF.b .nil pass0 (pa_cons (pv 0) pa_nil))))), ?_⟩
  refine q_when (b := decide (TL.tl z = [45])) (et_is (et_test (ev_op (ev_var rfl) ev_c (rv_eq rfl))) (eq_lit tl_minus)) (fun hb H1 e1 => ?_) (fun hb H1 e1 => ?_)
  · have e : atomD (TL.tl z) = .tuple [.none] := by
      unfold atomD atomOf
      rw [if_pos (of_decide_eq_true hb)]
    rw [e] at q
    exact s_retD (K := K) (ed_tup (ea_cons ev_c ea_nil) (by show 1 ≤ 1000; decide) (.cons .non .nil)) (q.go e1)
  · have hn : TL.tl z ≠ [45] := of_decide_eq_false hb
    refine s_retD (K := K) (d := atomD (TL.tl z)) (ed_if (b := isWord (TL.tl z)) (et_B (ev_call (ea_cons (ev_var rfl) ea_nil) fun H2 e2 Q' q' _ => ⟨.str z, .str z, rfl, .str z, fun x hx => ?_, q'⟩)) (fun hw => ?_) (fun hw => ?_)) (q.go e1)
    · cases hx
      exact hz
    · have e : atomD (TL.tl z) = .tuple [.str z] := by
        unfold atomD atomOf
        rw [if_neg hn, if_pos hw]
      rw [e]
      exact ed_tup (ea_cons (ev_var rfl) ea_nil) (by show 1 ≤ 1000; decide) (.cons (.str z) .nil)
    · have e : atomD (TL.tl z) = figD (TL.tl z) := by
        unfold atomD atomOf figD
        rw [if_neg hn, if_neg (by rw [hw]; exact Bool.false_ne_true)]
        cases figs (TL.tl z) <;> rfl
      rw [e]
      exact ed_call (ea_cons (ev_var rfl) ea_nil) fun H2 e2 Q' q' => ⟨z, rfl, hz, q'⟩
end
end K9

set_option Elab.async false
set_option linter.all false
set_option maxRecDepth 100000
set_option maxHeartbeats 4000000
/- K98: _law_atom. -/
namespace K9
open PySem PySem.Spec PyProof.Rows L2 Evl
section
variable {P : Program} {w : World} {K : PySem.W.Frag} {mg : Str → Option Value} {base : Heap} {f : Addr} {fd : FuncData} {σ : L2.St} {H : Hp}
/-! ### a list of signs and an empty list -/
/-- signs that Python knows -/
def Known (l : List Nat) : Prop := ∀ c ∈ l, c < 0x110000
theorem known_sign {c : Nat} (h : c < 0x110000) : PyData.canLay0 (.str ⟨#[c]⟩) = true := by
  show PyData.strOk ⟨#[c]⟩ = true
  simp [PyData.strOk, h]
theorem signs_lay : ∀ {l : List Nat}, Known l → PyData.canLayAll0 (l.map fun c => .str ⟨#[c]⟩) = true
  | [], _ => rfl
  | c :: l, h => by
    show (PyData.canLay0 (.str ⟨#[c]⟩) && PyData.canLayAll0 _) = true
    rw [known_sign (h c (List.mem_cons_self ..)), signs_lay fun x hx => h x (List.mem_cons_of_mem _ hx)]
    rfl
theorem signs_depth : ∀ l : List Nat, PyData.depthAll (l.map fun c => .str ⟨#[c]⟩) = 0
  | [] => rfl
  | c :: l => by
    show max (PyData.depth (.str ⟨#[c]⟩)) (PyData.depthAll _) = 0
    rw [signs_depth l]; rfl
theorem signs_shaped {l : List Nat} (h : Known l) : SeqAt.shaped (.list (l.map fun c => .str ⟨#[c]⟩)) = true := by
  have h1 : PyData.canLay0 (.list (l.map fun c => .str ⟨#[c]⟩)) = true := signs_lay h
  have h2 : PyData.depth (.list (l.map fun c => .str ⟨#[c]⟩)) ≤ 64 := by
    show PyData.depthAll _ + 1 ≤ 64
    rw [signs_depth]; decide
  show (_ && decide _) = true
  rw [h1, decide_eq_true h2]; rfl
theorem signs_eqv (l : List Nat) : PyData.eqv (.list (l.map fun c => .str ⟨#[c]⟩)) (.list []) = decide (l = []) := by
  cases l <;> rfl
theorem signs_dp {H : Hp} : ∀ l : List Nat, DpAll K H (l.map fun c => V.str ⟨#[c]⟩) (l.map fun c => .str ⟨#[c]⟩)
  | [] => .nil
  | c :: l => .cons (.str _) (signs_dp l)
theorem ev_noSigns {tl : TE} {l : List Nat} (h : EvL tl σ H (l.map fun c => V.str ⟨#[c]⟩)) (hk : Known l) : Ev (tOp (rEqD K) tl (tLst tNil)) σ H (.bl (decide (l = []))) :=
  ev_opLL h (el_lst ea_nil (by decide)) fun p q H1 hp hq e1 => rv_val fun H2 e2 Q k => ⟨_, .list [], .lst (sq_of (e2 p _ hp)) (signs_dp l), .lst (sq_of (e2 q _ hq)) .nil, signs_shaped hk, by decide, by rw [signs_eqv]; exact k⟩
theorem ev_anySigns {tl : TE} {l : List Nat} (h : EvL tl σ H (l.map fun c => V.str ⟨#[c]⟩)) (hk : Known l) : Ev (tOp (rNeD K) tl (tLst tNil)) σ H (.bl (!decide (l = []))) :=
  ev_opLL h (el_lst ea_nil (by decide)) fun p q H1 hp hq e1 => rv_val fun H2 e2 Q k => ⟨_, .list [], .lst (sq_of (e2 p _ hp)) (signs_dp l), .lst (sq_of (e2 q _ hq)) .nil, signs_shaped hk, by decide, by rw [signs_eqv]; exact k⟩
theorem q_asgG {te : TE} {g : TG} {tz : TS} {D : Ends} (h : te σ H fun x H1 => g x σ H1 (tz D)) : tSeq (tAsg te g) tz D σ H := h
/-- a, b = (x, y): the pair tracked -/
theorem q_asg2 {ta : TA} {vs : List V} {t : TGs} {tz : TS} {D : Ends} {n : Nat} (h : EvA ta σ H vs) (hn : vs.length = n) (hz : n ≤ 1000) (k : ∀ H1, Ex H H1 → t vs σ H1 (tz D)) : tSeq (tAsg (tTup ta) (gTup K n t)) tz D σ H :=
  q_asgG (eu_tup h (by omega) H (Ex.refl H) _ fun p H1 _ e1 hp => ⟨p, vs, rfl, st_of hp, hn, k H1 e1⟩)
/-! ### _law_atom -/
def spAtom (K : PySem.W.Frag) : Sp := fun vs H Q _ => ∃ z : Str, vs = [.str z] ∧ z.length ≤ 100000 ∧ Known (TL.tl z) ∧ RetD K (atomD (TL.tl z)) H Q
theorem scAtom : FnScope ["run", "letters", "digits", "body", "sign"] ["run"] (defScope sAtom) := ⟨rfl, rfl, rfl, by decide +kernel, rfl, by decide +kernel, by decide +kernel⟩
abbrev nAtom : List Str := ["run", "letters", "digits", "body", "sign"]
theorem ok_atom {k : Nat} (F : Fun K "_law_atom" "_law_atom" sAtom f fd) (Z : Zs mg) : FnOk P w K mg base CX0 (k + 1) f fd ["run"] (spAtom K) := by
  refine F.ok scAtom (fun vs H Q E h => ?_) (fun cdv A outer s H vs Q E hr h => ?_)
  · obtain ⟨z, rfl, _⟩ := h
    rfl
  obtain ⟨z, rfl, hz, hkn, q⟩ := h
  refine ⟨_, pss_cons (ps_asg (pe_tup (pa_cons pe_str (pa_cons pe_str pa_nil))) (pg_tup rfl (pgs_cons (pg_name (i := 1) scAtom.nd rfl (Or.inr rfl)) (pgs_cons (pg_name (i := 2) scAtom.nd rfl (Or.inr rfl)) pgs_nil))))
    (pss_cons (ps_if (pt_cmpR op_eq (pv 0) pe_str (nomark _)) (pss_one (ps_ret (pe_tup (pa_cons pe_non pa_nil)))) pss_nil)
    (pss_cons (ps_if (PW.pt (pw_and (pt_cmpR op_ne (pv 0) pe_str (nomark _)) (pw_and1 (pt_cmpR op_in_sign (pe_ix ix_str (pv 0) pe_int (fun _ _ => rfl)) (pv 1) rfl))))
      (pss_one (ps_ret (pe_ifExp (pt_cmpR (op_eqD hr.units)
          (pe_lc (own := [("sign", 4)]) (g := gName 4) rfl scAtom.nd (pi_str (pv 0)) (blkOk_by (N := nAtom) (sc := defScope sAtom) (by decide +kernel)) (fun _ _ _ _ _ => pg_name (i := 4) scAtom.nd rfl (Or.inl rfl))
            (fun _ _ _ _ _ => pts_one (pt_cmpR op_notIn_sign (pv 4) (pe_op op_add_str (pv 1) (pv 2)) rfl)) (fun _ _ _ _ _ => pv 4)) (pe_lst pa_nil) (nomark _)) (pe_tup (pa_cons (pv 0) pa_nil)) pe_non))) pss_nil)
    (pss_cons (ps_set (i := 3) scAtom.nd rfl (Or.inl rfl) (pe_ifExp (pt_cmpR op_eq (pe_slice sl_str (pv 0) po_none (po_some pe_int)) pe_str (nomark _)) (pe_slice sl_str (pv 0) (po_some pe_int) po_none) (pv 0)))
    (pss_cons (ps_if (PW.pt (pw_or (pt_cmpR op_eq (pv 3) pe_str (nomark _)) (pw_or (pt_cmpR (op_neD hr.units)
          (pe_lc (own := [("sign", 4)]) (g := gName 4) rfl scAtom.nd (pi_str (pv 3)) (blkOk_by (N := nAtom) (sc := defScope sAtom) (by decide +kernel)) (fun _ _ _ _ _ => pg_name (i := 4) scAtom.nd rfl (Or.inl rfl))
            (fun _ _ _ _ _ => pts_one (pt_cmpR op_notIn_sign (pv 4) (pv 2) rfl)) (fun _ _ _ _ _ => pv 4)) (pe_lst pa_nil) (nomark _))
        (pw_or (pt_cmpR op_gt (pe_callB call_len_str (by rfl) Z.len PySem.boot_len (pa_cons (pv 3) pa_nil)) pe_int (nomark _))
          (pw_or1 (PW.pt (pw_and (pt_cmpR op_eq (pe_ix ix_str (pv 3) pe_int (fun _ _ => rfl)) pe_str (nomark _)) (pw_and1 (pt_cmpR op_ne (pv 0) pe_str (nomark _))))))))))
      (pss_one (ps_ret pe_non)) pss_nil)
    (pss_one (ps_ret (pe_tup (pa_cons (pe_callTy call_int_str (by rfl) Z.int (by decide +kernel) (pa_cons (pv 0) pa_nil)) pa_nil)))))))), ?_⟩
  refine q_asg2 (ea_cons ev_c (ea_cons ev_c ea_nil)) rfl (by show 2 ≤ 1000; decide) fun H1 e1 => ⟨_, _, rfl, _, _, rfl, rfl, ?_⟩
  have hL : mkS (TL.tl z) = z := mkS_tl z
  generalize hl : TL.tl z = l at q hkn hL
  have hlz : l.length ≤ 100000 := by rw [← hl, ← TL.len_tl]; exact hz
  refine q_when (b := decide (l = [45])) (et_is (et_test (ev_op (ev_var rfl) ev_c (rv_eq rfl))) (by rw [eq_lit tl_minus, hl])) (fun hb H2 e2 => ?_) (fun hb H2 e2 => ?_)
  · have z1 : atomD l = .tuple [.none] := by
      unfold atomD atomOf
      rw [if_pos (of_decide_eq_true hb)]
    rw [z1] at q
    exact s_retD (K := K) (ed_tup (ea_cons ev_c ea_nil) (by show 1 ≤ 1000; decide) (.cons .non .nil)) (q.go (e1.trans e2))
  have h45 : l ≠ [45] := of_decide_eq_false hb
  have e12 := e1.trans e2
  -- a word
  by_cases hw : ∃ c r, l = c :: r ∧ isLet c = true
  · obtain ⟨c, r, hcr, hc⟩ := hw
    have h0 : atI z.cps.toList 0 = some c := at0 (by rw [hl]; exact hcr)
    refine q_when (b := true) (et_is (et_and (a := true) (b := isLet c) (et_is (et_test (ev_op (ev_var rfl) ev_c (rv_ne rfl))) (by rw [eq_lit tl_empty, hl, hcr]; rfl)) fun _ =>
      et_is (et_test (ev_op (ev_op (ev_var rfl) ev_c (rv_ixS hz h0)) (ev_var rfl) rv_inS)) (by rw [show TL.tl ("abcdefghijklmnopqrstuvwxyz" : Str) = LET from tl_letters]; rfl)) (by rw [hc]; rfl)) (fun _ H3 e3 => ?_) (fun y => nomatch y)
    have e123 := e12.trans e3
    have lst := lc_text (σ := [some (V.str z), some (V.str "abcdefghijklmnopqrstuvwxyz"), some (V.str "0123456789"), none, none]) (H := H3) (tl := tVar 0)
      (tt := tTest (tOp (fun x y H Q => ∃ (c : Nat) (z : Str), x = .str ⟨#[c]⟩ ∧ y = .str z ∧ Q (.bl (!decide (c ∈ z.cps.toList))) H) (tVar 4) (tOp (fun x y H Q => ∃ i j, x = .str i ∧ y = .str j ∧ i.length + j.length ≤ sizeLine ∧ Q (.str (i ++ j)) H) (tVar 1) (tVar 2)))) (te := tVar 4)
      (j := 4) (vs := [4]) (z := z) (fun c => !isLD c) (fun c => .str ⟨#[c]⟩) (ev_var rfl) hz (fun _ => rfl)
      (fun c H4 _ => et_is (et_test (ev_op (ev_var rfl) (ev_op (ev_var rfl) (ev_var rfl) (rv_addS (by rw [show ("abcdefghijklmnopqrstuvwxyz" : Str).length = 26 from len_letters, show ("0123456789" : Str).length = 10 from len_digits]; decide))) rv_niS)) (congrArg (! ·) ld_both)) (fun c H4 _ _ => ev_var rfl)
    rw [hl] at lst
    have hk2 : Known (l.filter fun c => !isLD c) := fun x hx => hkn x ((List.mem_filter.mp hx).1)
    refine s_retD (K := K) (d := atomD l) (ed_if (et_test (ev_noSigns (K := K) lst hk2)) (fun hb2 => ?_) (fun hb2 => ?_)) (q.go e123)
    · have z1 : atomD l = .tuple [.str z] := by
        unfold atomD
        rw [law_word hcr hc h45, if_pos (of_decide_eq_true hb2)]
        show PyData.tuple [.str (mkS l)] = _
        rw [hL]
      rw [z1]
      exact ed_tup (ea_cons (ev_var rfl) ea_nil) (by show 1 ≤ 1000; decide) (.cons (.str z) .nil)
    · have z1 : atomD l = .none := by
        unfold atomD
        rw [law_word hcr hc h45, if_neg (of_decide_eq_false hb2)]
      rw [z1]
      exact ed_ev ev_c fun _ _ => .non
  have hw2 : ∀ c r, l = c :: r → isLet c = false := fun c r e => by
    cases hc : isLet c with
    | false => rfl
    | true => exact absurd ⟨c, r, e, hc⟩ hw
  refine q_when (b := false) ?_ (fun y => nomatch y) (fun _ H3 e3 => ?_)
  · cases hcr : l with
    | nil => exact et_is (et_and (a := false) (b := true) (et_is (et_test (ev_op (ev_var rfl) ev_c (rv_ne rfl))) (by rw [eq_lit tl_empty, hl, hcr]; rfl)) fun y => nomatch y) rfl
    | cons c r =>
      have h0 : atI z.cps.toList 0 = some c := at0 (by rw [hl]; exact hcr)
      exact et_is (et_and (a := true) (b := isLet c) (et_is (et_test (ev_op (ev_var rfl) ev_c (rv_ne rfl))) (by rw [eq_lit tl_empty, hl, hcr]; rfl)) fun _ =>
        et_is (et_test (ev_op (ev_op (ev_var rfl) ev_c (rv_ixS hz h0)) (ev_var rfl) rv_inS)) (by rw [show TL.tl ("abcdefghijklmnopqrstuvwxyz" : Str) = LET from tl_letters]; rfl)) (by rw [hw2 c r hcr]; rfl)
  have e123 := e12.trans e3
  -- body
  generalize hB : lawBody l = body
  refine q_asg (v := .str (mkS body)) (ev_if (b := decide (l.take 1 = [45])) (et_is (et_test (ev_op (ev_slS (ev_var rfl) eo_none (eo_some ev_c) hz) ev_c (rv_eq rfl))) ?_) (fun hb => ev_is (ev_slS (ev_var rfl) (eo_some ev_c) eo_none hz) ?_) (fun hb => ev_is (ev_var rfl) ?_)) fun H4 e4 => ?_
  · have c1 := cut_to z 1
    rw [show ((1 : Nat) : Int) = 1 from rfl] at c1
    rw [c1, eq_lit tl_minus, tl_mkS, hl]
  · have c1 := cut_from z 1
    rw [show ((1 : Nat) : Int) = 1 from rfl] at c1
    rw [c1, hl, ← hB, lawBody, if_pos (of_decide_eq_true hb)]
  · rw [← hB, lawBody, if_neg (of_decide_eq_false hb), hL]
  have hbl : body.length ≤ 100000 := by
    rw [← hB]
    unfold lawBody
    split
    · rw [List.length_drop]; omega
    · exact hlz
  have hkb : Known body := by
    rw [← hB]
    unfold lawBody
    split
    · exact fun x hx => hkn x (List.mem_of_mem_drop hx)
    · exact hkn
  have hbz : (mkS body).length ≤ 100000 := by rw [mkS_len]; exact hbl
  have e1234 := e123.trans e4
  have hln := law_num h45 hw2
  have lst := lc_text (σ := [some (V.str z), some (V.str "abcdefghijklmnopqrstuvwxyz"), some (V.str "0123456789"), some (V.str (mkS body)), none]) (H := H4) (tl := tVar 3)
      (tt := tTest (tOp (fun x y H Q => ∃ (c : Nat) (z : Str), x = .str ⟨#[c]⟩ ∧ y = .str z ∧ Q (.bl (!decide (c ∈ z.cps.toList))) H) (tVar 4) (tVar 2))) (te := tVar 4)
      (j := 4) (vs := [4]) (z := mkS body) (fun c => !isDig c) (fun c => .str ⟨#[c]⟩) (ev_var rfl) hbz (fun _ => rfl)
      (fun c H5 _ => et_is (et_test (ev_op (ev_var rfl) (ev_var rfl) rv_niS)) (by rw [show TL.tl ("0123456789" : Str) = DIG from tl_digits]; rfl)) (fun c H5 _ _ => ev_var rfl)
  rw [tl_mkS] at lst
  have hk2 : Known (body.filter fun c => !isDig c) := fun x hx => hkb x ((List.mem_filter.mp hx).1)
  refine q_when (b := lawNum l) ?_ (fun hb3 H5 e5 => ?_) (fun hb3 H5 e5 => ?_)
  · refine et_is (et_or (a := decide (body = [])) (b := decide (body.filter (fun c => !isDig c) ≠ []) || (decide (40 < body.length) || (decide (body.take 1 = [48]) && decide (l ≠ [48])))) (et_is (et_test (ev_op (ev_var rfl) ev_c (rv_eq rfl))) (by rw [eq_lit tl_empty, tl_mkS])) fun hb4 => ?_) (by rw [lawNum, hB])
    refine et_or (et_is (et_test (ev_anySigns (K := K) lst hk2)) (decide_not ..).symm) fun _ => ?_
    refine et_or (et_is (et_test (ev_op (ev_cb (ea_cons (ev_var rfl) ea_nil) (z := .int ((mkS body).length : Int)) fun H5 e5 Q' q' => ⟨_, rfl, sz_of hbz, q' H5 (Ex.refl H5)⟩) ev_c (rv_I0 (g := fun i j => .bl (decide (i > j)))))) ?_) fun _ => ?_
    · rw [mkS_len]
      by_cases y : 40 < body.length
      · rw [decide_eq_true y, decide_eq_true (by omega)]
      · rw [decide_eq_false y, decide_eq_false (by omega)]
    · obtain ⟨c, t, hct⟩ : ∃ c t, body = c :: t := by
        cases body with
        | nil => exact absurd rfl (of_decide_eq_false hb4)
        | cons c t => exact ⟨c, t, rfl⟩
      have hc0 : atI (mkS body).cps.toList 0 = some c := at0 (by rw [tl_mkS]; exact hct)
      exact et_and (et_is (et_test (ev_op (ev_op (ev_var rfl) ev_c (rv_ixS hbz hc0)) ev_c (rv_eq rfl))) (by rw [sign_eq tl_zero, take1_iff hct])) fun _ => et_is (et_test (ev_op (ev_var rfl) ev_c (rv_ne rfl))) (by rw [eq_lit tl_zero, hl]; simp)
  · have z1 : atomD l = .none := by
      unfold atomD
      rw [hln, if_pos hb3]
    rw [z1] at q
    exact s_retD (K := K) (ed_ev ev_c fun _ _ => .non) (q.go (e1234.trans e5))
  rw [hb3, if_neg Bool.false_ne_true] at hln
  have z1 : atomD l = .tuple [.int (if l.take 1 = [45] then - ((NumText.digitsVal (l.drop 1) : Nat) : Int) else ((NumText.digitsVal l : Nat) : Int))] := by
    unfold atomD
    rw [hln]
  rw [z1] at q
  have hb3' : (decide (body = []) || (decide (body.filter (fun c => !isDig c) ≠ []) || (decide (40 < body.length) || (decide (body.take 1 = [48]) && decide (l ≠ [48]))))) = false := by
    rw [← hb3, lawNum, hB]
  obtain ⟨n1, hb4⟩ := Bool.or_eq_false_iff.mp hb3'
  obtain ⟨n2, hb5⟩ := Bool.or_eq_false_iff.mp hb4
  obtain ⟨n3, _⟩ := Bool.or_eq_false_iff.mp hb5
  have g1 : body ≠ [] := of_decide_eq_false n1
  have g2 : body.all isDig = true := by
    have y := of_decide_eq_false n2
    exact filter_nil_iff.mp (Classical.byContradiction fun y2 => y y2)
  have g3 : ¬ 40 < body.length := of_decide_eq_false n3
  have dg : ∀ c ∈ body, 48 ≤ c ∧ c ≤ 57 := fun c hc => dig_iff.mp (List.all_eq_true.mp g2 c hc)
  have hzl : z.length ≤ 41 := by
    rw [TL.len_tl, hl]
    have : l.length ≤ body.length + 1 := by
      rw [← hB]
      unfold lawBody
      split
      · rw [List.length_drop]; omega
      · omega
    omega
  have hint : PySem.intText? z = some (if l.take 1 = [45] then - ((NumText.digitsVal (l.drop 1) : Nat) : Int) else ((NumText.digitsVal l : Nat) : Int)) := by
    by_cases y : l.take 1 = [45]
    · have eb : body = l.drop 1 := by rw [← hB, lawBody, if_pos y]
      rw [if_pos y, ← eb]
      have el := take1_drop y
      rw [← eb] at el
      exact intText_neg (x := z) (cs := body) (hl.trans el) dg g1 (by omega)
    · have eb : body = l := by rw [← hB, lawBody, if_neg y]
      rw [if_neg y, ← eb]
      have e := intText_digits (x := z) (by rw [show z.cps.toList = body from hl.trans eb.symm]; exact dg) (by rw [show z.cps.toList = body from hl.trans eb.symm]; exact g1) (by omega)
      rw [show z.cps.toList = body from hl.trans eb.symm] at e
      exact e
  exact s_retD (K := K) (ed_tup (ea_cons (ev_cb (ea_cons (ev_var rfl) ea_nil) (z := .int (if l.take 1 = [45] then - ((NumText.digitsVal (l.drop 1) : Nat) : Int) else ((NumText.digitsVal l : Nat) : Int))) fun H6 e6 Q' q' => ⟨z, _, rfl, hint, by omega, q' H6 (Ex.refl H6)⟩) ea_nil) (by show 1 ≤ 1000; decide) (.cons (.int _) .nil)) (q.go (e1234.trans e5))
end
end K9

set_option Elab.async false
set_option linter.all false
set_option maxRecDepth 100000
set_option maxHeartbeats 4000000
/- K98: _law_at. -/
namespace K9
open PySem PySem.Spec PyProof.Rows L2 Evl
section
variable {P : Program} {w : World} {K : PySem.W.Frag} {mg : Str → Option Value} {base : Heap} {f : Addr} {fd : FuncData} {σ : L2.St} {H : Hp}
/-! ### what evaluates to data, once more -/
def EvDs (K : PySem.W.Frag) (ta : TA) (σ : L2.St) (H : Hp) (ds : List PyData) : Prop := ∀ H1, Ex H H1 → ∀ Q : List V → Hp → Prop, (∀ vs H2, Ex H1 H2 → TDs K H2 vs ds → Q vs H2) → ta σ H1 Q
theorem eds_nil : EvDs K tNil σ H [] := fun H1 _ _ q => q [] H1 (Ex.refl H1) .nil
theorem eds_cons {te : TE} {tr : TA} {d : PyData} {ds : List PyData} (h : EvD K te σ H d) (hr : EvDs K tr σ H ds) : EvDs K (tCons te tr) σ H (d :: ds) := fun H1 e Q q =>
  h H1 e _ fun v H2 e2 z => hr H2 (e.trans e2) _ fun vs H3 e3 zs => q (v :: vs) H3 (e2.trans e3) (.cons (TD.ex e3 z) zs)
theorem ed_tupD {ta : TA} {ds : List PyData} (h : EvDs K ta σ H ds) (hz : ds.length ≤ 1000) : EvD K (tTup ta) σ H (.tuple ds) := fun H1 e Q q =>
  h H1 e _ fun vs H2 e2 zs => ⟨sz_of (by rw [TDs.len zs]; omega), fun p hp => q (.ref p) _ (e2.trans (Ex.new hp)) (.tup (st_of upd_same) (TDs.ex (Ex.new hp) zs))⟩
theorem ed_int {te : TE} {i : Int} (h : Ev te σ H (.int i)) : EvD K te σ H (.int i) := ed_ev h fun _ _ => .int i
theorem ed_non {te : TE} (h : Ev te σ H .non) : EvD K te σ H .none := ed_ev h fun _ _ => .non
/-- tuple(l) of a list of data -/
theorem ed_tupOf {te : TE} {l : Addr} {vs : List V} {ds : List PyData} (h : Ev te σ H (.ref l)) (hl : SqL K H l vs) (hd : TDs K H vs ds) :
    EvD K (tCB (fun xs H Q => ∃ p ys, xs = [.ref p] ∧ ((SqL K H p ys ∧ ∀ l, H l = none → Q (.ref l) (upd H l (.tup ys))) ∨ (SqT K H p ys ∧ Q (.ref p) H))) (tCons te tNil)) σ H (.tuple ds) := fun H1 e Q q =>
  h H1 e _ fun H2 e2 => ⟨l, vs, rfl, .inl ⟨ex_l (e.trans e2) hl, fun p hp => q (.ref p) _ (e2.trans (Ex.new hp)) (.tup (st_of upd_same) (TDs.ex ((e.trans e2).trans (Ex.new hp)) hd))⟩⟩
theorem q_asgD {te : TE} {tz : TS} {D : Ends} {i : Nat} {d : PyData} (h : EvD K te σ H d) (k : ∀ v H1, Ex H H1 → TD K H1 v d → tz D (σ.set i (some v)) H1) : tSeq (tAsg te (gName i)) tz D σ H :=
  h H (Ex.refl H) _ fun v H1 e z => k v H1 e z
theorem td_pair {H : Hp} {v : V} {d1 d2 : PyData} (h : TD K H v (.tuple [d1, d2])) : ∃ a v1 v2, v = .ref a ∧ SqT K H a [v1, v2] ∧ TD K H v1 d1 ∧ TD K H v2 d2 := by
  cases h with
  | tup h1 h2 =>
    cases h2 with
    | cons y1 y2 =>
      cases y2 with
      | cons y3 y4 =>
        cases y4
        exact ⟨_, _, _, rfl, h1, y1, y3⟩
theorem td_one {H : Hp} {v : V} {d : PyData} (h : TD K H v (.tuple [d])) : ∃ a v1, v = .ref a ∧ SqT K H a [v1] ∧ TD K H v1 d := by
  cases h with
  | tup h1 h2 =>
    cases h2 with
    | cons y1 y2 =>
      cases y2
      exact ⟨_, _, rfl, h1, y1⟩
theorem q_asg2D {te : TE} {t : TGs} {tz : TS} {D : Ends} {d1 d2 : PyData} (h : EvD K te σ H (.tuple [d1, d2])) (k : ∀ v1 v2 H1, Ex H H1 → TD K H1 v1 d1 → TD K H1 v2 d2 → t [v1, v2] σ H1 (tz D)) : tSeq (tAsg te (gTup K 2 t)) tz D σ H :=
  h H (Ex.refl H) _ fun v H1 e z => by
    obtain ⟨a, v1, v2, rfl, hs, y1, y2⟩ := td_pair z
    exact ⟨a, _, rfl, hs, rfl, k v1 v2 H1 e y1 y2⟩
/-- a, b = ([], e) -/
theorem q_parL {te : TE} {w : V} {i j : Nat} {tz : TS} {D : Ends} (h : Ev te σ H w) (k : ∀ l H1, H l = none → Ex H H1 → H1 l = some (.lst []) → tz D ((σ.set i (some (.ref l))).set j (some w)) H1) : tSeq (tPar i j (tCons (tLst tNil) (tCons te tNil))) tz D σ H :=
  show tLst tNil σ H (fun x H1 => te σ H1 fun y H2 => ∃ v w', [x, y] = [v, w'] ∧ tz D ((σ.set i (some v)).set j (some w')) H2) from
    (el_lst (σ := σ) (H := H) (vs := []) ea_nil (by show 0 ≤ 100000; decide)) H (Ex.refl H) _ fun l H1 hl e hh => h H1 e _ fun H2 e2 => ⟨_, _, rfl, k l H2 hl (e.trans e2) (e2 l _ hh)⟩
/-- a list changed: tuples stand -/
theorem upd_tk {H : Hp} {l : Addr} {xs ys : List V} (h : H l = some (.lst xs)) : TupKeep K H (upd H l (.lst ys)) := by
  intro a zs hz
  by_cases e : a = l
  · subst e
    rcases hz with (z | ⟨o, z⟩) | z
    · rw [h] at z; cases z
    · rw [h] at z; cases z
    · exact .inr z
  · rcases hz with (z | ⟨o, z⟩) | z
    · exact .inl (.inl (by rw [upd_ne e]; exact z))
    · exact .inl (.inr ⟨o, by rw [upd_ne e]; exact z⟩)
    · exact .inr z
/-- is a list of data not empty -/
theorem data_shaped {ds : List PyData} {c : Nat} (h : FitAll ds c 60) : SeqAt.shaped (.list ds) = true := by
  have h1 : PyData.canLay0 (.list ds) = true := by rw [PyData.canLay0]; exact h.lay
  have h2 : PyData.depth (.list ds) ≤ 64 := by
    rw [PyData.depth]
    have := h.dep
    omega
  show (_ && decide _) = true
  rw [h1, decide_eq_true h2]; rfl
theorem data_eqv (l : List PyData) : PyData.eqv (.list l) (.list []) = decide (l = []) := by
  cases l <;> rfl
theorem ev_someD {te : TE} {l : Addr} {vs : List V} {ds : List PyData} {c : Nat} (h : Ev te σ H (.ref l)) (hl : SqL K H l vs) (hd : TDs K H vs ds) (hf : FitAll ds c 60) : Ev (tOp (rNeD K) te (tLst tNil)) σ H (.bl (!decide (ds = []))) :=
  ev_opL h (el_lst ea_nil (by decide)) fun q H1 hq e1 => rv_val fun H2 e2 Q k => ⟨.list ds, .list [], .lst (ex_l (e1.trans e2) hl) (TDs.dp ds vs (TDs.ex (e1.trans e2) hd)), .lst (sq_of (e2 q _ hq)) .nil, data_shaped hf, by decide, by rw [data_eqv]; exact k⟩
/-! ### one sign -/
theorem cut_one (z : Str) (p : Nat) : cutS z (some (p : Int)) (some ((p : Int) + 1)) = mkS (((TL.tl z).drop p).take 1) := by
  have e := cut_mid z p (p + 1) (by omega)
  rw [show ((p + 1 : Nat) : Int) = (p : Int) + 1 from rfl] at e
  rw [e]
  congr 2
  omega
theorem suffix_at {r l : List Nat} (h : r <:+ l) : l.drop (l.length - r.length) = r := by
  obtain ⟨t, rfl⟩ := h
  rw [List.length_append, show t.length + r.length - r.length = t.length by omega, List.drop_left]
theorem run_at : ∀ {r : List Nat} {i c : Nat}, r[i]? = some c → i ≤ (runOf r).length → goOn c = decide (i < (runOf r).length)
  | [], i, c, h, _ => by simp at h
  | x :: t, i, c, h, hi => by
    cases hg : goOn x with
    | false =>
      have e : runOf (x :: t) = [] := by
        unfold runOf
        rw [List.takeWhile_cons_of_neg (by rw [hg]; exact Bool.false_ne_true)]
      rw [e] at hi ⊢
      have : i = 0 := by simpa using hi
      subst this
      simp at h
      subst h
      rw [hg]; rfl
    | true =>
      have e : runOf (x :: t) = x :: runOf t := by
        unfold runOf
        rw [List.takeWhile_cons_of_pos hg]
      rw [e] at hi ⊢
      cases i with
      | zero =>
        simp at h
        subst h
        rw [hg]
        simp
      | succ i =>
        rw [run_at (r := t) (i := i) (c := c) (by simpa using h) (by simpa using hi)]
        simp
theorem run_take : ∀ r : List Nat, r.take (runOf r).length = runOf r
  | [] => rfl
  | x :: t => by
    cases hg : goOn x with
    | false =>
      have e : runOf (x :: t) = [] := by
        unfold runOf
        rw [List.takeWhile_cons_of_neg (by rw [hg]; exact Bool.false_ne_true)]
      rw [e]; rfl
    | true =>
      have e : runOf (x :: t) = x :: runOf t := by
        unfold runOf
        rw [List.takeWhile_cons_of_pos hg]
      rw [e]
      show x :: t.take (runOf t).length = _
      rw [run_take t]
theorem opens_head {r : List Nat} (h : r.take 1 = [40]) : opens r = opens (r.drop 1) + 1 := by
  have e := take1_drop h
  conv => lhs; rw [e]
  unfold opens
  rw [List.count_cons]
  simp
theorem tl_sep : TL.tl (Str.ofString " ()") = [32, 40, 41] := by rw [TL.tl_ofString]; rfl
theorem tl_open : TL.tl (Str.ofString "(") = [40] := by rw [TL.tl_ofString]; rfl
theorem tl_close : TL.tl (Str.ofString ")") = [41] := by rw [TL.tl_ofString]; rfl
theorem tl_blank : TL.tl (Str.ofString " ") = [32] := by rw [TL.tl_ofString]; rfl
/-- the sign at a place, as a text of one sign or none -/
theorem ev_signAt {i j : Nat} {z : Str} {p : Nat} (h : σ[i]? = some (some (.str z))) (h2 : σ[j]? = some (some (.int p))) (hz : z.length ≤ 100000) :
    Ev (tSl rSlS (tVar i) (tPart (tVar j)) (tPart (tOp (rI0 fun i j => .int (i + j)) (tVar j) (tC (.int 1))))) σ H (.str (mkS (((TL.tl z).drop p).take 1))) :=
  ev_is (ev_slS (ev_var h) (eo_some (ev_var h2)) (eo_some (ev_op (ev_var h2) ev_c rv_I0)) hz) (congrArg V.str (cut_one z p))
def atRes (L : Nat) : Res → PyData
  | .ok d r => .tuple [d, .int ((L - r.length : Nat) : Int)]
  | .bad r => .tuple [.none, .int (-1 - ((L - r.length : Nat) : Int))]
theorem at_ok {L e : Nat} {d : PyData} {r : List Nat} (h : L - r.length = e) : atRes L (.ok d r) = .tuple [d, .int (e : Int)] := by
  subst h; rfl
theorem at_bad {L e : Nat} {r : List Nat} (h : L - r.length = e) : atRes L (.bad r) = .tuple [.none, .int (-1 - (e : Int))] := by
  subst h; rfl
def spAt (K : PySem.W.Frag) (n : Nat) : Sp := fun vs H Q _ => ∃ (z : Str) (p m : Nat) (res : Res), vs = [.str z, .int p] ∧ z.length ≤ 20000 ∧ Known (TL.tl z) ∧ p ≤ z.length ∧ opens ((TL.tl z).drop p) ≤ n ∧ rdv m ((TL.tl z).drop p) = some res ∧ RetD K (atRes z.length res) H Q
abbrev nAt : List Str := ["text", "at", "end", "more", "atom", "found", "turn", "value"]
theorem scAt : FnScope nAt ["text", "at"] (defScope sAt) := ⟨rfl, rfl, rfl, by decide +kernel, rfl, by decide +kernel, by decide +kernel⟩
theorem step_at {fa : Addr} {fda : FuncData} (F : Fun K "_law_at" "_law_at" sAt f fd) (Z : Zs mg) (C : Callee K mg "_law_at" f fd ["text", "at"]) (CA : Callee K mg "_law_atom" fa fda ["run"]) (GA : FnOk P w K mg base CX0 1 fa fda ["run"] (spAtom K))
    (n : Nat) (hn : n ≤ 60) (spIn : Sp) (G : FnOk P w K mg base CX0 (n + 1) f fd ["text", "at"] spIn) (hin : ∀ m, n = m + 1 → ∀ vs H Q E, spAt K m vs H Q E → spIn vs H Q E) :
    FnOk P w K mg base CX0 (n + 2) f fd ["text", "at"] (spAt K n) := by
  refine F.ok scAt (fun vs H Q E h => ?_) (fun cdv A outer s H vs Q E hr h => ?_)
  · obtain ⟨z, p, m, res, rfl, _⟩ := h
    rfl
  obtain ⟨z, p, m, res, rfl, hz, hkn, hp, ho, hv, q⟩ := h
  have hr1 : Room 1 _ := hr.mono (by omega)
  refine ⟨_, pss_cons (ps_if (pt_cmpR op_ne (pe_slice sl_str (pv 0) (po_some (pv 1)) (po_some (pe_op op_add (pv 1) pe_int))) pe_str (nomark _))
      (pss_cons (ps_set (i := 2) scAt.nd rfl (Or.inl rfl) (pv 1))
      (pss_cons (ps_for PassesOwn.never rfl (pi_range2 (by rfl) Z.range (pa_cons (pv 1) (pa_cons (pe_callB call_len_str (by rfl) Z.len PySem.boot_len (pa_cons (pv 0) pa_nil)) pa_nil))) (pg_name (i := 3) scAt.nd rfl (Or.inl rfl))
        (pss_one (ps_set (i := 2) scAt.nd rfl (Or.inl rfl) (pe_ifExp (PW.pt (pw_and (pt_cmpR op_eq (pv 3) (pv 2) (nomark _)) (pw_and1 (pt_cmpR op_notIn_sign (pe_ix ix_str (pv 0) (pv 3) (fun _ _ => rfl)) pe_str rfl)))) (pe_op op_add (pv 3) pe_int) (pv 2)))))
      (pss_cons (ps_set (i := 4) scAt.nd rfl (Or.inl rfl) (pe_call GA hr1 (by rfl) CA.m CA.k CA.b .nil pass0 (pa_cons (pe_slice sl_str (pv 0) (po_some (pv 1)) (po_some (pv 2))) pa_nil)))
      (pss_one (ps_ret (pe_ifExp (pt_cmpR op_notN (pv 4) pe_non (nomark _)) (pe_tup (pa_cons (pe_ix ix_tup (pv 4) pe_int (fun _ _ => rfl)) (pa_cons (pv 2) pa_nil))) (pe_tup (pa_cons pe_non (pa_cons (pe_op op_sub (pe_un un_neg pe_int) (pv 1)) pa_nil))))))))) pss_nil)
    (pss_cons (ps_par (i := 5) (j := 1) rfl scAt.nd rfl rfl (by decide) rfl rfl (pa_cons (pe_lst pa_nil) (pa_cons (pe_op op_add (pv 1) pe_int) pa_nil)) rfl)
    (pss_cons (ps_for PassesOwn.never rfl (pi_range1 (by rfl) Z.range (pa_cons (pe_op op_add (pe_callB call_len_str (by rfl) Z.len PySem.boot_len (pa_cons (pv 0) pa_nil)) pe_int) pa_nil)) (pg_name (i := 6) scAt.nd rfl (Or.inl rfl))
      (pss_cons (ps_if (pt_cmpR op_eq (pe_slice sl_str (pv 0) (po_some (pv 1)) (po_some (pe_op op_add (pv 1) pe_int))) pe_str (nomark _)) (pss_one (ps_ret (pe_tup (pa_cons (pe_callTy call_tuple_of (by rfl) Z.tuple (by decide +kernel) (pa_cons (pv 5) pa_nil)) (pa_cons (pe_op op_add (pv 1) pe_int) pa_nil))))) pss_nil)
      (pss_cons (ps_if (PW.pt (pw_and (pt_cmpR (op_neD hr.units) (pv 5) (pe_lst pa_nil) (nomark _)) (pw_and1 (pt_cmpR op_ne (pe_slice sl_str (pv 0) (po_some (pv 1)) (po_some (pe_op op_add (pv 1) pe_int))) pe_str (nomark _))))) (pss_one (ps_ret (pe_tup (pa_cons pe_non (pa_cons (pe_op op_sub (pe_un un_neg pe_int) (pv 1)) pa_nil))))) pss_nil)
      (pss_cons (ps_asg (pe_call G (hr.mono (by omega)) (by rfl) C.m C.k C.b .nil pass0 (pa_cons (pv 0) (pa_cons (pe_ifExp (pt_cmpR (op_neD hr.units) (pv 5) (pe_lst pa_nil) (nomark _)) (pe_op op_add (pv 1) pe_int) (pv 1)) pa_nil))) (pg_tup rfl (pgs_cons (pg_name (i := 7) scAt.nd rfl (Or.inl rfl)) (pgs_cons (pg_name (i := 2) scAt.nd rfl (Or.inl rfl)) pgs_nil))))
      (pss_cons (ps_if (pt_cmpR op_lt (pv 2) pe_int (nomark _)) (pss_one (ps_ret (pe_tup (pa_cons pe_non (pa_cons (pv 2) pa_nil))))) pss_nil)
      (pss_cons (ps_expr (pe_bm PySem.F.plainAttrs_list PySem.F.slot_list_append PySem.F.type_list_append mt_append (pv 5) (pa_cons (pv 7) pa_nil)))
      (pss_one (ps_set (i := 1) scAt.nd rfl (Or.inl rfl) (pv 2)))))))))
    (pss_one (ps_ret (pe_tup (pa_cons pe_non (pa_cons (pe_op op_sub (pe_un un_neg pe_int) (pv 1)) pa_nil))))))), ?_⟩
  have hL : (TL.tl z).length = z.length := (TL.len_tl z).symm
  generalize hl : TL.tl z = l at hkn ho hv hL
  generalize hr0 : l.drop p = r at ho hv
  have hrl : r.length = z.length - p := by rw [← hr0, List.length_drop, hL]
  obtain ⟨m, rfl⟩ : ∃ k, m = k + 1 := by
    cases m with
    | zero => rw [rdv] at hv; cases hv
    | succ k => exact ⟨k, rfl⟩
  have hz5 : z.length ≤ 100000 := by omega
  refine q_when (b := !decide (r.take 1 = [40])) (et_is (et_test (ev_op (ev_signAt (i := 0) (j := 1) rfl rfl hz5) ev_c (rv_ne rfl))) (by rw [eq_lit tl_open, tl_mkS, hl, hr0])) (fun hb H1 e1 => ?_) (fun hb H1 e1 => ?_)
  · -- no bracket
    have h40 : r.take 1 ≠ [40] := by simpa using hb
    refine q_asg (v := .int p) (ev_var rfl) fun H2 e2 => ?_
    generalize hk : (runOf r).length = k
    have hkr : k ≤ r.length := by rw [← hk]; exact runOf_le r
    refine q_forR2 (lo := (p : Int)) (n := (z.length : Int)) (ea_cons (ev_var rfl) (ea_cons (ev_cb (ea_cons (ev_var rfl) ea_nil) fun H3 e3 Q' q' => ⟨z, rfl, sz_of hz5, q' H3 (Ex.refl H3)⟩) ea_nil)) (by omega)
      (fun i σ' H' => Ex H H' ∧ ∃ v3, σ' = [some (.str z), some (.int p), some (.int ((p + min i k : Nat) : Int)), v3, none, none, none, none]) (fun H3 e3 => ⟨(e1.trans e2).trans e3, none, by rw [Nat.zero_min]; rfl⟩) ?_ ?_
    · rintro i σ' H' hi ⟨x1, v3, rfl⟩
      have hi2 : p + i < l.length := by omega
      obtain ⟨c, hc⟩ : ∃ c, l[p + i]? = some c := ⟨l[p + i], List.getElem?_eq_getElem hi2⟩
      have hcr : r[i]? = some c := by rw [← hr0, List.getElem?_drop]; exact hc
      have hat : atI z.cps.toList (((p + i : Nat)) : Int) = some c := by
        have : atI (TL.tl z) (((p + i : Nat)) : Int) = some c := atI_nat (by rw [hl]; exact hc)
        exact this
      have hpi : ((p : Int) + (i : Int)) = ((p + i : Nat) : Int) := rfl
      refine s_asg (v := .int ((p + min (i + 1) k : Nat) : Int)) (ev_if (b := decide (i ≤ k) && goOn c) (et_and (et_is (et_test (ev_op (ev_var rfl) (ev_var rfl) (rv_eq rfl))) ?_) fun _ => et_is (et_test (ev_op (ev_op (ev_var rfl) (ev_is (ev_var rfl) (congrArg V.int hpi)) (rv_ixS hz5 hat)) ev_c rv_niS)) (by rw [tl_sep]; rfl))
        (fun hb2 => ev_is (ev_op (ev_var rfl) ev_c (rv_I0 (g := fun i j => .int (i + j)))) (congrArg V.int ?_)) (fun hb2 => ev_is (ev_var rfl) (congrArg V.int ?_))) fun H4 e4 => ⟨x1.trans e4, _, rfl⟩
      · by_cases y : i ≤ k
        · rw [decide_eq_true y, decide_eq_true]
          rw [hpi, Nat.min_eq_left y]
        · rw [decide_eq_false y, decide_eq_false]
          intro w2
          have w3 := V.int.inj w2
          rw [Nat.min_eq_right (by omega)] at w3
          omega
      · obtain ⟨b1, b2⟩ := Bool.and_eq_true_iff.mp hb2
        have b1' : i ≤ k := of_decide_eq_true b1
        rw [run_at hcr (by omega), hk] at b2
        have b2' : i < k := of_decide_eq_true b2
        rw [Nat.min_eq_left (by omega)]
        omega
      · by_cases y : i ≤ k
        · rw [decide_eq_true y, Bool.true_and, run_at hcr (by omega), hk] at hb2
          have b2' : ¬ i < k := of_decide_eq_false hb2
          rw [Nat.min_eq_right (by omega), Nat.min_eq_right (by omega)]
        · rw [Nat.min_eq_right (by omega), Nat.min_eq_right (by omega)]
    · rintro σ' H' ⟨x1, v3, rfl⟩
      have hmin : min ((z.length : Int) - (p : Int)).toNat k = k := Nat.min_eq_right (by omega)
      rw [hmin]
      have hcut : cutS z (some (p : Int)) (some ((p + k : Nat) : Int)) = mkS (runOf r) := by
        rw [cut_mid z p (p + k) (by omega), hl, hr0, show p + k - p = k by omega, ← hk, run_take]
      have hrun : (runOf r).length ≤ 100000 := by omega
      refine q_asgD (K := K) (d := atomD (runOf r)) (ed_call (ea_cons (ev_is (ev_slS (ev_var rfl) (eo_some (ev_var rfl)) (eo_some (ev_var rfl)) hz5) (congrArg V.str hcut)) ea_nil) fun H2 e2 Q' q' => ⟨mkS (runOf r), rfl, by rw [mkS_len]; exact hrun, ?_, by rw [tl_mkS]; exact q'⟩) fun v H3 e3 hv3 => ?_
      · rw [tl_mkS]
        intro x hx
        have hx2 : x ∈ r := (List.takeWhile_sublist _).subset hx
        rw [← hr0] at hx2
        exact hkn x (List.mem_of_mem_drop hx2)
      have x3 := x1.trans e3
      cases ha : atomOf (runOf r) with
      | some d =>
        rw [pv_atom h40 ha] at hv
        cases hv
        have z1 : atomD (runOf r) = .tuple [d] := by unfold atomD; rw [ha]
        rw [z1] at hv3
        obtain ⟨a, v1, rfl, hs, hd⟩ := td_one hv3
        have z2 : atRes z.length (.ok d (r.drop (runOf r).length)) = .tuple [d, .int ((p + k : Nat) : Int)] := at_ok (by rw [List.length_drop, hk, hrl]; omega)
        rw [z2] at q
        refine s_retD (K := K) (ed_if (b := true) (et_is (et_test (ev_op (ev_var rfl) ev_c (rv_val (z := .bl true) fun H4 _ Q' q' => ⟨rfl, q'⟩))) rfl) (fun _ => ed_tupD (eds_cons (ed_ev (ev_op (ev_var rfl) ev_c (rv_ixT hs rfl)) fun H4 e4 => TD.ex e4 hd) (eds_cons (ed_int (ev_var rfl)) eds_nil)) (by show 2 ≤ 1000; decide)) (fun y => nomatch y)) (q.go x3)
      | none =>
        rw [pv_none h40 ha] at hv
        cases hv
        have z1 : atomD (runOf r) = .none := by unfold atomD; rw [ha]
        rw [z1] at hv3
        cases hv3
        have z2 : atRes z.length (.bad r) = .tuple [.none, .int (-1 - (p : Int))] := at_bad (by omega)
        rw [z2] at q
        refine s_retD (K := K) (ed_if (b := false) (et_is (et_test (ev_op (ev_var rfl) ev_c (rv_val (z := .bl false) fun H4 _ Q' q' => ⟨rfl, q'⟩))) rfl) (fun y => nomatch y) (fun _ => ed_tupD (eds_cons (ed_non ev_c) (eds_cons (ed_int (ev_op (ev_un ev_c ru_neg) (ev_var rfl) rv_I0)) eds_nil)) (by show 2 ≤ 1000; decide))) (q.go x3)
  · -- a bracket
    have h40 : r.take 1 = [40] := by simpa using hb
    rw [pv_open h40] at hv
    have hop := opens_head h40
    have hr1d : r.drop 1 = l.drop (p + 1) := by rw [← hr0, List.drop_drop]
    have hrpos : 1 ≤ r.length := by
      rw [take1_drop h40, List.length_cons]; omega
    obtain ⟨n0, rfl⟩ : ∃ n0, n = n0 + 1 := ⟨n - 1, by omega⟩
    refine q_parL (w := .int (((p + 1 : Nat)) : Int)) (ev_op (ev_var rfl) ev_c (rv_I0 (g := fun i j => .int (i + j)))) fun lf H2 hlf e2 hf => ?_
    have hlf0 : H lf = none := fresh_back e1 hlf
    refine q_forR1 (n := (z.length : Int) + 1) (ea_cons (ev_op (ev_cb (ea_cons (ev_var rfl) ea_nil) (z := .int (z.length : Int)) fun H3 e3 Q' q' => ⟨z, rfl, sz_of hz5, q' H3 (Ex.refl H3)⟩) ev_c (rv_I0 (g := fun i j => .int (i + j)))) ea_nil) (by omega)
      (fun i σ' H' => ∃ (p' m' c : Nat) (acc : List PyData) (vs : List V) (e t v : Option V), σ' = [some (.str z), some (.int (p' : Int)), e, none, none, some (.ref lf), t, v] ∧ Ex H H' ∧ H' lf = some (.lst vs) ∧ TDs K H' vs acc ∧ acc.length ≤ i ∧ p + 1 + i ≤ p' ∧ p' ≤ z.length ∧
        opens (l.drop p') ≤ n0 ∧ rdl m' acc (l.drop p') = some res ∧ FitAll acc c 60)
      (fun H3 e3 => ⟨p + 1, m, 0, [], [], none, none, none, rfl, (e1.trans e2).trans e3, e3 lf _ hf, .nil, Nat.le_refl _, Nat.le_refl _, by omega, by rw [← hr1d]; omega, by rw [← hr1d]; exact hv, fitAll_nil _⟩) ?_ ?_
    · rintro i σ' H' hi ⟨p', m', c, acc, vs, e, t, v, rfl, x1, x2, x3, x4, x5, x6, x7, x8, x9⟩
      obtain ⟨m', rfl⟩ : ∃ k, m' = k + 1 := by
        cases m' with
        | zero => rw [rdl] at x8; cases x8
        | succ k => exact ⟨k, rfl⟩
      generalize hr' : l.drop p' = r' at x7 x8
      have hrl' : r'.length = z.length - p' := by rw [← hr', List.length_drop, hL]
      refine q_when (b := decide (r'.take 1 = [41])) (et_is (et_test (ev_op (ev_signAt (i := 0) (j := 1) rfl rfl hz5) ev_c (rv_eq rfl))) (by rw [eq_lit tl_close, tl_mkS, hl, hr'])) (fun hb2 H3 e3 => ?_) (fun hb2 H3 e3 => ?_)
      · have h41 : r'.take 1 = [41] := of_decide_eq_true hb2
        rw [pl_close h41] at x8
        cases x8
        have h1 : 1 ≤ r'.length := by rw [take1_drop h41, List.length_cons]; omega
        rw [at_ok (e := p' + 1) (by rw [List.length_drop]; omega)] at q
        exact s_retD (K := K) (ed_tupD (eds_cons (ed_tupOf (ev_var rfl) (sq_of (e3 lf _ x2)) (TDs.ex e3 x3)) (eds_cons (ed_int (ev_op (ev_var rfl) ev_c (rv_I0 (g := fun i j => .int (i + j))))) eds_nil)) (by show 2 ≤ 1000; decide)) (q.go (x1.trans e3))
      have h41 : r'.take 1 ≠ [41] := of_decide_eq_false hb2
      refine q_when (b := !decide (acc = []) && !decide (r'.take 1 = [32])) (et_and (et_test (ev_someD (K := K) (ev_var rfl) (sq_of (e3 lf _ x2)) (TDs.ex e3 x3) x9)) fun _ => et_is (et_test (ev_op (ev_signAt (i := 0) (j := 1) rfl rfl hz5) ev_c (rv_ne rfl))) (by rw [eq_lit tl_blank, tl_mkS, hl, hr'])) (fun hb3 H4 e4 => ?_) (fun hb3 H4 e4 => ?_)
      · obtain ⟨b1, b2⟩ := Bool.and_eq_true_iff.mp hb3
        have h1 : acc ≠ [] := by simpa using b1
        have h2 : r'.take 1 ≠ [32] := by simpa using b2
        rw [pl_bad h41 h1 h2] at x8
        cases x8
        rw [at_bad (e := p') (by omega)] at q
        exact s_retD (K := K) (ed_tupD (eds_cons (ed_non ev_c) (eds_cons (ed_int (ev_op (ev_un ev_c ru_neg) (ev_var rfl) rv_I0)) eds_nil)) (by show 2 ≤ 1000; decide)) (q.go ((x1.trans e3).trans e4))
      have hs : acc ≠ [] → r'.take 1 = [32] := fun a => Classical.byContradiction fun b => by
        rw [decide_eq_false a, decide_eq_false b] at hb3
        cases hb3
      rw [pl_item h41 hs] at x8
      have e34 := e3.trans e4
      have x14 := x1.trans e34
      obtain ⟨p0, hp0, hp1, hp2, hp3⟩ : ∃ p0 : Nat, l.drop p0 = (if acc = [] then r' else r'.drop 1) ∧ p' ≤ p0 ∧ p0 ≤ z.length ∧ (p0 = if acc = [] then p' else p' + 1) := by
        by_cases a : acc = []
        · exact ⟨p', by rw [if_pos a, hr'], Nat.le_refl _, x6, by rw [if_pos a]⟩
        · have h1 : 1 ≤ r'.length := by rw [take1_drop (hs a), List.length_cons]; omega
          exact ⟨p' + 1, by rw [if_neg a, ← hr', List.drop_drop], Nat.le_succ _, by omega, by rw [if_neg a]⟩
      rw [← hp0] at x8
      have hsuf : l.drop p0 <:+ r' := by
        rw [hp0]
        split
        · exact List.suffix_refl _
        · exact List.drop_suffix _ _
      cases hv0 : rdv m' (l.drop p0) with
      | none => rw [hv0] at x8; cases x8
      | some res0 =>
        rw [hv0] at x8
        have argE : Ev (tIf (tTest (tOp (rNeD K) (tVar 5) (tLst tNil))) (tOp (rI0 fun i j => .int (i + j)) (tVar 1) (tC (.int 1))) (tVar 1)) [some (.str z), some (.int (p' : Int)), e, none, none, some (.ref lf), some (.int (i : Int)), v] H4 (.int (p0 : Int)) :=
          ev_if (b := !decide (acc = [])) (et_test (ev_someD (K := K) (ev_var rfl) (sq_of (e34 lf _ x2)) (TDs.ex e34 x3) x9))
            (fun y => ev_is (ev_op (ev_var rfl) ev_c rv_I0) (congrArg V.int (by
              have a : acc ≠ [] := by simpa using y
              rw [hp3, if_neg a]; rfl)))
            (fun y => ev_is (ev_var rfl) (congrArg V.int (by
              have a : acc = [] := by simpa using y
              rw [hp3, if_pos a])))
        refine q_asg2D (K := K) (d1 := (match res0 with | .ok d _ => d | .bad _ => .none)) (d2 := (match res0 with | .ok _ r => .int ((z.length - r.length : Nat) : Int) | .bad r => .int (-1 - ((z.length - r.length : Nat) : Int))))
          (ed_call (ea_cons (ev_var rfl) (ea_cons argE ea_nil)) fun H5 e5 Q' q' => hin n0 rfl _ _ _ _ ⟨z, p0, m', res0, rfl, hz, by rw [hl]; exact hkn, hp2, by rw [hl]; exact Nat.le_trans (opens_suffix hsuf) x7, by rw [hl]; exact hv0, by
            cases res0 <;> exact q'⟩) fun v1 v2 H5 e5 y1 y2 => ?_
        refine ⟨_, _, rfl, _, _, rfl, rfl, ?_⟩
        have x15 := x14.trans e5
        cases res0 with
        | bad rb =>
          cases x8
          cases y2
          refine q_when (b := true) (et_is (et_test (ev_op (ev_var rfl) ev_c (rv_I0 (g := fun i j => .bl (decide (i < j)))))) (decide_eq_true (by omega))) (fun _ H6 e6 => ?_) (fun y => nomatch y)
          exact s_retD (K := K) (d := atRes z.length (.bad rb)) (ed_tupD (eds_cons (ed_non ev_c) (eds_cons (ed_int (ev_var rfl)) eds_nil)) (by show 2 ≤ 1000; decide)) (q.go (x15.trans e6))
        | ok d rb =>
          have x8' : rdl m' (acc ++ [d]) rb = some res := x8
          cases y2
          have lf0 := pv_left hv0
          have lsuf : rb <:+ l := lf0.1.trans (List.drop_suffix _ _)
          have hdr := suffix_at lsuf
          rw [hL] at hdr
          have hlen0 : (l.drop p0).length = z.length - p0 := by rw [List.length_drop, hL]
          have hlt : rb.length < (l.drop p0).length := lf0.2
          refine q_when (b := false) (et_is (et_test (ev_op (ev_var rfl) ev_c (rv_I0 (g := fun i j => .bl (decide (i < j)))))) (decide_eq_false (by omega))) (fun y => nomatch y) (fun _ H6 e6 => ?_)
          have e36 := (e34.trans e5).trans e6
          have lenv : vs.length = acc.length := TDs.len x3
          refine q_app (l := lf) (xs := vs) (v := v1) (e36 lf _ x2) (ev_var rfl) (ev_var rfl) (by omega) fun H7 e7 => ?_
          have e37 := e36.trans e7
          have hl7 := e37 lf _ x2
          refine s_asg (v := .int ((z.length - rb.length : Nat) : Int)) (ev_var rfl) fun H8 e8 => ?_
          have tk := upd_tk (K := K) (ys := vs ++ [v1]) hl7
          have fit := fit_read hv0
          have hop0 := opens_suffix hsuf
          refine ⟨z.length - rb.length, m', _, acc ++ [d], vs ++ [v1], _, _, _, rfl, (Ex.mut (x1.trans e37) hlf0).trans e8, e8 lf _ upd_same, TDs.ex e8 (TDs.snoc (TDs.keep tk _ _ (TDs.ex e37 x3)) (TD.keep tk _ _ (TD.ex (e6.trans e7) y1))), ?_, ?_, Nat.sub_le _ _, ?_, ?_, x9.snoc (fit.mono (Nat.le_refl _) (by omega))⟩
          · rw [List.length_append]
            show acc.length + 1 ≤ i + 1
            omega
          · omega
          · rw [hdr]
            have := opens_suffix lf0.1
            omega
          · rw [hdr]
            exact x8'
    · rintro σ' H' ⟨p', m', c, acc, vs, e, t, v, rfl, x1, x2, x3, x4, x5, x6, _⟩
      omega
/-- _law_at, by so many open brackets -/
theorem ok_at {fa : Addr} {fda : FuncData} (F : Fun K "_law_at" "_law_at" sAt f fd) (Z : Zs mg) (C : Callee K mg "_law_at" f fd ["text", "at"]) (CA : Callee K mg "_law_atom" fa fda ["run"]) (GA : FnOk P w K mg base CX0 1 fa fda ["run"] (spAtom K)) :
    ∀ n : Nat, n ≤ 60 → FnOk P w K mg base CX0 (n + 2) f fd ["text", "at"] (spAt K n)
  | 0, h => step_at F Z C CA GA 0 h _ fn_none fun m z => by omega
  | n + 1, h => step_at F Z C CA GA (n + 1) h _ (ok_at F Z C CA GA n (by omega)) fun m z vs H Q E h => by
    cases z
    exact h
end
end K9

set_option Elab.async false
set_option linter.all false
set_option maxRecDepth 100000
set_option maxHeartbeats 4000000
/- K98: class Values: __init__, fail, is_next, run. -/
namespace K9
open PySem PySem.Spec PyProof.Rows L2 Evl
section
variable {P : Program} {w : World} {K : PySem.W.Frag} {mg : Str → Option Value} {base : Heap} {f : Addr} {fd : FuncData} {σ : L2.St} {H H' : Hp} {C p : Addr}
/-! ### the reader object -/
abbrev fldR (z : Str) (k : Int) : List (Str × V) := [("signs", .str z), ("at", .int k)]
def RdAt (C : Addr) (H : Hp) (p : Addr) (z : Str) (k : Nat) : Prop := ∃ dx, H p = some (.ins C dx (fldR z (k : Int)))
theorem fldR_signs (z : Str) (k : Int) : (fldR z k).lookup ("signs" : Str) = some (.str z) := rfl
theorem fldR_at (z : Str) (k : Int) : (fldR z k).lookup ("at" : Str) = some (.int k) := by
  have a : (("at" : Str) == ("signs" : Str)) = false := by decide
  simp [List.lookup, a]
theorem fldR_put (z : Str) (k j : Int) : putF "at" (.int j) (fldR z k) = fldR z j := by
  show (if ("signs" : Str) = "at" then _ else _) = _
  rw [if_neg (by decide)]
  show (("signs" : Str), V.str z) :: (if ("at" : Str) = "at" then _ else _) = _
  rw [if_pos rfl]
theorem fldR_no (z : Str) (k : Int) {m : Str} (h1 : ¬ m = "signs") (h2 : ¬ m = "at") : (fldR z k).lookup m = none := by
  have a1 : (m == ("signs" : Str)) = false := by simpa using h1
  have a2 : (m == ("at" : Str)) = false := by simpa using h2
  simp [List.lookup, a1, a2]
/-- all but the reader stands -/
def KeepBut (p : Addr) (H H' : Hp) : Prop := ∀ b o, H b = some o → b ≠ p → H' b = some o
theorem KeepBut.of_ex (e : Ex H H') : KeepBut p H H' := fun b o h _ => e b o h
theorem KeepBut.trans {H2 : Hp} (a : KeepBut p H H') (b : KeepBut p H' H2) : KeepBut p H H2 := fun x o h hx => b x o (a x o h hx) hx
theorem KeepBut.self {o : HO} : KeepBut p H (upd H p o) := fun b u h hb => by rw [upd_ne hb]; exact h
theorem KeepBut.mut {l : Addr} {o : HO} (a : KeepBut p H H') (h : H l = none) : KeepBut p H (upd H' l o) := fun b u hb hp => by
  rw [upd_ne (ne_of_none hb h)]
  exact a b u hb hp
theorem KeepBut.tk {C dx : Addr} {fs : List (Str × V)} (a : KeepBut p H H') (h : H p = some (.ins C dx fs)) : TupKeep K H H' := by
  intro b zs hz
  rcases hz with (z | ⟨o, z⟩) | z
  · exact .inl (.inl (a b _ z (fun e => by rw [e, h] at z; cases z)))
  · exact .inl (.inr ⟨o, a b _ z (fun e => by rw [e, h] at z; cases z)⟩)
  · exact .inr z
theorem KeepBut.ex {q : Addr} (a : KeepBut q H H') (h : H q = none) : Ex H H' := fun b o hb => a b o hb (ne_of_none hb h)
theorem RdAt.ex {z : Str} {k : Nat} (h : RdAt C H p z k) (e : Ex H H') : RdAt C H' p z k := h.elim fun dx h => ⟨dx, e p _ h⟩
/-- what the written part says of the class -/
structure VaT (K : PySem.W.Frag) (mg : Str → Option Value) (C : Addr) : Prop where
  cl : Cls K C
  nS : NoAttr K C "signs"
  nA : NoAttr K C "at"
  gC : mg "Values" = some (.ref C)
theorem ev_fldS {te : TE} {z : Str} {k : Nat} (T : VaT K mg C) (h : Ev te σ H (.ref p)) (r : RdAt C H p z k) : Ev (tFld K te "signs") σ H (.str z) := fun H1 e Q q => by
  obtain ⟨dx, hp⟩ := r
  exact h H1 e _ fun H2 e2 => ⟨p, C, dx, _, _, rfl, e2 p _ (e p _ hp), T.cl, T.nS, fldR_signs _ _, q H2 e2⟩
theorem ev_fldA {te : TE} {z : Str} {k : Nat} (T : VaT K mg C) (h : Ev te σ H (.ref p)) (r : RdAt C H p z k) : Ev (tFld K te "at") σ H (.int (k : Int)) := fun H1 e Q q => by
  obtain ⟨dx, hp⟩ := r
  exact h H1 e _ fun H2 e2 => ⟨p, C, dx, _, _, rfl, e2 p _ (e p _ hp), T.cl, T.nA, fldR_at _ _, q H2 e2⟩
/-! ### __init__ -/
def spInit (C : Addr) : Sp := fun vs H Q _ => ∃ (p dx : Addr) (z : Str), vs = [.ref p, .str z] ∧ H p = some (.ins C dx []) ∧ ∀ H', RdAt C H' p z 0 → KeepBut p H H' → Q .non H'
theorem scInit : FnScope ["self", "text"] ["self", "text"] (defScope sInit) := ⟨rfl, rfl, rfl, by decide +kernel, rfl, by decide +kernel, by decide +kernel⟩
theorem ok_init {k : Nat} (F : Fun K "__init__" "Values.__init__" sInit f fd) (T : VaT K mg C) : FnOk P w K mg base CX0 (k + 1) f fd ["self", "text"] (spInit C) := by
  refine F.ok scInit (fun vs H Q E h => ?_) (fun cdv A outer s H vs Q E hr h => ?_)
  · obtain ⟨p, dx, z, rfl, _⟩ := h
    rfl
  obtain ⟨p, dx, z, rfl, hp, q⟩ := h
  refine ⟨_, pss_cons (ps_fld (pv 0) (pv 1) rfl) (pss_one (ps_fld (pv 0) pe_int rfl)), ?_⟩
  refine ⟨_, rfl, _, rfl, p, C, dx, [], rfl, hp, T.cl, T.nS, (by show 0 < 1000; decide), _, rfl, p, C, dx, _, rfl, upd_same, T.cl, T.nA, (by show 1 < 1000; decide), ?_⟩
  refine q _ ⟨dx, ?_⟩ (KeepBut.trans KeepBut.self KeepBut.self)
  rw [upd_same]
  show some (HO.ins C dx (if ("signs" : Str) = "at" then _ else _)) = _
  rw [if_neg (by decide)]
  rfl
/-! ### fail -/
def spFail (C CB : Addr) : Sp := fun vs H Q E => ∃ (p : Addr) (z : Str) (k : Nat), vs = [.ref p] ∧ RdAt C H p z k ∧ ∀ d H', Ex H H' → H' d = some (.xd (btFs (.int 1) (.int ((k : Int) + 1)))) → E (.ref CB) (some d) H'
theorem scFail : FnScope ["self"] ["self"] (defScope sFail) := ⟨rfl, rfl, rfl, by decide +kernel, rfl, by decide +kernel, by decide +kernel⟩
theorem ok_fail {k : Nat} {CB fB : Addr} (F : Fun K "fail" "Values.fail" sFail f fd) (T : VaT K mg C) (B : Bt.Txt P K mg CB fB) : FnOk P w K mg base (L2.CX P w) (k + 1) f fd ["self"] (spFail C CB) := by
  refine F.okX scFail (fun vs H Q E h => ?_) (fun cdv A outer s H vs Q E hr h => ?_)
  · obtain ⟨p, z, k, rfl, _⟩ := h
    rfl
  obtain ⟨p, z, k, rfl, hp, q⟩ := h
  refine ⟨_, pss_one (ps_raise rfl (takes_of rfl rfl rfl rfl) (pmk_bt B hr (pa_cons pe_int (pa_cons (pe_op op_add (pe_fld (pv 0) rfl) pe_int) pa_nil)))), ?_⟩
  have hA : EvA (tCons (tC (.int 1)) (tCons (tOp (rI0 fun i j => .int (i + j)) (tFld K (tVar 0) "at") (tC (.int 1))) tNil)) (start ["self"] [.ref p]) H [.int 1, .int ((k : Int) + 1)] :=
    ea_cons ev_c (ea_cons (ev_op (ev_fldA T (ev_var rfl) hp) ev_c rv_I0) ea_nil)
  exact hA H (Ex.refl H) _ fun H1 e1 => ⟨_, _, rfl, fun d hd => q d _ (e1.trans (Ex.new hd)) upd_same⟩
/-! ### is_next -/
def spNext (C : Addr) : Sp := fun vs H Q _ => ∃ (p : Addr) (z : Str) (k : Nat) (c : Str), vs = [.ref p, .str c] ∧ RdAt C H p z k ∧ z.length ≤ 20000 ∧ RetV (.bl (decide (((TL.tl z).drop k).take 1 = TL.tl c))) H Q
theorem scNext : FnScope ["self", "sign"] ["self", "sign"] (defScope sIsNext) := ⟨rfl, rfl, rfl, by decide +kernel, rfl, by decide +kernel, by decide +kernel⟩
theorem ok_next {k : Nat} (F : Fun K "is_next" "Values.is_next" sIsNext f fd) (T : VaT K mg C) : FnOk P w K mg base CX0 (k + 1) f fd ["self", "sign"] (spNext C) := by
  refine F.ok scNext (fun vs H Q E h => ?_) (fun cdv A outer s H vs Q E hr h => ?_)
  · obtain ⟨p, z, k, c, rfl, _⟩ := h
    rfl
  obtain ⟨p, z, k, c, rfl, hp, hz, q⟩ := h
  refine ⟨_, pss_one (ps_ret (pe_cmpR op_eq (pe_slice sl_str (pe_fld (pv 0) rfl) (po_some (pe_fld (pv 0) rfl)) (po_some (pe_op op_add (pe_fld (pv 0) rfl) pe_int))) (pv 1) (nomark _))), ?_⟩
  refine s_ret (ev_is (ev_op (ev_is (ev_slS (ev_fldS T (ev_var rfl) hp) (eo_some (ev_fldA T (ev_var rfl) hp)) (eo_some (ev_op (ev_fldA T (ev_var rfl) hp) ev_c (rv_I0 (g := fun i j => .int (i + j))))) (by omega)) (congrArg V.str (cut_one z k))) (ev_var rfl) (rv_eq rfl)) ?_) q
  rw [strV_eq, tl_mkS]
/-! ### run -/
def spRun (C : Addr) : Sp := fun vs H Q _ => ∃ (p : Addr) (z : Str) (k : Nat), vs = [.ref p] ∧ RdAt C H p z k ∧ z.length ≤ 20000 ∧ k ≤ z.length ∧ RetV (.str (mkS (runOf ((TL.tl z).drop k)))) H Q
theorem scRun : FnScope ["self", "end"] ["self"] (defScope sRun) := ⟨rfl, rfl, rfl, by decide +kernel, rfl, by decide +kernel, by decide +kernel⟩
theorem ok_run {n : Nat} (F : Fun K "run" "Values.run" sRun f fd) (T : VaT K mg C) (Z : Zs mg) : FnOk P w K mg base CX0 (n + 1) f fd ["self"] (spRun C) := by
  refine F.ok scRun (fun vs H Q E h => ?_) (fun cdv A outer s H vs Q E hr h => ?_)
  · obtain ⟨p, z, k, rfl, _⟩ := h
    rfl
  obtain ⟨p, z, k, rfl, hp, hz, hk, q⟩ := h
  refine ⟨_, pss_cons (ps_set (i := 1) scRun.nd rfl (Or.inl rfl) (pe_fld (pv 0) rfl))
    (pss_cons (ps_while PassesOwn.never (PW.pt (pw_and (pt_cmpR op_lt (pv 1) (pe_callB call_len_str (by rfl) Z.len PySem.boot_len (pa_cons (pe_fld (pv 0) rfl) pa_nil)) (nomark _)) (pw_and1 (pt_cmpR op_notIn_sign (pe_ix ix_str (pe_fld (pv 0) rfl) (pv 1) (fun _ _ => rfl)) pe_str rfl))))
      (pss_one (ps_set (i := 1) scRun.nd rfl (Or.inl rfl) (pe_op op_add (pv 1) pe_int))))
    (pss_one (ps_ret (pe_slice sl_str (pe_fld (pv 0) rfl) (po_some (pe_fld (pv 0) rfl)) (po_some (pv 1)))))), ?_⟩
  have hz5 : z.length ≤ 100000 := by omega
  have hL : (TL.tl z).length = z.length := (TL.len_tl z).symm
  generalize hl : TL.tl z = l at q hL
  generalize hr0 : l.drop k = r at q
  have hrl : r.length = z.length - k := by rw [← hr0, List.length_drop, hL]
  generalize hn : (runOf r).length = m
  have hmr : m ≤ r.length := by rw [← hn]; exact runOf_le r
  refine q_asg (v := .int (k : Int)) (ev_fldA T (ev_var rfl) hp) fun H1 e1 => ?_
  refine q_while (fun j σ' H' => Ex H H' ∧ ∃ i, i ≤ m ∧ j = m - i ∧ σ' = [some (.ref p), some (.int ((k + i : Nat) : Int))]) m ⟨e1, 0, Nat.zero_le _, rfl, rfl⟩ ?_
  rintro j σ' H' ⟨x1, i, hi, rfl, rfl⟩
  have hp' := hp.ex x1
  refine ⟨decide (i < m), ?_, fun hb H2 e2 => ?_, fun hb H2 e2 => ?_⟩
  · by_cases hlt : k + i < z.length
    · have hi2 : k + i < l.length := by omega
      obtain ⟨c, hc⟩ : ∃ c, l[k + i]? = some c := ⟨l[k + i], List.getElem?_eq_getElem hi2⟩
      have hcr : r[i]? = some c := by rw [← hr0, List.getElem?_drop]; exact hc
      have hat : atI z.cps.toList (((k + i : Nat)) : Int) = some c := by
        have : atI (TL.tl z) (((k + i : Nat)) : Int) = some c := atI_nat (by rw [hl]; exact hc)
        exact this
      refine et_is (et_and (a := true) (b := goOn c) (et_is (et_test (ev_op (ev_var rfl) (ev_cb (ea_cons (ev_fldS T (ev_var rfl) hp') ea_nil) (z := .int (z.length : Int)) fun H5 e5 Q' q' => ⟨_, rfl, sz_of hz5, q' H5 (Ex.refl H5)⟩) (rv_I0 (g := fun i j => .bl (decide (i < j)))))) (decide_eq_true (by omega)))
        fun _ => et_is (et_test (ev_op (ev_op (ev_fldS T (ev_var rfl) hp') (ev_var rfl) (rv_ixS hz5 hat)) ev_c rv_niS)) (by rw [tl_sep]; rfl)) ?_
      rw [Bool.true_and, run_at hcr (by omega), hn]
    · refine et_is (et_and (a := false) (b := true) (et_is (et_test (ev_op (ev_var rfl) (ev_cb (ea_cons (ev_fldS T (ev_var rfl) hp') ea_nil) (z := .int (z.length : Int)) fun H5 e5 Q' q' => ⟨_, rfl, sz_of hz5, q' H5 (Ex.refl H5)⟩) (rv_I0 (g := fun i j => .bl (decide (i < j)))))) (decide_eq_false (by omega))) fun y => nomatch y) ?_
      exact (decide_eq_false (by omega)).symm
  · have hlt : i < m := of_decide_eq_true hb
    exact ⟨fun σ2 H2' => Ex H H2' ∧ σ2 = [some (.ref p), some (.int ((k + (i + 1) : Nat) : Int))], fun σ2 H2' y => ⟨m - (i + 1), by omega, y.1, i + 1, by omega, rfl, y.2⟩,
      s_asg (v := .int ((k + (i + 1) : Nat) : Int)) (ev_op (ev_var rfl) ev_c (rv_I0 (g := fun i j => .int (i + j)))) fun H3 e3 => ⟨(x1.trans e2).trans e3, rfl⟩⟩
  · have hge : ¬ i < m := of_decide_eq_false hb
    have him : i = m := by omega
    subst him
    have hcut : cutS z (some (k : Int)) (some ((k + i : Nat) : Int)) = mkS (runOf r) := by
      rw [cut_mid z k (k + i) (by omega), hl, hr0, show k + i - k = i by omega, ← hn, run_take]
    refine s_ret (ev_is (ev_slS (ev_fldS T (ev_var rfl) (hp'.ex e2)) (eo_some (ev_fldA T (ev_var rfl) (hp'.ex e2))) (eo_some (ev_var rfl)) hz5) (congrArg V.str hcut)) fun H3 e3 => q H3 ((x1.trans e2).trans e3)
end
end K9

set_option Elab.async false
set_option linter.all false
set_option maxRecDepth 100000
set_option maxHeartbeats 4000000
/- K98: Values.value, read_value. -/
namespace K9
open PySem PySem.Spec PyProof.Rows L2 Evl
section
variable {P : Program} {w : World} {K : PySem.W.Frag} {mg : Str → Option Value} {base : Heap} {f : Addr} {fd : FuncData} {σ : L2.St} {H H' : Hp} {C CB p : Addr}
/-! ### readings -/
theorem ev_next {z c : Str} {k : Nat} (h : σ[0]? = some (some (.ref p))) (r : RdAt C H p z k) (hz : z.length ≤ 20000) :
    Ev (tMeth C "is_next" (spNext C) [] E0 (tVar 0) (tCons (tC (.str c)) tNil)) σ H (.bl (decide (((TL.tl z).drop k).take 1 = TL.tl c))) := fun H1 e Q q => by
  have r1 := r.ex e
  obtain ⟨dx, hp⟩ := id r1
  exact ⟨_, h, p, dx, _, rfl, hp, fldR_no _ _ (by decide) (by decide), p, z, k, c, rfl, r1, hz, q⟩
theorem ev_run {z : Str} {k : Nat} (h : σ[0]? = some (some (.ref p))) (r : RdAt C H p z k) (hz : z.length ≤ 20000) (hk : k ≤ z.length) :
    Ev (tMeth C "run" (spRun C) [] E0 (tVar 0) tNil) σ H (.str (mkS (runOf ((TL.tl z).drop k)))) := fun H1 e Q q => by
  have r1 := r.ex e
  obtain ⟨dx, hp⟩ := id r1
  exact ⟨_, h, p, dx, _, rfl, hp, fldR_no _ _ (by decide) (by decide), p, z, k, rfl, r1, hz, hk, q⟩
theorem s_fail {i : Nat} {z : Str} {k : Nat} {E : XK} {D : Ends} (h : σ[i]? = some (some (.ref p))) (r : RdAt C H p z k) (q : ∀ d H', Ex H H' → H' d = some (.xd (btFs (.int 1) (.int ((k : Int) + 1)))) → E (.ref CB) (some d) H') :
    tDrop (tMeth C "fail" (spFail C CB) [] E (tVar i) tNil) D σ H := by
  obtain ⟨dx, hp⟩ := id r
  exact ⟨_, h, p, dx, _, rfl, hp, fldR_no _ _ (by decide) (by decide), p, z, k, rfl, r, q⟩
theorem s_at {te : TE} {D : Ends} {z : Str} {k j : Nat} (T : VaT K mg C) (h : σ[0]? = some (some (.ref p))) (r : RdAt C H p z k) (he : Ev te σ H (.int (j : Int))) (q : ∀ H1, KeepBut p H H1 → RdAt C H1 p z j → D.nx σ H1) :
    sFld K (tVar 0) te "at" D σ H := he H (Ex.refl H) _ fun H1 e1 => by
  obtain ⟨dx, hp⟩ := r
  refine ⟨_, h, p, C, dx, _, rfl, e1 p _ hp, T.cl, T.nA, (by show 2 < 1000; decide), q _ (KeepBut.trans (.of_ex e1) KeepBut.self) ⟨dx, ?_⟩⟩
  rw [upd_same, fldR_put]
theorem q_at {te : TE} {tz : TS} {D : Ends} {z : Str} {k j : Nat} (T : VaT K mg C) (h : σ[0]? = some (some (.ref p))) (r : RdAt C H p z k) (he : Ev te σ H (.int (j : Int))) (q : ∀ H1, KeepBut p H H1 → RdAt C H1 p z j → tz D σ H1) :
    tSeq (sFld K (tVar 0) te "at") tz D σ H := s_at (D := { D with nx := tz D }) T h r he q
/-! ### value -/
def spVal (K : PySem.W.Frag) (C CB : Addr) (n : Nat) : Sp := fun vs H Q E => ∃ (p : Addr) (z : Str) (k m dp : Nat) (res : Res), vs = [.ref p, .int dp] ∧ RdAt C H p z k ∧ z.length ≤ 20000 ∧ k ≤ z.length ∧ opens ((TL.tl z).drop k) ≤ n ∧ n ≤ dp ∧ rdv m ((TL.tl z).drop k) = some res ∧
  (∀ d r, res = .ok d r → ∀ v H', KeepBut p H H' → RdAt C H' p z (z.length - r.length) → TD K H' v d → Q v H') ∧
  (∀ r, res = .bad r → ∀ d H', KeepBut p H H' → H' d = some (.xd (btFs (.int 1) (.int (((z.length - r.length : Nat) : Int) + 1)))) → E (.ref CB) (some d) H')
theorem scValue : FnScope ["self", "deep", "found"] ["self", "deep"] (defScope sValue) := ⟨rfl, rfl, rfl, by decide +kernel, rfl, by decide +kernel, by decide +kernel⟩
structure MCallee (K : PySem.W.Frag) (C : Addr) (m : Str) (f : Addr) (fd : FuncData) (ps : List Str) : Prop where
  m : Meth K C m f
  b : Binds K fd ps []
theorem step_value {fN fR fF fG : Addr} {fdN fdR fdF fdG : FuncData} (F : Fun K "value" "Values.value" sValue f fd) (Z : Zs mg) (T : VaT K mg C) (M : MCallee K C "value" f fd ["self", "deep"])
    (MN : MCallee K C "is_next" fN fdN ["self", "sign"]) (MR : MCallee K C "run" fR fdR ["self"]) (MF : MCallee K C "fail" fF fdF ["self"]) (CG : Callee K mg "run_value" fG fdG ["run"])
    (GN : FnOk P w K mg base CX0 1 fN fdN ["self", "sign"] (spNext C)) (GR : FnOk P w K mg base CX0 1 fR fdR ["self"] (spRun C)) (GF : FnOk P w K mg base (L2.CX P w) 1 fF fdF ["self"] (spFail C CB)) (GG : FnOk P w K mg base CX0 2 fG fdG ["run"] (spRv K))
    (n : Nat) (hn : n ≤ 60) (spIn : Sp) (G : FnOk P w K mg base (L2.CX P w) (n + 2) f fd ["self", "deep"] spIn) (hin : ∀ m, n = m + 1 → ∀ vs H Q E, spVal K C CB m vs H Q E → spIn vs H Q E) :
    FnOk P w K mg base (L2.CX P w) (n + 3) f fd ["self", "deep"] (spVal K C CB n) := by
  refine F.okX scValue (fun vs H Q E h => ?_) (fun cdv A outer s H vs Q E hr h => ?_)
  · obtain ⟨p, z, k, m, dp, res, rfl, _⟩ := h
    rfl
  obtain ⟨p, z, k, m, dp, res, rfl, hp, hz, hk, ho, hd, hv, q, qe⟩ := h
  have hr1 : Room 1 _ := hr.mono (by omega)
  have hr2 : Room 2 _ := hr.mono (by omega)
  refine ⟨_, pss_cons (ps_if (pt_not (pt_val (pe_meth (pv 0) T.cl MN.m GN hr1 MN.b .nil pass0 (pa_cons pe_str pa_nil))))
      (pss_cons (ps_set (i := 2) scValue.nd rfl (Or.inl rfl) (pe_call GG hr2 (by rfl) CG.m CG.k CG.b .nil pass0 (pa_cons (pe_meth0 (pv 0) T.cl MR.m GR hr1 MR.b .nil pass0) pa_nil)))
      (pss_cons (ps_if (pt_cmpR op_isN (pv 2) pe_non (nomark _)) (pss_one (ps_expr (pe_meth0 (pv 0) T.cl MF.m GF hr1 MF.b .nil (passes_call (takes_of rfl rfl rfl rfl) (fun _ _ _ _ h => h))))) pss_nil)
      (pss_cons (ps_fld (pv 0) (pe_op op_add (pe_fld (pv 0) rfl) (pe_callB call_len_str (by rfl) Z.len PySem.boot_len (pa_cons (pe_meth0 (pv 0) T.cl MR.m GR hr1 MR.b .nil pass0) pa_nil))) rfl)
      (pss_one (ps_ret (pe_ix ix_tup (pv 2) pe_int (fun _ _ => rfl))))))) pss_nil)
    (pss_cons (ps_if (pt_cmpR op_eq (pv 1) pe_int (nomark _)) (pss_one (ps_expr (pe_meth0 (pv 0) T.cl MF.m GF hr1 MF.b .nil (passes_call (takes_of rfl rfl rfl rfl) (fun _ _ _ _ h => h))))) pss_nil)
    (pss_cons (ps_fld (pv 0) (pe_op op_add (pe_fld (pv 0) rfl) pe_int) rfl)
    (pss_cons (ps_set (i := 2) scValue.nd rfl (Or.inl rfl) (pe_lst pa_nil))
    (pss_cons (ps_while (passes_of rfl) (pt_not (pt_val (pe_meth (pv 0) T.cl MN.m GN hr1 MN.b .nil pass0 (pa_cons pe_str pa_nil))))
      (pss_cons (ps_if (pt_cmpR (op_neD hr.units) (pv 2) (pe_lst pa_nil) (nomark _))
          (pss_cons (ps_if (pt_not (pt_val (pe_meth (pv 0) T.cl MN.m GN hr1 MN.b .nil pass0 (pa_cons pe_str pa_nil)))) (pss_one (ps_expr (pe_meth0 (pv 0) T.cl MF.m GF hr1 MF.b .nil (passes_call (takes_of rfl rfl rfl rfl) (fun _ _ _ _ h => h))))) pss_nil)
          (pss_one (ps_fld (pv 0) (pe_op op_add (pe_fld (pv 0) rfl) pe_int) rfl))) pss_nil)
      (pss_one (ps_expr (pe_bm PySem.F.plainAttrs_list PySem.F.slot_list_append PySem.F.type_list_append mt_append (pv 2) (pa_cons (pe_meth (pv 0) T.cl M.m G hr M.b .nil (passes_call (takes_of rfl rfl rfl rfl) (fun _ _ _ _ h => h)) (pa_cons (pe_op op_sub (pv 1) pe_int) pa_nil)) pa_nil))))))
    (pss_cons (ps_fld (pv 0) (pe_op op_add (pe_fld (pv 0) rfl) pe_int) rfl)
    (pss_one (ps_ret (pe_callTy call_tuple_of (by rfl) Z.tuple (by decide +kernel) (pa_cons (pv 2) pa_nil))))))))), ?_⟩
  have hL : (TL.tl z).length = z.length := (TL.len_tl z).symm
  have hp0 := hp
  obtain ⟨dx0, hpi⟩ := hp0
  generalize hl : TL.tl z = l at ho hv hL
  generalize hr0 : l.drop k = r at ho hv
  have hrl : r.length = z.length - k := by rw [← hr0, List.length_drop, hL]
  obtain ⟨m, rfl⟩ : ∃ k, m = k + 1 := by
    cases m with
    | zero => rw [rdv] at hv; cases hv
    | succ k => exact ⟨k, rfl⟩
  have hz5 : z.length ≤ 100000 := by omega
  refine q_when (b := !decide (r.take 1 = [40])) (et_is (et_not (et_B (ev_next rfl hp hz))) (by rw [tl_open, hl, hr0])) (fun hb H1 e1 => ?_) (fun hb H1 e1 => ?_)
  · -- no bracket
    have h40 : r.take 1 ≠ [40] := by simpa using hb
    have hrun : (runOf r).length ≤ r.length := runOf_le r
    have hp1 := hp.ex e1
    refine q_asgD (K := K) (d := atomD (runOf r)) (ed_call (ea_cons (ev_run rfl hp1 hz hk) ea_nil) fun H2 e2 Q' q' => ⟨_, rfl, by rw [mkS_len, hl, hr0]; omega, by rw [tl_mkS, hl, hr0]; exact q'⟩) fun v H2 e2 hv2 => ?_
    have hp2 := hp1.ex e2
    cases ha : atomOf (runOf r) with
    | none =>
      rw [pv_none h40 ha] at hv
      cases hv
      have z1 : atomD (runOf r) = .none := by unfold atomD; rw [ha]
      rw [z1] at hv2
      cases hv2
      refine q_when (b := true) (et_is (et_test (ev_op (ev_var rfl) ev_c (rv_val (z := .bl true) fun H4 _ Q' q' => ⟨rfl, q'⟩))) rfl) (fun _ H3 e3 => s_fail rfl (hp2.ex e3) fun d H4 e4 hd4 => ?_) (fun y => nomatch y)
      refine qe r rfl d H4 (.of_ex (((e1.trans e2).trans e3).trans e4)) ?_
      rw [hd4, show z.length - r.length = k by omega]
    | some d =>
      rw [pv_atom h40 ha] at hv
      cases hv
      have z1 : atomD (runOf r) = .tuple [d] := by unfold atomD; rw [ha]
      rw [z1] at hv2
      obtain ⟨a, v1, rfl, hs, hd1⟩ := td_one hv2
      refine q_when (b := false) (et_is (et_test (ev_op (ev_var rfl) ev_c (rv_val (z := .bl false) fun H4 _ Q' q' => ⟨rfl, q'⟩))) rfl) (fun y => nomatch y) (fun _ H3 e3 => ?_)
      have hp3 := hp2.ex e3
      refine q_at (j := k + (runOf r).length) T rfl hp3 (ev_is (ev_op (ev_fldA T (ev_var rfl) hp3) (ev_cb (ea_cons (ev_run rfl hp3 hz hk) ea_nil) (z := .int ((runOf r).length : Int)) fun H5 e5 Q' q' => ⟨_, rfl, by rw [mkS_len, hl, hr0]; exact sz_of (by omega), by rw [mkS_len, hl, hr0]; exact q' H5 (Ex.refl H5)⟩) (rv_I0 (g := fun i j => .int (i + j)))) rfl) fun H4 k4 hp4 => ?_
      obtain ⟨dx3, hpi3⟩ := id hp3
      have tk := k4.tk (K := K) hpi3
      refine s_ret (ev_op (ev_var rfl) ev_c (rv_ixT (tk _ _ (ex_t e3 hs)) rfl)) fun H5 e5 => ?_
      refine q d _ rfl v1 H5 (((KeepBut.of_ex ((e1.trans e2).trans e3)).trans k4).trans (.of_ex e5)) ?_ (TD.ex e5 (TD.keep tk _ _ (TD.ex e3 hd1)))
      have hp5 := hp4.ex e5
      rw [show z.length - (r.drop (runOf r).length).length = k + (runOf r).length by rw [List.length_drop]; omega]
      exact hp5
  · -- a bracket
    have h40 : r.take 1 = [40] := by simpa using hb
    rw [pv_open h40] at hv
    have hop := opens_head h40
    have hr1d : r.drop 1 = l.drop (k + 1) := by rw [← hr0, List.drop_drop]
    have hrpos : 1 ≤ r.length := by
      rw [take1_drop h40, List.length_cons]; omega
    obtain ⟨n0, rfl⟩ : ∃ n0, n = n0 + 1 := ⟨n - 1, by omega⟩
    refine q_when (b := false) (et_is (et_test (ev_op (ev_var rfl) ev_c (rv_eq rfl))) (decide_eq_false fun y => ?_)) (fun y => nomatch y) (fun _ H2 e2 => ?_)
    · have y' := V.int.inj y
      omega
    have hp2 := hp.ex (e1.trans e2)
    refine q_at (j := k + 1) T rfl hp2 (ev_op (ev_fldA T (ev_var rfl) hp2) ev_c (rv_I0 (g := fun i j => .int (i + j)))) fun H3 k3 hp3 => ?_
    refine q_asgL (el_lst (vs := []) ea_nil (by decide)) fun lf H4 hlf e4 hf => ?_
    have hk4 : KeepBut p H H4 := ((KeepBut.of_ex (e1.trans e2)).trans k3).trans (.of_ex e4)
    have hlfp : lf ≠ p := fun y => by
      obtain ⟨dx3, hpi3⟩ := hp3
      rw [y, hpi3] at hlf
      cases hlf
    have hlf0 : H lf = none := by
      cases y : H lf with
      | none => rfl
      | some o =>
        have y2 := k3 lf o ((e1.trans e2) lf o y) hlfp
        rw [hlf] at y2
        cases y2
    refine q_while (fun m' σ' H' => ∃ (k' c : Nat) (acc : List PyData) (vs : List V), σ' = [some (.ref p), some (.int (dp : Int)), some (.ref lf)] ∧ KeepBut p H H' ∧ RdAt C H' p z k' ∧ H' lf = some (.lst vs) ∧ TDs K H' vs acc ∧ acc.length ≤ k' ∧ k' ≤ z.length ∧
        opens (l.drop k') ≤ n0 ∧ rdl m' acc (l.drop k') = some res ∧ FitAll acc c 60) m
      ⟨k + 1, 0, [], [], rfl, hk4, hp3.ex e4, hf, .nil, Nat.zero_le _, by omega, by rw [← hr1d]; omega, by rw [← hr1d]; exact hv, fitAll_nil _⟩ ?_
    rintro m' σ' H' ⟨k', c, acc, vs, rfl, x1, x2, x3, x4, x5, x6, x7, x8, x9⟩
    obtain ⟨m', rfl⟩ : ∃ k, m' = k + 1 := by
      cases m' with
      | zero => rw [rdl] at x8; cases x8
      | succ k => exact ⟨k, rfl⟩
    generalize hr' : l.drop k' = r' at x7 x8
    have hrl' : r'.length = z.length - k' := by rw [← hr', List.length_drop, hL]
    refine ⟨!decide (r'.take 1 = [41]), et_is (et_not (et_B (ev_next rfl x2 hz))) (by rw [tl_close, hl, hr']), fun hb2 H5 e5 => ?_, fun hb2 H5 e5 => ?_⟩
    · -- an item
      have h41 : r'.take 1 ≠ [41] := by simpa using hb2
      have x25 := x2.ex e5
      have x35 := e5 lf _ x3
      have x45 := TDs.ex e5 x4
      have lenv : vs.length = acc.length := TDs.len x4
      -- what the rest does, at the place p0
      refine ⟨fun σ2 H2 => ∃ m2, m2 < m' + 1 ∧ ∃ (k' c : Nat) (acc : List PyData) (vs : List V), σ2 = [some (.ref p), some (.int (dp : Int)), some (.ref lf)] ∧ KeepBut p H H2 ∧ RdAt C H2 p z k' ∧ H2 lf = some (.lst vs) ∧ TDs K H2 vs acc ∧ acc.length ≤ k' ∧ k' ≤ z.length ∧
            opens (l.drop k') ≤ n0 ∧ rdl m2 acc (l.drop k') = some res ∧ FitAll acc c 60, fun σ2 H2 y => y, ?_⟩
      have rest : ∀ (p0 : Nat) (H6 : Hp) (D : Ends), D.nx = (fun σ2 H2 => ∃ m2, m2 < m' + 1 ∧ ∃ (k' c : Nat) (acc : List PyData) (vs : List V), σ2 = [some (.ref p), some (.int (dp : Int)), some (.ref lf)] ∧ KeepBut p H H2 ∧ RdAt C H2 p z k' ∧ H2 lf = some (.lst vs) ∧ TDs K H2 vs acc ∧ acc.length ≤ k' ∧ k' ≤ z.length ∧
            opens (l.drop k') ≤ n0 ∧ rdl m2 acc (l.drop k') = some res ∧ FitAll acc c 60) → KeepBut p H H6 → RdAt C H6 p z p0 → H6 lf = some (.lst vs) → TDs K H6 vs acc → k' ≤ p0 → p0 ≤ z.length → l.drop p0 = (if acc = [] then r' else r'.drop 1) → rdl (m' + 1) acc r' = (match rdv m' (l.drop p0) with
            | none => none
            | some (.bad rb) => some (.bad rb)
            | some (.ok d rb) => rdl m' (acc ++ [d]) rb) →
          tDrop (tBM K "list" rAppend (tVar 2) (tCons (tMeth C "value" spIn [] E (tVar 0) (tCons (tOp (rI0 fun i j => .int (i - j)) (tVar 1) (tC (.int 1))) tNil)) tNil)) D [some (.ref p), some (.int (dp : Int)), some (.ref lf)] H6 := by
        intro p0 H6 D hD y1 y2 y3 y4 y5 y6 y7 y8
        rw [y8] at x8
        have hsuf : l.drop p0 <:+ r' := by
          rw [y7]
          split
          · exact List.suffix_refl _
          · exact List.drop_suffix _ _
        cases hv0 : rdv m' (l.drop p0) with
        | none => rw [hv0] at x8; cases x8
        | some res0 =>
          rw [hv0] at x8
          obtain ⟨dx6, hp6⟩ := id y2
          refine ⟨_, rfl, .inl ⟨rfl, vs, sq_of y3⟩, _, rfl, p, dx6, _, rfl, hp6, fldR_no _ _ (by decide) (by decide), _, rfl, _, _, rfl, rfl, ?_⟩
          refine hin n0 rfl _ _ _ _ ⟨p, z, p0, m', dp - 1, res0, ?_, y2, hz, y6, by rw [hl]; exact Nat.le_trans (opens_suffix hsuf) x7, by omega, by rw [hl]; exact hv0, ?_, ?_⟩
          · show [V.ref p, .int ((dp : Int) - 1)] = _
            rw [show ((dp : Int) - 1) = ((dp - 1 : Nat) : Int) by omega]
          · rintro d rb rfl v1 H7 u1 u2 u3
            have x8' : rdl m' (acc ++ [d]) rb = some res := x8
            have lf0 := pv_left hv0
            have lsuf : rb <:+ l := lf0.1.trans (List.drop_suffix _ _)
            have hdr := suffix_at lsuf
            rw [hL] at hdr
            have hlen0 : (l.drop p0).length = z.length - p0 := by rw [List.length_drop, hL]
            have hlt : rb.length < (l.drop p0).length := lf0.2
            have hl7 := u1 lf _ y3 hlfp
            refine ⟨lf, vs, v1, rfl, rfl, hl7, sz_lt (by omega), ?_⟩
            rw [hD]
            have tk := upd_tk (K := K) (ys := vs ++ [v1]) hl7
            have tk6 := u1.tk (K := K) hp6
            have fit := fit_read hv0
            have hop0 := opens_suffix hsuf
            have hopb := opens_suffix lf0.1
            refine ⟨m', Nat.lt_succ_self _, z.length - rb.length, _, acc ++ [d], vs ++ [v1], rfl, (y1.trans u1).mut hlf0, ?_, upd_same, TDs.snoc (TDs.keep tk _ _ (TDs.keep tk6 _ _ y4)) (TD.keep tk _ _ u3), ?_, Nat.sub_le _ _, ?_, ?_, x9.snoc (fit.mono (Nat.le_refl _) (by omega))⟩
            · obtain ⟨dx7, hp7⟩ := u2
              exact ⟨dx7, by rw [upd_ne (Ne.symm hlfp)]; exact hp7⟩
            · rw [List.length_append]
              show acc.length + 1 ≤ _
              omega
            · rw [hdr]; omega
            · rw [hdr]; exact x8'
          · rintro rb rfl d H7 u1 u2
            cases x8
            exact qe rb rfl d H7 (y1.trans u1) u2
      by_cases ha : acc = []
      · have hit := pl_item (n := m') (acc := acc) h41 (fun y => absurd ha y)
        refine q_when (b := false) (et_is (et_test (ev_someD (K := K) (ev_var rfl) (sq_of x35) x45 x9)) (by rw [decide_eq_true ha]; rfl)) (fun y => nomatch y) (fun _ H6 e6 => ?_)
        refine rest k' H6 _ rfl ((x1.trans (.of_ex e5)).trans (.of_ex e6)) (x25.ex e6) (e6 lf _ x35) (TDs.ex e6 x45) (Nat.le_refl _) x6 (by rw [if_pos ha, hr']) ?_
        rw [hit, if_pos ha, hr']
        all_goals (rcases rdv m' r' with _ | _ | _ <;> rfl)
      · refine q_when (b := true) (et_is (et_test (ev_someD (K := K) (ev_var rfl) (sq_of x35) x45 x9)) (by rw [decide_eq_false ha]; rfl)) (fun _ H6 e6 => ?_) (fun y => nomatch y)
        have x26 := x25.ex e6
        refine q_when (b := !decide (r'.take 1 = [32])) (et_is (et_not (et_B (ev_next rfl x26 hz))) (by rw [tl_blank, hl, hr'])) (fun hb3 H7 e7 => ?_) (fun hb3 H7 e7 => ?_)
        · have h32 : r'.take 1 ≠ [32] := by simpa using hb3
          rw [pl_bad h41 ha h32] at x8
          cases x8
          refine s_fail rfl (x26.ex e7) fun d H8 e8 hd8 => ?_
          refine qe r' rfl d H8 (x1.trans (.of_ex (((e5.trans e6).trans e7).trans e8))) ?_
          rw [hd8, show z.length - r'.length = k' by omega]
        · have h32 : r'.take 1 = [32] := by simpa using hb3
          have hit := pl_item (n := m') (acc := acc) h41 (fun _ => h32)
          have h1 : 1 ≤ r'.length := by rw [take1_drop h32, List.length_cons]; omega
          have hdr1 : l.drop (k' + 1) = r'.drop 1 := by rw [← hr', List.drop_drop]
          have x27 := x26.ex e7
          refine s_at (j := k' + 1) T rfl x27 (ev_op (ev_fldA T (ev_var rfl) x27) ev_c (rv_I0 (g := fun i j => .int (i + j)))) fun H8 k8 hp8 => ?_
          obtain ⟨dx7, hp7⟩ := id x27
          have tk := k8.tk (K := K) hp7
          refine rest (k' + 1) H8 _ rfl ((x1.trans (.of_ex ((e5.trans e6).trans e7))).trans k8) hp8 (k8 lf _ (e7 lf _ (e6 lf _ x35)) hlfp) (TDs.keep tk _ _ (TDs.ex (e6.trans e7) x45)) (by omega) (by omega) (by rw [if_neg ha, hdr1]) ?_
          rw [hit, if_neg ha, hdr1]
          all_goals (rcases rdv m' (r'.drop 1) with _ | _ | _ <;> rfl)
    · -- the end
      have h41 : r'.take 1 = [41] := by simpa using hb2
      rw [pl_close h41] at x8
      cases x8
      have h1 : 1 ≤ r'.length := by rw [take1_drop h41, List.length_cons]; omega
      have x25 := x2.ex e5
      refine q_at (j := k' + 1) T rfl x25 (ev_op (ev_fldA T (ev_var rfl) x25) ev_c (rv_I0 (g := fun i j => .int (i + j)))) fun H6 k6 hp6 => ?_
      obtain ⟨dx5, hp5⟩ := id x25
      have tk := k6.tk (K := K) hp5
      have l6 := k6 lf _ (e5 lf _ x3) hlfp
      refine s_retD (K := K) (ed_tupOf (ev_var rfl) (sq_of l6) (TDs.keep tk _ _ (TDs.ex e5 x4))) fun v H7 e7 hv7 => ?_
      refine q _ _ rfl v H7 (((x1.trans (.of_ex e5)).trans k6).trans (.of_ex e7)) ?_ hv7
      rw [show z.length - (r'.drop 1).length = k' + 1 by rw [List.length_drop]; omega]
      exact hp6.ex e7
theorem ok_value {fN fR fF fG : Addr} {fdN fdR fdF fdG : FuncData} (F : Fun K "value" "Values.value" sValue f fd) (Z : Zs mg) (T : VaT K mg C) (M : MCallee K C "value" f fd ["self", "deep"])
    (MN : MCallee K C "is_next" fN fdN ["self", "sign"]) (MR : MCallee K C "run" fR fdR ["self"]) (MF : MCallee K C "fail" fF fdF ["self"]) (CG : Callee K mg "run_value" fG fdG ["run"])
    (GN : FnOk P w K mg base CX0 1 fN fdN ["self", "sign"] (spNext C)) (GR : FnOk P w K mg base CX0 1 fR fdR ["self"] (spRun C)) (GF : FnOk P w K mg base (L2.CX P w) 1 fF fdF ["self"] (spFail C CB)) (GG : FnOk P w K mg base CX0 2 fG fdG ["run"] (spRv K)) :
    ∀ n : Nat, n ≤ 60 → FnOk P w K mg base (L2.CX P w) (n + 3) f fd ["self", "deep"] (spVal K C CB n)
  | 0, h => step_value F Z T M MN MR MF CG GN GR GF GG 0 h (fun _ _ _ _ => False) ⟨fun _ _ _ _ h => h.elim, fun _ _ _ _ _ _ _ _ _ _ _ _ _ h => False.elim h⟩ fun m z => by omega
  | n + 1, h => step_value F Z T M MN MR MF CG GN GR GF GG (n + 1) h _ (ok_value F Z T M MN MR MF CG GN GR GF GG n (by omega)) fun m z vs H Q E h => by
    cases z
    exact h
/-! ### read_value -/
def spRead (K : PySem.W.Frag) (CB : Addr) (n : Nat) : Sp := fun vs H Q E => ∃ (z : Str) (m : Nat) (res : Res), vs = [.str z] ∧ z.length ≤ 20000 ∧ opens (TL.tl z) ≤ n ∧ rdv m (TL.tl z) = some res ∧
  (∀ d, res = .ok d [] → RetD K d H Q) ∧
  (∀ r, (res = .bad r ∨ ∃ d, res = .ok d r ∧ r ≠ []) → ∀ d H', Ex H H' → H' d = some (.xd (btFs (.int 1) (.int (((z.length - r.length : Nat) : Int) + 1)))) → E (.ref CB) (some d) H')
theorem scRead : FnScope ["text", "reader", "found"] ["text"] (defScope sReadValue) := ⟨rfl, rfl, rfl, by decide +kernel, rfl, by decide +kernel, by decide +kernel⟩
theorem ok_read {CN fI fV fF : Addr} {fdI fdV fdF : FuncData} (n : Nat) (hn : n ≤ 60) (F : Fun K "read_value" "read_value" sReadValue f fd) (Z : Zs mg) (N : NoT K mg CN) (T : VaT K mg C) (MI : Mk K C fI) (bI : Binds K fdI ["self", "text"] [])
    (MV : MCallee K C "value" fV fdV ["self", "deep"]) (MF : MCallee K C "fail" fF fdF ["self"])
    (GI : FnOk P w K mg base CX0 1 fI fdI ["self", "text"] (spInit C)) (GV : FnOk P w K mg base (L2.CX P w) (n + 3) fV fdV ["self", "deep"] (spVal K C CB n)) (GF : FnOk P w K mg base (L2.CX P w) 1 fF fdF ["self"] (spFail C CB)) :
    FnOk P w K mg base (L2.CX P w) (n + 4) f fd ["text"] (spRead K CB n) := by
  obtain ⟨tk, mM⟩ := Z.mostL
  refine F.okX scRead (fun vs H Q E h => ?_) (fun cdv A outer s H vs Q E hr h => ?_)
  · obtain ⟨z, m, res, rfl, _⟩ := h
    rfl
  obtain ⟨z, m, res, rfl, hz, ho, hv, q, qe⟩ := h
  have hr1 : Room 1 _ := hr.mono (by omega)
  have hr2 : Room 2 _ := hr.mono (by omega)
  refine ⟨_, pss_cons (ps_if (pt_not (pt_val (pe_callB call_isi (by rfl) Z.isinstance (by decide +kernel) (pa_cons (pv 0) (pa_cons (pe_bltn (v := .ty "str") (by rfl) Z.str (by decide +kernel) rfl) pa_nil)))))
      (pss_one (ps_raise rfl (takes_of rfl rfl rfl rfl) (pmk_own0 PySem.F.excBase_ValueError N.q N.gC N.kC (raises_own N.exC N.tyC) (by exact rfl)))) pss_nil)
    (pss_cons (ps_set (i := 1) scRead.nd rfl (Or.inl rfl) (pe_make MI GI hr2 (by rfl) T.gC bI .nil pass0 (pa_cons (pv 0) pa_nil)))
    (pss_cons (ps_set (i := 2) scRead.nd rfl (Or.inl rfl) (pe_meth (pv 1) T.cl MV.m GV hr MV.b .nil (passes_call (takes_of rfl rfl rfl rfl) (fun _ _ _ _ h => h)) (pa_cons (pe_glob (v := .int 60) (by rfl) mM ⟨_, rfl⟩) pa_nil)))
    (pss_cons (ps_if (pt_cmpR op_lt (pe_fld (pv 1) rfl) (pe_callB call_len_str (by rfl) Z.len PySem.boot_len (pa_cons (pv 0) pa_nil)) (nomark _)) (pss_one (ps_expr (pe_meth0 (pv 1) T.cl MF.m GF hr1 MF.b .nil (passes_call (takes_of rfl rfl rfl rfl) (fun _ _ _ _ h => h))))) pss_nil)
    (pss_one (ps_ret (pv 2)))))), ?_⟩
  have hz5 : z.length ≤ 100000 := by omega
  have hL : (TL.tl z).length = z.length := (TL.len_tl z).symm
  refine q_when (b := false) (et_is (et_not (et_B (ev_cb (ea_cons (ev_var rfl) (ea_cons ev_c ea_nil)) (rc_isi (Dp.str z) (by decide))))) rfl) (fun y => nomatch y) (fun _ H1 e1 => ?_)
  refine ⟨_, rfl, fun x dx hx hdx hne => ⟨x, dx, z, rfl, upd_same, fun H2 r2 k2 => ⟨rfl, ?_⟩⟩⟩
  have hx0 : H x = none := fresh_back e1 hx
  have ex2 : Ex H H2 := fun b o hb => k2 b o (by rw [upd_ne (ne_of_none (e1 b o hb) hx), upd_ne (ne_of_none (e1 b o hb) hdx)]; exact e1 b o hb) (ne_of_none hb hx0)
  obtain ⟨dx2, hp2⟩ := id r2
  refine ⟨_, rfl, x, dx2, _, rfl, hp2, fldR_no _ _ (by decide) (by decide), x, z, 0, m, 60, res, rfl, r2, hz, Nat.zero_le _, ho, hn, hv, ?_, ?_⟩
  · rintro d r rfl v H3 k3 r3 h3
    have ex3 : Ex H H3 := fun b o hb => k3 b o (ex2 b o hb) (ne_of_none hb hx0)
    have suf := (pv_left hv).1
    have hsl := suf.length_le
    have hlt := (pv_left hv).2
    refine q_when (b := decide (r ≠ [])) (et_is (et_test (ev_op (ev_fldA T (ev_var rfl) r3) (ev_cb (ea_cons (ev_var rfl) ea_nil) (z := .int (z.length : Int)) fun H5 e5 Q' q' => ⟨_, rfl, sz_of hz5, q' H5 (Ex.refl H5)⟩) (rv_I0 (g := fun i j => .bl (decide (i < j)))))) ?_) (fun hb H4 e4 => ?_) (fun hb H4 e4 => ?_)
    · have hlen : r = [] ↔ r.length = 0 := List.length_eq_zero_iff.symm
      by_cases hr0 : r = []
      · have a : decide (r ≠ []) = false := decide_eq_false (fun y => y hr0)
        rw [a, decide_eq_false]
        rw [hr0]
        show ¬ ((z.length - 0 : Nat) : Int) < _
        omega
      · have : r.length ≠ 0 := fun y => hr0 (hlen.mpr y)
        have a : decide (r ≠ []) = true := decide_eq_true hr0
        rw [a, decide_eq_true]
        omega
    · refine s_fail (i := 1) rfl (r3.ex e4) fun d2 H5 e5 hd2 => qe r (.inr ⟨d, rfl, of_decide_eq_true hb⟩) d2 H5 ((ex3.trans e4).trans e5) hd2
    · have hr0 : r = [] := Classical.byContradiction fun y => by
        rw [decide_eq_true y] at hb; cases hb
      subst hr0
      exact s_ret (ev_var rfl) fun H5 e5 => q d rfl v H5 ((ex3.trans e4).trans e5) (TD.ex (e4.trans e5) h3)
  · rintro r rfl d H3 k3 h3
    exact qe r (.inl rfl) d H3 (fun b o hb => k3 b o (ex2 b o hb) (ne_of_none hb hx0)) h3
end
end K9

set_option Elab.async false
set_option linter.all false
set_option maxRecDepth 100000
set_option maxHeartbeats 4000000
/- K98: the bag of cells: _law_bag, _law_take, _law_some. -/
namespace K9
open PySem PySem.Spec PyProof.Rows L2 Evl
section
variable {P : Program} {w : World} {K : PySem.W.Frag} {mg : Str → Option Value} {base : Heap} {f : Addr} {fd : FuncData} {σ : L2.St} {H H' : Hp} {p : Addr}
/-! ### the bag -/
def BagIs (H : Hp) (p : Addr) (x y : Int) (n : Nat) (c : Addr) (cells : List Int) : Prop :=
  H p = some (.lst [.int x, .int y, .int (n : Int), .ref c]) ∧ H c = some (.lst (cells.map V.int)) ∧ c ≠ p ∧ 0 ≤ x ∧ 0 ≤ y ∧ y < 2147483647 ∧ cells.length ≤ 63 ∧ ∀ i ∈ cells, 0 ≤ i
def Bag (H : Hp) (p c : Addr) : Prop := ∃ x y n cells, BagIs H p x y n c cells
theorem BagIs.ex {x y : Int} {n : Nat} {c : Addr} {cells : List Int} (h : BagIs H p x y n c cells) (e : Ex H H') : BagIs H' p x y n c cells := ⟨e _ _ h.1, e _ _ h.2.1, h.2.2⟩
theorem Bag.ex {c : Addr} (h : Bag H p c) (e : Ex H H') : Bag H' p c := by
  obtain ⟨x, y, n, cells, h⟩ := h
  exact ⟨x, y, n, cells, h.ex e⟩
theorem kb_upd {o : HO} (e : Ex H H') : KeepBut p H (upd H' p o) := KeepBut.trans (.of_ex e) KeepBut.self
/-- tuples stand where a list was changed -/
theorem KeepBut.tkL {xs : List V} (a : KeepBut p H H') (h : H p = some (.lst xs)) : TupKeep K H H' := by
  intro b zs hz
  rcases hz with (z | ⟨o, z⟩) | z
  · exact .inl (.inl (a b _ z (fun e => by rw [e, h] at z; cases z)))
  · exact .inl (.inr ⟨o, a b _ z (fun e => by rw [e, h] at z; cases z)⟩)
  · exact .inr z
theorem KeepBut.tkB {c : Addr} (a : KeepBut p H H') (h : Bag H p c) : TupKeep K H H' := by
  obtain ⟨x, y, n, cells, h, _⟩ := h
  exact a.tkL h
/-! ### readings -/
theorem el_cat {ta tb : TE} {xs ys : List V} (h1 : EvL ta σ H xs) (h2 : EvL tb σ H ys) (hz : xs.length + ys.length ≤ 100000) : EvL (tOp rCat ta tb) σ H (xs ++ ys) := fun H1 e Q q =>
  h1 H1 e _ fun p H2 hp e2 h2' => h2 H2 (e.trans e2) _ fun p2 H3 hp2 e3 h3 => ⟨p, p2, xs, ys, rfl, rfl, e3 p _ h2', h3, sz_of hz, fun l hl => q l _ (fresh_back (e2.trans e3) hl) ((e2.trans e3).trans (Ex.new hl)) upd_same⟩
theorem cut_ints (ns : List Int) (lo hi : Option Int) : ∃ ms : List Int, cutV (ns.map V.int) lo hi = ms.map V.int ∧ ms.length ≤ ns.length ∧ ∀ i ∈ ms, i ∈ ns := by
  refine ⟨(ns.drop (HT.sIx ns.length 0 lo)).take (HT.sIx ns.length ns.length hi - HT.sIx ns.length 0 lo), ?_, ?_, fun i h => List.mem_of_mem_drop (List.mem_of_mem_take h)⟩
  · unfold cutV
    rw [List.length_map, ← List.map_drop, ← List.map_take]
  · rw [List.length_take, List.length_drop]; omega
theorem given_all (n : Nat) (v : Nat → V) : given n (fun _ => true) v = (List.range n).map v := by
  unfold given
  rw [List.filter_eq_self.mpr (fun _ _ => rfl)]
theorem rc_int1 {i : Int} : RC (fun xs H Q => (∃ i, xs = [.int i] ∧ Q (.int i) H) ∨ ∃ k, xs = [.bl k] ∧ Q (.int (if k then 1 else 0)) H) [.int i] H (.int i) := fun H1 _ _ q => .inl ⟨i, rfl, q H1 (Ex.refl H1)⟩
theorem cm_r {i j : Int} (h : 0 ≤ j) (h2 : j < 10000000000) : CMul i j := .inr ⟨by omega, by omega⟩
theorem cm_l {i j : Int} (h : 0 ≤ i) (h2 : i < 10000000000) : CMul i j := .inl ⟨by omega, by omega⟩
/-! ### _law_bag -/
def spBag (K : PySem.W.Frag) : Sp := fun vs H Q _ => ∃ (a : Addr) (ns : List Int), vs = [.ref a] ∧ SqL K H a (ns.map V.int) ∧ ns.length ≤ 63 ∧ ∀ p c H', H p = none → H c = none → Ex H H' → Bag H' p c → Q (.ref p) H'
theorem scBag : FnScope ["script", "cell"] ["script"] (defScope sBag) := ⟨rfl, rfl, rfl, by decide +kernel, rfl, by decide +kernel, by decide +kernel⟩
theorem ok_bag {k : Nat} (F : Fun K "_law_bag" "_law_bag" sBag f fd) (Z : Zs mg) : FnOk P w K mg base CX0 (k + 1) f fd ["script"] (spBag K) := by
  refine F.ok scBag (fun vs H Q E h => ?_) (fun cdv A outer s H vs Q E hr h => ?_)
  · obtain ⟨a, ns, rfl, _⟩ := h
    rfl
  obtain ⟨a, ns, rfl, hS, hn, q⟩ := h
  refine ⟨_, pss_one (ps_ret (pe_lst (pa_cons pe_int (pa_cons pe_int (pa_cons pe_int (pa_cons
    (pe_lc (own := [("cell", 1)]) (g := gName 1) (tt := tYes) rfl scBag.nd (pi_list (pe_slice sl_list (pv 0) po_none (po_some pe_int))) (blkOk_by (N := ["script", "cell"]) (sc := defScope sBag) (by decide +kernel)) (fun _ _ _ _ _ => pg_name (i := 1) scBag.nd rfl (Or.inl rfl)) (fun _ _ _ _ _ => pts_nil)
      (fun _ _ _ _ _ => pe_callB call_abs (by rfl) Z.abs (by decide +kernel) (pa_cons (pv 1) pa_nil))) pa_nil)))))), ?_⟩
  obtain ⟨ms, hms, hml, _⟩ := cut_ints ns none (some 63)
  have sl : EvL (tSl (rSlL K) (tVar 0) tNoPart (tPart (tC (.int 63)))) (start ["script", "cell"] [V.ref a]) H (ms.map V.int) := by
    rw [← hms]
    exact el_sl (ev_var rfl) eo_none (eo_some ev_c) hS
  have lst := el_lcNL (K := K) (t := tYes) (te := tCB (fun xs H Q => ∃ i, xs = [.int i] ∧ Q (.int (if i < 0 then -i else i)) H) (tCons (tVar 1) tNil)) (j := 1) (vs := [1]) (fun _ => true)
    (fun i => .int (if ms.getD i 0 < 0 then -(ms.getD i 0) else ms.getD i 0)) sl (by rw [List.length_map]; omega) (fun _ => rfl) (fun i x H1 _ _ H2 e2 Q' q' => q' H2 (Ex.refl H2))
    (fun i x H1 e1 hx _ => by
      rw [List.getElem?_map] at hx
      cases hm : ms[i]? with
      | none => rw [hm] at hx; cases hx
      | some m =>
        rw [hm] at hx
        have hx' := (Option.some.inj hx).symm
        subst hx'
        have e : ms.getD i 0 = m := by rw [List.getD_eq_getElem?_getD, hm]; rfl
        rw [e]
        exact ev_cb (ea_cons (ev_var rfl) ea_nil) fun H5 e5 Q' q' => ⟨m, rfl, q' H5 (Ex.refl H5)⟩)
  rw [given_all, List.length_map] at lst
  have hcells : (List.range ms.length).map (fun i => V.int (if ms.getD i 0 < 0 then -(ms.getD i 0) else ms.getD i 0)) = (ms.map fun i => if i < 0 then -i else i).map V.int := by
    apply List.ext_getElem
    · simp
    · intro i h1 h2
      have hi : i < ms.length := by simpa using h2
      simp [List.getD, List.getElem?_eq_getElem hi]
  rw [hcells] at lst
  show tLc (iList K (tSl (rSlL K) (tVar 0) tNoPart (tPart (tC (.int 63))))) (gName 1) tYes (tCB (fun xs H Q => ∃ i, xs = [.int i] ∧ Q (.int (if i < 0 then -i else i)) H) (tCons (tVar 1) tNil)) [1] (start ["script", "cell"] [V.ref a]) H
    (fun v H1 => [V.int 0, .int 1234567891, .int 0, v].length ≤ sizeLine ∧ ∀ p, H1 p = none → Q (.ref p) (upd H1 p (.lst [V.int 0, .int 1234567891, .int 0, v])))
  exact lst H (Ex.refl H) _ fun c H1 hc e1 h1 => ⟨sz_of (by show 4 ≤ 100000; decide), fun p hp => q p c _ (fresh_back e1 hp) hc (e1.trans (Ex.new hp))
    ⟨0, 1234567891, 0, _, upd_same, (by rw [upd_ne (ne_of_none h1 hp)]; exact h1), ne_of_none h1 hp, by decide, by decide, by decide, by rw [List.length_map]; omega, fun i hi => by
      obtain ⟨j, _, rfl⟩ := List.mem_map.mp hi
      split <;> omega⟩⟩
/-! ### _law_take -/
def spTake : Sp := fun vs H Q _ => ∃ (p c : Addr) (many : Int), vs = [.ref p, .int many] ∧ Bag H p c ∧ 0 < many ∧ many < 1000000 ∧ ∀ v H', 0 ≤ v → v < many → KeepBut p H H' → Bag H' p c → Q (.int v) H'
abbrev nTake : List Str := ["bag", "many", "cell", "stirred", "value", "begin", "second"]
theorem scTake : FnScope nTake ["bag", "many"] (defScope sTake) := ⟨rfl, rfl, rfl, by decide +kernel, rfl, by decide +kernel, by decide +kernel⟩
theorem ok_take {k : Nat} (F : Fun K "_law_take" "_law_take" sTake f fd) (Z : Zs mg) : FnOk P w K mg base CX0 (k + 1) f fd ["bag", "many"] spTake := by
  refine F.ok scTake (fun vs H Q E h => ?_) (fun cdv A outer s H vs Q E hr h => ?_)
  · obtain ⟨p, c, many, rfl, _⟩ := h
    rfl
  obtain ⟨p, c, many, rfl, hB, hm, hm2, q⟩ := h
  refine ⟨_, pss_cut (ps_if (pt_cmpR op_eq (pe_ix ix_list (pv 0) pe_int (fun _ _ => rfl)) pe_int (nomark _))
      (pss_cons (ps_set (i := 2) scTake.nd rfl (Or.inl rfl) (pe_ix ix_list (pe_op op_cat (pe_slice sl_list (pe_ix ix_list (pv 0) pe_int (fun _ _ => rfl)) (po_some (pe_ix ix_list (pv 0) pe_int (fun _ _ => rfl))) po_none) (pe_lst (pa_cons pe_int pa_nil))) pe_int (fun _ _ => rfl)))
      (pss_cons (ps_augS (pv 0) pe_int get_list pe_int ip_add set_list)
      (pss_cut (ps_if (pt_cmpR op_ge (pv 2) (pe_op op_pow pe_int pe_int) (nomark _)) (pss_one (ps_asg (pv 2) (pg_sub (pv 0) pe_int set_list))) pss_nil)
      (pss_cons (ps_set (i := 3) scTake.nd rfl (Or.inl rfl) (pe_op op_add (pe_op op_add (pe_op op_mul (pe_ix ix_list (pv 0) pe_int (fun _ _ => rfl)) pe_int) (pe_op op_mod (pe_callTy call_int1 (by rfl) Z.int (by decide +kernel) (pa_cons (pv 2) pa_nil)) pe_int)) (pe_op op_mul pe_int (pe_ix ix_list (pv 0) pe_int (fun _ _ => rfl)))))
      (pss_one (ps_asg (pe_op op_mod (pe_callTy call_int1 (by rfl) Z.int (by decide +kernel) (pa_cons (pv 3) pa_nil)) pe_int) (pg_sub (pv 0) pe_int set_list))))))) pss_nil)
    (pss_cons (ps_if (pt_cmpR op_gt (pe_ix ix_list (pv 0) pe_int (fun _ _ => rfl)) pe_int (nomark _))
      (pss_cons (ps_set (i := 4) scTake.nd rfl (Or.inl rfl) (pe_op op_mod (pe_callTy call_int1 (by rfl) Z.int (by decide +kernel) (pa_cons (pe_ix ix_list (pv 0) pe_int (fun _ _ => rfl)) pa_nil)) (pv 1)))
      (pss_cons (ps_asg (pe_op op_fdiv (pe_callTy call_int1 (by rfl) Z.int (by decide +kernel) (pa_cons (pe_ix ix_list (pv 0) pe_int (fun _ _ => rfl)) pa_nil)) (pv 1)) (pg_sub (pv 0) pe_int set_list))
      (pss_one (ps_ret (pv 4))))) pss_nil)
    (pss_cons (ps_set (i := 5) scTake.nd rfl (Or.inl rfl) (pe_op op_mod (pe_callTy call_int1 (by rfl) Z.int (by decide +kernel) (pa_cons (pe_op op_mul (pe_op op_add (pe_ix ix_list (pv 0) pe_int (fun _ _ => rfl)) pe_int) pe_int) pa_nil)) pe_int))
    (pss_cons (ps_set (i := 6) scTake.nd rfl (Or.inl rfl) (pe_op op_mod (pe_callTy call_int1 (by rfl) Z.int (by decide +kernel) (pa_cons (pe_op op_mul (pe_op op_mod (pe_callTy call_int1 (by rfl) Z.int (by decide +kernel) (pa_cons (pe_op op_mul (pv 5) (pv 5)) pa_nil)) pe_int) pe_int) pa_nil)) pe_int))
    (pss_one (ps_ret (pe_op op_mod (pe_callTy call_int1 (by rfl) Z.int (by decide +kernel) (pa_cons (pe_op op_fdiv (pv 6) pe_int) pa_nil)) (pv 1))))))), ?_⟩
  have hb0 : ∀ {σ : L2.St} {H : Hp} {x y : Int} {n : Nat} {c : Addr} {cells : List Int}, BagIs H p x y n c cells → σ[0]? = some (some (.ref p)) → Ev (tOp (rIxL K) (tVar 0) (tC (.int 0))) σ H (.int x) := fun h hs => ev_op (ev_var hs) ev_c (rv_ixL (sq_of h.1) rfl)
  have hb1 : ∀ {σ : L2.St} {H : Hp} {x y : Int} {n : Nat} {c : Addr} {cells : List Int}, BagIs H p x y n c cells → σ[0]? = some (some (.ref p)) → Ev (tOp (rIxL K) (tVar 0) (tC (.int 1))) σ H (.int y) := fun h hs => ev_op (ev_var hs) ev_c (rv_ixL (sq_of h.1) rfl)
  have hb2 : ∀ {σ : L2.St} {H : Hp} {x y : Int} {n : Nat} {c : Addr} {cells : List Int}, BagIs H p x y n c cells → σ[0]? = some (some (.ref p)) → Ev (tOp (rIxL K) (tVar 0) (tC (.int 2))) σ H (.int (n : Int)) := fun h hs => ev_op (ev_var hs) ev_c (rv_ixL (sq_of h.1) rfl)
  have hb3 : ∀ {σ : L2.St} {H : Hp} {x y : Int} {n : Nat} {c : Addr} {cells : List Int}, BagIs H p x y n c cells → σ[0]? = some (some (.ref p)) → Ev (tOp (rIxL K) (tVar 0) (tC (.int 3))) σ H (.ref c) := fun h hs => ev_op (ev_var hs) ev_c (rv_ixL (sq_of h.1) rfl)
  refine q_cut (M := fun σ' H' => ∃ c2 s2, σ' = [some (.ref p), some (.int many), c2, s2, none, none, none] ∧ KeepBut p H H' ∧ Bag H' p c) ?_ ?_
  · obtain ⟨x, y, n, cells, hB⟩ := hB
    refine s_when (b := decide (V.int x = V.int 0)) (et_test (ev_op (hb0 hB rfl) ev_c (rv_eq rfl))) (fun hb H1 e1 => ?_) (fun hb H1 e1 => ⟨none, none, rfl, .of_ex e1, x, y, n, cells, hB.ex e1⟩)
    have hB1 := hB.ex e1
    obtain ⟨ms, hms, hml, hmem⟩ := cut_ints cells (some (n : Int)) none
    have lst : EvL (tOp rCat (tSl (rSlL K) (tOp (rIxL K) (tVar 0) (tC (.int 3))) (tPart (tOp (rIxL K) (tVar 0) (tC (.int 2)))) tNoPart) (tLst (tCons (tC (.int 0)) tNil))) [some (.ref p), some (.int many), none, none, none, none, none] H1 (ms.map V.int ++ [.int 0]) := by
      rw [← hms]
      have hlen := hB.2.2.2.2.2.2.1
      refine el_cat (el_sl (hb3 hB1 rfl) (eo_some (hb2 hB1 rfl)) eo_none (sq_of hB1.2.1)) (el_lst (ea_cons ev_c ea_nil) (by show 1 ≤ 100000; decide)) ?_
      have := cutV_length (cells.map V.int) (some (n : Int)) none
      rw [List.length_map] at this
      show _ + 1 ≤ 100000
      omega
    obtain ⟨cell, hcell, hc0⟩ : ∃ cell : Int, atI (ms.map V.int ++ [.int 0]) 0 = some (.int cell) ∧ 0 ≤ cell := by
      cases ms with
      | nil => exact ⟨0, rfl, by decide⟩
      | cons m t =>
        refine ⟨m, ?_, hB.2.2.2.2.2.2.2 m (hmem m (List.mem_cons_self ..))⟩
        have : atI (V.int m :: (t.map V.int ++ [V.int 0])) ((0 : Nat) : Int) = some (.int m) := atI_nat rfl
        exact this
    refine q_asg (v := .int cell) (ev_opL1 lst (fun _ _ => ev_c) fun l H2 hl2 e2 => rv_ixL (sq_of hl2) hcell) fun H2 e2 => ?_
    have hB2 := hB1.ex e2
    refine ⟨_, rfl, p, _, 2, .int (n : Int), rfl, rfl, by decide, sq_of hB2.1, rfl, _, _, rfl, rfl, p, _, 2, 2, rfl, rfl, hB2.1, rfl, ?_⟩
    have hB3 : BagIs (upd H2 p (.lst [.int x, .int y, .int ((n + 1 : Nat) : Int), .ref c])) p x y (n + 1) c cells := ⟨upd_same, by rw [upd_ne hB2.2.2.1]; exact hB2.2.1, hB2.2.2⟩
    have k3 : KeepBut p H (upd H2 p (.lst [.int x, .int y, .int ((n + 1 : Nat) : Int), .ref c])) := kb_upd (e1.trans e2)
    -- is the cell large?
    refine q_cut (M := fun σ' H' => σ' = [some (.ref p), some (.int many), some (.int cell), none, none, none, none] ∧ KeepBut p H H' ∧ ∃ x, BagIs H' p x y (n + 1) c cells) ?_ ?_
    · refine s_when (b := decide ((10 : Int) ^ (18 : Int).toNat ≤ cell)) (et_test (ev_op (ev_var rfl) (ev_op ev_c ev_c (rv_I (C := CPow) (g := fun i j => .int (i ^ j.toNat)) (i := 10) (j := 18) ⟨by decide, by decide, by decide⟩)) (rv_I0 (g := fun i j => .bl (decide (j ≤ i)))))) (fun _ H4 e4 => ?_) (fun _ H4 e4 => ⟨rfl, k3.trans (.of_ex e4), x, hB3.ex e4⟩)
      have hB4 := hB3.ex e4
      refine s_setL (j := 0) hB4.1 (ev_var rfl) (ev_var rfl) ev_c (by show 0 < 4; decide) fun H5 e5 => ⟨rfl, k3.trans (KeepBut.trans (.of_ex (e4.trans e5)) KeepBut.self), cell, ?_⟩
      have hB5 := hB4.ex e5
      exact ⟨upd_same, by rw [upd_ne hB5.2.2.1]; exact hB5.2.1, hB5.2.2.1, hc0, hB5.2.2.2.2⟩
    · rintro σ' H4 ⟨rfl, k4, x4, hB4⟩
      refine q_asg (v := .int ((y * 48271 + cell % 2147483647) + 7919 * ((n + 1 : Nat) : Int)))
        (ev_op (ev_op (ev_op (hb1 hB4 rfl) ev_c (rv_I (C := CMul) (g := fun i j => .int (i * j)) (cm_r (by decide) (by decide)))) (ev_op (ev_cb (ea_cons (ev_var rfl) ea_nil) rc_int1) ev_c (rv_I (C := fun _ j => 0 < j) (g := fun i j => .int (i % j)) (by decide))) (rv_I0 (g := fun i j => .int (i + j))))
          (ev_op ev_c (hb2 hB4 rfl) (rv_I (C := CMul) (g := fun i j => .int (i * j)) (cm_l (by decide) (by decide)))) (rv_I0 (g := fun i j => .int (i + j)))) fun H5 e5 => ?_
      have hB5 := hB4.ex e5
      refine s_setL (j := 1) (v := .int (((y * 48271 + cell % 2147483647) + 7919 * ((n + 1 : Nat) : Int)) % 2147483647)) hB5.1 (ev_op (ev_cb (ea_cons (ev_var rfl) ea_nil) rc_int1) ev_c (rv_I (C := fun _ j => 0 < j) (g := fun i j => .int (i % j)) (by decide))) (ev_var rfl) ev_c (by show 1 < 4; decide) fun H6 e6 => ?_
      have hB6 := hB5.ex e6
      exact ⟨_, _, rfl, k4.trans (KeepBut.trans (.of_ex (e5.trans e6)) KeepBut.self), x4, _, n + 1, cells, upd_same, by rw [upd_ne hB6.2.2.1]; exact hB6.2.1, hB6.2.2.1, hB6.2.2.2.1, Int.emod_nonneg _ (by decide), Int.emod_lt_of_pos _ (by decide), hB6.2.2.2.2.2.2⟩
  · rintro σ' H1 ⟨c2, s2, rfl, k1, x, y, n, cells, hB1⟩
    have hx := hB1.2.2.2.1
    have hy := hB1.2.2.2.2.1
    have hy2 := hB1.2.2.2.2.2.1
    refine q_when (b := decide (0 < x)) (et_test (ev_op (hb0 hB1 rfl) ev_c (rv_I0 (g := fun i j => .bl (decide (j < i)))))) (fun hb H2 e2 => ?_) (fun hb H2 e2 => ?_)
    · have hB2 := hB1.ex e2
      refine q_asg (v := .int (x % many)) (ev_op (ev_cb (ea_cons (hb0 hB2 rfl) ea_nil) rc_int1) (ev_var rfl) (rv_I (C := fun _ j => 0 < j) (g := fun i j => .int (i % j)) hm)) fun H3 e3 => ?_
      have hB3 := hB2.ex e3
      refine q_setL (j := 0) (v := .int (x / many)) hB3.1 (ev_op (ev_cb (ea_cons (hb0 hB3 rfl) ea_nil) rc_int1) (ev_var rfl) (rv_I (C := CDiv) (g := fun i j => .int (i / j)) ⟨hm, by omega⟩)) (ev_var rfl) ev_c (by show 0 < 4; decide) fun H4 e4 => ?_
      have hB4 := hB3.ex e4
      refine s_ret (ev_var rfl) fun H5 e5 => q _ _ (Int.emod_nonneg _ (by omega)) (Int.emod_lt_of_pos _ hm) ((k1.trans (KeepBut.trans (.of_ex ((e2.trans e3).trans e4)) KeepBut.self)).trans (.of_ex e5)) (Bag.ex ?_ e5)
      exact ⟨x / many, y, n, cells, upd_same, by rw [upd_ne hB4.2.2.1]; exact hB4.2.1, hB4.2.2.1, Int.ediv_nonneg hx (by omega), hB4.2.2.2.2⟩
    · have hB2 := hB1.ex e2
      generalize hbg : ((y + 1) * 39373) % 1000000007 = bg
      have bg0 : 0 ≤ bg := by rw [← hbg]; exact Int.emod_nonneg _ (by decide)
      have bg1 : bg < 1000000007 := by rw [← hbg]; exact Int.emod_lt_of_pos _ (by decide)
      refine q_asg (v := .int bg) (ev_is (ev_op (ev_cb (ea_cons (ev_op (ev_op (hb1 hB2 rfl) ev_c (rv_I0 (g := fun i j => .int (i + j)))) ev_c (rv_I (C := CMul) (g := fun i j => .int (i * j)) (cm_r (by decide) (by decide)))) ea_nil) rc_int1) ev_c (rv_I (C := fun _ j => 0 < j) (g := fun i j => .int (i % j)) (by decide))) (congrArg V.int hbg)) fun H3 e3 => ?_
      generalize hsc : (bg * bg) % 998244353 * 30011 % 998244353 = sc
      refine q_asg (v := .int sc) (ev_is (ev_op (ev_cb (ea_cons (ev_op (ev_op (ev_cb (ea_cons (ev_op (ev_var rfl) (ev_var rfl) (rv_I (C := CMul) (g := fun i j => .int (i * j)) (cm_l bg0 (by omega)))) ea_nil) rc_int1) ev_c (rv_I (C := fun _ j => 0 < j) (g := fun i j => .int (i % j)) (by decide))) ev_c (rv_I (C := CMul) (g := fun i j => .int (i * j)) (cm_r (by decide) (by decide)))) ea_nil) rc_int1) ev_c (rv_I (C := fun _ j => 0 < j) (g := fun i j => .int (i % j)) (by decide))) (congrArg V.int hsc)) fun H4 e4 => ?_
      refine s_ret (v := .int (sc / 7 % many)) (ev_op (ev_cb (ea_cons (ev_op (ev_var rfl) ev_c (rv_I (C := CDiv) (g := fun i j => .int (i / j)) ⟨by decide, by decide⟩)) ea_nil) rc_int1) (ev_var rfl) (rv_I (C := fun _ j => 0 < j) (g := fun i j => .int (i % j)) hm)) fun H5 e5 => ?_
      have ex := ((e2.trans e3).trans e4).trans e5
      exact q _ _ (Int.emod_nonneg _ (by omega)) (Int.emod_lt_of_pos _ hm) (k1.trans (.of_ex ex)) ⟨x, y, n, cells, hB1.ex ex⟩
/-! ### _law_some -/
def spSome (K : PySem.W.Frag) : Sp := fun vs H Q _ => ∃ (p c a : Addr) (xs : List V), vs = [.ref p, .ref a] ∧ Bag H p c ∧ H a = some (.lst xs) ∧ a ≠ p ∧ xs ≠ [] ∧ xs.length ≤ 1000 ∧ ∀ x H', x ∈ xs → KeepBut p H H' → Bag H' p c → Q x H'
theorem scSome : FnScope ["bag", "things"] ["bag", "things"] (defScope sSome) := ⟨rfl, rfl, rfl, by decide +kernel, rfl, by decide +kernel, by decide +kernel⟩
theorem ok_some {ft : Addr} {fdt : FuncData} {k : Nat} (F : Fun K "_law_some" "_law_some" sSome f fd) (Z : Zs mg) (CT : Callee K mg "_law_take" ft fdt ["bag", "many"]) (GT : FnOk P w K mg base CX0 1 ft fdt ["bag", "many"] spTake) : FnOk P w K mg base CX0 (k + 2) f fd ["bag", "things"] (spSome K) := by
  refine F.ok scSome (fun vs H Q E h => ?_) (fun cdv A outer s H vs Q E hr h => ?_)
  · obtain ⟨p, c, a, xs, rfl, _⟩ := h
    rfl
  obtain ⟨p, c, a, xs, rfl, hB, ha, hap, hx, hxl, q⟩ := h
  have hr1 : Room 1 _ := hr.mono (by omega)
  refine ⟨_, pss_one (ps_ret (pe_ix ix_list (pv 1) (pe_call GT hr1 (by rfl) CT.m CT.k CT.b .nil pass0 (pa_cons (pv 0) (pa_cons (pe_callB call_len_seq (by rfl) Z.len PySem.boot_len (pa_cons (pv 1) pa_nil)) pa_nil))) (fun _ _ => rfl))), ?_⟩
  have hlen : (0 : Int) < (xs.length : Int) := by
    cases xs with
    | nil => exact absurd rfl hx
    | cons x t => show (0 : Int) < ((t.length + 1 : Nat) : Int); omega
  refine ⟨_, rfl, ?_⟩
  refine (ea_cons (σ := start ["bag", "things"] [V.ref p, V.ref a]) (H := H) (ev_var (i := 0) rfl) (ea_cons (ev_len (K := K) (ev_var (i := 1) rfl) (sq_of ha)) ea_nil)) H (Ex.refl H) _ fun H1 e1 => ?_
  refine ⟨p, c, (xs.length : Int), rfl, hB.ex e1, hlen, by omega, fun v H2 hv0 hv1 k2 hB2 => ?_⟩
  obtain ⟨i, rfl⟩ : ∃ i : Nat, v = (i : Int) := ⟨v.toNat, by omega⟩
  have hi : i < xs.length := by omega
  obtain ⟨x, hxi⟩ : ∃ x, xs[i]? = some x := ⟨xs[i], List.getElem?_eq_getElem hi⟩
  exact ⟨a, xs, _, x, rfl, rfl, sq_of (k2 a _ (e1 a _ ha) hap), atI_nat hxi, q x H2 (List.mem_of_getElem? hxi) ((KeepBut.of_ex e1).trans k2) hB2⟩
end
end K9

set_option Elab.async false
set_option linter.all false
set_option maxRecDepth 100000
set_option maxHeartbeats 4000000
/- K98: _law_value_of, _law_alike. -/
namespace K9
open PySem PySem.Spec PyProof.Rows L2 Evl
/-! ### 'x' * 30 -/
def X30 : Str := ⟨(List.replicate 30 (Str.ofString "x").cps).foldl (· ++ ·) #[]⟩
theorem op_x30 {X : Cx} : OpR X (binaryOp .Mult) (fun x y H Q => x = .str (Str.ofString "x") ∧ y = .int 30 ∧ Q (.str X30) H) := by
  intro pins s σ H x y v u Q I rx ry h
  obtain ⟨rfl, rfl, q⟩ := h
  obtain ⟨t, rfl⟩ := rx
  obtain ⟨t', rfl⟩ := ry
  refine PySem.P.mul_str (by decide) (fun _ _ => by decide) (fun _ _ => by decide) ?_
  rw [if_neg (by decide), if_neg (by decide)]
  exact ⟨by decide, .str X30, H, I.tok _, ⟨_, rfl⟩, q⟩
section
variable {P : Program} {w : World} {K : PySem.W.Frag} {mg : Str → Option Value} {base : Heap} {f : Addr} {fd : FuncData} {σ : L2.St} {H H' : Hp} {p c : Addr}
/-! ### calls of take and some -/
theorem take_call {i : Nat} {many : Int} {Q : VK} (h0 : σ[i]? = some (some (.ref p))) (hB : Bag H p c) (hm : 0 < many) (hm2 : many < 1000000) (q : ∀ v H', 0 ≤ v → v < many → KeepBut p H H' → Bag H' p c → Q (.int v) H') :
    tCall spTake [] E0 (tCons (tVar i) (tCons (tC (.int many)) tNil)) σ H Q := ⟨_, h0, p, c, many, rfl, hB, hm, hm2, q⟩
theorem bag_some (h : Bag H p c) : ∃ xs, H p = some (.lst xs) := by
  obtain ⟨x, y, n, cells, h, _⟩ := h
  exact ⟨_, h⟩
theorem some_call {i : Nat} {ta : TA} {xs : List V} {Q : VK} (h0 : σ[i]? = some (some (.ref p))) (hB : Bag H p c) (hl : EvA ta σ H xs) (hx : xs ≠ []) (hz : xs.length ≤ 1000) (q : ∀ x H', x ∈ xs → KeepBut p H H' → Bag H' p c → Q x H') :
    tCall (spSome K) [] E0 (tCons (tVar i) (tCons (tLst ta) tNil)) σ H Q := ⟨_, h0, by
  obtain ⟨ys, hp⟩ := bag_some hB
  exact (el_lst hl (by omega)) H (Ex.refl H) _ fun a H1 ha e1 h1 => ⟨p, c, a, xs, rfl, hB.ex e1, h1, (ne_of_none hp ha).symm, hx, hz, fun x H2 hx2 k2 hB2 => q x H2 hx2 ((KeepBut.of_ex e1).trans k2) hB2⟩⟩
/-! ### _law_value_of -/
def odd7 : List V := [.int 0, .int 7, .int (-1), .int (10 ^ (39 : Int).toNat), .int (10 ^ (40 : Int).toNat - 1), .int (1 - 10 ^ (40 : Int).toNat), .int 12]
def odd5 : List V := [.str (Str.ofString "a"), .str (Str.ofString "floor"), .str (Str.ofString "z9"), .str (Str.ofString "is"), .str X30]
theorem odd7_dr {n : Nat} {x : V} (h : x ∈ odd7) : ∃ d, Dr n d ∧ ∀ H, TD K H x d := by
  have go : ∀ i : Int, i.natAbs < 10 ^ 40 → ∃ d, Dr n d ∧ ∀ H, TD K H (.int i) d := fun i hi => ⟨.int i, .int hi, fun _ => .int i⟩
  unfold odd7 at h
  rcases List.mem_cons.mp h with rfl | h
  · exact go _ (by decide)
  rcases List.mem_cons.mp h with rfl | h
  · exact go _ (by decide)
  rcases List.mem_cons.mp h with rfl | h
  · exact go _ (by decide)
  rcases List.mem_cons.mp h with rfl | h
  · exact go _ (by decide)
  rcases List.mem_cons.mp h with rfl | h
  · exact go _ (by decide)
  rcases List.mem_cons.mp h with rfl | h
  · exact go _ (by decide)
  rcases List.mem_cons.mp h with rfl | h
  · exact go _ (by decide)
  cases h
theorem odd5_dr {n : Nat} {x : V} (h : x ∈ odd5) : ∃ d, Dr n d ∧ ∀ H, TD K H x d := by
  have go : ∀ z : Str, isWord (TL.tl z) = true → z.length ≤ 40 → ∃ d, Dr n d ∧ ∀ H, TD K H (.str z) d := fun z h1 h2 => ⟨.str z, .str h1 h2, fun _ => .str z⟩
  unfold odd5 at h
  rcases List.mem_cons.mp h with rfl | h
  · exact go _ (by decide +kernel) (by decide +kernel)
  rcases List.mem_cons.mp h with rfl | h
  · exact go _ (by decide +kernel) (by decide +kernel)
  rcases List.mem_cons.mp h with rfl | h
  · exact go _ (by decide +kernel) (by decide +kernel)
  rcases List.mem_cons.mp h with rfl | h
  · exact go _ (by decide +kernel) (by decide +kernel)
  rcases List.mem_cons.mp h with rfl | h
  · exact go _ (by decide +kernel) (by decide +kernel)
  cases h
def spVo (K : PySem.W.Frag) (n : Nat) : Sp := fun vs H Q _ => ∃ (p c : Addr), vs = [.ref p, .int (n : Int)] ∧ Bag H p c ∧ ∀ v d H', Dr n d → TD K H' v d → KeepBut p H H' → Bag H' p c → Q v H'
abbrev nVo : List Str := ["bag", "deep", "way", "turn"]
theorem scVo : FnScope nVo ["bag", "deep"] (defScope sValueOf) := ⟨rfl, rfl, rfl, by decide +kernel, rfl, by decide +kernel, by decide +kernel⟩
theorem step_vo {ft fs : Addr} {fdt fds : FuncData} (F : Fun K "_law_value_of" "_law_value_of" sValueOf f fd) (Z : Zs mg) (C : Callee K mg "_law_value_of" f fd ["bag", "deep"]) (CT : Callee K mg "_law_take" ft fdt ["bag", "many"]) (CS : Callee K mg "_law_some" fs fds ["bag", "things"])
    (GT : FnOk P w K mg base CX0 1 ft fdt ["bag", "many"] spTake) (GS : FnOk P w K mg base CX0 2 fs fds ["bag", "things"] (spSome K))
    (n : Nat) (spIn : Sp) (G : FnOk P w K mg base CX0 (n + 2) f fd ["bag", "deep"] spIn) (hin : ∀ m, n = m + 1 → ∀ vs H Q E, spVo K m vs H Q E → spIn vs H Q E) :
    FnOk P w K mg base CX0 (n + 3) f fd ["bag", "deep"] (spVo K n) := by
  refine F.ok scVo (fun vs H Q E h => ?_) (fun cdv A outer s H vs Q E hr h => ?_)
  · obtain ⟨p, c, rfl, _⟩ := h
    rfl
  obtain ⟨p, c, rfl, hB, q⟩ := h
  have hr1 : Room 1 _ := hr.mono (by omega)
  have hr2 : Room 2 _ := hr.mono (by omega)
  refine ⟨_, pss_cut (ps_set (i := 2) scVo.nd rfl (Or.inl rfl) (pe_ifExp (pt_cmpR op_gt (pv 1) pe_int (nomark _)) (pe_call GT hr1 (by rfl) CT.m CT.k CT.b .nil pass0 (pa_cons (pv 0) (pa_cons pe_int pa_nil))) (pe_call GT hr1 (by rfl) CT.m CT.k CT.b .nil pass0 (pa_cons (pv 0) (pa_cons pe_int pa_nil)))))
    (pss_cons (ps_if (pt_cmpR op_eq (pv 2) pe_int (nomark _)) (pss_one (ps_ret pe_non)) pss_nil)
    (pss_cons (ps_if (pt_cmpR op_eq (pv 2) pe_int (nomark _)) (pss_one (ps_ret (pe_call GS hr2 (by rfl) CS.m CS.k CS.b .nil pass0 (pa_cons (pv 0) (pa_cons (pe_lst (pa_cons pe_int (pa_cons pe_int (pa_cons (pe_un un_neg pe_int) (pa_cons (pe_op op_pow pe_int pe_int) (pa_cons (pe_op op_sub (pe_op op_pow pe_int pe_int) pe_int) (pa_cons (pe_op op_sub pe_int (pe_op op_pow pe_int pe_int)) (pa_cons pe_int pa_nil)))))))) pa_nil))))) pss_nil)
    (pss_cons (ps_if (pt_cmpR op_lt (pv 2) pe_int (nomark _)) (pss_one (ps_ret (pe_call GS hr2 (by rfl) CS.m CS.k CS.b .nil pass0 (pa_cons (pv 0) (pa_cons (pe_lst (pa_cons pe_str (pa_cons pe_str (pa_cons pe_str (pa_cons pe_str (pa_cons (pe_op op_x30 pe_str pe_int) pa_nil)))))) pa_nil))))) pss_nil)
    (pss_one (ps_ret (pe_callTy call_tuple_of (by rfl) Z.tuple (by decide +kernel) (pa_cons
      (pe_lc (own := [("turn", 3)]) (g := gName 3) (tt := tYes) rfl scVo.nd (pi_range1 (by rfl) Z.range (pa_cons (pe_call GT hr1 (by rfl) CT.m CT.k CT.b .nil pass0 (pa_cons (pv 0) (pa_cons pe_int pa_nil))) pa_nil)) (blkOk_by (N := nVo) (sc := defScope sValueOf) (by decide +kernel)) (fun _ _ _ _ _ => pg_name (i := 3) scVo.nd rfl (Or.inl rfl)) (fun _ _ _ _ _ => pts_nil)
        (fun _ _ _ _ _ => pe_call G hr (by rfl) C.m C.k C.b .nil pass0 (pa_cons (pv 0) (pa_cons (pe_op op_sub (pv 1) pe_int) pa_nil)))) pa_nil))))))), ?_⟩
  refine q_cut (M := fun σ' H1 => ∃ way : Int, σ' = [some (.ref p), some (.int (n : Int)), some (.int way), none] ∧ 0 ≤ way ∧ way < 5 ∧ (n = 0 → way < 4) ∧ KeepBut p H H1 ∧ Bag H1 p c) ?_ ?_
  · refine (et_test (ev_op (σ := start nVo [V.ref p, V.int (n : Int)]) (H := H) (ev_var (i := 1) rfl) ev_c (rv_I0 (g := fun i j => .bl (decide (j < i))) (i := (n : Int)) (j := 0)))) H (Ex.refl H) _ fun H1 e1 => ?_
    by_cases hn : (0 : Int) < (n : Int)
    · rw [if_pos (decide_eq_true hn)]
      exact take_call rfl (hB.ex e1) (by decide) (by decide) fun v H2 a1 a2 a3 a4 => ⟨v, rfl, a1, a2, fun z => by omega, (KeepBut.of_ex e1).trans a3, a4⟩
    · rw [decide_eq_false hn, if_neg Bool.false_ne_true]
      exact take_call rfl (hB.ex e1) (by decide) (by decide) fun v H2 a1 a2 a3 a4 => ⟨v, rfl, a1, by omega, fun _ => a2, (KeepBut.of_ex e1).trans a3, a4⟩
  rintro σ' H1 ⟨way, rfl, w0, w5, w4, k1, hB1⟩
  have hint : ∀ {a b : Int}, V.int a = V.int b → a = b := fun h => V.int.inj h
  refine q_when (b := decide (V.int way = V.int 0)) (et_test (ev_op (ev_var rfl) ev_c (rv_eq rfl))) (fun hb H2 e2 => ?_) (fun hb H2 e2 => ?_)
  · exact s_ret ev_c fun H3 e3 => q .non .none H3 .none .non (k1.trans (.of_ex (e2.trans e3))) (hB1.ex (e2.trans e3))
  refine q_when (b := decide (V.int way = V.int 1)) (et_test (ev_op (ev_var rfl) ev_c (rv_eq rfl))) (fun hb H3 e3 => ?_) (fun hb3 H3 e3 => ?_)
  · refine some_call (K := K) (xs := odd7) rfl (hB1.ex (e2.trans e3)) (ea_cons ev_c (ea_cons ev_c (ea_cons (ev_un ev_c ru_neg) (ea_cons (ev_op ev_c ev_c (rv_I (C := CPow) (g := fun i j => .int (i ^ j.toNat)) ⟨by decide, by decide, by decide⟩))
      (ea_cons (ev_op (ev_op ev_c ev_c (rv_I (C := CPow) (g := fun i j => .int (i ^ j.toNat)) ⟨by decide, by decide, by decide⟩)) ev_c (rv_I0 (g := fun i j => .int (i - j)))) (ea_cons (ev_op ev_c (ev_op ev_c ev_c (rv_I (C := CPow) (g := fun i j => .int (i ^ j.toNat)) ⟨by decide, by decide, by decide⟩)) (rv_I0 (g := fun i j => .int (i - j)))) (ea_cons ev_c ea_nil)))))))
      (fun z => nomatch z) (by show 7 ≤ 1000; decide) fun x H4 hx k4 hB4 => ?_
    obtain ⟨d, hdr, htd⟩ := odd7_dr (K := K) (n := n) hx
    exact q x d H4 hdr (htd H4) ((k1.trans (.of_ex (e2.trans e3))).trans k4) hB4
  refine q_when (b := decide (way < 4)) (et_test (ev_op (ev_var rfl) ev_c (rv_I0 (g := fun i j => .bl (decide (i < j)))))) (fun hb4 H4 e4 => ?_) (fun hb4 H4 e4 => ?_)
  · refine some_call (K := K) (xs := odd5) rfl (hB1.ex ((e2.trans e3).trans e4)) (ea_cons ev_c (ea_cons ev_c (ea_cons ev_c (ea_cons ev_c (ea_cons (ev_op ev_c ev_c (rv_val (z := .str X30) fun H5 _ Q' q' => ⟨rfl, rfl, q'⟩)) ea_nil)))))
      (fun z => nomatch z) (by show 5 ≤ 1000; decide) fun x H5 hx k5 hB5 => ?_
    obtain ⟨d, hdr, htd⟩ := odd5_dr (K := K) (n := n) hx
    exact q x d H5 hdr (htd H5) ((k1.trans (.of_ex ((e2.trans e3).trans e4))).trans k5) hB5
  -- a tuple
  have hway : ¬ way < 4 := of_decide_eq_false hb4
  obtain ⟨m, rfl⟩ : ∃ m, n = m + 1 := by
    cases n with
    | zero => exact absurd (w4 rfl) hway
    | succ m => exact ⟨m, rfl⟩
  have k4 := k1.trans (.of_ex ((e2.trans e3).trans e4))
  have hB4 := hB1.ex ((e2.trans e3).trans e4)
  refine take_call rfl hB4 (by decide) (by decide) fun v H5 v0 v4 k5 hB5 => ?_
  refine ⟨v, rfl, by omega, by omega, fun Dl hD => ?_⟩
  have k15 := k4.trans k5
  obtain ⟨ys, hp5⟩ := bag_some hB5
  have hDp : Dl ≠ p := (ne_of_none hp5 hD).symm
  have hDc : c ≠ Dl := by
    obtain ⟨x, y, n, cells, b1, b2, b3⟩ := hB5
    exact ne_of_none b2 hD
  have hD0 : H Dl = none := by
    cases y : H Dl with
    | none => rfl
    | some o =>
      have y2 := k15 Dl o y hDp
      rw [hD] at y2
      cases y2
  refine lc_range (lo := 0) (n := v.toNat) (fun i H' => KeepBut p H H' ∧ Bag H' p c ∧ ∃ vs ds, H' Dl = some (.lst vs) ∧ TDs K H' vs ds ∧ ds.length = i ∧ ∀ d ∈ ds, Dr m d) ⟨k15.mut hD0, ?_, [], [], upd_same, .nil, rfl, fun d h => nomatch h⟩ ?_ ?_
  · obtain ⟨x, y, n, cells, b⟩ := hB5
    exact ⟨x, y, n, cells, b.ex (Ex.new hD)⟩
  · rintro i H6 hi ⟨k6, hB6, vs, ds, hl6, htd, hlen, hdr⟩
    refine ⟨rfl, ?_⟩
    show tCall spIn [] E0 (tCons (tVar 0) (tCons (tOp (rI0 fun i j => .int (i - j)) (tVar 1) (tC (.int 1))) tNil)) _ H6 _
    refine ⟨_, rfl, _, rfl, _, _, rfl, rfl, hin m rfl _ _ _ _ ⟨p, c, ?_, hB6, fun u d H7 h1 h2 k7 hB7 => ?_⟩⟩
    · show [V.ref p, .int (((m + 1 : Nat) : Int) - 1)] = _
      rw [show (((m + 1 : Nat) : Int) - 1) = (m : Int) by omega]
    · have hl7 := k7 Dl _ hl6 hDp
      have tk := upd_tk (K := K) (ys := vs ++ [u]) hl7
      have tk6 := k7.tkB (K := K) hB6
      have lenv := TDs.len htd
      refine ⟨vs, hl7, sz_lt (by omega), (k6.trans k7).mut hD0, ?_, vs ++ [u], ds ++ [d], upd_same, TDs.snoc (TDs.keep tk _ _ (TDs.keep tk6 _ _ htd)) (TD.keep tk _ _ h2), by rw [List.length_append, hlen]; rfl, fun x hx => ?_⟩
      · obtain ⟨x, y, n, cells, b1, b2, b3⟩ := hB7
        exact ⟨x, y, n, cells, by rw [upd_ne (Ne.symm hDp)]; exact b1, by rw [upd_ne hDc]; exact b2, b3⟩
      · rcases List.mem_append.mp hx with y | y
        · exact hdr x y
        · rcases List.mem_cons.mp y with rfl | y
          · exact h1
          · cases y
  · rintro H6 ⟨k6, hB6, vs, ds, hl6, htd, hlen, hdr⟩
    refine ⟨Dl, vs, rfl, .inl ⟨sq_of hl6, fun l hl => ?_⟩⟩
    have e6 : Ex H6 (upd H6 l (.tup vs)) := Ex.new hl
    exact q (.ref l) (.tuple ds) _ (.tup (by omega) hdr) (.tup (st_of upd_same) (TDs.ex e6 htd)) (k6.trans (.of_ex e6)) (hB6.ex e6)
theorem ok_vo {ft fs : Addr} {fdt fds : FuncData} (F : Fun K "_law_value_of" "_law_value_of" sValueOf f fd) (Z : Zs mg) (C : Callee K mg "_law_value_of" f fd ["bag", "deep"]) (CT : Callee K mg "_law_take" ft fdt ["bag", "many"]) (CS : Callee K mg "_law_some" fs fds ["bag", "things"])
    (GT : FnOk P w K mg base CX0 1 ft fdt ["bag", "many"] spTake) (GS : FnOk P w K mg base CX0 2 fs fds ["bag", "things"] (spSome K)) : ∀ n : Nat, FnOk P w K mg base CX0 (n + 3) f fd ["bag", "deep"] (spVo K n)
  | 0 => step_vo F Z C CT CS GT GS 0 _ fn_none fun m z => by omega
  | n + 1 => step_vo F Z C CT CS GT GS (n + 1) _ (ok_vo F Z C CT CS GT GS n) fun m z vs H Q E h => by
    cases z
    exact h
/-! ### _law_alike -/
def spAlike (K : PySem.W.Frag) : Sp := fun vs H Q _ => ∃ (v u : V) (d : PyData), vs = [v, u] ∧ Dp K H v d ∧ Dp K H u d ∧ d.canLay0 = true ∧ d.showable = true ∧ d.depth ≤ 64 ∧ d.shown.length ≤ 100000 ∧ RetV (.bl true) H Q
theorem scAlike : FnScope ["found", "wanted"] ["found", "wanted"] (defScope sAlike) := ⟨rfl, rfl, rfl, by decide +kernel, rfl, by decide +kernel, by decide +kernel⟩
theorem fun_okN {x qual : Str} {st : Stmt} {f : Addr} {fd : FuncData} {N ps : List Str} {k : Nat} {sp : Sp} (F : Fun K x qual st f fd) (S : FnScope N ps (defScope st))
    (len : ∀ vs H Q E, sp vs H Q E → vs.length = ps.length)
    (hbody : ∀ (cdv : Value) (A : Around), A.guards = some [] → ∀ (outer : List Env) (s : Shared) (H : Hp) (vs : List V) (Q : VK) (E : XK), Room k (A.deeper (envOfC qual (defScope st) s.heap.objs.size f cdv)) → sp vs H Q E →
      ∃ t, PSs (cxOf CX0 P w K mg base N qual (defScope st) f cdv A outer s H E).nox (defBody st) t ∧ t { nx := fun _ H' => Q .non H', rt := Q } (start N vs) H) : FnG P w K mg base CX0 (k + 1) f fd ps sp :=
  fun_okG F S len fun cdv A hg outer s H vs Q E hr h => by
    obtain ⟨t, ht, q⟩ := hbody cdv A hg outer s H vs Q E hr h
    exact ⟨t, ht.nox, q⟩
theorem ok_alike {k : Nat} (F : Fun K "_law_alike" "_law_alike" sAlike f fd) (Z : Zs mg) : FnG P w K mg base CX0 (k + 1) f fd ["found", "wanted"] (spAlike K) := by
  refine fun_okN F scAlike (fun vs H Q E h => ?_) (fun cdv A hg outer s H vs Q E hr h => ?_)
  · obtain ⟨v, u, d, rfl, _⟩ := h
    rfl
  obtain ⟨v, u, d, rfl, hv, hu, hl, hs, hd, hsz, q⟩ := h
  refine ⟨_, pss_one (ps_ret (pe_and (pe_cmpR op_eq (pe_callB (call_reprD hg hr) (by rfl) Z.repr (by decide +kernel) (pa_cons (pv 0) pa_nil)) (pe_callB (call_reprD hg hr) (by rfl) Z.repr (by decide +kernel) (pa_cons (pv 1) pa_nil)) (nomark _)) (pe_one (pe_cmpR (op_eqD hr.units) (pv 0) (pv 1) (nomark _))))), ?_⟩
  have hsh : SeqAt.shaped d = true := by
    show (_ && decide _) = true
    rw [hl, decide_eq_true hd]; rfl
  have rep : ∀ {i : Nat} {x : V}, (start ["found", "wanted"] [v, u])[i]? = some (some x) → Dp K H x d → Ev (tCB (rReprD K) (tCons (tVar i) tNil)) (start ["found", "wanted"] [v, u]) H (.str d.shown) := fun h1 h2 =>
    ev_cb (ea_cons (ev_var h1) ea_nil) fun H5 e5 Q' q' => ⟨_, d, rfl, Dp.ex e5 d _ h2, hl, hs, hd, sz_of hsz, q' H5 (Ex.refl H5)⟩
  refine s_ret (ev_is (ev_andV (ev_op (rep (i := 0) rfl hv) (rep (i := 1) rfl hu) (rv_eq rfl)) fun _ => ev_op (ev_var rfl) (ev_var rfl) (rv_val (z := .bl (PyData.eqv d d)) fun H5 e5 Q' q' => ⟨d, d, Dp.ex e5 d _ hv, Dp.ex e5 d _ hu, hsh, hsh, q'⟩)) ?_) q
  rw [PySem.SeqAt.eqv_refl d hl]
  simp
end
end K9

set_option Elab.async false
set_option linter.all false
set_option maxRecDepth 100000
set_option maxHeartbeats 4000000
/- K98: what law needs of its texts and of its odd values. -/
namespace K9
open PySem PySem.Spec PyProof.Rows L2 Evl
/-! ### the signs of a told text -/
theorem join_codes {ps : List (List Nat)} (h : ∀ l ∈ ps, ∀ c ∈ l, c < 128) : ∀ c ∈ TL.joinL [32] ps, c < 128 := by
  cases ps with
  | nil => intro c hc; cases hc
  | cons p r =>
    rw [joinL_cons]
    intro c hc
    rcases List.mem_append.mp hc with y | y
    · exact h p (List.mem_cons_self ..) c y
    · obtain ⟨q, hq, y⟩ := List.mem_flatMap.mp y
      rcases List.mem_cons.mp y with rfl | y
      · decide
      · exact h q (List.mem_cons_of_mem _ hq) c y
theorem int_codes {i : Int} : ∀ c ∈ told (.int i), c < 128 := by
  show ∀ c ∈ TL.tl (Str.ofString (toString i)), c < 128
  cases i with
  | ofNat n =>
    intro c hc
    have e : told (.int (Int.ofNat n)) = TL.numL n := by
      exact TL.tl_num n
    have hc' : c ∈ TL.numL n := by rw [← e]; exact hc
    have := dig_iff.mp (List.all_eq_true.mp dig_all c hc')
    omega
  | negSucc n =>
    intro c hc
    rw [tl_neg] at hc
    rcases List.mem_cons.mp hc with rfl | hc
    · decide
    · have := dig_iff.mp (List.all_eq_true.mp dig_all c hc)
      omega
theorem told_codes {n : Nat} {d : PyData} (h : Dr n d) : ∀ c ∈ told d, c < 128 := by
  induction h with
  | none => decide
  | int h => exact int_codes
  | str h hl =>
    intro c hc
    obtain ⟨_, _, _, _, ha⟩ := word_shape h
    have := ld_iff.mp (ha c hc)
    omega
  | @tup n ds hl h ih =>
    rw [told_tuple]
    intro c hc
    rcases List.mem_cons.mp hc with rfl | hc
    · decide
    rcases List.mem_append.mp hc with y | y
    · refine join_codes (fun l hl c hc => ?_) c y
      obtain ⟨d, hd, rfl⟩ := List.mem_map.mp hl
      exact ih d hd c hc
    · rcases List.mem_cons.mp y with rfl | y
      · decide
      · cases y
theorem known_of {l : List Nat} (h : ∀ c ∈ l, c < 128) : Known l := fun c hc => Nat.lt_trans (h c hc) (by decide)
/-! ### what repr and == need -/
structure Good (d : PyData) : Prop where
  lay : d.canLay0 = true
  sh : d.showable = true
  dep : d.depth ≤ 64
  len : d.shown.length ≤ 100000
theorem fit_good {d : PyData} {c o : Nat} (f : Fit d c o) (hc : c ≤ 5000) (ho : o ≤ 60) : Good d := ⟨f.lay, f.sh, by have := f.dep; omega, by have := f.len; omega⟩
theorem str_lay {z : Str} (h : Known (TL.tl z)) : PyData.canLay0 (.str z) = true := by
  show PyData.strOk z = true
  unfold PyData.strOk
  rw [Array.all_eq_true']
  intro y hy
  exact decide_eq_true (h y (Array.mem_toList_iff.mpr hy))
theorem pair_good {z : Str} {d : PyData} {c o : Nat} (hz : Known (TL.tl z)) (hl : z.length ≤ 1200) (f : Fit d c o) (hc : c ≤ 1200) (ho : o ≤ 60) : Good (.list [.str z, d]) := by
  have h1 := str_lay hz
  have h2 := f.lay
  have h3 := f.sh
  refine ⟨?_, ?_, ?_, ?_⟩
  · rw [PyData.canLay0, PyData.canLayAll0, PyData.canLayAll0, PyData.canLayAll0, h1, h2]; rfl
  · rw [PyData.showable, PyData.showableAll, PyData.showableAll, PyData.showableAll, h3]; rfl
  · rw [PyData.depth, PyData.depthAll, PyData.depthAll, PyData.depthAll]
    have := f.dep
    have e : PyData.depth (.str z) = 0 := rfl
    rw [e]
    omega
  · rw [PyData.shown]
    have a := listText_len_le (PyData.shownAll [.str z, d])
    rw [PyData.shownAll, PyData.shownAll, PyData.shownAll] at a ⊢
    have b := StrLaws.reprText_len z fun c hc => by
      have := hz c hc
      have : (16 : Nat) ^ 8 = 4294967296 := by decide
      omega
    have e : (PyData.str z).shown = reprText z := rfl
    rw [e] at a ⊢
    have := f.len
    simp only [List.map_cons, List.map_nil, List.sum_cons, List.sum_nil, List.length_cons, List.length_nil] at a
    omega
/-! ### the text bent -/
def moreL : List V := [.str (Str.ofString ""), .str (Str.ofString "?"), .str (Str.ofString "A"), .str (Str.ofString "01"), .str (Str.ofString "-0"), .str (Str.ofString "("), .str (Str.ofString ")"), .str (Str.ofString "9a"), .str (Str.ofString "--"), .str (Str.ofString " "), .str (Str.ofString "  "), .str (Str.ofString "-"), .str (Str.ofString "a")]
theorem more_is {x : V} (h : x ∈ moreL) : ∃ m : Str, x = .str m ∧ m.length ≤ 2 ∧ opens (TL.tl m) ≤ 1 ∧ ∀ c ∈ TL.tl m, c < 128 := by
  have go : ∀ m : Str, m.length ≤ 2 → opens (TL.tl m) ≤ 1 → (∀ c ∈ TL.tl m, c < 128) → ∃ m' : Str, V.str m = .str m' ∧ m'.length ≤ 2 ∧ opens (TL.tl m') ≤ 1 ∧ ∀ c ∈ TL.tl m', c < 128 := fun m h1 h2 h3 => ⟨m, rfl, h1, h2, h3⟩
  unfold moreL at h
  rcases List.mem_cons.mp h with rfl | h
  · exact go _ (by decide +kernel) (by decide +kernel) (by decide +kernel)
  rcases List.mem_cons.mp h with rfl | h
  · exact go _ (by decide +kernel) (by decide +kernel) (by decide +kernel)
  rcases List.mem_cons.mp h with rfl | h
  · exact go _ (by decide +kernel) (by decide +kernel) (by decide +kernel)
  rcases List.mem_cons.mp h with rfl | h
  · exact go _ (by decide +kernel) (by decide +kernel) (by decide +kernel)
  rcases List.mem_cons.mp h with rfl | h
  · exact go _ (by decide +kernel) (by decide +kernel) (by decide +kernel)
  rcases List.mem_cons.mp h with rfl | h
  · exact go _ (by decide +kernel) (by decide +kernel) (by decide +kernel)
  rcases List.mem_cons.mp h with rfl | h
  · exact go _ (by decide +kernel) (by decide +kernel) (by decide +kernel)
  rcases List.mem_cons.mp h with rfl | h
  · exact go _ (by decide +kernel) (by decide +kernel) (by decide +kernel)
  rcases List.mem_cons.mp h with rfl | h
  · exact go _ (by decide +kernel) (by decide +kernel) (by decide +kernel)
  rcases List.mem_cons.mp h with rfl | h
  · exact go _ (by decide +kernel) (by decide +kernel) (by decide +kernel)
  rcases List.mem_cons.mp h with rfl | h
  · exact go _ (by decide +kernel) (by decide +kernel) (by decide +kernel)
  rcases List.mem_cons.mp h with rfl | h
  · exact go _ (by decide +kernel) (by decide +kernel) (by decide +kernel)
  rcases List.mem_cons.mp h with rfl | h
  · exact go _ (by decide +kernel) (by decide +kernel) (by decide +kernel)
  cases h
theorem bent_facts {l m : List Nat} {i e : Nat} (hl : ∀ c ∈ l, c < 128) (hm : ∀ c ∈ m, c < 128) (ho : opens l ≤ 13) (ho2 : opens m ≤ 1) (hz : l.length ≤ 1159) (hz2 : m.length ≤ 2) :
    (∀ c ∈ (l.take i ++ m) ++ l.drop (i + e), c < 128) ∧ opens ((l.take i ++ m) ++ l.drop (i + e)) ≤ 14 ∧ ((l.take i ++ m) ++ l.drop (i + e)).length ≤ 1161 := by
  refine ⟨fun c hc => ?_, ?_, ?_⟩
  · rcases List.mem_append.mp hc with y | y
    · rcases List.mem_append.mp y with y | y
      · exact hl c (List.mem_of_mem_take y)
      · exact hm c y
    · exact hl c (List.mem_of_mem_drop y)
  · unfold opens at *
    rw [List.count_append, List.count_append]
    have h1 : l.count 40 = (l.take i).count 40 + (l.drop i).count 40 := by
      conv => lhs; rw [← List.take_append_drop i l, List.count_append]
    have h2 : (l.drop (i + e)).count 40 ≤ (l.drop i).count 40 := by
      rw [← List.drop_drop]
      exact (List.drop_suffix e (l.drop i)).sublist.count_le 40
    omega
  · rw [List.length_append, List.length_append, List.length_take, List.length_drop]
    omega
/-! ### the odd values -/
def odd8 : List PyData := [.bool true, .list [.int 1], .tuple [.str (Str.ofString "A")], .tuple [.str (Str.ofString "1a")], .int (10 ^ (40 : Int).toNat), .int (-(10 ^ (40 : Int).toNat)), .list [.none], .tuple [.str (Str.ofString "")]]
theorem odd8_is {d : PyData} (h : d ∈ odd8) : Short 3 d ∧ isPlain 60 d = false := by
  have one : ∀ z : Str, z.length ≤ 100000 → Short 3 (.tuple [.str z]) := fun z hz => .tup (by show 1 ≤ 1000; decide) fun d hd => by
    rcases List.mem_cons.mp hd with rfl | hd
    · exact .str hz
    · cases hd
  unfold odd8 at h
  rcases List.mem_cons.mp h with rfl | h
  · exact ⟨.bool, by decide +kernel⟩
  rcases List.mem_cons.mp h with rfl | h
  · exact ⟨.list, by decide +kernel⟩
  rcases List.mem_cons.mp h with rfl | h
  · exact ⟨one _ (by decide +kernel), by decide +kernel⟩
  rcases List.mem_cons.mp h with rfl | h
  · exact ⟨one _ (by decide +kernel), by decide +kernel⟩
  rcases List.mem_cons.mp h with rfl | h
  · exact ⟨.int, by decide +kernel⟩
  rcases List.mem_cons.mp h with rfl | h
  · exact ⟨.int, by decide +kernel⟩
  rcases List.mem_cons.mp h with rfl | h
  · exact ⟨.list, by decide +kernel⟩
  rcases List.mem_cons.mp h with rfl | h
  · exact ⟨one _ (by decide +kernel), by decide +kernel⟩
  cases h
/-! ### what evaluates to any data -/
section
variable {K : PySem.W.Frag} {σ : L2.St} {H H' : Hp}
def EvP (K : PySem.W.Frag) (te : TE) (σ : L2.St) (H : Hp) (d : PyData) : Prop := ∀ H1, Ex H H1 → ∀ Q : VK, (∀ v H2, Ex H1 H2 → Dp K H2 v d → Q v H2) → te σ H1 Q
def EvPs (K : PySem.W.Frag) (ta : TA) (σ : L2.St) (H : Hp) (ds : List PyData) : Prop := ∀ H1, Ex H H1 → ∀ Q : List V → Hp → Prop, (∀ vs H2, Ex H1 H2 → DpAll K H2 vs ds → Q vs H2) → ta σ H1 Q
theorem ep_nil : EvPs K tNil σ H [] := fun H1 _ _ q => q [] H1 (Ex.refl H1) .nil
theorem ep_cons {te : TE} {tr : TA} {d : PyData} {ds : List PyData} (h : EvP K te σ H d) (hr : EvPs K tr σ H ds) : EvPs K (tCons te tr) σ H (d :: ds) := fun H1 e Q q =>
  h H1 e _ fun v H2 e2 z => hr H2 (e.trans e2) _ fun vs H3 e3 zs => q (v :: vs) H3 (e2.trans e3) (.cons (Dp.ex e3 d v z) zs)
theorem ep_tup {ta : TA} {ds : List PyData} (h : EvPs K ta σ H ds) (hz : ds.length ≤ 1000) : EvP K (tTup ta) σ H (.tuple ds) := fun H1 e Q q =>
  h H1 e _ fun vs H2 e2 zs => ⟨sz_of (by rw [DpAll.len zs]; omega), fun p hp => q (.ref p) _ (e2.trans (Ex.new hp)) (.tup (st_of upd_same) (DpAll.ex (Ex.new hp) ds vs zs))⟩
theorem ep_lst {ta : TA} {ds : List PyData} (h : EvPs K ta σ H ds) (hz : ds.length ≤ 1000) : EvP K (tLst ta) σ H (.list ds) := fun H1 e Q q =>
  h H1 e _ fun vs H2 e2 zs => ⟨sz_of (by rw [DpAll.len zs]; omega), fun p hp => q (.ref p) _ (e2.trans (Ex.new hp)) (.lst (sq_of upd_same) (DpAll.ex (Ex.new hp) ds vs zs))⟩
theorem ep_ev {te : TE} {v : V} {d : PyData} (h : Ev te σ H v) (hd : ∀ H1, Ex H H1 → Dp K H1 v d) : EvP K te σ H d := fun H1 e Q q => h H1 e Q fun H2 e2 => q v H2 e2 (hd H2 (e.trans e2))
theorem ep_d {te : TE} {d : PyData} (h : EvD K te σ H d) : EvP K te σ H d := fun H1 e Q q => h H1 e Q fun v H2 e2 z => q v H2 e2 (TD.dp d v z)
/-- _law_alike of two that are alike -/
theorem ev_alike {ta tb : TE} {d : PyData} (g : Good d) (h1 : EvP K ta σ H d) (h2 : EvP K tb σ H d) : Ev (tCall (spAlike K) [] E0 (tCons ta (tCons tb tNil))) σ H (.bl true) := fun H1 e Q q =>
  h1 H1 e _ fun v H2 e2 hv => h2 H2 (e.trans e2) _ fun u H3 e3 hu => ⟨v, u, d, rfl, Dp.ex e3 d v hv, hu, g.lay, g.sh, g.dep, g.len, fun H4 e4 => q H4 ((e2.trans e3).trans e4)⟩
/-- a for over a tuple of data that was just written -/
theorem q_forP {ta : TA} {ds : List PyData} {tu tz : TS} {D : Ends} {j : Nat} (h : EvPs K ta σ H ds) (hz : ds.length ≤ 1000)
    (k : ∀ (T : Addr) (vs : List V) H1, Ex H H1 → DpAll K H1 vs ds → ∃ Pv : Nat → L2.St → Hp → Prop, Pv 0 σ H1 ∧ (∀ i σ' H', Pv i σ' H' → Ex H1 H') ∧
      (∀ i x σ' H', vs[i]? = some x → Pv i σ' H' → tu { D with nx := Pv (i + 1), ct := Pv (i + 1), bk := tz D } (σ'.set j (some x)) H') ∧ (∀ σ' H', Pv vs.length σ' H' → tz D σ' H')) :
    tSeq (tFor (iTup K (tTup ta)) (gName j) tu) tz D σ H :=
  h H (Ex.refl H) _ fun vs H1 e1 zs => ⟨sz_of (by rw [DpAll.len zs]; omega), fun T hT => by
    have e2 : Ex H1 (upd H1 T (.tup vs)) := Ex.new hT
    have hT2 : (upd H1 T (.tup vs)) T = some (.tup vs) := upd_same
    obtain ⟨Pv, p0, p1, p2, p3⟩ := k T vs (upd H1 T (.tup vs)) (e1.trans e2) (DpAll.ex e2 _ _ zs)
    refine ⟨T, rfl, ⟨vs, st_of hT2⟩, for_it (D := { D with nx := tz D }) (walk_tup (K := K) (a := T) (xs := vs)) Pv p0 (fun i σ' H' _ x => ex_t (p1 i σ' H' x) (st_of hT2)) ?_ p3⟩
    rintro i x σ' H2 _ hi y ⟨rfl, hxi⟩
    exact p2 i x σ' _ hxi y⟩
end
end K9

set_option Elab.async false
set_option linter.all false
set_option maxRecDepth 100000
set_option maxHeartbeats 4000000
/- K98: law. -/
namespace K9
open PySem PySem.Spec PyProof.Rows L2 Evl
section
variable {P : Program} {w : World} {K : PySem.W.Frag} {mg : Str → Option Value} {base : Heap} {f : Addr} {fd : FuncData} {σ : L2.St} {H H' : Hp} {p c : Addr}
theorem passF {X : Cx} : Passes (L2.CX X.prog X.w) X (fun _ _ _ => False) := fun _ _ _ _ _ _ _ h => by
  obtain ⟨_, _, _, _, _, _, _, _, _, _, _, _, z⟩ := h
  exact z.elim
def spLaw (K : PySem.W.Frag) : Sp := fun vs H Q _ => ∃ (a : Addr) (ns : List Int), vs = [.ref a] ∧ SqL K H a (ns.map V.int) ∧ ns.length ≤ 63 ∧ ∀ H', Q (.bl true) H'
abbrev nLaw : List Str := ["script", "bag", "turn", "thing", "text", "at", "more", "bent", "value", "end", "error", "odd"]
theorem scLaw : FnScope nLaw ["script"] (defScope sLaw) := ⟨rfl, rfl, rfl, by decide +kernel, rfl, by decide +kernel, by decide +kernel⟩
/-- all that law calls -/
structure Parts (P : Program) (w : World) (K : PySem.W.Frag) (mg : Str → Option Value) (base : Heap) (CN CB : Addr) : Prop where
  bag : ∃ f fd, Callee K mg "_law_bag" f fd ["script"] ∧ FnOk P w K mg base CX0 1 f fd ["script"] (spBag K)
  take : ∃ f fd, Callee K mg "_law_take" f fd ["bag", "many"] ∧ FnOk P w K mg base CX0 1 f fd ["bag", "many"] spTake
  some : ∃ f fd, Callee K mg "_law_some" f fd ["bag", "things"] ∧ FnOk P w K mg base CX0 2 f fd ["bag", "things"] (spSome K)
  vo : ∃ f fd, Callee K mg "_law_value_of" f fd ["bag", "deep"] ∧ FnOk P w K mg base CX0 6 f fd ["bag", "deep"] (spVo K 3)
  told : ∃ f fd, Callee K mg "_law_told" f fd ["thing"] ∧ FnOk P w K mg base CX0 5 f fd ["thing"] (spTold K 3)
  pv : ∃ f fd, Callee K mg "is_plain_value" f fd ["thing"] ∧ FnOk P w K mg base CX0 6 f fd ["thing"] (spPv K 3)
  vt : ∃ f fd, Callee K mg "value_text" f fd ["thing"] ∧ FnOk P w K mg base (L2.CX P w) 7 f fd ["thing"] (spVt K CN)
  read : ∃ f fd, Callee K mg "read_value" f fd ["text"] ∧ FnOk P w K mg base (L2.CX P w) 18 f fd ["text"] (spRead K CB 14)
  at_ : ∃ f fd, Callee K mg "_law_at" f fd ["text", "at"] ∧ FnOk P w K mg base CX0 16 f fd ["text", "at"] (spAt K 14)
  alike : ∃ f fd, Callee K mg "_law_alike" f fd ["found", "wanted"] ∧ FnG P w K mg base CX0 1 f fd ["found", "wanted"] (spAlike K)
theorem ok_law {CN CB fB : Addr} (F : Fun K "law" "law" sLaw f fd) (Z : Zs mg) (N : NoT K mg CN) (teN : PySem.W.exmOne K (.ref CN) (.ref CN) = some true) (B : Bt.Txt P K mg CB fB) (teB : PySem.W.exmOne K (.ref CB) (.ref CB) = some true) (XB : XfC K CB)
    (G : Parts P w K mg base CN CB) : FnG P w K mg base CX0 20 f fd ["script"] (spLaw K) := by
  obtain ⟨_, _, cB, gB⟩ := G.bag
  obtain ⟨_, _, cT, gT⟩ := G.take
  obtain ⟨_, _, cS, gS⟩ := G.some
  obtain ⟨_, _, cV, gV⟩ := G.vo
  obtain ⟨_, _, cO, gO⟩ := G.told
  obtain ⟨_, _, cP, gP⟩ := G.pv
  obtain ⟨_, _, cX, gX⟩ := G.vt
  obtain ⟨_, _, cR, gR⟩ := G.read
  obtain ⟨_, _, cA, gA⟩ := G.at_
  obtain ⟨_, _, cL, gL⟩ := G.alike
  refine fun_okN F scLaw (fun vs H Q E h => ?_) (fun cdv A hg outer s H vs Q E hr h => ?_)
  · obtain ⟨a, ns, rfl, _⟩ := h
    rfl
  obtain ⟨a, ns, rfl, hS, hns, q⟩ := h
  have hr1 : Room 1 _ := hr.mono (by decide)
  have hr2 : Room 2 _ := hr.mono (by decide)
  have hr5 : Room 5 _ := hr.mono (by decide)
  have hr6 : Room 6 _ := hr.mono (by decide)
  have hr7 : Room 7 _ := hr.mono (by decide)
  have hr16 : Room 16 _ := hr.mono (by decide)
  have hr18 : Room 18 _ := hr.mono (by decide)
  refine ⟨_, pss_cons (ps_set (i := 1) scLaw.nd rfl (Or.inl rfl) (pe_call gB hr1 (by rfl) cB.m cB.k cB.b .nil pass0 (pa_cons (pv 0) pa_nil)))
    (pss_cons (ps_for PassesOwn.never rfl (pi_range1 (by rfl) Z.range (pa_cons pe_int pa_nil)) (pg_name (i := 2) scLaw.nd rfl (Or.inl rfl))
      (pss_cut (ps_set (i := 3) scLaw.nd rfl (Or.inl rfl) (pe_call gV hr6 (by rfl) cV.m cV.k cV.b .nil pass0 (pa_cons (pv 1) (pa_cons pe_int pa_nil))))
      (pss_cons (ps_set (i := 4) scLaw.nd rfl (Or.inl rfl) (pe_call gO hr5 (by rfl) cO.m cO.k cO.b .nil pass0 (pa_cons (pv 3) pa_nil)))
      (pss_cons (ps_if (PW.pt (pw_or (pt_cmpR op_notBl (pe_call gP hr6 (by rfl) cP.m cP.k cP.b .nil pass0 (pa_cons (pv 3) pa_nil)) pe_bl (nomark _))
          (pw_or1 (pt_not (pt_val (pe_callG gL hg hr1 (by rfl) cL.m cL.k cL.b pass0 (pa_cons (pe_lst (pa_cons (pe_call gX hr7 (by rfl) cX.m cX.k cX.b .nil passF (pa_cons (pv 3) pa_nil)) (pa_cons (pe_call gR hr18 (by rfl) cR.m cR.k cR.b .nil passF (pa_cons (pv 4) pa_nil)) pa_nil))) (pa_cons (pe_lst (pa_cons (pv 4) (pa_cons (pv 3) pa_nil))) pa_nil))))))))
        (pss_one (ps_ret pe_bl)) pss_nil)
      (pss_cut (ps_set (i := 5) scLaw.nd rfl (Or.inl rfl) (pe_call gT hr1 (by rfl) cT.m cT.k cT.b .nil pass0 (pa_cons (pv 1) (pa_cons (pe_op op_add (pe_callB call_len_str (by rfl) Z.len PySem.boot_len (pa_cons (pv 4) pa_nil)) pe_int) pa_nil))))
      (pss_cut (ps_set (i := 6) scLaw.nd rfl (Or.inl rfl) (pe_call gS hr2 (by rfl) cS.m cS.k cS.b .nil pass0 (pa_cons (pv 1) (pa_cons (pe_lst (pa_cons pe_str (pa_cons pe_str (pa_cons pe_str (pa_cons pe_str (pa_cons pe_str (pa_cons pe_str (pa_cons pe_str (pa_cons pe_str (pa_cons pe_str (pa_cons pe_str (pa_cons pe_str (pa_cons pe_str (pa_cons pe_str pa_nil)))))))))))))) pa_nil))))
      (pss_cons (ps_set (i := 7) scLaw.nd rfl (Or.inl rfl) (pe_op op_add_str (pe_op op_add_str (pe_slice sl_str (pv 4) po_none (po_some (pv 5))) (pv 6)) (pe_slice sl_str (pv 4) (po_some (pe_op op_add (pv 5) (pe_ifExp (pt_cmpR op_eq (pv 6) pe_str (nomark _)) pe_int pe_int))) po_none)))
      (pss_cons (ps_asg (pe_call gA hr16 (by rfl) cA.m cA.k cA.b .nil pass0 (pa_cons (pv 7) (pa_cons pe_int pa_nil))) (pg_tup rfl (pgs_cons (pg_name (i := 8) scLaw.nd rfl (Or.inl rfl)) (pgs_cons (pg_name (i := 9) scLaw.nd rfl (Or.inl rfl)) pgs_nil))))
      (pss_one (ps_try_as (i := 10) (Wout := fun _ _ _ _ => False) rfl rfl scLaw.nd rfl rfl ⟨rfl, by decide, Or.inl B.gC⟩ takes0
        (fun W pn xe tk _ => pss_one (ps_if (PW.pt (pw_or (pt_not (pt_val (pe_callG gL hg hr1 (by rfl) cL.m cL.k cL.b pass0 (pa_cons (pe_callS gR hr18 (by rfl) cR.m cR.k cR.b (fun σ => passAt tk σ) (pa_cons (pv 7) pa_nil)) (pa_cons (pv 8) pa_nil)))))
            (pw_or1 (pt_cmpR op_ne (pv 9) (pe_callB call_len_str (by rfl) Z.len PySem.boot_len (pa_cons (pv 7) pa_nil)) (nomark _))))) (pss_one (ps_ret pe_bl)) pss_nil))
        (fun a oe cls d pn hz hf => pss_one (ps_if (PW.pt (pw_or (pt_cmpR op_eq (pv 9) (pe_callB call_len_str (by rfl) Z.len PySem.boot_len (pa_cons (pv 7) pa_nil)) (nomark _))
            (pw_or1 (pt_cmpR (show OpR _ (compareOp CmpOp.NotEq) (rNeD K) from op_neD hr.units) (pe_tup (pa_cons (pe_xf XB B.noL hz hf (pv 10)) (pa_cons (pe_xf XB B.noC hz hf (pv 10)) pa_nil))) (pe_tup (pa_cons pe_int (pa_cons (pe_ifExp (pt_cmpR op_lt (pv 9) pe_int (nomark _)) (pe_op op_sub pe_int (pv 9)) (pe_op op_add (pv 9) pe_int)) pa_nil))) (nomark _))))) (pss_one (ps_ret pe_bl)) pss_nil))))))))))))
    (pss_cons (ps_for PassesOwn.never rfl (pi_tup (pe_tup (pa_cons pe_bl (pa_cons (pe_lst (pa_cons pe_int pa_nil)) (pa_cons (pe_tup (pa_cons pe_str pa_nil)) (pa_cons (pe_tup (pa_cons pe_str pa_nil)) (pa_cons (pe_op op_pow pe_int pe_int) (pa_cons (pe_un un_neg (pe_op op_pow pe_int pe_int)) (pa_cons (pe_lst (pa_cons pe_non pa_nil)) (pa_cons (pe_tup (pa_cons pe_str pa_nil)) pa_nil)))))))))) (pg_name (i := 11) scLaw.nd rfl (Or.inl rfl))
      (pss_cons (ps_if (pt_cmpR op_notBl (pe_call gP hr6 (by rfl) cP.m cP.k cP.b .nil pass0 (pa_cons (pv 11) pa_nil)) pe_bl (nomark _)) (pss_one (ps_ret pe_bl)) pss_nil)
      (pss_one (ps_try_only (Wout := fun _ _ _ _ => False) rfl rfl ⟨rfl, by decide, Or.inl N.gC⟩ takes0
        (fun W pn xe tk _ => pss_cons (ps_expr (pe_callS gX hr7 (by rfl) cX.m cX.k cX.b (fun σ => passAt tk σ) (pa_cons (pv 11) pa_nil))) (pss_one (ps_ret pe_bl)))
        (fun a oe cls d pn hz hf => pss_one ps_continue)))))
    (pss_one (ps_ret pe_bl)))), ?_⟩
  -- the bag
  have hbag : ∀ (u : TS) (D : Ends), (∀ p c H1, Bag H1 p c → u D [some (.ref a), some (.ref p), none, none, none, none, none, none, none, none, none, none] H1) → tSeq (tAsg (tCall (spBag K) [] E0 (tCons (tVar 0) tNil)) (gName 1)) u D (start nLaw [.ref a]) H :=
    fun u D k => ⟨_, rfl, a, ns, rfl, hS, hns, fun p c H1 _ _ _ hB => k p c H1 hB⟩
  refine hbag _ _ fun p c H1 hB => ?_
  clear hbag
  refine q_forR1 (n := 14) (ea_cons ev_c ea_nil) (by decide) (fun i σ' H' => Bag H' p c ∧ ∃ s2 s3 s4 s5 s6 s7 s8 s9 s10 s11, σ' = [some (.ref a), some (.ref p), s2, s3, s4, s5, s6, s7, s8, s9, s10, s11])
    (fun H2 e2 => ⟨hB.ex e2, _, _, _, _, _, _, _, _, _, _, rfl⟩) ?_ ?_
  · rintro i σ' H2 hi ⟨hB2, s2, s3, s4, s5, s6, s7, s8, s9, s10, s11, rfl⟩
    -- thing
    refine q_cut (M := fun σ3 H3 => ∃ v d, σ3 = [some (.ref a), some (.ref p), some (.int (i : Int)), some v, s4, s5, s6, s7, s8, s9, s10, s11] ∧ Dr 3 d ∧ TD K H3 v d ∧ Bag H3 p c) ⟨_, rfl, p, c, rfl, hB2, fun v d H3 hdr htd _ hB3 => ⟨v, d, rfl, hdr, htd, hB3⟩⟩ ?_
    rintro _ H3 ⟨v, d, rfl, hdr, htd, hB3⟩
    have hzl := toldS_len (n := 3) (by decide) hdr
    have htl : TL.tl (toldS d) = told d := tl_mkS _
    have hcodes := told_codes hdr
    have hop : opens (told d) ≤ 13 := told_opens hdr
    have htll : (told d).length ≤ 1159 := Nat.le_trans (told_len hdr) (most3 (by decide))
    obtain ⟨m0, hm0⟩ := told_reads hdr
    -- text
    refine q_asg (v := .str (toldS d)) (ev_call (ea_cons (ev_var rfl) ea_nil) fun H4 e4 Q' q' E' => ⟨v, d, rfl, TD.ex e4 htd, hdr, q'⟩) fun H4 e4 => ?_
    have fit := fit_read hm0
    have gd : Good (.list [.str (toldS d), d]) := pair_good (by rw [htl]; exact known_of hcodes) (by omega) fit (by omega) (by omega)
    have htd4 := TD.ex e4 htd
    generalize hz : toldS d = z at htl hzl gd
    refine q_when (b := false) (et_is (et_or (a := false) (b := false) (et_is (et_test (ev_op (ev_call (z := .bl true) (ea_cons (ev_var rfl) ea_nil) fun H5 e5 Q' q' E' => ⟨v, d, rfl, TD.dp d v (TD.ex e5 htd4), short_dr hdr, fun H6 e6 => by
        have r := q' H6 e6
        rw [plain_dr (m := 60) (by decide) hdr]
        exact r⟩) ev_c (rv_val (z := .bl (!decide (true = true))) fun H5 _ Q' q' => ⟨true, true, rfl, rfl, q'⟩))) rfl)
      fun _ => et_is (et_not (et_B (ev_alike (K := K) gd
        (ep_lst (ep_cons (ep_d (ed_call (d := .str z) (ea_cons (ev_var rfl) ea_nil) fun H5 e5 Q' q' => ⟨v, d, rfl, .inl ⟨TD.ex e5 htd4, hdr, fun H6 e6 => by
            rw [hz]
            exact q' _ H6 e6 (.str z)⟩⟩))
          (ep_cons (ep_d (ed_call (d := d) (ea_cons (ev_var rfl) ea_nil) fun H5 e5 Q' q' => ⟨z, m0, .ok d [], rfl, by omega, by rw [htl]; omega, by rw [htl]; exact hm0, fun d' h => by
            cases h
            exact q', fun r h => by
            rcases h with h | ⟨d', h, h2⟩
            · cases h
            · cases h
              exact absurd rfl h2⟩)) ep_nil)) (by show 2 ≤ 1000; decide))
        (ep_lst (ep_cons (ep_ev (v := .str z) (ev_var rfl) fun H5 e5 => .str z) (ep_cons (ep_ev (v := v) (ev_var rfl) fun H5 e5 => TD.dp d v (TD.ex e5 htd4)) ep_nil)) (by show 2 ≤ 1000; decide))))) rfl) rfl) (fun y => nomatch y) (fun _ H5 e5 => ?_)
    have hB5 := (hB3.ex e4).ex e5
    have hz5 : z.length ≤ 100000 := by omega
    -- at
    refine q_cut (M := fun σ6 H6 => ∃ at_ : Nat, σ6 = [some (.ref a), some (.ref p), some (.int (i : Int)), some v, some (.str z), some (.int (at_ : Int)), s6, s7, s8, s9, s10, s11] ∧ Bag H6 p c) ?_ ?_
    · refine ⟨_, rfl, _, rfl, z, rfl, sz_of hz5, _, _, rfl, rfl, p, c, _, rfl, hB5, ?_, ?_, fun u H6 u0 u1 _ hB6 => ⟨u.toNat, ?_, hB6⟩⟩
      · omega
      · omega
      · rw [Int.toNat_of_nonneg u0]
        rfl
    rintro _ H6 ⟨at_, rfl, hB6⟩
    -- more
    refine q_cut (M := fun σ7 H7 => ∃ m : Str, σ7 = [some (.ref a), some (.ref p), some (.int (i : Int)), some v, some (.str z), some (.int (at_ : Int)), some (.str m), s7, s8, s9, s10, s11] ∧ (m.length ≤ 2 ∧ opens (TL.tl m) ≤ 1 ∧ ∀ c ∈ TL.tl m, c < 128) ∧ Bag H7 p c) ?_ ?_
    · refine some_call (i := 1) (K := K) (xs := moreL) rfl hB6 (ea_cons ev_c (ea_cons ev_c (ea_cons ev_c (ea_cons ev_c (ea_cons ev_c (ea_cons ev_c (ea_cons ev_c (ea_cons ev_c (ea_cons ev_c (ea_cons ev_c (ea_cons ev_c (ea_cons ev_c (ea_cons ev_c ea_nil)))))))))))))
        (fun z => nomatch z) (by show 13 ≤ 1000; decide) fun x H7 hx _ hB7 => ?_
      obtain ⟨m, rfl, hm⟩ := more_is hx
      exact ⟨m, rfl, hm, hB7⟩
    rintro _ H7 ⟨m, rfl, ⟨hm1, hm2, hm3⟩, hB7⟩
    -- bent
    obtain ⟨e, he⟩ : ∃ e : Nat, e = if m = Str.ofString "" then 1 else 0 := ⟨_, rfl⟩
    have hml : (TL.tl m).length ≤ 2 := by rw [← TL.len_tl]; exact hm1
    have bf := bent_facts (i := at_) (e := e) hcodes hm3 hop hm2 htll hml
    have hbent : TL.tl ((mkS ((told d).take at_) ++ m) ++ mkS ((told d).drop (at_ + e))) = ((told d).take at_ ++ TL.tl m) ++ (told d).drop (at_ + e) := by
      rw [TL.tl_append, TL.tl_append, tl_mkS, tl_mkS]
    have hl1 : (mkS ((told d).take at_)).length ≤ 1159 := by rw [mkS_len, List.length_take]; omega
    have hl2 : (mkS ((told d).drop (at_ + e))).length ≤ 1159 := by rw [mkS_len, List.length_drop]; omega
    have hl3 : (mkS ((told d).take at_) ++ m).length ≤ 1161 := by
      rw [TL.len_tl, TL.tl_append, List.length_append, ← TL.len_tl, ← TL.len_tl]
      omega
    have hcut1 : cutS z none (some (at_ : Int)) = mkS ((told d).take at_) := by rw [cut_to, htl]
    have hcut2 : cutS z (some ((at_ + e : Nat) : Int)) none = mkS ((told d).drop (at_ + e)) := by rw [cut_from, htl]
    refine q_asg (v := .str ((mkS ((told d).take at_) ++ m) ++ mkS ((told d).drop (at_ + e)))) (ev_op (ev_op (ev_is (ev_slS (ev_var rfl) eo_none (eo_some (ev_var rfl)) hz5) (congrArg V.str hcut1)) (ev_var rfl) (rv_addS (by omega)))
      (ev_is (ev_slS (ev_var rfl) (eo_some (ev_is (ev_op (ev_var rfl) (ev_if (b := decide (m = Str.ofString "")) (v := .int (e : Int)) (et_is (et_test (ev_op (ev_var rfl) ev_c (rv_eq rfl))) ?_) (fun hb => ev_is ev_c ?_) (fun hb => ev_is ev_c ?_)) (rv_I0 (g := fun i j => .int (i + j)))) (show V.int ((at_ : Int) + (e : Int)) = V.int ((at_ + e : Nat) : Int) from rfl))) eo_none hz5) (congrArg V.str hcut2)) (rv_addS (by omega))) fun H8 e8 => ?_
    · by_cases y : m = Str.ofString ""
      · rw [decide_eq_true y, decide_eq_true (congrArg V.str y)]
      · rw [decide_eq_false y, decide_eq_false fun w => y (V.str.inj w)]
    · rw [he, if_pos (of_decide_eq_true hb)]; rfl
    · rw [he, if_neg (of_decide_eq_false hb)]; rfl
    rw [← hbent] at bf
    generalize (mkS ((told d).take at_) ++ m) ++ mkS ((told d).drop (at_ + e)) = bent at bf
    obtain ⟨bf1, bf2, bf3⟩ := bf
    have hbl : bent.length ≤ 1161 := by rw [TL.len_tl]; exact bf3
    obtain ⟨mm, res, hres⟩ := pv_total (TL.tl bent)
    have hB8 := hB7.ex e8
    have hL : (TL.tl bent).length = bent.length := (TL.len_tl bent).symm
    have hb5 : bent.length ≤ 100000 := by omega
    -- value, end
    refine q_asg2D (K := K) (d1 := (match res with | .ok d _ => d | .bad _ => .none)) (d2 := (match res with | .ok _ r => .int ((bent.length - r.length : Nat) : Int) | .bad r => .int (-1 - ((bent.length - r.length : Nat) : Int))))
      (ed_call (ea_cons (ev_var rfl) (ea_cons ev_c ea_nil)) fun H9 e9 Q' q' => ⟨bent, 0, mm, res, rfl, by omega, known_of bf1, Nat.zero_le _, bf2, hres, by cases res <;> exact q'⟩) fun v1 v2 H9 e9 y1 y2 => ?_
    refine ⟨_, _, rfl, _, _, rfl, rfl, ?_⟩
    have hB9 := hB8.ex e9
    have lenE : ∀ {σ : L2.St} {H : Hp}, σ[7]? = some (some (.str bent)) → Ev (tCB (fun xs H Q => ∃ z, xs = [.str z] ∧ z.length ≤ sizeLine ∧ Q (.int z.length) H) (tCons (tVar 7) tNil)) σ H (.int (bent.length : Int)) := fun hs =>
      ev_cb (ea_cons (ev_var hs) ea_nil) fun H5 e5 Q' q' => ⟨_, rfl, sz_of hb5, q' H5 (Ex.refl H5)⟩
    by_cases hres1 : ∃ d', res = .ok d' []
    · -- the whole text is read
      obtain ⟨d', rfl⟩ := hres1
      cases y2
      have gd' : Good d' := fit_good (fit_read hres) (by omega) (by omega)
      refine s_when (b := false) (et_is (et_or (a := false) (b := false) (et_is (et_not (et_B (ev_alike (K := K) gd' (ep_d (d := d') fun H10 e10 Q' q' => ⟨_, rfl, bent, mm, .ok d' [], rfl, by omega, bf2, hres, fun d2 h => by
          cases h
          exact q', fun r h => by
          rcases h with h | ⟨d2, h, h2⟩
          · cases h
          · cases h
            exact absurd rfl h2⟩) (ep_ev (v := v1) (ev_var rfl) fun H10 e10 => TD.dp d' v1 (TD.ex e10 y1))))) rfl)
        fun _ => et_is (et_test (ev_op (ev_var rfl) (lenE rfl) (rv_ne rfl))) ?_) rfl) (fun y => nomatch y) (fun _ H10 e10 => ⟨hB9.ex e10, _, _, _, _, _, _, _, _, _, _, rfl⟩)
      show (!decide (V.int ((bent.length - 0 : Nat) : Int) = V.int (bent.length : Int))) = false
      rw [Nat.sub_zero]
      simp
    · -- it is refused
      obtain ⟨r, hr', hend⟩ : ∃ r, (res = .bad r ∨ ∃ d', res = .ok d' r ∧ r ≠ []) ∧ ∃ e2 : Int, v2 = .int e2 ∧ e2 ≠ (bent.length : Int) ∧ (if e2 < 0 then 0 - e2 else e2 + 1) = ((bent.length - r.length : Nat) : Int) + 1 := by
        have lf := pv_left hres
        cases res with
        | bad r =>
          cases y2
          refine ⟨r, .inl rfl, _, rfl, by omega, ?_⟩
          rw [if_pos (by omega)]
          omega
        | ok d' r =>
          cases y2
          have hne : r ≠ [] := fun y => hres1 ⟨d', by rw [y]⟩
          have hrl : r.length ≠ 0 := fun y => hne (List.length_eq_zero_iff.mp y)
          have hsl := lf.1.length_le
          refine ⟨r, .inr ⟨d', rfl, hne⟩, _, rfl, by omega, ?_⟩
          rw [if_neg (by omega)]
      obtain ⟨e2, rfl, hne2, hcol⟩ := hend
      refine ⟨_, rfl, bent, mm, res, rfl, by omega, bf2, hres, fun d2 h => absurd ⟨d2, h⟩ hres1, fun r2 hr2 dd H10 e10 hdd => ?_⟩
      have hrr : r2 = r := by
        rcases hr2 with h | ⟨d2, h, _⟩
        · rcases hr' with h' | ⟨d3, h', _⟩
          · rw [h] at h'; cases h'; rfl
          · rw [h] at h'; cases h'
        · rcases hr' with h' | ⟨d3, h', _⟩
          · rw [h] at h'; cases h'
          · rw [h] at h'; cases h'; rfl
      subst hrr
      refine ⟨true, teB, fun _ a0 ha0 => ?_, fun y => nomatch y⟩
      generalize ((bent.length - r2.length : Nat) : Int) + 1 = col at hcol hdd
      have l1 : (btFs (V.int 1) (V.int col)).lookup ("line" : Str) = some (.int 1) := by
        have b : (("line" : Str) == ("column" : Str)) = false := by decide
        simp [btFs, List.lookup, b]
      have l2 : (btFs (V.int 1) (V.int col)).lookup ("column" : Str) = some (.int col) := by
        simp [btFs, List.lookup]
      refine s_when (b := false) (et_is (et_or (a := false) (b := false) (et_is (et_test (ev_op (ev_var rfl) (lenE rfl) (rv_eq rfl))) (decide_eq_false fun y => hne2 (V.int.inj y)))
        fun _ => et_is (et_test (ev_opUU (z := .bl false) (xs := [.int 1, .int col]) (ys := [.int 1, .int col])
          (eu_tup (ea_cons (fun H11 e11 Q' q' => ⟨_, rfl, rfl, rfl, dd, _, _, rfl, e11 dd _ hdd, l1, q' H11 (Ex.refl H11)⟩) (ea_cons (fun H11 e11 Q' q' => ⟨_, rfl, rfl, rfl, dd, _, _, rfl, e11 dd _ hdd, l2, q' H11 (Ex.refl H11)⟩) ea_nil)) (by show 2 ≤ 100000; decide))
          (eu_tup (ea_cons ev_c (ea_cons (ev_if (b := decide (e2 < 0)) (et_test (ev_op (ev_var rfl) ev_c (rv_I0 (g := fun i j => .bl (decide (i < j)))))) (fun hb => ev_is (ev_op ev_c (ev_var rfl) (rv_I0 (g := fun i j => .int (i - j)))) (congrArg V.int ?_)) (fun hb => ev_is (ev_op (ev_var rfl) ev_c (rv_I0 (g := fun i j => .int (i + j)))) (congrArg V.int ?_))) ea_nil)) (by show 2 ≤ 100000; decide))
          fun p1 p2 H11 h1 h2 e11 => rv_val fun H12 e12 Q' q' => ⟨.tuple [.int 1, .int col], .tuple [.int 1, .int col], .tup (st_of (e12 p1 _ h1)) (.cons (.int 1) (.cons (.int col) .nil)), .tup (st_of (e12 p2 _ h2)) (.cons (.int 1) (.cons (.int col) .nil)), rfl, rfl, by
            rw [PySem.SeqAt.eqv_refl _ rfl]
            exact q'⟩)) rfl) rfl) (fun y => nomatch y) (fun _ H11 e11 => ⟨(hB9.ex e10).ex e11, _, _, _, _, _, _, _, _, _, _, rfl⟩)
      · rw [← hcol, if_pos (of_decide_eq_true hb)]
      · rw [← hcol, if_neg (of_decide_eq_false hb)]
  · rintro σ' H2 ⟨hB2, s2, s3, s4, s5, s6, s7, s8, s9, s10, s11, rfl⟩
    -- the odd values
    have pw : Ev (tOp (rI CPow fun i j => .int (i ^ j.toNat)) (tC (.int 10)) (tC (.int 40))) [some (.ref a), some (.ref p), s2, s3, s4, s5, s6, s7, s8, s9, s10, s11] H2 (.int (10 ^ (40 : Int).toNat)) :=
      ev_op ev_c ev_c (rv_I (C := CPow) (g := fun i j => .int (i ^ j.toNat)) (i := 10) (j := 40) ⟨by decide, by decide, by decide⟩)
    refine q_forP (K := K) (ds := odd8) (ep_cons (ep_ev (v := .bl true) ev_c fun _ _ => .bl true)
      (ep_cons (ep_lst (ep_cons (ep_ev (v := .int 1) ev_c fun _ _ => .int 1) ep_nil) (by show 1 ≤ 1000; decide))
      (ep_cons (ep_tup (ep_cons (ep_ev (v := .str (Str.ofString "A")) ev_c fun _ _ => .str _) ep_nil) (by show 1 ≤ 1000; decide))
      (ep_cons (ep_tup (ep_cons (ep_ev (v := .str (Str.ofString "1a")) ev_c fun _ _ => .str _) ep_nil) (by show 1 ≤ 1000; decide))
      (ep_cons (ep_ev pw fun _ _ => .int _)
      (ep_cons (ep_ev (ev_un pw ru_neg) fun _ _ => .int _)
      (ep_cons (ep_lst (ep_cons (ep_ev (v := .non) ev_c fun _ _ => .non) ep_nil) (by show 1 ≤ 1000; decide))
      (ep_cons (ep_tup (ep_cons (ep_ev (v := .str (Str.ofString "")) ev_c fun _ _ => .str _) ep_nil) (by show 1 ≤ 1000; decide)) ep_nil)))))))) (by show 8 ≤ 1000; decide) fun tp vs H4 e4 hvs => ?_
    refine ⟨fun i σ' H' => Ex H4 H' ∧ ∃ s2 s3 s4 s5 s6 s7 s8 s9 s10 s11, σ' = [some (.ref a), some (.ref p), s2, s3, s4, s5, s6, s7, s8, s9, s10, s11],
      ⟨Ex.refl H4, _, _, _, _, _, _, _, _, _, _, rfl⟩, fun i σ' H' x => x.1, ?_, ?_⟩
    · rintro i x σ' H5 hxi ⟨x1, t2, t3, t4, t5, t6, t7, t8, t9, t10, t11, rfl⟩
      obtain ⟨d, hdi, hxd⟩ := DpAll.get hvs hxi
      obtain ⟨hsh, hpl⟩ := odd8_is (List.mem_of_getElem? hdi)
      have hx5 := Dp.ex x1 d x hxd
      refine q_when (b := false) (et_is (et_test (ev_op (ev_call (z := .bl false) (ea_cons (ev_var rfl) ea_nil) fun H6 e6 Q' q' E' => ⟨x, d, rfl, Dp.ex e6 d x hx5, hsh, fun H7 e7 => by
        rw [hpl]
        exact q' H7 e7⟩) ev_c (rv_val (z := .bl (!decide (false = false))) fun H6 _ Q' q' => ⟨false, false, rfl, rfl, q'⟩))) rfl) (fun y => nomatch y) (fun _ H6 e6 => ?_)
      refine ⟨_, rfl, x, d, rfl, .inr ⟨Dp.ex e6 d x hx5, hsh, hpl, fun H7 e7 => ⟨true, teN, fun _ a0 ha0 => ?_, fun y => nomatch y⟩⟩⟩
      exact ⟨(x1.trans e6).trans e7, _, _, _, _, _, _, _, _, _, _, rfl⟩
    · rintro σ' H5 ⟨x1, t2, t3, t4, t5, t6, t7, t8, t9, t10, t11, rfl⟩
      exact s_ret ev_c fun H6 _ => q H6
end
end K9

set_option Elab.async false
set_option linter.all false
set_option maxRecDepth 100000
set_option maxHeartbeats 4000000
/- K98: where each def stands; the end. -/
namespace K9
open PySem PySem.Spec PyProof.Rows L2 Evl
theorem exm_self {K : PySem.W.Frag} {S : Addr} (h1 : PySem.W.subIn K (.ref S) (.type "BaseException") = some true) (h2 : PySem.W.isClsIn K S = true) (h3 : PySem.W.typeIn K (.ref S) = some (.type "type")) (h4 : PySem.W.subIn K (.ref S) (.ref S) = some true) :
    PySem.W.exmOne K (.ref S) (.ref S) = some true := by
  have e1 : (PySem.W.subIn K (.ref S) (.type "BaseException") == some true) = true := by rw [h1] <;> rfl
  have e2 : ((PySem.W.clsIn K S).isSome && PySem.W.typeIn K (.ref S) == some (.type "type")) = true := by
    have h2' : (PySem.W.clsIn K S).isSome = true := h2
    rw [h2', h3] <;> rfl
  show (if (PySem.W.subIn K (.ref S) (.type "BaseException") == some true) = true then (if ((PySem.W.clsIn K S).isSome && PySem.W.typeIn K (.ref S) == some (.type "type")) = true then PySem.W.subIn K (.ref S) (.ref S) else none) else none) = some true
  rw [if_pos e1, if_pos e2]
  exact h4
theorem all_mk {w : World} {K : PySem.W.Frag} {h : Heap} {mg : Str → Option Value} {fa CV CB CN CS fB cda cc f1 f2 f3 f4 f5 f6 f7 f8 f9 f10 f11 f12 f13 f14 f15 f16 f17 f18 g1 g2 g3 g4 g5 : Addr} (X : K.In h) (G : h.Ns mainGlobals mg) (hfa : mg "law" = some (.ref fa))
    {oc1 kV1 dc1 pm1 cd1 ct1 : Value} {od1 an1 : Option Addr} {sl1 : Array (Option Value)}
    {oc2 kV2 dc2 pm2 cd2 ct2 : Value} {od2 an2 : Option Addr} {sl2 : Array (Option Value)}
    {oc3 kV3 dc3 pm3 cd3 ct3 : Value} {od3 an3 : Option Addr} {sl3 : Array (Option Value)}
    {oc4 kV4 dc4 pm4 cd4 ct4 : Value} {od4 an4 : Option Addr} {sl4 : Array (Option Value)}
    {oc5 kV5 dc5 pm5 cd5 ct5 : Value} {od5 an5 : Option Addr} {sl5 : Array (Option Value)}
    {oc6 kV6 dc6 pm6 cd6 ct6 : Value} {od6 an6 : Option Addr} {sl6 : Array (Option Value)}
    {oc7 kV7 dc7 pm7 cd7 ct7 : Value} {od7 an7 : Option Addr} {sl7 : Array (Option Value)}
    {oc8 kV8 dc8 pm8 cd8 ct8 : Value} {od8 an8 : Option Addr} {sl8 : Array (Option Value)}
    {oc9 kV9 dc9 pm9 cd9 ct9 : Value} {od9 an9 : Option Addr} {sl9 : Array (Option Value)}
    {oc10 kV10 dc10 pm10 cd10 ct10 : Value} {od10 an10 : Option Addr} {sl10 : Array (Option Value)}
    {oc11 kV11 dc11 pm11 cd11 ct11 : Value} {od11 an11 : Option Addr} {sl11 : Array (Option Value)}
    {oc12 kV12 dc12 pm12 cd12 ct12 : Value} {od12 an12 : Option Addr} {sl12 : Array (Option Value)}
    {oc13 kV13 dc13 pm13 cd13 ct13 : Value} {od13 an13 : Option Addr} {sl13 : Array (Option Value)}
    {oc14 kV14 dc14 pm14 cd14 ct14 : Value} {od14 an14 : Option Addr} {sl14 : Array (Option Value)}
    {oc15 kV15 dc15 pm15 cd15 ct15 : Value} {od15 an15 : Option Addr} {sl15 : Array (Option Value)}
    {oc16 kV16 dc16 pm16 cd16 ct16 : Value} {od16 an16 : Option Addr} {sl16 : Array (Option Value)}
    {oc17 kV17 dc17 pm17 cd17 ct17 : Value} {od17 an17 : Option Addr} {sl17 : Array (Option Value)}
    {oc18 kV18 dc18 pm18 cd18 ct18 : Value} {od18 an18 : Option Addr} {sl18 : Array (Option Value)}
    {moc1 mkV1 mdc1 mpm1 mcd1 mct1 : Value} {mod1 man1 : Option Addr} {msl1 : Array (Option Value)}
    {moc2 mkV2 mdc2 mpm2 mcd2 mct2 : Value} {mod2 man2 : Option Addr} {msl2 : Array (Option Value)}
    {moc3 mkV3 mdc3 mpm3 mcd3 mct3 : Value} {mod3 man3 : Option Addr} {msl3 : Array (Option Value)}
    {moc4 mkV4 mdc4 mpm4 mcd4 mct4 : Value} {mod4 man4 : Option Addr} {msl4 : Array (Option Value)}
    {moc5 mkV5 mdc5 mpm5 mcd5 mct5 : Value} {mod5 man5 : Option Addr} {msl5 : Array (Option Value)}
    {nm q : Str} {NS : Addr} {bs : List Value} {sn : List Str} {sub : List Value} {ab : Bool} {col : Option Bool} {dd : Option Addr} {m0 m1 m2 m3 m5 : Option Value}
    {boc bdc bpm bct ccl ckl : Value} {bod ban cdd cld : Option Addr} {bosl ccs csl : Array (Option Value)} {vs : Array Value} {file : Str} {tf t1 t2 t3 t4 : Tok}
    (a1 : PySem.W.nsIn K mainGlobals "is_number" = some (some (.ref f1)))
    (l1 : K.lookup f1 = some ⟨oc1, od1, .func (PySem.W.fnOf "is_number" "is_number" (defArgs sIsNumber) (defBody sIsNumber) (defScope sIsNumber) .none kV1 dc1 pm1 an1 cd1 ct1), sl1⟩)
    (c1 : PySem.W.codeIn K cd1 "is_number" = true)
    (k1 : PySem.W.keepIn K (.ref f1) = true)
    (a2 : PySem.W.nsIn K mainGlobals "is_word" = some (some (.ref f2)))
    (l2 : K.lookup f2 = some ⟨oc2, od2, .func (PySem.W.fnOf "is_word" "is_word" (defArgs sIsWord) (defBody sIsWord) (defScope sIsWord) .none kV2 dc2 pm2 an2 cd2 ct2), sl2⟩)
    (c2 : PySem.W.codeIn K cd2 "is_word" = true)
    (k2 : PySem.W.keepIn K (.ref f2) = true)
    (a3 : PySem.W.nsIn K mainGlobals "is_plain" = some (some (.ref f3)))
    (l3 : K.lookup f3 = some ⟨oc3, od3, .func (PySem.W.fnOf "is_plain" "is_plain" (defArgs sIsPlain) (defBody sIsPlain) (defScope sIsPlain) .none kV3 dc3 pm3 an3 cd3 ct3), sl3⟩)
    (c3 : PySem.W.codeIn K cd3 "is_plain" = true)
    (k3 : PySem.W.keepIn K (.ref f3) = true)
    (a4 : PySem.W.nsIn K mainGlobals "is_plain_value" = some (some (.ref f4)))
    (l4 : K.lookup f4 = some ⟨oc4, od4, .func (PySem.W.fnOf "is_plain_value" "is_plain_value" (defArgs sIsPlainValue) (defBody sIsPlainValue) (defScope sIsPlainValue) .none kV4 dc4 pm4 an4 cd4 ct4), sl4⟩)
    (c4 : PySem.W.codeIn K cd4 "is_plain_value" = true)
    (k4 : PySem.W.keepIn K (.ref f4) = true)
    (a5 : PySem.W.nsIn K mainGlobals "shown" = some (some (.ref f5)))
    (l5 : K.lookup f5 = some ⟨oc5, od5, .func (PySem.W.fnOf "shown" "shown" (defArgs sShown) (defBody sShown) (defScope sShown) .none kV5 dc5 pm5 an5 cd5 ct5), sl5⟩)
    (c5 : PySem.W.codeIn K cd5 "shown" = true)
    (k5 : PySem.W.keepIn K (.ref f5) = true)
    (a6 : PySem.W.nsIn K mainGlobals "value_text" = some (some (.ref f6)))
    (l6 : K.lookup f6 = some ⟨oc6, od6, .func (PySem.W.fnOf "value_text" "value_text" (defArgs sValueText) (defBody sValueText) (defScope sValueText) .none kV6 dc6 pm6 an6 cd6 ct6), sl6⟩)
    (c6 : PySem.W.codeIn K cd6 "value_text" = true)
    (k6 : PySem.W.keepIn K (.ref f6) = true)
    (a7 : PySem.W.nsIn K mainGlobals "figures_value" = some (some (.ref f7)))
    (l7 : K.lookup f7 = some ⟨oc7, od7, .func (PySem.W.fnOf "figures_value" "figures_value" (defArgs sFigures) (defBody sFigures) (defScope sFigures) .none kV7 dc7 pm7 an7 cd7 ct7), sl7⟩)
    (c7 : PySem.W.codeIn K cd7 "figures_value" = true)
    (k7 : PySem.W.keepIn K (.ref f7) = true)
    (a8 : PySem.W.nsIn K mainGlobals "run_value" = some (some (.ref f8)))
    (l8 : K.lookup f8 = some ⟨oc8, od8, .func (PySem.W.fnOf "run_value" "run_value" (defArgs sRunValue) (defBody sRunValue) (defScope sRunValue) .none kV8 dc8 pm8 an8 cd8 ct8), sl8⟩)
    (c8 : PySem.W.codeIn K cd8 "run_value" = true)
    (k8 : PySem.W.keepIn K (.ref f8) = true)
    (a9 : PySem.W.nsIn K mainGlobals "read_value" = some (some (.ref f9)))
    (l9 : K.lookup f9 = some ⟨oc9, od9, .func (PySem.W.fnOf "read_value" "read_value" (defArgs sReadValue) (defBody sReadValue) (defScope sReadValue) .none kV9 dc9 pm9 an9 cd9 ct9), sl9⟩)
    (c9 : PySem.W.codeIn K cd9 "read_value" = true)
    (k9 : PySem.W.keepIn K (.ref f9) = true)
    (a10 : PySem.W.nsIn K mainGlobals "_law_take" = some (some (.ref f10)))
    (l10 : K.lookup f10 = some ⟨oc10, od10, .func (PySem.W.fnOf "_law_take" "_law_take" (defArgs sTake) (defBody sTake) (defScope sTake) .none kV10 dc10 pm10 an10 cd10 ct10), sl10⟩)
    (c10 : PySem.W.codeIn K cd10 "_law_take" = true)
    (k10 : PySem.W.keepIn K (.ref f10) = true)
    (a11 : PySem.W.nsIn K mainGlobals "_law_some" = some (some (.ref f11)))
    (l11 : K.lookup f11 = some ⟨oc11, od11, .func (PySem.W.fnOf "_law_some" "_law_some" (defArgs sSome) (defBody sSome) (defScope sSome) .none kV11 dc11 pm11 an11 cd11 ct11), sl11⟩)
    (c11 : PySem.W.codeIn K cd11 "_law_some" = true)
    (k11 : PySem.W.keepIn K (.ref f11) = true)
    (a12 : PySem.W.nsIn K mainGlobals "_law_bag" = some (some (.ref f12)))
    (l12 : K.lookup f12 = some ⟨oc12, od12, .func (PySem.W.fnOf "_law_bag" "_law_bag" (defArgs sBag) (defBody sBag) (defScope sBag) .none kV12 dc12 pm12 an12 cd12 ct12), sl12⟩)
    (c12 : PySem.W.codeIn K cd12 "_law_bag" = true)
    (k12 : PySem.W.keepIn K (.ref f12) = true)
    (a13 : PySem.W.nsIn K mainGlobals "_law_alike" = some (some (.ref f13)))
    (l13 : K.lookup f13 = some ⟨oc13, od13, .func (PySem.W.fnOf "_law_alike" "_law_alike" (defArgs sAlike) (defBody sAlike) (defScope sAlike) .none kV13 dc13 pm13 an13 cd13 ct13), sl13⟩)
    (c13 : PySem.W.codeIn K cd13 "_law_alike" = true)
    (k13 : PySem.W.keepIn K (.ref f13) = true)
    (a14 : PySem.W.nsIn K mainGlobals "_law_value_of" = some (some (.ref f14)))
    (l14 : K.lookup f14 = some ⟨oc14, od14, .func (PySem.W.fnOf "_law_value_of" "_law_value_of" (defArgs sValueOf) (defBody sValueOf) (defScope sValueOf) .none kV14 dc14 pm14 an14 cd14 ct14), sl14⟩)
    (c14 : PySem.W.codeIn K cd14 "_law_value_of" = true)
    (k14 : PySem.W.keepIn K (.ref f14) = true)
    (a15 : PySem.W.nsIn K mainGlobals "_law_told" = some (some (.ref f15)))
    (l15 : K.lookup f15 = some ⟨oc15, od15, .func (PySem.W.fnOf "_law_told" "_law_told" (defArgs sTold) (defBody sTold) (defScope sTold) .none kV15 dc15 pm15 an15 cd15 ct15), sl15⟩)
    (c15 : PySem.W.codeIn K cd15 "_law_told" = true)
    (k15 : PySem.W.keepIn K (.ref f15) = true)
    (a16 : PySem.W.nsIn K mainGlobals "_law_atom" = some (some (.ref f16)))
    (l16 : K.lookup f16 = some ⟨oc16, od16, .func (PySem.W.fnOf "_law_atom" "_law_atom" (defArgs sAtom) (defBody sAtom) (defScope sAtom) .none kV16 dc16 pm16 an16 cd16 ct16), sl16⟩)
    (c16 : PySem.W.codeIn K cd16 "_law_atom" = true)
    (k16 : PySem.W.keepIn K (.ref f16) = true)
    (a17 : PySem.W.nsIn K mainGlobals "_law_at" = some (some (.ref f17)))
    (l17 : K.lookup f17 = some ⟨oc17, od17, .func (PySem.W.fnOf "_law_at" "_law_at" (defArgs sAt) (defBody sAt) (defScope sAt) .none kV17 dc17 pm17 an17 cd17 ct17), sl17⟩)
    (c17 : PySem.W.codeIn K cd17 "_law_at" = true)
    (k17 : PySem.W.keepIn K (.ref f17) = true)
    (a18 : PySem.W.nsIn K mainGlobals "law" = some (some (.ref f18)))
    (l18 : K.lookup f18 = some ⟨oc18, od18, .func (PySem.W.fnOf "law" "law" (defArgs sLaw) (defBody sLaw) (defScope sLaw) .none kV18 dc18 pm18 an18 cd18 ct18), sl18⟩)
    (c18 : PySem.W.codeIn K cd18 "law" = true)
    (k18 : PySem.W.keepIn K (.ref f18) = true)
    (aV : PySem.W.nsIn K mainGlobals "Values" = some (some (.ref CV)))
    (ma1 : PySem.W.findIn K (.ref CV) "__init__" = some (some (.ref g1)))
    (mi1 : PySem.W.isFn K (.ref g1) = true)
    (ml1 : K.lookup g1 = some ⟨moc1, mod1, .func (PySem.W.fnOf "__init__" "Values.__init__" (defArgs sInit) (defBody sInit) (defScope sInit) .none mkV1 mdc1 mpm1 man1 mcd1 mct1), msl1⟩)
    (mc1 : PySem.W.codeIn K mcd1 "Values.__init__" = true)
    (mk1 : PySem.W.keepIn K (.ref g1) = true)
    (ma2 : PySem.W.findIn K (.ref CV) "fail" = some (some (.ref g2)))
    (mi2 : PySem.W.isFn K (.ref g2) = true)
    (ml2 : K.lookup g2 = some ⟨moc2, mod2, .func (PySem.W.fnOf "fail" "Values.fail" (defArgs sFail) (defBody sFail) (defScope sFail) .none mkV2 mdc2 mpm2 man2 mcd2 mct2), msl2⟩)
    (mc2 : PySem.W.codeIn K mcd2 "Values.fail" = true)
    (mk2 : PySem.W.keepIn K (.ref g2) = true)
    (ma3 : PySem.W.findIn K (.ref CV) "is_next" = some (some (.ref g3)))
    (mi3 : PySem.W.isFn K (.ref g3) = true)
    (ml3 : K.lookup g3 = some ⟨moc3, mod3, .func (PySem.W.fnOf "is_next" "Values.is_next" (defArgs sIsNext) (defBody sIsNext) (defScope sIsNext) .none mkV3 mdc3 mpm3 man3 mcd3 mct3), msl3⟩)
    (mc3 : PySem.W.codeIn K mcd3 "Values.is_next" = true)
    (mk3 : PySem.W.keepIn K (.ref g3) = true)
    (ma4 : PySem.W.findIn K (.ref CV) "run" = some (some (.ref g4)))
    (mi4 : PySem.W.isFn K (.ref g4) = true)
    (ml4 : K.lookup g4 = some ⟨moc4, mod4, .func (PySem.W.fnOf "run" "Values.run" (defArgs sRun) (defBody sRun) (defScope sRun) .none mkV4 mdc4 mpm4 man4 mcd4 mct4), msl4⟩)
    (mc4 : PySem.W.codeIn K mcd4 "Values.run" = true)
    (mk4 : PySem.W.keepIn K (.ref g4) = true)
    (ma5 : PySem.W.findIn K (.ref CV) "value" = some (some (.ref g5)))
    (mi5 : PySem.W.isFn K (.ref g5) = true)
    (ml5 : K.lookup g5 = some ⟨moc5, mod5, .func (PySem.W.fnOf "value" "Values.value" (defArgs sValue) (defBody sValue) (defScope sValue) .none mkV5 mdc5 mpm5 man5 mcd5 mct5), msl5⟩)
    (mc5 : PySem.W.codeIn K mcd5 "Values.value" = true)
    (mk5 : PySem.W.keepIn K (.ref g5) = true)
    (vpg : PySem.W.plainGet K CV Str.empty = true)
    (vhd : PySem.W.hasDictIn K CV = true)
    (vpo : PySem.W.plainOver K CV = true)
    (vsa : PySem.W.findIn K (.ref CV) "__setattr__" = some (some (.builtin "object.__setattr__")))
    (vmk : PySem.W.makesIn K CV = true)
    (vkc : PySem.W.keepIn K (.ref CV) = true)
    (vnS : PySem.W.findIn K (.ref CV) "signs" = some none)
    (vnA : PySem.W.findIn K (.ref CV) "at" = some none)
    (bC : PySem.W.nsIn K mainGlobals "BadText" = some (some (.ref CB)))
    (bx : K.lookup CB = some (excClassObj nm q CB NS bs [.ref CS, .type "ValueError", .type "Exception", .type "BaseException", .type "object"] true sn sub ab col dd m0 m1 m2 m3 m5 "ValueError.__new__"))
    (bal : PySem.W.alongIn K "__init__" [.ref CS, .type "ValueError", .type "Exception", .type "BaseException", .type "object"] = some (some (.builtin "ValueError.__init__")))
    (bsa : PySem.W.findIn K (.ref CB) "__setattr__" = some (some (.builtin "object.__setattr__")))
    (bga : PySem.W.findIn K (.ref CB) "__getattribute__" = some (some (.builtin "BaseException.__getattribute__")))
    (bgg : PySem.W.findIn K (.ref CB) "__getattr__" = some none)
    (bnL : PySem.W.findIn K (.ref CB) "line" = some none)
    (bnC : PySem.W.findIn K (.ref CB) "column" = some none)
    (bi : PySem.W.findIn K (.ref CB) "__init__" = some (some (.ref fB)))
    (bt : PySem.W.typeIn K (.ref fB) = some (.type "function"))
    (bk : PySem.W.keepIn K (.ref CB) = true)
    (bex : PySem.W.subIn K (.ref CB) (.type "BaseException") = some true)
    (bve : PySem.W.subIn K (.ref CB) (.type "ValueError") = some true)
    (bty : PySem.W.typeIn K (.ref CB) = some (.type "type"))
    (bhd : PySem.W.hasDictIn K CB = true)
    (bsl : PySem.W.mroIn K CB (.ref CB) = some true)
    (bis : PySem.W.isClsIn K CB = true)
    (bss : PySem.W.subIn K (.ref CB) (.ref CB) = some true)
    (bop : PySem.W.nsIn K cStatics "thirdparty.any" = some none)
    (bl : K.lookup fB = some ⟨boc, bod, .func (PySem.W.ksFn "__init__" "BadText.__init__" Bt.iA Bt.iB Bt.iS .none .none bdc bpm ban (.ref cda) bct cc), bosl⟩)
    (bcd : PySem.W.codeIn K (.ref cda) "BadText.__init__" = true)
    (blc : K.lookup cda = some ⟨ccl, cdd, .fields vs, ccs⟩)
    (bcc : K.lookup cc = some ⟨ckl, cld, .cell (some (.ref CB)), csl⟩)
    (bv2 : vs[2]? = some (.str file tf))
    (bfi : (((PySem.Challenge.rw_soonsure_k98_values_told_as_texts).prog.main.file : Str) == file) = true)
    (nC : PySem.W.nsIn K mainGlobals "Nothing" = some (some (.ref CN)))
    (nq : PySem.W.excIn K CN PySem.HandSPX.veTail "ValueError.__new__" = true)
    (nk : PySem.W.keepIn K (.ref CN) = true)
    (nex : PySem.W.subIn K (.ref CN) (.type "BaseException") = some true)
    (nty : PySem.W.typeIn K (.ref CN) = some (.type "type"))
    (nis : PySem.W.isClsIn K CN = true)
    (nss : PySem.W.subIn K (.ref CN) (.ref CN) = some true)
    (cL : PySem.W.nsIn K mainGlobals "LETTERS" = some (some (.str LETTERS t1)))
    (cD : PySem.W.nsIn K mainGlobals "DIGITS" = some (some (.str DIGITS t2)))
    (cM : PySem.W.nsIn K mainGlobals "MOST_LEVELS" = some (some (.int 60 t3)))
    (cF : PySem.W.nsIn K mainGlobals "MOST_FIGURES" = some (some (.int 40 t4)))
    (z_isinstance : PySem.W.nsIn K mainGlobals "isinstance" = some none)
    (z_int : PySem.W.nsIn K mainGlobals "int" = some none)
    (z_bool : PySem.W.nsIn K mainGlobals "bool" = some none)
    (z_str : PySem.W.nsIn K mainGlobals "str" = some none)
    (z_tuple : PySem.W.nsIn K mainGlobals "tuple" = some none)
    (z_all : PySem.W.nsIn K mainGlobals "all" = some none)
    (z_abs : PySem.W.nsIn K mainGlobals "abs" = some none)
    (z_len : PySem.W.nsIn K mainGlobals "len" = some none)
    (z_repr : PySem.W.nsIn K mainGlobals "repr" = some none)
    (z_range : PySem.W.nsIn K mainGlobals "range" = some none)
    (z_super : PySem.W.nsIn K mainGlobals "super" = some none)
    : ∃ fd : FuncData, (∀ (s : Shared) (v : Value), BindsTo s fd ⟨[v], []⟩ [("script", v)]) ∧ ∀ base : Heap, K.In base → base.Ns mainGlobals mg → FnG (PySem.Challenge.rw_soonsure_k98_values_told_as_texts).prog w K mg base CX0 20 fa fd ["script"] (spLaw K) := by
  have e := hfa.symm.trans (PySem.W.mg_of X G a18)
  cases e
  have F1 := fun_mk (st := sIsNumber) l1 c1 k1
  have b1 := F1.binds (ps := ["thing"]) fun _ _ _ _ _ _ us hl => match us, hl with | [_], _ => rfl
  have C1 : Callee K mg "is_number" f1 _ ["thing"] := ⟨PySem.W.mg_of X G a1, k1, b1⟩
  have F2 := fun_mk (st := sIsWord) l2 c2 k2
  have b2 := F2.binds (ps := ["thing"]) fun _ _ _ _ _ _ us hl => match us, hl with | [_], _ => rfl
  have C2 : Callee K mg "is_word" f2 _ ["thing"] := ⟨PySem.W.mg_of X G a2, k2, b2⟩
  have F3 := fun_mk (st := sIsPlain) l3 c3 k3
  have b3 := F3.binds (ps := ["thing", "deep"]) fun _ _ _ _ _ _ us hl => match us, hl with | [_, _], _ => rfl
  have C3 : Callee K mg "is_plain" f3 _ ["thing", "deep"] := ⟨PySem.W.mg_of X G a3, k3, b3⟩
  have F4 := fun_mk (st := sIsPlainValue) l4 c4 k4
  have b4 := F4.binds (ps := ["thing"]) fun _ _ _ _ _ _ us hl => match us, hl with | [_], _ => rfl
  have C4 : Callee K mg "is_plain_value" f4 _ ["thing"] := ⟨PySem.W.mg_of X G a4, k4, b4⟩
  have F5 := fun_mk (st := sShown) l5 c5 k5
  have b5 := F5.binds (ps := ["value"]) fun _ _ _ _ _ _ us hl => match us, hl with | [_], _ => rfl
  have C5 : Callee K mg "shown" f5 _ ["value"] := ⟨PySem.W.mg_of X G a5, k5, b5⟩
  have F6 := fun_mk (st := sValueText) l6 c6 k6
  have b6 := F6.binds (ps := ["thing"]) fun _ _ _ _ _ _ us hl => match us, hl with | [_], _ => rfl
  have C6 : Callee K mg "value_text" f6 _ ["thing"] := ⟨PySem.W.mg_of X G a6, k6, b6⟩
  have F7 := fun_mk (st := sFigures) l7 c7 k7
  have b7 := F7.binds (ps := ["run"]) fun _ _ _ _ _ _ us hl => match us, hl with | [_], _ => rfl
  have C7 : Callee K mg "figures_value" f7 _ ["run"] := ⟨PySem.W.mg_of X G a7, k7, b7⟩
  have F8 := fun_mk (st := sRunValue) l8 c8 k8
  have b8 := F8.binds (ps := ["run"]) fun _ _ _ _ _ _ us hl => match us, hl with | [_], _ => rfl
  have C8 : Callee K mg "run_value" f8 _ ["run"] := ⟨PySem.W.mg_of X G a8, k8, b8⟩
  have F9 := fun_mk (st := sReadValue) l9 c9 k9
  have b9 := F9.binds (ps := ["text"]) fun _ _ _ _ _ _ us hl => match us, hl with | [_], _ => rfl
  have C9 : Callee K mg "read_value" f9 _ ["text"] := ⟨PySem.W.mg_of X G a9, k9, b9⟩
  have F10 := fun_mk (st := sTake) l10 c10 k10
  have b10 := F10.binds (ps := ["bag", "many"]) fun _ _ _ _ _ _ us hl => match us, hl with | [_, _], _ => rfl
  have C10 : Callee K mg "_law_take" f10 _ ["bag", "many"] := ⟨PySem.W.mg_of X G a10, k10, b10⟩
  have F11 := fun_mk (st := sSome) l11 c11 k11
  have b11 := F11.binds (ps := ["bag", "things"]) fun _ _ _ _ _ _ us hl => match us, hl with | [_, _], _ => rfl
  have C11 : Callee K mg "_law_some" f11 _ ["bag", "things"] := ⟨PySem.W.mg_of X G a11, k11, b11⟩
  have F12 := fun_mk (st := sBag) l12 c12 k12
  have b12 := F12.binds (ps := ["script"]) fun _ _ _ _ _ _ us hl => match us, hl with | [_], _ => rfl
  have C12 : Callee K mg "_law_bag" f12 _ ["script"] := ⟨PySem.W.mg_of X G a12, k12, b12⟩
  have F13 := fun_mk (st := sAlike) l13 c13 k13
  have b13 := F13.binds (ps := ["found", "wanted"]) fun _ _ _ _ _ _ us hl => match us, hl with | [_, _], _ => rfl
  have C13 : Callee K mg "_law_alike" f13 _ ["found", "wanted"] := ⟨PySem.W.mg_of X G a13, k13, b13⟩
  have F14 := fun_mk (st := sValueOf) l14 c14 k14
  have b14 := F14.binds (ps := ["bag", "deep"]) fun _ _ _ _ _ _ us hl => match us, hl with | [_, _], _ => rfl
  have C14 : Callee K mg "_law_value_of" f14 _ ["bag", "deep"] := ⟨PySem.W.mg_of X G a14, k14, b14⟩
  have F15 := fun_mk (st := sTold) l15 c15 k15
  have b15 := F15.binds (ps := ["thing"]) fun _ _ _ _ _ _ us hl => match us, hl with | [_], _ => rfl
  have C15 : Callee K mg "_law_told" f15 _ ["thing"] := ⟨PySem.W.mg_of X G a15, k15, b15⟩
  have F16 := fun_mk (st := sAtom) l16 c16 k16
  have b16 := F16.binds (ps := ["run"]) fun _ _ _ _ _ _ us hl => match us, hl with | [_], _ => rfl
  have C16 : Callee K mg "_law_atom" f16 _ ["run"] := ⟨PySem.W.mg_of X G a16, k16, b16⟩
  have F17 := fun_mk (st := sAt) l17 c17 k17
  have b17 := F17.binds (ps := ["text", "at"]) fun _ _ _ _ _ _ us hl => match us, hl with | [_, _], _ => rfl
  have C17 : Callee K mg "_law_at" f17 _ ["text", "at"] := ⟨PySem.W.mg_of X G a17, k17, b17⟩
  have F18 := fun_mk (st := sLaw) l18 c18 k18
  have b18 := F18.binds (ps := ["script"]) fun _ _ _ _ _ _ us hl => match us, hl with | [_], _ => rfl
  have M1 := fun_mk (st := sInit) ml1 mc1 mk1
  have mb1 := M1.binds (ps := ["self", "text"]) fun _ _ _ _ _ _ us hl => match us, hl with | [_, _], _ => rfl
  have D1 : MCallee K CV "__init__" g1 _ ["self", "text"] := ⟨⟨ma1, mi1, mk1⟩, mb1⟩
  have M2 := fun_mk (st := sFail) ml2 mc2 mk2
  have mb2 := M2.binds (ps := ["self"]) fun _ _ _ _ _ _ us hl => match us, hl with | [_], _ => rfl
  have D2 : MCallee K CV "fail" g2 _ ["self"] := ⟨⟨ma2, mi2, mk2⟩, mb2⟩
  have M3 := fun_mk (st := sIsNext) ml3 mc3 mk3
  have mb3 := M3.binds (ps := ["self", "sign"]) fun _ _ _ _ _ _ us hl => match us, hl with | [_, _], _ => rfl
  have D3 : MCallee K CV "is_next" g3 _ ["self", "sign"] := ⟨⟨ma3, mi3, mk3⟩, mb3⟩
  have M4 := fun_mk (st := sRun) ml4 mc4 mk4
  have mb4 := M4.binds (ps := ["self"]) fun _ _ _ _ _ _ us hl => match us, hl with | [_], _ => rfl
  have D4 : MCallee K CV "run" g4 _ ["self"] := ⟨⟨ma4, mi4, mk4⟩, mb4⟩
  have M5 := fun_mk (st := sValue) ml5 mc5 mk5
  have mb5 := M5.binds (ps := ["self", "deep"]) fun _ _ _ _ _ _ us hl => match us, hl with | [_, _], _ => rfl
  have D5 : MCallee K CV "value" g5 _ ["self", "deep"] := ⟨⟨ma5, mi5, mk5⟩, mb5⟩
  have Z : Zs mg := ⟨PySem.W.mg_none_of X G z_isinstance, PySem.W.mg_none_of X G z_int, PySem.W.mg_none_of X G z_bool, PySem.W.mg_none_of X G z_str, PySem.W.mg_none_of X G z_tuple, PySem.W.mg_none_of X G z_all, PySem.W.mg_none_of X G z_abs, PySem.W.mg_none_of X G z_len, PySem.W.mg_none_of X G z_repr, PySem.W.mg_none_of X G z_range, ⟨_, PySem.W.mg_of X G cL⟩, ⟨_, PySem.W.mg_of X G cD⟩, ⟨_, PySem.W.mg_of X G cM⟩, ⟨_, PySem.W.mg_of X G cF⟩⟩
  have N : NoT K mg CN := ⟨PySem.W.mg_of X G nC, nq, nk, nex, nty⟩
  have V : VaT K mg CV := ⟨⟨vpg, vhd, vpo, vsa⟩, vnS, vnA, PySem.W.mg_of X G aV⟩
  have MI : Mk K CV g1 := ⟨vmk, ma1, mi1, vkc⟩
  have XB : XfC K CB := ⟨bga, bgg, bex, bhd⟩
  have B : Bt.Txt (PySem.Challenge.rw_soonsure_k98_values_told_as_texts).prog K mg CB fB :=
    { gC := PySem.W.mg_of X G bC, zs := PySem.W.mg_none_of X G z_super, cls := ⟨nm, q, NS, bs, _, sn, sub, ab, col, dd, m0, m1, m2, m3, m5, bx, (show PySem.HandSPX.refsVE [.type "ValueError", .type "Exception", .type "BaseException", .type "object"] = true by decide +kernel), bal⟩, sa := bsa, ga := bga, gg := bgg, noL := bnL, noC := bnC, iC := bi, tC := bt, kC := bk, exC := bex, veC := bve, tyC := bty, hdC := bhd, slf := bsl, op := bop, top := by decide +kernel,
      fn := ⟨boc, bod, .none, .none, bdc, bpm, ban, cda, cc, bct, bosl, ccl, ckl, cdd, cld, vs, file, tf, ccs, csl, bl, bcd, blc, bv2, bfi, bcc⟩ }
  refine ⟨_, fun s v => .of_eq rfl, fun base _ _ => ok_law F18 Z N (exm_self nex nis nty nss) B (exm_self bex bis bty bss) XB ?_⟩
  have G1 := ok_num (P := (PySem.Challenge.rw_soonsure_k98_values_told_as_texts).prog) (w := w) (base := base) (k := 0) F1 Z
  have G2 := ok_word (P := (PySem.Challenge.rw_soonsure_k98_values_told_as_texts).prog) (w := w) (base := base) (k := 0) F2 Z
  have G3 := ok_plain (P := (PySem.Challenge.rw_soonsure_k98_values_told_as_texts).prog) (w := w) (base := base) F3 Z C3 C2 C1 G2 G1 3
  have G4 := ok_pv (P := (PySem.Challenge.rw_soonsure_k98_values_told_as_texts).prog) (w := w) (base := base) (n := 3) F4 Z C3 G3
  have G5 := ok_shown (P := (PySem.Challenge.rw_soonsure_k98_values_told_as_texts).prog) (w := w) (base := base) F5 Z C5 3 (by decide)
  have G6 := ok_vt (P := (PySem.Challenge.rw_soonsure_k98_values_told_as_texts).prog) (w := w) (base := base) F6 N C4 C5 G4 G5
  have G7 := ok_fig (P := (PySem.Challenge.rw_soonsure_k98_values_told_as_texts).prog) (w := w) (base := base) (k := 0) F7 Z
  have G8 := ok_rv (P := (PySem.Challenge.rw_soonsure_k98_values_told_as_texts).prog) (w := w) (base := base) F8 C2 C7 G2 G7
  have H1 := ok_init (P := (PySem.Challenge.rw_soonsure_k98_values_told_as_texts).prog) (w := w) (base := base) (k := 0) M1 V
  have H2 := ok_fail (P := (PySem.Challenge.rw_soonsure_k98_values_told_as_texts).prog) (w := w) (base := base) (k := 0) M2 V B
  have H3 := ok_next (P := (PySem.Challenge.rw_soonsure_k98_values_told_as_texts).prog) (w := w) (base := base) (k := 0) M3 V
  have H4 := ok_run (P := (PySem.Challenge.rw_soonsure_k98_values_told_as_texts).prog) (w := w) (base := base) (n := 0) M4 V Z
  have H5 := ok_value (P := (PySem.Challenge.rw_soonsure_k98_values_told_as_texts).prog) (w := w) (base := base) M5 Z V D5 D3 D4 D2 C8 H3 H4 H2 G8 14 (by decide)
  have G9 := ok_read (P := (PySem.Challenge.rw_soonsure_k98_values_told_as_texts).prog) (w := w) (base := base) 14 (by decide) F9 Z N V MI mb1 D5 D2 H1 H5 H2
  have GA := ok_take (P := (PySem.Challenge.rw_soonsure_k98_values_told_as_texts).prog) (w := w) (base := base) (k := 0) F10 Z
  have GB := ok_some (P := (PySem.Challenge.rw_soonsure_k98_values_told_as_texts).prog) (w := w) (base := base) (k := 0) F11 Z C10 GA
  have GC := ok_bag (P := (PySem.Challenge.rw_soonsure_k98_values_told_as_texts).prog) (w := w) (base := base) (k := 0) F12 Z
  have GD := ok_alike (P := (PySem.Challenge.rw_soonsure_k98_values_told_as_texts).prog) (w := w) (base := base) (k := 0) F13 Z
  have GE := ok_vo (P := (PySem.Challenge.rw_soonsure_k98_values_told_as_texts).prog) (w := w) (base := base) F14 Z C14 C10 C11 GA GB 3
  have GF := ok_told (P := (PySem.Challenge.rw_soonsure_k98_values_told_as_texts).prog) (w := w) (base := base) F15 Z C15 3 (by decide)
  have GG := ok_atom (P := (PySem.Challenge.rw_soonsure_k98_values_told_as_texts).prog) (w := w) (base := base) (k := 0) F16 Z
  have GH := ok_at (P := (PySem.Challenge.rw_soonsure_k98_values_told_as_texts).prog) (w := w) (base := base) F17 Z C17 C16 GG 14 (by decide)
  exact ⟨⟨_, _, C12, GC⟩, ⟨_, _, C10, GA⟩, ⟨_, _, C11, GB⟩, ⟨_, _, C14, GE⟩, ⟨_, _, C15, GF⟩, ⟨_, _, C4, G4⟩, ⟨_, _, C6, G6⟩, ⟨_, _, C9, G9⟩, ⟨_, _, C17, GH⟩, ⟨_, _, C13, GD⟩⟩
end K9
open PySem PySem.W PyProof.Rows
set_option maxRecDepth 100000 in
set_option maxHeartbeats 0 in
theorem PySem.Challenge.cw_soonsure_k98_values_told_as_texts_holds : PySem.Challenge.rw_soonsure_k98_values_told_as_texts.Holds := by
  w_on; o_law; k_head; (case hw => w_witness2)
  k_fill
  refine K9.walk_ofG (l := PySem.Challenge.rw_soonsure_k98_values_told_as_texts) (n := 63) (k := 20) (x := "script") (CX := fun _ => L2.CX0) (sp := fun w => K9.spLaw _) rfl (by decide) rfl ⟨rfl, by decide, by decide⟩ (fun w h Y => PySem.W.kIn_of Y) ?F (fun _ _ a ns hl _ hS => ⟨a, ns, rfl, hS, hl, fun _ => rfl⟩) fun _ _ _ _ _ z => z
  case F =>
    intro w mg fa h KX G hmg
    refine' K9.all_mk KX G hmg ?a1 ?l1 ?c1 ?k1 ?a2 ?l2 ?c2 ?k2 ?a3 ?l3 ?c3 ?k3 ?a4 ?l4 ?c4 ?k4 ?a5 ?l5 ?c5 ?k5 ?a6 ?l6 ?c6 ?k6 ?a7 ?l7 ?c7 ?k7 ?a8 ?l8 ?c8 ?k8 ?a9 ?l9 ?c9 ?k9 ?a10 ?l10 ?c10 ?k10 ?a11 ?l11 ?c11 ?k11 ?a12 ?l12 ?c12 ?k12 ?a13 ?l13 ?c13 ?k13 ?a14 ?l14 ?c14 ?k14 ?a15 ?l15 ?c15 ?k15 ?a16 ?l16 ?c16 ?k16 ?a17 ?l17 ?c17 ?k17 ?a18 ?l18 ?c18 ?k18 ?aV ?ma1 ?mi1 ?ml1 ?mc1 ?mk1 ?ma2 ?mi2 ?ml2 ?mc2 ?mk2 ?ma3 ?mi3 ?ml3 ?mc3 ?mk3 ?ma4 ?mi4 ?ml4 ?mc4 ?mk4 ?ma5 ?mi5 ?ml5 ?mc5 ?mk5 ?vpg ?vhd ?vpo ?vsa ?vmk ?vkc ?vnS ?vnA ?bC ?bx ?bal ?bsa ?bga ?bgg ?bnL ?bnC ?bi ?bt ?bk ?bex ?bve ?bty ?bhd ?bsl ?bis ?bss ?bop ?bl ?bcd ?blc ?bcc ?bv2 ?bfi ?nC ?nq ?nk ?nex ?nty ?nis ?nss ?cL ?cD ?cM ?cF ?z_isinstance ?z_int ?z_bool ?z_str ?z_tuple ?z_all ?z_abs ?z_len ?z_repr ?z_range ?z_super
    (case a1 => k_is)
    (case l1 => k_is)
    (case c1 => k_is)
    (case k1 => k_is)
    (case a2 => k_is)
    (case l2 => k_is)
    (case c2 => k_is)
    (case k2 => k_is)
    (case a3 => k_is)
    (case l3 => k_is)
    (case c3 => k_is)
    (case k3 => k_is)
    (case a4 => k_is)
    (case l4 => k_is)
    (case c4 => k_is)
    (case k4 => k_is)
    (case a5 => k_is)
    (case l5 => k_is)
    (case c5 => k_is)
    (case k5 => k_is)
    (case a6 => k_is)
    (case l6 => k_is)
    (case c6 => k_is)
    (case k6 => k_is)
    (case a7 => k_is)
    (case l7 => k_is)
    (case c7 => k_is)
    (case k7 => k_is)
    (case a8 => k_is)
    (case l8 => k_is)
    (case c8 => k_is)
    (case k8 => k_is)
    (case a9 => k_is)
    (case l9 => k_is)
    (case c9 => k_is)
    (case k9 => k_is)
    (case a10 => k_is)
    (case l10 => k_is)
    (case c10 => k_is)
    (case k10 => k_is)
    (case a11 => k_is)
    (case l11 => k_is)
    (case c11 => k_is)
    (case k11 => k_is)
    (case a12 => k_is)
    (case l12 => k_is)
    (case c12 => k_is)
    (case k12 => k_is)
    (case a13 => k_is)
    (case l13 => k_is)
    (case c13 => k_is)
    (case k13 => k_is)
    (case a14 => k_is)
    (case l14 => k_is)
    (case c14 => k_is)
    (case k14 => k_is)
    (case a15 => k_is)
    (case l15 => k_is)
    (case c15 => k_is)
    (case k15 => k_is)
    (case a16 => k_is)
    (case l16 => k_is)
    (case c16 => k_is)
    (case k16 => k_is)
    (case a17 => k_is)
    (case l17 => k_is)
    (case c17 => k_is)
    (case k17 => k_is)
    (case a18 => k_is)
    (case l18 => k_is)
    (case c18 => k_is)
    (case k18 => k_is)
    (case aV => k_is)
    (case ma1 => k_is)
    (case mi1 => k_is)
    (case ml1 => k_is)
    (case mc1 => k_is)
    (case mk1 => k_is)
    (case ma2 => k_is)
    (case mi2 => k_is)
    (case ml2 => k_is)
    (case mc2 => k_is)
    (case mk2 => k_is)
    (case ma3 => k_is)
    (case mi3 => k_is)
    (case ml3 => k_is)
    (case mc3 => k_is)
    (case mk3 => k_is)
    (case ma4 => k_is)
    (case mi4 => k_is)
    (case ml4 => k_is)
    (case mc4 => k_is)
    (case mk4 => k_is)
    (case ma5 => k_is)
    (case mi5 => k_is)
    (case ml5 => k_is)
    (case mc5 => k_is)
    (case mk5 => k_is)
    (case vpg => k_is)
    (case vhd => k_is)
    (case vpo => k_is)
    (case vsa => k_is)
    (case vmk => k_is)
    (case vkc => k_is)
    (case vnS => k_is)
    (case vnA => k_is)
    (case bC => k_is)
    (case bx => k_is)
    (case bal => kernel_rfl)
    (case bsa => k_is)
    (case bga => k_is)
    (case bgg => k_is)
    (case bnL => k_is)
    (case bnC => k_is)
    (case bi => k_is)
    (case bt => k_is)
    (case bk => k_is)
    (case bex => k_is)
    (case bve => k_is)
    (case bty => k_is)
    (case bhd => k_is)
    (case bsl => k_is)
    (case bis => k_is)
    (case bss => first | rfl | k_is)
    (case bop => k_is)
    (case bl => k_is)
    (case bcd => k_is)
    (case blc => k_is)
    (case bcc => k_is)
    (case bv2 => rfl)
    (case bfi => decide +kernel)
    (case nC => k_is)
    (case nq => k_exc)
    (case nk => k_is)
    (case nex => k_is)
    (case nty => k_is)
    (case nis => k_is)
    (case nss => first | rfl | k_is)
    (case cL => k_is)
    (case cD => k_is)
    (case cM => k_is)
    (case cF => k_is)
    (case z_isinstance => k_is)
    (case z_int => k_is)
    (case z_bool => k_is)
    (case z_str => k_is)
    (case z_tuple => k_is)
    (case z_all => k_is)
    (case z_abs => k_is)
    (case z_len => k_is)
    (case z_repr => k_is)
    (case z_range => k_is)
    (case z_super => k_is)
#print axioms PySem.Challenge.cw_soonsure_k98_values_told_as_texts_holds
