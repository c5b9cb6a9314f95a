import PyProof.Rows.All
import Wide.All
import OpenK.AllK
import Wide.FinOn
import KE.SortData
import KE.DataMinMax
import KE.GoesEnum
import KE.GoesMore
import HandS.ForMost
import HandS.Property
import HandS.Defaults
import HandS.MakeKw
import HandS.MakeKwOnly
import HandS.Deep
import HandS.IsInst
import HandS.Zip
import HandS.TupAny
import HandS.TupMul
import HandS.TupLen
import HandS.Conv
import HandS.DictComp
import HandS.Style
import HandS.SortKw
import KE.KStateDown
import HandS.Head0
import HandS.Head1
import HandS.Head2
import HandS.HeadEnd
import HandS.HeadHook1
import HandS.HeadHook2
import PySem.Challenge.RW_quietdoors_k22_whole_papers_judged
import HandS.Small
import HandS.TryOnly
import Lean
set_option Elab.async false
set_option linter.all false
set_option maxRecDepth 100000
set_option maxHeartbeats 4000000
/-! The mirror: rows, talks, letters as plain data, and what the program reckons of them. No Python here. -/
namespace Qd
/-- a letter: outward?, its number -/
abbrev Lt := Bool × Nat
structure Bx where
  low : Int
  high : Int
  rest : Int
  both : Bool
structure Ln where
  bx : List Bx
  lk : List (Int × Int)
structure Tk where
  out : List Int
  bk : List Int
  ls : Nat
def Tk.way (T : Tk) (o : Bool) : List Int := if o = true then T.out else T.bk
def lets (T : Tk) : List Lt := (List.range T.out.length).map (fun i => (true, i)) ++ (List.range T.bk.length).map (fun i => (false, i))
theorem mem_lets {T : Tk} {l : Lt} : l ∈ lets T ↔ l.2 < (T.way l.1).length := by
  obtain ⟨o, i⟩ := l
  unfold lets Tk.way
  simp only [List.mem_append, List.mem_map, List.mem_range]
  cases o with
  | true => simp
  | false => simp
theorem lets_nodup (T : Tk) : (lets T).Nodup := by
  unfold lets
  refine List.nodup_append.mpr ⟨?_, ?_, ?_⟩
  · exact List.Pairwise.map _ (fun a b h e => h (by injection e)) List.nodup_range
  · exact List.Pairwise.map _ (fun a b h e => h (by injection e)) List.nodup_range
  · intro a ha b hb e
    obtain ⟨i, _, rfl⟩ := List.mem_map.mp ha
    obtain ⟨j, _, rfl⟩ := List.mem_map.mp hb
    injection e with e1 _
    cases e1
def tm (T : Tk) (l : Lt) : Int := (T.way l.1).getD l.2 0
/-- the links between the ends and a box, on a letter's way -/
def part (L : Ln) (b : Nat) (o : Bool) : List (Int × Int) := if o = true then L.lk.take (b + 1) else L.lk.drop (b + 1)
def sm (ls : List (Int × Int)) : Int × Int := ((ls.map (·.1)).sum, (ls.map (·.2)).sum)
def win (L : Ln) (T : Tk) (b : Nat) (l : Lt) : Int × Int := (tm T l + (sm (part L b l.1)).1, tm T l + (sm (part L b l.1)).2)
def bothAt (L : Ln) (b : Nat) : Bool := ((L.bx[b]?).map Bx.both).getD false
def lowAt (L : Ln) (b : Nat) : Int := ((L.bx[b]?).map Bx.low).getD 0
def sight (L : Ln) (b : Nat) (l : Lt) : Bool := l.1 || bothAt L b
/-- some letters can all be lost (the program's way) -/
def follow (T : Tk) (l : Lt) : List Lt := (List.range (T.ls + 1)).map fun a => (l.1, l.2 + a)
def canLose (T : Tk) (g : List Lt) : Bool := g.all fun l => !((follow T l).all fun q => decide (q ∈ g))
/-- .. and the law's way: runs, counted -/
def runOk (ls : Nat) (f : Nat → Bool) : Nat → Nat → Nat → Bool
  | _, 0, _ => true
  | k, n + 1, c => if f k = true then (if ls < c + 1 then false else runOk ls f (k + 1) n (c + 1)) else runOk ls f (k + 1) n 0
def canLoseB (T : Tk) (g : List Lt) : Bool :=
  runOk T.ls (fun k => decide ((true, k) ∈ g)) 0 T.out.length 0 && runOk T.ls (fun k => decide ((false, k) ∈ g)) 0 T.bk.length 0
theorem runOk_iff (ls : Nat) (f : Nat → Bool) : ∀ (n k c : Nat), c ≤ ls → c ≤ k → (∀ j, k - c ≤ j → j < k → f j = true) →
    (runOk ls f k n c = true ↔ ∀ j, k - c ≤ j → j + ls + 1 ≤ k + n → ¬ ∀ a, a ≤ ls → f (j + a) = true)
  | 0, k, c, hc, hk, hf => by
    unfold runOk
    refine ⟨fun _ j h1 h2 _ => ?_, fun _ => rfl⟩
    omega
  | n + 1, k, c, hc, hk, hf => by
    unfold runOk
    cases e : f k with
    | true =>
      rw [if_pos rfl]
      by_cases hl : ls < c + 1
      · rw [if_pos hl]
        refine ⟨fun q => (by cases q), fun q => ?_⟩
        refine absurd ?_ (q (k - c) (Nat.le_refl _) (by omega))
        intro a ha
        by_cases h : k - c + a < k
        · exact hf _ (by omega) h
        · have e2 : k - c + a = k := by omega
          rw [e2]
          exact e
      · rw [if_neg hl]
        have ih := runOk_iff ls f n (k + 1) (c + 1) (by omega) (by omega) (fun j h1 h2 => by
          by_cases h : j < k
          · exact hf j (by omega) h
          · have e2 : j = k := by omega
            rw [e2]
            exact e)
        rw [ih]
        have e3 : k + 1 - (c + 1) = k - c := by omega
        rw [e3]
        have e4 : k + 1 + n = k + (n + 1) := by omega
        rw [e4]
    | false =>
      rw [if_neg Bool.false_ne_true]
      have ih := runOk_iff ls f n (k + 1) 0 (by omega) (by omega) (fun j h1 h2 => by omega)
      rw [ih]
      refine ⟨fun q j h1 h2 h3 => ?_, fun q j h1 h2 => q j (by omega) (by omega)⟩
      by_cases h : k < j
      · exact q j (by omega) (by omega) h3
      · have z := h3 (k - j) (by omega)
        have e2 : j + (k - j) = k := by omega
        rw [e2, e] at z
        cases z
theorem runOk_way {T : Tk} {g : List Lt} {o : Bool} (hg : ∀ l ∈ g, l ∈ lets T) : runOk T.ls (fun k => decide ((o, k) ∈ g)) 0 (T.way o).length 0 = true ↔ ∀ i, (o, i) ∈ g → ¬ ∀ a, a ≤ T.ls → (o, i + a) ∈ g := by
  rw [runOk_iff _ _ _ _ _ (Nat.zero_le _) (Nat.zero_le _) (fun j h1 h2 => absurd h2 (Nat.not_lt_zero _))]
  refine ⟨fun h i hi h2 => ?_, fun h j _ _ h3 => ?_⟩
  · have z := mem_lets.mp (hg _ (h2 T.ls (Nat.le_refl _)))
    have z2 : i + T.ls < (T.way o).length := z
    exact h i (Nat.zero_le _) (by omega) fun a ha => decide_eq_true (h2 a ha)
  · refine h j ?_ fun a ha => of_decide_eq_true (h3 a ha)
    exact of_decide_eq_true (h3 0 (Nat.zero_le _))
theorem canLose_iff {T : Tk} {g : List Lt} : canLose T g = true ↔ ∀ l ∈ g, ¬ ∀ a, a ≤ T.ls → (l.1, l.2 + a) ∈ g := by
  unfold canLose follow
  rw [List.all_eq_true]
  refine ⟨fun h l hl h2 => ?_, fun h l hl => ?_⟩
  · have z := h l hl
    rw [Bool.not_eq_true'] at z
    have z2 : ((List.range (T.ls + 1)).map fun a => (l.1, l.2 + a)).all (fun q => decide (q ∈ g)) = true := by
      rw [List.all_eq_true]
      intro q hq
      obtain ⟨a, ha, rfl⟩ := List.mem_map.mp hq
      exact decide_eq_true (h2 a (Nat.lt_succ_iff.mp (List.mem_range.mp ha)))
    rw [z] at z2
    cases z2
  · rw [Bool.not_eq_true']
    cases e : ((List.range (T.ls + 1)).map fun a => (l.1, l.2 + a)).all (fun q => decide (q ∈ g)) with
    | false => rfl
    | true =>
      refine absurd ?_ (h l hl)
      intro a ha
      have z := List.all_eq_true.mp e (l.1, l.2 + a) (List.mem_map.mpr ⟨a, List.mem_range.mpr (Nat.lt_succ_of_le ha), rfl⟩)
      exact of_decide_eq_true z
theorem canLoseB_eq {T : Tk} {g : List Lt} (hg : ∀ l ∈ g, l ∈ lets T) : canLoseB T g = canLose T g := by
  have h1 := runOk_way (o := true) hg
  have h2 := runOk_way (o := false) hg
  have e : canLoseB T g = true ↔ canLose T g = true := by
    rw [canLose_iff]
    unfold canLoseB
    rw [Bool.and_eq_true]
    have w1 : (T.way true).length = T.out.length := rfl
    have w2 : (T.way false).length = T.bk.length := rfl
    rw [← w1, ← w2, h1, h2]
    refine ⟨fun ⟨a, b⟩ l hl => ?_, fun h => ⟨fun i hi => h (true, i) hi, fun i hi => h (false, i) hi⟩⟩
    obtain ⟨o, i⟩ := l
    cases o with
    | true => exact a i hl
    | false => exact b i hl
  cases h3 : canLoseB T g with
  | true => exact (e.mp h3).symm
  | false =>
    cases h4 : canLose T g with
    | false => rfl
    | true =>
      rw [e.mpr h4] at h3
      cases h3
theorem canLose_mem {T : Tk} {g g' : List Lt} (h : ∀ l, l ∈ g ↔ l ∈ g') : canLose T g = canLose T g' := by
  have e : canLose T g = true ↔ canLose T g' = true := by
    rw [canLose_iff, canLose_iff]
    refine ⟨fun a l hl q => a l ((h l).mpr hl) fun x hx => (h _).mpr (q x hx), fun a l hl q => a l ((h l).mp hl) fun x hx => (h _).mp (q x hx)⟩
  cases h3 : canLose T g with
  | true => exact (e.mp h3).symm
  | false =>
    cases h4 : canLose T g' with
    | false => rfl
    | true =>
      rw [e.mpr h4] at h3
      cases h3
theorem canLose_nil (T : Tk) : canLose T [] = true := rfl
/-- what is to be lost between two letters -/
def within (L : Ln) (T : Tk) (b : Nat) (p q l : Lt) : Bool := decide ((win L T b p).1 < (win L T b l).1) && decide ((win L T b l).2 < (win L T b q).2)
def other (p q l : Lt) : Bool := !(decide (l = p) || decide (l = q))
def inner (L : Ln) (T : Tk) (b : Nat) (p q : Lt) : List Lt := ((lets T).filter (within L T b p q)).filter fun l => other p q l && sight L b l
@[irreducible] def lostIn (L : Ln) (T : Tk) (b : Nat) (p q : Lt) : Option (List Lt) :=
  if decide (p = q) || (!sight L b p || decide ((win L T b q).2 ≤ (win L T b p).1)) then none
  else if canLose T (inner L T b p q) = true then some (inner L T b p q) else none
def gapOf (L : Ln) (T : Tk) (b : Nat) (p q : Lt) : Int := (win L T b q).2 - (win L T b p).1
theorem lostIn_pos {L : Ln} {T : Tk} {b : Nat} {p q : Lt} (h : (lostIn L T b p q).isSome = true) : 0 < gapOf L T b p q := by
  unfold lostIn at h
  by_cases c : (decide (p = q) || (!sight L b p || decide ((win L T b q).2 ≤ (win L T b p).1))) = true
  · rw [if_pos c] at h
    cases h
  · simp only [Bool.or_eq_true, decide_eq_true_eq, not_or] at c
    unfold gapOf
    omega
/-- the law's: the same letters by one sieve -/
def innerB (L : Ln) (T : Tk) (b : Nat) (p q : Lt) : List Lt := (lets T).filter fun l => (other p q l && sight L b l) && within L T b p q l
theorem innerB_eq (L : Ln) (T : Tk) (b : Nat) (p q : Lt) : innerB L T b p q = inner L T b p q := by
  unfold innerB inner
  rw [List.filter_filter]
@[irreducible] def goneIn (L : Ln) (T : Tk) (b : Nat) (p q : Lt) : Option (List Lt) :=
  if decide ((win L T b q).2 ≤ (win L T b p).1) || !sight L b p then none
  else if canLoseB T (innerB L T b p q) = true then some (innerB L T b p q) else none
theorem inner_lets {L : Ln} {T : Tk} {b : Nat} {p q l : Lt} (h : l ∈ inner L T b p q) : l ∈ lets T := (List.mem_filter.mp (List.mem_filter.mp h).1).1
theorem goneIn_eq {L : Ln} {T : Tk} {b : Nat} {p q : Lt} (h : p ≠ q) : goneIn L T b p q = lostIn L T b p q := by
  unfold goneIn lostIn
  rw [innerB_eq, canLoseB_eq fun l hl => inner_lets hl, decide_eq_false h, Bool.false_or, Bool.or_comm]
/-- all gaps that a box can see -/
def hasGap (L : Ln) (T : Tk) (b : Nat) (p q : Lt) : Bool := (lostIn L T b p q).isSome
def prs (T : Tk) : List (Lt × Lt) := (lets T).flatMap fun p => (lets T).map fun q => (p, q)
theorem mem_prs {T : Tk} {p q : Lt} : (p, q) ∈ prs T ↔ p ∈ lets T ∧ q ∈ lets T := by
  unfold prs
  simp only [List.mem_flatMap, List.mem_map]
  refine ⟨fun ⟨a, ha, c, hc, e⟩ => ?_, fun ⟨a, b⟩ => ⟨p, a, q, b, rfl⟩⟩
  injection e with e1 e2
  rw [← e1, ← e2]
  exact ⟨ha, hc⟩
@[irreducible] def gapsL (L : Ln) (T : Tk) (b : Nat) : List (Lt × Lt) := (prs T).filter fun z => hasGap L T b z.1 z.2
/-- the greatest of some ints, at least 0 -/
def mx0 : List Int → Int
  | [] => 0
  | x :: xs => if mx0 xs < x then x else mx0 xs
theorem mx0_nn : ∀ l : List Int, 0 ≤ mx0 l
  | [] => by unfold mx0; exact Int.le_refl 0
  | x :: xs => by
    have ih := mx0_nn xs
    unfold mx0
    split <;> omega
theorem mx0_ge : ∀ {l : List Int} {y : Int}, y ∈ l → y ≤ mx0 l
  | x :: xs, y, h => by
    unfold mx0
    rcases List.mem_cons.mp h with e | h
    · subst e
      split <;> omega
    · have ih := mx0_ge h
      split <;> omega
theorem mx0_mem : ∀ l : List Int, mx0 l = 0 ∨ mx0 l ∈ l
  | [] => .inl (by unfold mx0; rfl)
  | x :: xs => by
    unfold mx0
    split
    · exact .inr List.mem_cons_self
    · rcases mx0_mem xs with e | e
      · exact .inl e
      · exact .inr (List.mem_cons_of_mem _ e)
theorem mx0_of {l : List Int} {m : Int} (h1 : m ∈ (0 : Int) :: l) (h2 : ∀ y, y ∈ (0 : Int) :: l → y ≤ m) : m = mx0 l := by
  have a : m ≤ mx0 l := by
    rcases List.mem_cons.mp h1 with e | e
    · rw [e]
      exact mx0_nn l
    · exact mx0_ge e
  have b : mx0 l ≤ m := by
    rcases mx0_mem l with e | e
    · rw [e]
      exact h2 0 List.mem_cons_self
    · exact h2 _ (List.mem_cons_of_mem _ e)
  omega
theorem mx0_of' {l : List Int} {m : Int} (h0 : ∀ y, y ∈ l → 0 ≤ y) (h1 : m ∈ l) (h2 : ∀ y, y ∈ l → y ≤ m) : m = mx0 l :=
  mx0_of (List.mem_cons_of_mem _ h1) fun y hy => by
    rcases List.mem_cons.mp hy with e | e
    · rw [e]
      exact h0 m h1
    · exact h2 y e
theorem mx0_le {l : List Int} {v : Int} (h : 0 ≤ v) : mx0 l ≤ v ↔ ∀ y ∈ l, y ≤ v := by
  refine ⟨fun a y hy => Int.le_trans (mx0_ge hy) a, fun a => ?_⟩
  rcases mx0_mem l with e | e
  · rw [e]
    exact h
  · exact a _ e
theorem mx0_perm {l l' : List Int} (h : ∀ y, y ∈ l ↔ y ∈ l') : mx0 l = mx0 l' := by
  have a := (mx0_le (l := l) (mx0_nn l')).mpr fun y hy => mx0_ge ((h y).mp hy)
  have b := (mx0_le (l := l') (mx0_nn l)).mpr fun y hy => mx0_ge ((h y).mpr hy)
  omega
@[irreducible] def greatest (L : Ln) (T : Tk) (b : Nat) : Int := mx0 ((gapsL L T b).map fun z => gapOf L T b z.1 z.2)
/-- what comes to a box in a course, by the letters' order -/
def place (L : Ln) (b : Nat) (l : Lt) : Nat := if l.1 = true then b else L.bx.length - 1 - b
@[irreducible] def come (L : Ln) (T : Tk) (C : Lt → List Int) (b : Nat) : List (Int × Lt) := (lets T).filterMap fun l => ((C l)[place L b l]?).map fun t => (t, l)
/-- the greatest of a list that is not empty -/
def mxl : List Int → Int
  | [] => 0
  | [x] => x
  | x :: y :: r => if mxl (y :: r) < x then x else mxl (y :: r)
theorem mxl_mem : ∀ {l : List Int}, l ≠ [] → mxl l ∈ l
  | [], h => absurd rfl h
  | [x], _ => by simp [mxl]
  | x :: y :: r, _ => by
    unfold mxl
    split
    · exact List.mem_cons_self
    · exact List.mem_cons_of_mem _ (mxl_mem (by simp))
theorem mxl_ge : ∀ {l : List Int} {z : Int}, z ∈ l → z ≤ mxl l
  | [x], z, h => by
    have e : z = x := by simpa using h
    rw [e]
    exact Int.le_refl _
  | x :: y :: r, z, h => by
    unfold mxl
    rcases List.mem_cons.mp h with e | h
    · subst e
      split <;> omega
    · have ih := mxl_ge h
      split <;> omega
theorem mxl_of {l : List Int} {m : Int} (h1 : m ∈ l) (h2 : ∀ y, y ∈ l → y ≤ m) : m = mxl l := by
  have hne : l ≠ [] := by
    intro e
    rw [e] at h1
    cases h1
  have a := mxl_ge h1
  have b := h2 _ (mxl_mem hne)
  omega
theorem mxl_congr {l l' : List Int} (h : ∀ y, y ∈ l ↔ y ∈ l') : mxl l = mxl l' := by
  by_cases e : l = []
  · have e2 : l' = [] := by
      cases l' with
      | nil => rfl
      | cons x r =>
        have z := (h x).mpr List.mem_cons_self
        rw [e] at z
        cases z
    rw [e, e2]
  · exact mxl_of ((h _).mp (mxl_mem e)) fun y hy => mxl_ge ((h y).mpr hy)
def sightsB (L : Ln) (b : Nat) (rows : List (Int × Lt)) (t : Int) : List Int := (rows.filter fun r => decide (r.1 < t) && sight L b r.2).map (·.1)
@[irreducible] def quiet (L : Ln) (b : Nat) (rows : List (Int × Lt)) (t : Int) : Option Int := if sightsB L b rows t = [] then none else some (t - mxl (sightsB L b rows t))
theorem sightsB_mem {L : Ln} {b : Nat} {rows rows' : List (Int × Lt)} {t : Int} (h : ∀ r, r ∈ rows ↔ r ∈ rows') : ∀ y, y ∈ sightsB L b rows t ↔ y ∈ sightsB L b rows' t := by
  intro y
  unfold sightsB
  simp only [List.mem_map, List.mem_filter]
  refine ⟨fun ⟨r, ⟨a, c⟩, e⟩ => ⟨r, ⟨(h r).mp a, c⟩, e⟩, fun ⟨r, ⟨a, c⟩, e⟩ => ⟨r, ⟨(h r).mpr a, c⟩, e⟩⟩
theorem quiet_congr {L : Ln} {b : Nat} {rows rows' : List (Int × Lt)} {t : Int} (h : ∀ r, r ∈ rows ↔ r ∈ rows') : quiet L b rows t = quiet L b rows' t := by
  have m := sightsB_mem (L := L) (b := b) (t := t) h
  have e : sightsB L b rows t = [] ↔ sightsB L b rows' t = [] := by
    rw [List.eq_nil_iff_forall_not_mem, List.eq_nil_iff_forall_not_mem]
    exact ⟨fun a y hy => a y ((m y).mpr hy), fun a y hy => a y ((m y).mp hy)⟩
  unfold quiet
  rw [mxl_congr m]
  by_cases c : sightsB L b rows t = []
  · rw [if_pos c, if_pos (e.mp c)]
  · rw [if_neg c, if_neg fun z => c (e.mpr z)]
theorem quiet_pos {L : Ln} {b : Nat} {rows : List (Int × Lt)} {t q : Int} (h : quiet L b rows t = some q) : 0 < q := by
  unfold quiet at h
  by_cases c : sightsB L b rows t = []
  · rw [if_pos c] at h
    cases h
  · rw [if_neg c] at h
    have z := mxl_mem c
    unfold sightsB at z
    obtain ⟨r, hr, e⟩ := List.mem_map.mp z
    have k := (List.mem_filter.mp hr).2
    simp only [Bool.and_eq_true, decide_eq_true_eq] at k
    have e2 : t - mxl (sightsB L b rows t) = q := Option.some.inj h
    unfold sightsB at e2
    omega
def quiets (L : Ln) (b : Nat) (rows : List (Int × Lt)) : List Int := rows.filterMap fun r => quiet L b rows r.1
@[irreducible] def longest (L : Ln) (b : Nat) (rows : List (Int × Lt)) : Int := mx0 (quiets L b rows)
theorem longest_congr {L : Ln} {b : Nat} {rows rows' : List (Int × Lt)} (h : ∀ r, r ∈ rows ↔ r ∈ rows') : longest L b rows = longest L b rows' := by
  unfold longest quiets
  refine mx0_perm fun y => ?_
  simp only [List.mem_filterMap]
  exact ⟨fun ⟨r, a, e⟩ => ⟨r, (h r).mp a, by rw [← quiet_congr h]; exact e⟩, fun ⟨r, a, e⟩ => ⟨r, (h r).mpr a, by rw [quiet_congr h]; exact e⟩⟩
/-- a course -/
def along (L : Ln) (o : Bool) : List (Int × Int) := if o = true then L.lk.take (L.lk.length - 1) else (L.lk.drop 1).reverse
def chain : List (Int × Int) → Int → List Int → Bool
  | _, _, [] => true
  | [], _, _ :: _ => true
  | k :: ks, t, x :: xs => (decide (t + k.1 ≤ x) && decide (x ≤ t + k.2)) && chain ks x xs
def stepsOk (L : Ln) (T : Tk) (l : Lt) (v : List Int) : Bool := (decide (v.length ≤ L.bx.length) && v.all fun x => decide (0 ≤ x)) && chain (along L l.1) (tm T l) v
structure CourseOk (L : Ln) (T : Tk) (C : Lt → List Int) : Prop where
  st : ∀ l ∈ lets T, stepsOk L T l (C l) = true
  lose : canLose T ((lets T).filter fun l => decide ((C l).length < L.bx.length)) = true
/-- what is asked of a row, a talk -/
def BxOk (B : Bx) : Prop := 1 ≤ B.low ∧ B.low ≤ B.high ∧ B.high ≤ 10000 ∧ 0 ≤ B.rest ∧ B.rest ≤ 10000
def LkOk (k : Int × Int) : Prop := 0 ≤ k.1 ∧ k.1 ≤ k.2 ∧ k.2 ≤ 1000
structure LnOk (L : Ln) : Prop where
  n1 : 1 ≤ L.bx.length
  n4 : L.bx.length ≤ 4
  nl : L.lk.length = L.bx.length + 1
  bx : ∀ B ∈ L.bx, BxOk B
  lk : ∀ k ∈ L.lk, LkOk k
def TmOk (l : List Int) : Prop := (∀ x ∈ l, 0 ≤ x ∧ x ≤ 10000) ∧ l.Pairwise (· < ·) ∧ l.length ≤ 60
structure TkOk (T : Tk) : Prop where
  o1 : 1 ≤ T.out.length
  out : TmOk T.out
  bk : TmOk T.bk
  ls : T.ls ≤ 5
end Qd
set_option Elab.async false
set_option linter.all false
set_option maxRecDepth 100000
set_option maxHeartbeats 4000000
/-! Rules of my own over the hand layer: what this program needs and the layer lacks. -/
namespace Qr
open PySem PySem.Spec PyProof.Rows L2
section
variable {X : Cx} {k : Nat} {C f : Addr} {fd : FuncData} {ps : List Str} {sp : Sp}
/-- a callee that lets nothing out, run one frame of the interpreter deeper -/
theorem run_deep {pins : List (Addr × Obj)} {σ : L2.St} {H : Hp} {s : Shared} {Q : VK} {us : List Value} {vs : List V} {E' : Value → Shared → Prop} (F : FnOk X.prog X.w X.K X.mg X.base CX0 k f fd ps sp)
    (hr : Room (k + 1) X.A) (hb : Binds X.K fd ps []) (I : Inv X pins σ H s) (r : Vals vs us) (h : sp vs H Q E0) : wpAny (model X.prog X.w) X.A.in1 (call (.ref f) us) (EP X pins σ Q) E' s := by
  have hl : us.length = ps.length := r.length.symm.trans (F.len _ _ _ _ h)
  have b0 := hb s us I.kIn (by rw [List.append_nil]; exact hl)
  rw [List.append_nil] at b0
  refine wpAny_call (codeAny_mono (F.run X.A.in1 X.stack s H ⟨us, []⟩ us vs Q E0 hr.in1 I.env0.in1 b0 r h) fun res s' hq => ?_)
  cases res with
  | error e => exact False.elim hq
  | ok fl =>
    cases fl with
    | ret u => exact I.after hq
    | next => exact False.elim hq
    | brk => exact False.elim hq
    | cont => exact False.elim hq
theorem run_same {pins : List (Addr × Obj)} {σ : L2.St} {H : Hp} {s : Shared} {Q : VK} {us : List Value} {vs : List V} {E' : Value → Shared → Prop} (F : FnOk X.prog X.w X.K X.mg X.base CX0 k f fd ps sp)
    (hr : Room k X.A) (hb : Binds X.K fd ps []) (I : Inv X pins σ H s) (r : Vals vs us) (h : sp vs H Q E0) : wpAny (model X.prog X.w) X.A (call (.ref f) us) (EP X pins σ Q) E' s := by
  have hl : us.length = ps.length := r.length.symm.trans (F.len _ _ _ _ h)
  have b0 := hb s us I.kIn (by rw [List.append_nil]; exact hl)
  rw [List.append_nil] at b0
  refine wpAny_call (codeAny_mono (F.run X.A X.stack s H ⟨us, []⟩ us vs Q E0 hr I.env0 b0 r h) fun res s' hq => ?_)
  cases res with
  | error e => exact False.elim hq
  | ok fl =>
    cases fl with
    | ret u => exact I.after hq
    | next => exact False.elim hq
    | brk => exact False.elim hq
    | cont => exact False.elim hq
/-- len of an instance with a __len__ of its own -/
def rLenO (C : Addr) (sp : Sp) : List V → Hp → VK → Prop := fun xs H Q => ∃ a dx fs, xs = [.ref a] ∧ H a = some (.ins C dx fs) ∧ sp [.ref a] H (fun v H' => ∃ n : Int, v = .int n ∧ 0 ≤ n ∧ n < 2 ^ 63 ∧ Q (.int n) H') E0
theorem call_lenO (hs : PySem.W.findIn X.K (.ref C) "__len__" = some (some (.ref f))) (hf : PySem.W.isFn X.K (.ref f) = true) (F : FnOk X.prog X.w X.K X.mg X.base CX0 k f fd ps sp) (hr : Room (k + 1) X.A) (hb : Binds X.K fd ps []) :
    CallR X (.builtin "len") (rLenO C sp) := by
  intro pins s σ H xs us Q I r h
  obtain ⟨a, dx, fs, rfl, ea, q⟩ := h
  obtain ⟨u, rfl, r1⟩ := vals1 r
  cases r1
  obtain ⟨mA, O, _⟩ := ins_get I.hok ea
  obtain ⟨od, J, _⟩ := O.look
  obtain ⟨m, hF⟩ := I.fr
  refine PySem.W.len_K hF I.ok.mod.kin J hs hf (wpAny_mono (run_deep (vs := [.ref a]) F hr hb I (.cons rfl .nil) q) (fun v s' z => ?_) fun _ _ y => y)
  obtain ⟨v', H', I', rv, n, rfl, h0, h1, qn⟩ := z
  obtain ⟨t, rfl⟩ := rv
  exact ⟨⟨h0, h1⟩, .int n, H', I'.tok _, ⟨_, rfl⟩, qn⟩
/-- x in o, o an instance with a __contains__ of its own that answers True or False -/
def rInO (C : Addr) (sp : Sp) : R2 := fun x y H Q => ∃ a dx fs, y = .ref a ∧ H a = some (.ins C dx fs) ∧ sp [.ref a, x] H (fun v H' => ∃ b : Bool, v = .bl b ∧ Q (.bl b) H') E0
theorem op_inO (hs : PySem.W.findIn X.K (.ref C) "__contains__" = some (some (.ref f))) (hf : PySem.W.isFn X.K (.ref f) = true) (F : FnOk X.prog X.w X.K X.mg X.base CX0 k f fd ps sp) (hr : Room k X.A) (hb : Binds X.K fd ps []) :
    OpR X (compareOp .In) (rInO C sp) := by
  intro pins s σ H x y v u Q I rx ry h
  obtain ⟨a, dx, fs, rfl, ea, q⟩ := h
  cases ry
  obtain ⟨mA, O, _⟩ := ins_get I.hok ea
  obtain ⟨od, J, _⟩ := O.look
  obtain ⟨m, hF⟩ := I.fr
  refine PySem.W.in_K hF I.ok.mod.kin J hs hf (wpAny_mono (run_same (vs := [.ref a, x]) F hr hb I (.cons rfl (.cons rx .nil)) q) (fun w' s' z => ?_) fun _ _ y => y)
  obtain ⟨v', H', I', rv, b, rfl, qn⟩ := z
  cases rv
  exact wpAny_truthy_bool ⟨.bl b, H', I', rfl, qn⟩
/-- o[k], o a dict that is tracked or locked -/
def rIxD : R2 := fun x y H Q => ∃ a v, x = .ref a ∧ DGet H a y (some v) ∧ Q v H
theorem ix_dict (hu : X.A.units + 1 < cLine) : IxR X rIxD := by
  intro value slice pins s σ H x y v u Q I rx ry h hs
  obtain ⟨a, z, rfl, g, q⟩ := h
  cases rx
  exact tail_any (dict_typeIs I g) PySem.F.slot_dict_getitem.lookup (d_getItem hu I g ry fun w' s3 I3 rw' => ⟨z, H, I3, rw', q⟩) hs
/-- in, not in: a tuple of data -/
def rInT (K : PySem.W.Frag) : R2 := fun x y H Q => ∃ d ds, Dp K H x d ∧ Dp K H y (.tuple ds) ∧ SeqAt.shaped d = true ∧ SeqAt.shaped (.tuple ds) = true ∧ Q (.bl (ds.any fun z => PyData.eqv z d)) H
def rNotInT (K : PySem.W.Frag) : R2 := fun x y H Q => ∃ d ds, Dp K H x d ∧ Dp K H y (.tuple ds) ∧ SeqAt.shaped d = true ∧ SeqAt.shaped (.tuple ds) = true ∧ Q (.bl (!ds.any fun z => PyData.eqv z d)) H
theorem op_inT (hu : X.A.units + 65 < cLine) : OpR X (compareOp .In) (rInT X.K) := by
  rintro pins s σ H x y v u Q I rx ry ⟨d, ds, hd, he, sd, se, q⟩
  have r1 := Dp.reads I d x v hd rx
  have r2 := Dp.reads I (.tuple ds) y u he ry
  exact SeqAt.in_tuple_reads r2.choose_spec r1.choose_spec (SeqAt.canLay_of_shaped se) (SeqAt.canLay_of_shaped sd) (room_in_shaped sd hu) (fin_bl I q rfl)
theorem op_notInT (hu : X.A.units + 65 < cLine) : OpR X (compareOp .NotIn) (rNotInT X.K) := by
  rintro pins s σ H x y v u Q I rx ry ⟨d, ds, hd, he, sd, se, q⟩
  have r1 := Dp.reads I d x v hd rx
  have r2 := Dp.reads I (.tuple ds) y u he ry
  exact SeqAt.notIn_tuple_reads r2.choose_spec r1.choose_spec (SeqAt.canLay_of_shaped se) (SeqAt.canLay_of_shaped sd) (room_in_shaped sd hu) (fin_bl I q rfl)
/-- a value's type, a locked dict with tuple keys among them -/
inductive TyQ (K : PySem.W.Frag) (H : Hp) : V → Value → Prop where
  | x {v : V} {t : Value} (h : TyX K H v t) : TyQ K H v t
  | fT {a : Addr} {o : Obj} {kvs : List (List Key × V)} (e : H a = some (.frz o (.dT kvs))) : TyQ K H (.ref a) (.type "dict")
theorem kitQ {pins : List (Addr × Obj)} {σ : L2.St} {H : Hp} {s : Shared} {v : V} {u t : Value} (I : Inv X pins σ H s) (rx : RelV v u) (ty : TyQ X.K H v t) : ∃ P : Heap → Prop, PySem.W.KitX X.K u t P ∧ P s.heap ∧ u ≠ .builtin "__main__.__loader__#opaque" := by
  cases ty with
  | x h => exact kit_of I rx h
  | @fT a o kvs e =>
    cases (show u = Value.ref a from rx)
    have z := I.frzT e
    exact ⟨_, PySem.W.kitx_dict, ⟨o, z.2.1, z.2.2.1.1⟩, fun q => nomatch q⟩
def rIsQ (K : PySem.W.Frag) : List V → Hp → VK → Prop := fun xs H Q => ∃ (x c : V) (t u : Value) (b : Bool), xs = [x, c] ∧ ClsV c u ∧ TyQ K H x t ∧ PySem.W.kitOne K t u = some b ∧ Q (.bl b) H
theorem call_isQ : CallR X (.builtin "isinstance") (rIsQ X.K) := by
  rintro pins s σ H xs us Q I r ⟨x, c, t, u, b, rfl, kc, ty, e, q⟩
  obtain ⟨u1, u2, rfl, r1, r2⟩ := vals2 r
  obtain ⟨P, Z, hp, hx⟩ := kitQ I r1 ty
  rw [kc.eq r2]
  exact PySem.W.kia_one Z I.kIn hp e hx fun tk => ⟨.bl b, H, I.tok tk, rfl, q⟩
def rIsQT (K : PySem.W.Frag) : List V → Hp → VK → Prop := fun xs H Q => ∃ (x : V) (tp : Addr) (cs : List V) (t : Value) (us : List Value) (b : Bool), xs = [x, .ref tp] ∧ H tp = some (.tup cs) ∧ Paired ClsV cs us ∧ TyQ K H x t ∧ PySem.W.kitAny K t us = some b ∧ Q (.bl b) H
theorem call_isQT : CallR X (.builtin "isinstance") (rIsQT X.K) := by
  rintro pins s σ H xs us Q I r ⟨x, tp, cs, t, ws, b, rfl, hT, kc, ty, e, q⟩
  obtain ⟨u1, u2, rfl, r1, r2⟩ := vals2 r
  cases (show u2 = Value.ref tp from r2)
  obtain ⟨P, Z, hp, hx⟩ := kitQ I r1 ty
  obtain ⟨_, its, rv, ⟨oc, od, dt, sl⟩, h1, h2, n, h3⟩ := (show ObjOk X.prog X.w H s.heap tp (.tup cs) from I.hok tp _ hT)
  have e3 := ClsV.all kc rv
  subst e3
  cases h2
  cases h3
  exact PySem.W.kia_tup Z I.kIn hp h1 e hx fun tk => ⟨.bl b, H, I.tok tk, rfl, q⟩
/-- len of a dict with tuple keys, tracked or locked -/
def rLenD : List V → Hp → VK → Prop := fun xs H Q => ∃ (p : Addr) (kvs : List (List Key × V)), xs = [.ref p] ∧ Rd H p (.dT kvs) ∧ Q (.int ((kvs.length : Nat) : Int)) H
theorem call_lenD' : CallR X (.builtin "len") rLenD := by
  rintro pins s σ H xs us Q I r ⟨p, kvs, rfl, hp, q⟩
  obtain ⟨u, rfl, rx⟩ := vals1 r
  cases (show u = Value.ref p from rx)
  obtain ⟨z, hd, ys, rel, dd⟩ := dt_rd I.hok hp
  have hl : kvs.length = ys.length := Paired.length rel
  refine call_len_dictH hd dd (by rw [← hl]; rw [sizeLine_eq] at z; omega) ?_
  rw [← hl]
  exact ⟨.int ((kvs.length : Nat) : Int), H, I.tok _, ⟨_, rfl⟩, q⟩
/-- max(list, default=0) of ints -/
def rMaxD (K : PySem.W.Frag) : List V → List V → Hp → VK → Prop := fun xs zs H Q => ∃ (a : Addr) (ns : List Int), xs = [.ref a] ∧ zs = [.int 0] ∧ SqL K H a (ns.map V.int) ∧ ∀ m, (ns = [] → m = 0) → (ns ≠ [] → m ∈ ns ∧ ∀ y ∈ ns, y ≤ m) → Q (.int m) H
theorem foldl_max_spec : ∀ (ns : List Int) (n : Int), ns.foldl max n ∈ n :: ns ∧ ∀ y ∈ n :: ns, y ≤ ns.foldl max n
  | [], n => ⟨List.mem_cons_self, fun y hy => by rw [List.mem_singleton.mp hy]; exact Int.le_refl n⟩
  | m :: r, n => by
    obtain ⟨h1, h2⟩ := foldl_max_spec r (max n m)
    have e : (m :: r).foldl max n = r.foldl max (max n m) := rfl
    rw [e]
    refine ⟨?_, fun y hy => ?_⟩
    · rcases List.mem_cons.mp h1 with q | q
      · rw [q]
        rcases Int.le_total n m with z | z
        · rw [Int.max_eq_right z]
          exact List.mem_cons_of_mem _ List.mem_cons_self
        · rw [Int.max_eq_left z]
          exact List.mem_cons_self
      · exact List.mem_cons_of_mem _ (List.mem_cons_of_mem _ q)
    · have top := h2 (max n m) List.mem_cons_self
      rcases List.mem_cons.mp hy with q | q
      · rw [q]
        exact Int.le_trans (Int.le_max_left n m) top
      · rcases List.mem_cons.mp q with q | q
        · rw [q]
          exact Int.le_trans (Int.le_max_right n m) top
        · exact h2 y (List.mem_cons_of_mem _ q)
theorem alike_all_ints (ns : List Int) : PySem.W.AlikeAll (ns.map PyData.int) := by
  refine ⟨fun x hx y hy => ?_, fun x hx => ?_⟩
  · obtain ⟨a, _, rfl⟩ := List.mem_map.mp hx
    obtain ⟨b, _, rfl⟩ := List.mem_map.mp hy
    rfl
  · obtain ⟨a, _, rfl⟩ := List.mem_map.mp hx
    exact fun q => nomatch q
theorem dp_ints {K : PySem.W.Frag} {H : Hp} : ∀ ns : List Int, DpAll K H (ns.map V.int) (ns.map PyData.int)
  | [] => .nil
  | n :: r => .cons (.int n) (dp_ints r)
end
end Qr
set_option Elab.async false
set_option linter.all false
set_option maxRecDepth 100000
set_option maxHeartbeats 4000000
namespace Qr
open PySem PySem.Spec PyProof.Rows L2
section
variable {X : Cx}
theorem call_maxD (hc : X.calm = true) (hu : X.A.units + 64 < cLine) : CallRK X (.builtin "max") [Str.ofString "default"] (rMaxD X.K) := by
  rintro pins s σ H xs zs us ws Q I r rz ⟨a, ns, rfl, rfl, hs, q⟩
  obtain rfl := Vals.ref1 r
  obtain ⟨w1, rfl, e1⟩ := vals1 rz
  obtain ⟨t, rfl⟩ := (show ∃ t, w1 = Value.int 0 t from e1)
  obtain ⟨its, rv, hl, _⟩ := I.list hs
  obtain ⟨as, hr⟩ := Dp.readsAll I (ns.map PyData.int) _ its (dp_ints ns) rv
  have fin : ∀ {h' : Heap} {tk : Nat} {m : Int} {v : Value}, (∀ b o, s.heap.get? b = some o → h'.get? b = some o) → RelV (.int m) v → (ns = [] → m = 0) → (ns ≠ [] → m ∈ ns ∧ ∀ y ∈ ns, y ≤ m) → EP X pins σ Q v { s with heap := h', toks := tk } :=
    fun hk rm c1 c2 => ⟨.int _, H, I.kept hk, rm, q _ c1 c2⟩
  refine PySem.W.max_list_default (I.ok.hd hc) hl.isList (by simpa using hr) (alike_all_ints ns) (by rw [PySem.W.depth_ints]; omega) (fun he h' tk hk => fin hk ⟨t, rfl⟩ (fun _ => rfl) fun hne => absurd (List.map_eq_nil_iff.mp he) hne)
    fun y ys i v h' tk bs he hv hrd hk => ?_
  cases ns with
  | nil => cases he
  | cons n ns' =>
    have e2 : PyData.int n = y ∧ ns'.map PyData.int = ys := by
      have z : PyData.int n :: ns'.map PyData.int = y :: ys := he
      injection z with z1 z2
      exact ⟨z1, z2⟩
    rw [← e2.1, ← e2.2, PySem.W.maxD_ints] at hrd
    have sp := foldl_max_spec ns' n
    cases hrd with
    | int _ tt => exact fin hk ⟨tt, rfl⟩ (fun z => by cases z) fun _ => sp
/-- repr of a truth value -/
def wB (b : Bool) : Str := if b = true then "True" else "False"
theorem call_reprB : CallR X (.builtin "repr") (fun xs H Q => ∃ b : Bool, xs = [.bl b] ∧ Q (.str (wB b)) H) := by
  rintro pins s σ H xs us Q I r ⟨b, rfl, q⟩
  obtain ⟨u, rfl, r1⟩ := vals1 r
  obtain rfl : u = Value.bool b := r1
  refine PySem.P.repr_of_bool ⟨.str (wB b), H, I.tok _, ⟨s.toks, ?_⟩, q⟩
  cases b <;> rfl
/-- what is locked for good: an expression's new dict, behind it read and never written -/
def tFreeze (t : TE) : TE := fun σ H Q => t σ H fun v H1 => ∃ d u, v = .ref d ∧ H1 d = some u ∧ Mut (some u) ∧ ∀ od, Q v (upd H1 d (.frz od u))
theorem pe_freeze {e : Expr} {t : TE} (h : PE X e t) : PE X e (tFreeze t) := by
  refine ⟨fun pins s σ H Q I hw => ?_⟩
  refine thn (h.run pins s σ H _ I hw) fun v s1 z => ?_
  obtain ⟨x, H1, I1, rx, d, u, rfl, hd, mu, q⟩ := z
  obtain ⟨od, I2⟩ := I1.lock hd mu
  exact ⟨.ref d, _, I2, rx, q od⟩
/-- sorted of a list of data that can be ordered -/
def rSortD (K : PySem.W.Frag) : List V → Hp → VK → Prop := fun xs H Q => ∃ (a : Addr) (vs : List V) (ds : List PyData), xs = [.ref a] ∧ SqL K H a vs ∧ DpAll K H vs ds ∧ PySem.W.AllAlike ds ∧ PySem.W.Sortable ds ∧ (∀ d ∈ ds, d.depth ≤ 32) ∧
  ∀ (ys : List V) (p : Addr), ys.Perm vs → H p = none → Q (.ref p) (upd H p (.lst ys))
theorem each_zip {u : List Value} : ∀ {vs : List V} {ds : List PyData} {us : List Value}, Vals vs us → vs.length = ds.length → PySem.W.EachIs (fun (w : Value) (b : V × PyData) => RelV b.1 w) us (vs.zip ds)
  | [], _, _, .nil, _ => .nil
  | v :: vs, d :: ds, _, .cons r t, h => .cons r (each_zip (u := u) t (Nat.succ.inj h))
theorem each_zipR {h : Heap} : ∀ {vs : List V} {ds : List PyData} {us : List Value} {as : List Addr}, ReadsAll h us ds as → vs.length = ds.length → PySem.W.EachIs (fun (w : Value) (b : V × PyData) => ∃ as, Reads h w b.2 as) us (vs.zip ds)
  | [], [], _, _, .nil, _ => .nil
  | v :: vs, d :: ds, _, _, .cons r t, hl => .cons ⟨_, r⟩ (each_zipR t (Nat.succ.inj hl))
theorem vals_each : ∀ {us : List Value} {bs : List (V × PyData)}, PySem.W.EachIs (fun (w : Value) (b : V × PyData) => RelV b.1 w) us bs → Vals (bs.map (·.1)) us
  | _, _, .nil => .nil
  | _, _, .cons r t => .cons r (vals_each t)
theorem dpAll_length {K : PySem.W.Frag} {H : Hp} : ∀ {vs : List V} {ds : List PyData}, DpAll K H vs ds → vs.length = ds.length
  | _, _, .nil => rfl
  | _, _, .cons _ t => congrArg Nat.succ (dpAll_length t)
theorem call_sortD (hu : X.A.units + 64 < cLine) : CallR X (.builtin "sorted") (rSortD X.K) := by
  rintro pins s σ H xs us Q I r ⟨a, vs, ds, rfl, hs, hd, hal, hk, hdep, q⟩
  obtain rfl := Vals.ref1 r
  obtain ⟨its, rv, hl, hz⟩ := I.list hs
  obtain ⟨as, hr⟩ := Dp.readsAll I ds _ its hd rv
  have hlen := dpAll_length hd
  have em : (vs.zip ds).map (·.2) = ds := List.map_snd_zip (Nat.le_of_eq hlen.symm)
  have em1 : (vs.zip ds).map (·.1) = vs := List.map_fst_zip (Nat.le_of_eq hlen)
  refine PySem.W.sorted_data (R := fun (w : Value) (b : V × PyData) => RelV b.1 w) (bs := vs.zip ds) (enc := fun b => b.2) hl.isList (each_zip (u := its) rv hlen) (each_zipR hr hlen) (by rw [em]; exact hal) (by rw [em]; exact hk) (by rw [List.length_zip]; omega)
    (fun b hb => ?_) fun out ho eo => ?_
  · have := hdep b.2 (List.of_mem_zip hb).2
    omega
  · obtain ⟨c, hc⟩ := sortedAll_at s.heap its out.toArray
    have pm : (((vs.zip ds).mergeSort (PySem.W.dataLe false fun b => b.2)).map (·.1)).Perm vs := by
      have z := (List.mergeSort_perm (vs.zip ds) (PySem.W.dataLe false fun b => b.2)).map (·.1)
      rw [em1] at z
      exact z
    have hn : H (s.heap.objs.size + 1) = none := I.hok.fresh (Nat.le_succ _)
    refine ⟨.ref (s.heap.objs.size + 1), _, I.laid (t' := s.toks) (o := .lst (((vs.zip ds).mergeSort (PySem.W.dataLe false fun b => b.2)).map (·.1))) (fun b ob e => sortedAll_old e) (Nat.le_succ _) ?_, rfl, q _ _ pm hn⟩
    exact ⟨by rw [pm.length_eq]; exact hz, out, c, vals_each eo, hc⟩
/-! ### xs[:0:-1] -/
theorem back_map (n : Nat) : (List.range (n - 1)).map (fun k => n - 1 - k) = ((List.range n).drop 1).reverse := by
  apply List.ext_getElem
  · simp
  · intro i h1 h2
    simp at h1 h2 ⊢
    omega
theorem back_pick (xs : List Value) : (((List.range xs.length).drop 1).reverse).filterMap (fun (i : Nat) => xs[i]?) = (xs.drop 1).reverse := by
  rw [List.filterMap_reverse]
  congr 1
  cases xs with
  | nil => rfl
  | cons a r =>
    show ((List.range (r.length + 1)).drop 1).filterMap (fun (i : Nat) => (a :: r)[i]?) = r
    rw [List.range_succ_eq_map, List.drop_one, List.tail_cons, List.filterMap_map]
    have e : ((fun (i : Nat) => (a :: r)[i]?) ∘ Nat.succ) = fun (i : Nat) => r[i]? := by
      funext i
      show (a :: r)[i + 1]? = r[i]?
      exact List.getElem?_cons_succ
    rw [e]
    have z := PySem.W.krv_all r.toArray
    have e2 : (fun (x : Nat) => r.toArray[x]?) = fun (i : Nat) => r[i]? := by
      funext i
      simp
    rw [List.size_toArray, e2] at z
    exact z
theorem back_slicePick (xs : List Value) (h : 1 ≤ xs.length) : slicePick xs.toArray none (some 0) (some (-1)) = ((xs.drop 1).reverse).toArray := by
  unfold slicePick
  have eb : sliceBounds none (some 0) (some (-1)) xs.toArray.size = ((xs.length : Int) - 1, 0, -1) := by
    rw [List.size_toArray]
    show ((xs.length : Int) - 1, max (-1 : Int) (min 0 ((xs.length : Int) - 1)), (-1 : Int)) = _
    have e1 : min 0 ((xs.length : Int) - 1) = 0 := Int.min_eq_left (by omega)
    rw [e1]
    rfl
  rw [eb]
  show ((sliceRange ((xs.length : Int) - 1) 0 (-1)).filterMap (fun (i : Nat) => xs.toArray[i]?)).toArray = _
  have er : sliceRange ((xs.length : Int) - 1) 0 (-1) = (List.range (xs.length - 1)).map fun k => xs.length - 1 - k := by
    unfold sliceRange
    rw [if_neg (by decide)]
    by_cases h1 : (xs.length : Int) - 1 > 0
    · rw [if_pos h1]
      have e3 : (((xs.length : Int) - 1 - 0 - -1 - 1) / (- -1)).toNat = xs.length - 1 := by
        rw [show (- -1 : Int) = 1 by decide, Int.ediv_one]
        omega
      dsimp only
      rw [e3]
      apply List.map_congr_left
      intro k hk
      have := List.mem_range.mp hk
      omega
    · rw [if_neg h1]
      have e3 : xs.length - 1 = 0 := by omega
      rw [e3]
      rfl
  rw [er, back_map]
  have e2 : (fun (x : Nat) => xs.toArray[x]?) = fun (i : Nat) => xs[i]? := by
    funext i
    simp
  rw [e2, back_pick]
theorem fm_congr {α β : Type} {f g : α → Option β} : ∀ {l : List α}, (∀ x ∈ l, f x = g x) → l.filterMap f = l.filterMap g
  | [], _ => rfl
  | x :: r, h => by
    rw [List.filterMap_cons, List.filterMap_cons, h x List.mem_cons_self, fm_congr fun y hy => h y (List.mem_cons_of_mem _ hy)]
theorem back_places (xs : List Value) (h : 1 ≤ xs.length) : ((List.range (xs.length - 1)).filterMap fun (m : Nat) => xs.toArray[(((xs.length : Int) - 1) + (m : Int) * (-1)).toNat]?).toArray = ((xs.drop 1).reverse).toArray := by
  have e : (List.range (xs.length - 1)).filterMap (fun (m : Nat) => xs.toArray[(((xs.length : Int) - 1) + (m : Int) * (-1)).toNat]?) = ((List.range (xs.length - 1)).map fun k => xs.length - 1 - k).filterMap fun (i : Nat) => xs[i]? := by
    rw [List.filterMap_map]
    refine fm_congr fun k hk => ?_
    have hk' := List.mem_range.mp hk
    have e1 : (((xs.length : Int) - 1) + (k : Int) * (-1)).toNat = xs.length - 1 - k := by omega
    show xs.toArray[(((xs.length : Int) - 1) + (k : Int) * (-1)).toNat]? = xs[xs.length - 1 - k]?
    rw [e1]
    simp
  rw [e, back_map, back_pick]
/-- xs[:0:-1], a tuple's | a list's, not empty -/
def tBack (K : PySem.W.Frag) (te : TE) : TE := fun σ H Q => te σ H fun x H1 => ∃ a xs, x = .ref a ∧ 1 ≤ xs.length ∧
  ((SqT K H1 a xs ∧ ∀ p, H1 p = none → Q (.ref p) (upd H1 p (.tup (xs.drop 1).reverse))) ∨ (SqL K H1 a xs ∧ ∀ p, H1 p = none → Q (.ref p) (upd H1 p (.lst (xs.drop 1).reverse))))
section
variable {prog : Program} {w : World} {A : Around} {E : Value → Shared → Prop} {s : Shared}
theorem applied_back {sl : Addr} {vl vu vs : Value} {n : Nat} {Q : Int × Int × Nat → Shared → Prop} (hs : s.heap.IsSliceOf sl vl vu vs) (pl : IsPart vl none) (pu : IsPart vu (some 0)) (ps : IsPart vs (some (-1))) (hn : 1 ≤ n)
    (h : Q ((n : Int) - 1, -1, n - 1) s) : wpAny (model prog w) A (Builtin.Slice.sliceApplied (.ref sl) (pure (n : Int))) Q E s := by
  obtain ⟨os, hos, hcs, hds⟩ := id hs
  unfold Builtin.Slice.sliceApplied Builtin.Slice.sliceFields
  refine wpAny_bind (wpAny_bind (wpAny_field hos hds (x := vl) rfl (wpAny_bind (wpAny_field hos hds (x := vu) rfl (wpAny_bind (wpAny_field hos hds (x := vs) rfl (wpAny_pure ?_)))))))
  refine wpAny_bind (HT.slicePart_ ps ?_)
  show wpAny _ _ (if ((-1 : Int) == 0) = true then _ else _) _ _ s
  rw [if_neg (by decide)]
  refine wpAny_bind (HT.slicePart_ pl (wpAny_bind (HT.slicePart_ pu (wpAny_bind (wpAny_pure ?_)))))
  have e : Builtin.Slice.sliceAdjust none (some 0) (-1) (n : Int) = ((n : Int) - 1, 0) := by
    show ((n : Int) - 1, min 0 ((n : Int) - 1)) = _
    rw [Int.min_eq_left (by omega)]
  have e2 : Builtin.Slice.slicePlaces ((n : Int) - 1) 0 (-1) = n - 1 := by
    unfold Builtin.Slice.slicePlaces
    rw [if_neg (by decide)]
    by_cases h1 : (n : Int) - 1 > 0
    · rw [if_pos h1, show (- -1 : Int) = 1 by decide, Int.ediv_one]
      omega
    · rw [if_neg h1]
      omega
  show wpAny _ _ (match Builtin.Slice.sliceAdjust none (some 0) (-1) (n : Int) with | (lo, hi) => pure (lo, (-1 : Int), Builtin.Slice.slicePlaces lo hi (-1))) _ _ s
  rw [e]
  show wpAny _ _ (pure ((n : Int) - 1, (-1 : Int), Builtin.Slice.slicePlaces ((n : Int) - 1) 0 (-1))) _ _ s
  rw [e2]
  exact wpAny_pure h
theorem getItem_tuple_back {t sl : Addr} {xs : List Value} {vl vu vs : Value} {Q : Value → Shared → Prop} (ht : IsTup s.heap t xs.toArray) (hs : s.heap.IsSliceOf sl vl vu vs) (pl : IsPart vl none) (pu : IsPart vu (some 0)) (ps : IsPart vs (some (-1))) (hn : 1 ≤ xs.length)
    (h : Q (.ref s.heap.objs.size) { s with heap := s.heap.push { cls := .type "tuple", data := .seq ((xs.drop 1).reverse).toArray } }) (hsz : xs.length ≤ sizeLine) : wpAny (model prog w) A (getItem (.ref t) (.ref sl)) Q E s := by
  obtain ⟨os, hos, hcs, hds⟩ := id hs
  have hTs : s.TypeIs (.ref sl) "slice" := ⟨os, hos, hcs⟩
  have fits : sizeOk (.seq ((xs.drop 1).reverse).toArray) := by
    show ((xs.drop 1).reverse).toArray.size ≤ sizeLine
    rw [List.size_toArray, List.length_reverse, List.length_drop]
    omega
  unfold getItem
  try with_reducible refine wpAny_holding ?_
  first | refine wpAny_bind (wpAny_pure ?_) | skip
  refine wpAny_bind (wpAny_sequenceKey ht.typeIs (by decide) ?_)
  refine wpAny_bind (wpAny_callSpecial?_slot (name := Str.ofString "__getitem__") ht.typeIs PyProof.Rows.slot_tuple_getitem (wpAny_call_entry PyProof.Rows.slot_tuple_getitem ht.typeIs entry_tuple_getitem ?_ (args_tuple_getitem _ _)))
  show wpAny _ _ (Builtin.Tuple.tupleItemsOf (.ref t) >>= _) _ _ s
  refine wpAny_bind (tupleItemsOf_ ht ?_)
  refine wpAny_bind (wpAny_typeOf hTs ?_)
  rw [if_pos (by decide)]
  refine wpAny_bind (applied_back (n := xs.length) hs pl pu ps hn ?_)
  have hno : ¬ ((((xs.length : Int) - 1) == 0 && (-1 : Int) == 1 && (xs.length - 1) == xs.toArray.size) = true) := by simp
  show wpAny _ _ (if (((xs.length : Int) - 1) == 0 && (-1 : Int) == 1 && (xs.length - 1) == xs.toArray.size) = true then _ else _) _ _ s
  rw [if_neg hno, back_places xs hn]
  first
    | exact wpAny_bind (m := Builtin.Tuple.tupleExact _) (wpAny_newObj_type (wpAny_pure ⟨_, rfl, wpAny_pure h⟩) fits)
    | exact wpAny_bind (wpAny_bind (m := Builtin.Tuple.tupleExact _) (wpAny_newObj_type (wpAny_pure ⟨_, rfl, wpAny_pure h⟩) fits))
    | exact wpAny_bind (m := Builtin.Tuple.tupleExact _) (wpAny_newObj_type (wpAny_bind (wpAny_pure (wpAny_pure ⟨_, rfl, wpAny_pure h⟩))) fits)
end
theorem pe_back {e : Expr} {te : TE} {k k0 : Nat} {p0 p1 p2 p3 pos : Pos} (he : PE X e te) :
    PE X (.Subscript e (.Slice none (some (.Constant (.int 0) k0 p0)) (some (.UnaryOp .USub (.Constant (.int 1) k p1) p2)) p3) pos) (tBack X.K te) := by
  refine ⟨fun pins s σ H Q I h => ?_⟩
  refine Subscript_ (thn (he.run pins s σ H _ I h) fun v s1 ⟨x, H1, I1, r1, q1⟩ => ?_)
  obtain ⟨a, xs, rfl, hn, q⟩ := q1
  cases r1
  have h0 : PO X (some (.Constant (.int 0) k0 p0)) (tPart (tC (.int 0))) := po_some pe_int
  have hst : PO X (some (.UnaryOp .USub (.Constant (.int 1) k p1) p2)) (tPart (tUn (rU fun i => .int (-i)) (tC (.int 1)))) := po_some (pe_un un_neg pe_int)
  refine wpAny_Slice (thn (po_none.run pins s1 σ H1 (fun o H2 => o = none ∧ H2 = H1) I1 ⟨rfl, rfl⟩) fun vl s2 ⟨l, H2, I2, pl, el, e2⟩ => ?_)
  subst el e2
  refine thn (h0.run pins s2 σ H2 (fun o H3 => o = some 0 ∧ H3 = H2) I2 ⟨0, rfl, rfl, rfl⟩) fun vu s3 ⟨u, H3, I3, pu, eu, e3⟩ => ?_
  subst eu e3
  refine thn (hst.run pins s3 σ H3 (fun o H4 => o = some (-1) ∧ H4 = H3) I3 ⟨1, rfl, -1, rfl, rfl, rfl⟩) fun vs s4 ⟨o, H4, I4, ps, eo, e4⟩ => ?_
  subst eo e4
  have I5 : Inv X pins σ H4 { s4 with heap := s4.heap.push { cls := .type "slice", data := .fields #[vl, vu, vs] } } := I4.kept (t' := s4.toks) fun b ob z => Heap.get?_push_of_some _ z
  show wpAny (model X.prog X.w) X.A (subscriptTail e (.Slice none (some (.Constant (.int 0) k0 p0)) (some (.UnaryOp .USub (.Constant (.int 1) k p1) p2)) p3) (.ref a) (.ref s4.heap.objs.size)) (EP X pins σ Q) X.xe { s4 with heap := s4.heap.push { cls := .type "slice", data := .fields #[vl, vu, vs] } }
  rcases q with ⟨hx, q⟩ | ⟨hx, q⟩
  · obtain ⟨its, r, ht, hz⟩ := I5.tuple hx
    have hlen := r.length
    refine tail_any (ops := [.ref a, .ref s4.heap.objs.size]) ht.typeIs PyProof.Rows.slot_tuple_getitem.lookup ?_ (by with_unfolding_all rfl)
    refine getItem_tuple_back ht (Heap.IsSliceOf.new _ vl vu vs) pl pu ps (by omega) ?_ (by omega)
    refine ⟨.ref _, _, I5.laid (t' := s4.toks) (o := .tup (xs.drop 1).reverse) (fun b ob z => Heap.get?_push_of_some _ z) (Nat.le_refl _) ?_, rfl, q _ (I5.hok.fresh (Nat.le_refl _))⟩
    exact ⟨by rw [List.length_reverse, List.length_drop]; omega, _, (r.drop 1).reverse, IsTup.new _ _⟩
  · obtain ⟨its, r, ht, hz⟩ := I5.list hx
    have hlen := r.length
    refine tail_any (ops := [.ref a, .ref s4.heap.objs.size]) ht.isList.typeIs PySem.slot_list_getitem.lookup ?_ (by with_unfolding_all rfl)
    refine wpAny_getItem_list_slice ht.isList (Heap.IsSliceOf.new _ vl vu vs) pl pu ps (by decide) ?_ (by rw [List.size_toArray]; omega)
    rw [back_slicePick its (by omega)]
    refine ⟨.ref _, _, I5.laid (t' := s4.toks) (o := .lst (xs.drop 1).reverse) (fun b ob z => Heap.get?_push_of_some _ z) (Nat.le_refl _) ?_, rfl, q _ (I5.hok.fresh (Nat.le_refl _))⟩
    exact ⟨by rw [List.length_reverse, List.length_drop]; omega, _, 0, (r.drop 1).reverse, Heap.get?_push_size _ rfl⟩
end
end Qr
set_option Elab.async false
set_option linter.all false
set_option maxRecDepth 100000
set_option maxHeartbeats 4000000
namespace Qr
open PySem PySem.Spec PyProof.Rows L2
open Sem (wp)
open AutoSeq1 (wpAny_loadPart')
/-! ### enumerate(tuple) -/
theorem meets_enum_tup (l : Addr) (items : Array Value) (n : Nat) (dd : Option Addr) (sl : Array (Option Value)) :
    Meets (Builtin.«enumerate.__new__» ⟨[.type "enumerate", .ref l], []⟩) (fun _ R s => s.heap.get? l = some { cls := .type "tuple", dict := dd, data := .seq items n, slots := sl } ∧
      R (.ok (.ret (.ref (s.heap.push { cls := .type "tuple_iterator", data := .fields #[.ref l, .int 0 0] }).objs.size)))
        { s with heap := (s.heap.push { cls := .type "tuple_iterator", data := .fields #[.ref l, .int 0 0] }).push { cls := .type "enumerate", data := .fields #[.none, .bool false, .ref s.heap.objs.size, rawInt 0, .none, .none] } }) :=
  .of_wp fun prog w A R s hh => by
    obtain ⟨hp, g, d, tk, os⟩ := s
    obtain ⟨hl, hr⟩ := hh
    have hsub := sub_enumerate
    have hT : Heap.IsTuple (Shared.heap ⟨hp, g, d, tk, os⟩) l items := ⟨_, hl, rfl, n, rfl⟩
    wp_walk using wpAny_loadPart' hl
    refine wpAny_stack_any fun st => wpAny_pure ?_
    split
    · rename_i c _ _ _ _ _
      cases (c == Value.type "enumerate") <;> (wp_walk using wpAny_loadPart' hl, wpAny_pyIter_tuple hT; exact ⟨_, rfl, hr⟩)
    · wp_walk using wpAny_loadPart' hl, wpAny_pyIter_tuple hT
      exact ⟨_, rfl, hr⟩
section
variable {prog : Program} {w : World} {A : Around} {E : Value → Shared → Prop} {s : Shared}
theorem call_enum_tup {l : Addr} {items : Array Value} {Q : Value → Shared → Prop} (hT : s.heap.IsTuple l items)
    (h : ∀ h', IsEnum h' (s.heap.objs.size + 1) s.heap.objs.size 0 .none → h'.IsTupleIter s.heap.objs.size l 0 → (∀ b o, s.heap.get? b = some o → h'.get? b = some o) → Q (.ref (s.heap.objs.size + 1)) { s with heap := h' }) :
    wpAny (model prog w) A (call (.type "enumerate") [.ref l]) Q E s := by
  obtain ⟨⟨c, dd, dt, sl⟩, hl, hc, n, hd⟩ := hT
  cases (show c = .type "tuple" from hc)
  cases (show dt = .seq items n from hd)
  refine callType_new F.called_enumerate (by decide) (F.typeCall_enumerate_1 _) (F.newCall_enumerate_1 _) (fun obj => F.args_object_init_2 obj _) F.entry_enumerate_new (meets_enum_tup l items n dd sl) ⟨hl, ?_⟩
  have hz : (s.heap.push { cls := .type "tuple_iterator", data := .fields #[.ref l, .int 0 0] }).objs.size = s.heap.objs.size + 1 := Heap.size_push ..
  show _ ∧ _
  rw [hz]
  generalize hh1 : s.heap.push { cls := .type "tuple_iterator", data := .fields #[.ref l, .int 0 0] } = h1 at hz
  have k1 : ∀ b o, s.heap.get? b = some o → h1.get? b = some o := fun b o e => by
    rw [← hh1]
    exact Heap.get?_push_of_some _ e
  have it1 : h1.get? s.heap.objs.size = some { cls := .type "tuple_iterator", data := .fields #[.ref l, .int 0 0] } := by
    rw [← hh1]
    exact Heap.get?_push_size _ rfl
  have he : IsEnum (h1.push { cls := .type "enumerate", data := .fields #[.none, .bool false, .ref s.heap.objs.size, rawInt 0, .none, .none] }) (s.heap.objs.size + 1) s.heap.objs.size 0 .none := by
    have z := Heap.get?_push_size h1 (o := { cls := .type "enumerate", data := .fields #[.none, .bool false, .ref s.heap.objs.size, rawInt 0, .none, .none] }) rfl
    rw [hz] at z
    exact z
  exact ⟨⟨_, he, rfl⟩, h _ he ⟨_, Heap.get?_push_of_some _ it1, rfl, rfl⟩ fun b o e => Heap.get?_push_of_some _ (k1 b o e)⟩
end
/-- enumerate over the tuple at a, each item in a new pair -/
def IteT (K : PySem.W.Frag) (a : Addr) : It :=
  ⟨fun i H => ∃ (xs : List V) (x : V), SqT K H a xs ∧ xs[i]? = some x, fun i H v H' => ∃ T x, v = .ref T ∧ H T = none ∧ H' = upd H T (.tup [.int (i : Nat), x]) ∧ ∀ xs, SqT K H a xs → xs[i]? = some x, fun i H => ∃ xs : List V, SqT K H a xs ∧ xs.length = i⟩
theorem turn_enumT {P : Program} {w : World} {K : PySem.W.Frag} {elts : List Expr} {kk : Nat} {tpos : Pos} (a e it : Addr) :
    Turn P w K (.Tuple elts kk tpos) (IteT K a) [e, it] e (fun i h => (∃ old, IsEnum h e it ((i : Nat) : Int) old) ∧ h.IsTupleIter it a i ∧ e ≠ it ∧ a ≠ it ∧ a ≠ e) where
  mem := by simp
  obj := fun i h st b hb => by
    obtain ⟨⟨old, he⟩, ⟨o, ho, hc, hd⟩, _⟩ := st
    rcases (show b = e ∨ b = it by simpa using hb) with z | z
    · rw [z]
      exact ⟨_, he, fun v q => nomatch q⟩
    · rw [z]
      exact ⟨o, ho, fun v q => by rw [hd] at q; cases q⟩
  keep := fun i h h' st k => let ⟨⟨old, he⟩, hi, hne⟩ := st; ⟨⟨old, k e (by simp) _ he⟩, hi.at fun o q => k it (by simp) o q, hne⟩
  item := by
    intro X hP hw hK hc i pins s σ H E I hf st hg
    subst hP hw hK
    obtain ⟨⟨old, he⟩, hit, hne, hai, hae⟩ := st
    obtain ⟨xs, x, hq, hx⟩ := hg
    obtain ⟨its, rv, p, hz⟩ := I.tuple hq
    obtain ⟨u, hu, ru⟩ := rv.get hx
    have hlt : i < its.toArray.size := by
      have z := (List.getElem?_eq_some_iff.mp hu).1
      rw [List.size_toArray]
      exact z
    have hel : e < s.heap.objs.size := Heap.lt_size he
    have hil : it < s.heap.objs.size := by obtain ⟨_, q, _⟩ := hit; exact Heap.lt_size q
    refine wpAny_pyNext_enum_itemD (Draws.tuple (A := X.A.in1) (I.ok.hd hc) it a hai its.toArray) he ⟨hit, p⟩ hlt hne (by simp; exact ⟨hne, hae.symm⟩) fun x2 h' tk hP ho hst hT hsz hk => ?_
    have ex2 : x2 = u := by
      rw [List.getElem?_toArray, hu] at hP
      exact (Option.some.inj hP).symm
    rw [ex2] at ho hT
    refine ⟨_, rfl, wpAny_letOwnedTupleGo_enum (s := { s with heap := h', toks := tk + 1 }) ho fun h'' he' sb => ?_⟩
    have hT2 : h''.get? s.heap.objs.size = some { cls := .type "tuple", data := .seq #[.int i tk, u] } := (sb.2 _ (Nat.ne_of_gt hel)).trans hT
    have new : ObjOk X.prog X.w (upd H s.heap.objs.size (.tup [.int (i : Nat), x])) h'' s.heap.objs.size (.tup [.int (i : Nat), x]) :=
      ⟨by show 2 ≤ sizeLine; decide, [.int i tk, u], .cons ⟨_, rfl⟩ (.cons ru .nil), ⟨_, hT2, rfl, _, rfl⟩⟩
    have I1 : Inv X pins σ (upd H s.heap.objs.size (.tup [.int (i : Nat), x])) { s with heap := h'', toks := tk + 1 } :=
      I.turnedNew (ch := [e, it]) (fun b ob hb q => (sb.2 b (fun z => hb (by simp [z]))).trans (hk b ob (fun z => hb (by simp [z])) (fun z => hb (by simp [z])) q)) hf (Nat.le_refl _) new
    refine ⟨.ref s.heap.objs.size, _, I1, rfl, ⟨_, x, rfl, I.hok.fresh (Nat.le_refl _), rfl, fun ys hy => by rw [I.tuple_inj hy hq]; exact hx⟩, ⟨⟨u, ?_⟩, hst.1.at fun o q => (sb.2 it (Ne.symm hne)).trans q, hne, hai, hae⟩, fun b hb => ?_⟩
    · have e1 : ((i + 1 : Nat) : Int) = (i : Int) + 1 := by omega
      rw [e1]
      exact he'
    · have hb' : b < s.heap.objs.size := by
        rcases (show b = e ∨ b = it by simpa using hb) with z | z
        · rw [z]
          exact hel
        · rw [z]
          exact hil
      rw [upd_ne (Nat.ne_of_lt hb')]
      exact (hf b hb).1
  done := by
    intro X hP hw hK hc i pins s σ H E I hf st hg
    subst hP hw hK
    obtain ⟨⟨old, he⟩, hit, hne, hai, hae⟩ := st
    obtain ⟨xs, hq, hx⟩ := hg
    obtain ⟨its, rv, p, hz⟩ := I.tuple hq
    obtain ⟨f0, f1, f2, f3, f4, f5⟩ := hf it (by simp)
    have hl : its.toArray.size = i := by rw [List.size_toArray, ← rv.length, hx]
    refine wpAny_pyNext_enum_endD (Draws.tuple (A := X.A.in1) (I.ok.hd hc) it a hai its.toArray) he (by rw [hl]; exact ⟨hit, p⟩) fun h' eb => ⟨rfl, I.turned (t' := s.toks) (fun b o hb q => eb b o hb q) f0 f1 f3 f4 f5⟩
  self := fun A i s Q E st h => let ⟨⟨_, he⟩, _⟩ := st; wpAny_pyIter_enum he h
def iEnumT (K : PySem.W.Frag) (ta : TA) : TI := fun σ H R => ta σ H fun vs H1 => ∃ a xs, vs = [.ref a] ∧ SqT K H1 a xs ∧ R (IteT K a) H1
theorem pi_enumT {X : Cx} {e : Expr} {ta : TA} {p pos tpos : Pos} {elts : List Expr} {kk : Nat} (hg : Gl X "enumerate") (hm : X.mg "enumerate" = none) (ha : PA X [e] ta) (hs : starEach [e] X.env = [(false, eval e X.env)] := by rfl) :
    PI X (.Tuple elts kk tpos) (.Call (.Name "enumerate" p) [e] [] pos) (iEnumT X.K ta) := by
  refine ⟨fun pins s σ H R I h => ?_⟩
  refine Call_ (ld_blt I hg hm boot_enumerate (PyProof.Rows.callWith_type1 (thn (ha.run pos pins s σ H _ I h) fun us s1 ⟨vs, H1, I1, r1, q1⟩ => ?_) hs rfl))
  obtain ⟨a, xs, rfl, hq, q⟩ := q1
  cases r1 with
  | cons r rr =>
    cases rr
    cases r
    obtain ⟨its, rv, p', hz⟩ := I1.tuple hq
    have al : a < s1.heap.objs.size := by obtain ⟨o, ho, _⟩ := p'; exact Heap.lt_size ho
    refine call_enum_tup (show s1.heap.IsTuple a its.toArray from p') fun h' he hit hk => wpAny_pyIter_enum he ?_
    have I2 : Inv X pins σ H1 { s1 with heap := h' } := I1.kept (t' := s1.toks) hk
    refine ⟨s1.heap.objs.size + 1, [s1.heap.objs.size + 1, s1.heap.objs.size], _, _, H1, rfl, I2, turn_enumT a (s1.heap.objs.size + 1) s1.heap.objs.size, ⟨⟨.none, he⟩, hit, Nat.succ_ne_self _, Nat.ne_of_lt al, Nat.ne_of_lt (Nat.lt_succ_of_lt al)⟩, fun b hb => ?_, q⟩
    have hle : s1.heap.objs.size ≤ b := by
      rcases (show b = s1.heap.objs.size + 1 ∨ b = s1.heap.objs.size by simpa using hb) with z | z
      · rw [z]
        exact Nat.le_succ _
      · rw [z]
        exact Nat.le_refl _
    exact I1.fpOk hle (I1.hok.fresh hle)
end Qr
set_option Elab.async false
set_option linter.all false
set_option maxRecDepth 100000
set_option maxHeartbeats 4000000
namespace Qr
open PySem PySem.Spec PyProof.Rows L2
/-! ### {k: v for target in iter}, the keys tuples -/
section
variable {X : Cx} {pins : List (Addr × Obj)} {σ : L2.St} {H : Hp} {s : Shared} {E : Value → Shared → Prop}
theorem dictSetT {D b : Addr} {kvs : List (List Key × V)} {k : List Key} {v : V} {r : Value} {Q : Unit → Shared → Prop} {A : Around} (hu : A.units + 1 < cLine) (I : Inv X pins σ H s) (hD : H D = some (.dT kvs)) (hb : H b = some (.tup (k.map kV))) (hz : kvs.length < sizeLine)
    (rv : RelV v r) (h : ∀ s', Inv X pins σ (upd H D (.dT (putK kvs k v))) s' → Q () s') : wpAny (model X.prog X.w) A (dictSet D (.ref b) r) Q E s := by
  obtain ⟨z, hd, xs, rel, dd⟩ := dt_of I.hok hD
  have hx : xs.length ≤ sizeLine := by rw [← Paired.length rel]; exact z
  refine wpAny_dictSet_heap (hsz := hx) (show (tupleKind (mixKind X.prog X.w)).room A from Nat.lt_of_succ_lt hu) (key_of I.hok hb) dd fun h' ⟨o, es, ep, ho, h2, h3, h4, _, h5⟩ hs => h _ ?_
  have hl : (putK kvs k v).length ≤ sizeLine := by have := length_putK kvs k v; omega
  refine d_write I (by rw [hD]; exact True.intro) hs ⟨o, ho⟩ ⟨hl, hd, _, (rel.put k hb rv).keeps fun c ys ec => ?_, o, es, ep, ho, h2, h3, h4, h5⟩
  rw [upd_ne (ne_of ec hD (fun q => nomatch q))]
  exact ec
end
/-- D: the new dict; the i-th turn puts the value under a tuple that is tracked -/
def tDcT (wi : TI) (g : TG) (tk tv : TE) (vs : List Nat) : TE := fun σ H Q => wi σ H fun J H1 => ∀ D, H1 D = none → ∃ W : Nat → Nat → Hp → Prop, (∃ m, W 0 m (upd H1 D (.dT []))) ∧ ∀ i m H, W i m H →
  (J.stop i H ∧ Q (.ref D) H) ∨ (J.go i H ∧ ∃ Nx : Hp → Prop, (∀ H', Nx H' → ∃ m', m' < m ∧ W (i + 1) m' H') ∧ ∀ x H', J.yld i H x H' → g x (wipe σ vs) H' fun σ2 H2 => wipe σ2 vs = wipe σ vs ∧
    tk σ2 H2 fun y H4 => tv σ2 H4 fun z H5 => ∃ kvs k b, y = .ref b ∧ H5 b = some (.tup (k.map kV)) ∧ H5 D = some (.dT kvs) ∧ kvs.length < sizeLine ∧ Nx (upd H5 D (.dT (putK kvs k z))))
section
variable {X : Cx}
theorem pe_dcT {kx vx tg iter : Expr} {scope : Scope} {own : List (Str × Nat)} {pos : Pos} {wi : TI} {g : TG} {tk tv : TE} (hu : X.A.units + 1 < cLine) (hc : X.calm = true) (hN : X.N.Nodup) (hi : PI X tg iter wi) (ok : BlkOk X.N X.env.scope scope own)
    (hg : ∀ (s : Shared) (H : Hp) (C : Addr) (cl : List (Str × Addr)) (fp : List Addr), PG (X.blk s H scope (compEnvC scope cl C X.env) fp) tg g)
    (hk : ∀ (s : Shared) (H : Hp) (C : Addr) (cl : List (Str × Addr)) (fp : List Addr), PE (X.blk s H scope (compEnvC scope cl C X.env) fp) kx tk)
    (he : ∀ (s : Shared) (H : Hp) (C : Addr) (cl : List (Str × Addr)) (fp : List Addr), PE (X.blk s H scope (compEnvC scope cl C X.env) fp) vx tv) (hs : ∀ x, foldedSetIterable iter X.env x = pure x := by intro _; rfl) :
    PE X (.DictComp kx vx [⟨tg, iter, [], 0⟩] scope pos) (tDcT wi g tk tv (own.map (·.2))) := by
  refine ⟨fun pins s σ H Q I hw => ?_⟩
  rw [arm_eval_DictComp]
  have free : ∀ y ∈ scope.names, y.2 = .free → ∃ c, X.env.cells.lookup y.1 = some c := fun y hy e => (ok.free y hy e).elim (fun k => I.ok.has _ (.inl k)) fun k => I.ok.has _ (.inr k)
  refine wpAny_comprehension_free (use := none) rfl hs (closure_ok free) ok.kind (fun y hy e => by rw [ok.uniq y hy, e]) (thn (hi.run pins s σ H _ I hw) fun xv s1 hx => thn hx fun itv s2 h2 => ?_)
  obtain ⟨it, fp, tn, J, Ha, rfl, Ia, T, sta, fa, q⟩ := h2
  refine wpAny_newObj_type (newEnv_comp ?_)
  -- the new dict, at D
  generalize hDe : s2.heap.objs.size = D
  have hDn : Ha D = none := Ia.hok.fresh (Nat.le_of_eq hDe)
  obtain ⟨W, ⟨m0, w0⟩, turn⟩ := q D hDn
  generalize hsb : ({ s2 with heap := s2.heap.push { cls := .type "dict", data := .dict #[] } } : Shared) = sb
  have hbh : sb.heap = s2.heap.push { cls := .type "dict", data := .dict #[] } := by rw [← hsb]
  have old : ∀ b o, s2.heap.get? b = some o → sb.heap.get? b = some o := fun b o e => by
    rw [hbh]
    exact Heap.get?_push_of_some _ e
  have Ib : Inv X pins σ (upd Ha D (.dT [])) sb := by
    rw [← hsb]
    refine Ia.laid (t' := s2.toks) (fun b o e => Heap.get?_push_of_some _ e) (Nat.le_of_eq hDe) ?_
    rw [← hDe]
    exact dt_empty s2.heap Ia.big
  have small : ∀ b ∈ fp, b < s2.heap.objs.size := fun b hb => let ⟨o, e, _⟩ := T.obj _ _ sta b hb; Heap.lt_size e
  have fb : ∀ b ∈ fp, FpOk X pins (upd Ha D (.dT [])) b ∧ b < sb.heap.objs.size := fun b hb => by
    refine ⟨⟨?_, (fa b hb).2⟩, by rw [hbh, Heap.size_push]; exact Nat.lt_succ_of_lt (small b hb)⟩
    rw [upd_ne (by rw [← hDe]; exact Nat.ne_of_lt (small b hb))]
    exact (fa b hb).1
  have stb : tn 0 sb.heap := T.keep _ _ _ sta fun b _ o e => old b o e
  have Ic := block_start Ib ok hN fb
  have pg := hg sb (upd Ha D (.dT [])) sb.heap.objs.size (cellsFrom (sb.heap.objs.size + 1) scope.names (cloFrom X.env.cells scope.names [])) fp
  have pk := hk sb (upd Ha D (.dT [])) sb.heap.objs.size (cellsFrom (sb.heap.objs.size + 1) scope.names (cloFrom X.env.cells scope.names [])) fp
  have pv := he sb (upd Ha D (.dT [])) sb.heap.objs.size (cellsFrom (sb.heap.objs.size + 1) scope.names (cloFrom X.env.cells scope.names [])) fp
  have nfb : ∀ b ∈ fp, (upd Ha D (.dT [])) b = none := fun b hb => (fb b hb).1.1
  show codeAny _ _ (.compStart (.DictComp kx vx [⟨tg, iter, [], 0⟩] scope pos) 0 (.ref it) (.ref D) (compEnvC scope (cellsFrom (sb.heap.objs.size + 1) scope.names (cloFrom X.env.cells scope.names [])) sb.heap.objs.size X.env)) (compPost (model X.prog X.w) X.A X.xe none (EP X pins σ Q) (.ref D) sb.heap.objs.size) { sb with heap := pushCells (sb.heap.push { cls := .type "dict", data := .dict #[] }) scope.names }
  generalize hce : compEnvC scope (cellsFrom (sb.heap.objs.size + 1) scope.names (cloFrom X.env.cells scope.names [])) sb.heap.objs.size X.env = ce at Ic pg pk pv ⊢
  have cl : ce.locals = sb.heap.objs.size := by rw [← hce]; rfl
  generalize hHb : upd Ha D (.dT []) = Hb at Ib Ic pg pk pv w0 nfb fb
  generalize hsc : ({ sb with heap := pushCells (sb.heap.push { cls := .type "dict", data := .dict #[] }) scope.names } : Shared) = sc at Ic ⊢
  have stc : tn 0 sc.heap := T.keep _ _ _ stb fun b _ o e => by
    rw [← hsc]
    exact pushCells_keeps _ _ _ _ (Heap.get?_push_of_some _ e)
  let Y : Cx := X.blk sb Hb scope ce fp
  have fpY : ∀ {σ' : L2.St} {H' : Hp} {s' : Shared}, Inv Y [] σ' H' s' → (∀ b ∈ fp, H' b = none) → ∀ b ∈ fp, FpOk Y [] H' b := fun {σ' H' s'} I' hn b hb =>
    ⟨hn b hb, (I'.ok.exf b hb).1, I'.ok.exfs b hb, .inl hb, fun x c e => (I'.ok.exf b hb).2 x c e, fun p hp => absurd (show p ∈ ([] : List (Addr × Obj)) ++ [] from hp) (by simp)⟩
  have loop : codeAny (model X.prog X.w) X.A (.compLoop (.DictComp kx vx [⟨tg, iter, [], 0⟩] scope pos) 0 (.ref it) (.ref D) ce) (compPost (model X.prog X.w) X.A X.xe none (EP X pins σ Q) (.ref D) sb.heap.objs.size) sc := by
    refine compLoop_anyD (fun n s' => ∃ i H', Inv Y [] (wipe σ (own.map (·.2))) H' s' ∧ tn i s'.heap ∧ (∀ b ∈ fp, H' b = none) ∧ W i n H') ?_ m0 ⟨0, Hb, Ic, stc, nfb, w0⟩
    rintro n s5 ⟨i, H5, I5, st5, n5, w5⟩
    rcases turn i n H5 w5 with ⟨stop, qq⟩ | ⟨go, Nx, hNx, step⟩
    · -- the end of the walk: back in the def
      refine thnF (T.done Y rfl rfl rfl hc i [] s5 _ H5 (fun _ _ => False) I5 (fpY I5 n5) st5 stop) fun r s6 ⟨hr, I6⟩ => ?_
      subst hr
      have I7 : Inv X pins σ H5 s6 := Ib.call' (ch := fp) I6.os I6.base I6.hok I6.bare fun b hb => ⟨(fb b hb).1.2.2.2.1, (fb b hb).1.2.1, (fb b hb).1.2.2.2.2.1, (fb b hb).1.2.2.2.2.2⟩
      have nC : H5 sb.heap.objs.size = none := by
        rw [← cl]
        exact I6.free
      obtain ⟨m, hn, _⟩ := I6.loc
      have hn : s6.heap.Ns ce.locals m := hn
      rw [cl] at hn
      refine ⟨m, hn, fun h'' sbt => ?_⟩
      obtain ⟨f0, f1, f2, f3, f4, f5⟩ := Ib.fpOk (Nat.le_refl _) nC
      exact ⟨.ref D, H5, I7.turned (t' := s6.toks) (fun b o hb e => (sbt.2 b hb).trans e) f0 f1 f3 f4 f5, rfl, qq⟩
    · -- a turn
      refine thnF (T.item Y rfl rfl rfl hc i [] s5 _ H5 (fun _ _ => False) I5 (fpY I5 n5) st5 go) fun r s6 ⟨u, hr, h6⟩ => ?_
      subst hr
      refine thnF h6 fun _ s7 ⟨x, H7, I7, r7, y7, st7, n7⟩ => ?_
      refine thnF (pg.run _ s7 _ H7 x u _ (I7.pinned (fpY I7 n7) (T.obj _ _ st7)) r7 (step x H7 y7)) fun _ s8 ⟨σ8, H8, I8, hw8, q8⟩ => ?_
      refine wpAny_tests_nil ?_
      rw [if_pos rfl]
      refine thnF (pk.run _ s8 σ8 H8 _ I8 q8) fun z s10 ⟨yk, H10, I10, r10, q10⟩ => ?_
      refine thnF (pv.run _ s10 σ8 H10 _ I10 q10) fun z2 s11 ⟨yv, H11, I11, r11, kvs, k, b, ek, hb11, hD11, hz11, nx⟩ => ?_
      subst ek
      cases (show z = Value.ref b from r10)
      refine dictSetT (X := Y) hu I11 hD11 hb11 hz11 r11 fun s12 I12 => ?_
      obtain ⟨m', hm, w'⟩ := hNx _ nx
      have pin' : ∀ b ∈ fp, ∀ o, s7.heap.get? b = some o → s12.heap.get? b = some o ∧ (upd H11 D (.dT (putK kvs k yv))) b = none := fun b hb o e =>
        let z := I12.pin (b, o) (List.mem_append_right _ (List.mem_append_right _ (mem_pinsAt hb e)))
        ⟨z.1, z.2.1⟩
      refine ⟨m', hm, i + 1, _, (I12.unpinned (pins := [])).weak (by rw [← hw8, wipe_length]) (fun j v e => ?_), T.keep _ _ _ st7 fun b hb o e => (pin' b hb o e).1, fun b hb => ?_, w'⟩
      · rw [← hw8] at e
        exact (wipe_some e).1
      · obtain ⟨o, e, _⟩ := T.obj _ _ st7 b hb
        exact (pin' b hb o e).2
  exact codeAny_compStart_dict loop (T.self X.A 0 _ _ _ stc loop)
end
end Qr
set_option Elab.async false
set_option linter.all false
set_option maxRecDepth 100000
set_option maxHeartbeats 4000000
namespace Qr
open PySem PySem.Spec PyProof.Rows L2
open Sem (wp)
open AutoSeq1 (wpAny_loadPart')
theorem tuple_mul1 (l : Addr) (items : Array Value) (n : Nat) (dd : Option Addr) (sl : Array (Option Value)) (u : Tok) :
    Meets (Builtin.«tuple.__mul__» ⟨[.ref l, .int 1 u], []⟩) (fun _ R s => s.heap.get? l = some { cls := .type "tuple", dict := dd, data := .seq items n, slots := sl } ∧ R (.ok (.ret (Value.ref l))) s) :=
  .of_wp fun prog w A R s h => by
    obtain ⟨hp, g, d, tk, os⟩ := s
    obtain ⟨hl, h⟩ := h
    have f1 := AutoSeq1.idx_int
    wp_walk using wpAny_loadPart' hl
    exact ⟨_, rfl, h⟩
/-- t * k, t not empty, 1 ≤ k: once is the tuple itself -/
def rRepA (K : PySem.W.Frag) : R2 := fun x y H Q => ∃ l k xs, x = .ref l ∧ y = .int k ∧ SqT K H l xs ∧ xs ≠ [] ∧ 1 ≤ k ∧ k ≤ 1000 ∧ xs.length ≤ 1000 ∧ (k = 1 → Q (.ref l) H) ∧ (k ≠ 1 → ∀ p, H p = none → Q (.ref p) (upd H p (.tup (List.replicate k.toNat xs).flatten)))
theorem op_repA {X : Cx} : OpR X (binaryOp .Mult) (rRepA X.K) := by
  rintro pins s σ H x y v u Q I rx ry ⟨l, k, xs, rfl, rfl, hT, hne, h1, h2, hz, q1, q2⟩
  by_cases hk : k = 1
  · subst hk
    cases rx
    obtain ⟨t, rfl⟩ := ry
    obtain ⟨its, r, ⟨⟨cls, dd, data, sl⟩, ho, hc, n, hd⟩, hs⟩ := I.tuple hT
    simp only at hc hd
    subst hc hd
    exact wpAny_binaryOp_repeat_ref (T := "tuple") (U := "int") (by decide) ⟨_, ho, rfl⟩ (fun s' => typeIs_int s' 1 t) noFill_tuple_mul F.fills_int_mul F.slot_int_rmul repeat_tuple F.slot_int_index.lookup
      (call_meets F.slot_int_rmul (typeIs_int s 1 t) F.entry_int_rmul (F.args_int_rmul_2 _ _) (int_rmul_tuple 1 t l its.toArray n dd sl)
        ⟨ho, rfl, ⟨_, ho, rfl⟩, call_meets F.slot_tuple_mul ⟨_, ho, rfl⟩ F.entry_tuple_mul (F.args_tuple_mul_2 _ _) (tuple_mul1 l its.toArray n dd sl t) ⟨ho, ⟨.ref l, H, I, rfl, q1 rfl⟩⟩⟩)
  · exact op_repT pins s σ H (.ref l) (.int k) v u Q I rx ry ⟨l, k, xs, rfl, rfl, hT, hne, by omega, h2, hz, q2 hk⟩
end Qr
set_option Elab.async false
set_option linter.all false
set_option maxRecDepth 100000
set_option maxHeartbeats 4000000
/-! Types over the readings: what an expression, a statement gives where nothing but new objects is written. -/
namespace Qt
open PySem PySem.Spec PyProof.Rows L2 Qr
/-! ### predicates of values that live on while the heap grows -/
structure Pd where
  p : V → Hp → Prop
  st : ∀ {v : V} {H H' : Hp}, Same H H' → p v H → p v H'
def AllP : List Pd → List V → Hp → Prop
  | [], [], _ => True
  | P :: Ps, v :: vs, H => P.p v H ∧ AllP Ps vs H
  | _, _, _ => False
theorem AllP.st : ∀ {Ps : List Pd} {vs : List V} {H H' : Hp}, Same H H' → AllP Ps vs H → AllP Ps vs H'
  | [], [], _, _, _, h => h
  | P :: Ps, v :: vs, _, _, s, h => ⟨P.st s h.1, AllP.st s h.2⟩
  | [], _ :: _, _, _, _, h => h.elim
  | _ :: _, [], _, _, _, h => h.elim
theorem AllP.length : ∀ {Ps : List Pd} {vs : List V} {H : Hp}, AllP Ps vs H → vs.length = Ps.length
  | [], [], _, _ => rfl
  | P :: Ps, v :: vs, _, h => congrArg Nat.succ (AllP.length h.2)
  | [], _ :: _, _, h => h.elim
  | _ :: _, [], _, h => h.elim
theorem AllP.get : ∀ {Ps : List Pd} {vs : List V} {H : Hp} {i : Nat} {P : Pd}, AllP Ps vs H → Ps[i]? = some P → ∃ v, vs[i]? = some v ∧ P.p v H
  | [], [], _, i, P, _, e => by simp at e
  | Q :: Ps, v :: vs, H, 0, P, h, e => by
    have e2 : Q = P := Option.some.inj e
    subst e2
    exact ⟨v, rfl, h.1⟩
  | Q :: Ps, v :: vs, H, i + 1, P, h, e => by
    obtain ⟨u, a, b⟩ := AllP.get (i := i) (P := P) h.2 (by simpa using e)
    exact ⟨u, by simpa using a, b⟩
  | [], _ :: _, _, _, _, h, _ => h.elim
  | _ :: _, [], _, _, _, h, _ => h.elim
theorem AllP.append : ∀ {Ps Qs : List Pd} {vs ws : List V} {H : Hp}, AllP Ps vs H → AllP Qs ws H → AllP (Ps ++ Qs) (vs ++ ws) H
  | [], Qs, [], ws, _, _, h => h
  | P :: Ps, Qs, v :: vs, ws, H, h, q => ⟨h.1, AllP.append h.2 q⟩
  | [], _, _ :: _, _, _, h, _ => h.elim
  | _ :: _, _, [], _, _, h, _ => h.elim
theorem AllP.take : ∀ {Ps : List Pd} {vs : List V} {H : Hp} (n : Nat), AllP Ps vs H → AllP (Ps.take n) (vs.take n) H
  | [], [], _, n, h => by simpa using h
  | P :: Ps, v :: vs, H, 0, h => trivial
  | P :: Ps, v :: vs, H, n + 1, h => ⟨h.1, AllP.take n h.2⟩
  | [], _ :: _, _, _, h => h.elim
  | _ :: _, [], _, _, h => h.elim
theorem AllP.drop : ∀ {Ps : List Pd} {vs : List V} {H : Hp} (n : Nat), AllP Ps vs H → AllP (Ps.drop n) (vs.drop n) H
  | [], [], _, n, h => by simpa using h
  | P :: Ps, v :: vs, H, 0, h => h
  | P :: Ps, v :: vs, H, n + 1, h => AllP.drop n h.2
  | [], _ :: _, _, _, h => h.elim
  | _ :: _, [], _, _, h => h.elim
theorem AllP.reverse : ∀ {Ps : List Pd} {vs : List V} {H : Hp}, AllP Ps vs H → AllP Ps.reverse vs.reverse H
  | [], [], _, h => h
  | P :: Ps, v :: vs, H, h => by
    rw [List.reverse_cons, List.reverse_cons]
    exact AllP.append (AllP.reverse h.2) ⟨h.1, trivial⟩
  | [], _ :: _, _, h => h.elim
  | _ :: _, [], _, h => h.elim
theorem AllP.imp {α : Type} {f g : α → Pd} {H : Hp} (h : ∀ a v, (f a).p v H → (g a).p v H) : ∀ {l : List α} {vs : List V}, AllP (l.map f) vs H → AllP (l.map g) vs H
  | [], [], x => x
  | a :: l, v :: vs, x => ⟨h a v x.1, AllP.imp h (l := l) x.2⟩
  | [], _ :: _, x => x.elim
  | _ :: _, [], x => x.elim
theorem AllP.of_get : ∀ {Ps : List Pd} {vs : List V} {H : Hp}, vs.length = Ps.length → (∀ (i : Nat) (P : Pd) (v : V), Ps[i]? = some P → vs[i]? = some v → P.p v H) → AllP Ps vs H
  | [], [], _, _, _ => trivial
  | P :: Ps, v :: vs, H, e, h => ⟨h 0 P v rfl rfl, AllP.of_get (Nat.succ.inj e) fun i Q w a b => h (i + 1) Q w (by simpa using a) (by simpa using b)⟩
  | [], _ :: _, _, e, _ => nomatch e
  | _ :: _, [], _, e, _ => nomatch e

def valP (v : V) : Pd := ⟨fun x _ => x = v, fun _ h => h⟩
abbrev nonP : Pd := valP .non
abbrev blP (b : Bool) : Pd := valP (.bl b)
abbrev intP (i : Int) : Pd := valP (.int i)
abbrev strP (x : Str) : Pd := valP (.str x)
def tupP (Ps : List Pd) : Pd := ⟨fun v H => ∃ a xs, v = .ref a ∧ H a = some (.tup xs) ∧ AllP Ps xs H, fun s ⟨a, xs, e, h, q⟩ => ⟨a, xs, e, s _ _ h, q.st s⟩⟩
def lstP (Ps : List Pd) : Pd := ⟨fun v H => ∃ a xs, v = .ref a ∧ H a = some (.lst xs) ∧ AllP Ps xs H, fun s ⟨a, xs, e, h, q⟩ => ⟨a, xs, e, s _ _ h, q.st s⟩⟩
def exP {α : Type} (f : α → Pd) : Pd := ⟨fun v H => ∃ a, (f a).p v H, fun s ⟨a, h⟩ => ⟨a, (f a).st s h⟩⟩
def orP (P Q : Pd) : Pd := ⟨fun v H => P.p v H ∨ Q.p v H, fun s h => h.elim (fun x => .inl (P.st s x)) fun x => .inr (Q.st s x)⟩
def andP (c : Prop) (P : Pd) : Pd := ⟨fun v H => c ∧ P.p v H, fun s h => ⟨h.1, P.st s h.2⟩⟩
def anyP : Pd := ⟨fun _ _ => True, fun _ _ => trivial⟩
/-- none, or .. -/
def optP {α : Type} (o : Option α) (f : α → Pd) : Pd := match o with
  | none => nonP
  | some a => f a
/-- weaker -/
def Le (P Q : Pd) : Prop := ∀ v H, P.p v H → Q.p v H
theorem Le.refl (P : Pd) : Le P P := fun _ _ h => h
theorem Le.of_eq {P Q : Pd} (h : P = Q) : Le P Q := h ▸ Le.refl P

/-! ### letters, and dicts whose keys are letters -/
def wd (o : Bool) : Str := if o = true then "out" else "back"
def ltK (l : Qd.Lt) : List Key := [.inr (wd l.1), .inl (l.2 : Int)]
def ltP (l : Qd.Lt) : Pd := tupP [strP (wd l.1), intP (l.2 : Int)]
def DctAll (ls : List Qd.Lt) (f : Qd.Lt → Pd) (kvs : List (List Key × V)) (H : Hp) : Prop := kvs.map (·.1) = ls.map ltK ∧ AllP (ls.map f) (kvs.map (·.2)) H
theorem DctAll.st {ls : List Qd.Lt} {f : Qd.Lt → Pd} {kvs : List (List Key × V)} {H H' : Hp} (s : Same H H') (h : DctAll ls f kvs H) : DctAll ls f kvs H' := ⟨h.1, h.2.st s⟩
/-! ### what is seen -/
open Classical in
noncomputable def vis (W : Addr → Prop) (H : Hp) : Hp := fun b => if W b then none else H b
theorem vis_some {W : Addr → Prop} {H : Hp} {b : Addr} {u : HO} : vis W H b = some u ↔ ¬ W b ∧ H b = some u := by
  unfold vis
  by_cases h : W b
  · rw [if_pos h]
    exact ⟨fun q => (nomatch q), fun q => absurd h q.1⟩
  · rw [if_neg h]
    exact ⟨fun q => ⟨h, q⟩, fun q => q.2⟩
theorem vis_sub (W : Addr → Prop) (H : Hp) : Same (vis W H) H := fun _ _ h => (vis_some.mp h).2
theorem vis_mono {W W' : Addr → Prop} {H H' : Hp} (hw : ∀ b u, ¬ W b → H b = some u → ¬ W' b) (h : ∀ b u, ¬ W b → H b = some u → H' b = some u) : Same (vis W H) (vis W' H') := fun b u q => by
  obtain ⟨q1, q2⟩ := vis_some.mp q
  exact vis_some.mpr ⟨hw b u q1 q2, h b u q1 q2⟩
/-- the law's source: its numbers, the place, what is left, the state -/
def SrcAt (H : Hp) (a : Addr) : Prop := ∃ (q : Addr) (od : Obj) (ns : List Int) (pos cur st : Int), H a = some (.lst [.ref q, .int pos, .int cur, .int st]) ∧ H q = some (.frz od (.lst (ns.map V.int))) ∧ 0 ≤ pos ∧ 0 ≤ st ∧ st < 2147483648
theorem SrcAt.st {H H' : Hp} {a : Addr} (s : Same H H') : SrcAt H a → SrcAt H' a := fun ⟨q, od, ns, p, c, t, h1, h2, r⟩ => ⟨q, od, ns, p, c, t, s _ _ h1, s _ _ h2, r⟩
/-- another thing, which is no locked one, is written -/
theorem SrcAt.upd {H : Hp} {a p : Addr} {u o : HO} (ha : a ≠ p) (hp : H p = some u) (hu : ∀ od x, u ≠ .frz od x) : SrcAt H a → SrcAt (L2.upd H p o) a := fun ⟨q, od, ns, p1, c, t, h1, h2, r⟩ =>
  ⟨q, od, ns, p1, c, t, (upd_ne ha).trans h1, (upd_ne (fun z => by
    rw [z, hp] at h2
    exact hu _ _ (Option.some.inj h2))).trans h2, r⟩
/-- the heap's move: all stands but the source, which stays a source -/
structure Mv (so : Option Addr) (H H' : Hp) : Prop where
  keep : ∀ b u, so ≠ some b → H b = some u → H' b = some u
  src : ∀ b, so = some b → SrcAt H b → SrcAt H' b
theorem Mv.same {so : Option Addr} {H H' : Hp} (s : Same H H') : Mv so H H' := ⟨fun b u _ h => s b u h, fun b _ h => h.st s⟩
theorem Mv.refl {so : Option Addr} {H : Hp} : Mv so H H := .same (Same.refl H)
theorem Mv.trans {so : Option Addr} {H H1 H2 : Hp} (a : Mv so H H1) (b : Mv so H1 H2) : Mv so H H2 := ⟨fun c u n h => b.keep c u n (a.keep c u n h), fun c e h => b.src c e (a.src c e h)⟩
theorem same_new {H : Hp} {p : Addr} {o : HO} (h : H p = none) : Same H (upd H p o) := fun b u e => by
  rw [upd_ne (ne_of_none e h)]
  exact e
/-- what is hidden stands, and is no tuple -/
def Tr (W : Addr → Prop) (H : Hp) : Prop := ∀ b, W b → ∃ u, H b = some u ∧ ∀ xs, u ≠ .tup xs
/-! ### the state -/
structure Ctx where
  sl : List (Option Pd)
  own : Option (Nat × List Pd) := none
  dic : Option (Nat × List Qd.Lt × (Qd.Lt → Pd)) := none
def hid (Z O : Addr → Prop) : Addr → Prop := fun b => Z b ∨ O b
def none' : Addr → Prop := fun _ => False
structure Sta (so : Option Addr) (Z : Addr → Prop) (V0 : Hp) (O : Addr → Prop) (Γ : Ctx) (σ : L2.St) (H : Hp) : Prop where
  v0 : ∀ b u, V0 b = some u → H b = some u ∧ so ≠ some b ∧ ¬ O b
  sz : ∀ b, so = some b → Z b
  tr : Tr (hid Z O) H
  sr : ∀ b, so = some b → SrcAt H b
  len : σ.length = Γ.sl.length
  sl : ∀ (i : Nat) (P : Pd), Γ.sl[i]? = some (some P) → ∃ v, σ[i]? = some (some v) ∧ P.p v (vis (hid Z O) H)
  ow : ∀ (i : Nat) (Ps : List Pd), Γ.own = some (i, Ps) → ∃ p xs, σ[i]? = some (some (.ref p)) ∧ O p ∧ ¬ Z p ∧ H p = some (.lst xs) ∧ AllP Ps xs (vis (hid Z O) H)
  dc : ∀ (i : Nat) (ls : List Qd.Lt) (f : Qd.Lt → Pd), Γ.dic = some (i, ls, f) → ∃ p kvs, σ[i]? = some (some (.ref p)) ∧ O p ∧ ¬ Z p ∧ H p = some (.dT kvs) ∧ DctAll ls f kvs (vis (hid Z O) H)
section
variable {so : Option Addr} {Z : Addr → Prop} {V0 : Hp} {O : Addr → Prop} {Γ : Ctx} {σ : L2.St} {H H' : Hp}
theorem Sta.grow (S : Sta so Z V0 O Γ σ H) (m : Mv so H H') : Same (vis (hid Z O) H) (vis (hid Z O) H') :=
  vis_mono (fun _ _ h _ => h) fun b u h e => m.keep b u (fun z => h (.inl (S.sz b z))) e
theorem Sta.mv (S : Sta so Z V0 O Γ σ H) (m : Mv so H H') : Sta so Z V0 O Γ σ H' where
  v0 := fun b u e => let ⟨a, c, d⟩ := S.v0 b u e; ⟨m.keep b u c a, c, d⟩
  sz := S.sz
  tr := fun b h => by
    obtain ⟨u, e, n⟩ := S.tr b h
    by_cases z : so = some b
    · obtain ⟨q, od, ns, p, c, t, h1, _⟩ := m.src b z (S.sr b z)
      exact ⟨_, h1, fun xs z => nomatch z⟩
    · exact ⟨u, m.keep b u z e, n⟩
  sr := fun b z => m.src b z (S.sr b z)
  len := S.len
  sl := fun i P e => let ⟨v, a, b⟩ := S.sl i P e; ⟨v, a, P.st (S.grow m) b⟩
  ow := fun i Ps e => let ⟨p, xs, a, b, c, d, f⟩ := S.ow i Ps e; ⟨p, xs, a, b, c, m.keep p _ (fun z => c (S.sz p z)) d, f.st (S.grow m)⟩
  dc := fun i ls g e => let ⟨p, xs, a, b, c, d, f⟩ := S.dc i ls g e; ⟨p, xs, a, b, c, m.keep p _ (fun z => c (S.sz p z)) d, f.st (S.grow m)⟩
theorem Sta.new (S : Sta so Z V0 O Γ σ H) {p : Addr} (h : H p = none) : ¬ hid Z O p := fun z => by
  obtain ⟨u, e, _⟩ := S.tr p z
  rw [h] at e
  cases e
/-- a slot is set -/
theorem Sta.set (S : Sta so Z V0 O Γ σ H) {j : Nat} {x : V} {P : Pd} (hj : j < Γ.sl.length) (hx : P.p x (vis (hid Z O) H)) (ho : ∀ i Ps, Γ.own = some (i, Ps) → i ≠ j) (hd : ∀ i d, Γ.dic = some (i, d) → i ≠ j) : Sta so Z V0 O { Γ with sl := Γ.sl.set j (some P) } (σ.set j (some x)) H where
  v0 := S.v0
  sz := S.sz
  tr := S.tr
  sr := S.sr
  len := by simpa using S.len
  sl := fun i Q e => by
    have e : (Γ.sl.set j (some P))[i]? = some (some Q) := e
    by_cases h : i = j
    · subst h
      rw [List.getElem?_set_self hj] at e
      have e2 : P = Q := Option.some.inj (Option.some.inj e)
      subst e2
      exact ⟨x, List.getElem?_set_self (by rw [S.len]; exact hj), hx⟩
    · rw [List.getElem?_set_ne (Ne.symm h)] at e
      rw [List.getElem?_set_ne (Ne.symm h)]
      exact S.sl i Q e
  ow := fun i Ps e => by
    obtain ⟨p, xs, a, b⟩ := S.ow i Ps e
    refine ⟨p, xs, ?_, b⟩
    rw [List.getElem?_set_ne (Ne.symm (ho i Ps e))]
    exact a
  dc := fun i ls f e => by
    obtain ⟨p, xs, a, b⟩ := S.dc i ls f e
    refine ⟨p, xs, ?_, b⟩
    rw [List.getElem?_set_ne (Ne.symm (hd i (ls, f) e))]
    exact a
/-- a context that says less -/
structure CLe (Γ Γ' : Ctx) : Prop where
  len : Γ'.sl.length = Γ.sl.length
  sl : ∀ (i : Nat) (P : Pd), Γ'.sl[i]? = some (some P) → ∃ Q, Γ.sl[i]? = some (some Q) ∧ Le Q P
  ow : ∀ i Ps, Γ'.own = some (i, Ps) → ∃ Qs, Γ.own = some (i, Qs) ∧ ∀ xs H, AllP Qs xs H → AllP Ps xs H
  dc : ∀ d, Γ'.dic = some d → Γ.dic = some d
theorem Sta.le {Γ' : Ctx} (S : Sta so Z V0 O Γ σ H) (h : CLe Γ Γ') : Sta so Z V0 O Γ' σ H where
  v0 := S.v0
  sz := S.sz
  tr := S.tr
  sr := S.sr
  len := by rw [h.len]; exact S.len
  sl := fun i P e => by
    obtain ⟨Q, e2, l⟩ := h.sl i P e
    obtain ⟨v, a, b⟩ := S.sl i Q e2
    exact ⟨v, a, l _ _ b⟩
  ow := fun i Ps e => by
    obtain ⟨Qs, e2, l⟩ := h.ow i Ps e
    obtain ⟨p, xs, a, b, c, d, f⟩ := S.ow i Qs e2
    exact ⟨p, xs, a, b, c, d, l _ _ f⟩
  dc := fun i ls f e => S.dc i ls f (h.dc _ e)
/-- the owned list is given to all to see -/
theorem Sta.pub (S : Sta so Z V0 O Γ σ H) {i : Nat} {Ps : List Pd} (e : Γ.own = some (i, Ps)) (hi : i < Γ.sl.length) : ∃ O', Sta so Z V0 O' ⟨Γ.sl.set i (some (lstP Ps)), none, Γ.dic⟩ σ H := by
  obtain ⟨p, xs, a, b, c, d, f⟩ := S.ow i Ps e
  have sub : Same (vis (hid Z O) H) (vis (hid Z fun b => O b ∧ b ≠ p) H) := vis_mono (fun b u h _ z => h (z.elim .inl fun y => .inr y.1)) fun b u h e => e
  refine ⟨fun b => O b ∧ b ≠ p, ⟨fun b u e => ?_, S.sz, fun b h => S.tr b (h.elim .inl fun y => .inr y.1), S.sr, by simpa using S.len, fun j P ej => ?_, fun j Ps ej => (nomatch ej), fun j ls g ej => ?_⟩⟩
  · obtain ⟨x, y, z⟩ := S.v0 b u e
    exact ⟨x, y, fun q => z q.1⟩
  · have ej : (Γ.sl.set i (some (lstP Ps)))[j]? = some (some P) := ej
    by_cases h : j = i
    · subst h
      rw [List.getElem?_set_self hi] at ej
      have e2 : lstP Ps = P := Option.some.inj (Option.some.inj ej)
      subst e2
      exact ⟨_, a, p, xs, rfl, vis_some.mpr ⟨fun z => z.elim c fun y => y.2 rfl, d⟩, f.st sub⟩
    · rw [List.getElem?_set_ne (Ne.symm h)] at ej
      obtain ⟨v, q1, q2⟩ := S.sl j P ej
      exact ⟨v, q1, P.st sub q2⟩
  · obtain ⟨p2, kvs, q1, q2, q3, q4, q5⟩ := S.dc j ls g ej
    refine ⟨p2, kvs, q1, ⟨q2, fun z => ?_⟩, q3, q4, q5.st sub⟩
    rw [z, d] at q4
    cases q4
/-- the heap that is kept from here on -/
noncomputable def here (so : Option Addr) (O : Addr → Prop) (H : Hp) : Hp := vis (fun b => so = some b ∨ O b) H
theorem Sta.rebase (S : Sta so Z V0 O Γ σ H) : Sta so Z (here so O H) O Γ σ H := { S with v0 := fun b u e => let ⟨a, c⟩ := vis_some.mp e; ⟨c, fun z => a (.inl z), fun z => a (.inr z)⟩ }
theorem Sta.back {O' : Addr → Prop} {Γ' : Ctx} {σ' : L2.St} (S : Sta so Z V0 O Γ σ H) (S' : Sta so Z (here so O H) O' Γ' σ' H') : Sta so Z V0 O' Γ' σ' H' :=
  { S' with v0 := fun b u e => let ⟨a, c, d⟩ := S.v0 b u e; S'.v0 b u (vis_some.mpr ⟨fun z => z.elim c d, a⟩) }
theorem Sta.seen {O' : Addr → Prop} {Γ' : Ctx} {σ' : L2.St} (S : Sta so Z V0 O Γ σ H) (S' : Sta so Z (here so O H) O' Γ' σ' H') : Same (vis (hid Z O) H) (vis (hid Z O') H') := fun b u e => by
  obtain ⟨h1, h2⟩ := vis_some.mp e
  obtain ⟨a, _, d⟩ := S'.v0 b u (vis_some.mpr ⟨fun z => z.elim (fun q => h1 (.inl (S.sz b q))) fun q => h1 (.inr q), h2⟩)
  exact vis_some.mpr ⟨fun z => z.elim (fun q => h1 (.inl q)) d, a⟩
end
/-! ### judgements -/
def Ev (so : Option Addr) (te : TE) (Γ : Ctx) (P : Pd) : Prop := ∀ (Z : Addr → Prop) (V0 : Hp) (O : Addr → Prop) (σ : L2.St) (H : Hp) (Q : VK), Sta so Z V0 O Γ σ H → (∀ v H', Mv so H H' → P.p v (vis (hid Z O) H') → Q v H') → te σ H Q
def EvT (so : Option Addr) (tt : TT) (Γ : Ctx) (b : Bool) : Prop := ∀ (Z : Addr → Prop) (V0 : Hp) (O : Addr → Prop) (σ : L2.St) (H : Hp) (Q : Bool → Hp → Prop), Sta so Z V0 O Γ σ H → (∀ H', Mv so H H' → Q b H') → tt σ H Q
def EvA (so : Option Addr) (ta : TA) (Γ : Ctx) (Ps : List Pd) : Prop := ∀ (Z : Addr → Prop) (V0 : Hp) (O : Addr → Prop) (σ : L2.St) (H : Hp) (Q : List V → Hp → Prop), Sta so Z V0 O Γ σ H → (∀ vs H', Mv so H H' → AllP Ps vs (vis (hid Z O) H') → Q vs H') → ta σ H Q
/-- a slice's bound -/
def EvO (so : Option Addr) (to : TO) (Γ : Ctx) (o : Option Int) : Prop := ∀ (Z : Addr → Prop) (V0 : Hp) (O : Addr → Prop) (σ : L2.St) (H : Hp) (Q : Option Int → Hp → Prop), Sta so Z V0 O Γ σ H → (∀ H', Mv so H H' → Q o H') → to σ H Q
/-- statements: N what may stand behind them, R what they may hand back -/
def EvS (so : Option Addr) (ts : TS) (Γ : Ctx) (N : Ctx → Prop) (R : Pd) : Prop := ∀ (Z : Addr → Prop) (V0 : Hp) (O : Addr → Prop) (σ : L2.St) (H : Hp) (D : Ends), Sta so Z V0 O Γ σ H →
  (∀ Γ' O' σ' H', N Γ' → Sta so Z V0 O' Γ' σ' H' → D.nx σ' H') →
  (∀ v H', (∀ b u, V0 b = some u → H' b = some u) → (∀ b, so = some b → SrcAt H' b) → R.p v (vis Z H') → D.rt v H') → ts D σ H
/-- an iterator that gives values of these kinds, while what was seen at its making stands -/
structure Wk (J : It) (Ps : List Pd) (V1 : Hp) : Prop where
  go : ∀ (i : Nat) (H : Hp), i < Ps.length → Same V1 H → J.go i H
  stop : ∀ H : Hp, Same V1 H → J.stop Ps.length H
  yld : ∀ (i : Nat) (H : Hp) (x : V) (H' : Hp) (W : Addr → Prop), i < Ps.length → Same V1 (vis W H) → Tr W H → J.yld i H x H' → Same H H' ∧ ∃ P, Ps[i]? = some P ∧ P.p x (vis W H')
def EvI (so : Option Addr) (wi : TI) (Γ : Ctx) (Ps : List Pd) : Prop := ∀ (Z : Addr → Prop) (V0 : Hp) (O : Addr → Prop) (σ : L2.St) (H : Hp) (R : It → Hp → Prop), Sta so Z V0 O Γ σ H → (∀ J H', Mv so H H' → Wk J Ps (vis (hid Z O) H') → R J H') → wi σ H R
/-- a target takes a value of the kind P; is: the slots it sets -/
def EvG (so : Option Addr) (g : TG) (P : Pd) (Γ Γ' : Ctx) (is : List Nat) : Prop := ∀ (Z : Addr → Prop) (V0 : Hp) (O : Addr → Prop) (σ : L2.St) (H : Hp) (x : V) (Q : L2.St → Hp → Prop), Sta so Z V0 O Γ σ H → P.p x (vis (hid Z O) H) →
  (∀ σ', Sta so Z V0 O Γ' σ' H → (∀ vs : List Nat, (∀ i ∈ is, i ∈ vs) → wipe σ' vs = wipe σ vs) → Q σ' H) → g x σ H Q
section
variable {so : Option Addr} {Γ : Ctx} {ta tb te : TE} {P P' Q R : Pd}
theorem Ev.le (h : Ev so te Γ P) (l : Le P Q) : Ev so te Γ Q := fun Z V0 O σ H K S k => h Z V0 O σ H K S fun v H' m p => k v H' m (l v _ p)
theorem Ev.eq (h : Ev so te Γ P) (l : P = Q) : Ev so te Γ Q := l ▸ h
theorem EvT.eq {tt : TT} {b c : Bool} (h : EvT so tt Γ b) (l : b = c) : EvT so tt Γ c := l ▸ h
theorem ev_val {v : V} : Ev so (tC v) Γ (valP v) := fun Z V0 O σ H K S k => k v H .refl rfl
theorem ev_var {i : Nat} (h : Γ.sl[i]? = some (some P)) : Ev so (tVar i) Γ P := fun Z V0 O σ H K S k => by
  obtain ⟨v, a, b⟩ := S.sl i P h
  exact ⟨v, a, k v H .refl b⟩
/-- two in a row -/
theorem ev_op {r : R2} (ha : Ev so ta Γ P) (hb : Ev so tb Γ Q) (hr : ∀ x y (W : Addr → Prop) H K, Tr W H → P.p x (vis W H) → Q.p y (vis W H) → (∀ v H', Same H H' → R.p v (vis W H') → K v H') → r x y H K) : Ev so (tOp r ta tb) Γ R :=
  fun Z V0 O σ H K S k => ha Z V0 O σ H _ S fun x H1 m1 p1 => hb Z V0 O σ H1 _ (S.mv m1) fun y H2 m2 p2 =>
    hr x y (hid Z O) H2 K (((S.mv m1).mv m2).tr) (P.st ((S.mv m1).grow m2) p1) p2 fun v H3 s3 p3 => k v H3 ((m1.trans m2).trans (.same s3)) p3
theorem ev_un {r : V → Hp → VK → Prop} (ha : Ev so ta Γ P) (hr : ∀ x (W : Addr → Prop) H K, Tr W H → P.p x (vis W H) → (∀ v H', Same H H' → R.p v (vis W H') → K v H') → r x H K) : Ev so (tUn r ta) Γ R :=
  fun Z V0 O σ H K S k => ha Z V0 O σ H _ S fun x H1 m1 p1 => hr x (hid Z O) H1 K (S.mv m1).tr p1 fun v H2 s p => k v H2 (m1.trans (.same s)) p
theorem ea_nil : EvA so tNil Γ [] := fun Z V0 O σ H K S k => k [] H .refl trivial
theorem ea_cons {t : TA} {Ps : List Pd} (ha : Ev so te Γ P) (hr : EvA so t Γ Ps) : EvA so (tCons te t) Γ (P :: Ps) := fun Z V0 O σ H K S k =>
  ha Z V0 O σ H _ S fun x H1 m1 p1 => hr Z V0 O σ H1 _ (S.mv m1) fun vs H2 m2 p2 => k (x :: vs) H2 (m1.trans m2) ⟨P.st ((S.mv m1).grow m2) p1, p2⟩
/-- a builtin's call -/
theorem ev_cb {r : List V → Hp → VK → Prop} {t : TA} {Ps : List Pd} (ha : EvA so t Γ Ps) (hr : ∀ xs (W : Addr → Prop) H K, Tr W H → AllP Ps xs (vis W H) → (∀ v H', Same H H' → R.p v (vis W H') → K v H') → r xs H K) : Ev so (tCB r t) Γ R :=
  fun Z V0 O σ H K S k => ha Z V0 O σ H _ S fun x H1 m1 p1 => hr x (hid Z O) H1 K (S.mv m1).tr p1 fun v H2 s p => k v H2 (m1.trans (.same s)) p
/-! tests -/
theorem et_val {b : Bool} (h : Ev so te Γ (blP b)) : EvT so (tB te) Γ b := fun Z V0 O σ H K S k => h Z V0 O σ H _ S fun x H1 m p => ⟨b, p, k H1 m⟩
theorem et_test {b : Bool} (h : Ev so te Γ (blP b)) : EvT so (tTest te) Γ b := fun Z V0 O σ H K S k => h Z V0 O σ H _ S fun x H1 m p => ⟨b, p, k H1 m⟩
theorem et_not {t : TT} {b : Bool} (h : EvT so t Γ b) : EvT so (tNot t) Γ (!b) := fun Z V0 O σ H K S k => h Z V0 O σ H _ S k
theorem et_and {t u : TT} {a b : Bool} (h1 : EvT so t Γ a) (h2 : a = true → EvT so u Γ b) : EvT so (tAnd t u) Γ (a && b) := fun Z V0 O σ H K S k => h1 Z V0 O σ H _ S fun H1 m => by
  cases a with
  | true =>
    rw [if_pos rfl]
    exact h2 rfl Z V0 O σ H1 _ (S.mv m) fun H2 m2 => k H2 (m.trans m2)
  | false =>
    rw [if_neg Bool.false_ne_true]
    exact k H1 m
theorem et_or {t u : TT} {a b : Bool} (h1 : EvT so t Γ a) (h2 : a = false → EvT so u Γ b) : EvT so (tOr t u) Γ (a || b) := fun Z V0 O σ H K S k => h1 Z V0 O σ H _ S fun H1 m => by
  cases a with
  | true =>
    rw [if_pos rfl]
    exact k H1 m
  | false =>
    rw [if_neg Bool.false_ne_true]
    exact h2 rfl Z V0 O σ H1 _ (S.mv m) fun H2 m2 => k H2 (m.trans m2)
theorem et_yes : EvT so tYes Γ true := fun Z V0 O σ H K S k => k H .refl
theorem ev_andV {a b : Bool} (h1 : Ev so ta Γ (blP a)) (h2 : a = true → Ev so tb Γ (blP b)) : Ev so (tAndV ta tb) Γ (blP (a && b)) := fun Z V0 O σ H K S k => h1 Z V0 O σ H _ S fun x H1 m p => ⟨a, p, by
  cases a with
  | true =>
    rw [if_pos rfl]
    exact h2 rfl Z V0 O σ H1 _ (S.mv m) fun v H2 m2 p2 => k v H2 (m.trans m2) p2
  | false =>
    rw [if_neg Bool.false_ne_true]
    exact k _ H1 m rfl⟩
theorem ev_orV {a b : Bool} (h1 : Ev so ta Γ (blP a)) (h2 : a = false → Ev so tb Γ (blP b)) : Ev so (tOrV ta tb) Γ (blP (a || b)) := fun Z V0 O σ H K S k => h1 Z V0 O σ H _ S fun x H1 m p => ⟨a, p, by
  cases a with
  | true =>
    rw [if_pos rfl]
    exact k _ H1 m rfl
  | false =>
    rw [if_neg Bool.false_ne_true]
    exact h2 rfl Z V0 O σ H1 _ (S.mv m) fun v H2 m2 p2 => k v H2 (m.trans m2) p2⟩
theorem ev_notV {a : Bool} (h1 : Ev so ta Γ (blP a)) : Ev so (tNotV ta) Γ (blP (!a)) := fun Z V0 O σ H K S k => h1 Z V0 O σ H _ S fun x H1 m p => ⟨a, p, k _ H1 m rfl⟩
theorem ev_if {t : TT} {c : Bool} (hc : EvT so t Γ c) (h1 : c = true → Ev so ta Γ P) (h2 : c = false → Ev so tb Γ P) : Ev so (tIf t ta tb) Γ P := fun Z V0 O σ H K S k => hc Z V0 O σ H _ S fun H1 m => by
  cases c with
  | true =>
    rw [if_pos rfl]
    exact h1 rfl Z V0 O σ H1 _ (S.mv m) fun v H2 m2 p2 => k v H2 (m.trans m2) p2
  | false =>
    rw [if_neg Bool.false_ne_true]
    exact h2 rfl Z V0 O σ H1 _ (S.mv m) fun v H2 m2 p2 => k v H2 (m.trans m2) p2
theorem ev_chain {r r' : R2} {tc : TE} {a b : Bool} (h1 : Ev so ta Γ P) (h2 : Ev so tb Γ P') (h3 : a = true → Ev so tc Γ Q) (hr : ∀ x y H K, P.p x H → P'.p y H → K (.bl a) H → r x y H K) (hr' : a = true → ∀ x y H K, P'.p x H → Q.p y H → K (.bl b) H → r' x y H K) :
    Ev so (tChain r r' ta tb tc) Γ (blP (a && b)) := fun Z V0 O σ H K S k => h1 Z V0 O σ H _ S fun x H1 m1 p1 => h2 Z V0 O σ H1 _ (S.mv m1) fun y H2 m2 p2 => by
  have S2 := (S.mv m1).mv m2
  refine hr x y H2 _ (P.st (vis_sub _ _) (P.st ((S.mv m1).grow m2) p1)) (P'.st (vis_sub _ _) p2) ⟨a, rfl, ?_⟩
  cases a with
  | true =>
    rw [if_pos rfl]
    exact h3 rfl Z V0 O σ H2 _ S2 fun z H3 m3 p3 => hr' rfl y z H3 K (P'.st (vis_sub _ _) (P'.st (S2.grow m3) p2)) (Q.st (vis_sub _ _) p3) (k _ H3 ((m1.trans m2).trans m3) rfl)
  | false =>
    rw [if_neg Bool.false_ne_true]
    exact k _ H2 (m1.trans m2) rfl
/-! displays -/
theorem ev_tup {t : TA} {Ps : List Pd} (h : EvA so t Γ Ps) (hz : Ps.length ≤ sizeLine) : Ev so (tTup t) Γ (tupP Ps) := fun Z V0 O σ H K S k => h Z V0 O σ H _ S fun xs H1 m p =>
  ⟨by rw [p.length]; exact hz, fun q hq => k _ _ (m.trans (.same (same_new hq))) ⟨q, xs, rfl, vis_some.mpr ⟨(S.mv m).new hq, upd_same⟩, p.st ((S.mv m).grow (.same (same_new hq)))⟩⟩
theorem ev_lst {t : TA} {Ps : List Pd} (h : EvA so t Γ Ps) (hz : Ps.length ≤ sizeLine) : Ev so (tLst t) Γ (lstP Ps) := fun Z V0 O σ H K S k => h Z V0 O σ H _ S fun xs H1 m p =>
  ⟨by rw [p.length]; exact hz, fun q hq => k _ _ (m.trans (.same (same_new hq))) ⟨q, xs, rfl, vis_some.mpr ⟨(S.mv m).new hq, upd_same⟩, p.st ((S.mv m).grow (.same (same_new hq)))⟩⟩
end
theorem wipe_in {σ : L2.St} {i : Nat} : ∀ {vs : List Nat}, i ∈ vs → (wipe σ vs)[i]? = if i < σ.length then some none else none
  | [], h => by cases h
  | v :: vs, h => by
    show ((wipe σ vs).set v none)[i]? = _
    by_cases e : v = i
    · subst e
      by_cases hl : v < σ.length
      · rw [if_pos hl, List.getElem?_set_self (by rw [wipe_length]; exact hl)]
      · rw [if_neg hl, List.getElem?_eq_none_iff.mpr (by rw [List.length_set, wipe_length]; omega)]
    · rw [List.getElem?_set_ne e]
      rcases List.mem_cons.mp h with z | z
      · exact absurd z.symm e
      · exact wipe_in z
/-! ### statements -/
section
variable {so : Option Addr} {Γ : Ctx} {te : TE} {P R : Pd} {N M : Ctx → Prop} {t u : TS}
theorem es_mono {N' : Ctx → Prop} {R' : Pd} (h : EvS so t Γ N R) (hn : ∀ Γ', N Γ' → N' Γ') (hr : Le R R') : EvS so t Γ N' R' := fun Z V0 O σ H D S n r => h Z V0 O σ H D S (fun Γ' O' σ' H' q => n Γ' O' σ' H' (hn Γ' q)) fun v H' a b q => r v H' a b (hr _ _ q)
theorem es_seq (h1 : EvS so t Γ M R) (h2 : ∀ Γ', M Γ' → EvS so u Γ' N R) : EvS so (tSeq t u) Γ N R := fun Z V0 O σ H D S n r =>
  h1 Z V0 O σ H _ S (fun Γ' O' σ' H' m S' => h2 Γ' m Z V0 O' σ' H' D S' n r) r
/-- one that ends at one context -/
theorem es_then {Γ' : Ctx} (h1 : EvS so t Γ (fun G => G = Γ') R) (h2 : EvS so u Γ' N R) : EvS so (tSeq t u) Γ N R := es_seq h1 fun G e => e ▸ h2
theorem es_le {Γ' : Ctx} (l : CLe Γ Γ') (h : EvS so t Γ' N R) : EvS so t Γ N R := fun Z V0 O σ H D S n r => h Z V0 O σ H D (S.le l) n r
theorem es_pub {i : Nat} {Ps : List Pd} (e : Γ.own = some (i, Ps)) (hi : i < Γ.sl.length) (h : EvS so t ⟨Γ.sl.set i (some (lstP Ps)), none, Γ.dic⟩ N R) : EvS so t Γ N R := fun Z V0 O σ H D S n r => by
  obtain ⟨O', S'⟩ := S.pub e hi
  exact h Z V0 O' σ H D S' n r
theorem es_ret (h : Ev so te Γ P) (l : Le P R) : EvS so (tRet te) Γ N R := fun Z V0 O σ H D S n r => h Z V0 O σ H _ S fun v H' m p =>
  r v H' (fun b u e => ((S.mv m).v0 b u e).1) (S.mv m).sr (l _ _ (P.st (vis_mono (fun b u h _ z => h (.inl z)) fun b u _ e => e) p))
theorem es_retN (l : Le nonP R) : EvS so tRetN Γ N R := fun Z V0 O σ H D S n r => r .non H (fun b u e => (S.v0 b u e).1) S.sr (l _ _ rfl)
theorem es_retown {i : Nat} {Ps : List Pd} (e : Γ.own = some (i, Ps)) (hi : i < Γ.sl.length) (l : Le (lstP Ps) R) : EvS so (tRet (tVar i)) Γ N R :=
  es_pub e hi (es_ret (ev_var (List.getElem?_set_self hi)) l)
theorem es_set {g : TG} {Γ' : Ctx} {is : List Nat} (h : Ev so te Γ P) (hg : EvG so g P Γ Γ' is) (hn : N Γ') : EvS so (tAsg te g) Γ N R := fun Z V0 O σ H D S n r =>
  h Z V0 O σ H _ S fun v H' m p => hg Z V0 O σ H' v _ (S.mv m) p fun σ' S' _ => n Γ' O σ' H' hn S'
theorem es_drop (h : Ev so te Γ P) (hn : N Γ) : EvS so (tDrop te) Γ N R := fun Z V0 O σ H D S n r => h Z V0 O σ H _ S fun v H' m p => n Γ O σ H' hn (S.mv m)
theorem es_if {tc : TT} {c : Bool} (hc : EvT so tc Γ c) (h1 : c = true → EvS so t Γ N R) (h2 : c = false → EvS so u Γ N R) : EvS so (tIfS tc t u) Γ N R := fun Z V0 O σ H D S n r => hc Z V0 O σ H _ S fun H1 m => by
  cases c with
  | true =>
    rw [if_pos rfl]
    exact h1 rfl Z V0 O σ H1 D (S.mv m) n r
  | false =>
    rw [if_neg Bool.false_ne_true]
    exact h2 rfl Z V0 O σ H1 D (S.mv m) n r
theorem es_next (hn : N Γ) : EvS so tNext Γ N R := fun Z V0 O σ H D S n r => n Γ O σ H hn S
theorem eg_name {i : Nat} (hi : i < Γ.sl.length) (ho : ∀ j Ps, Γ.own = some (j, Ps) → j ≠ i) (hd : ∀ j d, Γ.dic = some (j, d) → j ≠ i) : EvG so (gName i) P Γ { Γ with sl := Γ.sl.set i (some P) } [i] := fun Z V0 O σ H x K S p k => by
  refine k _ (S.set hi p ho hd) fun vs h => ?_
  have hm := h i List.mem_cons_self
  apply List.ext_getElem?
  intro j
  by_cases hj : j ∈ vs
  · rw [wipe_in hj, wipe_in hj, List.length_set]
  · rw [wipe_out hj, wipe_out hj, List.getElem?_set_ne (fun z => hj (by rw [← z]; exact hm))]
end
end Qt
set_option Elab.async false
set_option linter.all false
set_option maxRecDepth 100000
set_option maxHeartbeats 4000000
namespace Qt
open PySem PySem.Spec PyProof.Rows L2 Qr
theorem vis_upd {W : Addr → Prop} {H : Hp} {p : Addr} {o : HO} (h : W p) : vis W (L2.upd H p o) = vis W H := by
  funext b
  unfold vis
  by_cases hb : W b
  · rw [if_pos hb, if_pos hb]
  · rw [if_neg hb, if_neg hb, upd_ne (fun z => hb (by rw [z]; exact h))]
theorem wipe_wipe (σ : L2.St) (vs : List Nat) : wipe (wipe σ vs) vs = wipe σ vs := by
  apply List.ext_getElem?
  intro j
  by_cases hj : j ∈ vs
  · rw [wipe_in hj, wipe_in hj, wipe_length]
  · rw [wipe_out hj]
def Ctx.wipe (Γ : Ctx) (vs : List Nat) : Ctx := ⟨vs.foldr (fun v l => l.set v none) Γ.sl, none, none⟩
theorem cwipe_length (l : List (Option Pd)) : ∀ vs : List Nat, (vs.foldr (fun v l => l.set v none) l).length = l.length
  | [] => rfl
  | v :: vs => by
    show ((vs.foldr (fun v l => l.set v none) l).set v none).length = _
    rw [List.length_set, cwipe_length l vs]
theorem cwipe_some {l : List (Option Pd)} {i : Nat} {P : Pd} : ∀ {vs : List Nat}, (vs.foldr (fun v l => l.set v none) l)[i]? = some (some P) → l[i]? = some (some P) ∧ i ∉ vs
  | [], h => ⟨h, by simp⟩
  | v :: vs, h => by
    have h : ((vs.foldr (fun v l => l.set v none) l).set v none)[i]? = some (some P) := h
    by_cases e : v = i
    · subst e
      rw [List.getElem?_set] at h
      simp at h
    · rw [List.getElem?_set_ne e] at h
      obtain ⟨a, b⟩ := cwipe_some h
      exact ⟨a, by simp only [List.mem_cons, not_or]; exact ⟨fun z => e z.symm, b⟩⟩
section
variable {so : Option Addr} {Z : Addr → Prop} {V0 : Hp} {O : Addr → Prop} {Γ : Ctx} {σ : L2.St} {H H' : Hp}
theorem Sta.wiped (S : Sta so Z V0 O Γ σ H) (vs : List Nat) : Sta so Z V0 O (Γ.wipe vs) (L2.wipe σ vs) H :=
  { S with
    len := by
      rw [wipe_length, S.len]
      exact (cwipe_length _ vs).symm
    sl := fun i P e => by
      obtain ⟨a, b⟩ := cwipe_some e
      obtain ⟨v, c, d⟩ := S.sl i P a
      exact ⟨v, (wipe_out b).trans c, d⟩
    ow := fun i Ps e => nomatch e
    dc := fun i ls f e => nomatch e }
/-- a new list of one's own, which no name holds -/
theorem Sta.alloc (S : Sta so Z V0 O Γ σ H) {p : Addr} (o : HO) (hp : H p = none) (ho : ∀ xs, o ≠ .tup xs := by exact fun _ z => nomatch z) : Sta so Z V0 (fun b => O b ∨ b = p) ⟨Γ.sl, none, none⟩ σ (L2.upd H p o) := by
  have S1 := S.mv (.same (same_new (o := o) hp))
  have nh := S.new hp
  have sub : Same (vis (hid Z O) (L2.upd H p o)) (vis (hid Z O) (L2.upd H p o)) := Same.refl _
  have sub2 : Same (vis (hid Z O) H) (vis (hid Z fun b => O b ∨ b = p) (L2.upd H p o)) := fun b u e => by
    obtain ⟨h1, h2⟩ := vis_some.mp e
    have hb : b ≠ p := ne_of_none h2 hp
    refine vis_some.mpr ⟨fun z => z.elim (fun q => h1 (.inl q)) fun q => q.elim (fun y => h1 (.inr y)) hb, (upd_ne hb).trans h2⟩
  refine ⟨fun b u e => ?_, S.sz, fun b h => ?_, S1.sr, S.len, fun i P e => ?_, fun i Ps e => (nomatch e), fun i ls f e => nomatch e⟩
  · obtain ⟨a, c, d⟩ := S.v0 b u e
    have hb : b ≠ p := ne_of_none a hp
    exact ⟨(upd_ne hb).trans a, c, fun z => z.elim d hb⟩
  · rcases h with h | h | h
    · exact S1.tr b (.inl h)
    · exact S1.tr b (.inr h)
    · exact ⟨o, by rw [h]; exact upd_same, ho⟩
  · obtain ⟨v, a, c⟩ := S.sl i P e
    exact ⟨v, a, P.st sub2 c⟩
/-- an owned thing that no slot tells of is written -/
theorem Sta.write (S : Sta so Z V0 O Γ σ H) (hn : Γ.own = none) (hn2 : Γ.dic = none) {p : Addr} {u : HO} (o : HO) (hO : O p) (hZ : ¬ Z p) (hp : H p = some u) (hu : ∀ od x, u ≠ .frz od x) (ho : ∀ xs, o ≠ .tup xs := by exact fun _ z => nomatch z) : Sta so Z V0 O Γ σ (L2.upd H p o) := by
  have ev : vis (hid Z O) (L2.upd H p o) = vis (hid Z O) H := vis_upd (.inr hO)
  refine ⟨fun b v e => ?_, S.sz, fun b h => ?_, fun b e => ?_, S.len, fun i P e => ?_, fun i Ps e => ?_, fun i ls f e => ?_⟩
  · obtain ⟨a, c, d⟩ := S.v0 b v e
    exact ⟨(upd_ne (fun z => d (by rw [z]; exact hO))).trans a, c, d⟩
  · obtain ⟨v, e, n⟩ := S.tr b h
    by_cases hb : b = p
    · exact ⟨o, by rw [hb]; exact upd_same, ho⟩
    · exact ⟨v, (upd_ne hb).trans e, n⟩
  · exact (S.sr b e).upd (fun z => hZ (by rw [← z]; exact S.sz b e)) hp hu
  · obtain ⟨v, a, c⟩ := S.sl i P e
    exact ⟨v, a, by rw [ev]; exact c⟩
  · rw [hn] at e
    cases e
  · rw [hn2] at e
    cases e
end
/-! ### comprehensions -/
theorem filter_take_succ {α : Type} {l : List α} {c : α → Bool} {i : Nat} {a : α} (h : l[i]? = some a) : (l.take (i + 1)).filter c = (l.take i).filter c ++ (if c a = true then [a] else []) := by
  have e : l.take (i + 1) = l.take i ++ [a] := by
    rw [List.take_add_one, h]
    rfl
  rw [e, List.filter_append]
  congr 1
  cases hc : c a <;> simp [hc]
section
variable {so : Option Addr} {Γ : Ctx} {wi : TI} {g : TG} {tt : TT} {te : TE} {vs : List Nat}
theorem ev_lc {α : Type} (l : List α) (f : α → Pd) (c : α → Bool) (r : α → Pd) {Ps : List Pd} {Γb : α → Ctx} {is : List Nat} (hi : EvI so wi Γ Ps) (hPs : Ps = l.map f) (hz : l.length < sizeLine) (hv : ∀ i ∈ is, i ∈ vs)
    (hg : ∀ a ∈ l, EvG so g (f a) (Γ.wipe vs) (Γb a) is) (ht : ∀ a ∈ l, EvT so tt (Γb a) (c a)) (he : ∀ a ∈ l, c a = true → Ev so te (Γb a) (r a)) : Ev so (tLc wi g tt te vs) Γ (lstP ((l.filter c).map r)) := by
  subst hPs
  intro Z V0 O σ H K S k
  refine hi Z V0 O σ H _ S fun J H1 m1 wk D hD => ?_
  have S1 := S.mv m1
  have hlen : (l.map f).length = l.length := List.length_map f
  let Pv : Nat → Hp → Prop := fun i H2 => ∃ acc : List V, ∃ Γ2 : Ctx, H2 D = some (.lst acc) ∧ Mv so H1 H2 ∧ Γ2 = Γ.wipe vs ∧ Sta so Z (here so O H1) (fun b => O b ∨ b = D) Γ2 (L2.wipe σ vs) H2 ∧ acc.length ≤ i ∧ AllP (((l.take i).filter c).map r) acc (vis (hid Z fun b => O b ∨ b = D) H2)
  have hO : ∀ H2 : Hp, Sta so Z (here so O H1) (fun b => O b ∨ b = D) (Γ.wipe vs) (L2.wipe σ vs) H2 → Same (vis (hid Z O) H1) (vis (hid Z fun b => O b ∨ b = D) H2) := fun H2 S2 => S1.seen S2
  refine ⟨fun i m H2 => m = l.length - i ∧ i ≤ l.length ∧ Pv i H2, ⟨l.length, by simp, Nat.zero_le _, [], Γ.wipe vs, upd_same, .same (same_new hD), rfl, ?_, Nat.le_refl _, by simp [AllP]⟩, ?_⟩
  · exact ((S1.rebase.alloc (.lst []) hD).wiped vs)
  rintro i m H2 ⟨rfl, hle, acc, Γ2, hacc, mv2, rfl, S2, hal, hall⟩
  have vs2 := hO H2 S2
  by_cases hlt : i < l.length
  · refine .inr ⟨wk.go i H2 (by rw [hlen]; exact hlt) (vs2.trans (vis_sub _ _)), fun H3 => l.length - (i + 1) = l.length - (i + 1) ∧ i + 1 ≤ l.length ∧ Pv (i + 1) H3, fun H3 q => ⟨l.length - (i + 1), by omega, q⟩, fun x H3 y => ?_⟩
    obtain ⟨s3, P, eP, px⟩ := wk.yld i H2 x H3 (hid Z fun b => O b ∨ b = D) (by rw [hlen]; exact hlt) vs2 S2.tr y
    rw [List.getElem?_map] at eP
    obtain ⟨a, ea, rfl⟩ := Option.map_eq_some_iff.mp eP
    have ham : a ∈ l := List.mem_of_getElem? ea
    have S3 := S2.mv (.same s3)
    refine hg a ham Z _ _ _ H3 x _ S3 px fun σ4 S4 hw => ⟨(hw vs hv).trans (wipe_wipe σ vs), ?_⟩
    have hDz : ¬ Z D := fun z => S1.new hD (.inl z)
    have hDs : so ≠ some D := fun z => hDz (S1.sz D z)
    have toPv : ∀ (H5 : Hp) (acc' : List V), Mv so H3 H5 → acc'.length ≤ i + 1 → H5 D = some (.lst acc') → Mv so H1 H5 → Sta so Z (here so O H1) (fun b => O b ∨ b = D) (Γ.wipe vs) (L2.wipe σ vs) H5 → AllP (((l.take (i + 1)).filter c).map r) acc' (vis (hid Z fun b => O b ∨ b = D) H5) → l.length - (i + 1) = l.length - (i + 1) ∧ i + 1 ≤ l.length ∧ Pv (i + 1) H5 :=
      fun H5 acc' m5 hz5 h5 m15 S5 p5 => ⟨rfl, by omega, acc', _, h5, m15, rfl, S5, hz5, p5⟩
    refine ht a ham Z _ _ σ4 H3 _ S4 fun H5 m5 => ?_
    have h3D : H3 D = some (.lst acc) := s3 D _ hacc
    cases hc : c a with
    | true =>
      rw [if_pos rfl]
      refine he a ham hc Z _ _ σ4 H5 _ (S4.mv m5) fun y H6 m6 py => ?_
      have m36 := m5.trans m6
      have S6 := S3.mv m36
      have h6 : H6 D = some (.lst acc) := m36.keep D _ hDs h3D
      refine ⟨acc, h6, by omega, ?_⟩
      have ev : vis (hid Z fun b => O b ∨ b = D) (upd H6 D (.lst (acc ++ [y]))) = vis (hid Z fun b => O b ∨ b = D) H6 := vis_upd (.inr (.inr rfl))
      refine ⟨rfl, by omega, acc ++ [y], _, upd_same, ?_, rfl, S6.write rfl rfl _ (.inr rfl) hDz h6 (fun _ _ => fun z => nomatch z), by simpa using hal, ?_⟩
      · have mm := (mv2.trans (.same s3)).trans m36
        refine ⟨fun b u hb e => ?_, fun b e hs => ?_⟩
        · rw [upd_ne (ne_of_none e hD)]
          exact mm.keep b u hb e
        · exact (mm.src b e hs).upd (fun z => hDs (by rw [← z]; exact e)) h6 (fun _ _ => fun z => nomatch z)
      · rw [filter_take_succ ea, hc, if_pos rfl, List.map_append, ev]
        exact AllP.append (hall.st (vis_mono (fun _ _ h _ => h) fun b u h e => m36.keep b u (fun z => h (.inl (S2.sz b z))) (s3 b u e))) ⟨py, trivial⟩
    | false =>
      rw [if_neg Bool.false_ne_true]
      have h5 : H5 D = some (.lst acc) := m5.keep D _ hDs h3D
      refine ⟨rfl, by omega, acc, _, h5, (mv2.trans (.same s3)).trans m5, rfl, S3.mv m5, by omega, ?_⟩
      rw [filter_take_succ ea, hc, if_neg Bool.false_ne_true, List.append_nil]
      exact hall.st (vis_mono (fun _ _ h _ => h) fun b u h e => m5.keep b u (fun z => h (.inl (S2.sz b z))) (s3 b u e))
  · have e : i = l.length := by omega
    subst e
    refine .inl ⟨by have := wk.stop H2 (vs2.trans (vis_sub _ _)); rwa [hlen] at this, ?_⟩
    refine k _ H2 (m1.trans mv2) ⟨D, acc, rfl, vis_some.mpr ⟨S1.new hD, hacc⟩, ?_⟩
    rw [List.take_length] at hall
    exact hall.st (vis_mono (fun b u h _ z => h (z.elim .inl fun q => .inr (.inl q))) fun b u _ e => e)
/-- all of them -/
theorem ev_lc0 {α : Type} (l : List α) (f : α → Pd) (r : α → Pd) {Ps : List Pd} {Γb : α → Ctx} {is : List Nat} (hi : EvI so wi Γ Ps) (hPs : Ps = l.map f) (hz : l.length < sizeLine) (hv : ∀ i ∈ is, i ∈ vs)
    (hg : ∀ a ∈ l, EvG so g (f a) (Γ.wipe vs) (Γb a) is) (he : ∀ a ∈ l, Ev so te (Γb a) (r a)) : Ev so (tLc wi g tYes te vs) Γ (lstP (l.map r)) := by
  have z := ev_lc l f (fun _ => true) r hi hPs hz hv hg (fun a h => et_yes) fun a h _ => he a h
  have e : l.filter (fun _ => true) = l := List.filter_eq_self.mpr fun _ _ => rfl
  rw [e] at z
  exact z
/-! ### for -/
theorem es_for {Ps : List Pd} {tb : TS} {N : Ctx → Prop} {R : Pd} (I : Nat → Ctx → Prop) (hi : EvI so wi Γ Ps) (h0 : I 0 Γ)
    (hb : ∀ (i : Nat) (P : Pd) (Γi : Ctx), Ps[i]? = some P → I i Γi → ∃ Γb is, EvG so g P Γi Γb is ∧ EvS so tb Γb (I (i + 1)) R) (hn : ∀ Γ', I Ps.length Γ' → N Γ') : EvS so (tFor wi g tb) Γ N R := by
  intro Z V0 O σ H D S n r
  refine hi Z V0 O σ H _ S fun J H1 m1 wk => ?_
  have S1 := S.mv m1
  refine ⟨fun i m σ' H' => m = Ps.length - i ∧ i ≤ Ps.length ∧ ∃ Γ' O', I i Γ' ∧ Sta so Z (here so O H1) O' Γ' σ' H', ⟨Ps.length, by simp, Nat.zero_le _, Γ, O, h0, S1.rebase⟩, ?_⟩
  rintro i m σ2 H2 ⟨rfl, hle, Γ2, O2, hI, S2⟩
  have vs2 := S1.seen S2
  by_cases hlt : i < Ps.length
  · refine .inr ⟨wk.go i H2 hlt (vs2.trans (vis_sub _ _)), fun σ' H' => Ps.length - (i + 1) = Ps.length - (i + 1) ∧ i + 1 ≤ Ps.length ∧ ∃ Γ' O', I (i + 1) Γ' ∧ Sta so Z (here so O H1) O' Γ' σ' H', fun σ' H' q => ⟨Ps.length - (i + 1), by omega, q⟩, fun x H3 y => ?_⟩
    obtain ⟨s3, P, eP, px⟩ := wk.yld i H2 x H3 _ hlt vs2 S2.tr y
    have S3 := S2.mv (.same s3)
    obtain ⟨Γb, is, hg, hs⟩ := hb i P Γ2 eP hI
    refine hg Z _ _ σ2 H3 x _ S3 px fun σ4 S4 _ => ?_
    refine hs Z _ _ σ4 H3 _ S4 (fun Γ' O' σ' H' hI' S' => ⟨rfl, by omega, Γ', O', hI', S'⟩) fun v H' a b p => ?_
    refine r v H' (fun c u e => ?_) b p
    obtain ⟨q1, q2, q3⟩ := S1.v0 c u e
    exact a c u (vis_some.mpr ⟨fun z => z.elim q2 q3, q1⟩)
  · have e : i = Ps.length := by omega
    subst e
    exact .inl ⟨wk.stop H2 (vs2.trans (vis_sub _ _)), n Γ2 O2 σ2 H2 (hn Γ2 hI) (S1.back S2)⟩
end
/-! ### a list of one's own -/
section
variable {so : Option Addr} {Γ : Ctx} {te : TE} {P R : Pd} {N : Ctx → Prop}
theorem Sta.toown {Z : Addr → Prop} {V0 : Hp} {O : Addr → Prop} {σ : L2.St} {H : Hp} (S : Sta so Z V0 O Γ σ H) {i : Nat} (hi : i < Γ.sl.length) {p : Addr} {xs : List V} {Ps : List Pd} (ho : O p) (hz : ¬ Z p) (hp : H p = some (.lst xs)) (ha : AllP Ps xs (vis (hid Z O) H)) (hd : Γ.dic = none) :
    Sta so Z V0 O ⟨Γ.sl.set i none, some (i, Ps), none⟩ (σ.set i (some (.ref p))) H :=
  { S with
    len := by simpa using S.len
    sl := fun j P e => by
      have e : (Γ.sl.set i none)[j]? = some (some P) := e
      by_cases h : j = i
      · subst h
        rw [List.getElem?_set_self hi] at e
        cases e
      · rw [List.getElem?_set_ne (Ne.symm h)] at e
        rw [List.getElem?_set_ne (Ne.symm h)]
        exact S.sl j P e
    ow := fun j Qs e => by
      have e2 : (i, Ps) = (j, Qs) := Option.some.inj e
      injection e2 with e3 e4
      subst e3 e4
      exact ⟨p, xs, List.getElem?_set_self (by rw [S.len]; exact hi), ho, hz, hp, ha⟩
    dc := fun j ls f e => nomatch e }
/-- x = [] -/
theorem es_new {i : Nat} (hi : i < Γ.sl.length) (hn : N ⟨Γ.sl.set i none, some (i, []), none⟩) : EvS so (tAsg (tLst tNil) (gName i)) Γ N R := fun Z V0 O σ H D S n r =>
  ⟨Nat.zero_le _, fun p hp => n _ _ _ _ hn ((S.alloc (.lst []) hp).toown hi (.inr rfl) (fun z => S.new hp (.inl z)) upd_same trivial rfl)⟩
/-- x, y = ([], e) -/
theorem es_par1 {i j : Nat} (hi : i < Γ.sl.length) (hj : j < Γ.sl.length) (hij : i ≠ j) (he : Ev so te ⟨Γ.sl, none, none⟩ P) (hn : N ⟨(Γ.sl.set i none).set j (some P), some (i, []), none⟩) : EvS so (tPar i j (tCons (tLst tNil) (tCons te tNil))) Γ N R := fun Z V0 O σ H D S n r =>
  ⟨Nat.zero_le _, fun p hp => he Z V0 _ σ _ _ (S.alloc (.lst []) hp) fun v H2 m pv => ⟨_, _, rfl, by
    have S1 := (S.alloc (.lst []) hp).mv m
    have nz : ¬ Z p := fun z => S.new hp (.inl z)
    have h2 : H2 p = some (.lst []) := m.keep p _ (fun z => nz (S.sz p z)) upd_same
    have S2 := S1.toown (Ps := []) hi (.inr rfl) nz h2 trivial rfl
    exact n _ _ _ _ hn (S2.set (by simpa using hj) pv (fun k Ps e => by
      have e2 : (i, ([] : List Pd)) = (k, Ps) := Option.some.inj e
      injection e2 with e3
      rw [← e3]
      exact hij) fun _ _ e => (nomatch e))⟩⟩
/-- x, y = (e, []) -/
theorem es_par2 {i j : Nat} (hi : i < Γ.sl.length) (hj : j < Γ.sl.length) (hij : i ≠ j) (he : Ev so te ⟨Γ.sl, none, none⟩ P) (hn : N ⟨(Γ.sl.set i (some P)).set j none, some (j, []), none⟩) : EvS so (tPar i j (tCons te (tCons (tLst tNil) tNil))) Γ N R := fun Z V0 O σ H D S n r =>
  he Z V0 _ σ _ _ (S.le ⟨rfl, fun i P e => ⟨P, e, Le.refl P⟩, fun _ _ e => (nomatch e), fun _ e => nomatch e⟩) fun v H1 m pv => ⟨Nat.zero_le _, fun p hp => ⟨_, _, rfl, by
    have S0 : Sta so Z V0 O ⟨Γ.sl, none, none⟩ σ H := S.le ⟨rfl, fun i P e => ⟨P, e, Le.refl P⟩, fun _ _ e => (nomatch e), fun _ e => nomatch e⟩
    have S1 := (S0.mv m).set (P := P) hi pv (fun _ _ e => nomatch e) fun _ _ e => nomatch e
    have S2 := S1.alloc (.lst []) hp
    exact n _ _ _ _ hn (S2.toown (by simpa using hj) (.inr rfl) (fun z => (S0.mv m).new hp (.inl z)) upd_same trivial rfl)⟩⟩
theorem Sta.append {Z : Addr → Prop} {V0 : Hp} {O : Addr → Prop} {σ : L2.St} {H : Hp} (S : Sta so Z V0 O Γ σ H) {i : Nat} {Ps : List Pd} (e : Γ.own = some (i, Ps)) {y : V} (hy : P.p y (vis (hid Z O) H)) {p : Addr} {xs : List V} (hσ : σ[i]? = some (some (.ref p))) (hp : H p = some (.lst xs)) (hO : O p) (hZ : ¬ Z p)
    (ha : AllP Ps xs (vis (hid Z O) H)) : Sta so Z V0 O ⟨Γ.sl, some (i, Ps ++ [P]), Γ.dic⟩ σ (upd H p (.lst (xs ++ [y]))) := by
  have S0 : Sta so Z V0 O ⟨Γ.sl, none, none⟩ σ H := S.le ⟨rfl, fun i P e => ⟨P, e, Le.refl P⟩, fun _ _ e => (nomatch e), fun _ e => nomatch e⟩
  have S1 := S0.write rfl rfl (.lst (xs ++ [y])) hO hZ hp fun _ _ z => nomatch z
  have ev : vis (hid Z O) (upd H p (.lst (xs ++ [y]))) = vis (hid Z O) H := vis_upd (.inr hO)
  refine { S1 with ow := fun j Qs e => ?_, dc := fun j ls f e => ?_ }
  rotate_left
  · obtain ⟨p2, kvs, a, b, c, d, q⟩ := S.dc j ls f e
    refine ⟨p2, kvs, a, b, c, (upd_ne (fun z => ?_)).trans d, by rw [ev]; exact q⟩
    rw [z, hp] at d
    cases d
  have e2 : (i, Ps ++ [P]) = (j, Qs) := Option.some.inj e
  injection e2 with e3 e4
  subst e3 e4
  refine ⟨p, _, hσ, hO, hZ, upd_same, ?_⟩
  rw [ev]
  exact AllP.append ha ⟨hy, trivial⟩
theorem es_append {K : PySem.W.Frag} {i : Nat} {Ps : List Pd} (e : Γ.own = some (i, Ps)) (hz : Ps.length < sizeLine) (he : Ev so te Γ P) (hn : N ⟨Γ.sl, some (i, Ps ++ [P]), Γ.dic⟩) : EvS so (tDrop (tBM K "list" rAppend (tVar i) (tCons te tNil))) Γ N R := fun Z V0 O σ H D S n r => by
  obtain ⟨p, xs, hσ, hO, hZ, hp, ha⟩ := S.ow i Ps e
  refine ⟨.ref p, hσ, ?_, ?_⟩
  · exact .inl ⟨rfl, xs, .inl (.inl hp)⟩
  · refine he Z V0 O σ H _ S fun y H1 m py => ?_
    have S1 := S.mv m
    have h1 : H1 p = some (.lst xs) := m.keep p _ (fun z => hZ (S.sz p z)) hp
    exact ⟨p, xs, y, rfl, rfl, h1, by rw [ha.length]; exact hz, n _ _ _ _ hn (S1.append e py hσ h1 hO hZ (ha.st (S.grow m)))⟩
end
end Qt
set_option Elab.async false
set_option linter.all false
set_option maxRecDepth 100000
set_option maxHeartbeats 4000000
namespace Qt
open PySem PySem.Spec PyProof.Rows L2 Qr
/-! ### values that are data -/
class AsD (P : Pd) (d : outParam PyData) : Prop where
  ok : ∀ (K : PySem.W.Frag) (v : V) (H : Hp), P.p v H → Dp K H v d
class AsDs (Ps : List Pd) (ds : outParam (List PyData)) : Prop where
  ok : ∀ (K : PySem.W.Frag) (vs : List V) (H : Hp), AllP Ps vs H → DpAll K H vs ds
instance : AsD (valP .non) .none := ⟨fun K v H e => by
  obtain rfl : v = .non := e
  exact .non⟩
instance {b : Bool} : AsD (valP (.bl b)) (.bool b) := ⟨fun K v H e => by
  obtain rfl : v = .bl b := e
  exact .bl b⟩
instance {i : Int} : AsD (valP (.int i)) (.int i) := ⟨fun K v H e => by
  obtain rfl : v = .int i := e
  exact .int i⟩
instance {x : Str} : AsD (valP (.str x)) (.str x) := ⟨fun K v H e => by
  obtain rfl : v = .str x := e
  exact .str x⟩
instance {Ps : List Pd} {ds : List PyData} [h : AsDs Ps ds] : AsD (tupP Ps) (.tuple ds) := ⟨fun K v H ⟨a, xs, e, h1, h2⟩ => by
  subst e
  exact .tup (.inl (.inl h1)) (h.ok K xs H h2)⟩
instance {Ps : List Pd} {ds : List PyData} [h : AsDs Ps ds] : AsD (lstP Ps) (.list ds) := ⟨fun K v H ⟨a, xs, e, h1, h2⟩ => by
  subst e
  exact .lst (.inl (.inl h1)) (h.ok K xs H h2)⟩
instance : AsDs [] [] := ⟨fun K vs H h => by
  cases vs with
  | nil => exact .nil
  | cons _ _ => exact h.elim⟩
instance {P : Pd} {Ps : List Pd} {d : PyData} {ds : List PyData} [h : AsD P d] [hs : AsDs Ps ds] : AsDs (P :: Ps) (d :: ds) := ⟨fun K vs H x => by
  cases vs with
  | nil => exact x.elim
  | cons v r => exact .cons (h.ok K v H x.1) (hs.ok K r H x.2)⟩
theorem asDs_map {α : Type} {f : α → Pd} {g : α → PyData} (h : ∀ a, AsD (f a) (g a)) : ∀ l : List α, AsDs (l.map f) (l.map g)
  | [] => ⟨fun K vs H x => by
    cases vs with
    | nil => exact .nil
    | cons _ _ => exact x.elim⟩
  | a :: l => ⟨fun K vs H x => by
    cases vs with
    | nil => exact x.elim
    | cons v r => exact .cons ((h a).ok K v H x.1) ((asDs_map h l).ok K r H x.2)⟩
instance {α : Type} {f : α → Pd} {g : α → PyData} [h : ∀ a, AsD (f a) (g a)] {l : List α} : AsDs (l.map f) (l.map g) := asDs_map h l
def ltD (l : Qd.Lt) : PyData := .tuple [.str (wd l.1), .int (l.2 : Int)]
instance {l : Qd.Lt} : AsD (ltP l) (ltD l) := ⟨fun K v H x => (inferInstance : AsD (tupP [strP (wd l.1), intP (l.2 : Int)]) _).ok K v H x⟩
theorem wd_inj {a b : Bool} (h : wd a = wd b) : a = b := by
  cases a <;> cases b <;> first | rfl | exact absurd h (by decide +kernel)
theorem eqv_lt (a b : Qd.Lt) : PyData.eqv (ltD a) (ltD b) = decide (a = b) := by
  obtain ⟨a1, a2⟩ := a
  obtain ⟨b1, b2⟩ := b
  show ((wd a1 == wd b1) && (((a2 : Int) == (b2 : Int)) && true)) = _
  by_cases h : (a1, a2) = (b1, b2)
  · injection h with h1 h2
    subst h1 h2
    simp
  · rw [decide_eq_false h, Bool.and_true]
    by_cases h1 : a1 = b1
    · have h2 : ¬ a2 = b2 := fun z => h (by rw [h1, z])
      have e : ((a2 : Int) == (b2 : Int)) = false := beq_eq_false_iff_ne.mpr (by omega)
      rw [e, Bool.and_false]
    · have e : (wd a1 == wd b1) = false := beq_eq_false_iff_ne.mpr fun z => h1 (wd_inj z)
      rw [e, Bool.false_and]
theorem any_lt (g : List Qd.Lt) (l : Qd.Lt) : ((g.map ltD).any fun z => PyData.eqv z (ltD l)) = decide (l ∈ g) := by
  rw [Bool.eq_iff_iff, List.any_eq_true, decide_eq_true_eq]
  refine ⟨fun ⟨x, hx, e⟩ => ?_, fun h => ⟨ltD l, List.mem_map.mpr ⟨l, h, rfl⟩, by rw [eqv_lt]; exact decide_eq_true rfl⟩⟩
  obtain ⟨q, hq, rfl⟩ := List.mem_map.mp hx
  rw [eqv_lt] at e
  rw [← of_decide_eq_true e]
  exact hq
/-! shapes -/
theorem shaped_lt (l : Qd.Lt) : SeqAt.shaped (ltD l) = true := by
  obtain ⟨o, n⟩ := l
  cases o <;> (show (PyData.canLay0 _ && decide (PyData.depth _ ≤ 64)) = true) <;> simp [ltD, PyData.canLay0, PyData.canLayAll0, wd, PyData.depth, PyData.depthAll] <;> decide +kernel
theorem canLayAll_of {ds : List PyData} (h : ∀ d ∈ ds, d.canLay0 = true) : PyData.canLayAll0 ds = true := by
  induction ds with
  | nil => rfl
  | cons d ds ih =>
    show (d.canLay0 && PyData.canLayAll0 ds) = true
    rw [h d List.mem_cons_self, ih fun x hx => h x (List.mem_cons_of_mem _ hx)]
    rfl
def Sh (k : Nat) (d : PyData) : Prop := d.canLay0 = true ∧ d.depth ≤ k
theorem Sh.ok {k : Nat} {d : PyData} (h : Sh k d) (hk : k ≤ 32 := by decide) : SeqAt.shaped d = true := Bool.and_eq_true_iff.mpr ⟨h.1, decide_eq_true (by have := h.2; omega)⟩
theorem Sh.up {k n : Nat} {d : PyData} (h : Sh k d) (hk : k ≤ n) : Sh n d := ⟨h.1, Nat.le_trans h.2 hk⟩
theorem sh_int {k : Nat} {i : Int} : Sh k (.int i) := ⟨rfl, Nat.zero_le _⟩
theorem sh_bl {k : Nat} {b : Bool} : Sh k (.bool b) := ⟨rfl, Nat.zero_le _⟩
theorem sh_non {k : Nat} : Sh k .none := ⟨rfl, Nat.zero_le _⟩
theorem sh_str {k : Nat} {x : Str} (h : PyData.canLay0 (.str x) = true := by decide +kernel) : Sh k (.str x) := ⟨h, Nat.zero_le _⟩
theorem depthAll_of {k : Nat} {ds : List PyData} (h : ∀ d ∈ ds, d.depth ≤ k) : PyData.depthAll ds ≤ k := by
  induction ds with
  | nil => exact Nat.zero_le _
  | cons d ds ih => exact Nat.max_le.mpr ⟨h d List.mem_cons_self, ih fun x hx => h x (List.mem_cons_of_mem _ hx)⟩
theorem sh_tup {k : Nat} {ds : List PyData} (h : ∀ d ∈ ds, Sh k d) : Sh (k + 1) (.tuple ds) := ⟨canLayAll_of fun d hd => (h d hd).1, Nat.succ_le_succ (depthAll_of fun d hd => (h d hd).2)⟩
theorem sh_lst {k : Nat} {ds : List PyData} (h : ∀ d ∈ ds, Sh k d) : Sh (k + 1) (.list ds) := ⟨canLayAll_of fun d hd => (h d hd).1, Nat.succ_le_succ (depthAll_of fun d hd => (h d hd).2)⟩
theorem sh_wd {k : Nat} (o : Bool) : Sh k (.str (wd o)) := by
  cases o
  · exact sh_str
  · exact sh_str
theorem sh_lt (l : Qd.Lt) : Sh 1 (ltD l) := sh_tup fun d hd => by
  rcases List.mem_cons.mp hd with e | hd
  · rw [e]
    exact sh_wd l.1
  · rw [List.mem_singleton.mp hd]
    exact sh_int
theorem sh_lts (g : List Qd.Lt) : Sh 2 (.list (g.map ltD)) := sh_lst fun d hd => by
  obtain ⟨l, _, rfl⟩ := List.mem_map.mp hd
  exact sh_lt l
/-! ### readings that take several kinds -/
abbrev rAddU (K : PySem.W.Frag) : R2 := fun x y H Q => rI0 (fun i j => .int (i + j)) x y H Q ∨ (rCat x y H Q ∨ rCatA K x y H Q)
abbrev rMulU (K : PySem.W.Frag) : R2 := fun x y H Q => rI CMul (fun i j => .int (i * j)) x y H Q ∨ rRepA K x y H Q
abbrev rInU (K : PySem.W.Frag) : R2 := fun x y H Q => rInD K x y H Q ∨ rInT K x y H Q
abbrev rNotInU (K : PySem.W.Frag) : R2 := fun x y H Q => rNotInD K x y H Q ∨ rNotInT K x y H Q
abbrev rIxU (K : PySem.W.Frag) : R2 := fun x y H Q => rIxL K x y H Q ∨ (rIxT K x y H Q ∨ rIxD x y H Q)
abbrev rSlU (K : PySem.W.Frag) : V → Option Int → Option Int → Hp → VK → Prop := fun x lo hi H Q => rSlL K x lo hi H Q ∨ rSlA K x lo hi H Q
abbrev rLenU (K : PySem.W.Frag) : List V → Hp → VK → Prop := fun xs H Q => (∃ x n, xs = [x] ∧ LenV K x H n ∧ Q (.int n) H) ∨ rLenD xs H Q
section
variable {X : Cx}
theorem callR_or {f : Value} {r r' : List V → Hp → VK → Prop} (h : CallR X f r) (h' : CallR X f r') : CallR X f (fun xs H Q => r xs H Q ∨ r' xs H Q) := by
  intro pins s σ H xs us Q I rv q
  rcases q with q | q
  · exact h pins s σ H xs us Q I rv q
  · exact h' pins s σ H xs us Q I rv q
theorem op_addU : OpR X (binaryOp .Add) (rAddU X.K) := op_add.or (op_cat.or op_catA)
theorem op_mulU : OpR X (binaryOp .Mult) (rMulU X.K) := op_mul.or op_repA
theorem op_inU (hu : X.A.units + 65 < cLine) : OpR X (compareOp .In) (rInU X.K) := (op_inD hu).or (op_inT hu)
theorem op_notInU (hu : X.A.units + 65 < cLine) : OpR X (compareOp .NotIn) (rNotInU X.K) := (op_notInD hu).or (op_notInT hu)
theorem ix_U (hu : X.A.units + 1 < cLine) : IxR X (rIxU X.K) := ix_list.or (ix_tup.or (ix_dict hu))
theorem sl_U : L2.SlR X (rSlU X.K) := L2.SlR.or sl_list sl_tupA
theorem call_lenU : CallR X (.builtin "len") (rLenU X.K) := callR_or call_len call_lenD'
end
section
variable {so : Option Addr} {K : PySem.W.Frag} {Γ : Ctx} {ta tb te : TE} {P Q R : Pd} {Ps Qs : List Pd} {i j : Int}
theorem ev_rI0 {g : Int → Int → V} (ha : Ev so ta Γ (intP i)) (hb : Ev so tb Γ (intP j)) : Ev so (tOp (rI0 g) ta tb) Γ (valP (g i j)) :=
  ev_op ha hb fun x y W H K _ px py k => ⟨i, j, px, py, k _ H (Same.refl H) rfl⟩
theorem ev_rI {C : Int → Int → Prop} {g : Int → Int → V} (ha : Ev so ta Γ (intP i)) (hb : Ev so tb Γ (intP j)) (hc : C i j) : Ev so (tOp (rI C g) ta tb) Γ (valP (g i j)) :=
  ev_op ha hb fun x y W H K _ px py k => ⟨i, j, px, py, hc, k _ H (Same.refl H) rfl⟩
theorem ev_neg (ha : Ev so ta Γ (intP i)) : Ev so (tUn (rU fun i => .int (-i)) ta) Γ (intP (-i)) := ev_un ha fun x W H K _ px k => ⟨i, px, k _ H (Same.refl H) rfl⟩
theorem ev_addI (ha : Ev so ta Γ (intP i)) (hb : Ev so tb Γ (intP j)) : Ev so (tOp (rAddU K) ta tb) Γ (intP (i + j)) :=
  ev_op ha hb fun x y W H K _ px py k => .inl ⟨i, j, px, py, k _ H (Same.refl H) rfl⟩
theorem newW {W : Addr → Prop} {H : Hp} (tr : Tr W H) {p : Addr} (hp : H p = none) : ¬ W p := fun z => by
  obtain ⟨u, e, _⟩ := tr p z
  rw [hp] at e
  cases e
theorem vis_new {W : Addr → Prop} {H : Hp} {p : Addr} {o : HO} (hp : H p = none) : Same (vis W H) (vis W (upd H p o)) := vis_mono (fun _ _ h _ => h) fun b u _ e => same_new hp b u e
theorem ev_addL (ha : Ev so ta Γ (lstP Ps)) (hb : Ev so tb Γ (lstP Qs)) (hz : Ps.length + Qs.length ≤ sizeLine) : Ev so (tOp (rAddU K) ta tb) Γ (lstP (Ps ++ Qs)) :=
  ev_op ha hb fun x y W H K tr ⟨a, xs, e1, h1, q1⟩ ⟨b, ys, e2, h2, q2⟩ k => .inr (.inl ⟨a, b, xs, ys, e1, e2, (vis_some.mp h1).2, (vis_some.mp h2).2, by rw [q1.length, q2.length]; exact hz,
    fun p hp => k _ _ (same_new hp) ⟨p, _, rfl, vis_some.mpr ⟨newW tr hp, upd_same⟩, AllP.append (q1.st (vis_new hp)) (q2.st (vis_new hp))⟩⟩)
theorem ev_addT (ha : Ev so ta Γ (tupP Ps)) (hb : Ev so tb Γ (tupP Qs)) (hz : Ps.length + Qs.length ≤ sizeLine) : Ev so (tOp (rAddU K) ta tb) Γ (tupP (Ps ++ Qs)) :=
  ev_op ha hb fun x y W H K tr ⟨a, xs, e1, h1, q1⟩ ⟨b, ys, e2, h2, q2⟩ k => by
    have l1 := q1.length
    have l2 := q2.length
    refine .inr (.inr ⟨a, b, xs, ys, e1, e2, .inl (.inl (vis_some.mp h1).2), .inl (.inl (vis_some.mp h2).2), by omega, fun e => ?_, fun _ e => ?_, fun _ _ p hp => ?_⟩)
    · subst e
      have e3 : Ps = [] := List.eq_nil_of_length_eq_zero l1.symm
      subst e3
      exact k _ H (Same.refl H) ⟨b, ys, rfl, h2, q2⟩
    · subst e
      have e3 : Qs = [] := List.eq_nil_of_length_eq_zero l2.symm
      subst e3
      exact k _ H (Same.refl H) ⟨a, xs, rfl, h1, by rw [List.append_nil]; exact q1⟩
    · exact k _ _ (same_new hp) ⟨p, _, rfl, vis_some.mpr ⟨newW tr hp, upd_same⟩, AllP.append (q1.st (vis_new hp)) (q2.st (vis_new hp))⟩
theorem ev_mulI (ha : Ev so ta Γ (intP i)) (hb : Ev so tb Γ (intP j)) (hc : CMul i j) : Ev so (tOp (rMulU K) ta tb) Γ (intP (i * j)) :=
  ev_op ha hb fun x y W H K _ px py k => .inl ⟨i, j, px, py, hc, k _ H (Same.refl H) rfl⟩
theorem allP_rep {P : Pd} {v : V} {H : Hp} (h : P.p v H) : ∀ n : Nat, AllP (List.replicate n P) (List.replicate n v) H
  | 0 => trivial
  | n + 1 => ⟨h, allP_rep h n⟩
theorem flat_rep (v : V) : ∀ n : Nat, (List.replicate n [v]).flatten = List.replicate n v
  | 0 => rfl
  | n + 1 => by
    rw [List.replicate_succ, List.flatten_cons, flat_rep v n]
    rfl
/-- (x,) * n -/
theorem ev_rep1 (ha : Ev so ta Γ (tupP [P])) (hb : Ev so tb Γ (intP j)) (h1 : 1 ≤ j) (h2 : j ≤ 1000) : Ev so (tOp (rMulU K) ta tb) Γ (tupP (List.replicate j.toNat P)) :=
  ev_op ha hb fun x y W H K tr ⟨a, xs, e1, hx, q1⟩ py k => by
    have l1 : xs.length = 1 := q1.length
    obtain ⟨v, rfl⟩ := List.length_eq_one_iff.mp l1
    refine .inr ⟨a, j, [v], e1, py, .inl (.inl (vis_some.mp hx).2), List.cons_ne_nil _ _, h1, h2, by show 1 ≤ 1000; decide, fun e => ?_, fun _ p hp => ?_⟩
    · subst e
      exact k _ H (Same.refl H) ⟨a, [v], rfl, hx, q1⟩
    · rw [flat_rep]
      exact k _ _ (same_new hp) ⟨p, _, rfl, vis_some.mpr ⟨newW tr hp, upd_same⟩, allP_rep (P.st (vis_new hp) q1.1) _⟩
/-! comparisons -/
theorem ev_eqD {d e : PyData} [hd : AsD P d] [he : AsD Q e] (ha : Ev so ta Γ P) (hb : Ev so tb Γ Q) (s1 : SeqAt.shaped d = true) (s2 : SeqAt.shaped e = true) : Ev so (tOp (rEqD K) ta tb) Γ (blP (PyData.eqv d e)) :=
  ev_op ha hb fun x y W H _ _ px py k => ⟨d, e, hd.ok K x H (P.st (vis_sub _ _) px), he.ok K y H (Q.st (vis_sub _ _) py), s1, s2, k _ H (Same.refl H) rfl⟩
theorem ev_neD {d e : PyData} [hd : AsD P d] [he : AsD Q e] (ha : Ev so ta Γ P) (hb : Ev so tb Γ Q) (s1 : SeqAt.shaped d = true) (s2 : SeqAt.shaped e = true) : Ev so (tOp (rNeD K) ta tb) Γ (blP (!PyData.eqv d e)) :=
  ev_op ha hb fun x y W H _ _ px py k => ⟨d, e, hd.ok K x H (P.st (vis_sub _ _) px), he.ok K y H (Q.st (vis_sub _ _) py), s1, s2, k _ H (Same.refl H) rfl⟩
theorem ev_inL {d : PyData} {ds : List PyData} [hd : AsD P d] [he : AsD (lstP Ps) (.list ds)] (ha : Ev so ta Γ P) (hb : Ev so tb Γ (lstP Ps)) (s1 : SeqAt.shaped d = true) (s2 : SeqAt.shaped (.list ds) = true) : Ev so (tOp (rInU K) ta tb) Γ (blP (ds.any fun z => PyData.eqv z d)) :=
  ev_op ha hb fun x y W H _ _ px py k => .inl ⟨d, ds, hd.ok K x H (P.st (vis_sub _ _) px), he.ok K y H ((lstP Ps).st (vis_sub _ _) py), s1, s2, k _ H (Same.refl H) rfl⟩
theorem ev_inT {d : PyData} {ds : List PyData} [hd : AsD P d] [he : AsD (tupP Ps) (.tuple ds)] (ha : Ev so ta Γ P) (hb : Ev so tb Γ (tupP Ps)) (s1 : SeqAt.shaped d = true) (s2 : SeqAt.shaped (.tuple ds) = true) : Ev so (tOp (rInU K) ta tb) Γ (blP (ds.any fun z => PyData.eqv z d)) :=
  ev_op ha hb fun x y W H _ _ px py k => .inr ⟨d, ds, hd.ok K x H (P.st (vis_sub _ _) px), he.ok K y H ((tupP Ps).st (vis_sub _ _) py), s1, s2, k _ H (Same.refl H) rfl⟩
theorem ev_notInL {d : PyData} {ds : List PyData} [hd : AsD P d] [he : AsD (lstP Ps) (.list ds)] (ha : Ev so ta Γ P) (hb : Ev so tb Γ (lstP Ps)) (s1 : SeqAt.shaped d = true) (s2 : SeqAt.shaped (.list ds) = true) : Ev so (tOp (rNotInU K) ta tb) Γ (blP (!ds.any fun z => PyData.eqv z d)) :=
  ev_op ha hb fun x y W H _ _ px py k => .inl ⟨d, ds, hd.ok K x H (P.st (vis_sub _ _) px), he.ok K y H ((lstP Ps).st (vis_sub _ _) py), s1, s2, k _ H (Same.refl H) rfl⟩
theorem ev_notInT {d : PyData} {ds : List PyData} [hd : AsD P d] [he : AsD (tupP Ps) (.tuple ds)] (ha : Ev so ta Γ P) (hb : Ev so tb Γ (tupP Ps)) (s1 : SeqAt.shaped d = true) (s2 : SeqAt.shaped (.tuple ds) = true) : Ev so (tOp (rNotInU K) ta tb) Γ (blP (!ds.any fun z => PyData.eqv z d)) :=
  ev_op ha hb fun x y W H _ _ px py k => .inr ⟨d, ds, hd.ok K x H (P.st (vis_sub _ _) px), he.ok K y H ((tupP Ps).st (vis_sub _ _) py), s1, s2, k _ H (Same.refl H) rfl⟩
/-- the letters among which one is sought -/
theorem ev_inLts {g : List Qd.Lt} {l : Qd.Lt} (ha : Ev so ta Γ (ltP l)) (hb : Ev so tb Γ (lstP (g.map ltP))) : Ev so (tOp (rInU K) ta tb) Γ (blP (decide (l ∈ g))) := by
  have z := ev_inL (K := K) ha hb (sh_lt l).ok (sh_lts g).ok
  rw [any_lt] at z
  exact z
theorem sh_ltsT (g : List Qd.Lt) : Sh 2 (.tuple (g.map ltD)) := sh_tup fun d hd => by
  obtain ⟨l, _, rfl⟩ := List.mem_map.mp hd
  exact sh_lt l
theorem ev_inLtsT {g : List Qd.Lt} {l : Qd.Lt} (ha : Ev so ta Γ (ltP l)) (hb : Ev so tb Γ (tupP (g.map ltP))) : Ev so (tOp (rInU K) ta tb) Γ (blP (decide (l ∈ g))) := by
  have z := ev_inT (K := K) ha hb (sh_lt l).ok (sh_ltsT g).ok
  rw [any_lt] at z
  exact z
theorem ev_notInLtsT {g : List Qd.Lt} {l : Qd.Lt} (ha : Ev so ta Γ (ltP l)) (hb : Ev so tb Γ (tupP (g.map ltP))) : Ev so (tOp (rNotInU K) ta tb) Γ (blP (!decide (l ∈ g))) := by
  have z := ev_notInT (K := K) ha hb (sh_lt l).ok (sh_ltsT g).ok
  rw [any_lt] at z
  exact z
theorem ev_eqLt {p q : Qd.Lt} (ha : Ev so ta Γ (ltP p)) (hb : Ev so tb Γ (ltP q)) : Ev so (tOp (rEqD K) ta tb) Γ (blP (decide (p = q))) := by
  have z := ev_eqD (K := K) ha hb (sh_lt p).ok (sh_lt q).ok
  rw [eqv_lt] at z
  exact z
theorem ev_neLt {p q : Qd.Lt} (ha : Ev so ta Γ (ltP p)) (hb : Ev so tb Γ (ltP q)) : Ev so (tOp (rNeD K) ta tb) Γ (blP (!decide (p = q))) := by
  have z := ev_neD (K := K) ha hb (sh_lt p).ok (sh_lt q).ok
  rw [eqv_lt] at z
  exact z
theorem eqv_str (x y : Str) : PyData.eqv (.str x) (.str y) = (x == y) := rfl
theorem eqv_int (x y : Int) : PyData.eqv (.int x) (.int y) = decide (x = y) := by
  show (x == y) = _
  exact Bool.beq_eq_decide_eq x y
theorem wd_out (o : Bool) : ((wd o : Str) == ("out" : Str)) = o := by cases o <;> decide +kernel
/-- a way's word asked -/
theorem ev_isOut {o : Bool} (ha : Ev so ta Γ (strP (wd o))) (hb : Ev so tb Γ (strP ("out" : Str))) : Ev so (tOp (rEqD K) ta tb) Γ (blP o) := by
  have z := ev_eqD (K := K) ha hb (sh_wd (k := 0) o).ok (sh_str (k := 0) (x := "out")).ok
  rw [eqv_str, wd_out] at z
  exact z
theorem ev_eqStr {x y : Str} (ha : Ev so ta Γ (strP x)) (hb : Ev so tb Γ (strP y)) (hx : PyData.canLay0 (.str x) = true) (hy : PyData.canLay0 (.str y) = true := by decide +kernel) : Ev so (tOp (rEqD K) ta tb) Γ (blP (x == y)) := 
  ev_eqD (K := K) ha hb (sh_str (k := 0) hx).ok (sh_str (k := 0) hy).ok
theorem ev_neStr {x y : Str} (ha : Ev so ta Γ (strP x)) (hb : Ev so tb Γ (strP y)) (hx : PyData.canLay0 (.str x) = true) (hy : PyData.canLay0 (.str y) = true := by decide +kernel) : Ev so (tOp (rNeD K) ta tb) Γ (blP (!(x == y))) := 
  ev_neD (K := K) ha hb (sh_str (k := 0) hx).ok (sh_str (k := 0) hy).ok
theorem ev_eqI (ha : Ev so ta Γ (intP i)) (hb : Ev so tb Γ (intP j)) : Ev so (tOp (rEqD K) ta tb) Γ (blP (decide (i = j))) := by
  have z := ev_eqD (K := K) ha hb (sh_int (k := 0)).ok (sh_int (k := 0)).ok
  rw [eqv_int] at z
  exact z
theorem ev_neI (ha : Ev so ta Γ (intP i)) (hb : Ev so tb Γ (intP j)) : Ev so (tOp (rNeD K) ta tb) Γ (blP (!decide (i = j))) := by
  have z := ev_neD (K := K) ha hb (sh_int (k := 0)).ok (sh_int (k := 0)).ok
  rw [eqv_int] at z
  exact z
abbrev rIsN : R2 := fun x y H Q => y = .non ∧ Q (.bl (decide (x = .non))) H
abbrev rNotN : R2 := fun x y H Q => y = .non ∧ Q (.bl (!decide (x = .non))) H
class NonP (P : Pd) (b : outParam Bool) : Prop where
  ok : ∀ v H, P.p v H → decide (v = .non) = b
instance : NonP nonP true := ⟨fun v H e => by rw [show v = .non from e]; rfl⟩
instance {i : Int} : NonP (valP (.int i)) false := ⟨fun v H e => by rw [show v = .int i from e]; rfl⟩
instance {b : Bool} : NonP (valP (.bl b)) false := ⟨fun v H e => by rw [show v = .bl b from e]; rfl⟩
instance {Ps : List Pd} : NonP (tupP Ps) false := ⟨fun v H ⟨a, _, e, _⟩ => by rw [e]; rfl⟩
instance {Ps : List Pd} : NonP (lstP Ps) false := ⟨fun v H ⟨a, _, e, _⟩ => by rw [e]; rfl⟩
theorem non_opt {α : Type} {f : α → Pd} (h : ∀ a, NonP (f a) false) (o : Option α) : NonP (optP o f) (!o.isSome) := by
  cases o with
  | none => exact (inferInstance : NonP nonP true)
  | some a => exact h a
instance {α : Type} {f : α → Pd} [h : ∀ a, NonP (f a) false] {o : Option α} : NonP (optP o f) (!o.isSome) := non_opt h o
theorem ev_isN {b : Bool} [h : NonP P b] (ha : Ev so ta Γ P) : Ev so (tOp rIsN ta (tC .non)) Γ (blP b) :=
  ev_op ha (ev_val (v := .non)) fun x y W H K _ px py k => ⟨py, by rw [h.ok x _ px]; exact k _ H (Same.refl H) rfl⟩
theorem ev_notN {b : Bool} [h : NonP P b] (ha : Ev so ta Γ P) : Ev so (tOp rNotN ta (tC .non)) Γ (blP (!b)) :=
  ev_op ha (ev_val (v := .non)) fun x y W H K _ px py k => ⟨py, by rw [h.ok x _ px]; exact k _ H (Same.refl H) rfl⟩
theorem ev_notB {a b : Bool} (ha : Ev so ta Γ (blP a)) (hb : Ev so tb Γ (blP b)) : Ev so (tOp rNotB ta tb) Γ (blP (!decide (a = b))) :=
  ev_op ha hb fun x y W H K _ px py k => ⟨a, b, px, py, k _ H (Same.refl H) rfl⟩
/-! subscripts -/
theorem ev_ixT {n : Nat} (ha : Ev so ta Γ (tupP Ps)) (hb : Ev so tb Γ (intP i)) (hi : i = (n : Int)) (h : Ps[n]? = some P) : Ev so (tOp (rIxU K) ta tb) Γ P :=
  ev_op ha hb fun x y W H K _ ⟨a, xs, e, hx, q⟩ py k => by
    obtain ⟨v, e2, pv⟩ := q.get h
    exact .inr (.inl ⟨a, xs, i, v, e, py, .inl (.inl (vis_some.mp hx).2), by rw [hi]; exact atI_nat e2, k v H (Same.refl H) pv⟩)
theorem ev_ixL {n : Nat} (ha : Ev so ta Γ (lstP Ps)) (hb : Ev so tb Γ (intP i)) (hi : i = (n : Int)) (h : Ps[n]? = some P) : Ev so (tOp (rIxU K) ta tb) Γ P :=
  ev_op ha hb fun x y W H K _ ⟨a, xs, e, hx, q⟩ py k => by
    obtain ⟨v, e2, pv⟩ := q.get h
    exact .inl ⟨a, xs, i, v, e, py, .inl (.inl (vis_some.mp hx).2), by rw [hi]; exact atI_nat e2, k v H (Same.refl H) pv⟩
/-- a letter's word, number -/
theorem ev_lt0 {l : Qd.Lt} (ha : Ev so ta Γ (ltP l)) : Ev so (tOp (rIxU K) ta (tC (.int 0))) Γ (strP (wd l.1)) := ev_ixT (n := 0) (i := 0) ha ev_val rfl rfl
theorem ev_lt1 {l : Qd.Lt} (ha : Ev so ta Γ (ltP l)) : Ev so (tOp (rIxU K) ta (tC (.int 1))) Γ (intP (l.2 : Int)) := ev_ixT (n := 1) (i := 1) ha ev_val rfl rfl
/-- a locked dict with letters as keys -/
def dctP (ls : List Qd.Lt) (f : Qd.Lt → Pd) : Pd := ⟨fun v H => ∃ d od kvs, v = .ref d ∧ H d = some (.frz od (.dT kvs)) ∧ DctAll ls f kvs H, fun s ⟨d, od, kvs, e, h, q⟩ => ⟨d, od, kvs, e, s _ _ h, q.st s⟩⟩
theorem ltK_inj {a b : Qd.Lt} (h : ltK a = ltK b) : a = b := by
  obtain ⟨a1, a2⟩ := a
  obtain ⟨b1, b2⟩ := b
  unfold ltK at h
  injection h with h1 h2
  injection h2 with h3 _
  have e1 := wd_inj (Sum.inr.inj h1)
  have e2 : (a2 : Int) = (b2 : Int) := Sum.inl.inj h3
  have e3 : a2 = b2 := by omega
  have e1 : a1 = b1 := e1
  rw [e1, e3]
theorem ltK_kV (l : Qd.Lt) : (ltK l).map kV = [.str (wd l.1), .int (l.2 : Int)] := rfl
theorem dct_get {f : Qd.Lt → Pd} {H : Hp} {l : Qd.Lt} : ∀ {ls : List Qd.Lt} {kvs : List (List Key × V)}, DctAll ls f kvs H → l ∈ ls → ∃ v, valV kvs (ltK l) = some v ∧ (f l).p v H
  | [], _, _, h => by cases h
  | q :: ls, [], h, _ => by cases h.1
  | q :: ls, (k, v) :: kvs, h, hm => by
    obtain ⟨h1, h2⟩ := h
    injection h1 with e1 e2
    have e1 : k = ltK q := e1
    by_cases c : q = l
    · subst c
      exact ⟨v, valV_pos e1, h2.1⟩
    · rcases List.mem_cons.mp hm with z | z
      · exact absurd z.symm c
      · obtain ⟨w, a, b⟩ := dct_get (ls := ls) (kvs := kvs) ⟨e2, h2.2⟩ z
        exact ⟨w, by rw [valV_neg (p := (k, v)) (fun y => c (ltK_inj (e1.symm.trans y)))]; exact a, b⟩
theorem tup_vals {vs : List V} : ∀ {xs : List V} {H : Hp}, AllP (vs.map valP) xs H → xs = vs := by
  induction vs with
  | nil =>
    intro xs H h
    cases xs with
    | nil => rfl
    | cons _ _ => exact h.elim
  | cons v vs ih =>
    intro xs H h
    cases xs with
    | nil => exact h.elim
    | cons x xs =>
      have e : x = v := h.1
      rw [e, ih h.2]
theorem lt_at {l : Qd.Lt} {v : V} {H : Hp} (h : (ltP l).p v H) : ∃ b, v = .ref b ∧ H b = some (.tup ((ltK l).map kV)) := by
  obtain ⟨b, xs, e, hb, q⟩ := h
  have z := tup_vals (vs := [.str (wd l.1), .int (l.2 : Int)]) q
  exact ⟨b, e, by rw [hb, z]; rfl⟩
theorem ev_ixD {ls : List Qd.Lt} {f : Qd.Lt → Pd} {l : Qd.Lt} (ha : Ev so ta Γ (dctP ls f)) (hb : Ev so tb Γ (ltP l)) (h : l ∈ ls) : Ev so (tOp (rIxU K) ta tb) Γ (f l) :=
  ev_op ha hb fun x y W H K _ ⟨d, od, kvs, e, hd, q⟩ py k => by
    obtain ⟨b, rfl, hb⟩ := lt_at py
    obtain ⟨v, e2, pv⟩ := dct_get q h
    exact .inr (.inr ⟨d, v, e, .inr ⟨kvs, ltK l, b, .inr ⟨od, (vis_some.mp hd).2⟩, rfl, (vis_some.mp hb).2, e2.symm⟩, k v H (Same.refl H) pv⟩)
end
end Qt
set_option Elab.async false
set_option linter.all false
set_option maxRecDepth 100000
set_option maxHeartbeats 4000000
namespace Qt
open PySem PySem.Spec PyProof.Rows L2 Qr
section
variable {so : Option Addr} {K : PySem.W.Frag} {Γ Γ1 Γ2 : Ctx} {ta tb te : TE} {P Q R : Pd} {Ps Qs : List Pd} {i j : Int}
theorem allP1 {P : Pd} {xs : List V} {H : Hp} (h : AllP [P] xs H) : ∃ x, xs = [x] ∧ P.p x H := by
  cases xs with
  | nil => exact h.elim
  | cons x r =>
    cases r with
    | nil => exact ⟨x, rfl, h.1⟩
    | cons _ _ => exact h.2.elim
theorem allP2 {P Q : Pd} {xs : List V} {H : Hp} (h : AllP [P, Q] xs H) : ∃ x y, xs = [x, y] ∧ P.p x H ∧ Q.p y H := by
  cases xs with
  | nil => exact h.elim
  | cons x r =>
    obtain ⟨y, rfl, hy⟩ := allP1 h.2
    exact ⟨x, y, rfl, h.1, hy⟩
/-! ### slices -/
theorem eo_none : EvO so tNoPart Γ none := fun Z V0 O σ H Q S k => k H .refl
theorem eo_some (h : Ev so te Γ (intP i)) : EvO so (tPart te) Γ (some i) := fun Z V0 O σ H Q S k => h Z V0 O σ H _ S fun v H' m e => ⟨i, e, k H' m⟩
def cutP (Ps : List Pd) (lo hi : Option Int) : List Pd := (Ps.drop (HT.sIx Ps.length 0 lo)).take (HT.sIx Ps.length Ps.length hi - HT.sIx Ps.length 0 lo)
theorem cut_all {Ps : List Pd} {xs : List V} {H : Hp} {lo hi : Option Int} (h : AllP Ps xs H) : AllP (cutP Ps lo hi) (cutV xs lo hi) H := by
  unfold cutP cutV
  rw [h.length]
  exact (h.drop _).take _
theorem ev_slT {tl th : TO} {lo hi : Option Int} (ha : Ev so ta Γ (tupP Ps)) (hl : EvO so tl Γ lo) (hh : EvO so th Γ hi) : Ev so (tSl (rSlU K) ta tl th) Γ (tupP (cutP Ps lo hi)) := fun Z V0 O σ H K S k =>
  ha Z V0 O σ H _ S fun x H1 m1 px => hl Z V0 O σ H1 _ (S.mv m1) fun H2 m2 => hh Z V0 O σ H2 _ ((S.mv m1).mv m2) fun H3 m3 => by
    have S3 := ((S.mv m1).mv m2).mv m3
    obtain ⟨a, xs, e, hx, q⟩ := (tupP Ps).st ((S.mv m1).grow (m2.trans m3)) px
    refine .inr ⟨a, xs, e, .inl (.inl (vis_some.mp hx).2), fun w => ?_, fun _ p hp => ?_⟩
    · refine k _ H3 ((m1.trans m2).trans m3) ⟨a, xs, rfl, hx, ?_⟩
      have e2 : cutP Ps lo hi = Ps := by
        unfold cutP
        rw [← q.length, w.1, w.2, List.drop_zero, Nat.sub_zero, q.length, List.take_length]
      rw [e2]
      exact q
    · exact k _ _ (((m1.trans m2).trans m3).trans (.same (same_new hp))) ⟨p, _, rfl, vis_some.mpr ⟨newW S3.tr hp, upd_same⟩, cut_all (q.st (vis_new hp))⟩
theorem ev_slL {tl th : TO} {lo hi : Option Int} (ha : Ev so ta Γ (lstP Ps)) (hl : EvO so tl Γ lo) (hh : EvO so th Γ hi) : Ev so (tSl (rSlU K) ta tl th) Γ (lstP (cutP Ps lo hi)) := fun Z V0 O σ H K S k =>
  ha Z V0 O σ H _ S fun x H1 m1 px => hl Z V0 O σ H1 _ (S.mv m1) fun H2 m2 => hh Z V0 O σ H2 _ ((S.mv m1).mv m2) fun H3 m3 => by
    have S3 := ((S.mv m1).mv m2).mv m3
    obtain ⟨a, xs, e, hx, q⟩ := (lstP Ps).st ((S.mv m1).grow (m2.trans m3)) px
    refine .inl ⟨a, xs, e, .inl (.inl (vis_some.mp hx).2), fun p hp => ?_⟩
    exact k _ _ (((m1.trans m2).trans m3).trans (.same (same_new hp))) ⟨p, _, rfl, vis_some.mpr ⟨newW S3.tr hp, upd_same⟩, cut_all (q.st (vis_new hp))⟩
theorem cut_take {Ps : List Pd} {n : Nat} : cutP Ps none (some (n : Int)) = Ps.take n := by
  unfold cutP
  rw [HT.sIx_none, HT.sIx_nat, List.drop_zero, Nat.sub_zero]
  by_cases h : n ≤ Ps.length
  · rw [Nat.min_eq_left h]
  · rw [Nat.min_eq_right (by omega), List.take_length, List.take_of_length_le (by omega)]
theorem cut_drop {Ps : List Pd} {n : Nat} : cutP Ps (some (n : Int)) none = Ps.drop n := by
  unfold cutP
  rw [HT.sIx_none, HT.sIx_nat]
  by_cases h : n ≤ Ps.length
  · rw [Nat.min_eq_left h, List.take_of_length_le (by rw [List.length_drop]; exact Nat.le_refl _)]
  · rw [Nat.min_eq_right (by omega), List.drop_length, List.drop_of_length_le (by omega), List.take_nil]
theorem cut_last {Ps : List Pd} : cutP Ps none (some (-1)) = Ps.take (Ps.length - 1) := by
  unfold cutP
  rw [HT.sIx_none, List.drop_zero, Nat.sub_zero]
  congr 1
  unfold HT.sIx
  simp only []
  rw [if_pos (by decide)]
  omega
theorem ev_backT (ha : Ev so ta Γ (tupP Ps)) (hn : 1 ≤ Ps.length) : Ev so (tBack K ta) Γ (tupP (Ps.drop 1).reverse) := fun Z V0 O σ H K S k =>
  ha Z V0 O σ H _ S fun x H1 m1 ⟨a, xs, e, hx, q⟩ => ⟨a, xs, e, by rw [q.length]; exact hn, .inl ⟨.inl (.inl (vis_some.mp hx).2), fun p hp =>
    k _ _ (m1.trans (.same (same_new hp))) ⟨p, _, rfl, vis_some.mpr ⟨(S.mv m1).new hp, upd_same⟩, ((q.drop 1).reverse).st (vis_new hp)⟩⟩⟩
theorem ev_backL (ha : Ev so ta Γ (lstP Ps)) (hn : 1 ≤ Ps.length) : Ev so (tBack K ta) Γ (lstP (Ps.drop 1).reverse) := fun Z V0 O σ H K S k =>
  ha Z V0 O σ H _ S fun x H1 m1 ⟨a, xs, e, hx, q⟩ => ⟨a, xs, e, by rw [q.length]; exact hn, .inr ⟨.inl (.inl (vis_some.mp hx).2), fun p hp =>
    k _ _ (m1.trans (.same (same_new hp))) ⟨p, _, rfl, vis_some.mpr ⟨(S.mv m1).new hp, upd_same⟩, ((q.drop 1).reverse).st (vis_new hp)⟩⟩⟩
/-! ### len -/
theorem ev_lenT (ha : Ev so te Γ (tupP Ps)) : Ev so (tCB (rLenU K) (tCons te tNil)) Γ (intP (Ps.length : Nat)) :=
  ev_cb (ea_cons ha ea_nil) fun xs W H K _ h k => by
    obtain ⟨x, rfl, a, ys, e, hx, q⟩ := allP1 h
    exact .inl ⟨x, Ps.length, rfl, by rw [e]; exact .inr ⟨ys, .inl (.inl (vis_some.mp hx).2), q.length.symm⟩, k _ H (Same.refl H) rfl⟩
theorem ev_lenL (ha : Ev so te Γ (lstP Ps)) : Ev so (tCB (rLenU K) (tCons te tNil)) Γ (intP (Ps.length : Nat)) :=
  ev_cb (ea_cons ha ea_nil) fun xs W H K _ h k => by
    obtain ⟨x, rfl, a, ys, e, hx, q⟩ := allP1 h
    exact .inl ⟨x, Ps.length, rfl, by rw [e]; exact .inl ⟨ys, .inl (.inl (vis_some.mp hx).2), q.length.symm⟩, k _ H (Same.refl H) rfl⟩
theorem ev_lenD {ls : List Qd.Lt} {f : Qd.Lt → Pd} (ha : Ev so te Γ (dctP ls f)) : Ev so (tCB (rLenU K) (tCons te tNil)) Γ (intP (ls.length : Nat)) :=
  ev_cb (ea_cons ha ea_nil) fun xs W H K _ h k => by
    obtain ⟨x, rfl, d, od, kvs, e, hx, q⟩ := allP1 h
    have l : kvs.length = ls.length := by
      have z := congrArg List.length q.1
      simpa using z
    refine .inr ⟨d, kvs, by rw [e], .inr ⟨od, (vis_some.mp hx).2⟩, ?_⟩
    rw [l]
    exact k _ H (Same.refl H) rfl
/-- an empty dict that was just made -/
def nilD : Pd := ⟨fun v H => ∃ d, v = .ref d ∧ H d = some (.dT []), fun s ⟨d, e, h⟩ => ⟨d, e, s _ _ h⟩⟩
theorem ev_lenN (ha : Ev so te Γ nilD) : Ev so (tCB (rLenU K) (tCons te tNil)) Γ (intP 0) :=
  ev_cb (ea_cons ha ea_nil) fun xs W H K _ h k => by
    obtain ⟨x, rfl, d, e, hx⟩ := allP1 h
    exact .inr ⟨d, [], by rw [e], .inl (vis_some.mp hx).2, k _ H (Same.refl H) rfl⟩
theorem ev_nilD : Ev so tDNewT Γ nilD := fun Z V0 O σ H K S k => fun p hp => k _ _ (.same (same_new hp)) ⟨p, rfl, vis_some.mpr ⟨S.new hp, upd_same⟩⟩
end
end Qt
set_option Elab.async false
set_option linter.all false
set_option maxRecDepth 100000
set_option maxHeartbeats 4000000
namespace Qt
open PySem PySem.Spec PyProof.Rows L2 Qr
section
variable {so : Option Addr} {K : PySem.W.Frag} {Γ Γ1 Γ2 : Ctx} {ta tb te : TE} {P Q R : Pd} {Ps Qs : List Pd} {i j : Int}
/-! ### isinstance -/
class TyP (P : Pd) (t : outParam String) : Prop where
  ok : ∀ (K : PySem.W.Frag) (v : V) (H : Hp), P.p v H → TyQ K H v (.type t)
instance : TyP (valP .non) "NoneType" := ⟨fun K v H e => by rw [show v = .non from e]; exact .x (.base .non)⟩
instance {b : Bool} : TyP (valP (.bl b)) "bool" := ⟨fun K v H e => by rw [show v = .bl b from e]; exact .x (.base (.bl b))⟩
instance {i : Int} : TyP (valP (.int i)) "int" := ⟨fun K v H e => by rw [show v = .int i from e]; exact .x (.base (.int i))⟩
instance {x : Str} : TyP (valP (.str x)) "str" := ⟨fun K v H e => by rw [show v = .str x from e]; exact .x (.base (.str x))⟩
instance {Ps : List Pd} : TyP (tupP Ps) "tuple" := ⟨fun K v H ⟨a, xs, e, h, _⟩ => by rw [e]; exact .x (.base (.tup h))⟩
instance {Ps : List Pd} : TyP (lstP Ps) "list" := ⟨fun K v H ⟨a, xs, e, h, _⟩ => by rw [e]; exact .x (.base (.lst h))⟩
instance {l : Qd.Lt} : TyP (ltP l) "tuple" := ⟨fun K v H ⟨a, xs, e, h, _⟩ => by rw [e]; exact .x (.base (.tup h))⟩
instance {ls : List Qd.Lt} {f : Qd.Lt → Pd} : TyP (dctP ls f) "dict" := ⟨fun K v H ⟨a, od, kvs, e, h, _⟩ => by rw [e]; exact .fT h⟩
instance : TyP nilD "dict" := ⟨fun K v H ⟨a, e, h⟩ => by rw [e]; exact .x (.base (.dT h))⟩
theorem tyQ_st {K : PySem.W.Frag} {H H' : Hp} (s : Same H H') {v : V} {t : String} : TyQ K H v (.type t) → TyQ K H' v (.type t) := fun h => by
  cases h with
  | x h =>
    cases h with
    | base h =>
      cases h with
      | non => exact .x (.base .non)
      | bl b => exact .x (.base (.bl b))
      | int i => exact .x (.base (.int i))
      | str x => exact .x (.base (.str x))
      | flt x => exact .x (.base (.flt x))
      | lst e => exact .x (.base (.lst (s _ _ e)))
      | frz e => exact .x (.base (.frz (s _ _ e)))
      | tup e => exact .x (.base (.tup (s _ _ e)))
      | dK e => exact .x (.base (.dK (s _ _ e)))
      | dT e => exact .x (.base (.dT (s _ _ e)))
    | byt b => exact .x (.byt b)
    | set e => exact .x (.set (s _ _ e))
    | kList e c => exact .x (.kList e c)
    | kTuple e c => exact .x (.kTuple e c)
    | kDict e c => exact .x (.kDict e c)
    | fTuple e => exact .x (.fTuple (s _ _ e))
    | fDict e => exact .x (.fDict (s _ _ e))
  | fT e => exact .fT (s _ _ e)
class KitB (t n : String) (b : outParam Bool) : Prop where
  ok : kitB t n = some b
instance : KitB "int" "int" true := ⟨by decide +kernel⟩
instance : KitB "int" "bool" false := ⟨by decide +kernel⟩
instance : KitB "bool" "int" true := ⟨by decide +kernel⟩
instance : KitB "bool" "bool" true := ⟨by decide +kernel⟩
instance : KitB "NoneType" "int" false := ⟨by decide +kernel⟩
instance : KitB "str" "int" false := ⟨by decide +kernel⟩
instance : KitB "str" "bool" false := ⟨by decide +kernel⟩
instance : KitB "NoneType" "bool" false := ⟨by decide +kernel⟩
instance : KitB "tuple" "tuple" true := ⟨by decide +kernel⟩
instance : KitB "NoneType" "tuple" false := ⟨by decide +kernel⟩
instance : KitB "str" "tuple" false := ⟨by decide +kernel⟩
instance : KitB "list" "tuple" false := ⟨by decide +kernel⟩
instance : KitB "dict" "tuple" false := ⟨by decide +kernel⟩
instance : KitB "int" "tuple" false := ⟨by decide +kernel⟩
instance : KitB "bool" "tuple" false := ⟨by decide +kernel⟩
instance : KitB "tuple" "dict" false := ⟨by decide +kernel⟩
instance : KitB "NoneType" "dict" false := ⟨by decide +kernel⟩
instance : KitB "str" "dict" false := ⟨by decide +kernel⟩
instance : KitB "list" "dict" false := ⟨by decide +kernel⟩
instance : KitB "dict" "dict" true := ⟨by decide +kernel⟩
instance : KitB "int" "dict" false := ⟨by decide +kernel⟩
instance : KitB "bool" "dict" false := ⟨by decide +kernel⟩
instance : KitB "list" "list" true := ⟨by decide +kernel⟩
instance : KitB "tuple" "list" false := ⟨by decide +kernel⟩
instance : KitB "str" "str" true := ⟨by decide +kernel⟩
theorem ev_isi {n t : String} {b : Bool} [h : TyP P t] [hk : KitB t n b] (ha : Ev so te Γ P) : Ev so (tCB (rIsQ K) (tCons te (tCons (tC (.ty n)) tNil))) Γ (blP b) :=
  ev_cb (ea_cons ha (ea_cons ev_val ea_nil)) fun xs W H K2 _ q k => by
    obtain ⟨x, c, rfl, px, pc⟩ := allP2 q
    have ec : c = .ty n := pc
    subst ec
    exact ⟨x, .ty n, .type t, .type n, b, rfl, .ty n, tyQ_st (vis_sub _ _) (h.ok K x _ px), kit_ty hk.ok, k _ H (Same.refl H) rfl⟩
/-- one of two types -/
theorem ev_isiT {n1 n2 t : String} {b1 b2 : Bool} [h : TyP P t] [hk1 : KitB t n1 b1] [hk2 : KitB t n2 b2] (ha : Ev so te Γ P) :
    Ev so (tCB (rIsQT K) (tCons te (tCons (tTup (tCons (tC (.ty n1)) (tCons (tC (.ty n2)) tNil))) tNil))) Γ (blP (b1 || b2)) :=
  ev_cb (ea_cons ha (ea_cons (ev_tup (ea_cons ev_val (ea_cons ev_val ea_nil)) (by show 2 ≤ sizeLine; decide)) ea_nil)) fun xs W H K2 _ q k => by
    obtain ⟨x, c, rfl, px, tp, cs, ec, hc, qc⟩ := allP2 q
    subst ec
    have e2 := tup_vals (vs := [.ty n1, .ty n2]) qc
    subst e2
    refine ⟨x, tp, _, .type t, [.type n1, .type n2], b1 || b2, rfl, (vis_some.mp hc).2, .cons (.ty n1) (.cons (.ty n2) .nil), tyQ_st (vis_sub _ _) (h.ok K x _ px), ?_, k _ H (Same.refl H) rfl⟩
    unfold PySem.W.kitAny
    rw [kit_ty hk1.ok]
    cases b1 with
    | true => rfl
    | false =>
      unfold PySem.W.kitAny
      rw [kit_ty hk2.ok]
      cases b2 <;> rfl
end
end Qt
set_option Elab.async false
set_option linter.all false
set_option maxRecDepth 100000
set_option maxHeartbeats 4000000
namespace Qt
open PySem PySem.Spec PyProof.Rows L2 Qr
section
variable {so : Option Addr} {K : PySem.W.Frag} {Γ Γ1 Γ2 : Ctx} {ta tb te : TE} {P Q R : Pd} {Ps Qs : List Pd} {i j : Int}
/-! ### sum, max, all, list, tuple, int, repr -/
theorem allP_self (H : Hp) : ∀ vs : List V, AllP (vs.map valP) vs H
  | [] => trivial
  | v :: vs => ⟨rfl, allP_self H vs⟩
theorem ints_of {xs : List V} {H : Hp} : ∀ {ns : List Int}, AllP (ns.map fun n => intP n) xs H → xs = ns.map V.int := fun {ns} h => tup_vals (vs := ns.map V.int) (by rw [List.map_map]; exact h)
theorem bls_of {xs : List V} {H : Hp} : ∀ {ns : List Bool}, AllP (ns.map fun n => blP n) xs H → xs = ns.map V.bl := fun {ns} h => tup_vals (vs := ns.map V.bl) (by rw [List.map_map]; exact h)
theorem ev_sum {ns : List Int} (ha : Ev so te Γ (lstP (ns.map fun n => intP n))) : Ev so (tCB (rSum K) (tCons te tNil)) Γ (intP ns.sum) :=
  ev_cb (ea_cons ha ea_nil) fun xs W H K _ h k => by
    obtain ⟨x, rfl, a, ys, e, hx, q⟩ := allP1 h
    rw [ints_of q] at hx
    exact ⟨a, ns, by rw [e], .inl (.inl (vis_some.mp hx).2), k _ H (Same.refl H) rfl⟩
theorem ev_all {bs : List Bool} (ha : Ev so te Γ (lstP (bs.map fun n => blP n))) : Ev so (tCB (rAll K) (tCons te tNil)) Γ (blP (bs.all id)) :=
  ev_cb (ea_cons ha ea_nil) fun xs W H K _ h k => by
    obtain ⟨x, rfl, a, ys, e, hx, q⟩ := allP1 h
    rw [bls_of q] at hx
    exact ⟨a, bs, by rw [e], .inl (.inl (vis_some.mp hx).2), k _ H (Same.refl H) rfl⟩
theorem ev_allMap {α : Type} {l : List α} {g : α → Bool} (ha : Ev so te Γ (lstP (l.map fun a => blP (g a)))) : Ev so (tCB (rAll K) (tCons te tNil)) Γ (blP (l.all g)) := by
  have e : l.map (fun a => blP (g a)) = (l.map g).map fun b => blP b := by rw [List.map_map]; rfl
  rw [e] at ha
  have z := ev_all (K := K) ha
  rw [List.all_map] at z
  exact z
theorem ev_sumMap {α : Type} {l : List α} {g : α → Int} (ha : Ev so te Γ (lstP (l.map fun a => intP (g a)))) : Ev so (tCB (rSum K) (tCons te tNil)) Γ (intP (l.map g).sum) := by
  have e : l.map (fun a => intP (g a)) = (l.map g).map fun b => intP b := by rw [List.map_map]; rfl
  rw [e] at ha
  exact ev_sum (K := K) ha
theorem ev_max {ns : List Int} (ha : Ev so te Γ (lstP (ns.map fun n => intP n))) (hn : ns ≠ []) : Ev so (tCB (rMax K) (tCons te tNil)) Γ (intP (Qd.mxl ns)) :=
  ev_cb (ea_cons ha ea_nil) fun xs W H K _ h k => by
    obtain ⟨x, rfl, a, ys, e, hx, q⟩ := allP1 h
    rw [ints_of q] at hx
    refine ⟨a, ns, by rw [e], .inl (.inl (vis_some.mp hx).2), List.length_pos_iff.mpr hn, fun m h1 h2 => ?_⟩
    rw [Qd.mxl_of h1 h2]
    exact k _ H (Same.refl H) rfl
/-- small displays -/
theorem evTup {t : TA} (h : EvA so t Γ Ps) (hz : Nat.ble Ps.length 64 = true) : Ev so (tTup t) Γ (tupP Ps) := ev_tup h (Nat.le_trans (Nat.le_of_ble_eq_true hz) (by decide))
theorem evLst {t : TA} (h : EvA so t Γ Ps) (hz : Nat.ble Ps.length 64 = true) : Ev so (tLst t) Γ (lstP Ps) := ev_lst h (Nat.le_trans (Nat.le_of_ble_eq_true hz) (by decide))
/-- list() of a list, a tuple -/
abbrev rListU (K : PySem.W.Frag) : List V → Hp → VK → Prop := fun xs H Q => (∃ p ys, xs = [.ref p] ∧ (SqL K H p ys ∨ SqT K H p ys) ∧ ∀ l, H l = none → Q (.ref l) (upd H l (.lst ys))) ∨
  (∃ d kvs, xs = [V.ref d] ∧ Rd H d (.dT kvs) ∧ ∀ p bs, H p = none → IsKeys H kvs bs → Q (.ref p) (upd H p (.lst (bs.map V.ref))))
theorem ev_listL (ha : Ev so te Γ (lstP Ps)) : Ev so (tCB (rListU K) (tCons te tNil)) Γ (lstP Ps) :=
  ev_cb (ea_cons ha ea_nil) fun xs W H K tr h k => by
    obtain ⟨x, rfl, a, ys, e, hx, q⟩ := allP1 h
    exact .inl ⟨a, ys, by rw [e], .inl (.inl (.inl (vis_some.mp hx).2)), fun l hl => k _ _ (same_new hl) ⟨l, ys, rfl, vis_some.mpr ⟨newW tr hl, upd_same⟩, q.st (vis_new hl)⟩⟩
theorem ev_listT (ha : Ev so te Γ (tupP Ps)) : Ev so (tCB (rListU K) (tCons te tNil)) Γ (lstP Ps) :=
  ev_cb (ea_cons ha ea_nil) fun xs W H K tr h k => by
    obtain ⟨x, rfl, a, ys, e, hx, q⟩ := allP1 h
    exact .inl ⟨a, ys, by rw [e], .inr (.inl (.inl (vis_some.mp hx).2)), fun l hl => k _ _ (same_new hl) ⟨l, ys, rfl, vis_some.mpr ⟨newW tr hl, upd_same⟩, q.st (vis_new hl)⟩⟩
theorem ev_listD {ls : List Qd.Lt} {f : Qd.Lt → Pd} (ha : Ev so te Γ (dctP ls f)) : Ev so (tCB (rListU K) (tCons te tNil)) Γ (exP lstP) :=
  ev_cb (ea_cons ha ea_nil) fun xs W H K tr h k => by
    obtain ⟨x, rfl, d, od, kvs, e, hx, q⟩ := allP1 h
    exact .inr ⟨d, kvs, by rw [e], .inr ⟨od, (vis_some.mp hx).2⟩, fun l bs hl _ => k _ _ (same_new hl) ⟨(bs.map V.ref).map valP, l, _, rfl, vis_some.mpr ⟨newW tr hl, upd_same⟩, allP_self _ _⟩⟩
abbrev rTupOf (K : PySem.W.Frag) : List V → Hp → VK → Prop := fun xs H Q => ∃ p ys, xs = [.ref p] ∧ ((SqL K H p ys ∧ ∀ l, H l = none → Q (.ref l) (upd H l (.tup ys))) ∨ (SqT K H p ys ∧ Q (.ref p) H))
theorem ev_tupL (ha : Ev so te Γ (lstP Ps)) : Ev so (tCB (rTupOf K) (tCons te tNil)) Γ (tupP Ps) :=
  ev_cb (ea_cons ha ea_nil) fun xs W H K tr h k => by
    obtain ⟨x, rfl, a, ys, e, hx, q⟩ := allP1 h
    exact ⟨a, ys, by rw [e], .inl ⟨.inl (.inl (vis_some.mp hx).2), fun l hl => k _ _ (same_new hl) ⟨l, ys, rfl, vis_some.mpr ⟨newW tr hl, upd_same⟩, q.st (vis_new hl)⟩⟩⟩
abbrev rInt1 : List V → Hp → VK → Prop := fun xs H Q => (∃ i, xs = [.int i] ∧ Q (.int i) H) ∨ ∃ k, xs = [.bl k] ∧ Q (.int (if k then 1 else 0)) H
theorem ev_int (ha : Ev so te Γ (intP i)) : Ev so (tCB rInt1 (tCons te tNil)) Γ (intP i) :=
  ev_cb (ea_cons ha ea_nil) fun xs W H K tr h k => by
    obtain ⟨x, rfl, e⟩ := allP1 h
    exact .inl ⟨i, by rw [show x = .int i from e], k _ H (Same.refl H) rfl⟩
abbrev rReprB : List V → Hp → VK → Prop := fun xs H Q => ∃ b : Bool, xs = [.bl b] ∧ Q (.str (wB b)) H
theorem ev_repr {b : Bool} (ha : Ev so te Γ (blP b)) : Ev so (tCB rReprB (tCons te tNil)) Γ (strP (wB b)) :=
  ev_cb (ea_cons ha ea_nil) fun xs W H K tr h k => by
    obtain ⟨x, rfl, e⟩ := allP1 h
    exact ⟨b, by rw [show x = .bl b from e], k _ H (Same.refl H) rfl⟩
/-- max(list, default=0) -/
theorem ev_maxMap {α : Type} {l : List α} {g : α → Int} (ha : Ev so te Γ (lstP (l.map fun a => intP (g a)))) (hn : l ≠ []) : Ev so (tCB (rMax K) (tCons te tNil)) Γ (intP (Qd.mxl (l.map g))) := by
  have e : l.map (fun a => intP (g a)) = (l.map g).map fun b => intP b := by rw [List.map_map]; rfl
  rw [e] at ha
  exact ev_max (K := K) ha fun z => hn (List.map_eq_nil_iff.mp z)
theorem ev_maxD {ns : List Int} (ha : Ev so te Γ (lstP (ns.map fun n => intP n))) (h0 : ∀ n ∈ ns, 0 ≤ n) : Ev so (tCKw (rMaxD K) (tCons te tNil) (tCons (tC (.int 0)) tNil)) Γ (intP (Qd.mx0 ns)) := fun Z V0 O σ H K2 S k =>
  (ea_cons ha ea_nil) Z V0 O σ H _ S fun xs H1 m h => by
    obtain ⟨x, rfl, a, ys, e, hx, q⟩ := allP1 h
    rw [ints_of q] at hx
    refine ⟨a, ns, by rw [e], rfl, .inl (.inl (vis_some.mp hx).2), fun mm h1 h2 => ?_⟩
    have em : mm = Qd.mx0 ns := by
      by_cases hn : ns = []
      · rw [h1 hn, hn]
        rfl
      · exact Qd.mx0_of' h0 (h2 hn).1 (h2 hn).2
    rw [em]
    exact k _ H1 m rfl
end
end Qt
set_option Elab.async false
set_option linter.all false
set_option maxRecDepth 100000
set_option maxHeartbeats 4000000
namespace Qt
open PySem PySem.Spec PyProof.Rows L2 Qr RZ
section
variable {so : Option Addr} {K : PySem.W.Frag} {Γ Γ1 Γ2 : Ctx} {ta tb te : TE} {P Q R : Pd} {Ps Qs : List Pd} {i j : Int}
/-! ### iterators -/
theorem wk_at {Ps : List Pd} {xs : List V} {H : Hp} (q : AllP Ps xs H) {i : Nat} (hi : i < Ps.length) : ∃ P v, Ps[i]? = some P ∧ xs[i]? = some v ∧ P.p v H := by
  have e : Ps[i]? = some Ps[i] := by simp [hi]
  obtain ⟨v, a, b⟩ := q.get e
  exact ⟨_, v, e, a, b⟩
theorem ei_list (ha : Ev so te Γ (lstP Ps)) : EvI so (iList K te) Γ Ps := fun Z V0 O σ H R S k => ha Z V0 O σ H _ S fun x H1 m ⟨a, xs, e, hx, q⟩ => by
  refine ⟨a, e, ⟨xs, .inl (.inl (vis_some.mp hx).2)⟩, k _ H1 m ⟨fun i H2 hi s => ?_, fun H2 s => ?_, fun i H2 y H3 W hi s tr yl => ?_⟩⟩
  · obtain ⟨P, v, _, e2, _⟩ := wk_at q hi
    exact ⟨xs, v, .inl (.inl (s _ _ hx)), e2⟩
  · exact ⟨xs, .inl (.inl (s _ _ hx)), by rw [q.length]; exact Nat.le_refl _⟩
  · obtain ⟨e3, yl⟩ := yl
    subst e3
    obtain ⟨P, v, e1, e2, pv⟩ := wk_at q hi
    have e4 := yl xs (.inl (.inl (vis_some.mp (s _ _ hx)).2))
    rw [e2] at e4
    rw [← Option.some.inj e4]
    exact ⟨Same.refl _, P, e1, P.st s pv⟩
theorem ei_tup (ha : Ev so te Γ (tupP Ps)) : EvI so (iTup K te) Γ Ps := fun Z V0 O σ H R S k => ha Z V0 O σ H _ S fun x H1 m ⟨a, xs, e, hx, q⟩ => by
  refine ⟨a, e, ⟨xs, .inl (.inl (vis_some.mp hx).2)⟩, k _ H1 m ⟨fun i H2 hi s => ?_, fun H2 s => ?_, fun i H2 y H3 W hi s tr yl => ?_⟩⟩
  · obtain ⟨P, v, _, e2, _⟩ := wk_at q hi
    exact ⟨xs, v, .inl (.inl (s _ _ hx)), e2⟩
  · exact ⟨xs, .inl (.inl (s _ _ hx)), by rw [q.length]; exact Nat.le_refl _⟩
  · obtain ⟨e3, yl⟩ := yl
    subst e3
    obtain ⟨P, v, e1, e2, pv⟩ := wk_at q hi
    have e4 := yl xs (.inl (.inl (vis_some.mp (s _ _ hx)).2))
    rw [e2] at e4
    rw [← Option.some.inj e4]
    exact ⟨Same.refl _, P, e1, P.st s pv⟩
theorem ei_rng {n : Nat} (ha : Ev so te Γ (intP i)) (hi : i = (n : Int)) (h : i < 2 ^ 62) : EvI so (iRng1 (tCons te tNil)) Γ ((List.range n).map fun (k : Nat) => intP (k : Int)) := fun Z V0 O σ H R S k =>
  (ea_cons ha ea_nil) Z V0 O σ H _ S fun xs H1 m h2 => by
    obtain ⟨x, rfl, e⟩ := allP1 h2
    have en : i.toNat = n := by omega
    refine ⟨i, by rw [show x = .int i from e], by omega, h, ?_⟩
    rw [en]
    have hl : ((List.range n).map fun (k : Nat) => intP (k : Int)).length = n := by simp
    refine k _ H1 m ⟨fun j H2 hj s => by rw [hl] at hj; exact hj, fun H2 s => by rw [hl]; exact Nat.le_refl n, fun j H2 y H3 W hj s tr yl => ?_⟩
    obtain ⟨e3, e4⟩ := yl
    subst e3 e4
    rw [hl] at hj
    refine ⟨Same.refl _, intP (j : Int), by simp [hj], ?_⟩
    show V.int (0 + (j : Int)) = V.int (j : Int)
    rw [Int.zero_add]
theorem ei_enumT {α : Type} {l : List α} {f : α → Pd} (ha : Ev so te Γ (tupP (l.map f))) : EvI so (iEnumT K (tCons te tNil)) Γ (l.zipIdx.map fun p => tupP [intP (p.2 : Int), f p.1]) := fun Z V0 O σ H R S k =>
  (ea_cons ha ea_nil) Z V0 O σ H _ S fun xs H1 m h2 => by
    obtain ⟨x, rfl, a, ys, e, hx, q⟩ := allP1 h2
    have hl : (l.zipIdx.map fun p => tupP [intP (p.2 : Int), f p.1]).length = l.length := by simp
    have hy : ys.length = l.length := by rw [q.length, List.length_map]
    refine ⟨a, ys, by rw [e], .inl (.inl (vis_some.mp hx).2), k _ H1 m ⟨fun j H2 hj s => ?_, fun H2 s => ?_, fun j H2 y H3 W hj s tr yl => ?_⟩⟩
    · rw [hl] at hj
      exact ⟨ys, ys[j]'(by omega), .inl (.inl (s _ _ hx)), by simp [show j < ys.length by omega]⟩
    · exact ⟨ys, .inl (.inl (s _ _ hx)), by rw [hl, hy]⟩
    · rw [hl] at hj
      obtain ⟨T, w, e1, e2, e3, e4⟩ := yl
      subst e1 e3
      obtain ⟨P, v, e5, e6, pv⟩ := wk_at q (i := j) (by rw [List.length_map]; exact hj)
      have e7 := e4 ys (.inl (.inl (vis_some.mp (s _ _ hx)).2))
      rw [e6] at e7
      have e8 := Option.some.inj e7
      subst e8
      rw [List.getElem?_map] at e5
      have e9 : l[j]? = some l[j] := by simp [hj]
      rw [e9] at e5
      have e10 : f l[j] = P := Option.some.inj e5
      subst e10
      refine ⟨same_new e2, tupP [intP ((0 + j : Nat) : Int), f l[j]], by rw [List.getElem?_map, List.getElem?_zipIdx, e9]; rfl, T, [.int ((0 + j : Nat) : Int), v], rfl, ?_, rfl, (f l[j]).st (s.trans (vis_new e2)) pv, trivial⟩
      rw [Nat.zero_add]
      exact vis_some.mpr ⟨newW tr e2, upd_same⟩
theorem zip_get {α β : Type} {l : List α} {m : List β} {j : Nat} (h1 : j < l.length) (h2 : j < m.length) : (l.zip m)[j]? = some (l[j], m[j]) := by
  rw [List.getElem?_eq_getElem (by rw [List.length_zip]; omega), List.getElem_zip]
theorem ei_zipT {α β : Type} {l : List α} {m : List β} {f : α → Pd} {g : β → Pd} (ha : Ev so ta Γ (tupP (l.map f))) (hb : Ev so tb Γ (tupP (m.map g))) : EvI so (RZ.iZipA K (tCons ta (tCons tb tNil))) Γ ((l.zip m).map fun p => tupP [f p.1, g p.2]) := fun Z V0 O σ H R S k =>
  (ea_cons ha (ea_cons hb ea_nil)) Z V0 O σ H _ S fun xs H1 mm h2 => by
    obtain ⟨x1, x2, rfl, ⟨a, xs, e, hx, q⟩, b, ys, e', hy, r⟩ := allP2 h2
    have hl : ((l.zip m).map fun p => tupP [f p.1, g p.2]).length = min l.length m.length := by simp
    have h1 : xs.length = l.length := by rw [q.length, List.length_map]
    have h3 : ys.length = m.length := by rw [r.length, List.length_map]
    refine ⟨a, b, xs, ys, by rw [e, e'], .inr ⟨.inl (.inl (vis_some.mp hx).2), .inl (.inl (vis_some.mp hy).2), k _ H1 mm ⟨fun j H2 hj s => ?_, fun H2 s => ?_, fun j H2 y H3 W hj s tr yl => ?_⟩⟩⟩
    · rw [hl] at hj
      exact ⟨xs, ys, xs[j]'(by omega), ys[j]'(by omega), .inl (.inl (s _ _ hx)), .inl (.inl (s _ _ hy)), by simp [show j < xs.length by omega], by simp [show j < ys.length by omega]⟩
    · exact ⟨xs, ys, .inl (.inl (s _ _ hx)), .inl (.inl (s _ _ hy)), by rw [hl]; omega⟩
    · rw [hl] at hj
      have j1 : j < l.length := by omega
      have j2 : j < m.length := by omega
      obtain ⟨T, w, w', e1, e2, e3, e4, e4'⟩ := yl
      subst e1 e3
      obtain ⟨P, v, e5, e6, pv⟩ := wk_at q (i := j) (by rw [List.length_map]; exact j1)
      obtain ⟨P', v', e5', e6', pv'⟩ := wk_at r (i := j) (by rw [List.length_map]; exact j2)
      have e7 := e4 xs (.inl (.inl (vis_some.mp (s _ _ hx)).2))
      have e7' := e4' ys (.inl (.inl (vis_some.mp (s _ _ hy)).2))
      rw [e6] at e7
      rw [e6'] at e7'
      have e8 := Option.some.inj e7
      have e8' := Option.some.inj e7'
      subst e8 e8'
      rw [List.getElem?_map, List.getElem?_eq_getElem j1] at e5
      rw [List.getElem?_map, List.getElem?_eq_getElem j2] at e5'
      have e10 : f l[j] = P := Option.some.inj e5
      have e10' : g m[j] = P' := Option.some.inj e5'
      subst e10 e10'
      exact ⟨same_new e2, tupP [f l[j], g m[j]], by rw [List.getElem?_map, zip_get j1 j2]; rfl, T, [v, v'], rfl, vis_some.mpr ⟨newW tr e2, upd_same⟩, (f l[j]).st (s.trans (vis_new e2)) pv, (g m[j]).st (s.trans (vis_new e2)) pv', trivial⟩
theorem ei_zipL {α β : Type} {l : List α} {m : List β} {f : α → Pd} {g : β → Pd} (ha : Ev so ta Γ (lstP (l.map f))) (hb : Ev so tb Γ (lstP (m.map g))) : EvI so (RZ.iZipA K (tCons ta (tCons tb tNil))) Γ ((l.zip m).map fun p => tupP [f p.1, g p.2]) := fun Z V0 O σ H R S k =>
  (ea_cons ha (ea_cons hb ea_nil)) Z V0 O σ H _ S fun xs H1 mm h2 => by
    obtain ⟨x1, x2, rfl, ⟨a, xs, e, hx, q⟩, b, ys, e', hy, r⟩ := allP2 h2
    have hl : ((l.zip m).map fun p => tupP [f p.1, g p.2]).length = min l.length m.length := by simp
    have h1 : xs.length = l.length := by rw [q.length, List.length_map]
    have h3 : ys.length = m.length := by rw [r.length, List.length_map]
    refine ⟨a, b, xs, ys, by rw [e, e'], .inl ⟨.inl (.inl (vis_some.mp hx).2), .inl (.inl (vis_some.mp hy).2), k _ H1 mm ⟨fun j H2 hj s => ?_, fun H2 s => ?_, fun j H2 y H3 W hj s tr yl => ?_⟩⟩⟩
    · rw [hl] at hj
      exact ⟨xs, ys, xs[j]'(by omega), ys[j]'(by omega), .inl (.inl (s _ _ hx)), .inl (.inl (s _ _ hy)), by simp [show j < xs.length by omega], by simp [show j < ys.length by omega]⟩
    · exact ⟨xs, ys, .inl (.inl (s _ _ hx)), .inl (.inl (s _ _ hy)), by rw [hl]; omega⟩
    · rw [hl] at hj
      have j1 : j < l.length := by omega
      have j2 : j < m.length := by omega
      obtain ⟨T, w, w', e1, e2, e3, e4, e4'⟩ := yl
      subst e1 e3
      obtain ⟨P, v, e5, e6, pv⟩ := wk_at q (i := j) (by rw [List.length_map]; exact j1)
      obtain ⟨P', v', e5', e6', pv'⟩ := wk_at r (i := j) (by rw [List.length_map]; exact j2)
      have e7 := e4 xs (.inl (.inl (vis_some.mp (s _ _ hx)).2))
      have e7' := e4' ys (.inl (.inl (vis_some.mp (s _ _ hy)).2))
      rw [e6] at e7
      rw [e6'] at e7'
      have e8 := Option.some.inj e7
      have e8' := Option.some.inj e7'
      subst e8 e8'
      rw [List.getElem?_map, List.getElem?_eq_getElem j1] at e5
      rw [List.getElem?_map, List.getElem?_eq_getElem j2] at e5'
      have e10 : f l[j] = P := Option.some.inj e5
      have e10' : g m[j] = P' := Option.some.inj e5'
      subst e10 e10'
      exact ⟨same_new e2, tupP [f l[j], g m[j]], by rw [List.getElem?_map, zip_get j1 j2]; rfl, T, [v, v'], rfl, vis_some.mpr ⟨newW tr e2, upd_same⟩, (f l[j]).st (s.trans (vis_new e2)) pv, (g m[j]).st (s.trans (vis_new e2)) pv', trivial⟩
theorem ei_keys {ls : List Qd.Lt} {f : Qd.Lt → Pd} (ha : Ev so te Γ (dctP ls f)) : EvI so (iKeys te) Γ (ls.map ltP) := fun Z V0 O σ H R S k => ha Z V0 O σ H _ S fun x H1 m ⟨d, od, kvs, e, hx, q⟩ => by
  have hl : kvs.length = ls.length := by
    have z := congrArg List.length q.1
    simpa using z
  refine ⟨d, od, e, .inr ⟨kvs, (vis_some.mp hx).2, k _ H1 m ⟨fun i H2 hi s => ?_, fun H2 s => ?_, fun i H2 y H3 W hi s tr yl => ?_⟩⟩⟩
  · rw [List.length_map] at hi
    exact ⟨s _ _ hx, by omega⟩
  · exact ⟨s _ _ hx, by rw [List.length_map]; omega⟩
  · rw [List.length_map] at hi
    obtain ⟨e3, kk, v, b, e4, e5, e6⟩ := yl
    subst e3 e5
    have e7 : ls[i]? = some ls[i] := by simp [hi]
    have e8 : (kvs.map (·.1))[i]? = (ls.map ltK)[i]? := by rw [q.1]
    rw [List.getElem?_map, List.getElem?_map, e4, e7] at e8
    have e9 : kk = ltK ls[i] := Option.some.inj e8
    subst e9
    have nW : ¬ W b := fun z => by
      obtain ⟨u, h1, h2⟩ := tr b z
      rw [e6] at h1
      exact h2 _ (Option.some.inj h1).symm
    exact ⟨Same.refl _, ltP ls[i], by rw [List.getElem?_map, e7]; rfl, b, [.str (wd ls[i].1), .int (ls[i].2 : Int)], rfl, vis_some.mpr ⟨nW, e6⟩, rfl, rfl, trivial⟩
/-! ### targets -/
def EvGs (so : Option Addr) (g : TGs) (Ps : List Pd) (Γ Γ' : Ctx) (is : List Nat) : Prop := ∀ (Z : Addr → Prop) (V0 : Hp) (O : Addr → Prop) (σ : L2.St) (H : Hp) (xs : List V) (Q : L2.St → Hp → Prop), Sta so Z V0 O Γ σ H → AllP Ps xs (vis (hid Z O) H) →
  (∀ σ', Sta so Z V0 O Γ' σ' H → (∀ vs : List Nat, (∀ i ∈ is, i ∈ vs) → wipe σ' vs = wipe σ vs) → Q σ' H) → g xs σ H Q
/-- a context with one slot more -/
def Ctx.put (Γ : Ctx) (i : Nat) (P : Pd) : Ctx := ⟨Γ.sl.set i (some P), Γ.own, Γ.dic⟩
/-- the i-th slot may be set -/
def freeAt (Γ : Ctx) (i : Nat) : Bool := Nat.blt i Γ.sl.length && ((match Γ.own with | some (j, _) => !Nat.beq j i | none => true) && (match Γ.dic with | some (j, _) => !Nat.beq j i | none => true))
theorem freeAt_ok {Γ : Ctx} {i : Nat} (h : freeAt Γ i = true) : i < Γ.sl.length ∧ (∀ j Ps, Γ.own = some (j, Ps) → j ≠ i) ∧ ∀ j d, Γ.dic = some (j, d) → j ≠ i := by
  unfold freeAt at h
  rw [Bool.and_eq_true, Bool.and_eq_true] at h
  obtain ⟨h1, h2, h3⟩ := h
  refine ⟨Nat.le_of_ble_eq_true h1, fun j Ps e => ?_, fun j d e => ?_⟩
  · rw [e] at h2
    intro z
    subst z
    simp at h2
  · rw [e] at h3
    intro z
    subst z
    simp at h3
theorem egName {i : Nat} (h : freeAt Γ i = true) : EvG so (gName i) P Γ (Γ.put i P) [i] := let ⟨a, b, c⟩ := freeAt_ok h; eg_name a b c
theorem eg_nil : EvGs so gNil [] Γ Γ [] := fun Z V0 O σ H xs Q S p k => by
  cases xs with
  | nil => exact ⟨rfl, k σ S fun _ _ => rfl⟩
  | cons _ _ => exact p.elim
theorem eg_cons {g : TG} {gs : TGs} {is js : List Nat} (h : EvG so g P Γ Γ1 is) (hs : EvGs so gs Ps Γ1 Γ2 js) : EvGs so (gCons g gs) (P :: Ps) Γ Γ2 (is ++ js) := fun Z V0 O σ H xs Q S p k => by
  cases xs with
  | nil => exact p.elim
  | cons x xs => exact ⟨x, xs, rfl, h Z V0 O σ H x _ S p.1 fun σ1 S1 w1 => hs Z V0 O σ1 H xs _ S1 p.2 fun σ2 S2 w2 => k σ2 S2 fun vs hv => (w2 vs fun i hi => hv i (List.mem_append_right _ hi)).trans (w1 vs fun i hi => hv i (List.mem_append_left _ hi))⟩
theorem eg_tup {gs : TGs} {n : Nat} {is : List Nat} (h : EvGs so gs Ps Γ Γ1 is) (hn : Ps.length = n) : EvG so (gTup K n gs) (tupP Ps) Γ Γ1 is := fun Z V0 O σ H x Q S ⟨a, xs, e, hx, q⟩ k =>
  ⟨a, xs, e, .inl (.inl (vis_some.mp hx).2), by rw [q.length]; exact hn, h Z V0 O σ H xs _ S q k⟩
theorem egTup2 {P Q : Pd} {i j : Nat} (h : freeAt Γ i = true) (h2 : freeAt (Γ.put i P) j = true) : EvG so (gTup K 2 (gCons (gName i) (gCons (gName j) gNil))) (tupP [P, Q]) Γ ((Γ.put i P).put j Q) [i, j] :=
  eg_tup (eg_cons (egName h) (eg_cons (egName h2) eg_nil)) rfl
theorem egTup3 {P Q R : Pd} {i j k : Nat} (h : freeAt Γ i = true) (h2 : freeAt (Γ.put i P) j = true) (h3 : freeAt ((Γ.put i P).put j Q) k = true) :
    EvG so (gTup K 3 (gCons (gName i) (gCons (gName j) (gCons (gName k) gNil)))) (tupP [P, Q, R]) Γ (((Γ.put i P).put j Q).put k R) [i, j, k] :=
  eg_tup (eg_cons (egName h) (eg_cons (egName h2) (eg_cons (egName h3) eg_nil))) rfl
end
end Qt
set_option Elab.async false
set_option linter.all false
set_option maxRecDepth 100000
set_option maxHeartbeats 4000000
namespace Qt
open PySem PySem.Spec PyProof.Rows L2 Qr
/-! ### contexts that say less -/
def SlLe : List (Option Pd) → List (Option Pd) → Prop
  | [], [] => True
  | _ :: as, none :: bs => SlLe as bs
  | some Q :: as, some P :: bs => Le Q P ∧ SlLe as bs
  | _, _ => False
theorem SlLe.len : ∀ {as bs : List (Option Pd)}, SlLe as bs → bs.length = as.length
  | [], [], _ => rfl
  | none :: as, none :: bs, h => congrArg Nat.succ (SlLe.len (as := as) (bs := bs) h)
  | some _ :: as, none :: bs, h => congrArg Nat.succ (SlLe.len (as := as) (bs := bs) h)
  | some _ :: as, some _ :: bs, h => congrArg Nat.succ (SlLe.len (as := as) (bs := bs) h.2)
  | none :: _, some _ :: _, h => h.elim
  | [], none :: _, h => h.elim
  | [], some _ :: _, h => h.elim
  | none :: _, [], h => h.elim
  | some _ :: _, [], h => h.elim
theorem SlLe.at : ∀ {as bs : List (Option Pd)} {i : Nat} {P : Pd}, SlLe as bs → bs[i]? = some (some P) → ∃ Q, as[i]? = some (some Q) ∧ Le Q P
  | [], [], i, P, _, e => by simp at e
  | none :: as, none :: bs, 0, P, h, e => by simp at e
  | some _ :: as, none :: bs, 0, P, h, e => by simp at e
  | some Q :: as, some R :: bs, 0, P, h, e => by
    have e2 : R = P := by simpa using e
    subst e2
    exact ⟨Q, rfl, h.1⟩
  | none :: as, none :: bs, i + 1, P, h, e => by
    obtain ⟨Q, a, b⟩ := SlLe.at (as := as) (bs := bs) (i := i) (P := P) h (by simpa using e)
    exact ⟨Q, by simpa using a, b⟩
  | some _ :: as, none :: bs, i + 1, P, h, e => by
    obtain ⟨Q, a, b⟩ := SlLe.at (as := as) (bs := bs) (i := i) (P := P) h (by simpa using e)
    exact ⟨Q, by simpa using a, b⟩
  | some _ :: as, some _ :: bs, i + 1, P, h, e => by
    obtain ⟨Q, a, b⟩ := SlLe.at (as := as) (bs := bs) (i := i) (P := P) h.2 (by simpa using e)
    exact ⟨Q, by simpa using a, b⟩
  | none :: _, some _ :: _, _, _, h, _ => h.elim
  | [], none :: _, _, _, h, _ => h.elim
  | [], some _ :: _, _, _, h, _ => h.elim
  | none :: _, [], _, _, h, _ => h.elim
  | some _ :: _, [], _, _, h, _ => h.elim
theorem CLe.of {Γ Γ' : Ctx} (h : SlLe Γ.sl Γ'.sl) (ho : Γ'.own = Γ.own) (hd : Γ'.dic = Γ.dic) : CLe Γ Γ' := ⟨h.len, fun i P e => h.at e, fun i Ps e => ⟨Ps, ho ▸ e, fun _ _ x => x⟩, fun d e => hd ▸ e⟩
theorem CLe.refl (Γ : Ctx) : CLe Γ Γ := ⟨rfl, fun i P e => ⟨P, e, Le.refl P⟩, fun i Ps e => ⟨Ps, e, fun _ _ x => x⟩, fun _ e => e⟩
theorem EvG.le {so : Option Addr} {g : TG} {P : Pd} {Γ Γ1 Γ2 : Ctx} {is : List Nat} (l : CLe Γ Γ1) (h : EvG so g P Γ1 Γ2 is) : EvG so g P Γ Γ2 is := fun Z V0 O σ H x Q S p k => h Z V0 O σ H x Q (S.le l) p k
/-- a loop: I tells of a context that says less than the true one -/
theorem es_forC {so : Option Addr} {Γ : Ctx} {wi : TI} {g : TG} {Ps : List Pd} {tb : TS} {N : Ctx → Prop} {R : Pd} (I : Nat → Ctx → Prop) (hi : EvI so wi Γ Ps) (Γ0 : Ctx) (l0 : CLe Γ Γ0) (h0 : I 0 Γ0)
    (hb : ∀ (i : Nat) (P : Pd) (Γi : Ctx), Ps[i]? = some P → I i Γi → ∃ Γb is, EvG so g P Γi Γb is ∧ EvS so tb Γb (fun G => ∃ Γ', CLe G Γ' ∧ I (i + 1) Γ') R) (hn : ∀ Γ', I Ps.length Γ' → N Γ') (hN : ∀ G Γ', CLe G Γ' → N Γ' → N G) : EvS so (tFor wi g tb) Γ N R :=
  es_for (fun i G => ∃ Γ', CLe G Γ' ∧ I i Γ') hi ⟨Γ0, l0, h0⟩ (fun i P Γi e ⟨Γ', l, h⟩ => let ⟨Γb, is, a, b⟩ := hb i P Γ' e h; ⟨Γb, is, a.le l, b⟩) fun G ⟨Γ', l, h⟩ => hN G Γ' l (hn Γ' h)
/-- a loop and what follows it -/
theorem es_forT {so : Option Addr} {Γ : Ctx} {wi : TI} {g : TG} {Ps : List Pd} {tb u : TS} {N : Ctx → Prop} {R : Pd} (I : Nat → Ctx → Prop) (hi : EvI so wi Γ Ps) (Γ0 : Ctx) (l0 : CLe Γ Γ0) (h0 : I 0 Γ0)
    (hb : ∀ (i : Nat) (P : Pd) (Γi : Ctx), Ps[i]? = some P → I i Γi → ∃ Γb is, EvG so g P Γi Γb is ∧ EvS so tb Γb (fun G => ∃ Γ', CLe G Γ' ∧ I (i + 1) Γ') R) (hu : ∀ Γ', I Ps.length Γ' → EvS so u Γ' N R) : EvS so (tSeq (tFor wi g tb) u) Γ N R :=
  es_seq (es_for (fun i G => ∃ Γ', CLe G Γ' ∧ I i Γ') hi ⟨Γ0, l0, h0⟩ (fun i P Γi e ⟨Γ', l, h⟩ => let ⟨Γb, is, a, b⟩ := hb i P Γ' e h; ⟨Γb, is, a.le l, b⟩) fun G h => h) fun G ⟨Γ', l, h⟩ => es_le l (hu Γ' h)
/-! ### promises -/
/-- given these kinds it hands back that kind; nothing but the source is written -/
def spF {α : Type} (pre : Option Addr → α → List Pd) (out : α → Pd) : Sp := fun vs H Q _ => ∃ (so : Option Addr) (a : α) (Z : Addr → Prop), (∀ s, so = some s → Z s ∧ SrcAt H s) ∧ Tr Z H ∧ AllP (pre so a) vs (vis Z H) ∧
  ∀ v H', Mv so H H' → (out a).p v (vis Z H') → Q v H'
def srcP (so : Option Addr) : Pd := ⟨fun v _ => ∃ s, so = some s ∧ v = .ref s, fun _ h => h⟩
section
variable {so : Option Addr} {Γ : Ctx} {te : TE} {t : TA} {α : Type} {pre : Option Addr → α → List Pd} {out : α → Pd} {N : Ctx → Prop} {R : Pd}
theorem sp_of {Z : Addr → Prop} {V0 : Hp} {O : Addr → Prop} {σ : L2.St} {H : Hp} {vs : List V} {Q : VK} {E : XK} {a : α} (S : Sta so Z V0 O Γ σ H) (p : AllP (pre so a) vs (vis (hid Z O) H)) (k : ∀ v H', Mv so H H' → (out a).p v (vis (hid Z O) H') → Q v H') : spF pre out vs H Q E :=
  ⟨so, a, hid Z O, fun s e => ⟨.inl (S.sz s e), S.sr s e⟩, S.tr, p, k⟩
theorem ev_call {a : α} (h : EvA so t Γ (pre so a)) : Ev so (tCall (spF pre out) [] E0 t) Γ (out a) := fun Z V0 O σ H K S k => h Z V0 O σ H _ S fun vs H1 m p => by
  rw [List.append_nil]
  exact sp_of (S.mv m) p fun v H2 m2 q => k v H2 (m.trans m2) q
/-- an instance of the class C, its fields told by fs -/
class InsP (P : Pd) (C : outParam Addr) (ks : outParam (List Str)) : Prop where
  ok : ∀ v H, P.p v H → ∃ a dx fs, v = .ref a ∧ H a = some (.ins C dx fs) ∧ fs.map (·.1) = ks
theorem lookup_none {fs : List (Str × V)} {ks : List Str} {m : Str} (h : fs.map (·.1) = ks) (hk : ks.contains m = false) : fs.lookup m = none := by
  subst h
  induction fs with
  | nil => rfl
  | cons q fs ih =>
    have e : ((q.1 :: fs.map (·.1)).contains m) = false := hk
    rw [List.contains_cons, Bool.or_eq_false_iff] at e
    show (match m == q.1 with | true => some q.2 | false => fs.lookup m) = none
    rw [e.1]
    exact ih e.2
theorem ev_prop {P : Pd} {C : Addr} {ks : List Str} [hi : InsP P C ks] {a : α} (h : Ev so te Γ P) (hp : pre so a = [P]) : Ev so (tProp C (spF pre out) [] E0 te) Γ (out a) := fun Z V0 O σ H K S k => h Z V0 O σ H _ S fun x H1 m p => by
  obtain ⟨b, dx, fs, e, hb, _⟩ := hi.ok x _ p
  subst e
  refine ⟨b, dx, fs, rfl, (vis_some.mp hb).2, sp_of (S.mv m) (a := a) ?_ fun v H2 m2 q => k v H2 (m.trans m2) q⟩
  rw [hp]
  exact ⟨p, trivial⟩
theorem ev_meth {P : Pd} {Ps : List Pd} {C : Addr} {ks : List Str} [hi : InsP P C ks] {m : Str} {a : α} (h : Ev so te Γ P) (ht : EvA so t Γ Ps) (hp : pre so a = P :: Ps) (hm : ks.contains m = false) : Ev so (tMeth C m (spF pre out) [] E0 te t) Γ (out a) := fun Z V0 O σ H K S k => h Z V0 O σ H _ S fun x H1 m1 p => by
  obtain ⟨b, dx, fs, e, hb, hf⟩ := hi.ok x _ p
  subst e
  refine ⟨b, dx, fs, rfl, (vis_some.mp hb).2, lookup_none hf hm, ht Z V0 O σ H1 _ (S.mv m1) fun vs H2 m2 q => ?_⟩
  rw [List.append_nil]
  refine sp_of ((S.mv m1).mv m2) (a := a) ?_ fun v H3 m3 r => k v H3 ((m1.trans m2).trans m3) r
  rw [hp]
  exact ⟨P.st ((S.mv m1).grow m2) p, q⟩
/-- a field of the instance -/
class FldP (P : Pd) (C : outParam Addr) (f : Str) (R : outParam Pd) : Prop where
  ok : ∀ v H, P.p v H → ∃ a dx fs x, v = .ref a ∧ H a = some (.ins C dx fs) ∧ fs.lookup f = some x ∧ R.p x H
theorem ev_fld {K : PySem.W.Frag} {P R : Pd} {C : Addr} {f : Str} [hi : FldP P C f R] (h : Ev so te Γ P) (c : Cls K C) (n : NoAttr K C f) : Ev so (tFld K te f) Γ R := fun Z V0 O σ H K2 S k => h Z V0 O σ H _ S fun x H1 m p => by
  obtain ⟨b, dx, fs, y, e, hb, hf, py⟩ := hi.ok x _ p
  exact ⟨b, C, dx, fs, y, e, (vis_some.mp hb).2, c, n, hf, k y H1 m py⟩
/-- len of an instance by its own __len__ -/
theorem ev_lenO {P : Pd} {C : Addr} {ks : List Str} [hi : InsP P C ks] {a : α} {n : Nat} (h : Ev so te Γ P) (hp : pre so a = [P]) (ho : out a = intP (n : Int)) (hn : n < 2 ^ 62) : Ev so (tCB (rLenO C (spF pre out)) (tCons te tNil)) Γ (intP (n : Int)) := fun Z V0 O σ H K S k => (ea_cons h ea_nil) Z V0 O σ H _ S fun xs H1 m q => by
  obtain ⟨x, rfl, p⟩ := allP1 q
  obtain ⟨b, dx, fs, e, hb, _⟩ := hi.ok x _ p
  subst e
  refine ⟨b, dx, fs, rfl, (vis_some.mp hb).2, sp_of (S.mv m) (a := a) (by rw [hp]; exact ⟨p, trivial⟩) fun v H2 m2 q2 => ?_⟩
  rw [ho] at q2
  have e2 : v = .int (n : Int) := q2
  exact ⟨n, e2, by omega, by omega, k _ H2 (m.trans m2) rfl⟩
/-- x in o by its own __contains__ -/
theorem ev_inO {tb : TE} {P Q : Pd} {C : Addr} {ks : List Str} [hi : InsP P C ks] {a : α} {b : Bool} (hx : Ev so te Γ Q) (h : Ev so tb Γ P) (hp : pre so a = [P, Q]) (ho : out a = blP b) : Ev so (tOp (rInO C (spF pre out)) te tb) Γ (blP b) := fun Z V0 O σ H K S k => hx Z V0 O σ H _ S fun x H1 m1 p1 => h Z V0 O σ H1 _ (S.mv m1) fun y H2 m2 p2 => by
  obtain ⟨c, dx, fs, e, hb, _⟩ := hi.ok y _ p2
  subst e
  refine ⟨c, dx, fs, rfl, (vis_some.mp hb).2, sp_of ((S.mv m1).mv m2) (a := a) (by rw [hp]; exact ⟨p2, Q.st ((S.mv m1).grow m2) p1, trivial⟩) fun v H3 m3 q2 => ?_⟩
  rw [ho] at q2
  have e2 : v = .bl b := q2
  exact ⟨b, e2, k _ H3 ((m1.trans m2).trans m3) rfl⟩
end
/-! ### defs -/
def ctx0 (N : List Str) (Ps : List Pd) : Ctx := ⟨Ps.map some ++ List.replicate (N.length - Ps.length) none, none, none⟩
theorem sta0 {so : Option Addr} {Z : Addr → Prop} {H : Hp} {N : List Str} {Ps : List Pd} {vs : List V} (hs : ∀ s, so = some s → Z s ∧ SrcAt H s) (ht : Tr Z H) (hp : AllP Ps vs (vis Z H)) : Sta so Z (here so none' H) none' (ctx0 N Ps) (L2.start N vs) H := by
  have hl := hp.length
  have hz : hid Z none' = Z := by
    funext b
    unfold hid none'
    simp
  refine ⟨fun b u e => let ⟨a, c⟩ := vis_some.mp e; ⟨c, fun z => a (.inl z), fun z => z⟩, fun b e => (hs b e).1, by rw [hz]; exact ht, fun b e => (hs b e).2, ?_, fun i P e => ?_, fun i Ps e => (nomatch e), fun i ls f e => nomatch e⟩
  · unfold L2.start ctx0
    rw [List.length_append, List.length_append, List.length_map, List.length_map, List.length_replicate, List.length_replicate, hl]
  · rw [hz]
    unfold ctx0 at e
    have e : (Ps.map some ++ List.replicate (N.length - Ps.length) (none : Option Pd))[i]? = some (some P) := e
    by_cases hi : i < Ps.length
    · rw [List.getElem?_append_left (by simpa using hi), List.getElem?_map] at e
      obtain ⟨Q, e1, e2⟩ := Option.map_eq_some_iff.mp e
      have e3 : Q = P := Option.some.inj e2
      subst e3
      obtain ⟨v, e4, pv⟩ := hp.get e1
      refine ⟨v, ?_, pv⟩
      unfold L2.start
      rw [List.getElem?_append_left (by rw [List.length_map, hl]; exact hi), List.getElem?_map, e4]
      rfl
    · rw [List.getElem?_append_right (by simpa using hi), List.getElem?_replicate] at e
      split at e <;> cases e
section
variable {P : Program} {w : World} {K : PySem.W.Frag} {mg : Str → Option Value} {base : Heap} {x qual : Str} {params : Arguments} {body : List Stmt} {scope : Scope} {dvs : List V} {kws : List (Str × V)} {f : Addr} {fd : FuncData}
  {α : Type} {pre : Option Addr → α → List Pd} {out : α → Pd}
/-- a def whose body has the types; fall: it may end without a return -/
theorem fn_ty {N ps : List Str} {k : Nat} {Fall : Prop} (F : FunD K x qual params body scope dvs kws f fd) (S : FnScope N ps scope) (len : ∀ so a, (pre so a).length = ps.length) (hf : Fall → ∀ a, Le nonP (out a))
    (hb : ∀ (cdv : Value) (A : Around) (outer : List Env) (s : Shared) (H : Hp) (E : XK), Room k (A.deeper (envOfC qual scope s.heap.objs.size f cdv)) →
      ∃ t, PSs (cxOf CX0 P w K mg base N qual scope f cdv A outer s H E).nox body t ∧ ∀ so a, EvS so t (ctx0 N (pre so a)) (fun _ => Fall) (out a)) : FnOk P w K mg base CX0 (k + 1) f fd ps (spF pre out) := by
  refine F.ok S (fun vs H Q E ⟨so, a, Z, _, _, p, _⟩ => p.length.trans (len so a)) fun cdv A outer s H vs Q E hr ⟨so, a, Z, h1, h2, p, k2⟩ => ?_
  obtain ⟨t, ht, he⟩ := hb cdv A outer s H E hr
  refine ⟨t, ht.nox, he so a Z _ _ _ H _ (sta0 h1 h2 p) (fun Γ' O' σ' H' hF S' => ?_) fun v H' a1 a2 a3 => ?_⟩
  · refine k2 _ H' ⟨fun b u n e => (S'.v0 b u (vis_some.mpr ⟨fun z => z.elim n fun y => y, e⟩)).1, fun b e _ => S'.sr b e⟩ ?_
    exact hf hF a _ _ rfl
  · exact k2 _ H' ⟨fun b u n e => a1 b u (vis_some.mpr ⟨fun z => z.elim n fun y => y, e⟩), fun b e _ => a2 b e⟩ a3
end
end Qt
set_option Elab.async false
set_option linter.all false
set_option maxRecDepth 100000
set_option maxHeartbeats 4000000
/-! The text's defs by places, and what the head tells of them. Printed by gen_fa.py. -/
namespace Qf
open PySem PySem.Spec PyProof.Rows L2 Qr Qt
def top (i : Nat) : Stmt := PySem.Challenge.pw_quietdoors_k22_whole_papers_judged.main.body.getD i (.Pass ⟨0, 0, 0, 0⟩)
abbrev dOf (a : PySem.Str × Option PySem.Str) (n q : PySem.Str) (st : Stmt) (ds : List He.Dv := []) (ks : List (PySem.Str × He.Dv) := []) : He.DefD := ⟨a, n, q, defArgs st, defBody st, defScope st, ds, ks⟩
abbrev s_is_integer : Stmt := top 13
def d_is_integer : He.DefD := dOf ("is_integer", none) "is_integer" "is_integer" s_is_integer
abbrev s_is_between : Stmt := top 14
def d_is_between : He.DefD := dOf ("is_between", none) "is_between" "is_between" s_is_between
abbrev s_is_count : Stmt := top 15
def d_is_count : He.DefD := dOf ("is_count", none) "is_count" "is_count" s_is_count
abbrev s_is_part_value : Stmt := top 16
def d_is_part_value : He.DefD := dOf ("is_part_value", none) "is_part_value" "is_part_value" s_is_part_value
abbrev s_window_of : Stmt := top 19
def d_window_of : He.DefD := dOf ("window_of", none) "window_of" "window_of" s_window_of
abbrev s_links_along : Stmt := top 20
def d_links_along : He.DefD := dOf ("links_along", none) "links_along" "links_along" s_links_along
abbrev s_place_along : Stmt := top 21
def d_place_along : He.DefD := dOf ("place_along", none) "place_along" "place_along" s_place_along
abbrev s_are_steps : Stmt := top 22
def d_are_steps : He.DefD := dOf ("are_steps", none) "are_steps" "are_steps" s_are_steps
abbrev s_can_be_lost : Stmt := top 23
def d_can_be_lost : He.DefD := dOf ("can_be_lost", none) "can_be_lost" "can_be_lost" s_can_be_lost
abbrev s_is_course : Stmt := top 24
def d_is_course : He.DefD := dOf ("is_course", none) "is_course" "is_course" s_is_course
abbrev s_check_course : Stmt := top 25
def d_check_course : He.DefD := dOf ("check_course", none) "check_course" "check_course" s_check_course
abbrev s_seen_at : Stmt := top 26
def d_seen_at : He.DefD := dOf ("seen_at", none) "seen_at" "seen_at" s_seen_at
abbrev s_is_sight : Stmt := top 27
def d_is_sight : He.DefD := dOf ("is_sight", none) "is_sight" "is_sight" s_is_sight
abbrev s_quiet_before : Stmt := top 28
def d_quiet_before : He.DefD := dOf ("quiet_before", none) "quiet_before" "quiet_before" s_quiet_before
abbrev s_course_gap : Stmt := top 29
def d_course_gap : He.DefD := dOf ("course_gap", none) "course_gap" "course_gap" s_course_gap
abbrev s_windows : Stmt := top 31
def d_windows : He.DefD := dOf ("windows", none) "windows" "windows" s_windows
abbrev s_lost_in : Stmt := top 32
def d_lost_in : He.DefD := dOf ("lost_in", none) "lost_in" "lost_in" s_lost_in
abbrev s_lost_between : Stmt := top 33
def d_lost_between : He.DefD := dOf ("lost_between", none) "lost_between" "lost_between" s_lost_between
abbrev s_pairs_of : Stmt := top 34
def d_pairs_of : He.DefD := dOf ("pairs_of", none) "pairs_of" "pairs_of" s_pairs_of
abbrev s_gap : Stmt := top 35
def d_gap : He.DefD := dOf ("gap", none) "gap" "gap" s_gap
abbrev s_ends : Stmt := top 36
def d_ends : He.DefD := dOf ("ends", none) "ends" "ends" s_ends
abbrev s_times_along : Stmt := top 37
def d_times_along : He.DefD := dOf ("times_along", none) "times_along" "times_along" s_times_along
abbrev s_worst_course : Stmt := top 38
def d_worst_course : He.DefD := dOf ("worst_course", none) "worst_course" "worst_course" s_worst_course
abbrev s_gaps : Stmt := top 39
def d_gaps : He.DefD := dOf ("gaps", none) "gaps" "gaps" s_gaps
abbrev s_paper : Stmt := top 41
def d_paper : He.DefD := dOf ("paper", none) "paper" "paper" s_paper
abbrev s_accepts_broken : Stmt := top 42
def d_accepts_broken : He.DefD := dOf ("accepts_broken", none) "accepts_broken" "accepts_broken" s_accepts_broken
abbrev s_accepts_gap : Stmt := top 43
def d_accepts_gap : He.DefD := dOf ("accepts_gap", none) "accepts_gap" "accepts_gap" s_accepts_gap
abbrev s_accepts : Stmt := top 44
def d_accepts : He.DefD := dOf ("accepts", none) "accepts" "accepts" s_accepts
abbrev s_is_link : Stmt := top 48
def d_is_link : He.DefD := dOf ("is_link", none) "is_link" "is_link" s_is_link
abbrev s_are_boxes : Stmt := top 49
def d_are_boxes : He.DefD := dOf ("are_boxes", none) "are_boxes" "are_boxes" s_are_boxes
abbrev s_are_links : Stmt := top 50
def d_are_links : He.DefD := dOf ("are_links", none) "are_links" "are_links" s_are_links
abbrev s_summed : Stmt := top 51
def d_summed : He.DefD := dOf ("summed", none) "summed" "summed" s_summed
abbrev s_are_times : Stmt := top 56
def d_are_times : He.DefD := dOf ("are_times", none) "are_times" "are_times" s_are_times
abbrev s_law_begin : Stmt := top 60
def d_law_begin : He.DefD := dOf ("_law_begin", none) "_law_begin" "_law_begin" s_law_begin
abbrev s_law_draw : Stmt := top 61
def d_law_draw : He.DefD := dOf ("_law_draw", none) "_law_draw" "_law_draw" s_law_draw
abbrev s_law_pick : Stmt := top 62
def d_law_pick : He.DefD := dOf ("_law_pick", none) "_law_pick" "_law_pick" s_law_pick
abbrev s_law_case : Stmt := top 63
def d_law_case : He.DefD := dOf ("_law_case", none) "_law_case" "_law_case" s_law_case
abbrev s_law_box : Stmt := top 64
def d_law_box : He.DefD := dOf ("_law_box", none) "_law_box" "_law_box" s_law_box
abbrev s_law_line : Stmt := top 65
def d_law_line : He.DefD := dOf ("_law_line", none) "_law_line" "_law_line" s_law_line
abbrev s_law_row : Stmt := top 66
def d_law_row : He.DefD := dOf ("_law_row", none) "_law_row" "_law_row" s_law_row
abbrev s_law_times : Stmt := top 67
def d_law_times : He.DefD := dOf ("_law_times", none) "_law_times" "_law_times" s_law_times
abbrev s_law_talk : Stmt := top 68
def d_law_talk : He.DefD := dOf ("_law_talk", none) "_law_talk" "_law_talk" s_law_talk
abbrev s_law_made_talk : Stmt := top 69
def d_law_made_talk : He.DefD := dOf ("_law_made_talk", none) "_law_made_talk" "_law_made_talk" s_law_made_talk
abbrev s_law_letters : Stmt := top 70
def d_law_letters : He.DefD := dOf ("_law_letters", none) "_law_letters" "_law_letters" s_law_letters
abbrev s_law_sent : Stmt := top 71
def d_law_sent : He.DefD := dOf ("_law_sent", none) "_law_sent" "_law_sent" s_law_sent
abbrev s_law_span : Stmt := top 72
def d_law_span : He.DefD := dOf ("_law_span", none) "_law_span" "_law_span" s_law_span
abbrev s_law_is_sight : Stmt := top 73
def d_law_is_sight : He.DefD := dOf ("_law_is_sight", none) "_law_is_sight" "_law_is_sight" s_law_is_sight
abbrev s_law_can_lose : Stmt := top 74
def d_law_can_lose : He.DefD := dOf ("_law_can_lose", none) "_law_can_lose" "_law_can_lose" s_law_can_lose
abbrev s_law_gone : Stmt := top 75
def d_law_gone : He.DefD := dOf ("_law_gone", none) "_law_gone" "_law_gone" s_law_gone
abbrev s_law_gaps : Stmt := top 76
def d_law_gaps : He.DefD := dOf ("_law_gaps", none) "_law_gaps" "_law_gaps" s_law_gaps
abbrev s_law_greatest : Stmt := top 77
def d_law_greatest : He.DefD := dOf ("_law_greatest", none) "_law_greatest" "_law_greatest" s_law_greatest
abbrev s_law_way_of : Stmt := top 78
def d_law_way_of : He.DefD := dOf ("_law_way_of", none) "_law_way_of" "_law_way_of" s_law_way_of
abbrev s_law_course : Stmt := top 79
def d_law_course : He.DefD := dOf ("_law_course", none) "_law_course" "_law_course" s_law_course
abbrev s_law_come : Stmt := top 80
def d_law_come : He.DefD := dOf ("_law_come", none) "_law_come" "_law_come" s_law_come
abbrev s_law_quiet : Stmt := top 81
def d_law_quiet : He.DefD := dOf ("_law_quiet", none) "_law_quiet" "_law_quiet" s_law_quiet
abbrev s_law_long : Stmt := top 82
def d_law_long : He.DefD := dOf ("_law_long", none) "_law_long" "_law_long" s_law_long
abbrev s_law_table : Stmt := top 83
def d_law_table : He.DefD := dOf ("_law_table", none) "_law_table" "_law_table" s_law_table
abbrev s_law : Stmt := top 84
def d_law : He.DefD := dOf ("law", none) "law" "law" s_law
abbrev s_Box_init : Stmt := inClass (top 17) 0
def d_Box_init : He.DefD := dOf ("Box", some "__init__") "__init__" "Box.__init__" s_Box_init [] [("rest", .int 0), ("sees", .str "out")]
abbrev s_Row_init : Stmt := inClass (top 52) 0
def d_Row_init : He.DefD := dOf ("Row", some "__init__") "__init__" "Row.__init__" s_Row_init
abbrev s_Row_len : Stmt := inClass (top 52) 3
def d_Row_len : He.DefD := dOf ("Row", some "__len__") "__len__" "Row.__len__" s_Row_len
abbrev s_Row_check : Stmt := inClass (top 52) 4
def d_Row_check : He.DefD := dOf ("Row", some "check") "check" "Row.check" s_Row_check
abbrev s_Row_out_delay : Stmt := inClass (top 52) 10
def d_Row_out_delay : He.DefD := dOf ("Row", some "out_delay") "out_delay" "Row.out_delay" s_Row_out_delay
abbrev s_Row_back_delay : Stmt := inClass (top 52) 11
def d_Row_back_delay : He.DefD := dOf ("Row", some "back_delay") "back_delay" "Row.back_delay" s_Row_back_delay
abbrev s_Talk_init : Stmt := inClass (top 58) 0
def d_Talk_init : He.DefD := dOf ("Talk", some "__init__") "__init__" "Talk.__init__" s_Talk_init [.adr (He.dflAt ("Talk", some "__init__") 0), .int 0]
abbrev s_Talk_letters : Stmt := inClass (top 58) 5
def d_Talk_letters : He.DefD := dOf ("Talk", some "letters") "letters" "Talk.letters" s_Talk_letters
abbrev s_Talk_contains : Stmt := inClass (top 58) 6
def d_Talk_contains : He.DefD := dOf ("Talk", some "__contains__") "__contains__" "Talk.__contains__" s_Talk_contains
abbrev s_Talk_time : Stmt := inClass (top 58) 7
def d_Talk_time : He.DefD := dOf ("Talk", some "time") "time" "Talk.time" s_Talk_time
def fn : List He.DefD := [d_is_integer, d_is_between, d_is_count, d_is_part_value, d_window_of, d_links_along, d_place_along, d_are_steps, d_can_be_lost, d_is_course, d_check_course, d_seen_at, d_is_sight, d_quiet_before, d_course_gap, d_windows, d_lost_in, d_lost_between, d_pairs_of, d_gap, d_ends, d_times_along, d_worst_course, d_gaps, d_paper, d_accepts_broken, d_accepts_gap, d_accepts, d_is_link, d_are_boxes, d_are_links, d_summed, d_are_times, d_law_begin, d_law_draw, d_law_pick, d_law_case, d_law_box, d_law_line, d_law_row, d_law_times, d_law_talk, d_law_made_talk, d_law_letters, d_law_sent, d_law_span, d_law_is_sight, d_law_can_lose, d_law_gone, d_law_gaps, d_law_greatest, d_law_way_of, d_law_course, d_law_come, d_law_quiet, d_law_long, d_law_table, d_law, d_Box_init, d_Row_init, d_Row_len, d_Row_check, d_Row_out_delay, d_Row_back_delay, d_Talk_init, d_Talk_letters, d_Talk_contains, d_Talk_time]
def fa : List He.Fa := [.glo "is_integer", .glo "is_between", .glo "is_count", .glo "is_part_value", .glo "window_of", .glo "links_along", .glo "place_along", .glo "are_steps", .glo "can_be_lost", .glo "is_course", .glo "check_course", .glo "seen_at", .glo "is_sight", .glo "quiet_before", .glo "course_gap", .glo "windows", .glo "lost_in", .glo "lost_between", .glo "pairs_of", .glo "gap", .glo "ends", .glo "times_along", .glo "worst_course", .glo "gaps", .glo "paper", .glo "accepts_broken", .glo "accepts_gap", .glo "accepts", .glo "is_link", .glo "are_boxes", .glo "are_links", .glo "summed", .glo "are_times", .glo "_law_begin", .glo "_law_draw", .glo "_law_pick", .glo "_law_case", .glo "_law_box", .glo "_law_line", .glo "_law_row", .glo "_law_times", .glo "_law_talk", .glo "_law_made_talk", .glo "_law_letters", .glo "_law_sent", .glo "_law_span", .glo "_law_is_sight", .glo "_law_can_lose", .glo "_law_gone", .glo "_law_gaps", .glo "_law_greatest", .glo "_law_way_of", .glo "_law_course", .glo "_law_come", .glo "_law_quiet", .glo "_law_long", .glo "_law_table", .glo "law", .glo "Box", .glo "Row", .glo "Talk", .glo "PARTS", .free "len", .free "range", .free "zip", .free "enumerate", .free "all", .free "sum", .free "max", .free "isinstance", .free "int", .free "bool", .free "str", .free "list", .free "tuple", .free "dict", .free "sorted", .free "repr", .int "MOST_TIME" 10000, .int "MOST_BOXES" 4, .int "MOST_LINK" 1000, .int "MOST_TIMES" 60, .int "MOST_LOSSES" 5, .cls "Box", .mkr "Box", .cls "Row", .mkr "Row", .cls "Talk", .mkr "Talk", .noat "Box" "kept_parts", .noat "Row" "kept_boxes", .noat "Row" "kept_links", .noat "Talk" "kept_out", .noat "Talk" "kept_back", .noat "Talk" "kept_losses", .meth "Row" "__len__", .meth "Row" "check", .meth "Row" "out_delay", .meth "Row" "back_delay", .meth "Talk" "letters", .meth "Talk" "__contains__", .meth "Talk" "time"]
def tops : List PySem.Str := (["is_integer", "is_between", "is_count", "is_part_value", "window_of", "links_along", "place_along", "are_steps", "can_be_lost", "is_course", "check_course", "seen_at", "is_sight", "quiet_before", "course_gap", "windows", "lost_in", "lost_between", "pairs_of", "gap", "ends", "times_along", "worst_course", "gaps", "paper"] : List PySem.Str) ++ (["accepts_broken", "accepts_gap", "accepts", "is_link", "are_boxes", "are_links", "summed", "are_times", "_law_begin", "_law_draw", "_law_pick", "_law_case", "_law_box", "_law_line", "_law_row", "_law_times", "_law_talk", "_law_made_talk", "_law_letters", "_law_sent", "_law_span", "_law_is_sight", "_law_can_lose", "_law_gone", "_law_gaps"] : List PySem.Str) ++ (["_law_greatest", "_law_way_of", "_law_course", "_law_come", "_law_quiet", "_law_long", "_law_table", "law", "PARTS"] : List PySem.Str)
def classes : List PySem.Str := ["Box", "Row", "Talk"]
/-! ### getters -/
def gAd (K : PySem.W.Frag) (q : PySem.Str × PySem.Str) : Addr := match PySem.W.recIn K (He.ma K (He.ga K q.1) q.2) "property" with
  | some (Value.ref g :: _) => g
  | _ => 0
structure Gt where
  at_ : PySem.Str × PySem.Str
  nm : PySem.Str
  ql : PySem.Str
  st : Stmt
abbrev GtV : Type := Option (FuncBody × Arguments × PySem.Str × PySem.Str × Scope × List (PySem.Str × Addr) × Addr × Addr)
def gtV (K : PySem.W.Frag) (q : PySem.Str × PySem.Str) : GtV := match K.lookup (gAd K q) with
  | some ⟨_, _, .func u, _⟩ => some (u.body, u.params, u.qualname, u.name, u.scope, u.closure, u.builtins, u.globals)
  | _ => none
def Gt.val (d : Gt) : GtV := some (.stmts (defBody d.st), defArgs d.st, d.ql, d.nm, defScope d.st, [], builtinsNs, mainGlobals)
def Gt.ok (K : PySem.W.Frag) (d : Gt) : Bool := PySem.W.keepIn K (.ref (gAd K d.at_)) && (match K.lookup (gAd K d.at_) with
  | some ⟨_, _, .func u, _⟩ => PySem.W.codeIn K u.code d.ql && He.dflB K u.defaults []
  | _ => false)
theorem Gt.funD {K : PySem.W.Frag} {d : Gt} (e : gtV K d.at_ = d.val) (c : d.ok K = true) : ∃ fd, FunD K d.nm d.ql (defArgs d.st) (defBody d.st) (defScope d.st) [] [] (gAd K d.at_) fd := by
  obtain ⟨kp, c2⟩ := He.ba c
  unfold gtV at e
  cases q : K.lookup (gAd K d.at_) with
  | none =>
    rw [q] at c2
    cases c2
  | some o =>
    obtain ⟨oc, od, dt, osl⟩ := o
    rw [q] at c2 e
    cases dt with
    | func u =>
      obtain ⟨n1, n2, n3, n4, n5, n6, n7, n8, n9, n10, n11, n12, n13, n14, n15⟩ := u
      have e3 := Option.some.inj e
      simp only [Prod.mk.injEq] at e3
      obtain ⟨h1, h2, h3, h4, h5, h6, h7, h8⟩ := e3
      subst h1 h2 h3 h4 h5 h6 h7 h8
      obtain ⟨k1, k2⟩ := He.ba c2
      exact ⟨_, ⟨oc, od, n8, n9, n10, n11, n12, n13, n14, osl, rfl, q, k1, He.dflB_ok k2, .inl rfl⟩, kp⟩
    | _ => cases c2
abbrev s_Box_low : Stmt := inClass (top 17) 1
def p_Box_low : Gt := ⟨("Box", "low"), "low", "Box.low", s_Box_low⟩
abbrev s_Box_sees : Stmt := inClass (top 17) 4
def p_Box_sees : Gt := ⟨("Box", "sees"), "sees", "Box.sees", s_Box_sees⟩
abbrev s_Row_boxes : Stmt := inClass (top 52) 1
def p_Row_boxes : Gt := ⟨("Row", "boxes"), "boxes", "Row.boxes", s_Row_boxes⟩
abbrev s_Row_links : Stmt := inClass (top 52) 2
def p_Row_links : Gt := ⟨("Row", "links"), "links", "Row.links", s_Row_links⟩
abbrev s_Talk_losses : Stmt := inClass (top 58) 3
def p_Talk_losses : Gt := ⟨("Talk", "losses"), "losses", "Talk.losses", s_Talk_losses⟩
def gs : List Gt := [p_Box_low, p_Box_sees, p_Row_boxes, p_Row_links, p_Talk_losses]
def prB (K : PySem.W.Frag) (q : PySem.Str × PySem.Str) : Bool :=
  He.eqO (PySem.W.findIn K (.ref (He.ga K q.1)) q.2) (some (some (.ref (He.ma K (He.ga K q.1) q.2)))) && (He.eqO (PySem.W.specialIn K (.ref (He.ma K (He.ga K q.1) q.2)) "__get__") (some (some (.builtin "property.__get__"))) &&
    (decide (PySem.W.takesIn K (.ref (He.ma K (He.ga K q.1) q.2)) = some true) && (match PySem.W.recIn K (He.ma K (He.ga K q.1) q.2) "property" with
      | some (Value.ref _ :: _) => true
      | _ => false)))
theorem prB_ok {K : PySem.W.Frag} {q : PySem.Str × PySem.Str} (h : prB K q = true) : PropOf K (He.ga K q.1) q.2 (He.ma K (He.ga K q.1) q.2) (gAd K q) := by
  obtain ⟨h1, h⟩ := He.ba h
  obtain ⟨h2, h⟩ := He.ba h
  obtain ⟨h3, h4⟩ := He.ba h
  refine ⟨He.eqO_ok h1, He.eqO_ok h2, of_decide_eq_true h3, ?_⟩
  unfold gAd
  split at h4
  · rename_i g r e
    rw [e]
    exact ⟨r, rfl⟩
  · cases h4
/-- what isinstance asks of the class Box -/
def boxB (K : PySem.W.Frag) : Bool := He.eqO (PySem.W.findIn K (.ref (He.ga K "Box")) "__class__") (some (some (.builtin "object.__class__"))) &&
  (He.eqO (PySem.W.specialIn K (.builtin "object.__class__") "__get__") (some (some (.builtin "getset_descriptor.__get__"))) && (decide (PySem.W.takesIn K (.builtin "object.__class__") = some true) && decide (PySem.W.mroIn K (He.ga K "Box") (.type "object") = some true)))
theorem boxB_ok {K : PySem.W.Frag} (h : boxB K = true) : PySem.W.findIn K (.ref (He.ga K "Box")) "__class__" = some (some (.builtin "object.__class__")) ∧ PySem.W.specialIn K (.builtin "object.__class__") "__get__" = some (some (.builtin "getset_descriptor.__get__")) ∧
    PySem.W.takesIn K (.builtin "object.__class__") = some true ∧ PySem.W.mroIn K (He.ga K "Box") (.type "object") = some true := by
  obtain ⟨h1, h⟩ := He.ba h
  obtain ⟨h2, h⟩ := He.ba h
  obtain ⟨h3, h4⟩ := He.ba h
  exact ⟨He.eqO_ok h1, He.eqO_ok h2, of_decide_eq_true h3, of_decide_eq_true h4⟩
def partsB (K : PySem.W.Frag) : Bool := He.tupB K "PARTS" [.str "low", .str "high", .str "rest", .str "sees"]
def exB (K : PySem.W.Frag) : Bool := (gs.all fun g => prB K g.at_ && g.ok K) && (boxB K && partsB K)
/-! ### the hook -/
abbrev Al : Type := He.AlD × Bool × List GtV
def obs (K : PySem.W.Frag) : Al := (He.obsD fa fn K, exB K, gs.map fun g => gtV K g.at_)
def val : Al := (He.valD fn, true, gs.map Gt.val)
def Says (K : PySem.W.Frag) : Prop := obs K = val
/-- the addresses that are looked at: the names' values, what they name; the three classes' dicts, what stands there, what that names, twice -/
def refs (g : Addr → Option Obj) (as : List Addr) : List Addr := as.flatMap fun a => match g a with
  | some o => He.refsD o
  | none => []
def clNs (g : Addr → Option Obj) (a : Addr) : List Addr := match g a with
  | some ⟨_, _, .cls cd, _⟩ => [cd.ns]
  | _ => []
def asOf (g : Addr → Option Obj) : List Addr :=
  let K0 := He.frG g [mainGlobals]
  let l1 := tops.map (He.ga K0)
  let cs := classes.map (He.ga K0)
  let l3 := refs g (cs.flatMap (clNs g))
  let l4 := refs g l3
  mainGlobals :: (l1 ++ cs ++ cs.flatMap (clNs g) ++ refs g l1 ++ refs g cs ++ l3 ++ l4 ++ refs g l4)
def obsAt (n : Nat) (g : Addr → Option Obj) : Al := obs (He.frG g (asOf g))
def hook (n : Nat) : PySem.W.Hook where
  α := Al
  obs := fun s => obsAt n s.heap.get?
  val := fun _ => val
  says := fun _ h => ∃ K : PySem.W.Frag, K.In h ∧ Says K
  of := fun _ _ e => ⟨_, He.frG_in, e⟩
  keeps := fun _ _ _ ⟨K, hK, c⟩ k => ⟨K, PySem.W.Frag.In.keeps hK k, c⟩
theorem obsAt_eq {n : Nat} {g : Addr → Option Obj} {s : Shared} (h : ∀ a, g a = s.heap.get? a) : obsAt n g = (hook n).obs s := by
  have e : g = s.heap.get? := funext h
  rw [e]
  rfl
/-- all that the defs lean on -/
structure Kit (K : PySem.W.Frag) (mg : PySem.Str → Option Value) : Prop where
  says : Says K
  ns : ∃ h : Heap, K.In h ∧ h.Ns mainGlobals mg
section
variable {K : PySem.W.Frag} {mg : PySem.Str → Option Value}
theorem Kit.sd (Y : Kit K mg) : He.SaysD fa fn K := congrArg (fun z : Al => z.1) Y.says
theorem Kit.ex (Y : Kit K mg) : exB K = true := congrArg (fun z : Al => z.2.1) Y.says
theorem Kit.glo (Y : Kit K mg) (i : Nat) {x : PySem.Str} (h : fa[i]? = some (.glo x) := by rfl) : mg x = some (.ref (He.ga K x)) := let ⟨_, KX, G⟩ := Y.ns; He.glo_ok KX G (Y.sd.fact i h)
theorem Kit.free (Y : Kit K mg) (i : Nat) {x : PySem.Str} (h : fa[i]? = some (.free x) := by rfl) : mg x = none := let ⟨_, KX, G⟩ := Y.ns; He.free_ok KX G (Y.sd.fact i h)
theorem Kit.int (Y : Kit K mg) (i : Nat) {x : PySem.Str} {n : Int} (h : fa[i]? = some (.int x n) := by rfl) : ∃ t, mg x = some (.int n t) := let ⟨_, KX, G⟩ := Y.ns; He.int_ok KX G (Y.sd.fact i h)
theorem Kit.cls (Y : Kit K mg) (i : Nat) {x : PySem.Str} (h : fa[i]? = some (.cls x) := by rfl) : Cls K (He.ga K x) := He.cls_ok (Y.sd.fact i h)
theorem Kit.mkr (Y : Kit K mg) (i : Nat) {x : PySem.Str} (h : fa[i]? = some (.mkr x) := by rfl) : Mk K (He.ga K x) (He.ma K (He.ga K x) "__init__") := He.mkr_ok (Y.sd.fact i h)
theorem Kit.noat (Y : Kit K mg) (i : Nat) {x f : PySem.Str} (h : fa[i]? = some (.noat x f) := by rfl) : NoAttr K (He.ga K x) f := He.noat_ok (Y.sd.fact i h)
theorem Kit.meth (Y : Kit K mg) (i : Nat) {x m : PySem.Str} (h : fa[i]? = some (.meth x m) := by rfl) : Meth K (He.ga K x) m (He.ma K (He.ga K x) m) := He.meth_ok (Y.sd.fact i h)
theorem Kit.def_ (Y : Kit K mg) (i : Nat) {d : He.DefD} (h : fn[i]? = some d := by rfl) : ∃ fd, FunD K d.name d.qual d.params d.body d.scope (d.dvs K) (d.kws K) (He.fAd K d.at_) fd := Y.sd.def_ i h
theorem Kit.gt (Y : Kit K mg) (i : Nat) {g : Gt} (h : gs[i]? = some g := by rfl) : PropOf K (He.ga K g.at_.1) g.at_.2 (He.ma K (He.ga K g.at_.1) g.at_.2) (gAd K g.at_) ∧ ∃ fd, FunD K g.nm g.ql (defArgs g.st) (defBody g.st) (defScope g.st) [] [] (gAd K g.at_) fd := by
  have hm : g ∈ gs := List.mem_of_getElem? h
  obtain ⟨c1, _⟩ := He.ba Y.ex
  obtain ⟨c2, c3⟩ := He.ba (List.all_eq_true.mp c1 g hm)
  have e : (gs.map fun g => gtV K g.at_) = gs.map Gt.val := congrArg (fun z : Al => z.2.2) Y.says
  have e2 : (gs.map fun g => gtV K g.at_)[i]? = (gs.map Gt.val)[i]? := by rw [e]
  rw [List.getElem?_map, List.getElem?_map, h] at e2
  exact ⟨prB_ok c2, Gt.funD (Option.some.inj e2) c3⟩
theorem Kit.box (Y : Kit K mg) : boxB K = true := (He.ba (He.ba Y.ex).2).1
theorem Kit.parts (Y : Kit K mg) (H : Hp) : SqT K H (He.ga K "PARTS") [.str "low", .str "high", .str "rest", .str "sees"] := He.tupB_ok (He.ba (He.ba Y.ex).2).2 H
end
end Qf
set_option Elab.async false
set_option linter.all false
set_option maxRecDepth 100000
set_option maxHeartbeats 4000000
/-! Rules in short for the text's expressions. -/
namespace Qp
open PySem PySem.Spec PyProof.Rows L2 Qr Qt Qf RZ
/-- a def that keeps its promise, called by its name -/
structure Dfn (P : Program) (w : World) (K : PySem.W.Frag) (mg : Str → Option Value) (base : Heap) (k : Nat) (x : Str) (ps : List Str) (sp : Sp) : Prop where
  ex : ∃ f fd, mg x = some (.ref f) ∧ PySem.W.keepIn K (.ref f) = true ∧ Binds K fd ps [] ∧ FnOk P w K mg base CX0 k f fd ps sp
/-- a method -/
structure Mth (P : Program) (w : World) (K : PySem.W.Frag) (mg : Str → Option Value) (base : Heap) (k : Nat) (C : Addr) (m : Str) (ps : List Str) (sp : Sp) : Prop where
  ex : ∃ f fd, Cls K C ∧ Meth K C m f ∧ Binds K fd ps [] ∧ FnOk P w K mg base CX0 k f fd ps sp
/-- a property -/
structure Prp (P : Program) (w : World) (K : PySem.W.Frag) (mg : Str → Option Value) (base : Heap) (k : Nat) (C : Addr) (m : Str) (ps : List Str) (sp : Sp) : Prop where
  ex : ∃ p f fd, Cls K C ∧ PropOf K C m p f ∧ Binds K fd ps [] ∧ FnOk P w K mg base CX0 k f fd ps sp
section
variable {X : Cx} {j k : Nat} {x m : Str} {ps : List Str} {sp : Sp} {C : Addr} {p pos apos : Pos} {e o : Expr} {es : List Expr} {t : TA} {ta : TE}
theorem pe_dfn (D : Dfn X.prog X.w X.K X.mg X.base j x ps sp) (hr : Room k X.A) (ha : PA X (e :: es) t) (hj : j ≤ k := by decide) (hg : Gl X x := by rfl) (hdb : (x == ("__debug__" : Str)) = false := by decide)
    (he : starEach (e :: es) X.env = (false, eval e X.env) :: starEach es X.env := by rfl) (hpl : (backTo pos (starEach es X.env)).any (·.1) = false := by rfl) : PE X (.Call (.Name x p) (e :: es) [] pos) (tCall sp [] E0 t) := by
  obtain ⟨f, fd, hm, hk, hb, F⟩ := D.ex
  exact pe_call (F.mono hj) hr hg hm hk hb .nil pass0 ha hdb he hpl
theorem pe_mth {pl : Sem Bool} (D : Mth X.prog X.w X.K X.mg X.base j C m ps sp) (hr : Room k X.A) (he : PE X o ta) (ha : PA X (e :: es) t) (hj : j ≤ k := by decide) (hst : starEach (e :: es) X.env = (false, eval e X.env) :: starEach es X.env := by rfl) (hpl : (backTo pos (starEach es X.env)).any (·.1) = false := by rfl)
    (ht : eval (.Call (.Attribute o m apos) (e :: es) [] pos) X.env = (do
      let ov ← eval o X.env
      standAt apos.atName
      let (f, first) ← holding [ov] (getMethod ov m pl)
      callWith pos f first (backTo pos (starEach (e :: es) X.env)) (backToKw pos (keywordEach [] X.env))) := by rfl) : PE X (.Call (.Attribute o m apos) (e :: es) [] pos) (tMeth C m sp [] E0 ta t) := by
  obtain ⟨f, fd, c, hm, hb, F⟩ := D.ex
  exact pe_meth (pl := pl) he c hm (F.mono hj) hr hb .nil pass0 ha hst hpl ht
theorem pe_mth0 {pl : Sem Bool} (D : Mth X.prog X.w X.K X.mg X.base j C m ps sp) (hr : Room k X.A) (he : PE X o ta) (hj : j ≤ k := by decide)
    (ht : eval (.Call (.Attribute o m apos) [] [] pos) X.env = (do
      let ov ← eval o X.env
      standAt apos.atName
      let (f, first) ← holding [ov] (getMethod ov m pl)
      callWith pos f first (backTo pos (starEach [] X.env)) (backToKw pos (keywordEach [] X.env))) := by rfl) : PE X (.Call (.Attribute o m apos) [] [] pos) (tMeth C m sp [] E0 ta tNil) := by
  obtain ⟨f, fd, c, hm, hb, F⟩ := D.ex
  exact pe_meth0 (pl := pl) he c hm (F.mono hj) hr hb .nil pass0 ht
theorem pe_prp (D : Prp X.prog X.w X.K X.mg X.base j C m ps sp) (hr : Room k X.A) (he : PE X e ta) (hj : j + 1 ≤ k := by decide) (hab : attributeBase e m X.env (eval e X.env) = eval e X.env := by rfl) : PE X (.Attribute e m pos) (tProp C sp [] E0 ta) := by
  obtain ⟨q, f, fd, c, hp, hb, F⟩ := D.ex
  exact pe_prop he c hp F (hr.mono hj) hb .nil pass0 hab
/-- len by an own __len__ -/
theorem pe_lenO (D : Mth X.prog X.w X.K X.mg X.base j C "__len__" ps sp) (hr : Room k X.A) (hm : X.mg "len" = none) (ha : PA X (e :: es) t) (hj : j + 1 ≤ k := by decide) (hg : Gl X "len" := by rfl)
    (he : starEach (e :: es) X.env = (false, eval e X.env) :: starEach es X.env := by rfl) (hpl : (backTo pos (starEach es X.env)).any (·.1) = false := by rfl) : PE X (.Call (.Name "len" p) (e :: es) [] pos) (tCB (rLenO C sp) t) := by
  obtain ⟨f, fd, c, hm2, hb, F⟩ := D.ex
  exact pe_callB (call_lenO hm2.at_ hm2.fn F (hr.mono hj) hb) hg hm boot_len ha (by decide) (by decide) he hpl
theorem pe_inO {b : Expr} {tb : TE} (D : Mth X.prog X.w X.K X.mg X.base j C "__contains__" ps sp) (hr : Room k X.A) (he : PE X e ta) (hb2 : PE X b tb) (hj : j ≤ k := by decide) (hm : behindInMarks .In b = false := by with_unfolding_all rfl) : PE X (.Compare e [.In] [b] pos) (tOp (rInO C sp) ta tb) := by
  obtain ⟨f, fd, c, hm2, hb, F⟩ := D.ex
  exact pe_cmpR (op_inO hm2.at_ hm2.fn F (hr.mono hj) hb) he hb2 hm
theorem pe_globI {n : Int} (h : ∃ t, X.mg x = some (.int n t)) (hg : Gl X x := by rfl) (hd : (x == ("__debug__" : Str)) = false := by decide) : PE X (.Name x pos) (tC (.int n)) := by
  obtain ⟨t, e⟩ := h
  exact pe_glob hg e ⟨t, rfl⟩ hd
theorem pe_ty {n : String} (hm : X.mg x = none) (hv : bootBuiltins x = some (.type n)) (hg : Gl X x := by rfl) (hn : x ≠ "__name__" := by decide) (hd : (x == ("__debug__" : Str)) = false := by decide) : PE X (.Name x pos) (tC (.ty n)) := pe_bltn hg hm hv rfl hn hd
theorem call_listU (hc : X.calm = true) : CallR X (.type "list") (rListU X.K) := callR_or call_list_of (call_list_dT hc)
theorem pe_app {i : Nat} {y : Str} {te : TE} {py : Pos} (h : PE X (.Name y py) (tVar i)) (he : PE X e te) (hs : starEach [e] X.env = (false, eval e X.env) :: starEach [] X.env := by rfl) (hbase : attributeBase (.Name y py) "append" X.env (eval (.Name y py) X.env) = eval (.Name y py) X.env := by rfl)
    (hfew : ((backTo pos (starEach [e] X.env)).all (fun x => !x.1) && (backToKw pos (keywordEach [] X.env)).all (fun x => x.1.isSome) && decide (([e] : List Expr).length + ([] : List Keyword).length + (if ([] : List Keyword).isEmpty then 0 else 1) < 30)) = true := by rfl)
    (hline : (apos.endLine == pos.line) = true := by rfl) : PE X (.Call (.Attribute (.Name y py) "append" apos) [e] [] pos) (tBM X.K "list" rAppend (tVar i) (tCons te tNil)) :=
  pe_bm PySem.F.plainAttrs_list PySem.F.slot_list_append PySem.F.type_list_append mt_append h (pa_cons he pa_nil hs) hbase hfew hline hs rfl
/-! the same, the fragment by its name -/
variable {K : PySem.W.Frag}
theorem kAdd (K : PySem.W.Frag) (h : X.K = K) : OpR X (binaryOp .Add) (rAddU K) := h ▸ op_addU
theorem kMul (K : PySem.W.Frag) (h : X.K = K) : OpR X (binaryOp .Mult) (rMulU K) := h ▸ op_mulU
theorem kIn (K : PySem.W.Frag) (h : X.K = K) (hu : X.A.units + 65 < cLine) : OpR X (compareOp .In) (rInU K) := h ▸ op_inU hu
theorem kNotIn (K : PySem.W.Frag) (h : X.K = K) (hu : X.A.units + 65 < cLine) : OpR X (compareOp .NotIn) (rNotInU K) := h ▸ op_notInU hu
theorem kEq (K : PySem.W.Frag) (h : X.K = K) (hu : X.A.units + 64 < cLine) : OpR X (compareOp .Eq) (rEqD K) := h ▸ op_eqD hu
theorem kNe (K : PySem.W.Frag) (h : X.K = K) (hu : X.A.units + 64 < cLine) : OpR X (compareOp .NotEq) (rNeD K) := h ▸ op_neD hu
theorem kIx (K : PySem.W.Frag) (h : X.K = K) (hu : X.A.units + 1 < cLine) : IxR X (rIxU K) := h ▸ ix_U hu
theorem kSl (K : PySem.W.Frag) (h : X.K = K) : L2.SlR X (rSlU K) := h ▸ sl_U
theorem kBack (K : PySem.W.Frag) (h : X.K = K) {e : Expr} {te : TE} {k k0 : Nat} {p0 p1 p2 p3 pos : Pos} (he : PE X e te) : PE X (.Subscript e (.Slice none (some (.Constant (.int 0) k0 p0)) (some (.UnaryOp .USub (.Constant (.int 1) k p1) p2)) p3) pos) (tBack K te) := h ▸ pe_back he
theorem kLen (K : PySem.W.Frag) (h : X.K = K) : CallR X (.builtin "len") (rLenU K) := h ▸ call_lenU
theorem kIs (K : PySem.W.Frag) (h : X.K = K) : CallR X (.builtin "isinstance") (rIsQ K) := h ▸ call_isQ
theorem kIsT (K : PySem.W.Frag) (h : X.K = K) : CallR X (.builtin "isinstance") (rIsQT K) := h ▸ call_isQT
theorem kSum (K : PySem.W.Frag) (h : X.K = K) (hc : X.calm = true) : CallR X (.builtin "sum") (rSum K) := h ▸ cr_sum hc
theorem kMax (K : PySem.W.Frag) (h : X.K = K) (hc : X.calm = true) : CallR X (.builtin "max") (rMax K) := h ▸ cr_max hc
theorem kAll (K : PySem.W.Frag) (h : X.K = K) (hc : X.calm = true) : CallR X (.builtin "all") (rAll K) := h ▸ cr_all hc
theorem kSort (K : PySem.W.Frag) (h : X.K = K) (hu : X.A.units + 64 < cLine) : CallR X (.builtin "sorted") (rSortD K) := h ▸ call_sortD hu
theorem kMaxD (K : PySem.W.Frag) (h : X.K = K) (hc : X.calm = true) (hu : X.A.units + 64 < cLine) : CallRK X (.builtin "max") [Str.ofString "default"] (rMaxD K) := h ▸ call_maxD hc hu
theorem kList (K : PySem.W.Frag) (h : X.K = K) (hc : X.calm = true) : CallR X (.type "list") (rListU K) := h ▸ call_listU hc
theorem kTup (K : PySem.W.Frag) (h : X.K = K) : CallR X (.type "tuple") (rTupOf K) := h ▸ call_tuple_of
theorem kFld (K : PySem.W.Frag) (h : X.K = K) {f : Str} (he : PE X e ta) (hb : attributeBase e f X.env (eval e X.env) = eval e X.env) : PE X (.Attribute e f pos) (tFld K ta f) := h ▸ pe_fld he hb
theorem kGt (K : PySem.W.Frag) (h : X.K = K) {es : List Expr} {k : Nat} {t : TGs} (n : Nat) (hc : X.calm = true) (hg : PGs X es t) (hn : (assignEach es X.env).length = n := by rfl) (hst : (assignEach es X.env).findIdx? (·.1) = none := by rfl) : PG X (.Tuple es k pos) (gTup K n t) := h ▸ pg_tup hc hg hn hst
theorem kPL (K : PySem.W.Frag) (h : X.K = K) {tg l : Expr} {tl : TE} (hl : PE X l tl) : PI X tg l (iList K tl) := h ▸ pi_list hl
theorem kPT (K : PySem.W.Frag) (h : X.K = K) {tg l : Expr} {tl : TE} (hl : PE X l tl) : PI X tg l (iTup K tl) := h ▸ pi_tup hl
theorem kEn (K : PySem.W.Frag) (h : X.K = K) {kk : Nat} {tpos : Pos} {elts : List Expr} (hg : Gl X "enumerate") (hm : X.mg "enumerate" = none) (ha : PA X [e] t) (hs : starEach [e] X.env = [(false, eval e X.env)] := by rfl) :
    PI X (.Tuple elts kk tpos) (.Call (.Name "enumerate" p) [e] [] pos) (iEnumT K t) := h ▸ pi_enumT hg hm ha hs
theorem kZip (K : PySem.W.Frag) (h : X.K = K) {e2 : Expr} {kk : Nat} {tpos : Pos} {elts : List Expr} (hg : Gl X "zip") (hm : X.mg "zip" = none) (ha : PA X [e, e2] t)
    (hs : starEach [e, e2] X.env = (false, eval e X.env) :: starEach [e2] X.env := by rfl) (hpl : (backTo pos (starEach [e2] X.env)).any (·.1) = false := by rfl) :
    PI X (.Tuple elts kk tpos) (.Call (.Name "zip" p) [e, e2] [] pos) (iZipA K t) := h ▸ pi_zipA hg hm ha hs hpl
theorem kApp (K : PySem.W.Frag) (h : X.K = K) {i : Nat} {y : Str} {te : TE} {py : Pos} (h1 : PE X (.Name y py) (tVar i)) (he : PE X e te) (hs : starEach [e] X.env = (false, eval e X.env) :: starEach [] X.env := by rfl) (hbase : attributeBase (.Name y py) "append" X.env (eval (.Name y py) X.env) = eval (.Name y py) X.env := by rfl)
    (hfew : ((backTo pos (starEach [e] X.env)).all (fun x => !x.1) && (backToKw pos (keywordEach [] X.env)).all (fun x => x.1.isSome) && decide (([e] : List Expr).length + ([] : List Keyword).length + (if ([] : List Keyword).isEmpty then 0 else 1) < 30)) = true := by rfl)
    (hline : (apos.endLine == pos.line) = true := by rfl) : PE X (.Call (.Attribute (.Name y py) "append" apos) [e] [] pos) (tBM K "list" rAppend (tVar i) (tCons te tNil)) := h ▸ pe_app h1 he hs hbase hfew hline
theorem kSfld (K : PySem.W.Frag) (h : X.K = K) {o value : Expr} {f : Str} {pos pos' : Pos} {ta tv : TE} (ha : PE X o ta) (hv : PE X value tv) (hs : swapsWith value (some (.Attribute o f pos')) pos.line X.env = pure false := by rfl) : PS X (.Assign [.Attribute o f pos'] value pos) (sFld K ta tv f) := h ▸ ps_fld ha hv hs
end
end Qp
set_option Elab.async false
set_option linter.all false
set_option maxRecDepth 100000
set_option maxHeartbeats 4000000
/-! Rows, boxes, talks as they lie in the heap. -/
namespace Qp
open PySem PySem.Spec PyProof.Rows L2 Qr Qt Qf RZ
theorem u65 {A : Around} {k : Nat} (hr : Room k A) : A.units + 65 < cLine := by
  have := hr.un
  omega
def lkP (k : Int × Int) : Pd := tupP [intP k.1, intP k.2]
def bw (b : Bool) : Str := if b = true then "both" else "out"
def bxF (B : Qd.Bx) : List (Key × V) := [(.inr "low", .int B.low), (.inr "high", .int B.high), (.inr "rest", .int B.rest), (.inr "sees", .str (bw B.both))]
def ptP (B : Qd.Bx) : Pd := ⟨fun v H => ∃ d, v = .ref d ∧ H d = some (.dK (bxF B)), fun s ⟨d, e, h⟩ => ⟨d, e, s _ _ h⟩⟩
def boxP (K : PySem.W.Frag) (B : Qd.Bx) : Pd := ⟨fun v H => ∃ b dx x, v = .ref b ∧ H b = some (.ins (He.ga K "Box") dx [("kept_parts", x)]) ∧ (ptP B).p x H, fun s ⟨b, dx, x, e, h, q⟩ => ⟨b, dx, x, e, s _ _ h, (ptP B).st s q⟩⟩
def rowP (K : PySem.W.Frag) (L : Qd.Ln) : Pd := ⟨fun v H => ∃ r dx x y, v = .ref r ∧ H r = some (.ins (He.ga K "Row") dx [("kept_boxes", x), ("kept_links", y)]) ∧ (tupP (L.bx.map (boxP K))).p x H ∧ (tupP (L.lk.map lkP)).p y H,
  fun s ⟨r, dx, x, y, e, h, q1, q2⟩ => ⟨r, dx, x, y, e, s _ _ h, (tupP _).st s q1, (tupP _).st s q2⟩⟩
def talkP (K : PySem.W.Frag) (T : Qd.Tk) : Pd := ⟨fun v H => ∃ r dx x y, v = .ref r ∧ H r = some (.ins (He.ga K "Talk") dx [("kept_out", x), ("kept_back", y), ("kept_losses", .int (T.ls : Int))]) ∧ (tupP (T.out.map fun n => intP n)).p x H ∧ (tupP (T.bk.map fun n => intP n)).p y H,
  fun s ⟨r, dx, x, y, e, h, q1, q2⟩ => ⟨r, dx, x, y, e, s _ _ h, (tupP _).st s q1, (tupP _).st s q2⟩⟩
theorem lk0 {k : Str} {v : V} {r : List (Str × V)} : ((k, v) :: r).lookup k = some v := by
  show (match k == k with | true => some v | false => r.lookup k) = _
  rw [beq_self_eq_true]
theorem lk1 {k g : Str} {v : V} {r : List (Str × V)} {o : Option V} (hn : (k == g) = false) (h : r.lookup k = o) : ((g, v) :: r).lookup k = o := by
  show (match k == g with | true => some v | false => r.lookup k) = _
  rw [hn]
  exact h
section
variable {K : PySem.W.Frag} {B : Qd.Bx} {L : Qd.Ln} {T : Qd.Tk}
instance : InsP (boxP K B) (He.ga K "Box") ["kept_parts"] := ⟨fun v H ⟨b, dx, x, e, h, _⟩ => ⟨b, dx, _, e, h, rfl⟩⟩
instance : InsP (rowP K L) (He.ga K "Row") ["kept_boxes", "kept_links"] := ⟨fun v H ⟨b, dx, x, y, e, h, _⟩ => ⟨b, dx, _, e, h, rfl⟩⟩
instance : InsP (talkP K T) (He.ga K "Talk") ["kept_out", "kept_back", "kept_losses"] := ⟨fun v H ⟨b, dx, x, y, e, h, _⟩ => ⟨b, dx, _, e, h, rfl⟩⟩
instance : FldP (boxP K B) (He.ga K "Box") "kept_parts" (ptP B) := ⟨fun v H ⟨b, dx, x, e, h, q⟩ => ⟨b, dx, _, x, e, h, lk0, q⟩⟩
instance : FldP (rowP K L) (He.ga K "Row") "kept_boxes" (tupP (L.bx.map (boxP K))) := ⟨fun v H ⟨b, dx, x, y, e, h, q1, q2⟩ => ⟨b, dx, _, x, e, h, lk0, q1⟩⟩
instance : FldP (rowP K L) (He.ga K "Row") "kept_links" (tupP (L.lk.map lkP)) := ⟨fun v H ⟨b, dx, x, y, e, h, q1, q2⟩ => ⟨b, dx, _, y, e, h, lk1 (by decide +kernel) lk0, q2⟩⟩
instance : FldP (talkP K T) (He.ga K "Talk") "kept_out" (tupP (T.out.map fun n => intP n)) := ⟨fun v H ⟨b, dx, x, y, e, h, q1, q2⟩ => ⟨b, dx, _, x, e, h, lk0, q1⟩⟩
instance : FldP (talkP K T) (He.ga K "Talk") "kept_back" (tupP (T.bk.map fun n => intP n)) := ⟨fun v H ⟨b, dx, x, y, e, h, q1, q2⟩ => ⟨b, dx, _, y, e, h, lk1 (by decide +kernel) lk0, q2⟩⟩
instance : FldP (talkP K T) (He.ga K "Talk") "kept_losses" (intP (T.ls : Int)) := ⟨fun v H ⟨b, dx, x, y, e, h, q1, q2⟩ => ⟨b, dx, _, _, e, h, lk1 (by decide +kernel) (lk1 (by decide +kernel) lk0), rfl⟩⟩
end
/-! ### scalars and small words -/
def isInt : V → Bool
  | .int _ => true
  | _ => false
/-- none, a bool, an int or a str -/
def scl : V → Bool
  | .non => true
  | .bl _ => true
  | .int _ => true
  | .str _ => true
  | _ => false
def betw (v : V) (lo hi : Int) : Bool := match v with
  | .int i => decide (lo ≤ i) && decide (i ≤ hi)
  | _ => false
abbrev Sc : Type := {v : V // scl v = true}
def scI (i : Int) : Sc := ⟨.int i, rfl⟩
/-! ### promises -/
abbrev RB : Type := {x : Qd.Ln × Nat // Qd.LnOk x.1 ∧ x.2 < x.1.bx.length}
abbrev TL : Type := {x : Qd.Tk × Qd.Lt // Qd.TkOk x.1 ∧ x.2 ∈ Qd.lets x.1}
abbrev RTB : Type := {x : Qd.Ln × Qd.Tk × Nat // Qd.LnOk x.1 ∧ Qd.TkOk x.2.1 ∧ x.2.2 < x.1.bx.length}
abbrev RTBL : Type := {x : Qd.Ln × Qd.Tk × Nat × Qd.Lt // Qd.LnOk x.1 ∧ Qd.TkOk x.2.1 ∧ x.2.2.1 < x.1.bx.length ∧ x.2.2.2 ∈ Qd.lets x.2.1}
def pre_is_integer (K : PySem.W.Frag) (_ : Option Addr) (v : Sc) : List Pd := [valP v.1]
def out_is_integer (K : PySem.W.Frag) (v : Sc) : Pd := blP (isInt v.1)
def pre_is_between (K : PySem.W.Frag) (_ : Option Addr) (a : Sc × Int × Int) : List Pd := [valP a.1.1, intP a.2.1, intP a.2.2]
def out_is_between (K : PySem.W.Frag) (a : Sc × Int × Int) : Pd := blP (betw a.1.1 a.2.1 a.2.2)
def pre_is_count (K : PySem.W.Frag) (_ : Option Addr) (i : Int) : List Pd := [intP i]
def out_is_count (K : PySem.W.Frag) (i : Int) : Pd := blP (decide (0 ≤ i))
def pre_is_link (K : PySem.W.Frag) (_ : Option Addr) (k : Int × Int) : List Pd := [lkP k]
def out_is_link (K : PySem.W.Frag) (k : Int × Int) : Pd := blP ((decide (0 ≤ k.1) && decide (k.1 ≤ 1000)) && (decide (k.1 ≤ k.2) && decide (k.2 ≤ 1000)))
def pre_summed (K : PySem.W.Frag) (_ : Option Addr) (l : {l : List (Int × Int) // l.length < 1000}) : List Pd := [tupP (l.1.map lkP)]
def out_summed (K : PySem.W.Frag) (l : {l : List (Int × Int) // l.length < 1000}) : Pd := lkP (Qd.sm l.1)
def pre_Row_boxes (K : PySem.W.Frag) (_ : Option Addr) (L : Qd.Ln) : List Pd := [rowP K L]
def out_Row_boxes (K : PySem.W.Frag) (L : Qd.Ln) : Pd := tupP (L.bx.map (boxP K))
def pre_Row_links (K : PySem.W.Frag) (_ : Option Addr) (L : Qd.Ln) : List Pd := [rowP K L]
def out_Row_links (K : PySem.W.Frag) (L : Qd.Ln) : Pd := tupP (L.lk.map lkP)
def pre_Row_len (K : PySem.W.Frag) (_ : Option Addr) (L : Qd.Ln) : List Pd := [rowP K L]
def out_Row_len (K : PySem.W.Frag) (L : Qd.Ln) : Pd := intP (L.bx.length : Int)
def pre_Row_check (K : PySem.W.Frag) (_ : Option Addr) (a : RB) : List Pd := [rowP K a.1.1, intP (a.1.2 : Int)]
def out_Row_check (K : PySem.W.Frag) (a : RB) : Pd := nonP
def pre_Row_out_delay (K : PySem.W.Frag) (_ : Option Addr) (a : RB) : List Pd := [rowP K a.1.1, intP (a.1.2 : Int)]
def out_Row_out_delay (K : PySem.W.Frag) (a : RB) : Pd := lkP (Qd.sm (a.1.1.lk.take (a.1.2 + 1)))
def pre_Row_back_delay (K : PySem.W.Frag) (_ : Option Addr) (a : RB) : List Pd := [rowP K a.1.1, intP (a.1.2 : Int)]
def out_Row_back_delay (K : PySem.W.Frag) (a : RB) : Pd := lkP (Qd.sm (a.1.1.lk.drop (a.1.2 + 1)))
def pre_Talk_losses (K : PySem.W.Frag) (_ : Option Addr) (T : Qd.Tk) : List Pd := [talkP K T]
def out_Talk_losses (K : PySem.W.Frag) (T : Qd.Tk) : Pd := intP (T.ls : Int)
def pre_Talk_letters (K : PySem.W.Frag) (_ : Option Addr) (a : {T : Qd.Tk // Qd.TkOk T}) : List Pd := [talkP K a.1]
def out_Talk_letters (K : PySem.W.Frag) (a : {T : Qd.Tk // Qd.TkOk T}) : Pd := tupP ((Qd.lets a.1).map ltP)
def pre_Talk_contains (K : PySem.W.Frag) (_ : Option Addr) (a : TL) : List Pd := [talkP K a.1.1, ltP a.1.2]
def out_Talk_contains (K : PySem.W.Frag) (a : TL) : Pd := blP true
def pre_Talk_time (K : PySem.W.Frag) (_ : Option Addr) (a : TL) : List Pd := [talkP K a.1.1, ltP a.1.2]
def out_Talk_time (K : PySem.W.Frag) (a : TL) : Pd := intP (Qd.tm a.1.1 a.1.2)
def pre_Box_low (K : PySem.W.Frag) (_ : Option Addr) (B : Qd.Bx) : List Pd := [boxP K B]
def out_Box_low (K : PySem.W.Frag) (B : Qd.Bx) : Pd := intP B.low
def pre_Box_sees (K : PySem.W.Frag) (_ : Option Addr) (B : Qd.Bx) : List Pd := [boxP K B]
def out_Box_sees (K : PySem.W.Frag) (B : Qd.Bx) : Pd := strP (bw B.both)
end Qp
set_option Elab.async false
set_option linter.all false
set_option maxRecDepth 100000
set_option maxHeartbeats 4000000
namespace Qp
open PySem PySem.Spec PyProof.Rows L2 Qr Qt Qf RZ
section
variable {P : Program} {w : World} {K : PySem.W.Frag} {mg : Str → Option Value} {base : Heap}

theorem ok_is_integer (Y : Kit K mg) : Dfn P w K mg base 1 "is_integer" ["value"] (spF (pre_is_integer K) (out_is_integer K)) := by
  obtain ⟨fd, F⟩ := Y.def_ 0 (d := d_is_integer)
  have S : FnScope ["value"] ["value"] (defScope s_is_integer) := ⟨rfl, rfl, rfl, by decide +kernel, rfl, by decide +kernel, by decide +kernel⟩
  refine ⟨_, fd, Y.glo 0, F.kp, (F.bindsN fun _ _ _ _ _ _ us hl => match us, hl with | [_], _ => rfl), ?_⟩
  refine fn_ty (N := ["value"]) (Fall := False) F S (fun _ _ => rfl) (fun h => h.elim) fun cdv A outer s H E hr => ⟨_, (pss_one (ps_ret (pe_and (pe_callB (kIs K rfl) rfl (Y.free 69) boot_isinstance (pa_cons (pv 0) (pa_cons (pe_ty (Y.free 70) boot_int) pa_nil))) (pe_one (pe_not (pe_callB (kIs K rfl) rfl (Y.free 69) boot_isinstance (pa_cons (pv 0) (pa_cons (pe_ty (Y.free 71) boot_bool) pa_nil)))))))), fun so a => ?_⟩
  obtain ⟨v, hv⟩ := a
  cases v with
  | non => exact es_ret (ev_andV (b := false) (ev_isi (P := nonP) (ev_var rfl)) fun z => absurd z (by decide)) (Le.of_eq rfl)
  | bl b => exact es_ret (ev_andV (ev_isi (P := blP b) (ev_var rfl)) fun _ => ev_notV (ev_isi (P := blP b) (ev_var rfl))) (Le.of_eq rfl)
  | int i => exact es_ret (ev_andV (ev_isi (P := intP i) (ev_var rfl)) fun _ => ev_notV (ev_isi (P := intP i) (ev_var rfl))) (Le.of_eq rfl)
  | str x => exact es_ret (ev_andV (b := false) (ev_isi (P := strP x) (ev_var rfl)) fun z => absurd z (by decide)) (Le.of_eq rfl)
  | _ => cases hv
theorem ok_is_between (Y : Kit K mg) : Dfn P w K mg base 2 "is_between" ["value", "low", "high"] (spF (pre_is_between K) (out_is_between K)) := by
  obtain ⟨fd, F⟩ := Y.def_ 1 (d := d_is_between)
  have S : FnScope ["value", "low", "high"] ["value", "low", "high"] (defScope s_is_between) := ⟨rfl, rfl, rfl, by decide +kernel, rfl, by decide +kernel, by decide +kernel⟩
  refine ⟨_, fd, Y.glo 1, F.kp, (F.bindsN fun _ _ _ _ _ _ us hl => match us, hl with | [_, _, _], _ => rfl), ?_⟩
  refine fn_ty (N := ["value", "low", "high"]) (Fall := False) F S (fun _ _ => rfl) (fun h => h.elim) fun cdv A outer s H E hr => ⟨_, (pss_one (ps_ret (pe_and (pe_dfn (ok_is_integer Y) hr (pa_cons (pv 0) pa_nil)) (pe_one (pe_chain op_le op_le (pv 1) (pv 0) (pv 2)))))), fun so a => ?_⟩
  obtain ⟨⟨v, hv⟩, lo, hi⟩ := a
  refine es_ret (ev_andV (b := betw v lo hi) (ev_call (a := (⟨v, hv⟩ : Sc)) (ea_cons (ev_var rfl) ea_nil)) fun h => ?_) (Le.of_eq ?_)
  · cases v with
    | int i => exact ev_chain (a := decide (lo ≤ i)) (b := decide (i ≤ hi)) (P := intP lo) (P' := intP i) (Q := intP hi) (ev_var rfl) (ev_var rfl) (fun _ => ev_var rfl) (fun x y H K px py k => ⟨lo, i, px, py, k⟩) fun _ x y H K px py k => ⟨i, hi, px, py, k⟩
    | _ => cases h
  · cases v <;> rfl
theorem ok_is_count (Y : Kit K mg) : Dfn P w K mg base 2 "is_count" ["value"] (spF (pre_is_count K) (out_is_count K)) := by
  obtain ⟨fd, F⟩ := Y.def_ 2 (d := d_is_count)
  have S : FnScope ["value"] ["value"] (defScope s_is_count) := ⟨rfl, rfl, rfl, by decide +kernel, rfl, by decide +kernel, by decide +kernel⟩
  refine ⟨_, fd, Y.glo 2, F.kp, (F.bindsN fun _ _ _ _ _ _ us hl => match us, hl with | [_], _ => rfl), ?_⟩
  refine fn_ty (N := ["value"]) (Fall := False) F S (fun _ _ => rfl) (fun h => h.elim) fun cdv A outer s H E hr => ⟨_, (pss_one (ps_ret (pe_and (pe_dfn (ok_is_integer Y) hr (pa_cons (pv 0) pa_nil)) (pe_one (pe_cmpR op_ge (pv 0) pe_int (nomark _)))))), fun so a => ?_⟩
  exact es_ret (ev_andV (ev_call (a := scI a) (ea_cons (ev_var rfl) ea_nil)) fun h => ev_rI0 (ev_var rfl) ev_val) (Le.of_eq rfl)
theorem ok_summed (Y : Kit K mg) : Dfn P w K mg base 1 "summed" ["links"] (spF (pre_summed K) (out_summed K)) := by
  obtain ⟨fd, F⟩ := Y.def_ 31 (d := d_summed)
  have S : FnScope ["links", "least", "most"] ["links"] (defScope s_summed) := ⟨rfl, rfl, rfl, by decide +kernel, rfl, by decide +kernel, by decide +kernel⟩
  refine ⟨_, fd, Y.glo 31, F.kp, (F.bindsN fun _ _ _ _ _ _ us hl => match us, hl with | [_], _ => rfl), ?_⟩
  refine fn_ty (N := ["links", "least", "most"]) (Fall := False) F S (fun _ _ => rfl) (fun h => h.elim) fun cdv A outer s H E hr => ⟨_, (pss_one (ps_ret (pe_tup (pa_cons (pe_callB (kSum K rfl rfl) rfl (Y.free 67) boot_sum (pa_cons (pe_lc rfl S.nd (kPT K rfl (pv 0)) (blkOk_by (N := ["links", "least", "most"]) (sc := defScope s_summed) (own := [("least", 1), ("most", 2)]) (by decide +kernel)) (fun _ _ _ _ _ => (kGt K rfl 2 rfl (pgs_cons (pg_name S.nd (i := 1) rfl (Or.inl rfl) (Or.inr rfl)) (pgs_cons (pg_name S.nd (i := 2) rfl (Or.inl rfl) (Or.inr rfl)) pgs_nil)))) (fun _ _ _ _ _ => pts_nil) (fun _ _ _ _ _ => (pv 1))) pa_nil)) (pa_cons (pe_callB (kSum K rfl rfl) rfl (Y.free 67) boot_sum (pa_cons (pe_lc rfl S.nd (kPT K rfl (pv 0)) (blkOk_by (N := ["links", "least", "most"]) (sc := defScope s_summed) (own := [("least", 1), ("most", 2)]) (by decide +kernel)) (fun _ _ _ _ _ => (kGt K rfl 2 rfl (pgs_cons (pg_name S.nd (i := 1) rfl (Or.inl rfl) (Or.inr rfl)) (pgs_cons (pg_name S.nd (i := 2) rfl (Or.inl rfl) (Or.inr rfl)) pgs_nil)))) (fun _ _ _ _ _ => pts_nil) (fun _ _ _ _ _ => (pv 2))) pa_nil)) pa_nil))))), fun so a => ?_⟩
  obtain ⟨l, hl⟩ := a
  have hz : l.length < sizeLine := Nat.lt_of_lt_of_le hl (by decide)
  exact es_ret (evTup (ea_cons (ev_sumMap (ev_lc0 l lkP (fun k => intP k.1) (ei_tup (ev_var rfl)) rfl hz (fun _ h => h) (fun k _ => egTup2 rfl rfl) (fun k _ => ev_var rfl))) (ea_cons (ev_sumMap (ev_lc0 l lkP (fun k => intP k.2) (ei_tup (ev_var rfl)) rfl hz (fun _ h => h) (fun k _ => egTup2 rfl rfl) (fun k _ => ev_var rfl))) ea_nil)) rfl) (Le.of_eq rfl)

end
end Qp
set_option Elab.async false
set_option linter.all false
set_option maxRecDepth 100000
set_option maxHeartbeats 4000000
namespace Qp
open PySem PySem.Spec PyProof.Rows L2 Qr Qt Qf RZ
section
variable {P : Program} {w : World} {K : PySem.W.Frag} {mg : Str → Option Value} {base : Heap}

theorem lkLen {L : Qd.Ln} (h : Qd.LnOk L) : L.lk.length < 1000 := by
  have h1 := h.nl
  have h2 := h.n4
  omega
theorem never {c : Bool} {A : Prop} (h : c = false) : c = true → A := fun z => by
  rw [h] at z
  cases z
theorem ok_Row_boxes (Y : Kit K mg) : Prp P w K mg base 1 (He.ga K "Row") "boxes" ["self"] (spF (pre_Row_boxes K) (out_Row_boxes K)) := by
  obtain ⟨hp, fd, F⟩ := Y.gt 2 (g := p_Row_boxes)
  have S : FnScope ["self"] ["self"] (defScope s_Row_boxes) := ⟨rfl, rfl, rfl, by decide +kernel, rfl, by decide +kernel, by decide +kernel⟩
  refine ⟨_, _, fd, Y.cls 85, hp, (F.bindsN fun _ _ _ _ _ _ us hl => match us, hl with | [_], _ => rfl), ?_⟩
  refine fn_ty (N := ["self"]) (Fall := False) F S (fun _ _ => rfl) (fun h => h.elim) fun cdv A outer s H E hr => ⟨_, (pss_one (ps_ret (kFld K rfl (pv 0) rfl))), fun so a => ?_⟩
  exact es_ret (ev_fld (f := "kept_boxes") (ev_var rfl) (Y.cls 85) (Y.noat 90)) (Le.refl _)
theorem ok_Row_links (Y : Kit K mg) : Prp P w K mg base 1 (He.ga K "Row") "links" ["self"] (spF (pre_Row_links K) (out_Row_links K)) := by
  obtain ⟨hp, fd, F⟩ := Y.gt 3 (g := p_Row_links)
  have S : FnScope ["self"] ["self"] (defScope s_Row_links) := ⟨rfl, rfl, rfl, by decide +kernel, rfl, by decide +kernel, by decide +kernel⟩
  refine ⟨_, _, fd, Y.cls 85, hp, (F.bindsN fun _ _ _ _ _ _ us hl => match us, hl with | [_], _ => rfl), ?_⟩
  refine fn_ty (N := ["self"]) (Fall := False) F S (fun _ _ => rfl) (fun h => h.elim) fun cdv A outer s H E hr => ⟨_, (pss_one (ps_ret (kFld K rfl (pv 0) rfl))), fun so a => ?_⟩
  exact es_ret (ev_fld (f := "kept_links") (ev_var rfl) (Y.cls 85) (Y.noat 91)) (Le.refl _)
theorem ok_Row_len (Y : Kit K mg) : Mth P w K mg base 1 (He.ga K "Row") "__len__" ["self"] (spF (pre_Row_len K) (out_Row_len K)) := by
  obtain ⟨fd, F⟩ := Y.def_ 60 (d := d_Row_len)
  have S : FnScope ["self"] ["self"] (defScope s_Row_len) := ⟨rfl, rfl, rfl, by decide +kernel, rfl, by decide +kernel, by decide +kernel⟩
  refine ⟨_, fd, Y.cls 85, Y.meth 95, (F.bindsN fun _ _ _ _ _ _ us hl => match us, hl with | [_], _ => rfl), ?_⟩
  refine fn_ty (N := ["self"]) (Fall := False) F S (fun _ _ => rfl) (fun h => h.elim) fun cdv A outer s H E hr => ⟨_, (pss_one (ps_ret (pe_callB (kLen K rfl) rfl (Y.free 62) boot_len (pa_cons (kFld K rfl (pv 0) rfl) pa_nil)))), fun so a => ?_⟩
  exact es_ret (ev_lenT (ev_fld (f := "kept_boxes") (ev_var rfl) (Y.cls 85) (Y.noat 90))) (Le.of_eq (by
    show intP _ = intP _
    rw [List.length_map]))
theorem ok_Row_check (Y : Kit K mg) : Mth P w K mg base 3 (He.ga K "Row") "check" ["self", "box"] (spF (pre_Row_check K) (out_Row_check K)) := by
  obtain ⟨fd, F⟩ := Y.def_ 61 (d := d_Row_check)
  have S : FnScope ["self", "box"] ["self", "box"] (defScope s_Row_check) := ⟨rfl, rfl, rfl, by decide +kernel, rfl, by decide +kernel, by decide +kernel⟩
  refine ⟨_, fd, Y.cls 85, Y.meth 96, (F.bindsN fun _ _ _ _ _ _ us hl => match us, hl with | [_, _], _ => rfl), ?_⟩
  refine fn_ty (N := ["self", "box"]) (Fall := True) F S (fun _ _ => rfl) (fun _ _ => Le.refl _) fun cdv A outer s H E hr => ⟨_, (pss_one (ps_if (pt_not (pt_val (pe_dfn (ok_is_between Y) hr (pa_cons (pv 1) (pa_cons pe_int (pa_cons (pe_op op_sub (pe_callB (kLen K rfl) rfl (Y.free 62) boot_len (pa_cons (kFld K rfl (pv 0) rfl) pa_nil)) pe_int) pa_nil)))))) (pss_one ps_never) pss_nil)), fun so a => ?_⟩
  obtain ⟨⟨L, b⟩, hL, hb⟩ := a
  refine es_if (EvT.eq (c := false) (et_not (et_val (ev_call (a := (scI (b : Int), 0, ((L.bx.map (boxP K)).length : Int) - 1)) (ea_cons (ev_var rfl) (ea_cons ev_val (ea_cons (ev_rI0 (ev_lenT (ev_fld (f := "kept_boxes") (ev_var rfl) (Y.cls 85) (Y.noat 90))) ev_val) ea_nil)))))) ?_) (never rfl) fun _ => es_next trivial
  show (!(decide ((0 : Int) ≤ (b : Int)) && decide ((b : Int) ≤ ((L.bx.map (boxP K)).length : Int) - 1))) = false
  rw [List.length_map, decide_eq_true (by omega), decide_eq_true (by have hb : b < L.bx.length := hb; omega)]
  rfl
theorem ok_Row_out_delay (Y : Kit K mg) : Mth P w K mg base 4 (He.ga K "Row") "out_delay" ["self", "box"] (spF (pre_Row_out_delay K) (out_Row_out_delay K)) := by
  obtain ⟨fd, F⟩ := Y.def_ 62 (d := d_Row_out_delay)
  have S : FnScope ["self", "box"] ["self", "box"] (defScope s_Row_out_delay) := ⟨rfl, rfl, rfl, by decide +kernel, rfl, by decide +kernel, by decide +kernel⟩
  refine ⟨_, fd, Y.cls 85, Y.meth 97, (F.bindsN fun _ _ _ _ _ _ us hl => match us, hl with | [_, _], _ => rfl), ?_⟩
  refine fn_ty (N := ["self", "box"]) (Fall := False) F S (fun _ _ => rfl) (fun h => h.elim) fun cdv A outer s H E hr => ⟨_, (pss_cons (ps_expr (pe_mth (ok_Row_check Y) hr (pv 0) (pa_cons (pv 1) pa_nil))) (pss_one (ps_ret (pe_dfn (ok_summed Y) hr (pa_cons (pe_slice (kSl K rfl) (kFld K rfl (pv 0) rfl) po_none (po_some (pe_op (kAdd K rfl) (pv 1) pe_int))) pa_nil))))), fun so a => ?_⟩
  obtain ⟨⟨L, b⟩, hL, hb⟩ := a
  have hL : Qd.LnOk L := hL
  have hz : (L.lk.take (b + 1)).length < 1000 := by
    have := lkLen hL
    rw [List.length_take]
    omega
  refine es_then (es_drop (ev_meth (a := (⟨(L, b), hL, hb⟩ : RB)) (ev_var rfl) (ea_cons (ev_var rfl) ea_nil) rfl (by decide +kernel)) rfl) ?_
  refine es_ret (ev_call (a := (⟨L.lk.take (b + 1), hz⟩ : {l : List (Int × Int) // l.length < 1000})) (ea_cons (Ev.eq (ev_slT (ev_fld (f := "kept_links") (ev_var rfl) (Y.cls 85) (Y.noat 91)) eo_none (eo_some (ev_addI (i := (b : Int)) (ev_var rfl) ev_val))) ?_) ea_nil)) (Le.refl _)
  have e : (b : Int) + 1 = ((b + 1 : Nat) : Int) := by omega
  rw [e, cut_take, List.map_take]
theorem ok_Row_back_delay (Y : Kit K mg) : Mth P w K mg base 4 (He.ga K "Row") "back_delay" ["self", "box"] (spF (pre_Row_back_delay K) (out_Row_back_delay K)) := by
  obtain ⟨fd, F⟩ := Y.def_ 63 (d := d_Row_back_delay)
  have S : FnScope ["self", "box"] ["self", "box"] (defScope s_Row_back_delay) := ⟨rfl, rfl, rfl, by decide +kernel, rfl, by decide +kernel, by decide +kernel⟩
  refine ⟨_, fd, Y.cls 85, Y.meth 98, (F.bindsN fun _ _ _ _ _ _ us hl => match us, hl with | [_, _], _ => rfl), ?_⟩
  refine fn_ty (N := ["self", "box"]) (Fall := False) F S (fun _ _ => rfl) (fun h => h.elim) fun cdv A outer s H E hr => ⟨_, (pss_cons (ps_expr (pe_mth (ok_Row_check Y) hr (pv 0) (pa_cons (pv 1) pa_nil))) (pss_one (ps_ret (pe_dfn (ok_summed Y) hr (pa_cons (pe_slice (kSl K rfl) (kFld K rfl (pv 0) rfl) (po_some (pe_op (kAdd K rfl) (pv 1) pe_int)) po_none) pa_nil))))), fun so a => ?_⟩
  obtain ⟨⟨L, b⟩, hL, hb⟩ := a
  have hL : Qd.LnOk L := hL
  have hz : (L.lk.drop (b + 1)).length < 1000 := by
    have := lkLen hL
    rw [List.length_drop]
    omega
  refine es_then (es_drop (ev_meth (a := (⟨(L, b), hL, hb⟩ : RB)) (ev_var rfl) (ea_cons (ev_var rfl) ea_nil) rfl (by decide +kernel)) rfl) ?_
  refine es_ret (ev_call (a := (⟨L.lk.drop (b + 1), hz⟩ : {l : List (Int × Int) // l.length < 1000})) (ea_cons (Ev.eq (ev_slT (ev_fld (f := "kept_links") (ev_var rfl) (Y.cls 85) (Y.noat 91)) (eo_some (ev_addI (i := (b : Int)) (ev_var rfl) ev_val)) eo_none) ?_) ea_nil)) (Le.refl _)
  have e : (b : Int) + 1 = ((b + 1 : Nat) : Int) := by omega
  rw [e, cut_drop, List.map_drop]
theorem ok_Talk_losses (Y : Kit K mg) : Prp P w K mg base 1 (He.ga K "Talk") "losses" ["self"] (spF (pre_Talk_losses K) (out_Talk_losses K)) := by
  obtain ⟨hp, fd, F⟩ := Y.gt 4 (g := p_Talk_losses)
  have S : FnScope ["self"] ["self"] (defScope s_Talk_losses) := ⟨rfl, rfl, rfl, by decide +kernel, rfl, by decide +kernel, by decide +kernel⟩
  refine ⟨_, _, fd, Y.cls 87, hp, (F.bindsN fun _ _ _ _ _ _ us hl => match us, hl with | [_], _ => rfl), ?_⟩
  refine fn_ty (N := ["self"]) (Fall := False) F S (fun _ _ => rfl) (fun h => h.elim) fun cdv A outer s H E hr => ⟨_, (pss_one (ps_ret (kFld K rfl (pv 0) rfl))), fun so a => ?_⟩
  exact es_ret (ev_fld (f := "kept_losses") (ev_var rfl) (Y.cls 87) (Y.noat 94)) (Le.refl _)
theorem intP_map (l : List Int) : (l.map fun n => intP n) = l.map fun n => intP n := rfl
theorem ok_Talk_time (Y : Kit K mg) : Mth P w K mg base 1 (He.ga K "Talk") "time" ["self", "letter"] (spF (pre_Talk_time K) (out_Talk_time K)) := by
  obtain ⟨fd, F⟩ := Y.def_ 67 (d := d_Talk_time)
  have S : FnScope ["self", "letter"] ["self", "letter"] (defScope s_Talk_time) := ⟨rfl, rfl, rfl, by decide +kernel, rfl, by decide +kernel, by decide +kernel⟩
  refine ⟨_, fd, Y.cls 87, Y.meth 101, (F.bindsN fun _ _ _ _ _ _ us hl => match us, hl with | [_, _], _ => rfl), ?_⟩
  refine fn_ty (N := ["self", "letter"]) (Fall := False) F S (fun _ _ => rfl) (fun h => h.elim) fun cdv A outer s H E hr => ⟨_, (pss_one (ps_ret (pe_ifExp (pt_cmpR (kEq K rfl hr.units) (pe_ix (kIx K rfl (hu_of hr)) (pv 1) pe_int (fun _ _ => rfl)) pe_str (nomark _)) (pe_ix (kIx K rfl (hu_of hr)) (kFld K rfl (pv 0) rfl) (pe_ix (kIx K rfl (hu_of hr)) (pv 1) pe_int (fun _ _ => rfl)) (fun _ _ => rfl)) (pe_ix (kIx K rfl (hu_of hr)) (kFld K rfl (pv 0) rfl) (pe_ix (kIx K rfl (hu_of hr)) (pv 1) pe_int (fun _ _ => rfl)) (fun _ _ => rfl))))), fun so a => ?_⟩
  obtain ⟨⟨T, o, i⟩, hT, hl⟩ := a
  have hi : i < (T.way o).length := Qd.mem_lets.mp hl
  refine es_ret (ev_if (P := intP (Qd.tm T (o, i))) (ev_isOut (ev_lt0 (ev_var rfl)) ev_val |> et_test) (fun h => ?_) fun h => ?_) (Le.refl _)
  · have h : o = true := h
    subst h
    have hi : i < T.out.length := hi
    refine ev_ixT (n := i) (ev_fld (f := "kept_out") (ev_var rfl) (Y.cls 87) (Y.noat 92)) (ev_lt1 (ev_var rfl)) rfl ?_
    have e : T.out[i]? = some (Qd.tm T (true, i)) := by
      show _ = some (T.out.getD i 0)
      rw [List.getD_eq_getElem?_getD, List.getElem?_eq_getElem hi]
      rfl
    rw [List.getElem?_map, e]
    rfl
  · have h : o = false := h
    subst h
    have hi : i < T.bk.length := hi
    refine ev_ixT (n := i) (ev_fld (f := "kept_back") (ev_var rfl) (Y.cls 87) (Y.noat 93)) (ev_lt1 (ev_var rfl)) rfl ?_
    have e : T.bk[i]? = some (Qd.tm T (false, i)) := by
      show _ = some (T.bk.getD i 0)
      rw [List.getD_eq_getElem?_getD, List.getElem?_eq_getElem hi]
      rfl
    rw [List.getElem?_map, e]
    rfl

end
end Qp
set_option Elab.async false
set_option linter.all false
set_option maxRecDepth 100000
set_option maxHeartbeats 4000000
namespace Qp
open PySem PySem.Spec PyProof.Rows L2 Qr Qt Qf RZ
section
variable {P : Program} {w : World} {K : PySem.W.Frag} {mg : Str → Option Value} {base : Heap}

theorem sz {n : Nat} (h : n ≤ 1000) : n < sizeLine := Nat.lt_of_le_of_lt h (by decide)
theorem lets_len {T : Qd.Tk} (h : Qd.TkOk T) : (Qd.lets T).length ≤ 120 := by
  have h1 := h.out.2.2
  have h2 := h.bk.2.2
  unfold Qd.lets
  rw [List.length_append, List.length_map, List.length_map, List.length_range, List.length_range]
  omega
theorem es_skip {so : Option Addr} {Γ : Qt.Ctx} {tc : TT} {t u : TS} {N : Qt.Ctx → Prop} {R : Pd} (hc : EvT so tc Γ false) (h : EvS so u Γ N R) : EvS so (tSeq (tIfS tc t tNext) u) Γ N R :=
  es_seq (M := fun G => G = Γ) (es_if hc (fun z => absurd z (by decide)) fun _ => es_next rfl) fun G e => e ▸ h
theorem es_guard {so : Option Addr} {Γ : Qt.Ctx} {tc : TT} {t u : TS} {N : Qt.Ctx → Prop} {R : Pd} {c : Bool} (hc : EvT so tc Γ c) (h1 : c = true → EvS so t Γ (fun _ => False) R) (h2 : c = false → EvS so u Γ N R) : EvS so (tSeq (tIfS tc t tNext) u) Γ N R :=
  es_seq (M := fun G => G = Γ ∧ c = false) (es_if hc (fun z => es_mono (h1 z) (fun _ h => h.elim) (Le.refl _)) fun z => es_next ⟨rfl, z⟩) fun G e => e.1 ▸ h2 e.2
theorem ok_Box_low (Y : Kit K mg) : Prp P w K mg base 1 (He.ga K "Box") "low" ["self"] (spF (pre_Box_low K) (out_Box_low K)) := by
  obtain ⟨hp, fd, F⟩ := Y.gt 0 (g := p_Box_low)
  have S : FnScope ["self"] ["self"] (defScope s_Box_low) := ⟨rfl, rfl, rfl, by decide +kernel, rfl, by decide +kernel, by decide +kernel⟩
  refine ⟨_, _, fd, Y.cls 83, hp, (F.bindsN fun _ _ _ _ _ _ us hl => match us, hl with | [_], _ => rfl), ?_⟩
  refine fn_ty (N := ["self"]) (Fall := False) F S (fun _ _ => rfl) (fun h => h.elim) fun cdv A outer s H E hr => ⟨_, (pss_one (ps_ret (pe_ix (kIx K rfl (hu_of hr)) (kFld K rfl (pv 0) rfl) pe_str (fun _ _ => rfl)))), fun so a => ?_⟩
  refine es_ret ?_ (Le.refl _)
  exact ev_op (ev_fld (f := "kept_parts") (P := boxP K a) (ev_var rfl) (Y.cls 83) (Y.noat 89)) (ev_val (v := .str "low")) fun x y W H K2 _ ⟨d, e, h⟩ py k => by
    subst e
    obtain rfl : y = .str "low" := py
    exact .inr (.inr ⟨d, .int a.low, rfl, .inl ⟨bxF a, .inr "low", .inl (vis_some.mp h).2, rfl, rfl⟩, k _ H (Same.refl H) rfl⟩)
theorem ok_Box_sees (Y : Kit K mg) : Prp P w K mg base 1 (He.ga K "Box") "sees" ["self"] (spF (pre_Box_sees K) (out_Box_sees K)) := by
  obtain ⟨hp, fd, F⟩ := Y.gt 1 (g := p_Box_sees)
  have S : FnScope ["self"] ["self"] (defScope s_Box_sees) := ⟨rfl, rfl, rfl, by decide +kernel, rfl, by decide +kernel, by decide +kernel⟩
  refine ⟨_, _, fd, Y.cls 83, hp, (F.bindsN fun _ _ _ _ _ _ us hl => match us, hl with | [_], _ => rfl), ?_⟩
  refine fn_ty (N := ["self"]) (Fall := False) F S (fun _ _ => rfl) (fun h => h.elim) fun cdv A outer s H E hr => ⟨_, (pss_one (ps_ret (pe_ix (kIx K rfl (hu_of hr)) (kFld K rfl (pv 0) rfl) pe_str (fun _ _ => rfl)))), fun so a => ?_⟩
  refine es_ret ?_ (Le.refl _)
  exact ev_op (ev_fld (f := "kept_parts") (P := boxP K a) (ev_var rfl) (Y.cls 83) (Y.noat 89)) (ev_val (v := .str "sees")) fun x y W H K2 _ ⟨d, e, h⟩ py k => by
    subst e
    obtain rfl : y = .str "sees" := py
    exact .inr (.inr ⟨d, .str (bw a.both), rfl, .inl ⟨bxF a, .inr "sees", .inl (vis_some.mp h).2, rfl, by
      show some (V.str (bw a.both)) = valV _ _
      unfold bxF
      have n1 : ¬ (Sum.inr (Str.ofString "low") : Key) = Sum.inr (Str.ofString "sees") := by decide +kernel
      have n2 : ¬ (Sum.inr (Str.ofString "high") : Key) = Sum.inr (Str.ofString "sees") := by decide +kernel
      have n3 : ¬ (Sum.inr (Str.ofString "rest") : Key) = Sum.inr (Str.ofString "sees") := by decide +kernel
      rw [valV_neg n1, valV_neg n2, valV_neg n3, valV_pos rfl]⟩, k _ H (Same.refl H) rfl⟩)
theorem ok_Talk_letters (Y : Kit K mg) : Mth P w K mg base 1 (He.ga K "Talk") "letters" ["self"] (spF (pre_Talk_letters K) (out_Talk_letters K)) := by
  obtain ⟨fd, F⟩ := Y.def_ 65 (d := d_Talk_letters)
  have S : FnScope ["self", "found", "at"] ["self"] (defScope s_Talk_letters) := ⟨rfl, rfl, rfl, by decide +kernel, rfl, by decide +kernel, by decide +kernel⟩
  refine ⟨_, fd, Y.cls 87, Y.meth 99, (F.bindsN fun _ _ _ _ _ _ us hl => match us, hl with | [_], _ => rfl), ?_⟩
  refine fn_ty (N := ["self", "found", "at"]) (Fall := False) F S (fun _ _ => rfl) (fun h => h.elim) fun cdv A outer s H E hr => ⟨_, (pss_cons (ps_setLc (i := 1) rfl S.nd rfl rfl (sw_true rfl rfl rfl (by decide +kernel)) (pi_range1 rfl (Y.free 63) (pa_cons (pe_callB (kLen K rfl) rfl (Y.free 62) boot_len (pa_cons (kFld K rfl (pv 0) rfl) pa_nil)) pa_nil)) (blkOk_by (N := ["self", "found", "at"]) (sc := defScope s_Talk_letters) (own := [("at", 2)]) (by decide +kernel)) (fun _ _ _ _ _ => (pg_name S.nd (i := 2) rfl (Or.inl rfl) (Or.inr rfl))) (fun _ _ _ _ _ => pts_nil) (fun _ _ _ _ _ => (pe_tup (pa_cons pe_str (pa_cons (pv 2) pa_nil))))) (pss_one (ps_ret (pe_callTy (kTup K rfl) rfl (Y.free 74) boot_tuple (pa_cons (pe_op (kAdd K rfl) (pv 1) (pe_lc rfl S.nd (pi_range1 rfl (Y.free 63) (pa_cons (pe_callB (kLen K rfl) rfl (Y.free 62) boot_len (pa_cons (kFld K rfl (pv 0) rfl) pa_nil)) pa_nil)) (blkOk_by (N := ["self", "found", "at"]) (sc := defScope s_Talk_letters) (own := [("at", 2)]) (by decide +kernel)) (fun _ _ _ _ _ => (pg_name S.nd (i := 2) rfl (Or.inl rfl) (Or.inr rfl))) (fun _ _ _ _ _ => pts_nil) (fun _ _ _ _ _ => (pe_tup (pa_cons pe_str (pa_cons (pv 2) pa_nil)))))) pa_nil))))), fun so a => ?_⟩
  obtain ⟨T, hT⟩ := a
  have h1 := hT.out.2.2
  have h2 := hT.bk.2.2
  have eo : ((T.out.map fun n => intP n).length : Int) = ((T.out.length : Nat) : Int) := by rw [List.length_map]
  have eb : ((T.bk.map fun n => intP n).length : Int) = ((T.bk.length : Nat) : Int) := by rw [List.length_map]
  refine es_then (es_set (ev_lc0 (List.range T.out.length) (fun (k : Nat) => intP (k : Int)) (fun k => ltP (true, k)) (ei_rng (ev_lenT (ev_fld (f := "kept_out") (ev_var rfl) (Y.cls 87) (Y.noat 92))) eo (Int.lt_of_le_of_lt (Int.le_of_eq eo) (by omega))) rfl (sz (by rw [List.length_range]; omega)) (fun _ h => h) (fun k _ => egName rfl) fun k _ => evTup (ea_cons ev_val (ea_cons (ev_var rfl) ea_nil)) rfl) (egName rfl) rfl) ?_
  refine es_ret (ev_tupL (ev_addL (ev_var rfl) (ev_lc0 (List.range T.bk.length) (fun (k : Nat) => intP (k : Int)) (fun k => ltP (false, k)) (ei_rng (ev_lenT (ev_fld (f := "kept_back") (ev_var rfl) (Y.cls 87) (Y.noat 93))) eb (Int.lt_of_le_of_lt (Int.le_of_eq eb) (by omega))) rfl (sz (by rw [List.length_range]; omega)) (fun _ h => h) (fun k _ => egName rfl) fun k _ => evTup (ea_cons ev_val (ea_cons (ev_var rfl) ea_nil)) rfl) ?_)) (Le.of_eq ?_)
  · rw [List.length_map, List.length_map, List.length_range, List.length_range]
    exact Nat.le_of_lt (sz (by omega))
  · show _ = tupP ((Qd.lets T).map ltP)
    unfold Qd.lets
    rw [List.map_append, List.map_map, List.map_map]
    rfl
theorem ok_Talk_contains (Y : Kit K mg) : Mth P w K mg base 2 (He.ga K "Talk") "__contains__" ["self", "letter"] (spF (pre_Talk_contains K) (out_Talk_contains K)) := by
  obtain ⟨fd, F⟩ := Y.def_ 66 (d := d_Talk_contains)
  have S : FnScope ["self", "letter"] ["self", "letter"] (defScope s_Talk_contains) := ⟨rfl, rfl, rfl, by decide +kernel, rfl, by decide +kernel, by decide +kernel⟩
  refine ⟨_, fd, Y.cls 87, Y.meth 100, (F.bindsN fun _ _ _ _ _ _ us hl => match us, hl with | [_, _], _ => rfl), ?_⟩
  refine fn_ty (N := ["self", "letter"]) (Fall := False) F S (fun _ _ => rfl) (fun h => h.elim) fun cdv A outer s H E hr => ⟨_, (pss_cons (ps_if (PW.pt (pw_or (pt_not (pt_val (pe_callB (kIs K rfl) rfl (Y.free 69) boot_isinstance (pa_cons (pv 1) (pa_cons (pe_ty (Y.free 74) boot_tuple) pa_nil))))) (pw_or (pt_cmpR (kNe K rfl hr.units) (pe_callB (kLen K rfl) rfl (Y.free 62) boot_len (pa_cons (pv 1) pa_nil)) pe_int (nomark _)) (pw_or1 (pt_not (pt_val (pe_callB (kIs K rfl) rfl (Y.free 69) boot_isinstance (pa_cons (pe_ix (kIx K rfl (hu_of hr)) (pv 1) pe_int (fun _ _ => rfl)) (pa_cons (pe_ty (Y.free 72) boot_str) pa_nil))))))))) (pss_one (ps_ret pe_bl)) pss_nil) (pss_one (ps_ret (pe_and (pe_dfn (ok_is_integer Y) hr (pa_cons (pe_ix (kIx K rfl (hu_of hr)) (pv 1) pe_int (fun _ _ => rfl)) pa_nil)) (pe_one (pe_cmpR (kIn K rfl (u65 hr)) (pv 1) (pe_mth0 (ok_Talk_letters Y) hr (pv 0)) (by with_unfolding_all rfl))))))), fun so a => ?_⟩
  obtain ⟨⟨T, l⟩, hT, hl⟩ := a
  have hlen : (Qd.lets T).length ≤ 120 := lets_len hT
  refine es_skip (EvT.eq (et_or (et_not (et_val (ev_isi (P := ltP l) (ev_var rfl)))) fun _ => et_or (et_test (ev_neI (ev_lenT (Ps := [strP (wd l.1), intP (l.2 : Int)]) (ev_var rfl)) ev_val)) fun _ => et_not (et_val (ev_isi (P := strP (wd l.1)) (ev_lt0 (ev_var rfl))))) (by simp)) ?_
  refine es_ret (ev_andV (ev_call (a := scI (l.2 : Int)) (ea_cons (ev_lt1 (ev_var rfl)) ea_nil)) fun _ => ev_inLtsT (g := Qd.lets T) (ev_var rfl) (ev_meth (a := (⟨T, hT⟩ : {T : Qd.Tk // Qd.TkOk T})) (ev_var rfl) ea_nil rfl (by decide +kernel))) (Le.of_eq ?_)
  rw [decide_eq_true hl]
  rfl
def pre_place_along (K : PySem.W.Frag) (_ : Option Addr) (a : {x : Qd.Ln × Nat × Qd.Lt // Qd.LnOk x.1 ∧ x.2.1 < x.1.bx.length}) : List Pd := [rowP K a.1.1, ltP a.1.2.2, intP (a.1.2.1 : Int)]
def out_place_along (K : PySem.W.Frag) (a : {x : Qd.Ln × Nat × Qd.Lt // Qd.LnOk x.1 ∧ x.2.1 < x.1.bx.length}) : Pd := intP (Qd.place a.1.1 a.1.2.1 a.1.2.2 : Int)
theorem ok_place_along (Y : Kit K mg) : Dfn P w K mg base 3 "place_along" ["row", "letter", "box"] (spF (pre_place_along K) (out_place_along K)) := by
  obtain ⟨fd, F⟩ := Y.def_ 6 (d := d_place_along)
  have S : FnScope ["row", "letter", "box"] ["row", "letter", "box"] (defScope s_place_along) := ⟨rfl, rfl, rfl, by decide +kernel, rfl, by decide +kernel, by decide +kernel⟩
  refine ⟨_, fd, Y.glo 6, F.kp, (F.bindsN fun _ _ _ _ _ _ us hl => match us, hl with | [_, _, _], _ => rfl), ?_⟩
  refine fn_ty (N := ["row", "letter", "box"]) (Fall := False) F S (fun _ _ => rfl) (fun h => h.elim) fun cdv A outer s H E hr => ⟨_, (pss_one (ps_ret (pe_ifExp (pt_cmpR (kEq K rfl hr.units) (pe_ix (kIx K rfl (hu_of hr)) (pv 1) pe_int (fun _ _ => rfl)) pe_str (nomark _)) (pv 2) (pe_op op_sub (pe_op op_sub (pe_lenO (ok_Row_len Y) hr (Y.free 62) (pa_cons (pv 0) pa_nil)) pe_int) (pv 2))))), fun so a => ?_⟩
  obtain ⟨⟨L, b, o, i⟩, hL, hb⟩ := a
  have hL : Qd.LnOk L := hL
  have hb : b < L.bx.length := hb
  have h4 := hL.n4
  refine es_ret (ev_if (P := intP (Qd.place L b (o, i) : Int)) (et_test (ev_isOut (ev_lt0 (ev_var rfl)) ev_val)) (fun h => ?_) fun h => ?_) (Le.refl _)
  · have h : o = true := h
    subst h
    exact ev_var rfl
  · have h : o = false := h
    subst h
    refine Ev.eq (ev_rI0 (ev_rI0 (ev_lenO (a := L) (n := L.bx.length) (ev_var rfl) rfl rfl (by omega)) ev_val) (ev_var rfl)) ?_
    show intP ((L.bx.length : Int) - 1 - (b : Int)) = intP ((L.bx.length - 1 - b : Nat) : Int)
    congr 2
    omega
def pre_links_along (K : PySem.W.Frag) (_ : Option Addr) (a : {x : Qd.Ln × Qd.Lt // Qd.LnOk x.1}) : List Pd := [rowP K a.1.1, ltP a.1.2]
def out_links_along (K : PySem.W.Frag) (a : {x : Qd.Ln × Qd.Lt // Qd.LnOk x.1}) : Pd := tupP ((Qd.along a.1.1 a.1.2.1).map lkP)
theorem ok_links_along (Y : Kit K mg) : Dfn P w K mg base 3 "links_along" ["row", "letter"] (spF (pre_links_along K) (out_links_along K)) := by
  obtain ⟨fd, F⟩ := Y.def_ 5 (d := d_links_along)
  have S : FnScope ["row", "letter"] ["row", "letter"] (defScope s_links_along) := ⟨rfl, rfl, rfl, by decide +kernel, rfl, by decide +kernel, by decide +kernel⟩
  refine ⟨_, fd, Y.glo 5, F.kp, (F.bindsN fun _ _ _ _ _ _ us hl => match us, hl with | [_, _], _ => rfl), ?_⟩
  refine fn_ty (N := ["row", "letter"]) (Fall := False) F S (fun _ _ => rfl) (fun h => h.elim) fun cdv A outer s H E hr => ⟨_, (pss_one (ps_ret (pe_ifExp (pt_cmpR (kEq K rfl hr.units) (pe_ix (kIx K rfl (hu_of hr)) (pv 1) pe_int (fun _ _ => rfl)) pe_str (nomark _)) (pe_slice (kSl K rfl) (pe_prp (ok_Row_links Y) hr (pv 0)) po_none (po_some (pe_un un_neg pe_int))) (kBack K rfl (pe_prp (ok_Row_links Y) hr (pv 0)))))), fun so a => ?_⟩
  obtain ⟨⟨L, o, i⟩, hL⟩ := a
  have hL : Qd.LnOk L := hL
  refine es_ret (ev_if (P := tupP ((Qd.along L o).map lkP)) (et_test (ev_isOut (ev_lt0 (ev_var rfl)) ev_val)) (fun h => ?_) fun h => ?_) (Le.refl _)
  · have h : o = true := h
    subst h
    refine Ev.eq (ev_slT (ev_prop (a := L) (ev_var rfl) rfl) eo_none (eo_some (ev_neg ev_val))) ?_
    show tupP (cutP (L.lk.map lkP) none (some (-1))) = tupP ((L.lk.take (L.lk.length - 1)).map lkP)
    rw [cut_last, List.length_map, List.map_take]
  · have h : o = false := h
    subst h
    refine Ev.eq (ev_backT (Ps := L.lk.map lkP) (ev_prop (a := L) (ev_var rfl) rfl) (by rw [List.length_map, hL.nl]; omega)) ?_
    show tupP (((L.lk.map lkP).drop 1).reverse) = tupP (((L.lk.drop 1).reverse).map lkP)
    rw [List.map_reverse, List.map_drop]
def pre_is_sight (K : PySem.W.Frag) (_ : Option Addr) (a : {x : Qd.Ln × Nat × Qd.Lt // Qd.LnOk x.1 ∧ x.2.1 < x.1.bx.length}) : List Pd := [rowP K a.1.1, intP (a.1.2.1 : Int), ltP a.1.2.2]
def out_is_sight (K : PySem.W.Frag) (a : {x : Qd.Ln × Nat × Qd.Lt // Qd.LnOk x.1 ∧ x.2.1 < x.1.bx.length}) : Pd := blP (Qd.sight a.1.1 a.1.2.1 a.1.2.2)
theorem bw_both (b : Bool) : (bw b == Str.ofString "both") = b := by
  cases b <;> decide +kernel
theorem bw_can (b : Bool) : PyData.canLay0 (.str (bw b)) = true := by
  cases b <;> decide +kernel
theorem ok_is_sight (Y : Kit K mg) : Dfn P w K mg base 3 "is_sight" ["row", "box", "letter"] (spF (pre_is_sight K) (out_is_sight K)) := by
  obtain ⟨fd, F⟩ := Y.def_ 12 (d := d_is_sight)
  have S : FnScope ["row", "box", "letter"] ["row", "box", "letter"] (defScope s_is_sight) := ⟨rfl, rfl, rfl, by decide +kernel, rfl, by decide +kernel, by decide +kernel⟩
  refine ⟨_, fd, Y.glo 12, F.kp, (F.bindsN fun _ _ _ _ _ _ us hl => match us, hl with | [_, _, _], _ => rfl), ?_⟩
  refine fn_ty (N := ["row", "box", "letter"]) (Fall := False) F S (fun _ _ => rfl) (fun h => h.elim) fun cdv A outer s H E hr => ⟨_, (pss_one (ps_ret (pe_or (pe_cmpR (kEq K rfl hr.units) (pe_ix (kIx K rfl (hu_of hr)) (pv 2) pe_int (fun _ _ => rfl)) pe_str (nomark _)) (pe_one (pe_cmpR (kEq K rfl hr.units) (pe_prp (ok_Box_sees Y) hr (pe_ix (kIx K rfl (hu_of hr)) (pe_prp (ok_Row_boxes Y) hr (pv 0)) (pv 1) (fun _ _ => rfl))) pe_str (nomark _)))))), fun so a => ?_⟩
  obtain ⟨⟨L, b, o, i⟩, hL, hb⟩ := a
  have hb : b < L.bx.length := hb
  have e : (L.bx.map (boxP K))[b]? = some (boxP K L.bx[b]) := by
    rw [List.getElem?_map, List.getElem?_eq_getElem hb]
    rfl
  refine es_ret (ev_orV (ev_isOut (ev_lt0 (ev_var rfl)) ev_val) fun _ => ev_eqStr (ev_prop (a := L.bx[b]) (ev_ixT (n := b) (ev_prop (a := L) (ev_var rfl) rfl) (ev_var rfl) rfl e) rfl) ev_val (bw_can _)) (Le.of_eq ?_)
  show blP (o || (bw L.bx[b].both == Str.ofString "both")) = blP (o || Qd.bothAt L b)
  rw [bw_both]
  unfold Qd.bothAt
  rw [List.getElem?_eq_getElem hb]
  rfl
def pre_window_of (K : PySem.W.Frag) (_ : Option Addr) (a : RTBL) : List Pd := [rowP K a.1.1, talkP K a.1.2.1, intP (a.1.2.2.1 : Int), ltP a.1.2.2.2]
def out_window_of (K : PySem.W.Frag) (a : RTBL) : Pd := lkP (Qd.win a.1.1 a.1.2.1 a.1.2.2.1 a.1.2.2.2)
theorem ok_window_of (Y : Kit K mg) : Dfn P w K mg base 5 "window_of" ["row", "talk", "box", "letter"] (spF (pre_window_of K) (out_window_of K)) := by
  obtain ⟨fd, F⟩ := Y.def_ 4 (d := d_window_of)
  have S : FnScope ["row", "talk", "box", "letter", "delay", "time"] ["row", "talk", "box", "letter"] (defScope s_window_of) := ⟨rfl, rfl, rfl, by decide +kernel, rfl, by decide +kernel, by decide +kernel⟩
  refine ⟨_, fd, Y.glo 4, F.kp, (F.bindsN fun _ _ _ _ _ _ us hl => match us, hl with | [_, _, _, _], _ => rfl), ?_⟩
  refine fn_ty (N := ["row", "talk", "box", "letter", "delay", "time"]) (Fall := False) F S (fun _ _ => rfl) (fun h => h.elim) fun cdv A outer s H E hr => ⟨_, (pss_cons (ps_set (i := 4) S.nd rfl (Or.inl rfl) (pe_ifExp (pt_cmpR (kEq K rfl hr.units) (pe_ix (kIx K rfl (hu_of hr)) (pv 3) pe_int (fun _ _ => rfl)) pe_str (nomark _)) (pe_mth (ok_Row_out_delay Y) hr (pv 0) (pa_cons (pv 2) pa_nil)) (pe_mth (ok_Row_back_delay Y) hr (pv 0) (pa_cons (pv 2) pa_nil)))) (pss_cons (ps_set (i := 5) S.nd rfl (Or.inl rfl) (pe_mth (ok_Talk_time Y) hr (pv 1) (pa_cons (pv 3) pa_nil))) (pss_one (ps_ret (pe_tup (pa_cons (pe_op (kAdd K rfl) (pv 5) (pe_ix (kIx K rfl (hu_of hr)) (pv 4) pe_int (fun _ _ => rfl))) (pa_cons (pe_op (kAdd K rfl) (pv 5) (pe_ix (kIx K rfl (hu_of hr)) (pv 4) pe_int (fun _ _ => rfl))) pa_nil))))))), fun so a => ?_⟩
  obtain ⟨⟨L, T, b, o, i⟩, hL, hT, hb, hl⟩ := a
  refine es_then (es_set (P := lkP (Qd.sm (Qd.part L b o))) (ev_if (et_test (ev_isOut (ev_lt0 (ev_var rfl)) ev_val)) (fun h => ?_) fun h => ?_) (egName rfl) rfl) ?_
  · have h : o = true := h
    subst h
    exact ev_meth (a := (⟨(L, b), hL, hb⟩ : RB)) (ev_var rfl) (ea_cons (ev_var rfl) ea_nil) rfl (by decide +kernel)
  · have h : o = false := h
    subst h
    exact ev_meth (a := (⟨(L, b), hL, hb⟩ : RB)) (ev_var rfl) (ea_cons (ev_var rfl) ea_nil) rfl (by decide +kernel)
  refine es_then (es_set (ev_meth (a := (⟨(T, o, i), hT, hl⟩ : TL)) (ev_var rfl) (ea_cons (ev_var rfl) ea_nil) rfl (by decide +kernel)) (egName rfl) rfl) ?_
  exact es_ret (evTup (ea_cons (ev_addI (ev_var rfl) (ev_ixT (n := 0) (Ps := [intP _, intP _]) (ev_var rfl) ev_val rfl rfl)) (ea_cons (ev_addI (ev_var rfl) (ev_ixT (n := 1) (Ps := [intP _, intP _]) (ev_var rfl) ev_val rfl rfl)) ea_nil)) rfl) (Le.of_eq rfl)

end
end Qp
set_option Elab.async false
set_option linter.all false
set_option maxRecDepth 100000
set_option maxHeartbeats 4000000
namespace Qp
open PySem PySem.Spec PyProof.Rows L2 Qr Qt Qf RZ
section
variable {P : Program} {w : World} {K : PySem.W.Frag} {mg : Str → Option Value} {base : Heap}

abbrev LA : Type := {x : Qd.Ln × Qd.Lt // Qd.LnOk x.1}
abbrev LBL : Type := {x : Qd.Ln × Nat × Qd.Lt // Qd.LnOk x.1 ∧ x.2.1 < x.1.bx.length}
abbrev vP (v : List Int) : Pd := tupP (v.map fun n => intP n)
abbrev ST : Type := {x : Qd.Ln × Qd.Tk × Qd.Lt × List Int // Qd.LnOk x.1 ∧ Qd.TkOk x.2.1 ∧ x.2.2.1 ∈ Qd.lets x.2.1 ∧ Qd.stepsOk x.1 x.2.1 x.2.2.1 x.2.2.2 = true}
def pre_are_steps (K : PySem.W.Frag) (_ : Option Addr) (a : ST) : List Pd := [rowP K a.1.1, talkP K a.1.2.1, ltP a.1.2.2.1, vP a.1.2.2.2]
def out_are_steps (K : PySem.W.Frag) (a : ST) : Pd := blP true
theorem along_len {L : Qd.Ln} (h : Qd.LnOk L) (o : Bool) : (Qd.along L o).length = L.bx.length := by
  have h1 := h.nl
  have h2 := h.n1
  unfold Qd.along
  cases o with
  | true =>
    rw [if_pos rfl, List.length_take]
    omega
  | false =>
    rw [if_neg Bool.false_ne_true, List.length_reverse, List.length_drop]
    omega
theorem zip_at {α β γ : Type} {l : List α} {m : List β} {f : α × β → γ} {i : Nat} {P : γ} (h : ((l.zip m).map f)[i]? = some P) : ∃ (h1 : i < l.length) (h2 : i < m.length), P = f (l[i], m[i]) := by
  rw [List.getElem?_map] at h
  obtain ⟨z, e1, e2⟩ := Option.map_eq_some_iff.mp h
  have hi := (List.getElem?_eq_some_iff.mp e1).1
  rw [List.length_zip] at hi
  have h1 : i < l.length := by omega
  have h2 : i < m.length := by omega
  have z3 := zip_get (l := l) (m := m) (j := i) h1 h2
  rw [z3] at e1
  exact ⟨h1, h2, by rw [← e2, ← Option.some.inj e1]⟩
theorem map_at {α γ : Type} {l : List α} {f : α → γ} {i : Nat} {P : γ} (h : (l.map f)[i]? = some P) : ∃ (h1 : i < l.length), P = f l[i] := by
  rw [List.getElem?_map] at h
  obtain ⟨z, e1, e2⟩ := Option.map_eq_some_iff.mp h
  obtain ⟨hi, e3⟩ := List.getElem?_eq_some_iff.mp e1
  exact ⟨hi, by rw [← e2, e3]⟩
theorem ok_are_steps (Y : Kit K mg) : Dfn P w K mg base 4 "are_steps" ["row", "talk", "letter", "value"] (spF (pre_are_steps K) (out_are_steps K)) := by
  obtain ⟨fd, F⟩ := Y.def_ 7 (d := d_are_steps)
  have S : FnScope ["row", "talk", "letter", "value", "time", "before", "least", "most"] ["row", "talk", "letter", "value"] (defScope s_are_steps) := ⟨rfl, rfl, rfl, by decide +kernel, rfl, by decide +kernel, by decide +kernel⟩
  refine ⟨_, fd, Y.glo 7, F.kp, (F.bindsN fun _ _ _ _ _ _ us hl => match us, hl with | [_, _, _, _], _ => rfl), ?_⟩
  refine fn_ty (N := ["row", "talk", "letter", "value", "time", "before", "least", "most"]) (Fall := False) F S (fun _ _ => rfl) (fun h => h.elim) fun cdv A outer s H E hr => ⟨_, (pss_cons (ps_if (PW.pt (pw_or (pt_not (pt_val (pe_callB (kIs K rfl) rfl (Y.free 69) boot_isinstance (pa_cons (pv 3) (pa_cons (pe_ty (Y.free 74) boot_tuple) pa_nil))))) (pw_or (pt_cmpR op_gt (pe_callB (kLen K rfl) rfl (Y.free 62) boot_len (pa_cons (pv 3) pa_nil)) (pe_lenO (ok_Row_len Y) hr (Y.free 62) (pa_cons (pv 0) pa_nil)) (nomark _)) (pw_or1 (pt_not (pt_val (pe_callB (kAll K rfl rfl) rfl (Y.free 66) boot_all (pa_cons (pe_lc rfl S.nd (kPT K rfl (pv 3)) (blkOk_by (N := ["row", "talk", "letter", "value", "time", "before", "least", "most"]) (sc := defScope s_are_steps) (own := [("time", 4)]) (by decide +kernel)) (fun _ _ _ _ _ => (pg_name S.nd (i := 4) rfl (Or.inl rfl) (Or.inr rfl))) (fun _ _ _ _ _ => pts_nil) (fun _ _ _ _ _ => (pe_dfn (ok_is_count Y) hr (pa_cons (pv 4) pa_nil)))) pa_nil)))))))) (pss_one (ps_ret pe_bl)) pss_nil) (pss_cons (ps_set (i := 5) S.nd rfl (Or.inl rfl) (pe_mth (ok_Talk_time Y) hr (pv 1) (pa_cons (pv 2) pa_nil))) (pss_cons (ps_for PassesOwn.never rfl (kZip K rfl rfl (Y.free 64) (pa_cons (pv 3) (pa_cons (pe_dfn (ok_links_along Y) hr (pa_cons (pv 0) (pa_cons (pv 2) pa_nil))) pa_nil))) (kGt K rfl 2 rfl (pgs_cons (pg_name S.nd (i := 4) rfl (Or.inl rfl) (Or.inl rfl)) (pgs_cons (kGt K rfl 2 rfl (pgs_cons (pg_name S.nd (i := 6) rfl (Or.inl rfl) (Or.inl rfl)) (pgs_cons (pg_name S.nd (i := 7) rfl (Or.inl rfl) (Or.inl rfl)) pgs_nil))) pgs_nil))) (pss_cons (ps_if (pt_not (pt_chain op_le op_le (pe_op (kAdd K rfl) (pv 5) (pv 6)) (pv 4) (pe_op (kAdd K rfl) (pv 5) (pv 7)))) (pss_one (ps_ret pe_bl)) pss_nil) (pss_one (ps_set (i := 5) S.nd rfl (Or.inl rfl) (pv 4))))) (pss_one (ps_ret pe_bl))))), fun so a => ?_⟩
  obtain ⟨⟨L, T, ⟨o, k⟩, v⟩, hL, hT, hl, hs⟩ := a
  have hL : Qd.LnOk L := hL
  have hs : Qd.stepsOk L T (o, k) v = true := hs
  unfold Qd.stepsOk at hs
  rw [Bool.and_eq_true, Bool.and_eq_true] at hs
  obtain ⟨⟨hs1, hs2⟩, hs3⟩ := hs
  have hs1 := of_decide_eq_true hs1
  have h4 := hL.n4
  refine es_skip (EvT.eq (et_or (et_not (et_val (ev_isi (P := vP v) (ev_var rfl)))) fun _ => et_or (et_test (ev_rI0 (ev_lenT (Ps := v.map fun n => intP n) (ev_var rfl)) (ev_lenO (a := L) (n := L.bx.length) (ev_var rfl) rfl rfl (by omega)))) fun _ =>
    et_not (et_val (ev_allMap (g := fun n => decide (0 ≤ n)) (ev_lc0 v (fun n => intP n) (fun n => blP (decide (0 ≤ n))) (ei_tup (ev_var rfl)) rfl (sz (by omega)) (fun _ h => h) (fun _ _ => egName rfl) fun n _ => ev_call (a := n) (ea_cons (ev_var rfl) ea_nil))))) ?_) ?_
  · rw [hs2, List.length_map, decide_eq_false (by omega)]
    rfl
  refine es_then (es_set (ev_meth (a := (⟨(T, o, k), hT, hl⟩ : TL)) (ev_var rfl) (ea_cons (ev_var rfl) ea_nil) rfl (by decide +kernel)) (egName rfl) rfl) ?_
  let Γs : Int → Qt.Ctx := fun t => ⟨[some (rowP K L), some (talkP K T), some (ltP (o, k)), some (vP v), none, some (intP t), none, none], none, none⟩
  refine es_forT (fun i G => ∃ t, G = Γs t ∧ Qd.chain ((Qd.along L o).drop i) t (v.drop i) = true) (ei_zipT (l := v) (m := Qd.along L o) (f := fun n => intP n) (g := lkP) (ev_var rfl) (ev_call (a := (⟨(L, o, k), hL⟩ : LA)) (ea_cons (ev_var rfl) (ea_cons (ev_var rfl) ea_nil))))
    (Γs (Qd.tm T (o, k))) (CLe.refl _) ⟨_, rfl, hs3⟩ (fun i P Γi eP hI => ?_) fun Γ' hI => ?_
  · obtain ⟨t, rfl, hc⟩ := hI
    obtain ⟨h1, h2, rfl⟩ := zip_at eP
    rw [List.drop_eq_getElem_cons h1, List.drop_eq_getElem_cons h2] at hc
    have hc : ((decide (t + (Qd.along L o)[i].1 ≤ v[i]) && decide (v[i] ≤ t + (Qd.along L o)[i].2)) && Qd.chain ((Qd.along L o).drop (i + 1)) v[i] (v.drop (i + 1))) = true := hc
    rw [Bool.and_eq_true] at hc
    refine ⟨_, _, eg_tup (eg_cons (egName rfl) (eg_cons (egTup2 rfl rfl) eg_nil)) rfl, ?_⟩
    refine es_skip (EvT.eq (et_not (et_test (ev_chain (a := decide (t + (Qd.along L o)[i].1 ≤ v[i])) (b := decide (v[i] ≤ t + (Qd.along L o)[i].2)) (P := intP (t + (Qd.along L o)[i].1)) (P' := intP v[i]) (Q := intP (t + (Qd.along L o)[i].2)) (ev_addI (ev_var rfl) (ev_var rfl)) (ev_var rfl) (fun _ => ev_addI (ev_var rfl) (ev_var rfl)) (fun x y H K px py k => by exact ⟨_, _, px, py, k⟩) fun _ x y H K px py k => by exact ⟨_, _, px, py, k⟩))) ?_) ?_
    · rw [hc.1]
      rfl
    · exact es_set (ev_var rfl) (egName rfl) ⟨Γs v[i], CLe.of ⟨Le.refl _, Le.refl _, Le.refl _, Le.refl _, Le.refl _, trivial⟩ rfl rfl, _, rfl, hc.2⟩
  · obtain ⟨t, rfl, _⟩ := hI
    exact es_ret ev_val (Le.refl _)
abbrev CL : Type := {x : Qd.Tk × List Qd.Lt // Qd.TkOk x.1 ∧ x.2.length ≤ 900}
def pre_can_be_lost (K : PySem.W.Frag) (_ : Option Addr) (a : CL) : List Pd := [talkP K a.1.1, lstP (a.1.2.map ltP)]
def out_can_be_lost (K : PySem.W.Frag) (a : CL) : Pd := blP (Qd.canLose a.1.1 a.1.2)
theorem ok_can_be_lost (Y : Kit K mg) : Dfn P w K mg base 3 "can_be_lost" ["talk", "lost"] (spF (pre_can_be_lost K) (out_can_be_lost K)) := by
  obtain ⟨fd, F⟩ := Y.def_ 8 (d := d_can_be_lost)
  have S : FnScope ["talk", "lost", "letter", "followers", "at", "other"] ["talk", "lost"] (defScope s_can_be_lost) := ⟨rfl, rfl, rfl, by decide +kernel, rfl, by decide +kernel, by decide +kernel⟩
  refine ⟨_, fd, Y.glo 8, F.kp, (F.bindsN fun _ _ _ _ _ _ us hl => match us, hl with | [_, _], _ => rfl), ?_⟩
  refine fn_ty (N := ["talk", "lost", "letter", "followers", "at", "other"]) (Fall := False) F S (fun _ _ => rfl) (fun h => h.elim) fun cdv A outer s H E hr => ⟨_, (pss_cons (ps_for PassesOwn.never rfl (kPL K rfl (pv 1)) (pg_name S.nd (i := 2) rfl (Or.inr rfl) (Or.inl rfl)) (pss_cons (ps_setLc (i := 3) rfl S.nd rfl rfl (sw_true rfl rfl rfl (by decide +kernel)) (pi_range1 rfl (Y.free 63) (pa_cons (pe_op (kAdd K rfl) (pe_prp (ok_Talk_losses Y) hr (pv 0)) pe_int) pa_nil)) (blkOk_by (N := ["talk", "lost", "letter", "followers", "at", "other"]) (sc := defScope s_can_be_lost) (own := [("at", 4)]) (by decide +kernel)) (fun _ _ _ _ _ => (pg_name S.nd (i := 4) rfl (Or.inl rfl) (Or.inr rfl))) (fun _ _ _ _ _ => pts_nil) (fun _ _ _ _ _ => (pe_tup (pa_cons (pe_ix (kIx K rfl (hu_of hr)) (pv 2) pe_int (fun _ _ => rfl)) (pa_cons (pe_op (kAdd K rfl) (pe_ix (kIx K rfl (hu_of hr)) (pv 2) pe_int (fun _ _ => rfl)) (pv 4)) pa_nil))))) (pss_one (ps_if (pt_val (pe_callB (kAll K rfl rfl) rfl (Y.free 66) boot_all (pa_cons (pe_lc rfl S.nd (kPL K rfl (pv 3)) (blkOk_by (N := ["talk", "lost", "letter", "followers", "at", "other"]) (sc := defScope s_can_be_lost) (own := [("other", 5)]) (by decide +kernel)) (fun _ _ _ _ _ => (pg_name S.nd (i := 5) rfl (Or.inl rfl) (Or.inr rfl))) (fun _ _ _ _ _ => pts_nil) (fun _ _ _ _ _ => (pe_cmpR (kIn K rfl (u65 hr)) (pv 5) (pv 1) (by with_unfolding_all rfl)))) pa_nil))) (pss_one (ps_ret pe_bl)) pss_nil)))) (pss_one (ps_ret pe_bl))), fun so a => ?_⟩
  obtain ⟨⟨T, g⟩, hT, hg⟩ := a
  have hT : Qd.TkOk T := hT
  have h5 := hT.ls
  let Γs : Qt.Ctx := ⟨[some (talkP K T), some (lstP (g.map ltP)), none, none, none, none], none, none⟩
  refine es_forT (fun i G => G = Γs ∧ ∀ l ∈ g.take i, (!((Qd.follow T l).all fun q => decide (q ∈ g))) = true) (ei_list (Ps := g.map ltP) (ev_var rfl)) Γs (CLe.refl _) ⟨rfl, fun l hl => by simp at hl⟩ (fun i P Γi eP hI => ?_) fun Γ' hI => ?_
  · obtain ⟨rfl, hI⟩ := hI
    obtain ⟨h1, rfl⟩ := map_at eP
    refine ⟨_, _, egName rfl, ?_⟩
    have el : ((T.ls : Int) + 1) = ((T.ls + 1 : Nat) : Int) := by omega
    refine es_then (es_set (P := lstP ((Qd.follow T g[i]).map ltP)) (Ev.eq (ev_lc0 (List.range (T.ls + 1)) (fun (n : Nat) => intP (n : Int)) (fun a => ltP (g[i].1, g[i].2 + a)) (ei_rng (ev_addI (ev_prop (a := T) (ev_var rfl) rfl) ev_val) el (by show (T.ls : Int) + 1 < _; omega)) rfl (sz (by rw [List.length_range]; omega)) (fun _ h => h) (fun _ _ => egName rfl) fun a _ =>
      Ev.eq (evTup (ea_cons (ev_lt0 (ev_var rfl)) (ea_cons (ev_addI (ev_lt1 (ev_var rfl)) (ev_var rfl)) ea_nil)) rfl) (by
        show tupP [strP (wd g[i].1), intP ((g[i].2 : Int) + (a : Int))] = tupP [strP (wd g[i].1), intP ((g[i].2 + a : Nat) : Int)]
        rw [Int.natCast_add])) (by
        unfold Qd.follow
        rw [List.map_map]
        rfl)) (egName rfl) rfl) ?_
    refine es_if (et_val (ev_allMap (g := fun q => decide (q ∈ g)) (ev_lc0 (Qd.follow T g[i]) ltP (fun q => blP (decide (q ∈ g))) (ei_list (ev_var rfl)) rfl (sz (by unfold Qd.follow; rw [List.length_map, List.length_range]; omega)) (fun _ h => h) (fun _ _ => egName rfl) fun q _ => ev_inLts (ev_var rfl) (ev_var rfl)))) (fun hc => ?_) fun hc => ?_
    · refine es_ret ev_val (Le.of_eq ?_)
      have e : Qd.canLose T g = false := by
        rw [← Bool.not_eq_true]
        unfold Qd.canLose
        intro z
        have z2 := List.all_eq_true.mp z g[i] (List.getElem_mem h1)
        rw [hc] at z2
        cases z2
      show blP false = blP (Qd.canLose T g)
      rw [e]
    · refine es_next ⟨Γs, CLe.of ⟨Le.refl _, Le.refl _, trivial⟩ rfl rfl, rfl, fun l hl => ?_⟩
      rw [List.take_add_one, List.getElem?_eq_getElem h1] at hl
      rcases List.mem_append.mp hl with z | z
      · exact hI l z
      · have e : l = g[i] := by simpa using z
        rw [e, hc]
        rfl
  · obtain ⟨rfl, hI⟩ := hI
    refine es_ret ev_val (Le.of_eq ?_)
    have e : Qd.canLose T g = true := by
      unfold Qd.canLose
      rw [List.all_eq_true]
      intro l hl
      refine hI l ?_
      rw [List.length_map, List.take_length]
      exact hl
    show blP true = blP (Qd.canLose T g)
    rw [e]
/-! a course, or what is none -/
inductive CV (L : Qd.Ln) (T : Qd.Tk) where
  | ok (C : Qd.Lt → List Int) (h : Qd.CourseOk L T C)
  | bad (P : Pd) (t : String) (h : TyP P t) (h2 : KitB t "dict" false)
  | nil
abbrev crsP (T : Qd.Tk) (C : Qd.Lt → List Int) : Pd := dctP (Qd.lets T) fun l => vP (C l)
def CV.pd {L : Qd.Ln} {T : Qd.Tk} : CV L T → Pd
  | .ok C _ => crsP T C
  | .bad P _ _ _ => P
  | .nil => nilD
def CV.b {L : Qd.Ln} {T : Qd.Tk} : CV L T → Bool
  | .ok _ _ => true
  | _ => false
structure CA where
  L : Qd.Ln
  T : Qd.Tk
  hL : Qd.LnOk L
  hT : Qd.TkOk T
  c : CV L T
def pre_is_course (K : PySem.W.Frag) (_ : Option Addr) (a : CA) : List Pd := [rowP K a.L, talkP K a.T, a.c.pd]
def out_is_course (K : PySem.W.Frag) (a : CA) : Pd := blP a.c.b
theorem ok_is_course (Y : Kit K mg) : Dfn P w K mg base 5 "is_course" ["row", "talk", "value"] (spF (pre_is_course K) (out_is_course K)) := by
  obtain ⟨fd, F⟩ := Y.def_ 9 (d := d_is_course)
  have S : FnScope ["row", "talk", "value", "letter"] ["row", "talk", "value"] (defScope s_is_course) := ⟨rfl, rfl, rfl, by decide +kernel, rfl, by decide +kernel, by decide +kernel⟩
  refine ⟨_, fd, Y.glo 9, F.kp, (F.bindsN fun _ _ _ _ _ _ us hl => match us, hl with | [_, _, _], _ => rfl), ?_⟩
  refine fn_ty (N := ["row", "talk", "value", "letter"]) (Fall := False) F S (fun _ _ => rfl) (fun h => h.elim) fun cdv A outer s H E hr => ⟨_, (pss_cons (ps_if (PW.pt (pw_or (pt_not (pt_val (pe_callB (kIs K rfl) rfl (Y.free 69) boot_isinstance (pa_cons (pv 2) (pa_cons (pe_ty (Y.free 75) boot_dict) pa_nil))))) (pw_or1 (pt_cmpR (kNe K rfl hr.units) (pe_callB (kLen K rfl) rfl (Y.free 62) boot_len (pa_cons (pv 2) pa_nil)) (pe_callB (kLen K rfl) rfl (Y.free 62) boot_len (pa_cons (pe_mth0 (ok_Talk_letters Y) hr (pv 1)) pa_nil)) (nomark _))))) (pss_one (ps_ret pe_bl)) pss_nil) (pss_cons (ps_if (pt_not (pt_val (pe_callB (kAll K rfl rfl) rfl (Y.free 66) boot_all (pa_cons (pe_lc rfl S.nd (pi_keys (pv 2)) (blkOk_by (N := ["row", "talk", "value", "letter"]) (sc := defScope s_is_course) (own := [("letter", 3)]) (by decide +kernel)) (fun _ _ _ _ _ => (pg_name S.nd (i := 3) rfl (Or.inl rfl) (Or.inr rfl))) (fun _ _ _ _ _ => pts_nil) (fun _ _ _ _ _ => (pe_inO (ok_Talk_contains Y) hr (pv 3) (pv 1)))) pa_nil)))) (pss_one (ps_ret pe_bl)) pss_nil) (pss_cons (ps_if (pt_not (pt_val (pe_callB (kAll K rfl rfl) rfl (Y.free 66) boot_all (pa_cons (pe_lc rfl S.nd (pi_keys (pv 2)) (blkOk_by (N := ["row", "talk", "value", "letter"]) (sc := defScope s_is_course) (own := [("letter", 3)]) (by decide +kernel)) (fun _ _ _ _ _ => (pg_name S.nd (i := 3) rfl (Or.inl rfl) (Or.inr rfl))) (fun _ _ _ _ _ => pts_nil) (fun _ _ _ _ _ => (pe_dfn (ok_are_steps Y) hr (pa_cons (pv 0) (pa_cons (pv 1) (pa_cons (pv 3) (pa_cons (pe_ix (kIx K rfl (hu_of hr)) (pv 2) (pv 3) (fun _ _ => rfl)) pa_nil))))))) pa_nil)))) (pss_one (ps_ret pe_bl)) pss_nil) (pss_one (ps_ret (pe_dfn (ok_can_be_lost Y) hr (pa_cons (pv 1) (pa_cons (pe_lc rfl S.nd (pi_keys (pv 2)) (blkOk_by (N := ["row", "talk", "value", "letter"]) (sc := defScope s_is_course) (own := [("letter", 3)]) (by decide +kernel)) (fun _ _ _ _ _ => (pg_name S.nd (i := 3) rfl (Or.inl rfl) (Or.inr rfl))) (fun _ _ _ _ _ => (pts_one (pt_cmpR op_lt (pe_callB (kLen K rfl) rfl (Y.free 62) boot_len (pa_cons (pe_ix (kIx K rfl (hu_of hr)) (pv 2) (pv 3) (fun _ _ => rfl)) pa_nil)) (pe_lenO (ok_Row_len Y) hr (Y.free 62) (pa_cons (pv 0) pa_nil)) (nomark _)))) (fun _ _ _ _ _ => (pv 3))) pa_nil)))))))), fun so a => ?_⟩
  obtain ⟨L, T, hL, hT, c⟩ := a
  have hlen := lets_len hT
  have h4 := hL.n4
  have ev : ∀ Γ : Qt.Ctx, Γ.sl[1]? = some (some (talkP K T)) → Ev so (tCB (rLenU K) (tCons (tMeth (He.ga K (Str.ofString "Talk")) (Str.ofString "letters") (spF (pre_Talk_letters K) (out_Talk_letters K)) [] E0 (tVar 1) tNil) tNil)) Γ (intP (((Qd.lets T).map Qt.ltP).length : Nat)) := fun Γ h =>
    ev_lenT (ev_meth (m := "letters") (a := (⟨T, hT⟩ : {T : Qd.Tk // Qd.TkOk T})) (ev_var h) ea_nil rfl (by decide +kernel))
  cases c with
  | bad P t h h2 =>
    refine es_guard (c := true) (EvT.eq (et_or (b := false) (et_not (et_val (ev_isi (P := P) (ev_var rfl)))) fun z => absurd z (by decide)) rfl) (fun _ => es_ret ev_val (Le.refl _)) fun z => absurd z (by decide)
  | nil =>
    refine es_guard (c := true) (EvT.eq (et_or (et_not (et_val (ev_isi (P := nilD) (ev_var rfl)))) fun _ => et_test (ev_neI (ev_lenN (ev_var rfl)) (ev _ rfl))) ?_) (fun _ => es_ret ev_val (Le.refl _)) fun z => absurd z (by decide)
    have h1 := hT.o1
    have h2 : 1 ≤ (Qd.lets T).length := by
      unfold Qd.lets
      rw [List.length_append, List.length_map, List.length_range]
      omega
    rw [List.length_map, decide_eq_false (by omega)]
    rfl
  | ok C h =>
    refine es_skip (EvT.eq (et_or (et_not (et_val (ev_isi (P := crsP T C) (ev_var rfl)))) fun _ => et_test (ev_neI (ev_lenD (ls := Qd.lets T) (f := fun l => vP (C l)) (ev_var rfl)) (ev _ rfl))) ?_) ?_
    · rw [List.length_map, decide_eq_true rfl]
      rfl
    have hz : (Qd.lets T).length < sizeLine := sz (by omega)
    refine es_skip (EvT.eq (et_not (et_val (ev_allMap (g := fun _ => true) (ev_lc0 (Qd.lets T) ltP (fun _ => blP true) (ei_keys (f := fun l => vP (C l)) (ev_var rfl)) rfl hz (fun _ h => h) (fun _ _ => egName rfl) fun l hl => ev_inO (a := (⟨(T, l), hT, hl⟩ : TL)) (ev_var rfl) (ev_var rfl) rfl rfl)))) (by simp)) ?_
    refine es_skip (EvT.eq (et_not (et_val (ev_allMap (g := fun _ => true) (ev_lc0 (Qd.lets T) ltP (fun _ => blP true) (ei_keys (f := fun l => vP (C l)) (ev_var rfl)) rfl hz (fun _ h => h) (fun _ _ => egName rfl) fun l hl =>
      ev_call (a := (⟨(L, T, l, C l), hL, hT, hl, h.st l hl⟩ : ST)) (ea_cons (ev_var rfl) (ea_cons (ev_var rfl) (ea_cons (ev_var rfl) (ea_cons (ev_ixD (f := fun l => vP (C l)) (ev_var rfl) (ev_var rfl) hl) ea_nil)))))))) (by simp)) ?_
    refine es_ret (ev_call (a := (⟨(T, (Qd.lets T).filter fun l => decide ((C l).length < L.bx.length)), hT, by
      have := List.length_filter_le (fun l => decide ((C l).length < L.bx.length)) (Qd.lets T)
      exact Nat.le_trans this (Nat.le_trans hlen (by decide))⟩ : CL)) (ea_cons (ev_var rfl) (ea_cons (ev_lc (Qd.lets T) ltP (fun l => decide ((C l).length < L.bx.length)) ltP (ei_keys (f := fun l => vP (C l)) (ev_var rfl)) rfl hz (fun _ h => h) (fun _ _ => egName rfl) (fun l hl =>
        EvT.eq (et_test (ev_rI0 (ev_lenT (Ps := (C l).map fun n => intP n) (ev_ixD (f := fun l => vP (C l)) (ev_var rfl) (ev_var rfl) hl)) (ev_lenO (a := L) (n := L.bx.length) (ev_var rfl) rfl rfl (by omega)))) (by
          rw [List.length_map]
          exact decide_eq_decide.mpr (by omega))) fun l hl _ => ev_var rfl) ea_nil))) (Le.of_eq ?_)
    show blP (Qd.canLose T _) = blP true
    rw [h.lose]
structure CO where
  L : Qd.Ln
  T : Qd.Tk
  C : Qd.Lt → List Int
  hL : Qd.LnOk L
  hT : Qd.TkOk T
  hC : Qd.CourseOk L T C
def pre_check_course (K : PySem.W.Frag) (_ : Option Addr) (a : CO) : List Pd := [rowP K a.L, talkP K a.T, crsP a.T a.C]
def out_check_course (K : PySem.W.Frag) (a : CO) : Pd := nonP
theorem ok_check_course (Y : Kit K mg) : Dfn P w K mg base 6 "check_course" ["row", "talk", "course"] (spF (pre_check_course K) (out_check_course K)) := by
  obtain ⟨fd, F⟩ := Y.def_ 10 (d := d_check_course)
  have S : FnScope ["row", "talk", "course"] ["row", "talk", "course"] (defScope s_check_course) := ⟨rfl, rfl, rfl, by decide +kernel, rfl, by decide +kernel, by decide +kernel⟩
  refine ⟨_, fd, Y.glo 10, F.kp, (F.bindsN fun _ _ _ _ _ _ us hl => match us, hl with | [_, _, _], _ => rfl), ?_⟩
  refine fn_ty (N := ["row", "talk", "course"]) (Fall := True) F S (fun _ _ => rfl) (fun _ _ => Le.refl _) fun cdv A outer s H E hr => ⟨_, (pss_one (ps_if (pt_not (pt_val (pe_dfn (ok_is_course Y) hr (pa_cons (pv 0) (pa_cons (pv 1) (pa_cons (pv 2) pa_nil)))))) (pss_one ps_never) pss_nil)), fun so a => ?_⟩
  obtain ⟨L, T, C, hL, hT, hC⟩ := a
  exact es_if (EvT.eq (c := false) (et_not (et_val (ev_call (a := (⟨L, T, hL, hT, .ok C hC⟩ : CA)) (ea_cons (ev_var rfl) (ea_cons (ev_var rfl) (ea_cons (ev_var rfl) ea_nil)))))) rfl) (never rfl) fun _ => es_next trivial

end
end Qp
set_option Elab.async false
set_option linter.all false
set_option maxRecDepth 100000
set_option maxHeartbeats 4000000
namespace Qt
open PySem PySem.Spec PyProof.Rows L2 Qr
/-- an iterator over a list of which only G is known -/
def EvIE {α : Type} (so : Option Addr) (wi : TI) (Γ : Ctx) (G : List α → Prop) (f : α → Pd) : Prop := ∀ (Z : Addr → Prop) (V0 : Hp) (O : Addr → Prop) (σ : L2.St) (H : Hp) (R : It → Hp → Prop), Sta so Z V0 O Γ σ H → (∀ J H' l, G l → Mv so H H' → Wk J (l.map f) (vis (hid Z O) H') → R J H') → wi σ H R
section
variable {so : Option Addr} {Γ : Ctx} {wi : TI} {g : TG} {tt : TT} {te : TE} {vs : List Nat}
theorem ev_lcE {α : Type} (G : List α → Prop) (f : α → Pd) (c : α → Bool) (r : α → Pd) {Γb : α → Ctx} {is : List Nat} (hi : EvIE so wi Γ G f) (hzG : ∀ l, G l → l.length < sizeLine) (hv : ∀ i ∈ is, i ∈ vs)
    (hg : ∀ l, G l → ∀ a ∈ l, EvG so g (f a) (Γ.wipe vs) (Γb a) is) (ht : ∀ l, G l → ∀ a ∈ l, EvT so tt (Γb a) (c a)) (he : ∀ l, G l → ∀ a ∈ l, c a = true → Ev so te (Γb a) (r a)) : Ev so (tLc wi g tt te vs) Γ (exP fun l : {l : List α // G l} => lstP ((l.1.filter c).map r)) := by
  intro Z V0 O σ H K S k
  refine hi Z V0 O σ H _ S fun J H1 l hG m1 wk D hD => ?_
  have hz := hzG l hG
  have S1 := S.mv m1
  have hlen : (l.map f).length = l.length := List.length_map f
  let Pv : Nat → Hp → Prop := fun i H2 => ∃ acc : List V, ∃ Γ2 : Ctx, H2 D = some (.lst acc) ∧ Mv so H1 H2 ∧ Γ2 = Γ.wipe vs ∧ Sta so Z (here so O H1) (fun b => O b ∨ b = D) Γ2 (L2.wipe σ vs) H2 ∧ acc.length ≤ i ∧ AllP (((l.take i).filter c).map r) acc (vis (hid Z fun b => O b ∨ b = D) H2)
  have hO : ∀ H2 : Hp, Sta so Z (here so O H1) (fun b => O b ∨ b = D) (Γ.wipe vs) (L2.wipe σ vs) H2 → Same (vis (hid Z O) H1) (vis (hid Z fun b => O b ∨ b = D) H2) := fun H2 S2 => S1.seen S2
  refine ⟨fun i m H2 => m = l.length - i ∧ i ≤ l.length ∧ Pv i H2, ⟨l.length, by simp, Nat.zero_le _, [], Γ.wipe vs, upd_same, .same (same_new hD), rfl, ?_, Nat.le_refl _, by simp [AllP]⟩, ?_⟩
  · exact ((S1.rebase.alloc (.lst []) hD).wiped vs)
  rintro i m H2 ⟨rfl, hle, acc, Γ2, hacc, mv2, rfl, S2, hal, hall⟩
  have vs2 := hO H2 S2
  by_cases hlt : i < l.length
  · refine .inr ⟨wk.go i H2 (by rw [hlen]; exact hlt) (vs2.trans (vis_sub _ _)), fun H3 => l.length - (i + 1) = l.length - (i + 1) ∧ i + 1 ≤ l.length ∧ Pv (i + 1) H3, fun H3 q => ⟨l.length - (i + 1), by omega, q⟩, fun x H3 y => ?_⟩
    obtain ⟨s3, P, eP, px⟩ := wk.yld i H2 x H3 (hid Z fun b => O b ∨ b = D) (by rw [hlen]; exact hlt) vs2 S2.tr y
    rw [List.getElem?_map] at eP
    obtain ⟨a, ea, rfl⟩ := Option.map_eq_some_iff.mp eP
    have ham : a ∈ l := List.mem_of_getElem? ea
    have S3 := S2.mv (.same s3)
    refine hg l hG a ham Z _ _ _ H3 x _ S3 px fun σ4 S4 hw => ⟨(hw vs hv).trans (wipe_wipe σ vs), ?_⟩
    have hDz : ¬ Z D := fun z => S1.new hD (.inl z)
    have hDs : so ≠ some D := fun z => hDz (S1.sz D z)
    have toPv : ∀ (H5 : Hp) (acc' : List V), Mv so H3 H5 → acc'.length ≤ i + 1 → H5 D = some (.lst acc') → Mv so H1 H5 → Sta so Z (here so O H1) (fun b => O b ∨ b = D) (Γ.wipe vs) (L2.wipe σ vs) H5 → AllP (((l.take (i + 1)).filter c).map r) acc' (vis (hid Z fun b => O b ∨ b = D) H5) → l.length - (i + 1) = l.length - (i + 1) ∧ i + 1 ≤ l.length ∧ Pv (i + 1) H5 :=
      fun H5 acc' m5 hz5 h5 m15 S5 p5 => ⟨rfl, by omega, acc', _, h5, m15, rfl, S5, hz5, p5⟩
    refine ht l hG a ham Z _ _ σ4 H3 _ S4 fun H5 m5 => ?_
    have h3D : H3 D = some (.lst acc) := s3 D _ hacc
    cases hc : c a with
    | true =>
      rw [if_pos rfl]
      refine he l hG a ham hc Z _ _ σ4 H5 _ (S4.mv m5) fun y H6 m6 py => ?_
      have m36 := m5.trans m6
      have S6 := S3.mv m36
      have h6 : H6 D = some (.lst acc) := m36.keep D _ hDs h3D
      refine ⟨acc, h6, by omega, ?_⟩
      have ev : vis (hid Z fun b => O b ∨ b = D) (upd H6 D (.lst (acc ++ [y]))) = vis (hid Z fun b => O b ∨ b = D) H6 := vis_upd (.inr (.inr rfl))
      refine ⟨rfl, by omega, acc ++ [y], _, upd_same, ?_, rfl, S6.write rfl rfl _ (.inr rfl) hDz h6 (fun _ _ => fun z => nomatch z), by simpa using hal, ?_⟩
      · have mm := (mv2.trans (.same s3)).trans m36
        refine ⟨fun b u hb e => ?_, fun b e hs => ?_⟩
        · rw [upd_ne (ne_of_none e hD)]
          exact mm.keep b u hb e
        · exact (mm.src b e hs).upd (fun z => hDs (by rw [← z]; exact e)) h6 (fun _ _ => fun z => nomatch z)
      · rw [filter_take_succ ea, hc, if_pos rfl, List.map_append, ev]
        exact AllP.append (hall.st (vis_mono (fun _ _ h _ => h) fun b u h e => m36.keep b u (fun z => h (.inl (S2.sz b z))) (s3 b u e))) ⟨py, trivial⟩
    | false =>
      rw [if_neg Bool.false_ne_true]
      have h5 : H5 D = some (.lst acc) := m5.keep D _ hDs h3D
      refine ⟨rfl, by omega, acc, _, h5, (mv2.trans (.same s3)).trans m5, rfl, S3.mv m5, by omega, ?_⟩
      rw [filter_take_succ ea, hc, if_neg Bool.false_ne_true, List.append_nil]
      exact hall.st (vis_mono (fun _ _ h _ => h) fun b u h e => m5.keep b u (fun z => h (.inl (S2.sz b z))) (s3 b u e))
  · have e : i = l.length := by omega
    subst e
    refine .inl ⟨by have := wk.stop H2 (vs2.trans (vis_sub _ _)); rwa [hlen] at this, ?_⟩
    refine k _ H2 (m1.trans mv2) ⟨⟨l, hG⟩, D, acc, rfl, vis_some.mpr ⟨S1.new hD, hacc⟩, ?_⟩
    rw [List.take_length] at hall
    exact hall.st (vis_mono (fun b u h _ z => h (z.elim .inl fun q => .inr (.inl q))) fun b u _ e => e)
theorem eiE_list {K : PySem.W.Frag} {α : Type} {G : List α → Prop} {f : α → Pd} (ha : Ev so te Γ (exP fun l : {l : List α // G l} => lstP (l.1.map f))) : EvIE so (iList K te) Γ G f := fun Z V0 O σ H R S k => ha Z V0 O σ H _ S fun x H1 m ⟨⟨l, hG⟩, a, xs, e, hx, q⟩ => by
  refine ⟨a, e, ⟨xs, .inl (.inl (vis_some.mp hx).2)⟩, k _ H1 l hG m ⟨fun i H2 hi s => ?_, fun H2 s => ?_, fun i H2 y H3 W hi s tr yl => ?_⟩⟩
  · obtain ⟨P, v, _, e2, _⟩ := wk_at q hi
    exact ⟨xs, v, .inl (.inl (s _ _ hx)), e2⟩
  · exact ⟨xs, .inl (.inl (s _ _ hx)), by rw [q.length]; exact Nat.le_refl _⟩
  · obtain ⟨e3, yl⟩ := yl
    subst e3
    obtain ⟨P, v, e1, e2, pv⟩ := wk_at q hi
    have e4 := yl xs (.inl (.inl (vis_some.mp (s _ _ hx)).2))
    rw [e2] at e4
    rw [← Option.some.inj e4]
    exact ⟨Same.refl _, P, e1, P.st s pv⟩
/-- sorted: some order of the same -/
theorem perm_all {α : Type} {f : α → Pd} {H : Hp} {ys xs : List V} (p : ys.Perm xs) : ∀ {l : List α}, AllP (l.map f) xs H → ∃ l' : List α, l'.Perm l ∧ AllP (l'.map f) ys H := by
  induction p with
  | nil => exact fun {l} h => ⟨l, List.Perm.refl _, h⟩
  | cons x p ih =>
    intro l h
    cases l with
    | nil => exact h.elim
    | cons a l =>
      obtain ⟨l', p', q⟩ := ih h.2
      exact ⟨a :: l', p'.cons a, h.1, q⟩
  | swap x y r =>
    intro l h
    cases l with
    | nil => exact h.elim
    | cons a l =>
      cases l with
      | nil => exact h.2.elim
      | cons b l => exact ⟨b :: a :: l, List.Perm.swap a b l, h.2.1, h.1, h.2.2⟩
  | trans p1 p2 ih1 ih2 =>
    intro l h
    obtain ⟨l1, q1, h1⟩ := ih2 h
    obtain ⟨l2, q2, h2⟩ := ih1 h1
    exact ⟨l2, q2.trans q1, h2⟩
theorem ev_sort {K : PySem.W.Frag} {α : Type} {f : α → Pd} {g : α → PyData} [hd : ∀ a, AsD (f a) (g a)] {l : List α} (ha : Ev so te Γ (lstP (l.map f))) (h1 : ∀ a b, PySem.W.alike (g a) (g b) = true) (h2 : ∀ a, ∃ x r, g a = .tuple (x :: r)) (h3 : ∀ a, (g a).depth ≤ 32) :
    Ev so (tCB (rSortD K) (tCons te tNil)) Γ (exP fun l' : {l' : List α // l'.Perm l} => lstP (l'.1.map f)) :=
  ev_cb (ea_cons ha ea_nil) fun xs W H K2 tr h k => by
    obtain ⟨x, rfl, a, ys, e, hx, q⟩ := allP1 h
    refine ⟨a, ys, l.map g, by rw [e], .inl (.inl (vis_some.mp hx).2), (asDs_map hd l).ok K ys H (q.st (vis_sub _ _)), PySem.W.AllAlike.of h1, PySem.W.Sortable.tuples h2, fun d hd2 => ?_, fun zs p pm hp => ?_⟩
    · obtain ⟨b, _, rfl⟩ := List.mem_map.mp hd2
      exact h3 b
    · obtain ⟨l', p', q'⟩ := perm_all pm (q.st (vis_new (o := .lst zs) hp))
      exact k _ _ (same_new hp) ⟨⟨l', p'⟩, p, zs, rfl, vis_some.mpr ⟨newW tr hp, upd_same⟩, q'⟩
theorem ev_maxDMap {K : PySem.W.Frag} {α : Type} {l : List α} {g : α → Int} (ha : Ev so te Γ (lstP (l.map fun a => intP (g a)))) (h0 : ∀ a ∈ l, 0 ≤ g a) : Ev so (tCKw (rMaxD K) (tCons te tNil) (tCons (tC (.int 0)) tNil)) Γ (intP (Qd.mx0 (l.map g))) := by
  have e : l.map (fun a => intP (g a)) = (l.map g).map fun b => intP b := by rw [List.map_map]; rfl
  rw [e] at ha
  exact ev_maxD (K := K) ha fun n hn => by
    obtain ⟨a, h, rfl⟩ := List.mem_map.mp hn
    exact h0 a h
/-- a slot's choice is made -/
theorem es_exE {α : Type} {F : α → Pd} {i : Nat} {t : TS} {N : Ctx → Prop} {R : Pd} (e : Γ.sl[i]? = some (some (exP F))) (h : ∀ a, EvS so t (Γ.put i (F a)) N R) : EvS so t Γ N R := fun Z V0 O σ H D S n r => by
  obtain ⟨v, ev, a, p⟩ := S.sl i _ e
  have hi := (List.getElem?_eq_some_iff.mp e).1
  refine h a Z V0 O σ H D { S with len := by show σ.length = (Γ.sl.set i (some (F a))).length; rw [List.length_set]; exact S.len, sl := fun j P ej => ?_ } n r
  have ej : (Γ.sl.set i (some (F a)))[j]? = some (some P) := ej
  by_cases hj : j = i
  · subst hj
    rw [List.getElem?_set_self hi] at ej
    have e2 : F a = P := Option.some.inj (Option.some.inj ej)
    subst e2
    exact ⟨v, ev, p⟩
  · rw [List.getElem?_set_ne (Ne.symm hj)] at ej
    exact S.sl j P ej
theorem eqv_nil (ds : List PyData) : PyData.eqv (.list ds) (.list []) = ds.isEmpty := by
  cases ds <;> rfl
/-- a list of ints, empty? -/
theorem ev_isNil {K : PySem.W.Frag} {α : Type} {l : List α} {g : α → Int} {tb : TE} (ha : Ev so te Γ (lstP (l.map fun a => intP (g a)))) (hb : Ev so tb Γ (lstP [])) : Ev so (tOp (rEqD K) te tb) Γ (blP l.isEmpty) := by
  have s1 : Sh 1 (.list (l.map fun a => PyData.int (g a))) := sh_lst fun d hd => by
    obtain ⟨a, _, rfl⟩ := List.mem_map.mp hd
    exact sh_int
  have z := ev_eqD (K := K) (d := .list (l.map fun a => PyData.int (g a))) (e := .list []) ha hb s1.ok (sh_lst (k := 0) fun d hd => by cases hd).ok
  rw [eqv_nil] at z
  have e : (l.map fun a => PyData.int (g a)).isEmpty = l.isEmpty := by cases l <;> rfl
  rw [e] at z
  exact z
end
end Qt
set_option Elab.async false
set_option linter.all false
set_option maxRecDepth 100000
set_option maxHeartbeats 4000000
namespace Qp
open PySem PySem.Spec PyProof.Rows L2 Qr Qt Qf RZ
section
variable {P : Program} {w : World} {K : PySem.W.Frag} {mg : Str → Option Value} {base : Heap}

theorem ltB {a b : Nat} (h : Nat.ble (a + 1) b = true) : a < b := Nat.le_of_ble_eq_true h
structure COB where
  L : Qd.Ln
  T : Qd.Tk
  C : Qd.Lt → List Int
  hL : Qd.LnOk L
  hT : Qd.TkOk T
  hC : Qd.CourseOk L T C
  b : Nat
  hb : b < L.bx.length
def rwP (r : Int × Qd.Lt) : Pd := tupP [intP r.1, Qt.ltP r.2]
def r3P (r : Int × Nat × Qd.Lt) : Pd := tupP [intP r.1, intP (r.2.1 : Int), Qt.ltP r.2.2]
def r3D (r : Int × Nat × Qd.Lt) : PyData := .tuple [.int r.1, .int (r.2.1 : Int), ltD r.2.2]
instance (r : Int × Nat × Qd.Lt) : AsD (r3P r) (r3D r) := ⟨fun K v H x => (inferInstance : AsD (tupP [intP r.1, intP (r.2.1 : Int), Qt.ltP r.2.2]) _).ok K v H x⟩
def rowsOf (a : COB) : List (Int × Qd.Lt) := Qd.come a.L a.T a.C a.b
def ent (L : Qd.Ln) (C : Qd.Lt → List Int) (b : Nat) (l : List (Qd.Lt × Nat)) : List (Int × Nat × Qd.Lt) := l.filterMap fun z => ((C z.1)[Qd.place L b z.1]?).map fun t => (t, z.2, z.1)
theorem ent_come (L : Qd.Ln) (C : Qd.Lt → List Int) (b : Nat) (l : List Qd.Lt) : ∀ k, (ent L C b (l.zipIdx k)).map (fun r => (r.1, r.2.2)) = l.filterMap fun l => ((C l)[Qd.place L b l]?).map fun t => (t, l) := by
  induction l with
  | nil => intro k; rfl
  | cons x l ih =>
    intro k
    unfold ent at ih ⊢
    rw [List.zipIdx_cons, List.filterMap_cons, List.filterMap_cons]
    cases e : (C x)[Qd.place L b x]? with
    | none =>
      simp only [e, Option.map_none]
      exact ih (k + 1)
    | some t =>
      simp only [e, Option.map_some, List.map_cons]
      rw [ih (k + 1)]
def pre_seen_at (K : PySem.W.Frag) (_ : Option Addr) (a : COB) : List Pd := [rowP K a.L, talkP K a.T, crsP a.T a.C, intP (a.b : Int)]
def out_seen_at (K : PySem.W.Frag) (a : COB) : Pd := exP fun l : {l : List (Int × Qd.Lt) // l.Perm (rowsOf a)} => lstP (l.1.map rwP)
theorem alike_lt (a b : Qd.Lt) : PySem.W.alike (ltD a) (ltD b) = true := by simp [ltD, PySem.W.alike, PySem.W.alikeAll]
theorem come_len (L : Qd.Ln) (T : Qd.Tk) (C : Qd.Lt → List Int) (b : Nat) : (Qd.come L T C b).length ≤ (Qd.lets T).length := by
  unfold Qd.come
  exact List.length_filterMap_le _ _
theorem ok_seen_at (Y : Kit K mg) : Dfn P w K mg base 4 "seen_at" ["row", "talk", "course", "box"] (spF (pre_seen_at K) (out_seen_at K)) := by
  obtain ⟨fd, F⟩ := Y.def_ 11 (d := d_seen_at)
  have S : FnScope ["row", "talk", "course", "box", "found", "at", "letter", "place", "time"] ["row", "talk", "course", "box"] (defScope s_seen_at) := ⟨rfl, rfl, rfl, by decide +kernel, rfl, by decide +kernel, by decide +kernel⟩
  refine ⟨_, fd, Y.glo 11, F.kp, (F.bindsN fun _ _ _ _ _ _ us hl => match us, hl with | [_, _, _, _], _ => rfl), ?_⟩
  refine fn_ty (N := ["row", "talk", "course", "box", "found", "at", "letter", "place", "time"]) (Fall := False) F S (fun _ _ => rfl) (fun h => h.elim) fun cdv A outer s H E hr => ⟨_, (pss_cons (ps_set (i := 4) S.nd rfl (Or.inl rfl) (pe_lst pa_nil)) (pss_cons (ps_for PassesOwn.never rfl (kEn K rfl rfl (Y.free 65) (pa_cons (pe_mth0 (ok_Talk_letters Y) hr (pv 1)) pa_nil)) (kGt K rfl 2 rfl (pgs_cons (pg_name S.nd (i := 5) rfl (Or.inl rfl) (Or.inl rfl)) (pgs_cons (pg_name S.nd (i := 6) rfl (Or.inl rfl) (Or.inl rfl)) pgs_nil))) (pss_cons (ps_set (i := 7) S.nd rfl (Or.inl rfl) (pe_dfn (ok_place_along Y) hr (pa_cons (pv 0) (pa_cons (pv 6) (pa_cons (pv 3) pa_nil))))) (pss_one (ps_if (pt_cmpR op_lt (pv 7) (pe_callB (kLen K rfl) rfl (Y.free 62) boot_len (pa_cons (pe_ix (kIx K rfl (hu_of hr)) (pv 2) (pv 6) (fun _ _ => rfl)) pa_nil)) (nomark _)) (pss_one (ps_expr (kApp K rfl (pv 4) (pe_tup (pa_cons (pe_ix (kIx K rfl (hu_of hr)) (pe_ix (kIx K rfl (hu_of hr)) (pv 2) (pv 6) (fun _ _ => rfl)) (pv 7) (fun _ _ => rfl)) (pa_cons (pv 5) (pa_cons (pv 6) pa_nil))))))) pss_nil)))) (pss_one (ps_ret (pe_lc rfl S.nd (kPL K rfl (pe_callB (kSort K rfl hr.units) rfl (Y.free 76) boot_sorted (pa_cons (pv 4) pa_nil))) (blkOk_by (N := ["row", "talk", "course", "box", "found", "at", "letter", "place", "time"]) (sc := defScope s_seen_at) (own := [("time", 8), ("at", 5), ("letter", 6)]) (by decide +kernel)) (fun _ _ _ _ _ => (kGt K rfl 3 rfl (pgs_cons (pg_name S.nd (i := 8) rfl (Or.inl rfl) (Or.inr rfl)) (pgs_cons (pg_name S.nd (i := 5) rfl (Or.inl rfl) (Or.inr rfl)) (pgs_cons (pg_name S.nd (i := 6) rfl (Or.inl rfl) (Or.inr rfl)) pgs_nil))))) (fun _ _ _ _ _ => pts_nil) (fun _ _ _ _ _ => (pe_tup (pa_cons (pv 8) (pa_cons (pv 6) pa_nil))))))))), fun so a => ?_⟩
  obtain ⟨L, T, C, hL, hT, hC, b, hb⟩ := a
  have hlen := lets_len hT
  let Γs : List (Int × Nat × Qd.Lt) → Qt.Ctx := fun l => ⟨[some (rowP K L), some (talkP K T), some (crsP T C), some (intP (b : Int)), none, none, none, none, none], some (4, l.map r3P), none⟩
  refine es_then (es_new (ltB rfl) rfl) ?_
  refine es_forT (fun i G => G = Γs (ent L C b ((Qd.lets T).zipIdx.take i))) (ei_enumT (l := Qd.lets T) (f := Qt.ltP) (ev_meth (m := "letters") (a := (⟨T, hT⟩ : {T : Qd.Tk // Qd.TkOk T})) (ev_var rfl) ea_nil rfl (by decide +kernel))) (Γs []) (CLe.refl _) rfl (fun i P Γi eP hI => ?_) fun Γ' hI => ?_
  · subst hI
    obtain ⟨h1, rfl⟩ := map_at eP
    have h1' : i < (Qd.lets T).length := by simpa using h1
    have ez : (Qd.lets T).zipIdx[i] = ((Qd.lets T)[i], i) := by simp
    rw [ez]
    have hl : (Qd.lets T)[i] ∈ Qd.lets T := List.getElem_mem h1'
    generalize (Qd.lets T)[i] = l at ez hl
    refine ⟨_, _, egTup2 rfl rfl, ?_⟩
    refine es_then (es_set (ev_call (a := (⟨(L, b, l), hL, hb⟩ : LBL)) (ea_cons (ev_var rfl) (ea_cons (ev_var rfl) (ea_cons (ev_var rfl) ea_nil)))) (egName rfl) rfl) ?_
    have enx : ent L C b ((Qd.lets T).zipIdx.take (i + 1)) = ent L C b ((Qd.lets T).zipIdx.take i) ++ (((C l)[Qd.place L b l]?).map fun t => (t, i, l)).toList := by
      rw [List.take_add_one, List.getElem?_eq_getElem h1, ez]
      unfold ent
      rw [List.filterMap_append]
      congr 1
    refine es_if (et_test (ev_rI0 (i := (Qd.place L b l : Int)) (ev_var rfl) (ev_lenT (Ps := (C l).map fun n => intP n) (ev_ixD (f := fun l => vP (C l)) (ev_var rfl) (ev_var rfl) hl)))) (fun hc => ?_) fun hc => ?_
    · have hp : Qd.place L b l < (C l).length := by
        have z := of_decide_eq_true hc
        rw [List.length_map] at z
        omega
      have eg : (C l)[Qd.place L b l]? = some ((C l)[Qd.place L b l]) := List.getElem?_eq_getElem hp
      rw [eg] at enx
      refine es_append (Ps := (ent L C b ((Qd.lets T).zipIdx.take i)).map r3P) rfl (sz ?_) (evTup (ea_cons (ev_ixT (n := Qd.place L b l) (Ps := (C l).map fun n => intP n) (P := intP (C l)[Qd.place L b l]) (ev_ixD (f := fun l => vP (C l)) (ev_var rfl) (ev_var rfl) hl) (ev_var rfl) rfl (by rw [List.getElem?_map, eg]; rfl)) (ea_cons (ev_var rfl) (ea_cons (ev_var rfl) ea_nil))) rfl)
        ⟨Γs (ent L C b ((Qd.lets T).zipIdx.take (i + 1))), CLe.of ?_ ?_ rfl, rfl⟩
      · have z := List.length_filterMap_le (fun z : Qd.Lt × Nat => ((C z.1)[Qd.place L b z.1]?).map fun t => (t, z.2, z.1)) ((Qd.lets T).zipIdx.take i)
        rw [List.length_map]
        unfold ent
        rw [List.length_take, List.length_zipIdx] at z
        omega
      · exact ⟨Le.refl _, Le.refl _, Le.refl _, Le.refl _, trivial⟩
      · show some (4, (ent L C b ((Qd.lets T).zipIdx.take (i + 1))).map r3P) = some (4, _ ++ [_])
        rw [enx, List.map_append]
        rfl
    · have hp : ¬ Qd.place L b l < (C l).length := by
        have z := of_decide_eq_false hc
        rw [List.length_map] at z
        omega
      have eg : (C l)[Qd.place L b l]? = none := List.getElem?_eq_none_iff.mpr (by omega)
      rw [eg] at enx
      have enx : ent L C b ((Qd.lets T).zipIdx.take (i + 1)) = ent L C b ((Qd.lets T).zipIdx.take i) := by
        rw [enx]
        exact List.append_nil _
      refine es_next ⟨Γs (ent L C b ((Qd.lets T).zipIdx.take (i + 1))), ?_, rfl⟩
      rw [enx]
      exact CLe.of ⟨Le.refl _, Le.refl _, Le.refl _, Le.refl _, trivial⟩ rfl rfl
  · subst hI
    rw [List.length_map, List.take_length]
    have hel : (ent L C b (Qd.lets T).zipIdx).length ≤ 120 := by
      have z := List.length_filterMap_le (fun z : Qd.Lt × Nat => ((C z.1)[Qd.place L b z.1]?).map fun t => (t, z.2, z.1)) ((Qd.lets T).zipIdx)
      rw [List.length_zipIdx] at z
      unfold ent
      omega
    refine es_pub (i := 4) rfl (ltB rfl) (es_ret (ev_lcE (fun l : List (Int × Nat × Qd.Lt) => l.Perm (ent L C b (Qd.lets T).zipIdx)) r3P (fun _ => true) (fun r => rwP (r.1, r.2.2)) (eiE_list (ev_sort (g := r3D) (ev_var rfl) (fun a b => ?_) (fun a => ⟨_, _, rfl⟩) fun a => ?_)) (fun l p => sz (by rw [p.length_eq]; omega)) (fun _ h => h) (fun l p a _ => egTup3 rfl rfl rfl) (fun l p a _ => et_yes) fun l p a _ _ => evTup (ea_cons (ev_var rfl) (ea_cons (ev_var rfl) ea_nil)) rfl) fun v H ⟨⟨l, p⟩, q⟩ => ?_)
    · simp [r3D, PySem.W.alike, PySem.W.alikeAll, alike_lt]
    · have z : Sh 2 (r3D a) := sh_tup fun d hd => by
        rcases List.mem_cons.mp hd with e | hd
        · rw [e]; exact sh_int
        · rcases List.mem_cons.mp hd with e | hd
          · rw [e]; exact sh_int
          · rw [List.mem_singleton.mp hd]; exact sh_lt _
      have z2 := z.2
      omega
    · refine ⟨⟨l.map fun r => (r.1, r.2.2), ?_⟩, ?_⟩
      · have z := p.map fun r : Int × Nat × Qd.Lt => (r.1, r.2.2)
        rw [ent_come] at z
        unfold rowsOf Qd.come
        exact z
      · have ef : l.filter (fun _ => true) = l := List.filter_eq_self.mpr fun _ _ => rfl
        have q : (lstP ((l.filter fun _ => true).map fun r => rwP (r.1, r.2.2))).p v H := q
        rw [ef] at q
        show (lstP ((l.map fun r => (r.1, r.2.2)).map rwP)).p v H
        rw [List.map_map]
        exact q
structure QB where
  L : Qd.Ln
  rows : List (Int × Qd.Lt)
  b : Nat
  t : Int
  hL : Qd.LnOk L
  hb : b < L.bx.length
  hr : rows.length ≤ 900
def pre_quiet_before (K : PySem.W.Frag) (_ : Option Addr) (a : QB) : List Pd := [rowP K a.L, lstP (a.rows.map rwP), intP (a.b : Int), intP a.t]
def out_quiet_before (K : PySem.W.Frag) (a : QB) : Pd := optP (Qd.quiet a.L a.b a.rows a.t) fun n => intP n
theorem ok_quiet_before (Y : Kit K mg) : Dfn P w K mg base 4 "quiet_before" ["row", "rows", "box", "time"] (spF (pre_quiet_before K) (out_quiet_before K)) := by
  obtain ⟨fd, F⟩ := Y.def_ 13 (d := d_quiet_before)
  have S : FnScope ["row", "rows", "box", "time", "sights", "other", "letter"] ["row", "rows", "box", "time"] (defScope s_quiet_before) := ⟨rfl, rfl, rfl, by decide +kernel, rfl, by decide +kernel, by decide +kernel⟩
  refine ⟨_, fd, Y.glo 13, F.kp, (F.bindsN fun _ _ _ _ _ _ us hl => match us, hl with | [_, _, _, _], _ => rfl), ?_⟩
  refine fn_ty (N := ["row", "rows", "box", "time", "sights", "other", "letter"]) (Fall := False) F S (fun _ _ => rfl) (fun h => h.elim) fun cdv A outer s H E hr => ⟨_, (pss_cons (ps_setLc (i := 4) rfl S.nd rfl rfl (sw_true rfl rfl rfl (by decide +kernel)) (kPL K rfl (pv 1)) (blkOk_by (N := ["row", "rows", "box", "time", "sights", "other", "letter"]) (sc := defScope s_quiet_before) (own := [("other", 5), ("letter", 6)]) (by decide +kernel)) (fun _ _ _ _ _ => (kGt K rfl 2 rfl (pgs_cons (pg_name S.nd (i := 5) rfl (Or.inl rfl) (Or.inr rfl)) (pgs_cons (pg_name S.nd (i := 6) rfl (Or.inl rfl) (Or.inr rfl)) pgs_nil)))) (fun _ _ _ _ _ => (pts_one (PW.pt (pw_and (pt_cmpR op_lt (pv 5) (pv 3) (nomark _)) (pw_and1 (pt_val (pe_dfn (ok_is_sight Y) hr (pa_cons (pv 0) (pa_cons (pv 2) (pa_cons (pv 6) pa_nil)))))))))) (fun _ _ _ _ _ => (pv 5))) (pss_one (ps_ret (pe_ifExp (pt_cmpR (kEq K rfl hr.units) (pv 4) (pe_lst pa_nil) (nomark _)) pe_non (pe_op op_sub (pv 3) (pe_callB (kMax K rfl rfl) rfl (Y.free 68) boot_max (pa_cons (pv 4) pa_nil))))))), fun so a => ?_⟩
  obtain ⟨L, rows, b, t, hL, hb, hr⟩ := a
  refine es_then (es_set (P := lstP ((rows.filter fun r => decide (r.1 < t) && Qd.sight L b r.2).map fun r => intP r.1)) (ev_lc rows rwP (fun r => decide (r.1 < t) && Qd.sight L b r.2) (fun r => intP r.1) (ei_list (ev_var rfl)) rfl (sz (by omega)) (fun _ h => h) (fun r _ => egTup2 (P := intP r.1) (Q := Qt.ltP r.2) rfl rfl) (fun r _ =>
    et_and (et_test (ev_rI0 (ev_var rfl) (ev_var rfl))) fun _ => et_val (ev_call (a := (⟨(L, b, r.2), hL, hb⟩ : LBL)) (ea_cons (ev_var rfl) (ea_cons (ev_var rfl) (ea_cons (ev_var rfl) ea_nil))))) fun r _ _ => ev_var rfl) (egName rfl) rfl) ?_
  have em : (Qd.sightsB L b rows t).isEmpty = (rows.filter fun r => decide (r.1 < t) && Qd.sight L b r.2).isEmpty := by
    unfold Qd.sightsB
    rw [List.isEmpty_map]
  refine es_ret (P := optP (Qd.quiet L b rows t) fun n => intP n) (ev_if (et_test (ev_isNil (l := rows.filter fun r => decide (r.1 < t) && Qd.sight L b r.2) (g := fun r => r.1) (ev_var rfl) (evLst ea_nil rfl))) (fun hc => ?_) fun hc => ?_) (Le.refl _)
  · rw [← em, List.isEmpty_iff] at hc
    have e : Qd.quiet L b rows t = none := by
      unfold Qd.quiet
      rw [if_pos hc]
    rw [e]
    exact ev_val
  · have hne : (rows.filter fun r => decide (r.1 < t) && Qd.sight L b r.2) ≠ [] := fun z => by
      rw [z] at hc
      cases hc
    rw [← em] at hc
    have hn : ¬ Qd.sightsB L b rows t = [] := fun z => by
      rw [z] at hc
      cases hc
    have e : Qd.quiet L b rows t = some (t - Qd.mxl (Qd.sightsB L b rows t)) := by
      unfold Qd.quiet
      rw [if_neg hn]
    rw [e]
    refine Ev.eq (ev_rI0 (ev_var rfl) (ev_maxMap (l := rows.filter fun r => decide (r.1 < t) && Qd.sight L b r.2) (g := fun r => r.1) (ev_var rfl) hne)) ?_
    unfold Qd.sightsB
    rfl
def pre_course_gap (K : PySem.W.Frag) (_ : Option Addr) (a : COB) : List Pd := [rowP K a.L, talkP K a.T, crsP a.T a.C, intP (a.b : Int)]
def out_course_gap (K : PySem.W.Frag) (a : COB) : Pd := intP (Qd.longest a.L a.b (rowsOf a))
theorem filt_map {α : Type} {l : List α} {q : α → Option Int} : (l.filter fun a => (q a).isSome).map (fun a => (q a).getD 0) = l.filterMap q := by
  induction l with
  | nil => rfl
  | cons a l ih =>
    rw [List.filterMap_cons, List.filter_cons]
    cases e : q a with
    | none => simpa [e] using ih
    | some x =>
      simp only [e, Option.isSome_some, if_true, List.map_cons, Option.getD_some]
      rw [ih]
theorem ok_course_gap (Y : Kit K mg) : Dfn P w K mg base 7 "course_gap" ["row", "talk", "course", "box"] (spF (pre_course_gap K) (out_course_gap K)) := by
  obtain ⟨fd, F⟩ := Y.def_ 14 (d := d_course_gap)
  have S : FnScope ["row", "talk", "course", "box", "rows", "quiets", "time", "letter", "quiet"] ["row", "talk", "course", "box"] (defScope s_course_gap) := ⟨rfl, rfl, rfl, by decide +kernel, rfl, by decide +kernel, by decide +kernel⟩
  refine ⟨_, fd, Y.glo 14, F.kp, (F.bindsN fun _ _ _ _ _ _ us hl => match us, hl with | [_, _, _, _], _ => rfl), ?_⟩
  refine fn_ty (N := ["row", "talk", "course", "box", "rows", "quiets", "time", "letter", "quiet"]) (Fall := False) F S (fun _ _ => rfl) (fun h => h.elim) fun cdv A outer s H E hr => ⟨_, (pss_cons (ps_expr (pe_dfn (ok_check_course Y) hr (pa_cons (pv 0) (pa_cons (pv 1) (pa_cons (pv 2) pa_nil))))) (pss_cons (ps_expr (pe_mth (ok_Row_check Y) hr (pv 0) (pa_cons (pv 3) pa_nil))) (pss_cons (ps_set (i := 4) S.nd rfl (Or.inr rfl) (pe_dfn (ok_seen_at Y) hr (pa_cons (pv 0) (pa_cons (pv 1) (pa_cons (pv 2) (pa_cons (pv 3) pa_nil)))))) (pss_cons (ps_setLc (i := 5) rfl S.nd rfl rfl (sw_true rfl rfl rfl (by decide +kernel)) (kPL K rfl (pv 4)) (blkOk_by (N := ["row", "talk", "course", "box", "rows", "quiets", "time", "letter", "quiet"]) (sc := defScope s_course_gap) (own := [("time", 6), ("letter", 7)]) (by decide +kernel)) (fun _ _ _ _ _ => (kGt K rfl 2 rfl (pgs_cons (pg_name S.nd (i := 6) rfl (Or.inl rfl) (Or.inr rfl)) (pgs_cons (pg_name S.nd (i := 7) rfl (Or.inl rfl) (Or.inr rfl)) pgs_nil)))) (fun _ _ _ _ _ => pts_nil) (fun _ _ _ _ _ => (pe_dfn (ok_quiet_before Y) hr (pa_cons (pv 0) (pa_cons (pv 4) (pa_cons (pv 3) (pa_cons (pv 6) pa_nil))))))) (pss_one (ps_ret (pe_callBK (kMaxD K rfl rfl hr.units) rfl (Y.free 68) boot_max (pa_cons (pe_lc rfl S.nd (kPL K rfl (pv 5)) (blkOk_by (N := ["row", "talk", "course", "box", "rows", "quiets", "time", "letter", "quiet"]) (sc := defScope s_course_gap) (own := [("quiet", 8)]) (by decide +kernel)) (fun _ _ _ _ _ => (pg_name S.nd (i := 8) rfl (Or.inl rfl) (Or.inr rfl))) (fun _ _ _ _ _ => (pts_one (pt_cmpR op_notN (pv 8) pe_non (nomark _)))) (fun _ _ _ _ _ => (pv 8))) pa_nil) (pk_cons pe_int pk_nil)))))))), fun so a => ?_⟩
  obtain ⟨L, T, C, hL, hT, hC, b, hb⟩ := a
  have hlen := lets_len hT
  have hcl := come_len L T C b
  refine es_then (es_drop (ev_call (a := (⟨L, T, C, hL, hT, hC⟩ : CO)) (ea_cons (ev_var rfl) (ea_cons (ev_var rfl) (ea_cons (ev_var rfl) ea_nil)))) rfl) ?_
  refine es_then (es_drop (ev_meth (m := "check") (a := (⟨(L, b), hL, hb⟩ : RB)) (ev_var rfl) (ea_cons (ev_var rfl) ea_nil) rfl (by decide +kernel)) rfl) ?_
  refine es_then (es_set (ev_call (a := (⟨L, T, C, hL, hT, hC, b, hb⟩ : COB)) (ea_cons (ev_var rfl) (ea_cons (ev_var rfl) (ea_cons (ev_var rfl) (ea_cons (ev_var rfl) ea_nil))))) (egName rfl) rfl) ?_
  refine es_exE (i := 4) (F := fun l : {l : List (Int × Qd.Lt) // l.Perm (Qd.come L T C b)} => lstP (l.1.map rwP)) rfl fun ⟨rows, hp⟩ => ?_
  have hr : rows.length ≤ 900 := by
    rw [hp.length_eq]
    omega
  refine es_then (es_set (ev_lc0 rows rwP (fun r => optP (Qd.quiet L b rows r.1) fun n => intP n) (ei_list (ev_var rfl)) rfl (sz (by omega)) (fun _ h => h) (fun r _ => egTup2 (P := intP r.1) (Q := Qt.ltP r.2) rfl rfl) fun r _ => ev_call (a := (⟨L, rows, b, r.1, hL, hb, hr⟩ : QB)) (ea_cons (ev_var rfl) (ea_cons (ev_var rfl) (ea_cons (ev_var rfl) (ea_cons (ev_var rfl) ea_nil))))) (egName rfl) rfl) ?_
  refine es_ret (ev_maxDMap (l := rows.filter fun r => (Qd.quiet L b rows r.1).isSome) (g := fun r => (Qd.quiet L b rows r.1).getD 0) (ev_lc rows (fun r => optP (Qd.quiet L b rows r.1) fun n => intP n) (fun r => (Qd.quiet L b rows r.1).isSome) (fun r => intP ((Qd.quiet L b rows r.1).getD 0)) (ei_list (ev_var rfl)) rfl (sz (by omega)) (fun _ h => h) (fun r _ => egName rfl) (fun r _ =>
    EvT.eq (et_test (ev_notN (P := optP (Qd.quiet L b rows r.1) fun n => intP n) (ev_var rfl))) (by rw [Bool.not_not])) fun r _ hc => ?_) fun r hr2 => ?_) (Le.of_eq ?_)
  · refine Ev.eq (ev_var rfl) ?_
    cases e : Qd.quiet L b rows r.1 with
    | none =>
      rw [e] at hc
      cases hc
    | some n => rfl
  · have z := (List.mem_filter.mp hr2).2
    cases e : Qd.quiet L b rows r.1 with
    | none =>
      rw [e] at z
      cases z
    | some n => exact Int.le_of_lt (Qd.quiet_pos e)
  · rw [filt_map (l := rows) (q := fun r => Qd.quiet L b rows r.1)]
    show intP _ = intP (Qd.longest L b (Qd.come L T C b))
    rw [← Qd.longest_congr fun r => hp.mem_iff]
    unfold Qd.longest Qd.quiets
    rfl

end
end Qp
set_option Elab.async false
set_option linter.all false
set_option maxRecDepth 100000
set_option maxHeartbeats 4000000
namespace Qt
open PySem PySem.Spec PyProof.Rows L2 Qr
/-! ### dicts of letters -/
theorem putK_app {kvs : List (List Key × V)} {k : List Key} (v : V) (h : k ∉ kvs.map (·.1)) : putK kvs k v = kvs ++ [(k, v)] := by
  unfold putK
  have e : (kvs.any fun kv => decide (kv.1 = k)) = false := by
    rw [← Bool.not_eq_true, List.any_eq_true]
    rintro ⟨x, hx, hk⟩
    exact h (List.mem_map.mpr ⟨x, hx, of_decide_eq_true hk⟩)
  rw [e]
  rfl
theorem DctAll.put {ls : List Qd.Lt} {f : Qd.Lt → Pd} {kvs : List (List Key × V)} {H : Hp} {l : Qd.Lt} {v : V} (h : DctAll ls f kvs H) (hl : l ∉ ls) (hv : (f l).p v H) : DctAll (ls ++ [l]) f (putK kvs (ltK l) v) H := by
  have hn : ltK l ∉ kvs.map (·.1) := by
    rw [h.1]
    intro z
    obtain ⟨x, hx, e⟩ := List.mem_map.mp z
    exact hl (ltK_inj e ▸ hx)
  rw [putK_app v hn]
  refine ⟨?_, ?_⟩
  · rw [List.map_append, List.map_append, h.1]
    rfl
  · rw [List.map_append, List.map_append]
    exact AllP.append h.2 ⟨hv, trivial⟩
theorem take_succ_at {α : Type} {l : List α} {i : Nat} (h : i < l.length) : l.take (i + 1) = l.take i ++ [l[i]] := by
  rw [List.take_add_one, List.getElem?_eq_getElem h]
  rfl
theorem not_mem_take {α : Type} {l : List α} {i : Nat} (h : i < l.length) (hn : l.Nodup) : l[i] ∉ l.take i := by
  intro z
  have e := List.take_append_drop i l
  rw [List.drop_eq_getElem_cons h] at e
  rw [← e, List.nodup_append] at hn
  exact hn.2.2 _ z _ List.mem_cons_self rfl
section
variable {so : Option Addr} {Γ : Ctx} {wi : TI} {g : TG} {tk tv : TE} {vs : List Nat}
theorem ev_dc {ls : List Qd.Lt} {f : Qd.Lt → Pd} {Γb : Qd.Lt → Ctx} {is : List Nat} (hn : ls.Nodup) (hi : EvI so wi Γ (ls.map ltP)) (hz : ls.length < sizeLine) (hv : ∀ i ∈ is, i ∈ vs)
    (hg : ∀ l ∈ ls, EvG so g (ltP l) (Γ.wipe vs) (Γb l) is) (hk : ∀ l ∈ ls, Ev so tk (Γb l) (ltP l)) (he : ∀ l ∈ ls, Ev so tv (Γb l) (f l)) : Ev so (tFreeze (tDcT wi g tk tv vs)) Γ (dctP ls f) := by
  intro Z V0 O σ H K S k
  refine hi Z V0 O σ H _ S fun J H1 m1 wk D hD => ?_
  have S1 := S.mv m1
  have hlen : (ls.map ltP).length = ls.length := List.length_map ltP
  have hDz : ¬ Z D := fun z => S1.new hD (.inl z)
  have hDs : so ≠ some D := fun z => hDz (S1.sz D z)
  let Pv : Nat → Hp → Prop := fun i H2 => ∃ kvs : List (List Key × V), H2 D = some (.dT kvs) ∧ Mv so H1 H2 ∧ Sta so Z (here so O H1) (fun b => O b ∨ b = D) (Γ.wipe vs) (L2.wipe σ vs) H2 ∧ DctAll (ls.take i) f kvs (vis (hid Z fun b => O b ∨ b = D) H2)
  refine ⟨fun i m H2 => m = ls.length - i ∧ i ≤ ls.length ∧ Pv i H2, ⟨ls.length, by simp, Nat.zero_le _, [], upd_same, .same (same_new hD), ((S1.rebase.alloc (.dT []) hD).wiped vs), by simp [DctAll, AllP]⟩, ?_⟩
  rintro i m H2 ⟨rfl, hle, kvs, hkv, mv2, S2, hall⟩
  have vs2 := S1.seen S2
  have hl : kvs.length = (ls.take i).length := by
    have z := congrArg List.length hall.1
    simpa using z
  by_cases hlt : i < ls.length
  · refine .inr ⟨wk.go i H2 (by rw [hlen]; exact hlt) (vs2.trans (vis_sub _ _)), fun H3 => ls.length - (i + 1) = ls.length - (i + 1) ∧ i + 1 ≤ ls.length ∧ Pv (i + 1) H3, fun H3 q => ⟨ls.length - (i + 1), by omega, q⟩, fun x H3 y => ?_⟩
    obtain ⟨s3, P, eP, px⟩ := wk.yld i H2 x H3 (hid Z fun b => O b ∨ b = D) (by rw [hlen]; exact hlt) vs2 S2.tr y
    rw [List.getElem?_map, List.getElem?_eq_getElem hlt] at eP
    have e2 : ltP ls[i] = P := Option.some.inj eP
    subst e2
    have ham : ls[i] ∈ ls := List.getElem_mem hlt
    have S3 := S2.mv (.same s3)
    refine hg _ ham Z _ _ _ H3 x _ S3 px fun σ4 S4 hw => ⟨(hw vs hv).trans (wipe_wipe σ vs), ?_⟩
    refine hk _ ham Z _ _ σ4 H3 _ S4 fun yk H4 m4 pk => ?_
    refine he _ ham Z _ _ σ4 H4 _ (S4.mv m4) fun yv H5 m5 pv => ?_
    obtain ⟨b, rfl, hb⟩ := lt_at ((ltP ls[i]).st ((S4.mv m4).grow m5) pk)
    have m35 := m4.trans m5
    have S5 := S3.mv m35
    have h5 : H5 D = some (.dT kvs) := m35.keep D _ hDs (s3 D _ hkv)
    refine ⟨kvs, ltK ls[i], b, rfl, (vis_some.mp hb).2, h5, by rw [hl, List.length_take]; omega, rfl, by omega, _, upd_same, ?_, S5.write rfl rfl _ (.inr rfl) hDz h5 (fun _ _ => fun z => nomatch z), ?_⟩
    · have mm := (mv2.trans (.same s3)).trans m35
      refine ⟨fun c u hc e => ?_, fun c e hs => ?_⟩
      · rw [upd_ne (ne_of_none e hD)]
        exact mm.keep c u hc e
      · exact (mm.src c e hs).upd (fun z => hDs (by rw [← z]; exact e)) h5 (fun _ _ => fun z => nomatch z)
    · have ev : vis (hid Z fun b => O b ∨ b = D) (upd H5 D (.dT (putK kvs (ltK ls[i]) yv))) = vis (hid Z fun b => O b ∨ b = D) H5 := vis_upd (.inr (.inr rfl))
      rw [ev, take_succ_at hlt]
      exact (hall.st (vis_mono (fun _ _ h _ => h) fun b u h e => m35.keep b u (fun z => h (.inl (S2.sz b z))) (s3 b u e))).put (not_mem_take hlt hn) pv
  · have e : i = ls.length := by omega
    subst e
    refine .inl ⟨by have := wk.stop H2 (vs2.trans (vis_sub _ _)); rwa [hlen] at this, D, .dT kvs, rfl, hkv, True.intro, fun od => ?_⟩
    refine k _ _ (m1.trans ?_) ⟨D, od, kvs, rfl, vis_some.mpr ⟨S1.new hD, upd_same⟩, ?_⟩
    · refine ⟨fun c u hc e => ?_, fun c e hs => ?_⟩
      · rw [upd_ne (ne_of_none e hD)]
        exact mv2.keep c u hc e
      · exact (mv2.src c e hs).upd (fun z => hDs (by rw [← z]; exact e)) hkv (fun _ _ => fun z => nomatch z)
    · rw [List.take_length] at hall
      refine hall.st fun b u q => ?_
      obtain ⟨q1, q2⟩ := vis_some.mp q
      have hb : b ≠ D := fun z => q1 (.inr (.inr z))
      exact vis_some.mpr ⟨fun z => q1 (z.elim .inl fun y => .inr (.inl y)), (upd_ne hb).trans q2⟩
/-- x = {} -/
theorem es_newD {i : Nat} {f : Qd.Lt → Pd} {N : Ctx → Prop} {R : Pd} (hi : i < Γ.sl.length) (hn : N ⟨Γ.sl.set i none, none, some (i, [], f)⟩) : EvS so (tAsg tDNewT (gName i)) Γ N R := fun Z V0 O σ H D S n r => fun p hp => by
  have S1 := S.alloc (.dT []) hp
  refine n _ _ _ _ hn { S1 with len := ?_, sl := fun j P e => ?_, ow := fun j Ps e => (nomatch e), dc := fun j ls g e => ?_ }
  · show (σ.set i _).length = (Γ.sl.set i none).length
    rw [List.length_set, List.length_set]
    exact S.len
  · have e : (Γ.sl.set i none)[j]? = some (some P) := e
    by_cases h : j = i
    · subst h
      rw [List.getElem?_set_self hi] at e
      cases e
    · rw [List.getElem?_set_ne (Ne.symm h)] at e
      rw [List.getElem?_set_ne (Ne.symm h)]
      exact S1.sl j P e
  · have e2 : (i, ([] : List Qd.Lt), f) = (j, ls, g) := Option.some.inj e
    injection e2 with e3 e4
    injection e4 with e5 e6
    subst e3 e5 e6
    exact ⟨p, [], List.getElem?_set_self (by rw [S.len]; exact hi), .inr rfl, fun z => S.new hp (.inl z), upd_same, rfl, trivial⟩
/-- x[letter] = e -/
theorem es_putD {i : Nat} {ls : List Qd.Lt} {f : Qd.Lt → Pd} {te : TE} {l : Qd.Lt} {N : Ctx → Prop} {R : Pd} (e : Γ.dic = some (i, ls, f)) (hl : l ∉ ls) (hz : ls.length < sizeLine) (hv : Ev so te Γ (f l)) (hk : Ev so tk Γ (ltP l)) (hn : N ⟨Γ.sl, Γ.own, some (i, ls ++ [l], f)⟩) :
    EvS so (tAsg te (gSub (tVar i) tk rSetD)) Γ N R := fun Z V0 O σ H D S n r => by
  refine hv Z V0 O σ H _ S fun v H1 m1 pv => ?_
  have S1 := S.mv m1
  obtain ⟨p, kvs, hσ, hO, hZ, hp, ha⟩ := S1.dc i ls f e
  refine ⟨.ref p, hσ, hk Z V0 O σ H1 _ S1 fun y H2 m2 py => ?_⟩
  have S2 := S1.mv m2
  obtain ⟨b, rfl, hb⟩ := lt_at py
  have h2 : H2 p = some (.dT kvs) := m2.keep p _ (fun z => hZ (S.sz p z)) hp
  have hll : kvs.length = ls.length := by
    have z := congrArg List.length ha.1
    simpa using z
  show ∃ a H', V.ref p = V.ref a ∧ DPut H2 a (V.ref b) v H' ∧ D.nx σ H'
  refine ⟨p, _, rfl, DPut.t h2 (vis_some.mp hb).2 (by rw [hll]; exact hz), ?_⟩
  have S0 : Sta so Z V0 O ⟨Γ.sl, none, none⟩ σ H2 := S2.le ⟨rfl, fun i P e => ⟨P, e, Le.refl P⟩, fun _ _ e => (nomatch e), fun _ e => nomatch e⟩
  have S3 := S0.write rfl rfl (.dT (putK kvs (ltK l) v)) hO hZ h2 fun _ _ z => nomatch z
  have ev : vis (hid Z O) (upd H2 p (.dT (putK kvs (ltK l) v))) = vis (hid Z O) H2 := vis_upd (.inr hO)
  refine n _ _ _ _ hn { S3 with ow := fun j Ps ej => ?_, dc := fun j ls2 g ej => ?_ }
  · obtain ⟨p2, xs, a, b, c, d, q⟩ := S2.ow j Ps ej
    refine ⟨p2, xs, a, b, c, (upd_ne (fun z => ?_)).trans d, by rw [ev]; exact q⟩
    rw [z, h2] at d
    cases d
  · have e2 : (i, ls ++ [l], f) = (j, ls2, g) := Option.some.inj ej
    injection e2 with e3 e4
    injection e4 with e5 e6
    subst e3 e5 e6
    refine ⟨p, _, hσ, hO, hZ, upd_same, ?_⟩
    rw [ev]
    exact (ha.st (S1.grow m2)).put hl ((f l).st (S1.grow m2) pv)
/-- return the dict, locked for good -/
theorem es_retD {i : Nat} {ls : List Qd.Lt} {f : Qd.Lt → Pd} {N : Ctx → Prop} {R : Pd} (e : Γ.dic = some (i, ls, f)) (l : Le (dctP ls f) R) : EvS so (tRet (tFreeze (tVar i))) Γ N R := fun Z V0 O σ H D S n r => by
  obtain ⟨p, kvs, hσ, hO, hZ, hp, ha⟩ := S.dc i ls f e
  refine ⟨.ref p, hσ, p, _, rfl, hp, True.intro, fun od => ?_⟩
  have hs : ∀ b, so = some b → b ≠ p := fun b e z => hZ (by rw [← z]; exact S.sz b e)
  refine r _ _ (fun b u eb => ?_) (fun b eb => (S.sr b eb).upd (hs b eb) hp fun _ _ z => nomatch z) (l _ _ ⟨p, od, kvs, rfl, vis_some.mpr ⟨hZ, upd_same⟩, ha.st fun b u q => ?_⟩)
  · obtain ⟨q1, q2, q3⟩ := S.v0 b u eb
    exact (upd_ne (fun z => q3 (by rw [z]; exact hO))).trans q1
  · obtain ⟨q1, q2⟩ := vis_some.mp q
    exact vis_some.mpr ⟨fun z => q1 (.inl z), (upd_ne (fun z => q1 (.inr (by rw [z]; exact hO)))).trans q2⟩
end
end Qt
set_option Elab.async false
set_option linter.all false
set_option maxRecDepth 100000
set_option maxHeartbeats 4000000
namespace Qp
open PySem PySem.Spec PyProof.Rows L2 Qr Qt Qf RZ
section
variable {P : Program} {w : World} {K : PySem.W.Frag} {mg : Str → Option Value} {base : Heap}

abbrev winP (L : Qd.Ln) (T : Qd.Tk) (b : Nat) : Pd := dctP (Qd.lets T) fun l => lkP (Qd.win L T b l)
def pre_windows (K : PySem.W.Frag) (_ : Option Addr) (a : RTB) : List Pd := [rowP K a.1.1, talkP K a.1.2.1, intP (a.1.2.2 : Int)]
def out_windows (K : PySem.W.Frag) (a : RTB) : Pd := winP a.1.1 a.1.2.1 a.1.2.2
theorem ok_windows (Y : Kit K mg) : Dfn P w K mg base 6 "windows" ["row", "talk", "box"] (spF (pre_windows K) (out_windows K)) := by
  obtain ⟨fd, F⟩ := Y.def_ 15 (d := d_windows)
  have S : FnScope ["row", "talk", "box", "letter"] ["row", "talk", "box"] (defScope s_windows) := ⟨rfl, rfl, rfl, by decide +kernel, rfl, by decide +kernel, by decide +kernel⟩
  refine ⟨_, fd, Y.glo 15, F.kp, (F.bindsN fun _ _ _ _ _ _ us hl => match us, hl with | [_, _, _], _ => rfl), ?_⟩
  refine fn_ty (N := ["row", "talk", "box", "letter"]) (Fall := False) F S (fun _ _ => rfl) (fun h => h.elim) fun cdv A outer s H E hr => ⟨_, (pss_one (ps_ret (pe_freeze (pe_dcT (hu_of hr) rfl S.nd (kPT K rfl (pe_mth0 (ok_Talk_letters Y) hr (pv 1))) (blkOk_by (N := ["row", "talk", "box", "letter"]) (sc := defScope s_windows) (own := [("letter", 3)]) (by decide +kernel)) (fun _ _ _ _ _ => (pg_name S.nd (i := 3) rfl (Or.inl rfl) (Or.inr rfl))) (fun _ _ _ _ _ => (pv 3)) (fun _ _ _ _ _ => (pe_dfn (ok_window_of Y) hr (pa_cons (pv 0) (pa_cons (pv 1) (pa_cons (pv 2) (pa_cons (pv 3) pa_nil)))))))))), fun so a => ?_⟩
  obtain ⟨⟨L, T, b⟩, hL, hT, hb⟩ := a
  have hT : Qd.TkOk T := hT
  have hlen := lets_len hT
  exact es_ret (ev_dc (ls := Qd.lets T) (f := fun l => lkP (Qd.win L T b l)) (Qd.lets_nodup T) (ei_tup (ev_meth (m := "letters") (a := (⟨T, hT⟩ : {T : Qd.Tk // Qd.TkOk T})) (ev_var rfl) ea_nil rfl (by decide +kernel))) (sz (by omega)) (fun _ h => h) (fun _ _ => egName rfl) (fun l _ => ev_var rfl)
    fun l hl => ev_call (a := (⟨(L, T, b, l), hL, hT, hb, hl⟩ : RTBL)) (ea_cons (ev_var rfl) (ea_cons (ev_var rfl) (ea_cons (ev_var rfl) (ea_cons (ev_var rfl) ea_nil))))) (Le.refl _)
structure LI where
  L : Qd.Ln
  T : Qd.Tk
  b : Nat
  p : Qd.Lt
  q : Qd.Lt
  hL : Qd.LnOk L
  hT : Qd.TkOk T
  hb : b < L.bx.length
  hp : p ∈ Qd.lets T
  hq : q ∈ Qd.lets T
abbrev ltsP (g : List Qd.Lt) : Pd := tupP (g.map Qt.ltP)
def pre_lost_in (K : PySem.W.Frag) (_ : Option Addr) (a : LI) : List Pd := [rowP K a.L, talkP K a.T, intP (a.b : Int), winP a.L a.T a.b, tupP [Qt.ltP a.p, Qt.ltP a.q]]
def out_lost_in (K : PySem.W.Frag) (a : LI) : Pd := optP (Qd.lostIn a.L a.T a.b a.p a.q) ltsP
theorem win0 {L : Qd.Ln} {T : Qd.Tk} {b : Nat} {l : Qd.Lt} {so : Option Addr} {Γ : Qt.Ctx} {ta tb : TE} (ha : Ev so ta Γ (winP L T b)) (hb : Ev so tb Γ (Qt.ltP l)) (h : l ∈ Qd.lets T) : Ev so (tOp (rIxU K) (tOp (rIxU K) ta tb) (tC (.int 0))) Γ (intP (Qd.win L T b l).1) :=
  ev_ixT (n := 0) (i := 0) (Ps := [intP (Qd.win L T b l).1, intP (Qd.win L T b l).2]) (ev_ixD (f := fun l => lkP (Qd.win L T b l)) ha hb h) ev_val rfl rfl
theorem win1 {L : Qd.Ln} {T : Qd.Tk} {b : Nat} {l : Qd.Lt} {so : Option Addr} {Γ : Qt.Ctx} {ta tb : TE} (ha : Ev so ta Γ (winP L T b)) (hb : Ev so tb Γ (Qt.ltP l)) (h : l ∈ Qd.lets T) : Ev so (tOp (rIxU K) (tOp (rIxU K) ta tb) (tC (.int 1))) Γ (intP (Qd.win L T b l).2) :=
  ev_ixT (n := 1) (i := 1) (Ps := [intP (Qd.win L T b l).1, intP (Qd.win L T b l).2]) (ev_ixD (f := fun l => lkP (Qd.win L T b l)) ha hb h) ev_val rfl rfl
theorem other_eq (p q l : Qd.Lt) : (!decide (l ∈ [p, q])) = Qd.other p q l := by
  unfold Qd.other
  rw [show decide (l ∈ [p, q]) = (decide (l = p) || decide (l = q)) by simp [List.mem_cons]]
theorem ok_lost_in (Y : Kit K mg) : Dfn P w K mg base 4 "lost_in" ["row", "talk", "box", "table", "pair"] (spF (pre_lost_in K) (out_lost_in K)) := by
  obtain ⟨fd, F⟩ := Y.def_ 16 (d := d_lost_in)
  have S : FnScope ["row", "talk", "box", "table", "pair", "first", "last", "start", "end", "inside", "found", "letter"] ["row", "talk", "box", "table", "pair"] (defScope s_lost_in) := ⟨rfl, rfl, rfl, by decide +kernel, rfl, by decide +kernel, by decide +kernel⟩
  refine ⟨_, fd, Y.glo 16, F.kp, (F.bindsN fun _ _ _ _ _ _ us hl => match us, hl with | [_, _, _, _, _], _ => rfl), ?_⟩
  refine fn_ty (N := ["row", "talk", "box", "table", "pair", "first", "last", "start", "end", "inside", "found", "letter"]) (Fall := False) F S (fun _ _ => rfl) (fun h => h.elim) fun cdv A outer s H E hr => ⟨_, (pss_cons (ps_asg (pv 4) (kGt K rfl 2 rfl (pgs_cons (pg_name S.nd (i := 5) rfl (Or.inl rfl) (Or.inl rfl)) (pgs_cons (pg_name S.nd (i := 6) rfl (Or.inl rfl) (Or.inl rfl)) pgs_nil)))) (pss_cons (ps_asg (pe_tup (pa_cons (pe_ix (kIx K rfl (hu_of hr)) (pe_ix (kIx K rfl (hu_of hr)) (pv 3) (pv 5) (fun _ _ => rfl)) pe_int (fun _ _ => rfl)) (pa_cons (pe_ix (kIx K rfl (hu_of hr)) (pe_ix (kIx K rfl (hu_of hr)) (pv 3) (pv 6) (fun _ _ => rfl)) pe_int (fun _ _ => rfl)) pa_nil))) (kGt K rfl 2 rfl (pgs_cons (pg_name S.nd (i := 7) rfl (Or.inr rfl) (Or.inl rfl)) (pgs_cons (pg_name S.nd (i := 8) rfl (Or.inr rfl) (Or.inl rfl)) pgs_nil)))) (pss_cons (ps_if (PW.pt (pw_or (pt_cmpR (kEq K rfl hr.units) (pv 5) (pv 6) (nomark _)) (pw_or (pt_not (pt_val (pe_dfn (ok_is_sight Y) hr (pa_cons (pv 0) (pa_cons (pv 2) (pa_cons (pv 5) pa_nil)))))) (pw_or1 (pt_cmpR op_le (pv 8) (pv 7) (nomark _)))))) (pss_one (ps_ret pe_non)) pss_nil) (pss_cons (ps_setLc (i := 9) rfl S.nd rfl rfl (sw_true rfl rfl rfl (by decide +kernel)) (pi_keys (pv 3)) (blkOk_by (N := ["row", "talk", "box", "table", "pair", "first", "last", "start", "end", "inside", "found", "letter"]) (sc := defScope s_lost_in) (own := [("letter", 11)]) (by decide +kernel)) (fun _ _ _ _ _ => (pg_name S.nd (i := 11) rfl (Or.inl rfl) (Or.inr rfl))) (fun _ _ _ _ _ => (pts_one (PW.pt (pw_and (pt_cmpR op_gt (pe_ix (kIx K rfl (hu_of hr)) (pe_ix (kIx K rfl (hu_of hr)) (pv 3) (pv 11) (fun _ _ => rfl)) pe_int (fun _ _ => rfl)) (pv 7) (nomark _)) (pw_and1 (pt_cmpR op_lt (pe_ix (kIx K rfl (hu_of hr)) (pe_ix (kIx K rfl (hu_of hr)) (pv 3) (pv 11) (fun _ _ => rfl)) pe_int (fun _ _ => rfl)) (pv 8) (nomark _))))))) (fun _ _ _ _ _ => (pv 11))) (pss_cons (ps_setLc (i := 10) rfl S.nd rfl rfl (sw_true rfl rfl rfl (by decide +kernel)) (kPL K rfl (pv 9)) (blkOk_by (N := ["row", "talk", "box", "table", "pair", "first", "last", "start", "end", "inside", "found", "letter"]) (sc := defScope s_lost_in) (own := [("letter", 11)]) (by decide +kernel)) (fun _ _ _ _ _ => (pg_name S.nd (i := 11) rfl (Or.inl rfl) (Or.inr rfl))) (fun _ _ _ _ _ => (pts_one (PW.pt (pw_and (pt_cmpR (kNotIn K rfl (u65 hr)) (pv 11) (pv 4) (by with_unfolding_all rfl)) (pw_and1 (pt_val (pe_dfn (ok_is_sight Y) hr (pa_cons (pv 0) (pa_cons (pv 2) (pa_cons (pv 11) pa_nil)))))))))) (fun _ _ _ _ _ => (pv 11))) (pss_one (ps_ret (pe_ifExp (pt_val (pe_dfn (ok_can_be_lost Y) hr (pa_cons (pv 1) (pa_cons (pv 10) pa_nil)))) (pe_callTy (kTup K rfl) rfl (Y.free 74) boot_tuple (pa_cons (pv 10) pa_nil)) pe_non)))))))), fun so a => ?_⟩
  obtain ⟨L, T, b, p, q, hL, hT, hb, hp, hq⟩ := a
  have hlen := lets_len hT
  refine es_then (es_set (P := tupP [Qt.ltP p, Qt.ltP q]) (ev_var rfl) (egTup2 rfl rfl) rfl) ?_
  refine es_then (es_set (evTup (ea_cons (win0 (L := L) (T := T) (b := b) (l := p) (ev_var rfl) (ev_var rfl) hp) (ea_cons (win1 (L := L) (T := T) (b := b) (l := q) (ev_var rfl) (ev_var rfl) hq) ea_nil)) rfl) (egTup2 rfl rfl) rfl) ?_
  refine es_guard (et_or (et_test (ev_eqLt (p := p) (q := q) (ev_var rfl) (ev_var rfl))) fun _ => et_or (et_not (et_val (ev_call (a := (⟨(L, b, p), hL, hb⟩ : LBL)) (ea_cons (ev_var rfl) (ea_cons (ev_var rfl) (ea_cons (ev_var rfl) ea_nil)))))) fun _ => et_test (ev_rI0 (i := (Qd.win L T b q).2) (j := (Qd.win L T b p).1) (ev_var rfl) (ev_var rfl))) (fun hc => ?_) fun hc => ?_
  · refine es_ret (ev_val (v := .non)) (Le.of_eq ?_)
    show nonP = optP (Qd.lostIn L T b p q) ltsP
    unfold Qd.lostIn
    have hc : (decide (p = q) || (!Qd.sight L b p || decide ((Qd.win L T b q).2 ≤ (Qd.win L T b p).1))) = true := hc
    rw [hc]
    rfl
  have hc : (decide (p = q) || (!Qd.sight L b p || decide ((Qd.win L T b q).2 ≤ (Qd.win L T b p).1))) = false := hc
  refine es_then (es_set (P := lstP (((Qd.lets T).filter (Qd.within L T b p q)).map Qt.ltP)) (ev_lc (Qd.lets T) Qt.ltP (Qd.within L T b p q) Qt.ltP (ei_keys (f := fun l => lkP (Qd.win L T b l)) (ev_var rfl)) rfl (sz (by omega)) (fun _ h => h) (fun _ _ => egName rfl) (fun l hl =>
    et_and (et_test (ev_rI0 (i := (Qd.win L T b l).1) (j := (Qd.win L T b p).1) (win0 (L := L) (T := T) (b := b) (l := l) (ev_var rfl) (ev_var rfl) hl) (ev_var rfl))) fun _ => et_test (ev_rI0 (i := (Qd.win L T b l).2) (j := (Qd.win L T b q).2) (win1 (L := L) (T := T) (b := b) (l := l) (ev_var rfl) (ev_var rfl) hl) (ev_var rfl))) fun l _ _ => ev_var rfl) (egName rfl) rfl) ?_
  have hfl := List.length_filter_le (Qd.within L T b p q) (Qd.lets T)
  refine es_then (es_set (P := lstP ((Qd.inner L T b p q).map Qt.ltP)) (ev_lc ((Qd.lets T).filter (Qd.within L T b p q)) Qt.ltP (fun l => Qd.other p q l && Qd.sight L b l) Qt.ltP (ei_list (ev_var rfl)) rfl (sz (by omega)) (fun _ h => h) (fun _ _ => egName rfl) (fun l hl =>
    et_and (EvT.eq (et_test (ev_notInLtsT (g := [p, q]) (l := l) (ev_var rfl) (ev_var rfl))) (other_eq p q l)) fun _ => et_val (ev_call (a := (⟨(L, b, l), hL, hb⟩ : LBL)) (ea_cons (ev_var rfl) (ea_cons (ev_var rfl) (ea_cons (ev_var rfl) ea_nil))))) fun l _ _ => ev_var rfl) (egName rfl) rfl) ?_
  have hin : (Qd.inner L T b p q).length ≤ 900 := by
    have z := List.length_filter_le (fun l => Qd.other p q l && Qd.sight L b l) ((Qd.lets T).filter (Qd.within L T b p q))
    unfold Qd.inner
    omega
  refine es_ret (P := optP (Qd.lostIn L T b p q) ltsP) (ev_if (et_val (ev_call (a := (⟨(T, Qd.inner L T b p q), hT, hin⟩ : CL)) (ea_cons (ev_var rfl) (ea_cons (ev_var rfl) ea_nil)))) (fun h => ?_) fun h => ?_) (Le.refl _)
  · have h : Qd.canLose T (Qd.inner L T b p q) = true := h
    refine Ev.eq (ev_tupL (ev_var rfl)) ?_
    unfold Qd.lostIn
    rw [hc, h]
    rfl
  · have h : Qd.canLose T (Qd.inner L T b p q) = false := h
    refine Ev.eq (ev_val (v := .non)) ?_
    unfold Qd.lostIn
    rw [hc, h]
    rfl
def pre_lost_between (K : PySem.W.Frag) (_ : Option Addr) (a : LI) : List Pd := [rowP K a.L, talkP K a.T, intP (a.b : Int), Qt.ltP a.p, Qt.ltP a.q]
def out_lost_between (K : PySem.W.Frag) (a : LI) : Pd := optP (Qd.lostIn a.L a.T a.b a.p a.q) ltsP
theorem ok_lost_between (Y : Kit K mg) : Dfn P w K mg base 7 "lost_between" ["row", "talk", "box", "first", "last"] (spF (pre_lost_between K) (out_lost_between K)) := by
  obtain ⟨fd, F⟩ := Y.def_ 17 (d := d_lost_between)
  have S : FnScope ["row", "talk", "box", "first", "last"] ["row", "talk", "box", "first", "last"] (defScope s_lost_between) := ⟨rfl, rfl, rfl, by decide +kernel, rfl, by decide +kernel, by decide +kernel⟩
  refine ⟨_, fd, Y.glo 17, F.kp, (F.bindsN fun _ _ _ _ _ _ us hl => match us, hl with | [_, _, _, _, _], _ => rfl), ?_⟩
  refine fn_ty (N := ["row", "talk", "box", "first", "last"]) (Fall := False) F S (fun _ _ => rfl) (fun h => h.elim) fun cdv A outer s H E hr => ⟨_, (pss_one (ps_ret (pe_dfn (ok_lost_in Y) hr (pa_cons (pv 0) (pa_cons (pv 1) (pa_cons (pv 2) (pa_cons (pe_dfn (ok_windows Y) hr (pa_cons (pv 0) (pa_cons (pv 1) (pa_cons (pv 2) pa_nil)))) (pa_cons (pe_tup (pa_cons (pv 3) (pa_cons (pv 4) pa_nil))) pa_nil)))))))), fun so a => ?_⟩
  obtain ⟨L, T, b, p, q, hL, hT, hb, hp, hq⟩ := a
  exact es_ret (ev_call (a := (⟨L, T, b, p, q, hL, hT, hb, hp, hq⟩ : LI)) (ea_cons (ev_var rfl) (ea_cons (ev_var rfl) (ea_cons (ev_var rfl) (ea_cons (ev_call (a := (⟨(L, T, b), hL, hT, hb⟩ : RTB)) (ea_cons (ev_var rfl) (ea_cons (ev_var rfl) (ea_cons (ev_var rfl) ea_nil)))) (ea_cons (evTup (ea_cons (ev_var rfl) (ea_cons (ev_var rfl) ea_nil)) rfl) ea_nil)))))) (Le.refl _)

end
end Qp
set_option Elab.async false
set_option linter.all false
set_option maxRecDepth 100000
set_option maxHeartbeats 4000000
namespace Qp
open PySem PySem.Spec PyProof.Rows L2 Qr Qt Qf RZ
section
variable {P : Program} {w : World} {K : PySem.W.Frag} {mg : Str → Option Value} {base : Heap}

theorem cle_trans {A B C : Qt.Ctx} (h : CLe A B) (g : CLe B C) : CLe A C := ⟨g.len.trans h.len, fun i P e => by
    obtain ⟨Q, e1, l1⟩ := g.sl i P e
    obtain ⟨R, e2, l2⟩ := h.sl i Q e1
    exact ⟨R, e2, fun v H x => l1 v H (l2 v H x)⟩, fun i Ps e => by
    obtain ⟨Qs, e1, l1⟩ := g.ow i Ps e
    obtain ⟨Rs, e2, l2⟩ := h.ow i Qs e1
    exact ⟨Rs, e2, fun xs H x => l1 xs H (l2 xs H x)⟩, fun d e => h.dc d (g.dc d e)⟩
def g3P (L : Qd.Ln) (T : Qd.Tk) (b : Nat) (z : Qd.Lt × Qd.Lt) : Pd := tupP [intP (Qd.gapOf L T b z.1 z.2), Qt.ltP z.1, Qt.ltP z.2]
def pre_pairs_of (K : PySem.W.Frag) (_ : Option Addr) (a : RTB) : List Pd := [rowP K a.1.1, talkP K a.1.2.1, intP (a.1.2.2 : Int)]
def out_pairs_of (K : PySem.W.Frag) (a : RTB) : Pd := lstP ((Qd.gapsL a.1.1 a.1.2.1 a.1.2.2).map (g3P a.1.1 a.1.2.1 a.1.2.2))
theorem prod_len {α β : Type} (l : List α) (m : List β) : (l.flatMap fun p => m.map fun q => (p, q)).length = l.length * m.length := by
  induction l with
  | nil => simp
  | cons a l ih =>
    rw [List.flatMap_cons, List.length_append, ih, List.length_map, List.length_cons, Nat.succ_mul, Nat.add_comm]
theorem lineBig {n : Nat} (h : n ≤ 100000) : n < sizeLine := by
  rw [sizeLine_eq]
  omega
theorem ok_pairs_of (Y : Kit K mg) : Dfn P w K mg base 7 "pairs_of" ["row", "talk", "box"] (spF (pre_pairs_of K) (out_pairs_of K)) := by
  obtain ⟨fd, F⟩ := Y.def_ 18 (d := d_pairs_of)
  have S : FnScope ["row", "talk", "box", "table", "found", "first", "last"] ["row", "talk", "box"] (defScope s_pairs_of) := ⟨rfl, rfl, rfl, by decide +kernel, rfl, by decide +kernel, by decide +kernel⟩
  refine ⟨_, fd, Y.glo 18, F.kp, (F.bindsN fun _ _ _ _ _ _ us hl => match us, hl with | [_, _, _], _ => rfl), ?_⟩
  refine fn_ty (N := ["row", "talk", "box", "table", "found", "first", "last"]) (Fall := False) F S (fun _ _ => rfl) (fun h => h.elim) fun cdv A outer s H E hr => ⟨_, (pss_cons (ps_par (i := 3) (j := 4) rfl S.nd rfl rfl (by decide) rfl rfl (pa_cons (pe_dfn (ok_windows Y) hr (pa_cons (pv 0) (pa_cons (pv 1) (pa_cons (pv 2) pa_nil)))) (pa_cons (pe_lst pa_nil) pa_nil)) (by rfl)) (pss_cons (ps_for PassesOwn.never rfl (pi_keys (pv 3)) (pg_name S.nd (i := 5) rfl (Or.inl rfl) (Or.inl rfl)) (pss_one (ps_for PassesOwn.never rfl (pi_keys (pv 3)) (pg_name S.nd (i := 6) rfl (Or.inl rfl) (Or.inl rfl)) (pss_one (ps_if (pt_cmpR op_notN (pe_dfn (ok_lost_in Y) hr (pa_cons (pv 0) (pa_cons (pv 1) (pa_cons (pv 2) (pa_cons (pv 3) (pa_cons (pe_tup (pa_cons (pv 5) (pa_cons (pv 6) pa_nil))) pa_nil)))))) pe_non (nomark _)) (pss_one (ps_expr (kApp K rfl (pv 4) (pe_tup (pa_cons (pe_op op_sub (pe_ix (kIx K rfl (hu_of hr)) (pe_ix (kIx K rfl (hu_of hr)) (pv 3) (pv 6) (fun _ _ => rfl)) pe_int (fun _ _ => rfl)) (pe_ix (kIx K rfl (hu_of hr)) (pe_ix (kIx K rfl (hu_of hr)) (pv 3) (pv 5) (fun _ _ => rfl)) pe_int (fun _ _ => rfl))) (pa_cons (pv 5) (pa_cons (pv 6) pa_nil))))))) pss_nil))))) (pss_one (ps_ret (pv 4))))), fun so a => ?_⟩
  obtain ⟨⟨L, T, b⟩, hL, hT, hb⟩ := a
  have hT : Qd.TkOk T := hT
  have hlen := lets_len hT
  have e0 : Qd.gapsL L T b = (((Qd.lets T).flatMap fun p => (Qd.lets T).map fun q => (p, q)).filter fun z => Qd.hasGap L T b z.1 z.2) := by
    unfold Qd.gapsL
    rfl
  let gz : Qd.Lt × Qd.Lt → Bool := fun z => Qd.hasGap L T b z.1 z.2
  let Am : Nat → List (Qd.Lt × Qd.Lt) := fun i => (((Qd.lets T).take i).flatMap fun p => (Qd.lets T).map fun q => (p, q)).filter gz
  have hA : ∀ i, (Am i).length ≤ 14400 := fun i => by
    have z := List.length_filter_le gz (((Qd.lets T).take i).flatMap fun p => (Qd.lets T).map fun q => (p, q))
    rw [prod_len, List.length_take] at z
    have z2 : min i (Qd.lets T).length * (Qd.lets T).length ≤ 120 * 120 := Nat.mul_le_mul (by omega) hlen
    exact Nat.le_trans z z2
  let Γs : List (Qd.Lt × Qd.Lt) → Qt.Ctx := fun l => ⟨[some (rowP K L), some (talkP K T), some (intP (b : Int)), some (winP L T b), none, none, none], some (4, l.map (g3P L T b)), none⟩
  refine es_then (es_par2 (P := winP L T b) (ltB rfl) (ltB rfl) (by decide) (ev_call (a := (⟨(L, T, b), hL, hT, hb⟩ : RTB)) (ea_cons (ev_var rfl) (ea_cons (ev_var rfl) (ea_cons (ev_var rfl) ea_nil)))) rfl) ?_
  refine es_forT (fun i G => G = Γs (Am i)) (ei_keys (f := fun l => lkP (Qd.win L T b l)) (ls := Qd.lets T) (ev_var rfl)) (Γs (Am 0)) (CLe.refl _) rfl (fun i P Γi eP hI => ?_) fun Γ' hI => ?_
  · subst hI
    obtain ⟨h1, rfl⟩ := map_at eP
    refine ⟨_, _, egName rfl, ?_⟩
    have hp : (Qd.lets T)[i] ∈ Qd.lets T := List.getElem_mem h1
    have eA : Am (i + 1) = Am i ++ ((Qd.lets T).map fun q => ((Qd.lets T)[i], q)).filter gz := by
      show (((Qd.lets T).take (i + 1)).flatMap _).filter gz = _
      rw [take_succ_at h1, List.flatMap_append, List.filter_append]
      simp only [List.flatMap_cons, List.flatMap_nil, List.append_nil]
      rfl
    generalize (Qd.lets T)[i] = p at hp eA
    let Bm : Nat → List (Qd.Lt × Qd.Lt) := fun j => Am i ++ (((Qd.lets T).take j).map fun q => (p, q)).filter gz
    let Γi : List (Qd.Lt × Qd.Lt) → Qt.Ctx := fun l => ⟨[some (rowP K L), some (talkP K T), some (intP (b : Int)), some (winP L T b), none, some (Qt.ltP p), none], some (4, l.map (g3P L T b)), none⟩
    refine es_forC (fun j G => G = Γi (Bm j)) (ei_keys (f := fun l => lkP (Qd.win L T b l)) (ls := Qd.lets T) (ev_var rfl)) (Γi (Am i)) (CLe.refl _) ?_ (fun j P2 Γj eP2 hJ => ?_) (fun Γ' hJ => ?_) fun G Γ' l ⟨Γ2, l2, h2⟩ => ⟨Γ2, cle_trans l l2, h2⟩
    · show Γi (Am i) = Γi (Am i ++ _)
      rw [List.take_zero]
      simp
    · subst hJ
      obtain ⟨h2, rfl⟩ := map_at eP2
      refine ⟨_, _, egName rfl, ?_⟩
      have hq : (Qd.lets T)[j] ∈ Qd.lets T := List.getElem_mem h2
      have eB : Bm (j + 1) = Bm j ++ (if gz (p, (Qd.lets T)[j]) = true then [(p, (Qd.lets T)[j])] else []) := by
        show Am i ++ (((Qd.lets T).take (j + 1)).map _).filter gz = (Am i ++ _) ++ _
        rw [take_succ_at h2, List.map_append, List.filter_append, List.append_assoc]
        congr 2
        cases e : gz (p, (Qd.lets T)[j]) <;> simp [e]
      have hBl : (Bm j).length ≤ 14520 := by
        have z1 := hA i
        have z2 := List.length_filter_le gz (((Qd.lets T).take j).map fun q => (p, q))
        rw [List.length_map, List.length_take] at z2
        show (Am i ++ _).length ≤ _
        rw [List.length_append]
        omega
      generalize (Qd.lets T)[j] = q at hq eB
      refine es_if (EvT.eq (c := gz (p, q)) (et_test (ev_notN (P := optP (Qd.lostIn L T b p q) ltsP) (ev_call (a := (⟨L, T, b, p, q, hL, hT, hb, hp, hq⟩ : LI)) (ea_cons (ev_var rfl) (ea_cons (ev_var rfl) (ea_cons (ev_var rfl) (ea_cons (ev_var rfl) (ea_cons (evTup (ea_cons (ev_var rfl) (ea_cons (ev_var rfl) ea_nil)) rfl) ea_nil)))))))) (by rw [Bool.not_not]; rfl)) (fun hc => ?_) fun hc => ?_
      · rw [hc, if_pos rfl] at eB
        refine es_append (Ps := (Bm j).map (g3P L T b)) rfl (lineBig ?_) (evTup (ea_cons (ev_rI0 (i := (Qd.win L T b q).2) (j := (Qd.win L T b p).1) (win1 (L := L) (T := T) (b := b) (l := q) (ev_var rfl) (ev_var rfl) hq) (win0 (L := L) (T := T) (b := b) (l := p) (ev_var rfl) (ev_var rfl) hp)) (ea_cons (ev_var rfl) (ea_cons (ev_var rfl) ea_nil))) rfl) ⟨Γi (Bm (j + 1)), CLe.of ?_ ?_ rfl, rfl⟩
        · rw [List.length_map]
          omega
        · exact ⟨Le.refl _, Le.refl _, Le.refl _, Le.refl _, Le.refl _, trivial⟩
        · show some (4, (Bm (j + 1)).map (g3P L T b)) = some (4, _ ++ [_])
          rw [eB, List.map_append]
          rfl
      · rw [hc, if_neg Bool.false_ne_true, List.append_nil] at eB
        refine es_next ⟨Γi (Bm (j + 1)), ?_, rfl⟩
        rw [eB]
        exact CLe.of ⟨Le.refl _, Le.refl _, Le.refl _, Le.refl _, Le.refl _, trivial⟩ rfl rfl
    · subst hJ
      refine ⟨Γs (Am (i + 1)), CLe.of ?_ ?_ rfl, rfl⟩
      · exact ⟨Le.refl _, Le.refl _, Le.refl _, Le.refl _, trivial⟩
      · show some (4, (Am (i + 1)).map (g3P L T b)) = some (4, (Am i ++ (((Qd.lets T).take ((Qd.lets T).map Qt.ltP).length).map fun q => (p, q)).filter gz).map (g3P L T b))
        rw [eA, List.length_map, List.take_length]
  · subst hI
    rw [List.length_map]
    refine es_retown (i := 4) rfl (ltB rfl) (Le.of_eq ?_)
    show lstP ((Am (Qd.lets T).length).map (g3P L T b)) = lstP ((Qd.gapsL L T b).map (g3P L T b))
    rw [e0]
    show lstP ((((Qd.lets T).take (Qd.lets T).length).flatMap _ |>.filter gz).map _) = _
    rw [List.take_length]
def pre_gap (K : PySem.W.Frag) (_ : Option Addr) (a : RTB) : List Pd := [rowP K a.1.1, talkP K a.1.2.1, intP (a.1.2.2 : Int)]
def out_gap (K : PySem.W.Frag) (a : RTB) : Pd := intP (Qd.greatest a.1.1 a.1.2.1 a.1.2.2)
theorem gaps_len {L : Qd.Ln} {T : Qd.Tk} {b : Nat} (hT : Qd.TkOk T) : (Qd.gapsL L T b).length ≤ 14400 := by
  have hlen := lets_len hT
  unfold Qd.gapsL Qd.prs
  have z := List.length_filter_le (fun z => Qd.hasGap L T b z.1 z.2) ((Qd.lets T).flatMap fun p => (Qd.lets T).map fun q => (p, q))
  rw [prod_len] at z
  have z2 : (Qd.lets T).length * (Qd.lets T).length ≤ 120 * 120 := Nat.mul_le_mul hlen hlen
  omega
theorem gap_nn {L : Qd.Ln} {T : Qd.Tk} {b : Nat} {z : Qd.Lt × Qd.Lt} (h : z ∈ Qd.gapsL L T b) : 0 ≤ Qd.gapOf L T b z.1 z.2 := by
  unfold Qd.gapsL at h
  have h2 := (List.mem_filter.mp h).2
  exact Int.le_of_lt (Qd.lostIn_pos h2)
theorem ok_gap (Y : Kit K mg) : Dfn P w K mg base 8 "gap" ["row", "talk", "box"] (spF (pre_gap K) (out_gap K)) := by
  obtain ⟨fd, F⟩ := Y.def_ 19 (d := d_gap)
  have S : FnScope ["row", "talk", "box", "found", "first", "last"] ["row", "talk", "box"] (defScope s_gap) := ⟨rfl, rfl, rfl, by decide +kernel, rfl, by decide +kernel, by decide +kernel⟩
  refine ⟨_, fd, Y.glo 19, F.kp, (F.bindsN fun _ _ _ _ _ _ us hl => match us, hl with | [_, _, _], _ => rfl), ?_⟩
  refine fn_ty (N := ["row", "talk", "box", "found", "first", "last"]) (Fall := False) F S (fun _ _ => rfl) (fun h => h.elim) fun cdv A outer s H E hr => ⟨_, (pss_cons (ps_expr (pe_mth (ok_Row_check Y) hr (pv 0) (pa_cons (pv 2) pa_nil))) (pss_one (ps_ret (pe_callBK (kMaxD K rfl rfl hr.units) rfl (Y.free 68) boot_max (pa_cons (pe_lc rfl S.nd (kPL K rfl (pe_dfn (ok_pairs_of Y) hr (pa_cons (pv 0) (pa_cons (pv 1) (pa_cons (pv 2) pa_nil))))) (blkOk_by (N := ["row", "talk", "box", "found", "first", "last"]) (sc := defScope s_gap) (own := [("found", 3), ("first", 4), ("last", 5)]) (by decide +kernel)) (fun _ _ _ _ _ => (kGt K rfl 3 rfl (pgs_cons (pg_name S.nd (i := 3) rfl (Or.inl rfl) (Or.inr rfl)) (pgs_cons (pg_name S.nd (i := 4) rfl (Or.inl rfl) (Or.inr rfl)) (pgs_cons (pg_name S.nd (i := 5) rfl (Or.inl rfl) (Or.inr rfl)) pgs_nil))))) (fun _ _ _ _ _ => pts_nil) (fun _ _ _ _ _ => (pv 3))) pa_nil) (pk_cons pe_int pk_nil))))), fun so a => ?_⟩
  obtain ⟨⟨L, T, b⟩, hL, hT, hb⟩ := a
  have hT : Qd.TkOk T := hT
  refine es_then (es_drop (ev_meth (m := "check") (a := (⟨(L, b), hL, hb⟩ : RB)) (ev_var rfl) (ea_cons (ev_var rfl) ea_nil) rfl (by decide +kernel)) rfl) ?_
  refine es_ret (ev_maxDMap (l := Qd.gapsL L T b) (g := fun z => Qd.gapOf L T b z.1 z.2) (ev_lc0 (Qd.gapsL L T b) (g3P L T b) (fun z => intP (Qd.gapOf L T b z.1 z.2)) (ei_list (ev_call (a := (⟨(L, T, b), hL, hT, hb⟩ : RTB)) (ea_cons (ev_var rfl) (ea_cons (ev_var rfl) (ea_cons (ev_var rfl) ea_nil))))) rfl (lineBig (Nat.le_trans (gaps_len hT) (by decide))) (fun _ h => h) (fun z _ => egTup3 rfl rfl rfl) fun z _ => ev_var rfl) fun z hz => gap_nn hz) (Le.of_eq ?_)
  show _ = intP (Qd.greatest L T b)
  unfold Qd.greatest
  rfl
def pre_gaps (K : PySem.W.Frag) (_ : Option Addr) (a : {x : Qd.Ln × Qd.Tk // Qd.LnOk x.1 ∧ Qd.TkOk x.2}) : List Pd := [rowP K a.1.1, talkP K a.1.2]
def out_gaps (K : PySem.W.Frag) (a : {x : Qd.Ln × Qd.Tk // Qd.LnOk x.1 ∧ Qd.TkOk x.2}) : Pd := tupP ((List.range a.1.1.bx.length).map fun b => intP (Qd.greatest a.1.1 a.1.2 b))
theorem ok_gaps (Y : Kit K mg) : Dfn P w K mg base 9 "gaps" ["row", "talk"] (spF (pre_gaps K) (out_gaps K)) := by
  obtain ⟨fd, F⟩ := Y.def_ 23 (d := d_gaps)
  have S : FnScope ["row", "talk", "box"] ["row", "talk"] (defScope s_gaps) := ⟨rfl, rfl, rfl, by decide +kernel, rfl, by decide +kernel, by decide +kernel⟩
  refine ⟨_, fd, Y.glo 23, F.kp, (F.bindsN fun _ _ _ _ _ _ us hl => match us, hl with | [_, _], _ => rfl), ?_⟩
  refine fn_ty (N := ["row", "talk", "box"]) (Fall := False) F S (fun _ _ => rfl) (fun h => h.elim) fun cdv A outer s H E hr => ⟨_, (pss_one (ps_ret (pe_callTy (kTup K rfl) rfl (Y.free 74) boot_tuple (pa_cons (pe_lc rfl S.nd (pi_range1 rfl (Y.free 63) (pa_cons (pe_lenO (ok_Row_len Y) hr (Y.free 62) (pa_cons (pv 0) pa_nil)) pa_nil)) (blkOk_by (N := ["row", "talk", "box"]) (sc := defScope s_gaps) (own := [("box", 2)]) (by decide +kernel)) (fun _ _ _ _ _ => (pg_name S.nd (i := 2) rfl (Or.inl rfl) (Or.inr rfl))) (fun _ _ _ _ _ => pts_nil) (fun _ _ _ _ _ => (pe_dfn (ok_gap Y) hr (pa_cons (pv 0) (pa_cons (pv 1) (pa_cons (pv 2) pa_nil)))))) pa_nil)))), fun so a => ?_⟩
  obtain ⟨⟨L, T⟩, hL, hT⟩ := a
  have hL : Qd.LnOk L := hL
  have h4 := hL.n4
  refine es_ret (ev_tupL (ev_lc0 (List.range L.bx.length) (fun (k : Nat) => intP (k : Int)) (fun b => intP (Qd.greatest L T b)) (ei_rng (n := L.bx.length) (ev_lenO (a := L) (n := L.bx.length) (ev_var rfl) rfl rfl (by omega)) rfl (by omega)) rfl (sz (by rw [List.length_range]; omega)) (fun _ h => h) (fun _ _ => egName rfl) fun b hb =>
    ev_call (a := (⟨(L, T, b), hL, hT, List.mem_range.mp hb⟩ : RTB)) (ea_cons (ev_var rfl) (ea_cons (ev_var rfl) (ea_cons (ev_var rfl) ea_nil))))) (Le.refl _)

end
end Qp
set_option Elab.async false
set_option linter.all false
set_option maxRecDepth 100000
set_option maxHeartbeats 4000000
namespace Qp
open PySem PySem.Spec PyProof.Rows L2 Qr Qt Qf RZ
section
variable {P : Program} {w : World} {K : PySem.W.Frag} {mg : Str → Option Value} {base : Heap}

structure TA8 where
  L : Qd.Ln
  T : Qd.Tk
  l : Qd.Lt
  late : Bool
  many : Nat
  hL : Qd.LnOk L
  hT : Qd.TkOk T
  hl : l ∈ Qd.lets T
def pre_times_along (K : PySem.W.Frag) (_ : Option Addr) (a : TA8) : List Pd := [rowP K a.L, talkP K a.T, Qt.ltP a.l, blP a.late, intP (a.many : Int)]
def out_times_along (K : PySem.W.Frag) (a : TA8) : Pd := exP vP
theorem ok_times_along (Y : Kit K mg) : Dfn P w K mg base 4 "times_along" ["row", "talk", "letter", "is_late", "many"] (spF (pre_times_along K) (out_times_along K)) := by
  obtain ⟨fd, F⟩ := Y.def_ 21 (d := d_times_along)
  have S : FnScope ["row", "talk", "letter", "is_late", "many", "found", "time", "least", "most"] ["row", "talk", "letter", "is_late", "many"] (defScope s_times_along) := ⟨rfl, rfl, rfl, by decide +kernel, rfl, by decide +kernel, by decide +kernel⟩
  refine ⟨_, fd, Y.glo 21, F.kp, (F.bindsN fun _ _ _ _ _ _ us hl => match us, hl with | [_, _, _, _, _], _ => rfl), ?_⟩
  refine fn_ty (N := ["row", "talk", "letter", "is_late", "many", "found", "time", "least", "most"]) (Fall := False) F S (fun _ _ => rfl) (fun h => h.elim) fun cdv A outer s H E hr => ⟨_, (pss_cons (ps_par (i := 5) (j := 6) rfl S.nd rfl rfl (by decide) rfl rfl (pa_cons (pe_lst pa_nil) (pa_cons (pe_mth (ok_Talk_time Y) hr (pv 1) (pa_cons (pv 2) pa_nil)) pa_nil)) (by rfl)) (pss_cons (ps_for PassesOwn.never rfl (kPT K rfl (pe_slice (kSl K rfl) (pe_dfn (ok_links_along Y) hr (pa_cons (pv 0) (pa_cons (pv 2) pa_nil))) po_none (po_some (pv 4)))) (kGt K rfl 2 rfl (pgs_cons (pg_name S.nd (i := 7) rfl (Or.inl rfl) (Or.inl rfl)) (pgs_cons (pg_name S.nd (i := 8) rfl (Or.inl rfl) (Or.inl rfl)) pgs_nil))) (pss_cons (ps_set (i := 6) S.nd rfl (Or.inl rfl) (pe_op (kAdd K rfl) (pv 6) (pe_ifExp (pt_val (pv 3)) (pv 8) (pv 7)))) (pss_one (ps_expr (kApp K rfl (pv 5) (pv 6)))))) (pss_one (ps_ret (pe_callTy (kTup K rfl) rfl (Y.free 74) boot_tuple (pa_cons (pv 5) pa_nil)))))), fun so a => ?_⟩
  obtain ⟨L, T, ⟨o, k⟩, late, many, hL, hT, hl⟩ := a
  have hL : Qd.LnOk L := hL
  have h4 := hL.n4
  have hal := along_len hL o
  let Γs : Int → List Int → Qt.Ctx := fun t acc => ⟨[some (rowP K L), some (talkP K T), some (Qt.ltP (o, k)), some (blP late), some (intP (many : Int)), none, some (intP t), none, none], some (5, acc.map fun n => intP n), none⟩
  refine es_then (es_par1 (P := intP (Qd.tm T (o, k))) (ltB rfl) (ltB rfl) (by decide) (ev_meth (m := "time") (a := (⟨(T, o, k), hT, hl⟩ : TL)) (ev_var rfl) (ea_cons (ev_var rfl) ea_nil) rfl (by decide +kernel)) rfl) ?_
  have hz : ((Qd.along L o).take many).length ≤ 4 := by
    rw [List.length_take]
    omega
  refine es_forT (fun i G => ∃ t acc, G = Γs t acc ∧ acc.length = i) (Ps := ((Qd.along L o).take many).map lkP) (ei_tup ?_) (Γs (Qd.tm T (o, k)) []) (CLe.refl _) ⟨_, _, rfl, rfl⟩ (fun i P Γi eP hI => ?_) fun Γ' hI => ?_
  · refine Ev.eq (ev_slT (ev_call (a := (⟨(L, o, k), hL⟩ : LA)) (ea_cons (ev_var rfl) (ea_cons (ev_var rfl) ea_nil))) eo_none (eo_some (ev_var rfl))) ?_
    rw [cut_take, List.map_take]
  · obtain ⟨t, acc, rfl, ha⟩ := hI
    obtain ⟨h1, rfl⟩ := map_at eP
    refine ⟨_, _, egTup2 (P := intP ((Qd.along L o).take many)[i].1) (Q := intP ((Qd.along L o).take many)[i].2) rfl rfl, ?_⟩
    generalize ((Qd.along L o).take many)[i] = x
    refine es_then (es_set (ev_addI (i := t) (j := if late = true then x.2 else x.1) (ev_var rfl) (ev_if (et_val (ev_var (P := blP late) rfl)) (fun h => ?_) fun h => ?_)) (egName rfl) rfl) ?_
    · rw [if_pos h]
      exact ev_var rfl
    · rw [h, if_neg Bool.false_ne_true]
      exact ev_var rfl
    refine es_append (Ps := acc.map fun n => intP n) (P := intP (t + if late = true then x.2 else x.1)) rfl (sz (by rw [List.length_map]; omega)) (ev_var rfl) ⟨Γs (t + if late = true then x.2 else x.1) (acc ++ [t + if late = true then x.2 else x.1]), CLe.of ?_ ?_ rfl, _, _, rfl, by rw [List.length_append, ha]; rfl⟩
    · exact ⟨Le.refl _, Le.refl _, Le.refl _, Le.refl _, Le.refl _, Le.refl _, trivial⟩
    · show some (5, (acc ++ [_]).map _) = some (5, _ ++ [_])
      rw [List.map_append]
      rfl
  · obtain ⟨t, acc, rfl, ha⟩ := hI
    exact es_pub (i := 5) rfl (ltB rfl) (es_ret (ev_tupL (Ps := acc.map fun n => intP n) (ev_var rfl)) fun v H p => ⟨acc, p⟩)
def prP (z : Qd.Lt × Qd.Lt) : Pd := tupP [Qt.ltP z.1, Qt.ltP z.2]
def endP (L : Qd.Ln) (T : Qd.Tk) (b : Nat) : Pd := exP fun o : Option {z : Qd.Lt × Qd.Lt // z ∈ Qd.gapsL L T b} => optP o fun z => prP z.1
def pre_ends (K : PySem.W.Frag) (_ : Option Addr) (a : RTB) : List Pd := [rowP K a.1.1, talkP K a.1.2.1, intP (a.1.2.2 : Int)]
def out_ends (K : PySem.W.Frag) (a : RTB) : Pd := endP a.1.1 a.1.2.1 a.1.2.2
theorem ok_ends (Y : Kit K mg) : Dfn P w K mg base 8 "ends" ["row", "talk", "box"] (spF (pre_ends K) (out_ends K)) := by
  obtain ⟨fd, F⟩ := Y.def_ 20 (d := d_ends)
  have S : FnScope ["row", "talk", "box", "pairs", "found", "first", "last", "most"] ["row", "talk", "box"] (defScope s_ends) := ⟨rfl, rfl, rfl, by decide +kernel, rfl, by decide +kernel, by decide +kernel⟩
  refine ⟨_, fd, Y.glo 20, F.kp, (F.bindsN fun _ _ _ _ _ _ us hl => match us, hl with | [_, _, _], _ => rfl), ?_⟩
  refine fn_ty (N := ["row", "talk", "box", "pairs", "found", "first", "last", "most"]) (Fall := False) F S (fun _ _ => rfl) (fun h => h.elim) fun cdv A outer s H E hr => ⟨_, (pss_cons (ps_expr (pe_mth (ok_Row_check Y) hr (pv 0) (pa_cons (pv 2) pa_nil))) (pss_cons (ps_set (i := 3) S.nd rfl (Or.inl rfl) (pe_dfn (ok_pairs_of Y) hr (pa_cons (pv 0) (pa_cons (pv 1) (pa_cons (pv 2) pa_nil))))) (pss_cons (ps_set (i := 7) S.nd rfl (Or.inl rfl) (pe_callBK (kMaxD K rfl rfl hr.units) rfl (Y.free 68) boot_max (pa_cons (pe_lc rfl S.nd (kPL K rfl (pv 3)) (blkOk_by (N := ["row", "talk", "box", "pairs", "found", "first", "last", "most"]) (sc := defScope s_ends) (own := [("found", 4), ("first", 5), ("last", 6)]) (by decide +kernel)) (fun _ _ _ _ _ => (kGt K rfl 3 rfl (pgs_cons (pg_name S.nd (i := 4) rfl (Or.inl rfl) (Or.inr rfl)) (pgs_cons (pg_name S.nd (i := 5) rfl (Or.inl rfl) (Or.inr rfl)) (pgs_cons (pg_name S.nd (i := 6) rfl (Or.inl rfl) (Or.inr rfl)) pgs_nil))))) (fun _ _ _ _ _ => pts_nil) (fun _ _ _ _ _ => (pv 4))) pa_nil) (pk_cons pe_int pk_nil))) (pss_cons (ps_for PassesOwn.never rfl (kPL K rfl (pv 3)) (kGt K rfl 3 rfl (pgs_cons (pg_name S.nd (i := 4) rfl (Or.inl rfl) (Or.inl rfl)) (pgs_cons (pg_name S.nd (i := 5) rfl (Or.inl rfl) (Or.inl rfl)) (pgs_cons (pg_name S.nd (i := 6) rfl (Or.inl rfl) (Or.inl rfl)) pgs_nil)))) (pss_one (ps_if (pt_cmpR (kEq K rfl hr.units) (pv 4) (pv 7) (nomark _)) (pss_one (ps_ret (pe_tup (pa_cons (pv 5) (pa_cons (pv 6) pa_nil))))) pss_nil))) (pss_one (ps_ret pe_non)))))), fun so a => ?_⟩
  obtain ⟨⟨L, T, b⟩, hL, hT, hb⟩ := a
  have hT : Qd.TkOk T := hT
  refine es_then (es_drop (ev_meth (m := "check") (a := (⟨(L, b), hL, hb⟩ : RB)) (ev_var rfl) (ea_cons (ev_var rfl) ea_nil) rfl (by decide +kernel)) rfl) ?_
  refine es_then (es_set (P := lstP ((Qd.gapsL L T b).map (g3P L T b))) (ev_call (a := (⟨(L, T, b), hL, hT, hb⟩ : RTB)) (ea_cons (ev_var rfl) (ea_cons (ev_var rfl) (ea_cons (ev_var rfl) ea_nil)))) (egName rfl) rfl) ?_
  refine es_then (es_set (ev_maxDMap (l := Qd.gapsL L T b) (g := fun z => Qd.gapOf L T b z.1 z.2) (ev_lc0 (Qd.gapsL L T b) (g3P L T b) (fun z => intP (Qd.gapOf L T b z.1 z.2)) (ei_list (ev_var rfl)) rfl (lineBig (Nat.le_trans (gaps_len hT) (by decide))) (fun _ h => h) (fun z _ => egTup3 rfl rfl rfl) fun z _ => ev_var rfl) fun z hz => gap_nn hz) (egName rfl) rfl) ?_
  let Γs : Qt.Ctx := ⟨[some (rowP K L), some (talkP K T), some (intP (b : Int)), some (lstP ((Qd.gapsL L T b).map (g3P L T b))), none, none, none, some (intP (Qd.mx0 ((Qd.gapsL L T b).map fun z => Qd.gapOf L T b z.1 z.2)))], none, none⟩
  refine es_forT (fun i G => G = Γs) (Ps := (Qd.gapsL L T b).map (g3P L T b)) (ei_list (ev_var rfl)) Γs (CLe.of ?_ rfl rfl) rfl (fun i P Γi eP hI => ?_) fun Γ' hI => ?_
  · exact ⟨Le.refl _, Le.refl _, Le.refl _, Le.refl _, Le.refl _, trivial⟩
  · subst hI
    obtain ⟨h1, rfl⟩ := map_at eP
    have hm : (Qd.gapsL L T b)[i] ∈ Qd.gapsL L T b := List.getElem_mem h1
    generalize (Qd.gapsL L T b)[i] = z at hm
    refine ⟨_, _, egTup3 rfl rfl rfl, ?_⟩
    refine es_if (et_test (ev_eqI (i := Qd.gapOf L T b z.1 z.2) (j := Qd.mx0 ((Qd.gapsL L T b).map fun z => Qd.gapOf L T b z.1 z.2)) (ev_var rfl) (ev_var rfl))) (fun _ => ?_) fun _ => ?_
    · exact es_ret (evTup (ea_cons (ev_var rfl) (ea_cons (ev_var rfl) ea_nil)) rfl) fun v H p => ⟨some ⟨z, hm⟩, p⟩
    · refine es_next ⟨Γs, CLe.of ?_ rfl rfl, rfl⟩
      exact ⟨Le.refl _, Le.refl _, Le.refl _, Le.refl _, Le.refl _, trivial⟩
  · exact es_ret (ev_val (v := .non)) fun v H p => ⟨none, p⟩
def pre_worst_course (K : PySem.W.Frag) (_ : Option Addr) (a : RTB) : List Pd := [rowP K a.1.1, talkP K a.1.2.1, intP (a.1.2.2 : Int)]
def out_worst_course (K : PySem.W.Frag) (a : RTB) : Pd := anyP
theorem le_any (P : Pd) : Le P anyP := fun _ _ _ => trivial
theorem ok_worst_course (Y : Kit K mg) : Dfn P w K mg base 9 "worst_course" ["row", "talk", "box"] (spF (pre_worst_course K) (out_worst_course K)) := by
  obtain ⟨fd, F⟩ := Y.def_ 22 (d := d_worst_course)
  have S : FnScope ["row", "talk", "box", "pair", "letter", "lost", "start", "found", "is_late", "many"] ["row", "talk", "box"] (defScope s_worst_course) := ⟨rfl, rfl, rfl, by decide +kernel, rfl, by decide +kernel, by decide +kernel⟩
  refine ⟨_, fd, Y.glo 22, F.kp, (F.bindsN fun _ _ _ _ _ _ us hl => match us, hl with | [_, _, _], _ => rfl), ?_⟩
  refine fn_ty (N := ["row", "talk", "box", "pair", "letter", "lost", "start", "found", "is_late", "many"]) (Fall := False) F S (fun _ _ => rfl) (fun h => h.elim) fun cdv A outer s H E hr => ⟨_, (pss_cons (ps_set (i := 3) S.nd rfl (Or.inl rfl) (pe_dfn (ok_ends Y) hr (pa_cons (pv 0) (pa_cons (pv 1) (pa_cons (pv 2) pa_nil))))) (pss_cons (ps_if (pt_cmpR op_isN (pv 3) pe_non (nomark _)) (pss_one (ps_ret (pe_freeze (pe_dcT (hu_of hr) rfl S.nd (kPT K rfl (pe_mth0 (ok_Talk_letters Y) hr (pv 1))) (blkOk_by (N := ["row", "talk", "box", "pair", "letter", "lost", "start", "found", "is_late", "many"]) (sc := defScope s_worst_course) (own := [("letter", 4)]) (by decide +kernel)) (fun _ _ _ _ _ => (pg_name S.nd (i := 4) rfl (Or.inl rfl) (Or.inr rfl))) (fun _ _ _ _ _ => (pv 4)) (fun _ _ _ _ _ => (pe_dfn (ok_times_along Y) hr (pa_cons (pv 0) (pa_cons (pv 1) (pa_cons (pv 4) (pa_cons pe_bl (pa_cons (pe_lenO (ok_Row_len Y) hr (Y.free 62) (pa_cons (pv 0) pa_nil)) pa_nil))))))))))) pss_nil) (pss_cons (ps_set (i := 5) S.nd rfl (Or.inl rfl) (pe_dfn (ok_lost_between Y) hr (pa_cons (pv 0) (pa_cons (pv 1) (pa_cons (pv 2) (pa_cons (pe_ix (kIx K rfl (hu_of hr)) (pv 3) pe_int (fun _ _ => rfl)) (pa_cons (pe_ix (kIx K rfl (hu_of hr)) (pv 3) pe_int (fun _ _ => rfl)) pa_nil))))))) (pss_cons (ps_set (i := 6) S.nd rfl (Or.inl rfl) (pe_ix (kIx K rfl (hu_of hr)) (pe_dfn (ok_window_of Y) hr (pa_cons (pv 0) (pa_cons (pv 1) (pa_cons (pv 2) (pa_cons (pe_ix (kIx K rfl (hu_of hr)) (pv 3) pe_int (fun _ _ => rfl)) pa_nil))))) pe_int (fun _ _ => rfl))) (pss_cons (ps_set (i := 7) S.nd rfl (Or.inl rfl) pe_dnewT) (pss_cons (ps_for PassesOwn.never rfl (kPT K rfl (pe_mth0 (ok_Talk_letters Y) hr (pv 1))) (pg_name S.nd (i := 4) rfl (Or.inl rfl) (Or.inl rfl)) (pss_cons (ps_set (i := 8) S.nd rfl (Or.inl rfl) (pe_and (pe_cmpR (kNe K rfl hr.units) (pv 4) (pe_ix (kIx K rfl (hu_of hr)) (pv 3) pe_int (fun _ _ => rfl)) (nomark _)) (pe_one (pe_or (pe_cmpR (kEq K rfl hr.units) (pv 4) (pe_ix (kIx K rfl (hu_of hr)) (pv 3) pe_int (fun _ _ => rfl)) (nomark _)) (pe_one (pe_cmpR op_gt (pe_ix (kIx K rfl (hu_of hr)) (pe_dfn (ok_window_of Y) hr (pa_cons (pv 0) (pa_cons (pv 1) (pa_cons (pv 2) (pa_cons (pv 4) pa_nil))))) pe_int (fun _ _ => rfl)) (pv 6) (nomark _))))))) (pss_cons (ps_set (i := 9) S.nd rfl (Or.inl rfl) (pe_ifExp (pt_cmpR (kIn K rfl (u65 hr)) (pv 4) (pv 5) (by with_unfolding_all rfl)) (pe_dfn (ok_place_along Y) hr (pa_cons (pv 0) (pa_cons (pv 4) (pa_cons (pv 2) pa_nil)))) (pe_lenO (ok_Row_len Y) hr (Y.free 62) (pa_cons (pv 0) pa_nil)))) (pss_one (ps_asg (pe_dfn (ok_times_along Y) hr (pa_cons (pv 0) (pa_cons (pv 1) (pa_cons (pv 4) (pa_cons (pv 8) (pa_cons (pv 9) pa_nil)))))) (pg_sub (pv 7) (pv 4) (set_dict (hu_of hr)))))))) (pss_one (ps_ret (pe_freeze (pv 7)))))))))), fun so a => ?_⟩
  obtain ⟨⟨L, T, b⟩, hL, hT, hb⟩ := a
  have hL : Qd.LnOk L := hL
  have hT : Qd.TkOk T := hT
  have hlen := lets_len hT
  have h4 := hL.n4
  refine es_then (es_set (P := endP L T b) (ev_call (a := (⟨(L, T, b), hL, hT, hb⟩ : RTB)) (ea_cons (ev_var rfl) (ea_cons (ev_var rfl) (ea_cons (ev_var rfl) ea_nil)))) (egName rfl) rfl) ?_
  refine es_exE (i := 3) (F := fun o : Option {z : Qd.Lt × Qd.Lt // z ∈ Qd.gapsL L T b} => optP o fun z => prP z.1) rfl fun o => ?_
  cases o with
  | none =>
    refine es_guard (c := true) (et_test (ev_isN (P := nonP) (ev_var rfl))) (fun _ => ?_) fun z => absurd z (by decide)
    exact es_ret (ev_dc (ls := Qd.lets T) (f := fun _ => exP vP) (Qd.lets_nodup T) (ei_tup (ev_meth (m := "letters") (a := (⟨T, hT⟩ : {T : Qd.Tk // Qd.TkOk T})) (ev_var rfl) ea_nil rfl (by decide +kernel))) (sz (by omega)) (fun _ h => h) (fun _ _ => egName rfl) (fun l _ => ev_var rfl)
      fun l hl => ev_call (a := (⟨L, T, l, false, L.bx.length, hL, hT, hl⟩ : TA8)) (ea_cons (ev_var rfl) (ea_cons (ev_var rfl) (ea_cons (ev_var rfl) (ea_cons ev_val (ea_cons (ev_lenO (a := L) (n := L.bx.length) (ev_var rfl) rfl rfl (by omega)) ea_nil)))))) (le_any _)
  | some z =>
    obtain ⟨⟨p, q⟩, hz⟩ := z
    have hg : Qd.hasGap L T b p q = true ∧ p ∈ Qd.lets T ∧ q ∈ Qd.lets T := by
      unfold Qd.gapsL at hz
      obtain ⟨h1, h2⟩ := List.mem_filter.mp hz
      exact ⟨h2, Qd.mem_prs.mp h1⟩
    obtain ⟨hg, hp, hq⟩ := hg
    obtain ⟨g, eg⟩ := Option.isSome_iff_exists.mp (show (Qd.lostIn L T b p q).isSome = true from hg)
    refine es_skip (et_test (ev_isN (P := tupP [Qt.ltP p, Qt.ltP q]) (ev_var rfl))) ?_
    refine es_then (es_set (P := ltsP g) (Ev.eq (ev_call (a := (⟨L, T, b, p, q, hL, hT, hb, hp, hq⟩ : LI)) (ea_cons (ev_var rfl) (ea_cons (ev_var rfl) (ea_cons (ev_var rfl) (ea_cons (ev_ixT (n := 0) (Ps := [Qt.ltP p, Qt.ltP q]) (ev_var rfl) ev_val rfl rfl) (ea_cons (ev_ixT (n := 1) (Ps := [Qt.ltP p, Qt.ltP q]) (ev_var rfl) ev_val rfl rfl) ea_nil)))))) (by
      show optP (Qd.lostIn L T b p q) ltsP = ltsP g
      rw [eg]
      rfl)) (egName rfl) rfl) ?_
    refine es_then (es_set (P := intP (Qd.win L T b p).1) (ev_ixT (n := 0) (i := 0) (Ps := [intP (Qd.win L T b p).1, intP (Qd.win L T b p).2]) (ev_call (a := (⟨(L, T, b, p), hL, hT, hb, hp⟩ : RTBL)) (ea_cons (ev_var rfl) (ea_cons (ev_var rfl) (ea_cons (ev_var rfl) (ea_cons (ev_ixT (n := 0) (Ps := [Qt.ltP p, Qt.ltP q]) (ev_var rfl) ev_val rfl rfl) ea_nil))))) ev_val rfl rfl) (egName rfl) rfl) ?_
    refine es_then (es_newD (f := fun _ => exP vP) (ltB rfl) rfl) ?_
    let Γs : List Qd.Lt → Qt.Ctx := fun ls => ⟨[some (rowP K L), some (talkP K T), some (intP (b : Int)), some (prP (p, q)), none, some (ltsP g), some (intP (Qd.win L T b p).1), none, none, none], none, some (7, ls, fun _ => exP vP)⟩
    refine es_forT (fun i G => G = Γs ((Qd.lets T).take i)) (Ps := (Qd.lets T).map Qt.ltP) (ei_tup (ev_meth (m := "letters") (a := (⟨T, hT⟩ : {T : Qd.Tk // Qd.TkOk T})) (ev_var rfl) ea_nil rfl (by decide +kernel))) (Γs []) (CLe.of ?_ rfl rfl) rfl (fun i P Γi eP hI => ?_) fun Γ' hI => ?_
    · exact ⟨Le.refl _, Le.refl _, Le.refl _, Le.refl _, Le.refl _, Le.refl _, trivial⟩
    · subst hI
      obtain ⟨h1, rfl⟩ := map_at eP
      have hl : (Qd.lets T)[i] ∈ Qd.lets T := List.getElem_mem h1
      have hn := not_mem_take h1 (Qd.lets_nodup T)
      have et := take_succ_at h1
      generalize (Qd.lets T)[i] = l at hl hn et
      refine ⟨_, _, egName rfl, ?_⟩
      refine es_then (es_set (ev_andV (ev_neLt (p := l) (q := p) (ev_var rfl) (ev_ixT (n := 0) (Ps := [Qt.ltP p, Qt.ltP q]) (ev_var rfl) ev_val rfl rfl)) fun _ => ev_orV (ev_eqLt (p := l) (q := q) (ev_var rfl) (ev_ixT (n := 1) (Ps := [Qt.ltP p, Qt.ltP q]) (ev_var rfl) ev_val rfl rfl)) fun _ =>
        ev_rI0 (i := (Qd.win L T b l).1) (j := (Qd.win L T b p).1) (ev_ixT (n := 0) (i := 0) (Ps := [intP (Qd.win L T b l).1, intP (Qd.win L T b l).2]) (ev_call (a := (⟨(L, T, b, l), hL, hT, hb, hl⟩ : RTBL)) (ea_cons (ev_var rfl) (ea_cons (ev_var rfl) (ea_cons (ev_var rfl) (ea_cons (ev_var rfl) ea_nil))))) ev_val rfl rfl) (ev_var rfl)) (egName rfl) rfl) ?_
      refine es_then (es_set (P := intP ((if decide (l ∈ g) = true then Qd.place L b l else L.bx.length : Nat) : Int)) (ev_if (et_test (ev_inLtsT (g := g) (l := l) (ev_var rfl) (ev_var rfl))) (fun h => ?_) fun h => ?_) (egName rfl) rfl) ?_
      · rw [if_pos h]
        exact ev_call (a := (⟨(L, b, l), hL, hb⟩ : LBL)) (ea_cons (ev_var rfl) (ea_cons (ev_var rfl) (ea_cons (ev_var rfl) ea_nil)))
      · rw [h, if_neg Bool.false_ne_true]
        exact ev_lenO (a := L) (n := L.bx.length) (ev_var rfl) rfl rfl (by omega)
      refine es_putD (ls := (Qd.lets T).take i) (f := fun _ => exP vP) (l := l) rfl hn (sz (by rw [List.length_take]; omega)) (ev_call (a := (⟨L, T, l, _, _, hL, hT, hl⟩ : TA8)) (ea_cons (ev_var rfl) (ea_cons (ev_var rfl) (ea_cons (ev_var rfl) (ea_cons (ev_var rfl) (ea_cons (ev_var rfl) ea_nil)))))) (ev_var rfl) ⟨Γs ((Qd.lets T).take (i + 1)), CLe.of ?_ rfl ?_, rfl⟩
      · exact ⟨Le.refl _, Le.refl _, Le.refl _, Le.refl _, Le.refl _, Le.refl _, trivial⟩
      · show some (7, (Qd.lets T).take (i + 1), _) = some (7, (Qd.lets T).take i ++ [l], _)
        rw [et]
    · subst hI
      exact es_retD rfl (le_any _)
def pre_paper (K : PySem.W.Frag) (_ : Option Addr) (a : {x : Qd.Ln × Qd.Tk // Qd.LnOk x.1 ∧ Qd.TkOk x.2}) : List Pd := [rowP K a.1.1, talkP K a.1.2]
def out_paper (K : PySem.W.Frag) (a : {x : Qd.Ln × Qd.Tk // Qd.LnOk x.1 ∧ Qd.TkOk x.2}) : Pd := exP tupP
theorem ok_paper (Y : Kit K mg) : Dfn P w K mg base 10 "paper" ["row", "talk"] (spF (pre_paper K) (out_paper K)) := by
  obtain ⟨fd, F⟩ := Y.def_ 24 (d := d_paper)
  have S : FnScope ["row", "talk", "table", "box", "found"] ["row", "talk"] (defScope s_paper) := ⟨rfl, rfl, rfl, by decide +kernel, rfl, by decide +kernel, by decide +kernel⟩
  refine ⟨_, fd, Y.glo 24, F.kp, (F.bindsN fun _ _ _ _ _ _ us hl => match us, hl with | [_, _], _ => rfl), ?_⟩
  refine fn_ty (N := ["row", "talk", "table", "box", "found"]) (Fall := False) F S (fun _ _ => rfl) (fun h => h.elim) fun cdv A outer s H E hr => ⟨_, (pss_cons (ps_set (i := 2) S.nd rfl (Or.inl rfl) (pe_dfn (ok_gaps Y) hr (pa_cons (pv 0) (pa_cons (pv 1) pa_nil)))) (pss_cons (ps_for PassesOwn.never rfl (kEn K rfl rfl (Y.free 65) (pa_cons (pv 2) pa_nil)) (kGt K rfl 2 rfl (pgs_cons (pg_name S.nd (i := 3) rfl (Or.inl rfl) (Or.inl rfl)) (pgs_cons (pg_name S.nd (i := 4) rfl (Or.inl rfl) (Or.inl rfl)) pgs_nil))) (pss_one (ps_if (pt_cmpR op_ge (pv 4) (pe_prp (ok_Box_low Y) hr (pe_ix (kIx K rfl (hu_of hr)) (pe_prp (ok_Row_boxes Y) hr (pv 0)) (pv 3) (fun _ _ => rfl))) (nomark _)) (pss_one (ps_ret (pe_tup (pa_cons pe_str (pa_cons (pv 3) (pa_cons (pe_dfn (ok_worst_course Y) hr (pa_cons (pv 0) (pa_cons (pv 1) (pa_cons (pv 3) pa_nil)))) pa_nil)))))) pss_nil))) (pss_one (ps_ret (pe_tup (pa_cons pe_str (pa_cons (pv 2) pa_nil))))))), fun so a => ?_⟩
  obtain ⟨⟨L, T⟩, hL, hT⟩ := a
  have hL : Qd.LnOk L := hL
  let tb : Pd := tupP ((List.range L.bx.length).map fun b => intP (Qd.greatest L T b))
  refine es_then (es_set (P := tb) (ev_call (a := (⟨(L, T), hL, hT⟩ : {x : Qd.Ln × Qd.Tk // Qd.LnOk x.1 ∧ Qd.TkOk x.2})) (ea_cons (ev_var rfl) (ea_cons (ev_var rfl) ea_nil))) (egName rfl) rfl) ?_
  let Γs : Qt.Ctx := ⟨[some (rowP K L), some (talkP K T), some tb, none, none], none, none⟩
  refine es_forT (fun i G => G = Γs) (ei_enumT (l := List.range L.bx.length) (f := fun b => intP (Qd.greatest L T b)) (ev_var rfl)) Γs (CLe.refl _) rfl (fun i P Γi eP hI => ?_) fun Γ' hI => ?_
  · subst hI
    obtain ⟨h1, rfl⟩ := map_at eP
    have h1' : i < L.bx.length := by simpa using h1
    have ez : (List.range L.bx.length).zipIdx[i] = (i, i) := by simp
    rw [ez]
    have e : (L.bx.map (boxP K))[i]? = some (boxP K L.bx[i]) := by
      rw [List.getElem?_map, List.getElem?_eq_getElem h1']
      rfl
    refine ⟨_, _, egTup2 rfl rfl, ?_⟩
    refine es_if (et_test (ev_rI0 (i := Qd.greatest L T i) (j := L.bx[i].low) (ev_var rfl) (ev_prop (a := L.bx[i]) (ev_ixT (n := i) (ev_prop (a := L) (ev_var rfl) rfl) (ev_var rfl) rfl e) rfl))) (fun _ => ?_) fun _ => ?_
    · exact es_ret (evTup (ea_cons ev_val (ea_cons (ev_var rfl) (ea_cons (ev_call (a := (⟨(L, T, i), hL, hT, h1'⟩ : RTB)) (ea_cons (ev_var rfl) (ea_cons (ev_var rfl) (ea_cons (ev_var rfl) ea_nil)))) ea_nil))) rfl) fun v H p => ⟨_, p⟩
    · exact es_next ⟨Γs, CLe.of ⟨Le.refl _, Le.refl _, Le.refl _, trivial⟩ rfl rfl, rfl⟩
  · subst hI
    exact es_ret (evTup (ea_cons ev_val (ea_cons (ev_var rfl) ea_nil)) rfl) fun v H p => ⟨_, p⟩

end
end Qp
set_option Elab.async false
set_option linter.all false
set_option maxRecDepth 100000
set_option maxHeartbeats 4000000
namespace Qp
open PySem PySem.Spec PyProof.Rows L2 Qr Qt Qf RZ
section
variable {P : Program} {w : World} {K : PySem.W.Frag} {mg : Str → Option Value} {base : Heap}

def vi : V → Int
  | .int i => i
  | _ => 0
def accGap (L : Qd.Ln) (T : Qd.Tk) (b : Nat) (v : V) : Bool := betw v 0 (Qd.lowAt L b - 1) && decide (Qd.greatest L T b ≤ vi v)
structure AG where
  L : Qd.Ln
  T : Qd.Tk
  b : Nat
  v : Sc
  hL : Qd.LnOk L
  hT : Qd.TkOk T
  hb : b < L.bx.length
def pre_accepts_gap (K : PySem.W.Frag) (_ : Option Addr) (a : AG) : List Pd := [rowP K a.L, talkP K a.T, intP (a.b : Int), valP a.v.1]
def out_accepts_gap (K : PySem.W.Frag) (a : AG) : Pd := blP (accGap a.L a.T a.b a.v.1)
theorem lowAt_of {L : Qd.Ln} {b : Nat} (h : b < L.bx.length) : Qd.lowAt L b = L.bx[b].low := by
  unfold Qd.lowAt
  rw [List.getElem?_eq_getElem h]
  rfl
theorem box_at {L : Qd.Ln} {b : Nat} (h : b < L.bx.length) : (L.bx.map (boxP K))[b]? = some (boxP K L.bx[b]) := by
  rw [List.getElem?_map, List.getElem?_eq_getElem h]
  rfl
theorem ok_accepts_gap (Y : Kit K mg) : Dfn P w K mg base 7 "accepts_gap" ["row", "talk", "box", "value"] (spF (pre_accepts_gap K) (out_accepts_gap K)) := by
  obtain ⟨fd, F⟩ := Y.def_ 26 (d := d_accepts_gap)
  have S : FnScope ["row", "talk", "box", "value", "table", "first", "last", "is_longer"] ["row", "talk", "box", "value"] (defScope s_accepts_gap) := ⟨rfl, rfl, rfl, by decide +kernel, rfl, by decide +kernel, by decide +kernel⟩
  refine ⟨_, fd, Y.glo 26, F.kp, (F.bindsN fun _ _ _ _ _ _ us hl => match us, hl with | [_, _, _, _], _ => rfl), ?_⟩
  refine fn_ty (N := ["row", "talk", "box", "value", "table", "first", "last", "is_longer"]) (Fall := False) F S (fun _ _ => rfl) (fun h => h.elim) fun cdv A outer s H E hr => ⟨_, (pss_cons (ps_if (pt_not (pt_val (pe_dfn (ok_is_between Y) hr (pa_cons (pv 3) (pa_cons pe_int (pa_cons (pe_op op_sub (pe_prp (ok_Box_low Y) hr (pe_ix (kIx K rfl (hu_of hr)) (pe_prp (ok_Row_boxes Y) hr (pv 0)) (pv 2) (fun _ _ => rfl))) pe_int) pa_nil)))))) (pss_one (ps_ret pe_bl)) pss_nil) (pss_cons (ps_set (i := 4) S.nd rfl (Or.inl rfl) (pe_dfn (ok_windows Y) hr (pa_cons (pv 0) (pa_cons (pv 1) (pa_cons (pv 2) pa_nil))))) (pss_cons (ps_for PassesOwn.never rfl (pi_keys (pv 4)) (pg_name S.nd (i := 5) rfl (Or.inl rfl) (Or.inl rfl)) (pss_one (ps_for PassesOwn.never rfl (pi_keys (pv 4)) (pg_name S.nd (i := 6) rfl (Or.inl rfl) (Or.inl rfl)) (pss_cons (ps_set (i := 7) S.nd rfl (Or.inl rfl) (pe_cmpR op_gt (pe_op op_sub (pe_ix (kIx K rfl (hu_of hr)) (pe_ix (kIx K rfl (hu_of hr)) (pv 4) (pv 6) (fun _ _ => rfl)) pe_int (fun _ _ => rfl)) (pe_ix (kIx K rfl (hu_of hr)) (pe_ix (kIx K rfl (hu_of hr)) (pv 4) (pv 5) (fun _ _ => rfl)) pe_int (fun _ _ => rfl))) (pv 3) (nomark _))) (pss_one (ps_if (PW.pt (pw_and (pt_val (pv 7)) (pw_and1 (pt_cmpR op_notN (pe_dfn (ok_lost_in Y) hr (pa_cons (pv 0) (pa_cons (pv 1) (pa_cons (pv 2) (pa_cons (pv 4) (pa_cons (pe_tup (pa_cons (pv 5) (pa_cons (pv 6) pa_nil))) pa_nil)))))) pe_non (nomark _))))) (pss_one (ps_ret pe_bl)) pss_nil)))))) (pss_one (ps_ret pe_bl))))), fun so a => ?_⟩
  obtain ⟨L, T, b, ⟨v, hv⟩, hL, hT, hb⟩ := a
  have elow := lowAt_of hb
  refine es_guard (c := !betw v 0 (Qd.lowAt L b - 1)) (EvT.eq (et_not (et_val (ev_call (a := ((⟨v, hv⟩, 0, L.bx[b].low - 1) : Sc × Int × Int)) (ea_cons (ev_var rfl) (ea_cons ev_val (ea_cons (ev_rI0 (i := L.bx[b].low) (ev_prop (a := L.bx[b]) (ev_ixT (n := b) (ev_prop (a := L) (ev_var rfl) rfl) (ev_var rfl) rfl (box_at hb)) rfl) ev_val) ea_nil)))))) (by rw [elow])) (fun hc => ?_) fun hc => ?_
  · refine es_ret ev_val (Le.of_eq ?_)
    show blP false = blP (betw v 0 (Qd.lowAt L b - 1) && _)
    rw [Bool.not_eq_true'] at hc
    rw [hc]
    rfl
  rw [Bool.not_eq_false'] at hc
  cases v with
  | int n =>
    have hn : 0 ≤ n := by
      have hc : (decide (0 ≤ n) && decide (n ≤ Qd.lowAt L b - 1)) = true := hc
      rw [Bool.and_eq_true] at hc
      exact of_decide_eq_true hc.1
    have eR : out_accepts_gap K ⟨L, T, b, ⟨.int n, hv⟩, hL, hT, hb⟩ = blP (decide (Qd.greatest L T b ≤ n)) := by
      show blP (betw (.int n) 0 (Qd.lowAt L b - 1) && decide (Qd.greatest L T b ≤ n)) = _
      rw [hc]
      rfl
    rw [eR]
    let bad : Qd.Lt → Qd.Lt → Bool := fun p q => decide (n < Qd.gapOf L T b p q) && Qd.hasGap L T b p q
    have gr : decide (Qd.greatest L T b ≤ n) = true ↔ ∀ p ∈ Qd.lets T, ∀ q ∈ Qd.lets T, bad p q = false := by
      rw [decide_eq_true_eq]
      unfold Qd.greatest Qd.gapsL
      rw [Qd.mx0_le hn]
      refine ⟨fun h p hp q hq => ?_, fun h y hy => ?_⟩
      · show (decide (n < Qd.gapOf L T b p q) && Qd.hasGap L T b p q) = false
        cases e : Qd.hasGap L T b p q with
        | false => exact Bool.and_false _
        | true =>
          have z := h (Qd.gapOf L T b p q) (List.mem_map.mpr ⟨(p, q), List.mem_filter.mpr ⟨Qd.mem_prs.mpr ⟨hp, hq⟩, e⟩, rfl⟩)
          rw [decide_eq_false (by omega)]
          rfl
      · obtain ⟨⟨p, q⟩, hz, rfl⟩ := List.mem_map.mp hy
        obtain ⟨h1, h2⟩ := List.mem_filter.mp hz
        obtain ⟨hp, hq⟩ := Qd.mem_prs.mp h1
        have z := h p hp q hq
        have h2 : Qd.hasGap L T b p q = true := h2
        have z : (decide (n < Qd.gapOf L T b p q) && Qd.hasGap L T b p q) = false := z
        rw [h2, Bool.and_true] at z
        have z2 := of_decide_eq_false z
        show Qd.gapOf L T b p q ≤ n
        omega
    refine es_then (es_set (P := winP L T b) (ev_call (a := (⟨(L, T, b), hL, hT, hb⟩ : RTB)) (ea_cons (ev_var rfl) (ea_cons (ev_var rfl) (ea_cons (ev_var rfl) ea_nil)))) (egName rfl) rfl) ?_
    let Γs : Qt.Ctx := ⟨[some (rowP K L), some (talkP K T), some (intP (b : Int)), some (intP n), some (winP L T b), none, none, none], none, none⟩
    refine es_forT (fun i G => G = Γs ∧ ∀ p ∈ (Qd.lets T).take i, ∀ q ∈ Qd.lets T, bad p q = false) (ei_keys (f := fun l => lkP (Qd.win L T b l)) (ls := Qd.lets T) (ev_var rfl)) Γs (CLe.refl _) ⟨rfl, fun p hp => by simp at hp⟩ (fun i P Γi eP hI => ?_) fun Γ' hI => ?_
    · obtain ⟨rfl, hI⟩ := hI
      obtain ⟨h1, rfl⟩ := map_at eP
      refine ⟨_, _, egName rfl, ?_⟩
      have hp : (Qd.lets T)[i] ∈ Qd.lets T := List.getElem_mem h1
      have et := take_succ_at h1
      generalize (Qd.lets T)[i] = p at hp et
      let Γi : Qt.Ctx := ⟨[some (rowP K L), some (talkP K T), some (intP (b : Int)), some (intP n), some (winP L T b), some (Qt.ltP p), none, none], none, none⟩
      refine es_forC (fun j G => G = Γi ∧ ∀ q ∈ (Qd.lets T).take j, bad p q = false) (ei_keys (f := fun l => lkP (Qd.win L T b l)) (ls := Qd.lets T) (ev_var rfl)) Γi (CLe.refl _) ⟨rfl, fun q hq => by simp at hq⟩ (fun j P2 Γj eP2 hJ => ?_) (fun Γ' hJ => ?_) fun G Γ' l ⟨Γ2, l2, h2⟩ => ⟨Γ2, cle_trans l l2, h2⟩
      · obtain ⟨rfl, hJ⟩ := hJ
        obtain ⟨h2, rfl⟩ := map_at eP2
        refine ⟨_, _, egName rfl, ?_⟩
        have hq : (Qd.lets T)[j] ∈ Qd.lets T := List.getElem_mem h2
        have et2 := take_succ_at h2
        generalize (Qd.lets T)[j] = q at hq et2
        refine es_then (es_set (ev_rI0 (i := Qd.gapOf L T b p q) (j := n) (ev_rI0 (i := (Qd.win L T b q).2) (j := (Qd.win L T b p).1) (win1 (L := L) (T := T) (b := b) (l := q) (ev_var rfl) (ev_var rfl) hq) (win0 (L := L) (T := T) (b := b) (l := p) (ev_var rfl) (ev_var rfl) hp)) (ev_var rfl)) (egName rfl) rfl) ?_
        refine es_if (EvT.eq (c := bad p q) (et_and (et_val (ev_var (P := blP (decide (n < Qd.gapOf L T b p q))) rfl)) fun _ => et_test (ev_notN (P := optP (Qd.lostIn L T b p q) ltsP) (ev_call (a := (⟨L, T, b, p, q, hL, hT, hb, hp, hq⟩ : LI)) (ea_cons (ev_var rfl) (ea_cons (ev_var rfl) (ea_cons (ev_var rfl) (ea_cons (ev_var rfl) (ea_cons (evTup (ea_cons (ev_var rfl) (ea_cons (ev_var rfl) ea_nil)) rfl) ea_nil)))))))) (by rw [Bool.not_not]; rfl)) (fun hc2 => ?_) fun hc2 => ?_
        · refine es_ret ev_val (Le.of_eq ?_)
          have e : decide (Qd.greatest L T b ≤ n) = false := by
            rw [← Bool.not_eq_true, gr]
            intro z
            rw [z p hp q hq] at hc2
            cases hc2
          rw [e]
        · refine es_next ⟨Γi, CLe.of ?_ rfl rfl, rfl, fun x hx => ?_⟩
          · exact ⟨Le.refl _, Le.refl _, Le.refl _, Le.refl _, Le.refl _, Le.refl _, trivial⟩
          · rw [et2] at hx
            rcases List.mem_append.mp hx with z | z
            · exact hJ x z
            · rw [List.mem_singleton.mp z]
              exact hc2
      · obtain ⟨rfl, hJ⟩ := hJ
        refine ⟨Γs, CLe.of ?_ rfl rfl, rfl, fun x hx => ?_⟩
        · exact ⟨Le.refl _, Le.refl _, Le.refl _, Le.refl _, Le.refl _, trivial⟩
        · rw [et] at hx
          rcases List.mem_append.mp hx with z | z
          · exact hI x z
          · rw [List.mem_singleton.mp z]
            rw [List.length_map, List.take_length] at hJ
            exact hJ
    · obtain ⟨rfl, hI⟩ := hI
      rw [List.length_map, List.take_length] at hI
      refine es_ret ev_val (Le.of_eq ?_)
      rw [gr.mpr hI]
  | _ => cases hc
def brk (L : Qd.Ln) (T : Qd.Tk) (v : V) : CV L T → Bool
  | .ok C _ => betw v 0 ((L.bx.length : Int) - 1) && decide (Qd.lowAt L (vi v).toNat ≤ Qd.longest L (vi v).toNat (Qd.come L T C (vi v).toNat))
  | _ => false
structure AB where
  L : Qd.Ln
  T : Qd.Tk
  hL : Qd.LnOk L
  hT : Qd.TkOk T
  v : Sc
  c : CV L T
def pre_accepts_broken (K : PySem.W.Frag) (_ : Option Addr) (a : AB) : List Pd := [rowP K a.L, talkP K a.T, valP a.v.1, a.c.pd]
def out_accepts_broken (K : PySem.W.Frag) (a : AB) : Pd := blP (brk a.L a.T a.v.1 a.c)
theorem brk_no {L : Qd.Ln} {T : Qd.Tk} {v : V} (c : CV L T) (h : betw v 0 ((L.bx.length : Int) - 1) = false ∨ c.b = false) : brk L T v c = false := by
  cases c with
  | ok C hC =>
    rcases h with h | h
    · show (betw v 0 ((L.bx.length : Int) - 1) && _) = false
      rw [h]
      rfl
    · cases h
  | bad P t h1 h2 => rfl
  | nil => rfl
theorem ok_accepts_broken (Y : Kit K mg) : Dfn P w K mg base 8 "accepts_broken" ["row", "talk", "box", "course"] (spF (pre_accepts_broken K) (out_accepts_broken K)) := by
  obtain ⟨fd, F⟩ := Y.def_ 25 (d := d_accepts_broken)
  have S : FnScope ["row", "talk", "box", "course"] ["row", "talk", "box", "course"] (defScope s_accepts_broken) := ⟨rfl, rfl, rfl, by decide +kernel, rfl, by decide +kernel, by decide +kernel⟩
  refine ⟨_, fd, Y.glo 25, F.kp, (F.bindsN fun _ _ _ _ _ _ us hl => match us, hl with | [_, _, _, _], _ => rfl), ?_⟩
  refine fn_ty (N := ["row", "talk", "box", "course"]) (Fall := False) F S (fun _ _ => rfl) (fun h => h.elim) fun cdv A outer s H E hr => ⟨_, (pss_cons (ps_if (PW.pt (pw_or (pt_not (pt_val (pe_dfn (ok_is_between Y) hr (pa_cons (pv 2) (pa_cons pe_int (pa_cons (pe_op op_sub (pe_lenO (ok_Row_len Y) hr (Y.free 62) (pa_cons (pv 0) pa_nil)) pe_int) pa_nil)))))) (pw_or1 (pt_not (pt_val (pe_dfn (ok_is_course Y) hr (pa_cons (pv 0) (pa_cons (pv 1) (pa_cons (pv 3) pa_nil))))))))) (pss_one (ps_ret pe_bl)) pss_nil) (pss_one (ps_ret (pe_cmpR op_ge (pe_dfn (ok_course_gap Y) hr (pa_cons (pv 0) (pa_cons (pv 1) (pa_cons (pv 3) (pa_cons (pv 2) pa_nil))))) (pe_prp (ok_Box_low Y) hr (pe_ix (kIx K rfl (hu_of hr)) (pe_prp (ok_Row_boxes Y) hr (pv 0)) (pv 2) (fun _ _ => rfl))) (nomark _))))), fun so a => ?_⟩
  obtain ⟨L, T, hL, hT, ⟨v, hv⟩, c⟩ := a
  have hL : Qd.LnOk L := hL
  have h4 := hL.n4
  refine es_guard (et_or (et_not (et_val (ev_call (a := ((⟨v, hv⟩, 0, (L.bx.length : Int) - 1) : Sc × Int × Int)) (ea_cons (ev_var rfl) (ea_cons ev_val (ea_cons (ev_rI0 (ev_lenO (a := L) (n := L.bx.length) (ev_var rfl) rfl rfl (by omega)) ev_val) ea_nil)))))) fun _ => et_not (et_val (ev_call (a := (⟨L, T, hL, hT, c⟩ : CA)) (ea_cons (ev_var rfl) (ea_cons (ev_var rfl) (ea_cons (ev_var rfl) ea_nil)))))) (fun hc => ?_) fun hc => ?_
  · refine es_ret ev_val (Le.of_eq ?_)
    have hc : (!betw v 0 ((L.bx.length : Int) - 1) || !c.b) = true := hc
    show blP false = blP (brk L T v c)
    rw [brk_no c]
    rw [Bool.or_eq_true, Bool.not_eq_true', Bool.not_eq_true'] at hc
    exact hc
  · have hc : (!betw v 0 ((L.bx.length : Int) - 1) || !c.b) = false := hc
    rw [Bool.or_eq_false_iff, Bool.not_eq_false', Bool.not_eq_false'] at hc
    obtain ⟨hc1, hc2⟩ := hc
    cases c with
    | bad P t h1 h2 => cases hc2
    | nil => cases hc2
    | ok C hC =>
      cases v with
      | int i =>
        have hi : (decide (0 ≤ i) && decide (i ≤ (L.bx.length : Int) - 1)) = true := hc1
        rw [Bool.and_eq_true] at hi
        have i0 := of_decide_eq_true hi.1
        have i1 := of_decide_eq_true hi.2
        obtain ⟨b, rfl⟩ := Int.eq_ofNat_of_zero_le i0
        have hb : b < L.bx.length := by omega
        refine es_ret (ev_rI0 (ev_call (a := (⟨L, T, C, hL, hT, hC, b, hb⟩ : COB)) (ea_cons (ev_var rfl) (ea_cons (ev_var rfl) (ea_cons (ev_var rfl) (ea_cons (ev_var rfl) ea_nil))))) (ev_prop (a := L.bx[b]) (ev_ixT (n := b) (ev_prop (a := L) (ev_var rfl) rfl) (ev_var rfl) rfl (box_at hb)) rfl)) (Le.of_eq ?_)
        show blP _ = blP (betw (.int (b : Int)) 0 ((L.bx.length : Int) - 1) && _)
        rw [hc1, Bool.true_and]
        show blP (decide (L.bx[b].low ≤ Qd.longest L b (Qd.come L T C b))) = blP (decide (Qd.lowAt L ((b : Int).toNat) ≤ Qd.longest L ((b : Int).toNat) (Qd.come L T C ((b : Int).toNat))))
        rw [Int.toNat_natCast, lowAt_of hb]
      | _ => cases hc1

end
end Qp
set_option Elab.async false
set_option linter.all false
set_option maxRecDepth 100000
set_option maxHeartbeats 4000000
namespace Qp
open PySem PySem.Spec PyProof.Rows L2 Qr Qt Qf RZ
section
variable {P : Program} {w : World} {K : PySem.W.Frag} {mg : Str → Option Value} {base : Heap}

inductive AV (L : Qd.Ln) (T : Qd.Tk) where
  | bad (P : Pd) (t : String) (h : TyP P t) (h2 : KitB t "tuple" false)
  | short (Ps : List Pd) (h : Ps.length < 2)
  | word (w : Str) (P : Pd) (Ps : List Pd) (hc : PyData.canLay0 (.str w) = true) (hb : (w == Str.ofString "broken") = false) (hk : (w == Str.ofString "kept") = false)
  | keptLen (P : Pd) (Ps : List Pd) (h : Ps.length ≠ 0)
  | keptBad (P : Pd) (t : String) (h : TyP P t) (h2 : KitB t "tuple" false)
  | kept (vs : List Sc) (h : vs.length ≤ 900)
  | brkLen (P : Pd) (Ps : List Pd) (h : Ps.length ≠ 1)
  | brk (v : Sc) (c : CV L T)
def AV.pd {L : Qd.Ln} {T : Qd.Tk} : AV L T → Pd
  | .bad P _ _ _ => P
  | .short Ps _ => tupP Ps
  | .word w P Ps _ _ _ => tupP (strP w :: P :: Ps)
  | .keptLen P Ps _ => tupP (strP "kept" :: P :: Ps)
  | .keptBad P _ _ _ => tupP [strP "kept", P]
  | .kept vs _ => tupP [strP "kept", tupP (vs.map fun v => valP v.1)]
  | .brkLen P Ps _ => tupP (strP "broken" :: P :: Ps)
  | .brk v c => tupP [strP "broken", valP v.1, c.pd]
def keptOk (L : Qd.Ln) (T : Qd.Tk) (vs : List Sc) : Bool := decide (vs.length = L.bx.length) && vs.zipIdx.all fun p => accGap L T p.2 p.1.1
def AV.b {L : Qd.Ln} {T : Qd.Tk} : AV L T → Bool
  | .kept vs _ => keptOk L T vs
  | .brk v c => Qp.brk L T v.1 c
  | _ => false
structure AA where
  L : Qd.Ln
  T : Qd.Tk
  hL : Qd.LnOk L
  hT : Qd.TkOk T
  a : AV L T
def pre_accepts (K : PySem.W.Frag) (_ : Option Addr) (a : AA) : List Pd := [rowP K a.L, talkP K a.T, a.a.pd]
def out_accepts (K : PySem.W.Frag) (a : AA) : Pd := blP a.a.b
theorem canKept : PyData.canLay0 (.str "kept") = true := by decide +kernel
theorem canBroken : PyData.canLay0 (.str "broken") = true := by decide +kernel
theorem ok_accepts (Y : Kit K mg) : Dfn P w K mg base 9 "accepts" ["row", "talk", "value"] (spF (pre_accepts K) (out_accepts K)) := by
  obtain ⟨fd, F⟩ := Y.def_ 27 (d := d_accepts)
  have S : FnScope ["row", "talk", "value", "box", "found"] ["row", "talk", "value"] (defScope s_accepts) := ⟨rfl, rfl, rfl, by decide +kernel, rfl, by decide +kernel, by decide +kernel⟩
  refine ⟨_, fd, Y.glo 27, F.kp, (F.bindsN fun _ _ _ _ _ _ us hl => match us, hl with | [_, _, _], _ => rfl), ?_⟩
  refine fn_ty (N := ["row", "talk", "value", "box", "found"]) (Fall := False) F S (fun _ _ => rfl) (fun h => h.elim) fun cdv A outer s H E hr => ⟨_, (pss_cons (ps_if (PW.pt (pw_or (pt_not (pt_val (pe_callB (kIs K rfl) rfl (Y.free 69) boot_isinstance (pa_cons (pv 2) (pa_cons (pe_ty (Y.free 74) boot_tuple) pa_nil))))) (pw_or (pt_cmpR op_lt (pe_callB (kLen K rfl) rfl (Y.free 62) boot_len (pa_cons (pv 2) pa_nil)) pe_int (nomark _)) (pw_or1 (pt_not (pt_val (pe_callB (kIs K rfl) rfl (Y.free 69) boot_isinstance (pa_cons (pe_ix (kIx K rfl (hu_of hr)) (pv 2) pe_int (fun _ _ => rfl)) (pa_cons (pe_ty (Y.free 72) boot_str) pa_nil))))))))) (pss_one (ps_ret pe_bl)) pss_nil) (pss_cons (ps_if (pt_cmpR (kEq K rfl hr.units) (pe_ix (kIx K rfl (hu_of hr)) (pv 2) pe_int (fun _ _ => rfl)) pe_str (nomark _)) (pss_one (ps_ret (pe_and (pe_cmpR (kEq K rfl hr.units) (pe_callB (kLen K rfl) rfl (Y.free 62) boot_len (pa_cons (pv 2) pa_nil)) pe_int (nomark _)) (pe_one (pe_dfn (ok_accepts_broken Y) hr (pa_cons (pv 0) (pa_cons (pv 1) (pa_cons (pe_ix (kIx K rfl (hu_of hr)) (pv 2) pe_int (fun _ _ => rfl)) (pa_cons (pe_ix (kIx K rfl (hu_of hr)) (pv 2) pe_int (fun _ _ => rfl)) pa_nil))))))))) pss_nil) (pss_cons (ps_if (PW.pt (pw_or (pt_cmpR (kNe K rfl hr.units) (pe_ix (kIx K rfl (hu_of hr)) (pv 2) pe_int (fun _ _ => rfl)) pe_str (nomark _)) (pw_or (pt_cmpR (kNe K rfl hr.units) (pe_callB (kLen K rfl) rfl (Y.free 62) boot_len (pa_cons (pv 2) pa_nil)) pe_int (nomark _)) (pw_or (pt_not (pt_val (pe_callB (kIs K rfl) rfl (Y.free 69) boot_isinstance (pa_cons (pe_ix (kIx K rfl (hu_of hr)) (pv 2) pe_int (fun _ _ => rfl)) (pa_cons (pe_ty (Y.free 74) boot_tuple) pa_nil))))) (pw_or1 (pt_cmpR (kNe K rfl hr.units) (pe_callB (kLen K rfl) rfl (Y.free 62) boot_len (pa_cons (pe_ix (kIx K rfl (hu_of hr)) (pv 2) pe_int (fun _ _ => rfl)) pa_nil)) (pe_lenO (ok_Row_len Y) hr (Y.free 62) (pa_cons (pv 0) pa_nil)) (nomark _))))))) (pss_one (ps_ret pe_bl)) pss_nil) (pss_one (ps_ret (pe_callB (kAll K rfl rfl) rfl (Y.free 66) boot_all (pa_cons (pe_lc rfl S.nd (kEn K rfl rfl (Y.free 65) (pa_cons (pe_ix (kIx K rfl (hu_of hr)) (pv 2) pe_int (fun _ _ => rfl)) pa_nil)) (blkOk_by (N := ["row", "talk", "value", "box", "found"]) (sc := defScope s_accepts) (own := [("box", 3), ("found", 4)]) (by decide +kernel)) (fun _ _ _ _ _ => (kGt K rfl 2 rfl (pgs_cons (pg_name S.nd (i := 3) rfl (Or.inl rfl) (Or.inr rfl)) (pgs_cons (pg_name S.nd (i := 4) rfl (Or.inl rfl) (Or.inr rfl)) pgs_nil)))) (fun _ _ _ _ _ => pts_nil) (fun _ _ _ _ _ => (pe_dfn (ok_accepts_gap Y) hr (pa_cons (pv 0) (pa_cons (pv 1) (pa_cons (pv 3) (pa_cons (pv 4) pa_nil))))))) pa_nil))))))), fun so a => ?_⟩
  obtain ⟨L, T, hL, hT, v⟩ := a
  have hL : Qd.LnOk L := hL
  have h4 := hL.n4
  -- a tuple of a word and something more passes the first test
  have first : ∀ (Γ : Qt.Ctx) (w : Str) (P : Pd) (Ps : List Pd), Γ.sl[2]? = some (some (tupP (strP w :: P :: Ps))) → EvT so (tOr (tNot (tB (tCB (rIsQ K) (tCons (tVar 2) (tCons (tC (.ty "tuple")) tNil))))) (tOr (tTest (tOp (rI0 fun i j => .bl (decide (i < j))) (tCB (rLenU K) (tCons (tVar 2) tNil)) (tC (.int 2)))) (tNot (tB (tCB (rIsQ K) (tCons (tOp (rIxU K) (tVar 2) (tC (.int 0))) (tCons (tC (.ty "str")) tNil))))))) Γ false := fun Γ w P Ps h =>
    EvT.eq (et_or (et_not (et_val (ev_isi (P := tupP (strP w :: P :: Ps)) (ev_var h)))) fun _ => et_or (et_test (ev_rI0 (ev_lenT (Ps := strP w :: P :: Ps) (ev_var h)) ev_val)) fun _ => et_not (et_val (ev_isi (P := strP w) (ev_ixT (n := 0) (Ps := strP w :: P :: Ps) (ev_var h) ev_val rfl rfl)))) (by
      rw [decide_eq_false (by simp only [List.length_cons]; omega)]
      rfl)
  have word : ∀ (Γ : Qt.Ctx) (w : Str) (P : Pd) (Ps : List Pd), Γ.sl[2]? = some (some (tupP (strP w :: P :: Ps))) → PyData.canLay0 (.str w) = true → EvT so (tTest (tOp (rEqD K) (tOp (rIxU K) (tVar 2) (tC (.int 0))) (tC (.str "broken")))) Γ (w == Str.ofString "broken") := fun Γ w P Ps h hc =>
    et_test (ev_eqStr (ev_ixT (n := 0) (Ps := strP w :: P :: Ps) (ev_var h) ev_val rfl rfl) ev_val hc canBroken)
  have wordK : ∀ (Γ : Qt.Ctx) (w : Str) (P : Pd) (Ps : List Pd), Γ.sl[2]? = some (some (tupP (strP w :: P :: Ps))) → PyData.canLay0 (.str w) = true → EvT so (tTest (tOp (rNeD K) (tOp (rIxU K) (tVar 2) (tC (.int 0))) (tC (.str "kept")))) Γ (!(w == Str.ofString "kept")) := fun Γ w P Ps h hc =>
    et_test (ev_neStr (ev_ixT (n := 0) (Ps := strP w :: P :: Ps) (ev_var h) ev_val rfl rfl) ev_val hc canKept)
  have kb : (Str.ofString "kept" == Str.ofString "broken") = false := by decide +kernel
  have kk : (Str.ofString "kept" == Str.ofString "kept") = true := by decide +kernel
  have bb : (Str.ofString "broken" == Str.ofString "broken") = true := by decide +kernel
  cases v with
  | bad P t h h2 => exact es_guard (c := true) (EvT.eq (et_or (b := false) (et_not (et_val (ev_isi (P := P) (ev_var rfl)))) fun z => absurd z (by decide)) rfl) (fun _ => es_ret ev_val (Le.refl _)) fun z => absurd z (by decide)
  | short Ps h =>
    refine es_guard (c := true) (EvT.eq (et_or (et_not (et_val (ev_isi (P := tupP Ps) (ev_var rfl)))) fun _ => et_or (b := false) (et_test (ev_rI0 (i := (Ps.length : Nat)) (j := 2) (ev_lenT (Ps := Ps) (ev_var rfl)) ev_val)) fun z => absurd z ?_) ?_) (fun _ => es_ret ev_val (Le.refl _)) fun z => absurd z (by decide)
    · rw [decide_eq_true (by omega)]
      decide
    · rw [decide_eq_true (by omega)]
      rfl
  | word w P Ps hc hb hk =>
    refine es_skip (first _ w P Ps rfl) (es_skip (EvT.eq (word _ w P Ps rfl hc) hb) ?_)
    exact es_guard (c := true) (EvT.eq (et_or (b := false) (wordK _ w P Ps rfl hc) fun z => absurd z (by rw [hk]; decide)) (by rw [hk]; rfl)) (fun _ => es_ret ev_val (Le.refl _)) fun z => absurd z (by decide)
  | keptLen P Ps h =>
    refine es_skip (first _ _ P Ps rfl) (es_skip (EvT.eq (word _ _ P Ps rfl canKept) kb) ?_)
    refine es_guard (c := true) (EvT.eq (et_or (wordK _ _ P Ps rfl canKept) fun _ => et_or (b := false) (et_test (ev_neI (ev_lenT (Ps := strP "kept" :: P :: Ps) (ev_var rfl)) ev_val)) fun z => absurd z ?_) ?_) (fun _ => es_ret ev_val (Le.refl _)) fun z => absurd z (by decide)
    · rw [decide_eq_false (by simp only [List.length_cons]; omega)]
      decide
    · rw [decide_eq_false (by simp only [List.length_cons]; omega), kk]
      rfl
  | keptBad P t h h2 =>
    refine es_skip (first _ _ P [] rfl) (es_skip (EvT.eq (word _ _ P [] rfl canKept) kb) ?_)
    refine es_guard (c := true) (EvT.eq (et_or (wordK _ _ P [] rfl canKept) fun _ => et_or (et_test (ev_neI (ev_lenT (Ps := [strP "kept", P]) (ev_var rfl)) ev_val)) fun _ => et_or (b := false) (et_not (et_val (ev_isi (P := P) (ev_ixT (n := 1) (Ps := [strP "kept", P]) (ev_var rfl) ev_val rfl rfl)))) fun z => absurd z (by decide)) ?_) (fun _ => es_ret ev_val (Le.refl _)) fun z => absurd z (by decide)
    rw [kk]
    rfl
  | kept vs hv =>
    let W : Pd := tupP (vs.map fun v => valP v.1)
    refine es_skip (first _ _ W [] rfl) (es_skip (EvT.eq (word _ _ W [] rfl canKept) kb) ?_)
    have h1 : ∀ (Γ : Qt.Ctx), Γ.sl[2]? = some (some (tupP [strP "kept", W])) → Ev so (tOp (rIxU K) (tVar 2) (tC (.int 1))) Γ W := fun Γ h => ev_ixT (n := 1) (Ps := [strP "kept", W]) (ev_var h) ev_val rfl rfl
    refine es_guard (c := !decide (vs.length = L.bx.length)) (EvT.eq (et_or (wordK _ _ W [] rfl canKept) fun _ => et_or (et_test (ev_neI (ev_lenT (Ps := [strP "kept", W]) (ev_var rfl)) ev_val)) fun _ => et_or (et_not (et_val (ev_isi (P := W) (h1 _ rfl)))) fun _ => et_test (ev_neI (ev_lenT (Ps := vs.map fun v => valP v.1) (h1 _ rfl)) (ev_lenO (a := L) (n := L.bx.length) (ev_var rfl) rfl rfl (by omega)))) ?_) (fun hc => ?_) fun hc => ?_
    · rw [kk, List.length_map]
      have e : decide ((vs.length : Int) = (L.bx.length : Int)) = decide (vs.length = L.bx.length) := decide_eq_decide.mpr (by omega)
      rw [e]
      cases decide (vs.length = L.bx.length) <;> rfl
    · refine es_ret ev_val (Le.of_eq ?_)
      rw [Bool.not_eq_true'] at hc
      show blP false = blP (decide (vs.length = L.bx.length) && _)
      rw [hc]
      rfl
    · rw [Bool.not_eq_false'] at hc
      have hl := of_decide_eq_true hc
      refine es_ret (ev_allMap (g := fun p : Sc × Nat => accGap L T p.2 p.1.1) (ev_lc0 vs.zipIdx (fun p => tupP [intP (p.2 : Int), valP p.1.1]) (fun p => blP (accGap L T p.2 p.1.1)) (ei_enumT (l := vs) (f := fun v => valP v.1) (h1 _ rfl)) rfl (sz (by rw [List.length_zipIdx]; omega)) (fun _ h => h) (fun _ _ => egTup2 rfl rfl) fun p hp => ?_)) (Le.of_eq ?_)
      · have hb : p.2 < L.bx.length := by
          have z := (List.mem_zipIdx hp).2.1
          omega
        exact ev_call (a := (⟨L, T, p.2, p.1, hL, hT, hb⟩ : AG)) (ea_cons (ev_var rfl) (ea_cons (ev_var rfl) (ea_cons (ev_var rfl) (ea_cons (ev_var rfl) ea_nil))))
      · show blP _ = blP (decide (vs.length = L.bx.length) && _)
        rw [hc, Bool.true_and]
  | brkLen P Ps h =>
    refine es_skip (first _ _ P Ps rfl) (es_guard (c := true) (EvT.eq (word _ _ P Ps rfl canBroken) bb) (fun _ => ?_) fun z => absurd z (by decide))
    refine es_ret (ev_andV (b := false) (ev_eqI (ev_lenT (Ps := strP "broken" :: P :: Ps) (ev_var rfl)) ev_val) fun z => absurd z ?_) (Le.of_eq ?_)
    · rw [decide_eq_false (by simp only [List.length_cons]; omega)]
      decide
    · rw [Bool.and_false]
      rfl
  | brk v c =>
    refine es_skip (first _ _ (valP v.1) [c.pd] rfl) (es_guard (c := true) (EvT.eq (word _ _ (valP v.1) [c.pd] rfl canBroken) bb) (fun _ => ?_) fun z => absurd z (by decide))
    refine es_ret (ev_andV (ev_eqI (ev_lenT (Ps := [strP "broken", valP v.1, c.pd]) (ev_var rfl)) ev_val) fun _ => ev_call (a := (⟨L, T, hL, hT, v, c⟩ : AB)) (ea_cons (ev_var rfl) (ea_cons (ev_var rfl) (ea_cons (ev_ixT (n := 1) (Ps := [strP "broken", valP v.1, c.pd]) (ev_var rfl) ev_val rfl rfl) (ea_cons (ev_ixT (n := 2) (Ps := [strP "broken", valP v.1, c.pd]) (ev_var rfl) ev_val rfl rfl) ea_nil))))) (Le.of_eq ?_)
    rfl

end
end Qp
set_option Elab.async false
set_option linter.all false
set_option maxRecDepth 100000
set_option maxHeartbeats 4000000
namespace Qt
open PySem PySem.Spec PyProof.Rows L2 Qr
/-! ### instances are made -/
/-- an __init__'s promise: the instance at x, hidden, gets the fields ks -/
def spI {α : Type} (C : Addr) (pre : Option Addr → α → List Pd) (ks : α → List (Str × Pd)) : Sp := fun vs H Q _ => ∃ (so : Option Addr) (a : α) (Z : Addr → Prop) (x dx : Addr) (us : List V), vs = .ref x :: us ∧ H x = some (.ins C dx []) ∧ (∀ s, so = some s → Z s ∧ SrcAt H s) ∧ Tr Z H ∧ ¬ Z x ∧
  AllP (pre so a) us (vis (fun b => Z b ∨ b = x) H) ∧
  ∀ (H' : Hp) (fs : List (Str × V)), (∀ b u, b ≠ x → so ≠ some b → H b = some u → H' b = some u) → (∀ s, so = some s → SrcAt H' s) → H' x = some (.ins C dx fs) → fs.map (·.1) = (ks a).map (·.1) → AllP ((ks a).map (·.2)) (fs.map (·.2)) (vis (fun b => Z b ∨ b = x) H') → Q .non H'
section
variable {so : Option Addr} {Z : Addr → Prop} {V0 : Hp} {O : Addr → Prop} {Γ : Ctx} {σ : L2.St} {H : Hp}
/-- a hidden thing of another is written -/
theorem Sta.writeZ (S : Sta so Z V0 O Γ σ H) {p : Addr} {u : HO} (o : HO) (hZ : Z p) (hs : so ≠ some p) (hO : ¬ O p) (hp : H p = some u) (hu : ∀ od x, u ≠ .frz od x) (ho : ∀ xs, o ≠ .tup xs) : Sta so Z (vis (fun b => b = p) V0) O Γ σ (L2.upd H p o) := by
  have ev : vis (hid Z O) (L2.upd H p o) = vis (hid Z O) H := vis_upd (.inl hZ)
  refine ⟨fun b v e => ?_, S.sz, fun b h => ?_, fun b e => ?_, S.len, fun i P e => ?_, fun i Ps e => ?_, fun i ls f e => ?_⟩
  · obtain ⟨e1, e2⟩ := vis_some.mp e
    obtain ⟨a, c, d⟩ := S.v0 b v e2
    exact ⟨(upd_ne e1).trans a, c, d⟩
  · obtain ⟨v, e, n⟩ := S.tr b h
    by_cases hb : b = p
    · exact ⟨o, by rw [hb]; exact upd_same, ho⟩
    · exact ⟨v, (upd_ne hb).trans e, n⟩
  · exact (S.sr b e).upd (fun z => hs (by rw [← z]; exact e)) hp hu
  · obtain ⟨v, a, c⟩ := S.sl i P e
    exact ⟨v, a, by rw [ev]; exact c⟩
  · obtain ⟨p2, xs, a, b, c, d, f⟩ := S.ow i Ps e
    exact ⟨p2, xs, a, b, c, (upd_ne (fun z => c (by rw [z]; exact hZ))).trans d, by rw [ev]; exact f⟩
  · obtain ⟨p2, xs, a, b, c, d, f'⟩ := S.dc i ls f e
    exact ⟨p2, xs, a, b, c, (upd_ne (fun z => c (by rw [z]; exact hZ))).trans d, by rw [ev]; exact f'⟩
/-- an instance under construction -/
structure InsAt (so : Option Addr) (Z O : Addr → Prop) (Γ : Ctx) (H : Hp) (C x dx : Addr) (fs : List (Str × V)) (ks : List (Str × Pd)) : Prop where
  self : Γ.sl[0]? = some (some (valP (.ref x)))
  z : Z x
  s : so ≠ some x
  o : ¬ O x
  ob : H x = some (.ins C dx fs)
  nm : fs.map (·.1) = ks.map (·.1)
  vl : AllP (ks.map (·.2)) (fs.map (·.2)) (vis (hid Z O) H)
theorem putF_new {f : Str} {v : V} : ∀ {fs : List (Str × V)}, f ∉ fs.map (·.1) → putF f v fs = fs ++ [(f, v)]
  | [], _ => rfl
  | (g, x) :: r, h => by
    have hg : ¬ g = f := fun z => h (by rw [z]; exact List.mem_cons_self)
    show (if g = f then (g, v) :: r else (g, x) :: putF f v r) = _
    rw [if_neg hg, putF_new fun z => h (List.mem_cons_of_mem _ z)]
    rfl
/-- self.f = e -/
theorem fld_step {K : PySem.W.Frag} {C x dx : Addr} {fs : List (Str × V)} {ks : List (Str × Pd)} {tv : TE} {P : Pd} {f : Str} {D : Ends} (S : Sta so Z V0 O Γ σ H) (I : InsAt so Z O Γ H C x dx fs ks) (c : Cls K C) (n : NoAttr K C f) (hf : f ∉ ks.map (·.1)) (hz : ks.length < 900) (hv : Ev so tv Γ P)
    (k : ∀ H' fs' V1, Sta so Z V1 O Γ σ H' → InsAt so Z O Γ H' C x dx fs' (ks ++ [(f, P)]) → (∀ b u, b ≠ x → V0 b = some u → V1 b = some u) → D.nx σ H') : sFld K (tVar 0) tv f D σ H := by
  refine hv Z V0 O σ H _ S fun y H1 m py => ?_
  have S1 := S.mv m
  obtain ⟨v0, e1, e2⟩ := S1.sl 0 _ I.self
  obtain rfl : v0 = .ref x := e2
  have hx : H1 x = some (.ins C dx fs) := m.keep x _ I.s I.ob
  have hl : fs.length = ks.length := by
    have z := congrArg List.length I.nm
    simpa using z
  refine ⟨.ref x, e1, x, C, dx, fs, rfl, hx, c, n, by omega, ?_⟩
  have hn : f ∉ fs.map (·.1) := by
    rw [I.nm]
    exact hf
  rw [putF_new hn]
  have ev : vis (hid Z O) (L2.upd H1 x (.ins C dx (fs ++ [(f, y)]))) = vis (hid Z O) H1 := vis_upd (.inl I.z)
  refine k _ _ _ (S1.writeZ (.ins C dx (fs ++ [(f, y)])) I.z I.s I.o hx (fun _ _ z => nomatch z) fun _ z => nomatch z) ⟨I.self, I.z, I.s, I.o, upd_same, ?_, ?_⟩ fun b u hb e => vis_some.mpr ⟨hb, e⟩
  · rw [List.map_append, List.map_append, I.nm]
    rfl
  · rw [ev, List.map_append, List.map_append]
    exact AllP.append (I.vl.st (S.grow m)) ⟨py, trivial⟩
end
section
variable {so : Option Addr} {Γ : Ctx} {t tk : TA} {α : Type} {C : Addr} {pre : Option Addr → α → List Pd} {ks : α → List (Str × Pd)} {R : Pd}
/-- what an instance is of -/
def MadeP (C : Addr) (ks : List (Str × Pd)) (R : Pd) : Prop := ∀ (x dx : Addr) (fs : List (Str × V)) (V : Hp), V x = some (.ins C dx fs) → fs.map (·.1) = ks.map (·.1) → AllP (ks.map (·.2)) (fs.map (·.2)) V → R.p (.ref x) V
theorem make_core {Z : Addr → Prop} {V0 : Hp} {O : Addr → Prop} {σ : L2.St} {H1 : Hp} {us : List V} {K : VK} {a : α} (S : Sta so Z V0 O Γ σ H1) (hr : MadeP C (ks a) R) (p : AllP (pre so a) us (vis (hid Z O) H1)) (k : ∀ v H', Mv so H1 H' → R.p v (vis (hid Z O) H') → K v H')
    (x dx : Addr) (hx : H1 x = none) (hdx : H1 dx = none) (hne : dx ≠ x) : spI C pre ks (.ref x :: us) (upd (upd H1 dx (.own x)) x (.ins C dx [])) (fun v H2 => v = .non ∧ K (.ref x) H2) E0 := by
  have h1 : Same H1 (upd H1 dx (.own x)) := same_new hdx
  have hx1 : upd H1 dx (.own x) x = none := (upd_ne (Ne.symm hne)).trans hx
  have h2 : Same (upd H1 dx (.own x)) (upd (upd H1 dx (.own x)) x (.ins C dx [])) := same_new hx1
  have h12 := h1.trans h2
  have nx : ¬ hid Z O x := S.new hx
  refine ⟨so, a, hid Z O, x, dx, us, rfl, upd_same, fun s e => ⟨.inl (S.sz s e), (S.sr s e).st h12⟩, fun b hb => ?_, nx, p.st fun b u e => ?_, fun H' fs m1 m2 m3 m4 m5 => ⟨rfl, k _ H' ⟨fun b u hb e => ?_, fun b e _ => m2 b e⟩ (hr x dx fs _ (vis_some.mpr ⟨nx, m3⟩) m4 (m5.st (vis_mono (fun b u h _ z => h (.inl z)) fun b u _ e => e)))⟩⟩
  · obtain ⟨u, e, n⟩ := S.tr b hb
    exact ⟨u, h12 b u e, n⟩
  · obtain ⟨e1, e2⟩ := vis_some.mp e
    have nbx : b ≠ x := ne_of_none e2 hx
    exact vis_some.mpr ⟨fun z => z.elim e1 nbx, h12 b u e2⟩
  · refine m1 b u (fun z => ?_) hb (h12 b u e)
    rw [z, hx] at e
    cases e
theorem ev_make {a : α} (h : EvA so t Γ (pre so a)) (hr : MadeP C (ks a) R) : Ev so (tMake C (spI C pre ks) [] E0 t) Γ R := fun Z V0 O σ H K S k => h Z V0 O σ H _ S fun us H1 m p => fun x dx hx hdx hne => by
  rw [List.append_nil]
  exact make_core (S.mv m) hr p (fun v H' m2 q => k v H' (m.trans m2) q) x dx hx hdx hne
theorem ev_makeK {a : α} {Ps Qs : List Pd} {n m : Nat} (h : EvA so t Γ Ps) (hk : EvA so tk Γ Qs) (hp : pre so a = Ps ++ Qs) (hn : Ps.length = n) (hm : Qs.length = m) (hr : MadeP C (ks a) R) : Ev so (tMakeK C n m (spI C pre ks) (fun vs zs => vs ++ zs) E0 t tk) Γ R := fun Z V0 O σ H K S k => h Z V0 O σ H _ S fun us H1 m1 p1 => hk Z V0 O σ H1 _ (S.mv m1) fun zs H2 m2 p2 =>
  ⟨p1.length.trans hn, p2.length.trans hm, fun x dx hx hdx hne => make_core ((S.mv m1).mv m2) hr (by rw [hp]; exact AllP.append (p1.st ((S.mv m1).grow m2)) p2) (fun v H' m3 q => k v H' ((m1.trans m2).trans m3) q) x dx hx hdx hne⟩
/-- an __init__ of the text: a body that ends with the fields -/
theorem init_ty {P : Program} {w : World} {K : PySem.W.Frag} {mg : Str → Option Value} {base : Heap} {x qual : Str} {params : Arguments} {body : List Stmt} {scope : Scope} {dvs : List V} {kws : List (Str × V)} {f : Addr} {fd : FuncData} {N ps : List Str} {k : Nat}
    (F : FunD K x qual params body scope dvs kws f fd) (S : FnScope N ps scope) (len : ∀ so a, (pre so a).length + 1 = ps.length)
    (hb : ∀ (cdv : Value) (A : Around) (outer : List Env) (s : Shared) (H : Hp) (E : XK), Room k (A.deeper (envOfC qual scope s.heap.objs.size f cdv)) →
      ∃ t, PSs (cxOf CX0 P w K mg base N qual scope f cdv A outer s H E).nox body t ∧ ∀ (so : Option Addr) (a : α) (Z : Addr → Prop) (V0 : Hp) (σ : L2.St) (H : Hp) (x dx : Addr) (D : Ends),
        Sta so Z V0 none' (ctx0 N (valP (.ref x) :: pre so a)) σ H → InsAt so Z none' (ctx0 N (valP (.ref x) :: pre so a)) H C x dx [] [] → V0 x = some (.ins C dx []) →
        (∀ Γ' O' σ' H' fs V1, Sta so Z V1 O' Γ' σ' H' → InsAt so Z O' Γ' H' C x dx fs (ks a) → (∀ b u, b ≠ x → V0 b = some u → V1 b = some u) → D.nx σ' H') → t D σ H) : FnOk P w K mg base CX0 (k + 1) f fd ps (spI C pre ks) := by
  refine F.ok S (fun vs H Q E ⟨so, a, Z, x, dx, us, e, _, _, _, _, p, _⟩ => ?_) fun cdv A outer s H vs Q E hr ⟨so, a, Z, x, dx, us, e, hx, h1, h2, nx, p, k2⟩ => ?_
  · rw [e, List.length_cons, p.length]
    exact len so a
  subst e
  obtain ⟨t, ht, he⟩ := hb cdv A outer s H E hr
  let Z' : Addr → Prop := fun b => Z b ∨ b = x
  have S0 : Sta so Z' (here so none' H) none' (ctx0 N (valP (.ref x) :: pre so a)) (L2.start N (.ref x :: us)) H := sta0 (fun s e => ⟨.inl (h1 s e).1, (h1 s e).2⟩) (fun b hb => by
    rcases hb with hb | hb
    · exact h2 b hb
    · exact ⟨.ins C dx [], by rw [hb]; exact hx, fun _ z => nomatch z⟩) ⟨rfl, p⟩
  have hsx : so ≠ some x := fun z => nx (h1 x z).1
  refine ⟨t, ht.nox, he so a Z' _ _ H x dx _ S0 ⟨rfl, .inr rfl, hsx, fun z => z, hx, rfl, trivial⟩ (vis_some.mpr ⟨fun z => z.elim hsx fun y => y, hx⟩) fun Γ' O' σ' H' fs V1 S' I' hV => ?_⟩
  refine k2 H' fs (fun b u hb hs e => (S'.v0 b u (hV b u hb (vis_some.mpr ⟨fun z => z.elim hs fun y => y, e⟩))).1) (fun s e => S'.sr s e) I'.ob I'.nm (I'.vl.st (vis_mono (fun b u h _ z => h (.inl z)) fun b u _ e => e))
/-- behind checks -/
theorem InsAt.after {Z : Addr → Prop} {V0 : Hp} {O O' : Addr → Prop} {Γ' : Ctx} {σ' : L2.St} {H H' : Hp} {x dx : Addr} (I : InsAt so Z O Γ H C x dx [] []) (e : V0 x = some (.ins C dx [])) (S' : Sta so Z V0 O' Γ' σ' H') (hs : Γ'.sl[0]? = some (some (valP (.ref x)))) : InsAt so Z O' Γ' H' C x dx [] [] :=
  ⟨hs, I.z, I.s, (S'.v0 x _ e).2.2, (S'.v0 x _ e).1, rfl, trivial⟩
end
end Qt
set_option Elab.async false
set_option linter.all false
set_option maxRecDepth 100000
set_option maxHeartbeats 4000000
namespace Qp
open PySem PySem.Spec PyProof.Rows L2 Qr Qt Qf RZ
section
variable {P : Program} {w : World} {K : PySem.W.Frag} {mg : Str → Option Value} {base : Heap}

theorem ok_is_link (Y : Kit K mg) : Dfn P w K mg base 3 "is_link" ["value"] (spF (pre_is_link K) (out_is_link K)) := by
  obtain ⟨fd, F⟩ := Y.def_ 28 (d := d_is_link)
  have S : FnScope ["value"] ["value"] (defScope s_is_link) := ⟨rfl, rfl, rfl, by decide +kernel, rfl, by decide +kernel, by decide +kernel⟩
  refine ⟨_, fd, Y.glo 28, F.kp, (F.bindsN fun _ _ _ _ _ _ us hl => match us, hl with | [_], _ => rfl), ?_⟩
  refine fn_ty (N := ["value"]) (Fall := False) F S (fun _ _ => rfl) (fun h => h.elim) fun cdv A outer s H E hr => ⟨_, (pss_cons (ps_if (PW.pt (pw_or (pt_not (pt_val (pe_callB (kIs K rfl) rfl (Y.free 69) boot_isinstance (pa_cons (pv 0) (pa_cons (pe_ty (Y.free 74) boot_tuple) pa_nil))))) (pw_or (pt_cmpR (kNe K rfl hr.units) (pe_callB (kLen K rfl) rfl (Y.free 62) boot_len (pa_cons (pv 0) pa_nil)) pe_int (nomark _)) (pw_or1 (pt_not (pt_val (pe_dfn (ok_is_between Y) hr (pa_cons (pe_ix (kIx K rfl (hu_of hr)) (pv 0) pe_int (fun _ _ => rfl)) (pa_cons pe_int (pa_cons (pe_globI (Y.int 80)) pa_nil)))))))))) (pss_one (ps_ret pe_bl)) pss_nil) (pss_one (ps_ret (pe_dfn (ok_is_between Y) hr (pa_cons (pe_ix (kIx K rfl (hu_of hr)) (pv 0) pe_int (fun _ _ => rfl)) (pa_cons (pe_ix (kIx K rfl (hu_of hr)) (pv 0) pe_int (fun _ _ => rfl)) (pa_cons (pe_globI (Y.int 80)) pa_nil))))))), fun so a => ?_⟩
  obtain ⟨x, y⟩ := a
  have h0 : ∀ (Γ : Qt.Ctx), Γ.sl[0]? = some (some (lkP (x, y))) → Ev so (tOp (rIxU K) (tVar 0) (tC (.int 0))) Γ (intP x) := fun Γ h => ev_ixT (n := 0) (Ps := [intP x, intP y]) (ev_var h) ev_val rfl rfl
  have h1 : ∀ (Γ : Qt.Ctx), Γ.sl[0]? = some (some (lkP (x, y))) → Ev so (tOp (rIxU K) (tVar 0) (tC (.int 1))) Γ (intP y) := fun Γ h => ev_ixT (n := 1) (Ps := [intP x, intP y]) (ev_var h) ev_val rfl rfl
  refine es_guard (et_or (et_not (et_val (ev_isi (P := tupP [intP x, intP y]) (ev_var rfl)))) fun _ => et_or (et_test (ev_neI (ev_lenT (Ps := [intP x, intP y]) (ev_var rfl)) ev_val)) fun _ => et_not (et_val (ev_call (a := (scI x, 0, 1000)) (ea_cons (h0 _ rfl) (ea_cons ev_val (ea_cons ev_val ea_nil)))))) (fun hc => ?_) fun hc => ?_
  · have hc : (!(decide ((0 : Int) ≤ x) && decide (x ≤ 1000))) = true := hc
    refine es_ret ev_val (Le.of_eq ?_)
    rw [Bool.not_eq_true'] at hc
    show blP false = blP ((decide (0 ≤ x) && decide (x ≤ 1000)) && _)
    rw [hc]
    rfl
  · have hc : (!(decide ((0 : Int) ≤ x) && decide (x ≤ 1000))) = false := hc
    rw [Bool.not_eq_false'] at hc
    refine es_ret (ev_call (a := (scI y, x, 1000)) (ea_cons (h1 _ rfl) (ea_cons (h0 _ rfl) (ea_cons ev_val ea_nil)))) (Le.of_eq ?_)
    show blP (decide (x ≤ y) && decide (y ≤ 1000)) = blP ((decide (0 ≤ x) && decide (x ≤ 1000)) && _)
    rw [hc, Bool.true_and]
theorem allT {α : Type} (l : List α) : (l.all fun _ => true) = true := List.all_eq_true.mpr fun _ _ => rfl
theorem ev_isBox (Y : Kit K mg) {B : Qd.Bx} {so : Option Addr} {Γ : Qt.Ctx} {te : TE} (ha : Ev so te Γ (boxP K B)) : Ev so (tCB (rIsQ K) (tCons te (tCons (tC (.ref (He.ga K "Box"))) tNil))) Γ (blP true) :=
  ev_cb (ea_cons ha (ea_cons ev_val ea_nil)) fun xs W H K2 _ q k => by
    obtain ⟨x, c, rfl, px, pc⟩ := allP2 q
    obtain rfl : c = .ref (He.ga K "Box") := pc
    obtain ⟨b, dx, y, e, h, _⟩ := px
    obtain ⟨c1, c2, c3, c4⟩ := boxB_ok Y.box
    subst e
    refine ⟨.ref b, .ref (He.ga K "Box"), .ref (He.ga K "Box"), .ref (He.ga K "Box"), true, rfl, .own _, .x (.base (.ins (vis_some.mp h).2 (Y.cls 83) c1 c2 c3 c4)), ?_, k _ H (Same.refl H) rfl⟩
    unfold PySem.W.kitOne
    rw [if_pos (beq_self_eq_true _)]
def pre_are_boxes (K : PySem.W.Frag) (_ : Option Addr) (a : {l : List Qd.Bx // 1 ≤ l.length ∧ l.length ≤ 4}) : List Pd := [lstP (a.1.map (boxP K))]
def out_are_boxes (K : PySem.W.Frag) (a : {l : List Qd.Bx // 1 ≤ l.length ∧ l.length ≤ 4}) : Pd := blP true
theorem ok_are_boxes (Y : Kit K mg) : Dfn P w K mg base 1 "are_boxes" ["value"] (spF (pre_are_boxes K) (out_are_boxes K)) := by
  obtain ⟨fd, F⟩ := Y.def_ 29 (d := d_are_boxes)
  have S : FnScope ["value", "box"] ["value"] (defScope s_are_boxes) := ⟨rfl, rfl, rfl, by decide +kernel, rfl, by decide +kernel, by decide +kernel⟩
  refine ⟨_, fd, Y.glo 29, F.kp, (F.bindsN fun _ _ _ _ _ _ us hl => match us, hl with | [_], _ => rfl), ?_⟩
  refine fn_ty (N := ["value", "box"]) (Fall := False) F S (fun _ _ => rfl) (fun h => h.elim) fun cdv A outer s H E hr => ⟨_, (pss_cons (ps_if (PW.pt (pw_or (pt_not (pt_val (pe_callB (kIsT K rfl) rfl (Y.free 69) boot_isinstance (pa_cons (pv 0) (pa_cons (pe_tup (pa_cons (pe_ty (Y.free 73) boot_list) (pa_cons (pe_ty (Y.free 74) boot_tuple) pa_nil))) pa_nil))))) (pw_or1 (pt_not (pt_chain op_le op_le pe_int (pe_callB (kLen K rfl) rfl (Y.free 62) boot_len (pa_cons (pv 0) pa_nil)) (pe_globI (Y.int 79))))))) (pss_one (ps_ret pe_bl)) pss_nil) (pss_one (ps_ret (pe_callB (kAll K rfl rfl) rfl (Y.free 66) boot_all (pa_cons (pe_lc rfl S.nd (kPL K rfl (pv 0)) (blkOk_by (N := ["value", "box"]) (sc := defScope s_are_boxes) (own := [("box", 1)]) (by decide +kernel)) (fun _ _ _ _ _ => (pg_name S.nd (i := 1) rfl (Or.inl rfl) (Or.inr rfl))) (fun _ _ _ _ _ => pts_nil) (fun _ _ _ _ _ => (pe_callB (kIs K rfl) rfl (Y.free 69) boot_isinstance (pa_cons (pv 1) (pa_cons (pe_glob (v := .ref (He.ga K "Box")) rfl (Y.glo 58) rfl) pa_nil))))) pa_nil))))), fun so a => ?_⟩
  obtain ⟨l, hl1, hl4⟩ := a
  have hl1 : 1 ≤ l.length := hl1
  have hl4 : l.length ≤ 4 := hl4
  refine es_skip (EvT.eq (et_or (et_not (et_val (ev_isiT (P := lstP (l.map (boxP K))) (ev_var rfl)))) fun _ => et_not (et_test (ev_chain (a := decide ((1 : Int) ≤ ((l.map (boxP K)).length : Int))) (b := decide (((l.map (boxP K)).length : Int) ≤ 4)) (P := intP 1) (P' := intP ((l.map (boxP K)).length : Int)) (Q := intP 4) ev_val (ev_lenL (ev_var rfl)) (fun _ => ev_val) (fun x y H K px py k => by exact ⟨_, _, px, py, k⟩) fun _ x y H K px py k => by exact ⟨_, _, px, py, k⟩))) ?_) ?_
  · rw [List.length_map, decide_eq_true (by omega), decide_eq_true (by omega)]
    rfl
  · refine es_ret (ev_allMap (g := fun _ => true) (ev_lc0 l (boxP K) (fun _ => blP true) (ei_list (ev_var rfl)) rfl (sz (by omega)) (fun _ h => h) (fun _ _ => egName rfl) fun B _ => ev_isBox Y (ev_var rfl))) (Le.of_eq ?_)
    show blP (l.all fun _ => true) = blP true
    rw [allT]
def pre_are_links (K : PySem.W.Frag) (_ : Option Addr) (a : {l : List (Int × Int) // (∀ k ∈ l, Qd.LkOk k) ∧ l.length ≤ 900}) : List Pd := [lstP (a.1.map lkP), intP (a.1.length : Int)]
def out_are_links (K : PySem.W.Frag) (a : {l : List (Int × Int) // (∀ k ∈ l, Qd.LkOk k) ∧ l.length ≤ 900}) : Pd := blP true
theorem ok_are_links (Y : Kit K mg) : Dfn P w K mg base 4 "are_links" ["value", "many"] (spF (pre_are_links K) (out_are_links K)) := by
  obtain ⟨fd, F⟩ := Y.def_ 30 (d := d_are_links)
  have S : FnScope ["value", "many", "link"] ["value", "many"] (defScope s_are_links) := ⟨rfl, rfl, rfl, by decide +kernel, rfl, by decide +kernel, by decide +kernel⟩
  refine ⟨_, fd, Y.glo 30, F.kp, (F.bindsN fun _ _ _ _ _ _ us hl => match us, hl with | [_, _], _ => rfl), ?_⟩
  refine fn_ty (N := ["value", "many", "link"]) (Fall := False) F S (fun _ _ => rfl) (fun h => h.elim) fun cdv A outer s H E hr => ⟨_, (pss_one (ps_ret (pe_and (pe_callB (kIsT K rfl) rfl (Y.free 69) boot_isinstance (pa_cons (pv 0) (pa_cons (pe_tup (pa_cons (pe_ty (Y.free 73) boot_list) (pa_cons (pe_ty (Y.free 74) boot_tuple) pa_nil))) pa_nil))) (pe_and (pe_cmpR (kEq K rfl hr.units) (pe_callB (kLen K rfl) rfl (Y.free 62) boot_len (pa_cons (pv 0) pa_nil)) (pv 1) (nomark _)) (pe_one (pe_callB (kAll K rfl rfl) rfl (Y.free 66) boot_all (pa_cons (pe_lc rfl S.nd (kPL K rfl (pv 0)) (blkOk_by (N := ["value", "many", "link"]) (sc := defScope s_are_links) (own := [("link", 2)]) (by decide +kernel)) (fun _ _ _ _ _ => (pg_name S.nd (i := 2) rfl (Or.inl rfl) (Or.inr rfl))) (fun _ _ _ _ _ => pts_nil) (fun _ _ _ _ _ => (pe_dfn (ok_is_link Y) hr (pa_cons (pv 2) pa_nil)))) pa_nil))))))), fun so a => ?_⟩
  obtain ⟨l, hk, hz⟩ := a
  have hz : l.length ≤ 900 := hz
  refine es_ret (ev_andV (ev_isiT (P := lstP (l.map lkP)) (ev_var rfl)) fun _ => ev_andV (ev_eqI (ev_lenL (Ps := l.map lkP) (ev_var rfl)) (ev_var rfl)) fun _ => ev_allMap (g := fun _ => true) (ev_lc0 l lkP (fun _ => blP true) (ei_list (ev_var rfl)) rfl (sz (by omega)) (fun _ h => h) (fun _ _ => egName rfl) fun k h => Ev.eq (ev_call (a := k) (ea_cons (ev_var rfl) ea_nil)) ?_)) (Le.of_eq ?_)
  · obtain ⟨h1, h2, h3⟩ := hk k h
    show blP ((decide (0 ≤ k.1) && decide (k.1 ≤ 1000)) && (decide (k.1 ≤ k.2) && decide (k.2 ≤ 1000))) = blP true
    rw [decide_eq_true h1, decide_eq_true h2, decide_eq_true h3, decide_eq_true (by omega)]
    rfl
  · rw [List.length_map, decide_eq_true rfl]
    show blP (true && (true && l.all fun _ => true)) = blP true
    rw [allT]
    rfl
abbrev TmA : Type := {x : List Int × Nat // Qd.TmOk x.1 ∧ x.2 ≤ x.1.length}
def pre_are_times (K : PySem.W.Frag) (_ : Option Addr) (a : TmA) : List Pd := [lstP (a.1.1.map fun n => intP n), intP (a.1.2 : Int)]
def out_are_times (K : PySem.W.Frag) (a : TmA) : Pd := blP true
theorem zip_up : ∀ {v : List Int}, v.Pairwise (· < ·) → ((v.zip (v.drop 1)).all fun p => decide (p.1 < p.2)) = true
  | [], _ => rfl
  | [x], _ => rfl
  | x :: y :: r, h => by
    have h1 := List.pairwise_cons.mp h
    have ih := zip_up h1.2
    show (decide (x < y) && ((y :: r).zip r).all fun p => decide (p.1 < p.2)) = true
    rw [decide_eq_true (h1.1 y List.mem_cons_self)]
    exact ih
theorem ok_are_times (Y : Kit K mg) : Dfn P w K mg base 3 "are_times" ["value", "least"] (spF (pre_are_times K) (out_are_times K)) := by
  obtain ⟨fd, F⟩ := Y.def_ 32 (d := d_are_times)
  have S : FnScope ["value", "least", "time", "one", "other"] ["value", "least"] (defScope s_are_times) := ⟨rfl, rfl, rfl, by decide +kernel, rfl, by decide +kernel, by decide +kernel⟩
  refine ⟨_, fd, Y.glo 32, F.kp, (F.bindsN fun _ _ _ _ _ _ us hl => match us, hl with | [_, _], _ => rfl), ?_⟩
  refine fn_ty (N := ["value", "least", "time", "one", "other"]) (Fall := False) F S (fun _ _ => rfl) (fun h => h.elim) fun cdv A outer s H E hr => ⟨_, (pss_cons (ps_if (PW.pt (pw_or (pt_not (pt_val (pe_callB (kIsT K rfl) rfl (Y.free 69) boot_isinstance (pa_cons (pv 0) (pa_cons (pe_tup (pa_cons (pe_ty (Y.free 73) boot_list) (pa_cons (pe_ty (Y.free 74) boot_tuple) pa_nil))) pa_nil))))) (pw_or1 (pt_not (pt_chain op_le op_le (pv 1) (pe_callB (kLen K rfl) rfl (Y.free 62) boot_len (pa_cons (pv 0) pa_nil)) (pe_globI (Y.int 81))))))) (pss_one (ps_ret pe_bl)) pss_nil) (pss_cons (ps_if (pt_not (pt_val (pe_callB (kAll K rfl rfl) rfl (Y.free 66) boot_all (pa_cons (pe_lc rfl S.nd (kPL K rfl (pv 0)) (blkOk_by (N := ["value", "least", "time", "one", "other"]) (sc := defScope s_are_times) (own := [("time", 2)]) (by decide +kernel)) (fun _ _ _ _ _ => (pg_name S.nd (i := 2) rfl (Or.inl rfl) (Or.inr rfl))) (fun _ _ _ _ _ => pts_nil) (fun _ _ _ _ _ => (pe_dfn (ok_is_between Y) hr (pa_cons (pv 2) (pa_cons pe_int (pa_cons (pe_globI (Y.int 78)) pa_nil)))))) pa_nil)))) (pss_one (ps_ret pe_bl)) pss_nil) (pss_one (ps_ret (pe_callB (kAll K rfl rfl) rfl (Y.free 66) boot_all (pa_cons (pe_lc rfl S.nd (kZip K rfl rfl (Y.free 64) (pa_cons (pv 0) (pa_cons (pe_slice (kSl K rfl) (pv 0) (po_some pe_int) po_none) pa_nil))) (blkOk_by (N := ["value", "least", "time", "one", "other"]) (sc := defScope s_are_times) (own := [("one", 3), ("other", 4)]) (by decide +kernel)) (fun _ _ _ _ _ => (kGt K rfl 2 rfl (pgs_cons (pg_name S.nd (i := 3) rfl (Or.inl rfl) (Or.inr rfl)) (pgs_cons (pg_name S.nd (i := 4) rfl (Or.inl rfl) (Or.inr rfl)) pgs_nil)))) (fun _ _ _ _ _ => pts_nil) (fun _ _ _ _ _ => (pe_cmpR op_lt (pv 3) (pv 4) (nomark _)))) pa_nil)))))), fun so a => ?_⟩
  obtain ⟨⟨v, n⟩, ⟨hv1, hv2, hv3⟩, hn⟩ := a
  have hv3 : v.length ≤ 60 := hv3
  have hn : n ≤ v.length := hn
  refine es_skip (EvT.eq (et_or (et_not (et_val (ev_isiT (P := lstP (v.map fun n => intP n)) (ev_var rfl)))) fun _ => et_not (et_test (ev_chain (a := decide ((n : Int) ≤ ((v.map fun n => intP n).length : Int))) (b := decide (((v.map fun n => intP n).length : Int) ≤ 60)) (P := intP (n : Int)) (P' := intP ((v.map fun n => intP n).length : Int)) (Q := intP 60) (ev_var rfl) (ev_lenL (ev_var rfl)) (fun _ => ev_val) (fun x y H K px py k => by exact ⟨_, _, px, py, k⟩) fun _ x y H K px py k => by exact ⟨_, _, px, py, k⟩))) ?_) ?_
  · rw [List.length_map, decide_eq_true (by omega), decide_eq_true (by omega)]
    rfl
  refine es_skip (EvT.eq (et_not (et_val (ev_allMap (g := fun _ => true) (ev_lc0 v (fun n => intP n) (fun _ => blP true) (ei_list (ev_var rfl)) rfl (sz (by omega)) (fun _ h => h) (fun _ _ => egName rfl) fun x hx => Ev.eq (ev_call (a := (scI x, 0, 10000)) (ea_cons (ev_var rfl) (ea_cons ev_val (ea_cons ev_val ea_nil)))) ?_)))) (by simp)) ?_
  · have z := hv1 x hx
    show blP (decide ((0 : Int) ≤ x) && decide (x ≤ 10000)) = blP true
    rw [decide_eq_true z.1, decide_eq_true z.2]
    rfl
  have hm : lstP (cutP (v.map fun n => intP n) (some 1) none) = lstP ((v.drop 1).map fun n => intP n) := by
    have z := cut_drop (Ps := v.map fun n => intP n) (n := 1)
    have e : ((1 : Nat) : Int) = 1 := rfl
    rw [e] at z
    rw [z, List.map_drop]
  refine es_ret (ev_allMap (g := fun p : Int × Int => decide (p.1 < p.2)) (ev_lc0 (v.zip (v.drop 1)) (fun p => tupP [intP p.1, intP p.2]) (fun p => blP (decide (p.1 < p.2))) (ei_zipL (l := v) (m := v.drop 1) (f := fun n => intP n) (g := fun n => intP n) (ev_var rfl) (Ev.eq (ev_slL (ev_var rfl) (eo_some ev_val) eo_none) hm)) rfl (sz (by rw [List.length_zip]; omega)) (fun _ h => h) (fun _ _ => egTup2 rfl rfl) fun p _ => ev_rI0 (ev_var rfl) (ev_var rfl))) (Le.of_eq ?_)
  show blP _ = blP true
  rw [zip_up hv2]
/-! ### Row -/
structure Mkr (P : Program) (w : World) (K : PySem.W.Frag) (mg : Str → Option Value) (base : Heap) (k : Nat) (x : Str) (C : Addr) (ps : List Str) (sp : Sp) : Prop where
  ex : ∃ f fd, mg x = some (.ref C) ∧ Mk K C f ∧ Binds K fd ps [] ∧ FnOk P w K mg base CX0 k f fd ps sp
theorem pe_mkr {X : Cx} {j k : Nat} {x : Str} {C : Addr} {ps : List Str} {sp : Sp} {p pos : Pos} {e : Expr} {es : List Expr} {t : TA} (D : Mkr X.prog X.w X.K X.mg X.base j x C ps sp) (hr : Room k X.A) (ha : PA X (e :: es) t) (hj : j + 1 ≤ k := by decide) (hg : Gl X x := by rfl) (hdb : (x == ("__debug__" : Str)) = false := by decide)
    (he : starEach (e :: es) X.env = (false, eval e X.env) :: starEach es X.env := by rfl) (hpl : (backTo pos (starEach es X.env)).any (·.1) = false := by rfl) : PE X (.Call (.Name x p) (e :: es) [] pos) (tMake C sp [] E0 t) := by
  obtain ⟨f, fd, hm, M, hb, F⟩ := D.ex
  exact pe_make M F (hr.mono hj) hg hm hb .nil pass0 ha hdb he hpl
def noP : Pd := ⟨fun _ _ => False, fun _ h => h⟩
theorem chk {so : Option Addr} {Z : Addr → Prop} {V0 : Hp} {O : Addr → Prop} {Γ : Qt.Ctx} {σ : L2.St} {H : Hp} {t u : TS} {D : Ends} (S : Sta so Z V0 O Γ σ H) (h : EvS so t Γ (fun G => G = Γ) noP) (k : ∀ O1 σ1 H1, Sta so Z V0 O1 Γ σ1 H1 → u D σ1 H1) : tSeq t u D σ H :=
  h Z V0 O σ H _ S (fun Γ' O1 σ1 H1 e S1 => by
    subst e
    exact k O1 σ1 H1 S1) fun _ _ _ _ z => z.elim
def rowK (K : PySem.W.Frag) (L : Qd.Ln) : List (Str × Pd) := [("kept_boxes", tupP (L.bx.map (boxP K))), ("kept_links", tupP (L.lk.map lkP))]
def pre_mkRow (K : PySem.W.Frag) (_ : Option Addr) (a : {L : Qd.Ln // Qd.LnOk L}) : List Pd := [lstP (a.1.bx.map (boxP K)), lstP (a.1.lk.map lkP)]
theorem made_row {L : Qd.Ln} : MadeP (He.ga K "Row") (rowK K L) (rowP K L) := fun x dx fs V h1 h2 h3 => by
  match fs, h2, h3 with
  | [(f1, y1), (f2, y2)], h2, h3 =>
    have e1 : f1 = Str.ofString "kept_boxes" := (List.cons.inj h2).1
    have e2 : f2 = Str.ofString "kept_links" := (List.cons.inj (List.cons.inj h2).2).1
    subst e1 e2
    exact ⟨x, dx, y1, y2, rfl, h1, h3.1, h3.2.1⟩
theorem ok_mkRow (Y : Kit K mg) : Mkr P w K mg base 5 "Row" (He.ga K "Row") ["self", "boxes", "links"] (spI (He.ga K "Row") (pre_mkRow K) fun a => rowK K a.1) := by
  obtain ⟨fd, F⟩ := (Y.def_ 59 (d := d_Row_init))
  have S := (⟨rfl, rfl, rfl, by decide +kernel, rfl, by decide +kernel, by decide +kernel⟩ : FnScope ["self", "boxes", "links"] ["self", "boxes", "links"] (defScope s_Row_init))
  refine ⟨_, fd, (Y.glo 59), (Y.mkr 86), (F.bindsN fun _ _ _ _ _ _ us hl => match us, hl with | [_, _, _], _ => rfl), ?_⟩
  refine init_ty (N := ["self", "boxes", "links"]) F S (fun _ _ => rfl) fun cdv A outer s H E hr => ⟨_, (pss_cons (ps_if (pt_not (pt_val (pe_dfn (ok_are_boxes Y) hr (pa_cons (pv 1) pa_nil)))) (pss_one ps_never) pss_nil) (pss_cons (ps_if (pt_not (pt_val (pe_dfn (ok_are_links Y) hr (pa_cons (pv 2) (pa_cons (pe_op (kAdd K rfl) (pe_callB (kLen K rfl) rfl (Y.free 62) boot_len (pa_cons (pv 1) pa_nil)) pe_int) pa_nil))))) (pss_one ps_never) pss_nil) (pss_cons (kSfld K rfl (pv 0) (pe_callTy (kTup K rfl) rfl (Y.free 74) boot_tuple (pa_cons (pv 1) pa_nil))) (pss_one (kSfld K rfl (pv 0) (pe_callTy (kTup K rfl) rfl (Y.free 74) boot_tuple (pa_cons (pv 2) pa_nil))))))), fun so ⟨L, hL⟩ Z V0 σ H x dx D St I hV k => ?_⟩
  have hL : Qd.LnOk L := hL
  have h1 := hL.n1
  have h4 := hL.n4
  have hnl := hL.nl
  refine chk St ?_ fun O1 σ1 H1 S1 => ?_
  · exact es_if (EvT.eq (c := false) (et_not (et_val (ev_call (a := (⟨L.bx, h1, h4⟩ : {l : List Qd.Bx // 1 ≤ l.length ∧ l.length ≤ 4})) (ea_cons (ev_var rfl) ea_nil)))) rfl) (never rfl) fun _ => es_next rfl
  refine chk S1 ?_ fun O2 σ2 H2 S2 => ?_
  · exact es_if (EvT.eq (c := false) (et_not (et_val (ev_call (a := (⟨L.lk, hL.lk, by omega⟩ : {l : List (Int × Int) // (∀ k ∈ l, Qd.LkOk k) ∧ l.length ≤ 900})) (ea_cons (ev_var rfl) (ea_cons (Ev.eq (ev_addI (ev_lenL (Ps := L.bx.map (boxP K)) (ev_var rfl)) ev_val) (by
      show intP (((L.bx.map (boxP K)).length : Int) + 1) = intP (L.lk.length : Int)
      rw [List.length_map, hnl]
      rfl)) ea_nil))))) rfl) (never rfl) fun _ => es_next rfl
  have I2 := I.after hV S2 rfl
  refine fld_step S2 I2 (Y.cls 85) (Y.noat 90) (by simp) (by decide) (ev_tupL (ev_var rfl)) fun H3 fs3 V3 S3 I3 hV3 => ?_
  refine fld_step S3 I3 (Y.cls 85) (Y.noat 91) (fun z => (by decide +kernel : ¬ Str.ofString "kept_links" ∈ [Str.ofString "kept_boxes"]) z) (ltB rfl) (ev_tupL (ev_var rfl)) fun H4 fs4 V4 S4 I4 hV4 => ?_
  exact k _ _ _ _ _ _ S4 I4 fun b u hb e => hV4 b u hb (hV3 b u hb e)

/-! ### Talk -/
def talkK (K : PySem.W.Frag) (T : Qd.Tk) : List (Str × Pd) := [("kept_out", tupP (T.out.map fun n => intP n)), ("kept_back", tupP (T.bk.map fun n => intP n)), ("kept_losses", intP (T.ls : Int))]
def pre_mkTalk (K : PySem.W.Frag) (_ : Option Addr) (a : {T : Qd.Tk // Qd.TkOk T}) : List Pd := [lstP (a.1.out.map fun n => intP n), lstP (a.1.bk.map fun n => intP n), intP (a.1.ls : Int)]
theorem made_talk {T : Qd.Tk} : MadeP (He.ga K "Talk") (talkK K T) (talkP K T) := fun x dx fs V h1 h2 h3 => by
  match fs, h2, h3 with
  | [(f1, y1), (f2, y2), (f3, y3)], h2, h3 =>
    have e1 : f1 = Str.ofString "kept_out" := (List.cons.inj h2).1
    have e2 : f2 = Str.ofString "kept_back" := (List.cons.inj (List.cons.inj h2).2).1
    have e3 : f3 = Str.ofString "kept_losses" := (List.cons.inj (List.cons.inj (List.cons.inj h2).2).2).1
    have e4 : y3 = .int (T.ls : Int) := h3.2.2.1
    subst e1 e2 e3 e4
    exact ⟨x, dx, y1, y2, rfl, h1, h3.1, h3.2.1⟩
theorem ok_mkTalk (Y : Kit K mg) : Mkr P w K mg base 4 "Talk" (He.ga K "Talk") ["self", "out", "back", "losses"] (spI (He.ga K "Talk") (pre_mkTalk K) fun a => talkK K a.1) := by
  obtain ⟨fd, F⟩ := (Y.def_ 64 (d := d_Talk_init))
  have S := (⟨rfl, rfl, rfl, by decide +kernel, rfl, by decide +kernel, by decide +kernel⟩ : FnScope ["self", "out", "back", "losses"] ["self", "out", "back", "losses"] (defScope s_Talk_init))
  obtain ⟨ds, hd, hb⟩ := FunD.binds1 (ps := ["self", "out", "back", "losses"]) F 4 2 (List.cons_ne_nil _ _) rfl fun _ _ _ _ _ _ _ us its hl hi => match us, its, hl, hi with | [_, _, _, _], [_, _], _, _ => ⟨_, rfl, rfl⟩
  have e0 : ds = [] := by
    have z := hd.length
    exact List.eq_nil_of_length_eq_zero z.symm
  subst e0
  refine ⟨_, fd, (Y.glo 60), (Y.mkr 88), hb, ?_⟩
  refine init_ty (N := ["self", "out", "back", "losses"]) F S (fun _ _ => rfl) fun cdv A outer s H E hr => ⟨_, (pss_cons (ps_if (pt_not (pt_val (pe_dfn (ok_are_times Y) hr (pa_cons (pv 1) (pa_cons pe_int pa_nil))))) (pss_one ps_never) pss_nil) (pss_cons (ps_if (pt_not (pt_val (pe_dfn (ok_are_times Y) hr (pa_cons (pv 2) (pa_cons pe_int pa_nil))))) (pss_one ps_never) pss_nil) (pss_cons (ps_if (pt_not (pt_val (pe_dfn (ok_is_between Y) hr (pa_cons (pv 3) (pa_cons pe_int (pa_cons (pe_globI (Y.int 82)) pa_nil)))))) (pss_one ps_never) pss_nil) (pss_cons (kSfld K rfl (pv 0) (pe_callTy (kTup K rfl) rfl (Y.free 74) boot_tuple (pa_cons (pv 1) pa_nil))) (pss_cons (kSfld K rfl (pv 0) (pe_callTy (kTup K rfl) rfl (Y.free 74) boot_tuple (pa_cons (pv 2) pa_nil))) (pss_one (kSfld K rfl (pv 0) (pv 3)))))))), fun so ⟨T, hT⟩ Z V0 σ H x dx D St I hV k => ?_⟩
  have hT : Qd.TkOk T := hT
  have h5 := hT.ls
  refine chk St ?_ fun O1 σ1 H1 S1 => ?_
  · exact es_if (EvT.eq (c := false) (et_not (et_val (ev_call (a := (⟨(T.out, 1), hT.out, hT.o1⟩ : TmA)) (ea_cons (ev_var rfl) (ea_cons ev_val ea_nil))))) rfl) (never rfl) fun _ => es_next rfl
  refine chk S1 ?_ fun O2 σ2 H2 S2 => ?_
  · exact es_if (EvT.eq (c := false) (et_not (et_val (ev_call (a := (⟨(T.bk, 0), hT.bk, Nat.zero_le _⟩ : TmA)) (ea_cons (ev_var rfl) (ea_cons ev_val ea_nil))))) rfl) (never rfl) fun _ => es_next rfl
  refine chk S2 ?_ fun O3 σ3 H3 S3 => ?_
  · refine es_if (EvT.eq (c := false) (et_not (et_val (ev_call (a := (scI (T.ls : Int), 0, 5)) (ea_cons (ev_var rfl) (ea_cons ev_val (ea_cons ev_val ea_nil)))))) ?_) (never rfl) fun _ => es_next rfl
    show (!(decide ((0 : Int) ≤ (T.ls : Int)) && decide ((T.ls : Int) ≤ 5))) = false
    rw [decide_eq_true (by omega), decide_eq_true (by omega)]
    rfl
  have I3 := I.after hV S3 rfl
  refine fld_step S3 I3 (Y.cls 87) (Y.noat 92) (by simp) (by decide) (ev_tupL (ev_var rfl)) fun H4 fs4 V4 S4 I4 hV4 => ?_
  refine fld_step S4 I4 (Y.cls 87) (Y.noat 93) (fun z => (by decide +kernel : ¬ Str.ofString "kept_back" ∈ [Str.ofString "kept_out"]) z) (ltB rfl) (ev_tupL (ev_var rfl)) fun H5 fs5 V5 S5 I5 hV5 => ?_
  refine fld_step S5 I5 (Y.cls 87) (Y.noat 94) (fun z => (by decide +kernel : ¬ Str.ofString "kept_losses" ∈ [Str.ofString "kept_out", Str.ofString "kept_back"]) z) (ltB rfl) (ev_var rfl) fun H6 fs6 V6 S6 I6 hV6 => ?_
  exact k _ _ _ _ _ _ S6 I6 fun b u hb e => hV6 b u hb (hV5 b u hb (hV4 b u hb e))

end
end Qp
set_option Elab.async false
set_option linter.all false
set_option maxRecDepth 100000
set_option maxHeartbeats 4000000
namespace Qp
open PySem PySem.Spec PyProof.Rows L2 Qr Qt Qf RZ
section
variable {P : Program} {w : World} {K : PySem.W.Frag} {mg : Str → Option Value} {base : Heap}

inductive PA4 where
  | low (n : Int) (h : 1 ≤ n ∧ n ≤ 10000)
  | high (n : Int) (h : 1 ≤ n ∧ n ≤ 10000)
  | rest (n : Int) (h : 0 ≤ n ∧ n ≤ 10000)
  | sees (b : Bool)
def PA4.wo : PA4 → Str
  | .low _ _ => "low"
  | .high _ _ => "high"
  | .rest _ _ => "rest"
  | .sees _ => "sees"
def PA4.v : PA4 → V
  | .low n _ => .int n
  | .high n _ => .int n
  | .rest n _ => .int n
  | .sees b => .str (bw b)
def pre_is_part_value (K : PySem.W.Frag) (_ : Option Addr) (a : PA4) : List Pd := [strP a.wo, valP a.v]
def out_is_part_value (K : PySem.W.Frag) (a : PA4) : Pd := blP true
theorem canW (a : PA4) : PyData.canLay0 (.str a.wo) = true := by
  have h1 : PyData.canLay0 (.str "low") = true := by decide +kernel
  have h2 : PyData.canLay0 (.str "high") = true := by decide +kernel
  have h3 : PyData.canLay0 (.str "rest") = true := by decide +kernel
  have h4 : PyData.canLay0 (.str "sees") = true := by decide +kernel
  cases a
  · exact h1
  · exact h2
  · exact h3
  · exact h4
theorem nLow : ¬ (Str.ofString "low" = Str.ofString "high") := by decide +kernel
theorem nRest : ¬ (Str.ofString "rest" = Str.ofString "high") := by decide +kernel
theorem nSees : ¬ (Str.ofString "sees" = Str.ofString "high") := by decide +kernel
theorem ok_is_part_value (Y : Kit K mg) : Dfn P w K mg base 3 "is_part_value" ["part", "value"] (spF (pre_is_part_value K) (out_is_part_value K)) := by
  obtain ⟨fd, F⟩ := Y.def_ 3 (d := d_is_part_value)
  have S : FnScope ["part", "value"] ["part", "value"] (defScope s_is_part_value) := ⟨rfl, rfl, rfl, by decide +kernel, rfl, by decide +kernel, by decide +kernel⟩
  refine ⟨_, fd, Y.glo 3, F.kp, (F.bindsN fun _ _ _ _ _ _ us hl => match us, hl with | [_, _], _ => rfl), ?_⟩
  refine fn_ty (N := ["part", "value"]) (Fall := False) F S (fun _ _ => rfl) (fun h => h.elim) fun cdv A outer s H E hr => ⟨_, (pss_cons (ps_if (pt_cmpR (kEq K rfl hr.units) (pv 0) pe_str (nomark _)) (pss_one (ps_ret (pe_and (pe_callB (kIs K rfl) rfl (Y.free 69) boot_isinstance (pa_cons (pv 1) (pa_cons (pe_ty (Y.free 72) boot_str) pa_nil))) (pe_one (pe_cmpR (kIn K rfl (u65 hr)) (pv 1) (pe_tup (pa_cons pe_str (pa_cons pe_str pa_nil))) (by with_unfolding_all rfl)))))) pss_nil) (pss_one (ps_ret (pe_dfn (ok_is_between Y) hr (pa_cons (pv 1) (pa_cons (pe_ifExp (pt_cmpR (kEq K rfl hr.units) (pv 0) pe_str (nomark _)) pe_int pe_int) (pa_cons (pe_globI (Y.int 78)) pa_nil))))))), fun so a => ?_⟩
  cases a with
  | sees b =>
    refine es_guard (c := true) (EvT.eq (et_test (ev_eqStr (x := "sees") (y := "sees") (ev_var rfl) ev_val (canW (.sees b)))) (by decide +kernel)) (fun _ => ?_) fun z => absurd z (by decide)
    refine es_ret (ev_andV (ev_isi (P := strP (bw b)) (ev_var rfl)) fun _ => ev_inT (P := strP (bw b)) (Ps := [strP "out", strP "both"]) (d := .str (bw b)) (ds := [.str "out", .str "both"]) (ev_var rfl) (evTup (ea_cons ev_val (ea_cons ev_val ea_nil)) rfl) (sh_str (k := 0) (bw_can b)).ok (sh_tup (k := 0) fun d hd => ?_).ok) (Le.of_eq ?_)
    · rcases List.mem_cons.mp hd with e | hd
      · rw [e]
        exact sh_str
      · rw [List.mem_singleton.mp hd]
        exact sh_str
    · show blP (true && ((Str.ofString "out" == bw b) || ((Str.ofString "both" == bw b) || false))) = blP true
      have e : ((Str.ofString "out" == bw b) || ((Str.ofString "both" == bw b) || false)) = true := by cases b <;> decide +kernel
      rw [e]
      rfl
  | low n h =>
    refine es_skip (EvT.eq (et_test (ev_eqStr (x := "low") (y := "sees") (ev_var rfl) ev_val (canW (.low n h)))) (by decide +kernel)) ?_
    refine es_ret (ev_call (a := (scI n, 1, 10000)) (ea_cons (ev_var rfl) (ea_cons (ev_if (P := intP 1) (EvT.eq (c := false) (et_test (ev_eqStr (x := "low") (y := "rest") (ev_var rfl) ev_val (canW (.low n h)))) (by decide +kernel)) (never rfl) fun _ => ev_val) (ea_cons ev_val ea_nil)))) (Le.of_eq ?_)
    show blP (decide (1 ≤ n) && decide (n ≤ 10000)) = blP true
    rw [decide_eq_true h.1, decide_eq_true h.2]
    rfl
  | high n h =>
    refine es_skip (EvT.eq (et_test (ev_eqStr (x := "high") (y := "sees") (ev_var rfl) ev_val (canW (.high n h)))) (by decide +kernel)) ?_
    refine es_ret (ev_call (a := (scI n, 1, 10000)) (ea_cons (ev_var rfl) (ea_cons (ev_if (P := intP 1) (EvT.eq (c := false) (et_test (ev_eqStr (x := "high") (y := "rest") (ev_var rfl) ev_val (canW (.high n h)))) (by decide +kernel)) (never rfl) fun _ => ev_val) (ea_cons ev_val ea_nil)))) (Le.of_eq ?_)
    show blP (decide (1 ≤ n) && decide (n ≤ 10000)) = blP true
    rw [decide_eq_true h.1, decide_eq_true h.2]
    rfl
  | rest n h =>
    refine es_skip (EvT.eq (et_test (ev_eqStr (x := "rest") (y := "sees") (ev_var rfl) ev_val (canW (.rest n h)))) (by decide +kernel)) ?_
    refine es_ret (ev_call (a := (scI n, 0, 10000)) (ea_cons (ev_var rfl) (ea_cons (ev_if (P := intP 0) (EvT.eq (c := true) (et_test (ev_eqStr (x := "rest") (y := "rest") (ev_var rfl) ev_val (canW (.rest n h)))) (by decide +kernel)) (fun _ => ev_val) fun z => absurd z (by decide)) (ea_cons ev_val ea_nil)))) (Le.of_eq ?_)
    show blP (decide (0 ≤ n) && decide (n ≤ 10000)) = blP true
    rw [decide_eq_true h.1, decide_eq_true h.2]
    rfl
theorem chkN {so : Option Addr} {Z : Addr → Prop} {V0 : Hp} {O : Addr → Prop} {Γ : Qt.Ctx} {σ : L2.St} {H : Hp} {t u : TS} {D : Ends} {N : Qt.Ctx → Prop} (S : Sta so Z V0 O Γ σ H) (h : EvS so t Γ N noP) (k : ∀ Γ1 O1 σ1 H1, N Γ1 → Sta so Z V0 O1 Γ1 σ1 H1 → u D σ1 H1) : tSeq t u D σ H :=
  h Z V0 O σ H _ S (fun Γ' O1 σ1 H1 e S1 => k Γ' O1 σ1 H1 e S1) fun _ _ _ _ z => z.elim
/-! ### Box -/
/-- zip of a tuple of the module and a tracked one -/
theorem ei_zipK {so : Option Addr} {Γ : Qt.Ctx} {tb : TE} {a : Addr} {xs : List V} {Ps : List Pd} (hA : ∀ H, SqT K H a xs) (hb : Ev so tb Γ (tupP Ps)) (hl : xs.length = Ps.length) :
    EvI so (iZipA K (tCons (tC (.ref a)) (tCons tb tNil))) Γ (List.zipWith (fun v P => tupP [valP v, P]) xs Ps) := fun Z V0 O σ H R S k =>
  hb Z V0 O σ H _ S fun y H1 mm ⟨b, ys, e', hy, r⟩ => by
    have hlz : (List.zipWith (fun v P => tupP [valP v, P]) xs Ps).length = Ps.length := by rw [List.length_zipWith, hl, Nat.min_self]
    have h3 : ys.length = Ps.length := r.length
    refine ⟨a, b, xs, ys, by rw [e'], .inr ⟨hA _, .inl (.inl (vis_some.mp hy).2), k _ H1 mm ⟨fun j H2 hj s => ?_, fun H2 s => ?_, fun j H2 y H3 W hj s tr yl => ?_⟩⟩⟩
    · rw [hlz] at hj
      exact ⟨xs, ys, xs[j]'(by omega), ys[j]'(by omega), hA _, .inl (.inl (s _ _ hy)), by simp [show j < xs.length by omega], by simp [show j < ys.length by omega]⟩
    · exact ⟨xs, ys, hA _, .inl (.inl (s _ _ hy)), by rw [hlz]; omega⟩
    · rw [hlz] at hj
      obtain ⟨T, w, w', e1, e2, e3, e4, e4'⟩ := yl
      subst e1 e3
      have e7 := e4 xs (hA _)
      obtain ⟨P', v', e5', e6', pv'⟩ := wk_at r (i := j) hj
      have e7' := e4' ys (.inl (.inl (vis_some.mp (s _ _ hy)).2))
      rw [e6'] at e7'
      have e8' := Option.some.inj e7'
      subst e8'
      exact ⟨same_new e2, tupP [valP w, P'], by rw [List.getElem?_zipWith, e7, e5'], T, [w, v'], rfl, vis_some.mpr ⟨newW tr e2, upd_same⟩, rfl, P'.st (s.trans (vis_new e2)) pv', trivial⟩
def boxK (B : Qd.Bx) : List (Str × Pd) := [("kept_parts", ptP B)]
def pre_mkBox (K : PySem.W.Frag) (_ : Option Addr) (a : {B : Qd.Bx // Qd.BxOk B}) : List Pd := [intP a.1.low, intP a.1.high, intP a.1.rest, strP (bw a.1.both)]
theorem made_box {B : Qd.Bx} : MadeP (He.ga K "Box") (boxK B) (boxP K B) := fun x dx fs V h1 h2 h3 => by
  match fs, h2, h3 with
  | [(f1, y1)], h2, h3 =>
    have e1 : f1 = Str.ofString "kept_parts" := (List.cons.inj h2).1
    subst e1
    exact ⟨x, dx, y1, rfl, h1, h3.1⟩
theorem merge_bx (B : Qd.Bx) : mergeK [] (bxF B) = bxF B := by
  have n1 : ¬ (Sum.inr (Str.ofString "low") : Key) = Sum.inr (Str.ofString "high") := by decide +kernel
  have n2 : ¬ (Sum.inr (Str.ofString "low") : Key) = Sum.inr (Str.ofString "rest") := by decide +kernel
  have n3 : ¬ (Sum.inr (Str.ofString "high") : Key) = Sum.inr (Str.ofString "rest") := by decide +kernel
  have n4 : ¬ (Sum.inr (Str.ofString "low") : Key) = Sum.inr (Str.ofString "sees") := by decide +kernel
  have n5 : ¬ (Sum.inr (Str.ofString "high") : Key) = Sum.inr (Str.ofString "sees") := by decide +kernel
  have n6 : ¬ (Sum.inr (Str.ofString "rest") : Key) = Sum.inr (Str.ofString "sees") := by decide +kernel
  unfold mergeK bxF
  simp only [List.foldl_cons, List.foldl_nil, putK, List.any_nil, List.any_cons, List.nil_append, List.cons_append, decide_eq_false n1, decide_eq_false n2, decide_eq_false n3, decide_eq_false n4, decide_eq_false n5, decide_eq_false n6, Bool.or_false, Bool.false_eq_true, if_false]
/-- {'low': low, ..} -/
theorem ev_parts {so : Option Addr} {Γ : Qt.Ctx} {B : Qd.Bx} (h1 : Γ.sl[1]? = some (some (intP B.low))) (h2 : Γ.sl[2]? = some (some (intP B.high))) (h3 : Γ.sl[3]? = some (some (intP B.rest))) (h4 : Γ.sl[4]? = some (some (strP (bw B.both)))) :
    Ev so (tDisp [(tC (.str "low"), tVar 1), (tC (.str "high"), tVar 2), (tC (.str "rest"), tVar 3), (tC (.str "sees"), tVar 4)]) Γ (ptP B) := fun Z V0 O σ H K2 S k => fun p hp => by
  obtain ⟨v1, a1, e1⟩ := S.sl _ _ h1
  obtain ⟨v2, a2, e2⟩ := S.sl _ _ h2
  obtain ⟨v3, a3, e3⟩ := S.sl _ _ h3
  obtain ⟨v4, a4, e4⟩ := S.sl _ _ h4
  obtain rfl : v1 = .int B.low := e1
  obtain rfl : v2 = .int B.high := e2
  obtain rfl : v3 = .int B.rest := e3
  obtain rfl : v4 = .str (bw B.both) := e4
  refine ⟨_, a1, _, a2, _, a3, _, a4, upd_same, bxF B, rfl, by show 4 ≤ 15; decide, ?_⟩
  rw [merge_bx, upd_upd]
  exact k _ _ (.same (same_new hp)) ⟨p, rfl, vis_some.mpr ⟨S.new hp, upd_same⟩⟩
structure MkK (P : Program) (w : World) (K : PySem.W.Frag) (mg : Str → Option Value) (base : Heap) (k : Nat) (x : Str) (C : Addr) (ps : List Str) (n : Nat) (ks : List Str) (sp : Sp) : Prop where
  ex : ∃ f fd g, mg x = some (.ref C) ∧ Mk K C f ∧ KBn K fd ps (n + 1) ks g (fun vs zs => vs ++ zs) ∧ FnOk P w K mg base CX0 k f fd ps sp
theorem ok_mkBox (Y : Kit K mg) : MkK P w K mg base 4 "Box" (He.ga K "Box") ["self", "low", "high", "rest", "sees"] 2 ["rest", "sees"] (spI (He.ga K "Box") (pre_mkBox K) fun a => boxK a.1) := by
  obtain ⟨fd, F⟩ := (Y.def_ 58 (d := d_Box_init))
  have S := (⟨rfl, rfl, rfl, by decide +kernel, rfl, by decide +kernel, by decide +kernel⟩ : FnScope ["self", "low", "high", "rest", "sees", "part", "value"] ["self", "low", "high", "rest", "sees"] (defScope s_Box_init))
  obtain ⟨mv, hb⟩ := FunD.kbinds0 (ps := ["self", "low", "high", "rest", "sees"]) F 3 ["rest", "sees"] [] (fun us _ ws => us ++ ws) (List.cons_ne_nil _ _) (fun q hq => by cases hq) (fun r1 _ r3 => r1.append r3) fun _ _ _ _ _ _ us mv ws h1 h2 h3 => match us, mv, ws, h1, h2, h3 with | [_, _, _], [], [_, _], _, _, _ => rfl
  refine ⟨_, fd, _, (Y.glo 58), (Y.mkr 84), hb, ?_⟩
  refine init_ty (N := ["self", "low", "high", "rest", "sees", "part", "value"]) F S (fun _ _ => rfl) fun cdv A outer s H E hr => ⟨_, (pss_cons (ps_for PassesOwn.never rfl (kZip K rfl rfl (Y.free 64) (pa_cons (pe_glob (v := .ref (He.ga K "PARTS")) rfl (Y.glo 61) rfl) (pa_cons (pe_tup (pa_cons (pv 1) (pa_cons (pv 2) (pa_cons (pv 3) (pa_cons (pv 4) pa_nil))))) pa_nil))) (kGt K rfl 2 rfl (pgs_cons (pg_name S.nd (i := 5) rfl (Or.inl rfl) (Or.inl rfl)) (pgs_cons (pg_name S.nd (i := 6) rfl (Or.inl rfl) (Or.inl rfl)) pgs_nil))) (pss_one (ps_if (PW.pt (pw_or (pt_not (pt_val (pe_dfn (ok_is_part_value Y) hr (pa_cons (pv 5) (pa_cons (pv 6) pa_nil))))) (pw_or1 (PW.pt (pw_and (pt_cmpR (kEq K rfl hr.units) (pv 5) pe_str (nomark _)) (pw_and1 (pt_cmpR op_lt (pv 6) (pv 1) (nomark _)))))))) (pss_one ps_never) pss_nil))) (pss_one (kSfld K rfl (pv 0) (pe_disp (pps_cons pe_str (pv 1) (pps_cons pe_str (pv 2) (pps_cons pe_str (pv 3) (pps_cons pe_str (pv 4) pps_nil)))) rfl rfl (by simp) (by decide))))), fun so ⟨B, hB⟩ Z V0 σ H x dx D St I hV k => ?_⟩
  obtain ⟨b1, b2, b3, b4, b5⟩ := (show Qd.BxOk B from hB)
  let Γ : Qt.Ctx := ctx0 ["self", "low", "high", "rest", "sees", "part", "value"] (valP (.ref x) :: pre_mkBox K so ⟨B, hB⟩)
  let Γn : Qt.Ctx := ⟨[some (valP (.ref x)), some (intP B.low), some (intP B.high), some (intP B.rest), some (strP (bw B.both)), none, none], none, none⟩
  refine chkN (N := fun G => CLe G Γn) St ?_ fun Γ1 O1 σ1 H1 e1 S1 => ?_
  · refine es_forC (fun i G => G = Γn) (ei_zipK (Ps := [intP B.low, intP B.high, intP B.rest, strP (bw B.both)]) (Y.parts) (evTup (ea_cons (ev_var rfl) (ea_cons (ev_var rfl) (ea_cons (ev_var rfl) (ea_cons (ev_var rfl) ea_nil)))) rfl) rfl) Γn (CLe.refl _) rfl (fun i Q Γi eP hI => ?_) (fun Γ' h => by subst h; exact CLe.refl _) fun G Γ' l h => cle_trans l h
    subst hI
    have body : ∀ (q : PA4), Q = tupP [strP q.wo, valP q.v] → (q.wo = Str.ofString "high" → ∃ n h, q = .high n h ∧ B.low ≤ n) → ∃ Γb is, EvG so (gTup K 2 (gCons (gName 5) (gCons (gName 6) gNil))) Q Γn Γb is ∧ EvS so (tIfS (tOr (tNot (tB (tCall (spF (pre_is_part_value K) (out_is_part_value K)) [] E0 (tCons (tVar 5) (tCons (tVar 6) tNil))))) (tAnd (tTest (tOp (rEqD K) (tVar 5) (tC (.str "high")))) (tTest (tOp (rI0 fun i j => .bl (decide (i < j))) (tVar 6) (tVar 1))))) tNever tNext) Γb (fun G => ∃ Γ', CLe G Γ' ∧ Γ' = Γn) noP := by
      intro q eq hq
      subst eq
      refine ⟨_, _, egTup2 rfl rfl, ?_⟩
      refine es_if (c := false) ?_ (never rfl) fun _ => es_next ⟨Γn, CLe.of ?_ rfl rfl, rfl⟩
      · by_cases hw : q.wo = Str.ofString "high"
        · obtain ⟨n, hn, rfl, hle⟩ := hq hw
          refine EvT.eq (et_or (et_not (et_val (ev_call (a := PA4.high n hn) (ea_cons (ev_var rfl) (ea_cons (ev_var rfl) ea_nil))))) fun _ => et_and (et_test (ev_eqStr (x := "high") (y := "high") (ev_var rfl) ev_val (canW (.high n hn)))) fun _ => et_test (ev_rI0 (i := n) (j := B.low) (ev_var rfl) (ev_var rfl))) ?_
          rw [decide_eq_false (by omega)]
          simp
        · refine EvT.eq (et_or (et_not (et_val (ev_call (a := q) (ea_cons (ev_var rfl) (ea_cons (ev_var rfl) ea_nil))))) fun _ => et_and (b := false) (et_test (ev_eqStr (x := q.wo) (y := "high") (ev_var rfl) ev_val (canW q))) fun z => absurd (eq_of_beq z) hw) ?_
          simp
      · exact ⟨Le.refl _, Le.refl _, Le.refl _, Le.refl _, Le.refl _, trivial⟩
    match i, eP with
    | 0, e => exact body (.low B.low ⟨b1, by omega⟩) (Option.some.inj e).symm fun z => absurd z nLow
    | 1, e => exact body (.high B.high ⟨by omega, b3⟩) (Option.some.inj e).symm fun _ => ⟨_, _, rfl, b2⟩
    | 2, e => exact body (.rest B.rest ⟨b4, b5⟩) (Option.some.inj e).symm fun z => absurd z nRest
    | 3, e => exact body (.sees B.both) (Option.some.inj e).symm fun z => absurd z nSees
    | _ + 4, e => cases e
  · have S2 := S1.le e1
    have I2 := I.after hV S2 rfl
    refine fld_step S2 I2 (Y.cls 83) (Y.noat 89) (by simp) (by decide) (ev_parts (B := B) rfl rfl rfl rfl) fun H3 fs3 V3 S3 I3 hV3 => ?_
    exact k _ _ _ _ _ _ S3 I3 hV3

end
end Qp
set_option Elab.async false
set_option linter.all false
set_option maxRecDepth 100000
set_option maxHeartbeats 4000000
namespace Qt
open PySem PySem.Spec PyProof.Rows L2 Qr
/-! ### ints of which only a range is known -/
def intS (A : Int → Prop) : Pd := ⟨fun v _ => ∃ i, v = .int i ∧ A i, fun _ h => h⟩
theorem le_intS {i : Int} {A : Int → Prop} (h : A i) : Le (intP i) (intS A) := fun v _ e => ⟨i, e, h⟩
theorem intS_le {A B : Int → Prop} (h : ∀ i, A i → B i) : Le (intS A) (intS B) := fun v _ ⟨i, e, a⟩ => ⟨i, e, h i a⟩
section
variable {so : Option Addr} {K : PySem.W.Frag} {Γ : Ctx} {ta tb te : TE} {P Q R : Pd} {Ps Qs : List Pd} {A B C : Int → Prop}
theorem evS (h : Ev so te Γ (intP i)) (ha : A i) : Ev so te Γ (intS A) := h.le (le_intS ha)
theorem ev_addS (ha : Ev so ta Γ (intS A)) (hb : Ev so tb Γ (intS B)) (h : ∀ i j, A i → B j → C (i + j)) : Ev so (tOp (rAddU K) ta tb) Γ (intS C) :=
  ev_op ha hb fun x y W H K _ ⟨i, e, a⟩ ⟨j, e2, b⟩ k => .inl ⟨i, j, e, e2, k _ H (Same.refl H) ⟨_, rfl, h i j a b⟩⟩
theorem ev_subS (ha : Ev so ta Γ (intS A)) (hb : Ev so tb Γ (intS B)) (h : ∀ i j, A i → B j → C (i - j)) : Ev so (tOp (rI0 fun i j => .int (i - j)) ta tb) Γ (intS C) :=
  ev_op ha hb fun x y W H K _ ⟨i, e, a⟩ ⟨j, e2, b⟩ k => ⟨i, j, e, e2, k _ H (Same.refl H) ⟨_, rfl, h i j a b⟩⟩
/-- xs[i], i somewhere within -/
theorem ev_ixLS (ha : Ev so ta Γ (lstP Ps)) (hb : Ev so tb Γ (intS fun i => 0 ≤ i ∧ i < (Ps.length : Int))) : Ev so (tOp (rIxU K) ta tb) Γ (exP fun P : {P : Pd // P ∈ Ps} => P.1) :=
  ev_op ha hb fun x y W H K _ ⟨a, xs, e, hx, q⟩ ⟨i, ei, h0, h1⟩ k => by
    have hi : i.toNat < Ps.length := by omega
    obtain ⟨v, e2, pv⟩ := q.get (show Ps[i.toNat]? = some Ps[i.toNat] by simp [hi])
    refine .inl ⟨a, xs, i, v, e, ei, .inl (.inl (vis_some.mp hx).2), ?_, k v H (Same.refl H) ⟨⟨_, List.getElem_mem hi⟩, pv⟩⟩
    have z := atI_nat e2
    rwa [Int.toNat_of_nonneg h0] at z
/-- an iterated range of a known int -/
theorem ev_callE {α : Type} {pre : Option Addr → α → List Pd} {out : α → Pd} {t : TA} (h : EvA so t Γ Qs) (hq : ∀ vs H, AllP Qs vs H → ∃ a, AllP (pre so a) vs H ∧ Le (out a) R) : Ev so (tCall (spF pre out) [] E0 t) Γ R := fun Z V0 O σ H K S k => h Z V0 O σ H _ S fun vs H1 m p => by
  rw [List.append_nil]
  obtain ⟨a, pa, l⟩ := hq vs _ p
  exact sp_of (S.mv m) pa fun v H2 m2 q => k v H2 (m.trans m2) (l v _ q)
/-- a slot's value is fixed -/
theorem es_nar {α : Type} {F : α → Pd} {i : Nat} {t : TS} {N : Ctx → Prop} (e : Γ.sl[i]? = some (some P)) (hF : ∀ v H, P.p v H → ∃ a, (F a).p v H) (h : ∀ a, EvS so t (Γ.put i (F a)) N R) : EvS so t Γ N R := fun Z V0 O σ H D S n r => by
  obtain ⟨v, ev, p⟩ := S.sl i _ e
  obtain ⟨a, pa⟩ := hF v _ p
  have hi := (List.getElem?_eq_some_iff.mp e).1
  refine h a Z V0 O σ H D { S with len := by show σ.length = (Γ.sl.set i (some (F a))).length; rw [List.length_set]; exact S.len, sl := fun j P ej => ?_ } n r
  have ej : (Γ.sl.set i (some (F a)))[j]? = some (some P) := ej
  by_cases hj : j = i
  · subst hj
    rw [List.getElem?_set_self hi] at ej
    have e2 : F a = P := Option.some.inj (Option.some.inj ej)
    subst e2
    exact ⟨v, ev, pa⟩
  · rw [List.getElem?_set_ne (Ne.symm hj)] at ej
    exact S.sl j P ej
/-- an int's value is fixed -/
theorem es_int {i : Nat} {t : TS} {N : Ctx → Prop} (e : Γ.sl[i]? = some (some (intS A))) (h : ∀ n, A n → EvS so t (Γ.put i (intP n)) N R) : EvS so t Γ N R :=
  es_nar (F := fun n : {n // A n} => intP n.1) e (fun v H ⟨n, en, a⟩ => ⟨⟨n, a⟩, en⟩) fun ⟨n, a⟩ => h n a
/-- x = an int of which a range is known, the last statement -/
theorem es_seqE {i : Nat} {N : Ctx → Prop} (he : Ev so te Γ (intS A)) (hf : freeAt Γ i = true) (h : ∀ n, A n → N (Γ.put i (intP n))) : EvS so (tAsg te (gName i)) Γ N R := fun Z V0 O σ H D S n r =>
  he Z V0 O σ H _ S fun v H1 m ⟨j, e, a⟩ => by
    obtain ⟨h1, h2, h3⟩ := freeAt_ok hf
    exact n _ O _ H1 (h j a) ((S.mv m).set (P := intP j) h1 e h2 h3)
theorem allP_choose {α β : Type} {F : α → Pd} {H : Hp} : ∀ {l : List β} {xs : List V}, AllP (l.map fun _ => exP F) xs H → ∃ as : List α, as.length = l.length ∧ AllP (as.map F) xs H
  | [], [], _ => ⟨[], rfl, trivial⟩
  | _ :: l, x :: xs, h => by
    obtain ⟨a, pa⟩ := h.1
    obtain ⟨as, e, q⟩ := allP_choose (l := l) h.2
    exact ⟨a :: as, congrArg Nat.succ e, pa, q⟩
  | [], _ :: _, h => h.elim
  | _ :: _, [], h => h.elim
end
/-! ### expressions that just answer -/
def Det (te : TE) (σ : L2.St) (H : Hp) (v : V) : Prop := ∀ Q : VK, Q v H → te σ H Q
def DetT (tt : TT) (σ : L2.St) (H : Hp) (b : Bool) : Prop := ∀ Q : Bool → Hp → Prop, Q b H → tt σ H Q
section
variable {σ : L2.St} {H : Hp} {K : PySem.W.Frag} {ta tb te : TE} {x y v : V} {i j : Int}
theorem dVar {n : Nat} (h : σ[n]? = some (some v)) : Det (tVar n) σ H v := fun Q q => ⟨v, h, q⟩
theorem dC : Det (tC v) σ H v := fun Q q => q
theorem dI0 {g : Int → Int → V} (ha : Det ta σ H (.int i)) (hb : Det tb σ H (.int j)) : Det (tOp (rI0 g) ta tb) σ H (g i j) := fun Q q => ha _ (hb _ ⟨i, j, rfl, rfl, q⟩)
theorem dI {C : Int → Int → Prop} {g : Int → Int → V} (ha : Det ta σ H (.int i)) (hb : Det tb σ H (.int j)) (hc : C i j) : Det (tOp (rI C g) ta tb) σ H (g i j) := fun Q q => ha _ (hb _ ⟨i, j, rfl, rfl, hc, q⟩)
theorem dAdd (ha : Det ta σ H (.int i)) (hb : Det tb σ H (.int j)) : Det (tOp (rAddU K) ta tb) σ H (.int (i + j)) := fun Q q => ha _ (hb _ (.inl ⟨i, j, rfl, rfl, q⟩))
theorem dMul (ha : Det ta σ H (.int i)) (hb : Det tb σ H (.int j)) (hc : CMul i j) : Det (tOp (rMulU K) ta tb) σ H (.int (i * j)) := fun Q q => ha _ (hb _ (.inl ⟨i, j, rfl, rfl, hc, q⟩))
theorem dIx {p : Addr} {xs : List V} {n : Nat} (ha : Det ta σ H (.ref p)) (hb : Det tb σ H (.int (n : Int))) (h : SqL K H p xs) (e : xs[n]? = some v) : Det (tOp (rIxU K) ta tb) σ H v := fun Q q => ha _ (hb _ (.inl ⟨p, xs, (n : Int), v, rfl, rfl, h, atI_nat e, q⟩))
theorem dLen {p : Addr} {xs : List V} (ha : Det ta σ H (.ref p)) (h : SqL K H p xs) : Det (tCB (rLenU K) (tCons ta tNil)) σ H (.int (xs.length : Int)) := fun Q q => ha _ (.inl ⟨.ref p, xs.length, rfl, .inl ⟨xs, h, rfl⟩, q⟩)
theorem dInt (ha : Det ta σ H (.int i)) : Det (tCB rInt1 (tCons ta tNil)) σ H (.int i) := fun Q q => ha _ (.inl ⟨i, rfl, q⟩)
theorem dTest {b : Bool} (h : Det te σ H (.bl b)) : DetT (tTest te) σ H b := fun Q q => h _ ⟨b, rfl, q⟩
theorem dAnd {t u : TT} {a b : Bool} (h1 : DetT t σ H a) (h2 : a = true → DetT u σ H b) : DetT (tAnd t u) σ H (a && b) := fun Q q => h1 _ (by
  cases a with
  | true =>
    rw [if_pos rfl]
    exact h2 rfl _ q
  | false =>
    rw [if_neg Bool.false_ne_true]
    exact q)
/-- xs[k] = e -/
theorem dSet {n k : Nat} {p : Addr} {xs : List V} {D : Ends} (hv : Det te σ H v) (hn : σ[n]? = some (some (.ref p))) (h : H p = some (.lst xs)) (hk : k < xs.length) (q : D.nx σ (upd H p (.lst (xs.set k v)))) : tAsg te (gSub (tVar n) (tC (.int (k : Int))) rSetL) D σ H :=
  hv _ ⟨.ref p, hn, p, xs, (k : Int), k, rfl, rfl, h, by
    unfold ixN
    rw [if_pos (by omega), if_pos (by omega)]
    simp, q⟩
theorem dIf {t : TT} {a b : TS} {c : Bool} {D : Ends} (h : DetT t σ H c) (h1 : c = true → a D σ H) (h2 : c = false → b D σ H) : tIfS t a b D σ H := h _ (by
  cases c with
  | true =>
    rw [if_pos rfl]
    exact h1 rfl
  | false =>
    rw [if_neg Bool.false_ne_true]
    exact h2 rfl)
theorem dRet {D : Ends} (h : Det te σ H v) (q : D.rt v H) : tRet te D σ H := h _ q
theorem dName {n : Nat} {D : Ends} (h : Det te σ H v) (q : D.nx (σ.set n (some v)) H) : tAsg te (gName n) D σ H := h _ q
end
end Qt
set_option Elab.async false
set_option linter.all false
set_option maxRecDepth 100000
set_option maxHeartbeats 4000000
namespace Qp
open PySem PySem.Spec PyProof.Rows L2 Qr Qt Qf RZ
section
variable {P : Program} {w : World} {K : PySem.W.Frag} {mg : Str → Option Value} {base : Heap}

abbrev Lim : Type := {n : Int // 0 < n ∧ n < 1073741824}
abbrev rngP (n : Int) : Pd := intS fun i => 0 ≤ i ∧ i < n
def pre_law_draw (K : PySem.W.Frag) (so : Option Addr) (a : Lim) : List Pd := [srcP so, intP a.1]
def out_law_draw (K : PySem.W.Frag) (a : Lim) : Pd := rngP a.1
theorem upd_self {H : Hp} {s : Addr} {o : HO} (h : H s = some o) : upd H s o = H := by
  funext b
  unfold upd
  by_cases e : b = s
  · rw [if_pos e, e, h]
  · rw [if_neg e]
theorem dSetQ {σ : L2.St} {H : Hp} {te : TE} {v : V} {n k : Nat} {p : Addr} {xs : List V} {D : Ends} {u : TS} (hv : Det te σ H v) (hn : σ[n]? = some (some (.ref p))) (h : H p = some (.lst xs)) (hk : k < xs.length) (q : u D σ (upd H p (.lst (xs.set k v)))) : tSeq (tAsg te (gSub (tVar n) (tC (.int (k : Int))) rSetL)) u D σ H := dSet hv hn h hk q
theorem dNameQ {σ : L2.St} {H : Hp} {te : TE} {v : V} {n : Nat} {D : Ends} {u : TS} (h : Det te σ H v) (q : u D (σ.set n (some v)) H) : tSeq (tAsg te (gName n)) u D σ H := dName h q
theorem dIfQ {σ : L2.St} {H : Hp} {t : TT} {a u : TS} {c : Bool} {D : Ends} (h : DetT t σ H c) (h1 : c = true → a { D with nx := u D } σ H) (h2 : c = false → u D σ H) : tSeq (tIfS t a tNext) u D σ H := dIf h h1 h2
abbrev src_ (K : PySem.W.Frag) (k : Int) : TE := tOp (rIxU K) (tVar 0) (tC (.int k))
abbrev md_ (a b : TE) : TE := tOp (rI (fun _ j => 0 < j) fun i j => .int (i % j)) a b
abbrev in_ (a : TE) : TE := tCB rInt1 (tCons a tNil)
abbrev big_ : TE := tOp (rI CPow fun i j => .int (i ^ j.toNat)) (tC (.int 10)) (tC (.int 18))
abbrev last_ (K : PySem.W.Frag) : TS := tSeq (tAsg (md_ (in_ (tOp (rAddU K) (tOp (rMulU K) (src_ K 3) (tC (.int 39373))) (tC (.int 12820163)))) (tC (.int 2147483647))) (gSub (tVar 0) (tC (.int 3)) rSetL)) (tRet (md_ (in_ (tOp (rI CDiv fun i j => .int (i / j)) (src_ K 3) (tC (.int 16)))) (tVar 1)))
abbrev second_ (K : PySem.W.Frag) : TS := tSeq (tIfS (tTest (tOp (rI0 fun i j => .bl (decide (j ≤ i))) (src_ K 2) big_)) (tSeq (tAsg (md_ (in_ (src_ K 2)) (tVar 1)) (gName 3)) (tSeq (tAsg (tOp (rI CDiv fun i j => .int (i / j)) (src_ K 2) (tVar 1)) (gSub (tVar 0) (tC (.int 2)) rSetL)) (tRet (tVar 3)))) tNext) (last_ K)
abbrev more_ (K : PySem.W.Frag) : TS := tAsg (md_ (in_ (tOp (rAddU K) (tOp (rAddU K) (tOp (rMulU K) (src_ K 3) (tC (.int 48271))) (md_ (tVar 2) (tC (.int 2147483629)))) (tC (.int 11)))) (tC (.int 2147483647))) (gSub (tVar 0) (tC (.int 3)) rSetL)
theorem ok_law_draw (Y : Kit K mg) : Dfn P w K mg base 1 "_law_draw" ["_law_source", "_law_limit"] (spF (pre_law_draw K) (out_law_draw K)) := by
  obtain ⟨fd, F⟩ := Y.def_ 34 (d := d_law_draw)
  have S : FnScope ["_law_source", "_law_limit", "_law_cell", "_law_digit"] ["_law_source", "_law_limit"] (defScope s_law_draw) := ⟨rfl, rfl, rfl, by decide +kernel, rfl, by decide +kernel, by decide +kernel⟩
  refine ⟨_, fd, Y.glo 34, F.kp, (F.bindsN fun _ _ _ _ _ _ us hl => match us, hl with | [_, _], _ => rfl), ?_⟩
  refine fn_ty (N := ["_law_source", "_law_limit", "_law_cell", "_law_digit"]) (Fall := False) F S (fun _ _ => rfl) (fun h => h.elim) fun cdv A outer s H E hr => ⟨_, (pss_cons (ps_if (PW.pt (pw_and (pt_cmpR op_lt (pe_ix (kIx K rfl (hu_of hr)) (pv 0) pe_int (fun _ _ => rfl)) (pe_op op_pow pe_int pe_int) (nomark _)) (pw_and1 (pt_cmpR op_lt (pe_ix (kIx K rfl (hu_of hr)) (pv 0) pe_int (fun _ _ => rfl)) (pe_callB (kLen K rfl) rfl (Y.free 62) boot_len (pa_cons (pe_ix (kIx K rfl (hu_of hr)) (pv 0) pe_int (fun _ _ => rfl)) pa_nil)) (nomark _))))) (pss_cons (ps_set (i := 2) S.nd rfl (Or.inl rfl) (pe_callTy call_int1 rfl (Y.free 70) boot_int (pa_cons (pe_ix (kIx K rfl (hu_of hr)) (pe_ix (kIx K rfl (hu_of hr)) (pv 0) pe_int (fun _ _ => rfl)) (pe_ix (kIx K rfl (hu_of hr)) (pv 0) pe_int (fun _ _ => rfl)) (fun _ _ => rfl)) pa_nil))) (pss_cons (ps_asg (pe_op (kAdd K rfl) (pe_ix (kIx K rfl (hu_of hr)) (pv 0) pe_int (fun _ _ => rfl)) pe_int) (pg_sub (pv 0) pe_int set_list)) (pss_cons (ps_asg pe_int (pg_sub (pv 0) pe_int set_list)) (pss_cons (ps_if (pt_cmpR op_ge (pv 2) (pe_op op_pow pe_int pe_int) (nomark _)) (pss_one (ps_asg (pv 2) (pg_sub (pv 0) pe_int set_list))) pss_nil) (pss_one (ps_asg (pe_op op_mod (pe_callTy call_int1 rfl (Y.free 70) boot_int (pa_cons (pe_op (kAdd K rfl) (pe_op (kAdd K rfl) (pe_op (kMul K rfl) (pe_ix (kIx K rfl (hu_of hr)) (pv 0) pe_int (fun _ _ => rfl)) pe_int) (pe_op op_mod (pv 2) pe_int)) pe_int) pa_nil)) pe_int) (pg_sub (pv 0) pe_int set_list))))))) pss_nil) (pss_cons (ps_if (pt_cmpR op_ge (pe_ix (kIx K rfl (hu_of hr)) (pv 0) pe_int (fun _ _ => rfl)) (pe_op op_pow pe_int pe_int) (nomark _)) (pss_cons (ps_set (i := 3) S.nd rfl (Or.inl rfl) (pe_op op_mod (pe_callTy call_int1 rfl (Y.free 70) boot_int (pa_cons (pe_ix (kIx K rfl (hu_of hr)) (pv 0) pe_int (fun _ _ => rfl)) pa_nil)) (pv 1))) (pss_cons (ps_asg (pe_op op_fdiv (pe_ix (kIx K rfl (hu_of hr)) (pv 0) pe_int (fun _ _ => rfl)) (pv 1)) (pg_sub (pv 0) pe_int set_list)) (pss_one (ps_ret (pv 3))))) pss_nil) (pss_cons (ps_asg (pe_op op_mod (pe_callTy call_int1 rfl (Y.free 70) boot_int (pa_cons (pe_op (kAdd K rfl) (pe_op (kMul K rfl) (pe_ix (kIx K rfl (hu_of hr)) (pv 0) pe_int (fun _ _ => rfl)) pe_int) pe_int) pa_nil)) pe_int) (pg_sub (pv 0) pe_int set_list)) (pss_one (ps_ret (pe_op op_mod (pe_callTy call_int1 rfl (Y.free 70) boot_int (pa_cons (pe_op op_fdiv (pe_ix (kIx K rfl (hu_of hr)) (pv 0) pe_int (fun _ _ => rfl)) pe_int) pa_nil)) (pv 1))))))), fun so a => ?_⟩
  obtain ⟨lim, h0, h1⟩ := a
  have h0 : 0 < lim := h0
  have h1 : lim < 1073741824 := h1
  intro Z V0 O σ H D S n r
  obtain ⟨v0, a0, s, rfl, rfl⟩ := S.sl 0 _ (show _ = some (some (srcP so)) from rfl)
  obtain ⟨v1, a1, rfl⟩ := S.sl 1 _ (show _ = some (some (intP lim)) from rfl)
  have hlen : σ.length = 4 := S.len
  obtain ⟨q, od, ns, pos, cur, st, hs, hq, hp0, hst0, hst1⟩ := S.sr s rfl
  have hqs : q ≠ s := fun z => by
    rw [z, hs] at hq
    cases hq
  let Hn : Int → Int → Int → Hp := fun pos cur st => upd H s (.lst [.ref q, .int pos, .int cur, .int st])
  have ns1 : ∀ p c t, Hn p c t s = some (.lst [.ref q, .int p, .int c, .int t]) := fun p c t => upd_same
  have nq : ∀ p c t, Hn p c t q = some (.frz od (.lst (ns.map V.int))) := fun p c t => (upd_ne hqs).trans hq
  have u1 : ∀ p c t p', upd (Hn p c t) s (.lst ([V.ref q, .int p, .int c, .int t].set 1 (.int p'))) = Hn p' c t := fun p c t p' => upd_upd
  have u2 : ∀ p c t c', upd (Hn p c t) s (.lst ([V.ref q, .int p, .int c, .int t].set 2 (.int c'))) = Hn p c' t := fun p c t c' => upd_upd
  have u3 : ∀ p c t t', upd (Hn p c t) s (.lst ([V.ref q, .int p, .int c, .int t].set 3 (.int t'))) = Hn p c t' := fun p c t t' => upd_upd
  have lq : ∀ p c t, SqL K (Hn p c t) s [.ref q, .int p, .int c, .int t] := fun p c t => .inl (.inl (ns1 p c t))
  have lqq : ∀ p c t, SqL K (Hn p c t) q (ns.map V.int) := fun p c t => .inl (.inr ⟨od, nq p c t⟩)
  have fin : ∀ p c t v, 0 ≤ p → 0 ≤ t → t < 2147483648 → 0 ≤ v → v < lim → D.rt (.int v) (Hn p c t) := fun p c t v hp ht ht2 hv hv2 => by
    refine r (.int v) _ (fun b u e => ?_) (fun b e => ?_) ⟨v, rfl, hv, hv2⟩
    · obtain ⟨e1, e2, _⟩ := S.v0 b u e
      exact (upd_ne (fun z => e2 (by rw [z]))).trans e1
    · obtain rfl : s = b := Option.some.inj e
      exact ⟨q, od, ns, p, c, t, ns1 p c t, nq p c t, hp, ht, ht2⟩
  have src : ∀ (σ : L2.St) (p c t : Int) (k : Nat) (v : V), σ[0]? = some (some (.ref s)) → [V.ref q, .int p, .int c, .int t][k]? = some v → Det (tOp (rIxU K) (tVar 0) (tC (.int (k : Int)))) σ (Hn p c t) v := fun σ p c t k v hσ e => dIx (dVar hσ) dC (lq p c t) e
  have cm : CMul st 48271 := .inr (by decide)
  -- the last two statements
  have last : ∀ (σ : L2.St) (p c t : Int), σ[0]? = some (some (.ref s)) → σ[1]? = some (some (.int lim)) → 0 ≤ p → 0 ≤ t → t < 2147483648 →
      last_ K D σ (Hn p c t) := fun σ p c t e0 e1 hp ht ht2 => by
    refine dSetQ (k := 3) (dI (dInt (dAdd (dMul (src σ p c t 3 _ e0 rfl) dC (.inr (by decide))) dC)) dC (by decide)) e0 (ns1 p c t) (ltB rfl) ?_
    rw [u3]
    have b0 := Int.emod_nonneg (t * 39373 + 12820163) (show (2147483647 : Int) ≠ 0 by decide)
    have b1 := Int.emod_lt_of_pos (t * 39373 + 12820163) (show (0 : Int) < 2147483647 by decide)
    refine dRet (dI (dInt (dI (src σ _ _ _ 3 _ e0 rfl) dC ⟨by decide, by decide⟩)) (dVar e1) h0) (fin _ _ _ _ hp b0 (by omega) (Int.emod_nonneg _ (by omega)) (Int.emod_lt_of_pos _ h0))
  have second : ∀ (σ : L2.St) (p c t : Int), σ.length = 4 → σ[0]? = some (some (.ref s)) → σ[1]? = some (some (.int lim)) → 0 ≤ p → 0 ≤ t → t < 2147483648 → second_ K D σ (Hn p c t) := fun σ p c t hl e0 e1 hp ht ht2 => by
    refine dIfQ (dTest (dI0 (src σ p c t 2 _ e0 rfl) (dI dC dC ⟨by decide, by decide, by decide⟩))) (fun _ => ?_) fun _ => last σ p c t e0 e1 hp ht ht2
    refine dNameQ (dI (dInt (src σ p c t 2 _ e0 rfl)) (dVar e1) h0) ?_
    have f0 : (σ.set 3 (some (V.int (c % lim))))[0]? = some (some (.ref s)) := by rw [List.getElem?_set_ne (by decide)]; exact e0
    have f1 : (σ.set 3 (some (V.int (c % lim))))[1]? = some (some (.int lim)) := by rw [List.getElem?_set_ne (by decide)]; exact e1
    have f3 : (σ.set 3 (some (V.int (c % lim))))[3]? = some (some (.int (c % lim))) := List.getElem?_set_self (by omega)
    refine dSetQ (k := 2) (dI (src _ p c t 2 _ f0 rfl) (dVar f1) ⟨h0, h1⟩) f0 (ns1 p c t) (ltB rfl) ?_
    rw [u2]
    exact dRet (dVar f3) (fin _ _ _ _ hp ht ht2 (Int.emod_nonneg _ (by omega)) (Int.emod_lt_of_pos _ h0))
  have eH : H = Hn pos cur st := (upd_self hs).symm
  rw [eH]
  refine dIfQ (u := second_ K) (dAnd (dTest (dI0 (src σ pos cur st 2 _ a0 rfl) (dI dC dC ⟨by decide, by decide, by decide⟩))) fun _ => dTest (dI0 (src σ pos cur st 1 _ a0 rfl) (dLen (src σ pos cur st 0 _ a0 rfl) (lqq pos cur st)))) (fun hc => ?_) fun _ => second σ pos cur st hlen a0 a1 hp0 hst0 hst1
  have hlt : pos < ((ns.map V.int).length : Int) := by
    rw [Bool.and_eq_true] at hc
    exact of_decide_eq_true hc.2
  rw [List.length_map] at hlt
  obtain ⟨m, rfl⟩ := Int.eq_ofNat_of_zero_le hp0
  have hm : m < ns.length := by omega
  have en : (ns.map V.int)[m]? = some (.int ns[m]) := by
    rw [List.getElem?_map, List.getElem?_eq_getElem hm]
    rfl
  refine dNameQ (dInt (dIx (src σ _ cur st 0 _ a0 rfl) (src σ _ cur st 1 _ a0 rfl) (lqq _ cur st) en)) ?_
  generalize ns[m] = cell
  have f0 : (σ.set 2 (some (V.int cell)))[0]? = some (some (.ref s)) := by rw [List.getElem?_set_ne (by decide)]; exact a0
  have f1 : (σ.set 2 (some (V.int cell)))[1]? = some (some (.int lim)) := by rw [List.getElem?_set_ne (by decide)]; exact a1
  have f2 : (σ.set 2 (some (V.int cell)))[2]? = some (some (.int cell)) := List.getElem?_set_self (by omega)
  have fl : (σ.set 2 (some (V.int cell))).length = 4 := by rw [List.length_set]; exact hlen
  refine dSetQ (k := 1) (dAdd (src _ _ cur st 1 _ f0 rfl) dC) f0 (ns1 _ cur st) (ltB rfl) ?_
  rw [u1]
  refine dSetQ (k := 2) dC f0 (ns1 _ cur st) (ltB rfl) ?_
  rw [u2]
  have more : ∀ c, more_ K { D with nx := second_ K D } (σ.set 2 (some (V.int cell))) (Hn ((m : Int) + 1) c st) := fun c => by
    refine dSet (D := { D with nx := second_ K D }) (k := 3) (dI (dInt (dAdd (dAdd (dMul (src _ _ c st 3 _ f0 rfl) dC cm) (dI (dVar f2) dC (by decide))) dC)) dC (by decide)) f0 (ns1 _ c st) (ltB rfl) ?_
    show second_ K D _ _
    rw [u3]
    have b0 := Int.emod_nonneg (st * 48271 + cell % 2147483629 + 11) (show (2147483647 : Int) ≠ 0 by decide)
    have b1 := Int.emod_lt_of_pos (st * 48271 + cell % 2147483629 + 11) (show (0 : Int) < 2147483647 by decide)
    exact second _ _ c _ fl f0 f1 (by omega) b0 (by omega)
  refine dIfQ (u := more_ K) (dTest (dI0 (dVar f2) (dI dC dC ⟨by decide, by decide, by decide⟩))) (fun _ => ?_) fun _ => more 0
  refine dSet (k := 2) (dVar f2) f0 (ns1 _ 0 st) (ltB rfl) ?_
  show more_ K { D with nx := second_ K D } _ _
  rw [u2]
  exact more cell

end
end Qp
set_option Elab.async false
set_option linter.all false
set_option maxRecDepth 100000
set_option maxHeartbeats 4000000
namespace Qp
open PySem PySem.Spec PyProof.Rows L2 Qr Qt Qf RZ
section
variable {P : Program} {w : World} {K : PySem.W.Frag} {mg : Str → Option Value} {base : Heap}

theorem evDraw {so : Option Addr} {Γ : Qt.Ctx} {ts te : TE} {B : Int → Prop} {M : Int} (hs : Ev so ts Γ (srcP so)) (ha : Ev so te Γ (intS B)) (hB : ∀ n, B n → 0 < n ∧ n < 1073741824 ∧ n ≤ M) : Ev so (tCall (spF (pre_law_draw K) (out_law_draw K)) [] E0 (tCons ts (tCons te tNil))) Γ (rngP M) :=
  ev_callE (ea_cons hs (ea_cons ha ea_nil)) fun vs H h => by
    obtain ⟨x, y, rfl, px, n, en, hn⟩ := allP2 h
    obtain ⟨h1, h2, h3⟩ := hB n hn
    exact ⟨(⟨n, h1, h2⟩ : Lim), ⟨px, en, trivial⟩, intS_le fun i h => ⟨h.1, by have h2 : i < n := h.2; omega⟩⟩
theorem evDrawC {so : Option Addr} {Γ : Qt.Ctx} {ts te : TE} {n : Int} (hs : Ev so ts Γ (srcP so)) (ha : Ev so te Γ (intP n)) (h0 : 0 < n) (h1 : n < 1073741824) : Ev so (tCall (spF (pre_law_draw K) (out_law_draw K)) [] E0 (tCons ts (tCons te tNil))) Γ (rngP n) :=
  evDraw hs (evS (A := fun i => i = n) ha rfl) fun m e => by
    subst e
    exact ⟨h0, h1, Int.le_refl _⟩
def pre_law_pick (K : PySem.W.Frag) (so : Option Addr) (a : {l : List Pd // 0 < l.length ∧ l.length < 1000}) : List Pd := [srcP so, lstP a.1]
def out_law_pick (K : PySem.W.Frag) (a : {l : List Pd // 0 < l.length ∧ l.length < 1000}) : Pd := exP fun P : {P : Pd // P ∈ a.1} => P.1
theorem ok_law_pick (Y : Kit K mg) : Dfn P w K mg base 2 "_law_pick" ["_law_source", "_law_items"] (spF (pre_law_pick K) (out_law_pick K)) := by
  obtain ⟨fd, F⟩ := Y.def_ 35 (d := d_law_pick)
  have S : FnScope ["_law_source", "_law_items"] ["_law_source", "_law_items"] (defScope s_law_pick) := ⟨rfl, rfl, rfl, by decide +kernel, rfl, by decide +kernel, by decide +kernel⟩
  refine ⟨_, fd, Y.glo 35, F.kp, (F.bindsN fun _ _ _ _ _ _ us hl => match us, hl with | [_, _], _ => rfl), ?_⟩
  refine fn_ty (N := ["_law_source", "_law_items"]) (Fall := False) F S (fun _ _ => rfl) (fun h => h.elim) fun cdv A outer s H E hr => ⟨_, (pss_one (ps_ret (pe_ix (kIx K rfl (hu_of hr)) (pv 1) (pe_dfn (ok_law_draw Y) hr (pa_cons (pv 0) (pa_cons (pe_callB (kLen K rfl) rfl (Y.free 62) boot_len (pa_cons (pv 1) pa_nil)) pa_nil))) (fun _ _ => rfl)))), fun so a => ?_⟩
  obtain ⟨l, h0, h1⟩ := a
  have h0 : 0 < l.length := h0
  have h1 : l.length < 1000 := h1
  exact es_ret (ev_ixLS (Ps := l) (ev_var rfl) (evDrawC (ev_var rfl) (ev_lenL (Ps := l) (ev_var rfl)) (by omega) (by omega))) (Le.refl _)
def bxL (B : Qd.Bx) : Pd := lstP [intP B.low, intP B.high, intP B.rest, strP (bw B.both)]
def pre_law_case (K : PySem.W.Frag) (so : Option Addr) (_ : Unit) : List Pd := [srcP so]
def out_law_case (K : PySem.W.Frag) (_ : Unit) : Pd := exP fun B : {B : Qd.Bx // Qd.BxOk B} => bxL B.1
theorem ev_ixS3 {so : Option Addr} {Γ : Qt.Ctx} {ta tb : TE} {x y z : Int} {A : Int → Prop} (ha : Ev so ta Γ (lstP [intP x, intP y, intP z])) (hb : Ev so tb Γ (rngP 3)) (hx : A x) (hy : A y) (hz : A z) : Ev so (tOp (rIxU K) ta tb) Γ (intS A) :=
  (ev_ixLS ha hb).le fun v H ⟨⟨P, hP⟩, p⟩ => by
    rcases List.mem_cons.mp hP with e | hP
    · subst e
      exact ⟨x, p, hx⟩
    · rcases List.mem_cons.mp hP with e | hP
      · subst e
        exact ⟨y, p, hy⟩
      · obtain rfl := List.mem_singleton.mp hP
        exact ⟨z, p, hz⟩
theorem ok_law_case (Y : Kit K mg) : Dfn P w K mg base 3 "_law_case" ["_law_source"] (spF (pre_law_case K) (out_law_case K)) := by
  obtain ⟨fd, F⟩ := Y.def_ 36 (d := d_law_case)
  have S : FnScope ["_law_source", "_law_least", "_law_most"] ["_law_source"] (defScope s_law_case) := ⟨rfl, rfl, rfl, by decide +kernel, rfl, by decide +kernel, by decide +kernel⟩
  refine ⟨_, fd, Y.glo 36, F.kp, (F.bindsN fun _ _ _ _ _ _ us hl => match us, hl with | [_], _ => rfl), ?_⟩
  refine fn_ty (N := ["_law_source", "_law_least", "_law_most"]) (Fall := False) F S (fun _ _ => rfl) (fun h => h.elim) fun cdv A outer s H E hr => ⟨_, (pss_cons (ps_set (i := 1) S.nd rfl (Or.inl rfl) (pe_op (kAdd K rfl) pe_int (pe_dfn (ok_law_draw Y) hr (pa_cons (pv 0) (pa_cons (pe_ix (kIx K rfl (hu_of hr)) (pe_lst (pa_cons pe_int (pa_cons pe_int (pa_cons pe_int pa_nil)))) (pe_dfn (ok_law_draw Y) hr (pa_cons (pv 0) (pa_cons pe_int pa_nil))) (fun _ _ => rfl)) pa_nil))))) (pss_cons (ps_set (i := 2) S.nd rfl (Or.inl rfl) (pe_op (kAdd K rfl) (pv 1) (pe_dfn (ok_law_draw Y) hr (pa_cons (pv 0) (pa_cons (pe_ix (kIx K rfl (hu_of hr)) (pe_lst (pa_cons pe_int (pa_cons pe_int (pa_cons pe_int pa_nil)))) (pe_dfn (ok_law_draw Y) hr (pa_cons (pv 0) (pa_cons pe_int pa_nil))) (fun _ _ => rfl)) pa_nil))))) (pss_one (ps_ret (pe_lst (pa_cons (pv 1) (pa_cons (pv 2) (pa_cons (pe_dfn (ok_law_draw Y) hr (pa_cons (pv 0) (pa_cons pe_int pa_nil))) (pa_cons (pe_dfn (ok_law_pick Y) hr (pa_cons (pv 0) (pa_cons (pe_lst (pa_cons pe_str (pa_cons pe_str pa_nil))) pa_nil))) pa_nil))))))))), fun so a => ?_⟩
  have lst : ∀ (Γ : Qt.Ctx) (x y z : Int), Ev so (tLst (tCons (tC (.int x)) (tCons (tC (.int y)) (tCons (tC (.int z)) tNil)))) Γ (lstP [intP x, intP y, intP z]) := fun Γ x y z => evLst (ea_cons ev_val (ea_cons ev_val (ea_cons ev_val ea_nil))) rfl
  refine es_then (es_set (ev_addS (C := fun i => 1 ≤ i ∧ i ≤ 200) (evS (A := fun i => i = 1) ev_val rfl) (evDraw (M := 200) (ev_var rfl) (ev_ixS3 (A := fun n => 0 < n ∧ n ≤ 200) (lst _ 4 30 200) (evDrawC (ev_var rfl) ev_val (by decide) (by decide)) (by decide) (by decide) (by decide)) fun n h => ⟨h.1, by omega, h.2⟩) fun i j hi hj => by omega) (egName rfl) rfl) ?_
  refine es_int (i := 1) (A := fun i => 1 ≤ i ∧ i ≤ 200) rfl fun low hlow => ?_
  refine es_then (es_set (ev_addS (C := fun i => low ≤ i ∧ i ≤ 290) (evS (A := fun i => i = low) (ev_var rfl) rfl) (evDraw (M := 90) (ev_var rfl) (ev_ixS3 (A := fun n => 0 < n ∧ n ≤ 90) (lst _ 1 6 90) (evDrawC (ev_var rfl) ev_val (by decide) (by decide)) (by decide) (by decide) (by decide)) fun n h => ⟨h.1, by omega, h.2⟩) fun i j hi hj => by omega) (egName rfl) rfl) ?_
  refine es_int (i := 2) (A := fun i => low ≤ i ∧ i ≤ 290) rfl fun high hhigh => ?_
  refine es_ret (evLst (ea_cons (ev_var rfl) (ea_cons (ev_var rfl) (ea_cons (evDrawC (n := 20) (ev_var rfl) ev_val (by decide) (by decide)) (ea_cons (ev_call (a := (⟨[strP "out", strP "both"], by decide, by decide⟩ : {l : List Pd // 0 < l.length ∧ l.length < 1000})) (ea_cons (ev_var rfl) (ea_cons (evLst (ea_cons ev_val (ea_cons ev_val ea_nil)) rfl) ea_nil))) ea_nil)))) rfl) fun v H ⟨a, xs, e, h, q⟩ => ?_
  match xs, q with
  | [x1, x2, x3, x4], ⟨q1, q2, ⟨r, q3, hr⟩, ⟨⟨P, hP⟩, q4⟩, _⟩ =>
    have hs : ∃ b, x4 = .str (bw b) := by
      rcases List.mem_cons.mp hP with e | hP
      · subst e
        exact ⟨false, q4⟩
      · obtain rfl := List.mem_singleton.mp hP
        exact ⟨true, q4⟩
    obtain ⟨b, q4⟩ := hs
    exact ⟨⟨⟨low, high, r, b⟩, by show 1 ≤ low; omega, by show low ≤ high; omega, by show high ≤ 10000; omega, hr.1, by show r ≤ 10000; omega⟩, a, _, e, h, q1, q2, q3, q4, trivial⟩
def pre_law_box (K : PySem.W.Frag) (_ : Option Addr) (a : {B : Qd.Bx // Qd.BxOk B}) : List Pd := [bxL a.1]
def out_law_box (K : PySem.W.Frag) (a : {B : Qd.Bx // Qd.BxOk B}) : Pd := boxP K a.1
theorem pe_mkBox {X : Cx} {k : Nat} {p pos : Pos} {e : Expr} {es : List Expr} {kws : List Keyword} {t tk : TA} (Y : Kit K mg) (hr : Room k X.A) (ha : PA X (e :: es) t) (hkw : PK X kws tk) (hp : X.prog = P) (hw : X.w = w) (hK : X.K = K) (hmg : X.mg = mg) (hB : X.base = base) (hj : 5 ≤ k := by decide) (hg : Gl X "Box" := by rfl)
    (hall : (backToKw pos (keywordEach kws X.env)).all (·.1.isSome) = true := by rfl) (hks : (backToKw pos (keywordEach kws X.env)).filterMap (·.1) = [Str.ofString "rest", Str.ofString "sees"] := by rfl)
    (he : starEach (e :: es) X.env = (false, eval e X.env) :: starEach es X.env := by rfl) (hpl : ((backTo pos (starEach (e :: es) X.env)).any (·.1) || (backToKw pos (keywordEach kws X.env)).any (·.1.isNone)) = false := by rfl) :
    PE X (.Call (.Name "Box" p) (e :: es) kws pos) (tMakeK (He.ga K "Box") 2 2 (spI (He.ga K "Box") (pre_mkBox K) fun a => boxK a.1) (fun vs zs => vs ++ zs) E0 t tk) := by
  subst hp hw hK hmg hB
  obtain ⟨f, fd, g, hm, M, hb, F⟩ := (ok_mkBox (P := X.prog) (w := X.w) (base := X.base) Y).ex
  exact pe_makeK M F (hr.mono hj) hg hm hb pass0 ha hkw hall hks (by decide) he hpl
theorem ok_law_box (Y : Kit K mg) : Dfn P w K mg base 6 "_law_box" ["_law_one"] (spF (pre_law_box K) (out_law_box K)) := by
  obtain ⟨fd, F⟩ := Y.def_ 37 (d := d_law_box)
  have S : FnScope ["_law_one"] ["_law_one"] (defScope s_law_box) := ⟨rfl, rfl, rfl, by decide +kernel, rfl, by decide +kernel, by decide +kernel⟩
  refine ⟨_, fd, Y.glo 37, F.kp, (F.bindsN fun _ _ _ _ _ _ us hl => match us, hl with | [_], _ => rfl), ?_⟩
  refine fn_ty (N := ["_law_one"]) (Fall := False) F S (fun _ _ => rfl) (fun h => h.elim) fun cdv A outer s H E hr => ⟨_, (pss_one (ps_ret (pe_mkBox Y hr (pa_cons (pe_ix (kIx K rfl (hu_of hr)) (pv 0) pe_int (fun _ _ => rfl)) (pa_cons (pe_ix (kIx K rfl (hu_of hr)) (pv 0) pe_int (fun _ _ => rfl)) pa_nil)) (pk_cons (pe_ix (kIx K rfl (hu_of hr)) (pv 0) pe_int (fun _ _ => rfl)) (pk_cons (pe_ix (kIx K rfl (hu_of hr)) (pv 0) pe_int (fun _ _ => rfl)) pk_nil)) rfl rfl rfl rfl rfl))), fun so a => ?_⟩
  obtain ⟨B, hB⟩ := a
  have ix : ∀ (Γ : Qt.Ctx) (n : Nat) (P : Pd), Γ.sl[0]? = some (some (bxL B)) → [intP B.low, intP B.high, intP B.rest, strP (bw B.both)][n]? = some P → Ev so (tOp (rIxU K) (tVar 0) (tC (.int (n : Int)))) Γ P := fun Γ n P h e => ev_ixL (n := n) (Ps := [intP B.low, intP B.high, intP B.rest, strP (bw B.both)]) (ev_var h) ev_val rfl e
  exact es_ret (ev_makeK (a := (⟨B, hB⟩ : {B : Qd.Bx // Qd.BxOk B})) (ea_cons (ix _ 0 _ rfl rfl) (ea_cons (ix _ 1 _ rfl rfl) ea_nil)) (ea_cons (ix _ 2 _ rfl rfl) (ea_cons (ix _ 3 _ rfl rfl) ea_nil)) rfl rfl rfl made_box) (Le.refl _)
def lineP (L : Qd.Ln) : Pd := lstP [lstP (L.bx.map bxL), lstP (L.lk.map lkP)]
def pre_law_line (K : PySem.W.Frag) (so : Option Addr) (_ : Unit) : List Pd := [srcP so, intP 3, intP 4]
def out_law_line (K : PySem.W.Frag) (_ : Unit) : Pd := exP fun L : {L : Qd.Ln // Qd.LnOk L} => lineP L.1
def stepP : Pd := exP fun k : {k : Int × Int // Qd.LkOk k} => lkP k.1
theorem rep_map {α : Type} (n : Nat) (P : Pd) : List.replicate n P = (List.range n).map fun _ => P := by
  rw [List.map_const', List.length_range]
theorem ok_law_line (Y : Kit K mg) : Dfn P w K mg base 4 "_law_line" ["_law_source", "_law_most", "_law_wide"] (spF (pre_law_line K) (out_law_line K)) := by
  obtain ⟨fd, F⟩ := Y.def_ 38 (d := d_law_line)
  have S : FnScope ["_law_source", "_law_most", "_law_wide", "_law_many", "_law_steps", "_law_turn", "_law_least"] ["_law_source", "_law_most", "_law_wide"] (defScope s_law_line) := ⟨rfl, rfl, rfl, by decide +kernel, rfl, by decide +kernel, by decide +kernel⟩
  refine ⟨_, fd, Y.glo 38, F.kp, (F.bindsN fun _ _ _ _ _ _ us hl => match us, hl with | [_, _, _], _ => rfl), ?_⟩
  refine fn_ty (N := ["_law_source", "_law_most", "_law_wide", "_law_many", "_law_steps", "_law_turn", "_law_least"]) (Fall := False) F S (fun _ _ => rfl) (fun h => h.elim) fun cdv A outer s H E hr => ⟨_, (pss_cons (ps_set (i := 3) S.nd rfl (Or.inl rfl) (pe_op (kAdd K rfl) pe_int (pe_dfn (ok_law_draw Y) hr (pa_cons (pv 0) (pa_cons (pv 1) pa_nil))))) (pss_cons (ps_set (i := 4) S.nd rfl (Or.inl rfl) (pe_lst pa_nil)) (pss_cons (ps_for PassesOwn.never rfl (pi_range1 rfl (Y.free 63) (pa_cons (pe_op (kAdd K rfl) (pv 3) pe_int) pa_nil)) (pg_name S.nd (i := 5) rfl (Or.inl rfl) (Or.inl rfl)) (pss_cons (ps_set (i := 6) S.nd rfl (Or.inl rfl) (pe_dfn (ok_law_draw Y) hr (pa_cons (pv 0) (pa_cons pe_int pa_nil)))) (pss_one (ps_expr (kApp K rfl (pv 4) (pe_tup (pa_cons (pv 6) (pa_cons (pe_op (kAdd K rfl) (pv 6) (pe_dfn (ok_law_draw Y) hr (pa_cons (pv 0) (pa_cons (pe_op (kAdd K rfl) (pv 2) pe_int) pa_nil)))) pa_nil)))))))) (pss_one (ps_ret (pe_lst (pa_cons (pe_lc rfl S.nd (pi_range1 rfl (Y.free 63) (pa_cons (pv 3) pa_nil)) (blkOk_by (N := ["_law_source", "_law_most", "_law_wide", "_law_many", "_law_steps", "_law_turn", "_law_least"]) (sc := defScope s_law_line) (own := [("_law_turn", 5)]) (by decide +kernel)) (fun _ _ _ _ _ => (pg_name S.nd (i := 5) rfl (Or.inl rfl) (Or.inr rfl))) (fun _ _ _ _ _ => pts_nil) (fun _ _ _ _ _ => (pe_dfn (ok_law_case Y) hr (pa_cons (pv 0) pa_nil)))) (pa_cons (pv 4) pa_nil)))))))), fun so a => ?_⟩
  refine es_then (es_set (ev_addS (C := fun i => 1 ≤ i ∧ i ≤ 3) (evS (A := fun i => i = 1) ev_val rfl) (evDrawC (n := 3) (ev_var rfl) (ev_var rfl) (by decide) (by decide)) fun i j hi hj => by omega) (egName rfl) rfl) ?_
  refine es_int (i := 3) (A := fun i => 1 ≤ i ∧ i ≤ 3) rfl fun many hm => ?_
  obtain ⟨m, rfl⟩ := Int.eq_ofNat_of_zero_le (show 0 ≤ many by omega)
  have hm1 : 1 ≤ m := by omega
  have hm3 : m ≤ 3 := by omega
  refine es_then (es_new (ltB rfl) rfl) ?_
  let Γs : Nat → Qt.Ctx := fun i => ⟨[some (srcP so), some (intP 3), some (intP 4), some (intP (m : Int)), none, none, none], some (4, List.replicate i stepP), none⟩
  refine es_forT (fun i G => G = Γs i) (ei_rng (n := m + 1) (ev_addI (i := (m : Int)) (ev_var rfl) ev_val) (by omega) (by omega)) (Γs 0) (CLe.refl _) rfl (fun i P Γi eP hI => ?_) fun Γ' hI => ?_
  · subst hI
    obtain ⟨h1, rfl⟩ := map_at eP
    rw [List.length_range] at h1
    refine ⟨_, _, egName rfl, ?_⟩
    refine es_then (es_set (evDrawC (n := 4) (ev_var rfl) ev_val (by decide) (by decide)) (egName rfl) rfl) ?_
    refine es_int (i := 6) (A := fun i => 0 ≤ i ∧ i < 4) rfl fun least hl => ?_
    refine es_append (Ps := List.replicate i stepP) (P := stepP) rfl (sz (by rw [List.length_replicate]; omega)) ((evTup (ea_cons (ev_var rfl) (ea_cons (ev_addS (C := fun i => least ≤ i ∧ i ≤ 1000) (evS (A := fun i => i = least) (ev_var rfl) rfl) (evDrawC (n := 5) (ev_var rfl) (ev_addI (i := 4) (j := 1) (ev_var rfl) ev_val) (by decide) (by decide)) fun i j hi hj => by omega) ea_nil)) rfl).le fun v H p => ?_) ⟨Γs (i + 1), CLe.of ?_ ?_ rfl, rfl⟩
    · obtain ⟨a, xs, e, h, q⟩ := p
      obtain ⟨x, y, rfl, q1, n, q2, hn⟩ := allP2 q
      exact ⟨⟨(least, n), hl.1, hn.1, hn.2⟩, a, _, e, h, q1, q2, trivial⟩
    · exact ⟨Le.refl _, Le.refl _, Le.refl _, Le.refl _, trivial⟩
    · show some (4, List.replicate (i + 1) stepP) = some (4, List.replicate i stepP ++ [stepP])
      rw [List.replicate_succ']
  · subst hI
    rw [List.length_map, List.length_range]
    refine es_pub (i := 4) (Ps := List.replicate (m + 1) stepP) rfl (ltB rfl) (es_ret (evLst (ea_cons (ev_lc0 (List.range m) (fun (k : Nat) => intP (k : Int)) (fun _ => out_law_case K ()) (ei_rng (n := m) (ev_var rfl) rfl (by omega)) rfl (sz (by rw [List.length_range]; omega)) (fun _ h => h) (fun _ _ => egName rfl) fun _ _ => ev_call (a := ()) (ea_cons (ev_var rfl) ea_nil)) (ea_cons (ev_var rfl) ea_nil)) rfl) fun v H ⟨a, xs, e, h, q⟩ => ?_)
    obtain ⟨x, y, rfl, ⟨b, bs, eb, hb, qb⟩, c, cs, ec, hc, qc⟩ := allP2 q
    obtain ⟨Bs, lB, qB⟩ := allP_choose (F := fun B : {B : Qd.Bx // Qd.BxOk B} => bxL B.1) qb
    rw [rep_map (α := Unit)] at qc
    obtain ⟨Ks, lK, qK⟩ := allP_choose (F := fun k : {k : Int × Int // Qd.LkOk k} => lkP k.1) qc
    rw [List.length_range] at lB lK
    refine ⟨⟨⟨Bs.map (·.1), Ks.map (·.1)⟩, ⟨by rw [List.length_map]; omega, by rw [List.length_map]; omega, by rw [List.length_map, List.length_map]; omega, fun B h => ?_, fun k h => ?_⟩⟩, a, _, e, h, ⟨b, bs, eb, hb, ?_⟩, ⟨c, cs, ec, hc, ?_⟩, trivial⟩
    · obtain ⟨B2, _, rfl⟩ := List.mem_map.mp h
      exact B2.2
    · obtain ⟨k2, _, rfl⟩ := List.mem_map.mp h
      exact k2.2
    · show AllP ((Bs.map (·.1)).map bxL) bs H
      rw [List.map_map]
      exact qB
    · show AllP ((Ks.map (·.1)).map lkP) cs H
      rw [List.map_map]
      exact qK

end
end Qp
set_option Elab.async false
set_option linter.all false
set_option maxRecDepth 100000
set_option maxHeartbeats 4000000
namespace Qp
open PySem PySem.Spec PyProof.Rows L2 Qr Qt Qf RZ
section
variable {P : Program} {w : World} {K : PySem.W.Frag} {mg : Str → Option Value} {base : Heap}

abbrev LnA : Type := {L : Qd.Ln // Qd.LnOk L}
abbrev TkA : Type := {T : Qd.Tk // Qd.TkOk T}
theorem line0 {L : Qd.Ln} {so : Option Addr} {Γ : Qt.Ctx} {te : TE} (h : Ev so te Γ (lineP L)) : Ev so (tOp (rIxU K) te (tC (.int 0))) Γ (lstP (L.bx.map bxL)) := ev_ixL (n := 0) (Ps := [lstP (L.bx.map bxL), lstP (L.lk.map lkP)]) h ev_val rfl rfl
theorem line1 {L : Qd.Ln} {so : Option Addr} {Γ : Qt.Ctx} {te : TE} (h : Ev so te Γ (lineP L)) : Ev so (tOp (rIxU K) te (tC (.int 1))) Γ (lstP (L.lk.map lkP)) := ev_ixL (n := 1) (Ps := [lstP (L.bx.map bxL), lstP (L.lk.map lkP)]) h ev_val rfl rfl
def tkL (T : Qd.Tk) : Pd := lstP [lstP (T.out.map fun n => intP n), lstP (T.bk.map fun n => intP n), intP (T.ls : Int)]
theorem tk0 {T : Qd.Tk} {so : Option Addr} {Γ : Qt.Ctx} {te : TE} (h : Ev so te Γ (tkL T)) : Ev so (tOp (rIxU K) te (tC (.int 0))) Γ (lstP (T.out.map fun n => intP n)) := ev_ixL (n := 0) (Ps := [lstP (T.out.map fun n => intP n), lstP (T.bk.map fun n => intP n), intP (T.ls : Int)]) h ev_val rfl rfl
theorem tk1 {T : Qd.Tk} {so : Option Addr} {Γ : Qt.Ctx} {te : TE} (h : Ev so te Γ (tkL T)) : Ev so (tOp (rIxU K) te (tC (.int 1))) Γ (lstP (T.bk.map fun n => intP n)) := ev_ixL (n := 1) (Ps := [lstP (T.out.map fun n => intP n), lstP (T.bk.map fun n => intP n), intP (T.ls : Int)]) h ev_val rfl rfl
theorem tk2 {T : Qd.Tk} {so : Option Addr} {Γ : Qt.Ctx} {te : TE} (h : Ev so te Γ (tkL T)) : Ev so (tOp (rIxU K) te (tC (.int 2))) Γ (intP (T.ls : Int)) := ev_ixL (n := 2) (Ps := [lstP (T.out.map fun n => intP n), lstP (T.bk.map fun n => intP n), intP (T.ls : Int)]) h ev_val rfl rfl
def pre_law_row (K : PySem.W.Frag) (_ : Option Addr) (a : LnA) : List Pd := [lineP a.1]
def out_law_row (K : PySem.W.Frag) (a : LnA) : Pd := rowP K a.1
theorem ok_law_row (Y : Kit K mg) : Dfn P w K mg base 7 "_law_row" ["_law_line_here"] (spF (pre_law_row K) (out_law_row K)) := by
  obtain ⟨fd, F⟩ := Y.def_ 39 (d := d_law_row)
  have S : FnScope ["_law_line_here", "_law_one"] ["_law_line_here"] (defScope s_law_row) := ⟨rfl, rfl, rfl, by decide +kernel, rfl, by decide +kernel, by decide +kernel⟩
  refine ⟨_, fd, Y.glo 39, F.kp, (F.bindsN fun _ _ _ _ _ _ us hl => match us, hl with | [_], _ => rfl), ?_⟩
  refine fn_ty (N := ["_law_line_here", "_law_one"]) (Fall := False) F S (fun _ _ => rfl) (fun h => h.elim) fun cdv A outer s H E hr => ⟨_, (pss_one (ps_ret (pe_mkr (ok_mkRow Y) hr (pa_cons (pe_lc rfl S.nd (kPL K rfl (pe_ix (kIx K rfl (hu_of hr)) (pv 0) pe_int (fun _ _ => rfl))) (blkOk_by (N := ["_law_line_here", "_law_one"]) (sc := defScope s_law_row) (own := [("_law_one", 1)]) (by decide +kernel)) (fun _ _ _ _ _ => (pg_name S.nd (i := 1) rfl (Or.inl rfl) (Or.inr rfl))) (fun _ _ _ _ _ => pts_nil) (fun _ _ _ _ _ => (pe_dfn (ok_law_box Y) hr (pa_cons (pv 1) pa_nil)))) (pa_cons (pe_callTy (kList K rfl rfl) rfl (Y.free 73) boot_list (pa_cons (pe_ix (kIx K rfl (hu_of hr)) (pv 0) pe_int (fun _ _ => rfl)) pa_nil)) pa_nil))))), fun so a => ?_⟩
  obtain ⟨L, hL⟩ := a
  have hL : Qd.LnOk L := hL
  have h4 := hL.n4
  exact es_ret (ev_make (a := (⟨L, hL⟩ : LnA)) (ea_cons (ev_lc0 L.bx bxL (boxP K) (ei_list (line0 (ev_var rfl))) rfl (sz (by omega)) (fun _ h => h) (fun _ _ => egName rfl) fun B hB => ev_call (a := (⟨B, hL.bx B hB⟩ : {B : Qd.Bx // Qd.BxOk B})) (ea_cons (ev_var rfl) ea_nil)) (ea_cons (ev_listL (line1 (ev_var rfl))) ea_nil)) made_row) (Le.refl _)
def pre_law_times (K : PySem.W.Frag) (so : Option Addr) (a : {n : Nat // n ≤ 4}) : List Pd := [srcP so, intP (a.1 : Int), intP 6]
def out_law_times (K : PySem.W.Frag) (a : {n : Nat // n ≤ 4}) : Pd := exP fun l : {l : List Int // Qd.TmOk l ∧ l.length = a.1} => lstP (l.1.map fun n => intP n)
theorem ok_law_times (Y : Kit K mg) : Dfn P w K mg base 2 "_law_times" ["_law_source", "_law_many", "_law_step"] (spF (pre_law_times K) (out_law_times K)) := by
  obtain ⟨fd, F⟩ := Y.def_ 40 (d := d_law_times)
  have S : FnScope ["_law_source", "_law_many", "_law_step", "_law_found", "_law_time", "_law_turn"] ["_law_source", "_law_many", "_law_step"] (defScope s_law_times) := ⟨rfl, rfl, rfl, by decide +kernel, rfl, by decide +kernel, by decide +kernel⟩
  refine ⟨_, fd, Y.glo 40, F.kp, (F.bindsN fun _ _ _ _ _ _ us hl => match us, hl with | [_, _, _], _ => rfl), ?_⟩
  refine fn_ty (N := ["_law_source", "_law_many", "_law_step", "_law_found", "_law_time", "_law_turn"]) (Fall := False) F S (fun _ _ => rfl) (fun h => h.elim) fun cdv A outer s H E hr => ⟨_, (pss_cons (ps_par (i := 3) (j := 4) rfl S.nd rfl rfl (by decide) rfl rfl (pa_cons (pe_lst pa_nil) (pa_cons (pe_dfn (ok_law_draw Y) hr (pa_cons (pv 0) (pa_cons pe_int pa_nil))) pa_nil)) (by rfl)) (pss_cons (ps_for PassesOwn.never rfl (pi_range1 rfl (Y.free 63) (pa_cons (pv 1) pa_nil)) (pg_name S.nd (i := 5) rfl (Or.inl rfl) (Or.inl rfl)) (pss_cons (ps_expr (kApp K rfl (pv 3) (pv 4))) (pss_one (ps_set (i := 4) S.nd rfl (Or.inl rfl) (pe_op (kAdd K rfl) (pe_op (kAdd K rfl) (pv 4) pe_int) (pe_dfn (ok_law_draw Y) hr (pa_cons (pv 0) (pa_cons (pv 2) pa_nil)))))))) (pss_one (ps_ret (pv 3))))), fun so a => ?_⟩
  obtain ⟨m, hm⟩ := a
  have hm : m ≤ 4 := hm
  let Γs : Int → List Int → Qt.Ctx := fun t acc => ⟨[some (srcP so), some (intP (m : Int)), some (intP 6), none, some (intP t), none], some (3, acc.map fun n => intP n), none⟩
  refine es_then (es_par1 (P := rngP 8) (ltB rfl) (ltB rfl) (by decide) (evDrawC (n := 8) (ev_var rfl) ev_val (by decide) (by decide)) rfl) ?_
  refine es_int (i := 4) (A := fun i => 0 ≤ i ∧ i < 8) rfl fun t0 ht0 => ?_
  refine es_forT (fun i G => ∃ t acc, G = Γs t acc ∧ acc.length = i ∧ acc.Pairwise (· < ·) ∧ (∀ x ∈ acc, 0 ≤ x ∧ x < t) ∧ 0 ≤ t ∧ t ≤ 8 + 6 * i) (ei_rng (n := m) (i := (m : Int)) (ev_var rfl) rfl (by omega)) (Γs t0 []) (CLe.refl _) ⟨t0, [], rfl, rfl, List.Pairwise.nil, (fun x h => by simp at h), ht0.1, by omega⟩ (fun i P Γi eP hI => ?_) fun Γ' hI => ?_
  · obtain ⟨t, acc, rfl, hl, hp, hx, h0, h8⟩ := hI
    obtain ⟨h1, rfl⟩ := map_at eP
    rw [List.length_range] at h1
    refine ⟨_, _, egName rfl, ?_⟩
    refine es_then (es_append (Ps := acc.map fun n => intP n) (P := intP t) rfl (sz (by rw [List.length_map]; omega)) (ev_var rfl) rfl) ?_
    refine es_seqE (i := 4) (A := fun i => t + 1 ≤ i ∧ i ≤ t + 6) (ev_addS (B := fun i => 0 ≤ i ∧ i < 6) (A := fun i => i = t + 1) (evS (ev_addI (ev_var rfl) ev_val) rfl) (evDrawC (n := 6) (ev_var rfl) (ev_var rfl) (by decide) (by decide)) fun i j hi hj => by omega) rfl fun t2 ht2 => ⟨Γs t2 (acc ++ [t]), CLe.of ?_ ?_ rfl, t2, acc ++ [t], rfl, by rw [List.length_append, hl]; rfl, ?_, fun x h => ?_, by omega, by omega⟩
    · exact ⟨Le.refl _, Le.refl _, Le.refl _, Le.refl _, trivial⟩
    · show some (3, (acc ++ [t]).map _) = some (3, _ ++ [_])
      rw [List.map_append]
      rfl
    · refine List.pairwise_append.mpr ⟨hp, List.pairwise_singleton _ _, fun a ha b hb => ?_⟩
      rw [List.mem_singleton.mp hb]
      exact (hx a ha).2
    · rcases List.mem_append.mp h with h | h
      · have := hx x h
        omega
      · rw [List.mem_singleton.mp h]
        omega
  · obtain ⟨t, acc, rfl, hl, hp, hx, h0, h8⟩ := hI
    rw [List.length_map, List.length_range] at hl h8
    refine es_retown (i := 3) rfl (ltB rfl) fun v H p => ⟨⟨acc, ⟨⟨fun x h => ?_, hp, by omega⟩, hl⟩⟩, p⟩
    have := hx x h
    omega
def pre_law_talk (K : PySem.W.Frag) (so : Option Addr) (_ : Unit) : List Pd := [srcP so, intP 4, intP 6]
def out_law_talk (K : PySem.W.Frag) (_ : Unit) : Pd := exP fun T : TkA => tkL T.1
theorem evTimes {so : Option Addr} {Γ : Qt.Ctx} {ts te tt : TE} {lo : Int} (hs : Ev so ts Γ (srcP so)) (ha : Ev so te Γ (intS fun i => lo ≤ i ∧ i ≤ 4)) (ht : Ev so tt Γ (intP 6)) (h0 : 0 ≤ lo) : Ev so (tCall (spF (pre_law_times K) (out_law_times K)) [] E0 (tCons ts (tCons te (tCons tt tNil)))) Γ (exP fun l : {l : List Int // Qd.TmOk l ∧ lo ≤ (l.length : Int)} => lstP (l.1.map fun n => intP n)) :=
  ev_callE (ea_cons hs (ea_cons ha (ea_cons ht ea_nil))) fun vs H h => by
    match vs, h with
    | [x, y, z], ⟨px, ⟨n, en, h1, h2⟩, pz, _⟩ =>
      obtain ⟨m, rfl⟩ := Int.eq_ofNat_of_zero_le (show 0 ≤ n by omega)
      exact ⟨(⟨m, by omega⟩ : {n : Nat // n ≤ 4}), ⟨px, en, pz, trivial⟩, fun v H ⟨⟨l, hl, hn⟩, q⟩ => ⟨⟨l, hl, by rw [hn]; exact h1⟩, q⟩⟩
theorem ok_law_talk (Y : Kit K mg) : Dfn P w K mg base 3 "_law_talk" ["_law_source", "_law_most", "_law_step"] (spF (pre_law_talk K) (out_law_talk K)) := by
  obtain ⟨fd, F⟩ := Y.def_ 41 (d := d_law_talk)
  have S : FnScope ["_law_source", "_law_most", "_law_step", "_law_outward", "_law_inward"] ["_law_source", "_law_most", "_law_step"] (defScope s_law_talk) := ⟨rfl, rfl, rfl, by decide +kernel, rfl, by decide +kernel, by decide +kernel⟩
  refine ⟨_, fd, Y.glo 41, F.kp, (F.bindsN fun _ _ _ _ _ _ us hl => match us, hl with | [_, _, _], _ => rfl), ?_⟩
  refine fn_ty (N := ["_law_source", "_law_most", "_law_step", "_law_outward", "_law_inward"]) (Fall := False) F S (fun _ _ => rfl) (fun h => h.elim) fun cdv A outer s H E hr => ⟨_, (pss_cons (ps_set (i := 3) S.nd rfl (Or.inl rfl) (pe_dfn (ok_law_times Y) hr (pa_cons (pv 0) (pa_cons (pe_op (kAdd K rfl) pe_int (pe_dfn (ok_law_draw Y) hr (pa_cons (pv 0) (pa_cons (pv 1) pa_nil)))) (pa_cons (pv 2) pa_nil))))) (pss_cons (ps_set (i := 4) S.nd rfl (Or.inl rfl) (pe_dfn (ok_law_times Y) hr (pa_cons (pv 0) (pa_cons (pe_dfn (ok_law_draw Y) hr (pa_cons (pv 0) (pa_cons (pe_op (kAdd K rfl) (pv 1) pe_int) pa_nil))) (pa_cons (pv 2) pa_nil))))) (pss_one (ps_ret (pe_lst (pa_cons (pv 3) (pa_cons (pv 4) (pa_cons (pe_dfn (ok_law_draw Y) hr (pa_cons (pv 0) (pa_cons pe_int pa_nil))) pa_nil)))))))), fun so a => ?_⟩
  refine es_then (es_set (evTimes (lo := 1) (ev_var rfl) (ev_addS (C := fun i => 1 ≤ i ∧ i ≤ 4) (evS (A := fun i => i = 1) ev_val rfl) (evDrawC (n := 4) (ev_var rfl) (ev_var rfl) (by decide) (by decide)) fun i j hi hj => by omega) (ev_var rfl) (by decide)) (egName rfl) rfl) ?_
  refine es_exE (i := 3) (F := fun l : {l : List Int // Qd.TmOk l ∧ (1 : Int) ≤ (l.length : Int)} => lstP (l.1.map fun n => intP n)) rfl fun ⟨o, ho, ho1⟩ => ?_
  refine es_then (es_set (evTimes (lo := 0) (ev_var rfl) ((evDrawC (n := 5) (ev_var rfl) (ev_addI (i := 4) (j := 1) (ev_var rfl) ev_val) (by decide) (by decide)).le (intS_le fun i h => ⟨h.1, by omega⟩)) (ev_var rfl) (by decide)) (egName rfl) rfl) ?_
  refine es_exE (i := 4) (F := fun l : {l : List Int // Qd.TmOk l ∧ (0 : Int) ≤ (l.length : Int)} => lstP (l.1.map fun n => intP n)) rfl fun ⟨b, hb, _⟩ => ?_
  refine es_ret (evLst (ea_cons (ev_var rfl) (ea_cons (ev_var rfl) (ea_cons (evDrawC (n := 3) (ev_var rfl) ev_val (by decide) (by decide)) ea_nil))) rfl) fun v H ⟨a, xs, e, h, q⟩ => ?_
  match xs, q with
  | [x1, x2, x3], ⟨q1, q2, ⟨n, q3, hn⟩, _⟩ =>
    obtain ⟨m, rfl⟩ := Int.eq_ofNat_of_zero_le hn.1
    exact ⟨⟨⟨o, b, m⟩, ⟨by show 1 ≤ o.length; omega, ho, hb, by show m ≤ 5; omega⟩⟩, a, _, e, h, q1, q2, q3, trivial⟩
def pre_law_made_talk (K : PySem.W.Frag) (_ : Option Addr) (a : TkA) : List Pd := [tkL a.1]
def out_law_made_talk (K : PySem.W.Frag) (a : TkA) : Pd := talkP K a.1
theorem ok_law_made_talk (Y : Kit K mg) : Dfn P w K mg base 6 "_law_made_talk" ["_law_talk_here"] (spF (pre_law_made_talk K) (out_law_made_talk K)) := by
  obtain ⟨fd, F⟩ := Y.def_ 42 (d := d_law_made_talk)
  have S : FnScope ["_law_talk_here"] ["_law_talk_here"] (defScope s_law_made_talk) := ⟨rfl, rfl, rfl, by decide +kernel, rfl, by decide +kernel, by decide +kernel⟩
  refine ⟨_, fd, Y.glo 42, F.kp, (F.bindsN fun _ _ _ _ _ _ us hl => match us, hl with | [_], _ => rfl), ?_⟩
  refine fn_ty (N := ["_law_talk_here"]) (Fall := False) F S (fun _ _ => rfl) (fun h => h.elim) fun cdv A outer s H E hr => ⟨_, (pss_one (ps_ret (pe_mkr (ok_mkTalk Y) hr (pa_cons (pe_callTy (kList K rfl rfl) rfl (Y.free 73) boot_list (pa_cons (pe_ix (kIx K rfl (hu_of hr)) (pv 0) pe_int (fun _ _ => rfl)) pa_nil)) (pa_cons (pe_callTy (kList K rfl rfl) rfl (Y.free 73) boot_list (pa_cons (pe_ix (kIx K rfl (hu_of hr)) (pv 0) pe_int (fun _ _ => rfl)) pa_nil)) (pa_cons (pe_ix (kIx K rfl (hu_of hr)) (pv 0) pe_int (fun _ _ => rfl)) pa_nil)))))), fun so a => ?_⟩
  obtain ⟨T, hT⟩ := a
  exact es_ret (ev_make (a := (⟨T, hT⟩ : TkA)) (ea_cons (ev_listL (tk0 (T := T) (ev_var rfl))) (ea_cons (ev_listL (tk1 (T := T) (ev_var rfl))) (ea_cons (tk2 (T := T) (ev_var rfl)) ea_nil))) made_talk) (Le.refl _)
def pre_law_letters (K : PySem.W.Frag) (_ : Option Addr) (a : TkA) : List Pd := [tkL a.1]
def out_law_letters (K : PySem.W.Frag) (a : TkA) : Pd := lstP ((Qd.lets a.1).map Qt.ltP)
theorem ok_law_letters (Y : Kit K mg) : Dfn P w K mg base 1 "_law_letters" ["_law_talk_here"] (spF (pre_law_letters K) (out_law_letters K)) := by
  obtain ⟨fd, F⟩ := Y.def_ 43 (d := d_law_letters)
  have S : FnScope ["_law_talk_here", "_law_k"] ["_law_talk_here"] (defScope s_law_letters) := ⟨rfl, rfl, rfl, by decide +kernel, rfl, by decide +kernel, by decide +kernel⟩
  refine ⟨_, fd, Y.glo 43, F.kp, (F.bindsN fun _ _ _ _ _ _ us hl => match us, hl with | [_], _ => rfl), ?_⟩
  refine fn_ty (N := ["_law_talk_here", "_law_k"]) (Fall := False) F S (fun _ _ => rfl) (fun h => h.elim) fun cdv A outer s H E hr => ⟨_, (pss_one (ps_ret (pe_op (kAdd K rfl) (pe_lc rfl S.nd (pi_range1 rfl (Y.free 63) (pa_cons (pe_callB (kLen K rfl) rfl (Y.free 62) boot_len (pa_cons (pe_ix (kIx K rfl (hu_of hr)) (pv 0) pe_int (fun _ _ => rfl)) pa_nil)) pa_nil)) (blkOk_by (N := ["_law_talk_here", "_law_k"]) (sc := defScope s_law_letters) (own := [("_law_k", 1)]) (by decide +kernel)) (fun _ _ _ _ _ => (pg_name S.nd (i := 1) rfl (Or.inl rfl) (Or.inr rfl))) (fun _ _ _ _ _ => pts_nil) (fun _ _ _ _ _ => (pe_tup (pa_cons pe_str (pa_cons (pv 1) pa_nil))))) (pe_lc rfl S.nd (pi_range1 rfl (Y.free 63) (pa_cons (pe_callB (kLen K rfl) rfl (Y.free 62) boot_len (pa_cons (pe_ix (kIx K rfl (hu_of hr)) (pv 0) pe_int (fun _ _ => rfl)) pa_nil)) pa_nil)) (blkOk_by (N := ["_law_talk_here", "_law_k"]) (sc := defScope s_law_letters) (own := [("_law_k", 1)]) (by decide +kernel)) (fun _ _ _ _ _ => (pg_name S.nd (i := 1) rfl (Or.inl rfl) (Or.inr rfl))) (fun _ _ _ _ _ => pts_nil) (fun _ _ _ _ _ => (pe_tup (pa_cons pe_str (pa_cons (pv 1) pa_nil)))))))), fun so a => ?_⟩
  obtain ⟨T, hT⟩ := a
  have hT : Qd.TkOk T := hT
  have h1 := hT.out.2.2
  have h2 := hT.bk.2.2
  have eo : ((T.out.map fun n => intP n).length : Int) = ((T.out.length : Nat) : Int) := by rw [List.length_map]
  have eb : ((T.bk.map fun n => intP n).length : Int) = ((T.bk.length : Nat) : Int) := by rw [List.length_map]
  refine es_ret (ev_addL (ev_lc0 (List.range T.out.length) (fun (k : Nat) => intP (k : Int)) (fun k => Qt.ltP (true, k)) (ei_rng (ev_lenL (tk0 (T := T) (ev_var rfl))) eo (Int.lt_of_le_of_lt (Int.le_of_eq eo) (by omega))) rfl (sz (by rw [List.length_range]; omega)) (fun _ h => h) (fun k _ => egName rfl) fun k _ => evTup (ea_cons ev_val (ea_cons (ev_var rfl) ea_nil)) rfl) (ev_lc0 (List.range T.bk.length) (fun (k : Nat) => intP (k : Int)) (fun k => Qt.ltP (false, k)) (ei_rng (ev_lenL (tk1 (T := T) (ev_var rfl))) eb (Int.lt_of_le_of_lt (Int.le_of_eq eb) (by omega))) rfl (sz (by rw [List.length_range]; omega)) (fun _ h => h) (fun k _ => egName rfl) fun k _ => evTup (ea_cons ev_val (ea_cons (ev_var rfl) ea_nil)) rfl) ?_) (Le.of_eq ?_)
  · rw [List.length_map, List.length_map, List.length_range, List.length_range]
    exact Nat.le_of_lt (sz (by omega))
  · show _ = lstP ((Qd.lets T).map Qt.ltP)
    unfold Qd.lets
    rw [List.map_append, List.map_map, List.map_map]
    rfl
def pre_law_sent (K : PySem.W.Frag) (_ : Option Addr) (a : TL) : List Pd := [tkL a.1.1, Qt.ltP a.1.2]
def out_law_sent (K : PySem.W.Frag) (a : TL) : Pd := intP (Qd.tm a.1.1 a.1.2)
theorem ok_law_sent (Y : Kit K mg) : Dfn P w K mg base 1 "_law_sent" ["_law_talk_here", "_law_letter"] (spF (pre_law_sent K) (out_law_sent K)) := by
  obtain ⟨fd, F⟩ := Y.def_ 44 (d := d_law_sent)
  have S : FnScope ["_law_talk_here", "_law_letter"] ["_law_talk_here", "_law_letter"] (defScope s_law_sent) := ⟨rfl, rfl, rfl, by decide +kernel, rfl, by decide +kernel, by decide +kernel⟩
  refine ⟨_, fd, Y.glo 44, F.kp, (F.bindsN fun _ _ _ _ _ _ us hl => match us, hl with | [_, _], _ => rfl), ?_⟩
  refine fn_ty (N := ["_law_talk_here", "_law_letter"]) (Fall := False) F S (fun _ _ => rfl) (fun h => h.elim) fun cdv A outer s H E hr => ⟨_, (pss_one (ps_ret (pe_ifExp (pt_cmpR (kEq K rfl hr.units) (pe_ix (kIx K rfl (hu_of hr)) (pv 1) pe_int (fun _ _ => rfl)) pe_str (nomark _)) (pe_ix (kIx K rfl (hu_of hr)) (pe_ix (kIx K rfl (hu_of hr)) (pv 0) pe_int (fun _ _ => rfl)) (pe_ix (kIx K rfl (hu_of hr)) (pv 1) pe_int (fun _ _ => rfl)) (fun _ _ => rfl)) (pe_ix (kIx K rfl (hu_of hr)) (pe_ix (kIx K rfl (hu_of hr)) (pv 0) pe_int (fun _ _ => rfl)) (pe_ix (kIx K rfl (hu_of hr)) (pv 1) pe_int (fun _ _ => rfl)) (fun _ _ => rfl))))), fun so a => ?_⟩
  obtain ⟨⟨T, o, i⟩, hT, hl⟩ := a
  have hi : i < (T.way o).length := Qd.mem_lets.mp hl
  have e : (T.way o)[i]? = some (Qd.tm T (o, i)) := by
    show _ = some ((T.way o).getD i 0)
    rw [List.getD_eq_getElem?_getD, List.getElem?_eq_getElem hi]
    rfl
  refine es_ret (ev_if (P := intP (Qd.tm T (o, i))) (et_test (ev_isOut (ev_lt0 (ev_var rfl)) ev_val)) (fun h => ?_) fun h => ?_) (Le.refl _)
  · have h : o = true := h
    subst h
    have e : T.out[i]? = some (Qd.tm T (true, i)) := e
    exact ev_ixL (n := i) (tk0 (T := T) (ev_var rfl)) (ev_lt1 (l := (true, i)) (ev_var rfl)) rfl (by rw [List.getElem?_map, e]; rfl)
  · have h : o = false := h
    subst h
    have e : T.bk[i]? = some (Qd.tm T (false, i)) := e
    exact ev_ixL (n := i) (tk1 (T := T) (ev_var rfl)) (ev_lt1 (l := (false, i)) (ev_var rfl)) rfl (by rw [List.getElem?_map, e]; rfl)
def pre_law_span (K : PySem.W.Frag) (_ : Option Addr) (a : RTBL) : List Pd := [lineP a.1.1, tkL a.1.2.1, intP (a.1.2.2.1 : Int), Qt.ltP a.1.2.2.2]
def out_law_span (K : PySem.W.Frag) (a : RTBL) : Pd := lstP [intP (Qd.win a.1.1 a.1.2.1 a.1.2.2.1 a.1.2.2.2).1, intP (Qd.win a.1.1 a.1.2.1 a.1.2.2.1 a.1.2.2.2).2]
theorem ok_law_span (Y : Kit K mg) : Dfn P w K mg base 2 "_law_span" ["_law_line_here", "_law_talk_here", "_law_b", "_law_letter"] (spF (pre_law_span K) (out_law_span K)) := by
  obtain ⟨fd, F⟩ := Y.def_ 45 (d := d_law_span)
  have S : FnScope ["_law_line_here", "_law_talk_here", "_law_b", "_law_letter", "_law_some", "_law_time", "_law_step"] ["_law_line_here", "_law_talk_here", "_law_b", "_law_letter"] (defScope s_law_span) := ⟨rfl, rfl, rfl, by decide +kernel, rfl, by decide +kernel, by decide +kernel⟩
  refine ⟨_, fd, Y.glo 45, F.kp, (F.bindsN fun _ _ _ _ _ _ us hl => match us, hl with | [_, _, _, _], _ => rfl), ?_⟩
  refine fn_ty (N := ["_law_line_here", "_law_talk_here", "_law_b", "_law_letter", "_law_some", "_law_time", "_law_step"]) (Fall := False) F S (fun _ _ => rfl) (fun h => h.elim) fun cdv A outer s H E hr => ⟨_, (pss_cons (ps_set (i := 4) S.nd rfl (Or.inl rfl) (pe_ifExp (pt_cmpR (kEq K rfl hr.units) (pe_ix (kIx K rfl (hu_of hr)) (pv 3) pe_int (fun _ _ => rfl)) pe_str (nomark _)) (pe_slice (kSl K rfl) (pe_ix (kIx K rfl (hu_of hr)) (pv 0) pe_int (fun _ _ => rfl)) po_none (po_some (pe_op (kAdd K rfl) (pv 2) pe_int))) (pe_slice (kSl K rfl) (pe_ix (kIx K rfl (hu_of hr)) (pv 0) pe_int (fun _ _ => rfl)) (po_some (pe_op (kAdd K rfl) (pv 2) pe_int)) po_none))) (pss_cons (ps_set (i := 5) S.nd rfl (Or.inl rfl) (pe_dfn (ok_law_sent Y) hr (pa_cons (pv 1) (pa_cons (pv 3) pa_nil)))) (pss_one (ps_ret (pe_lst (pa_cons (pe_op (kAdd K rfl) (pv 5) (pe_callB (kSum K rfl rfl) rfl (Y.free 67) boot_sum (pa_cons (pe_lc rfl S.nd (kPL K rfl (pv 4)) (blkOk_by (N := ["_law_line_here", "_law_talk_here", "_law_b", "_law_letter", "_law_some", "_law_time", "_law_step"]) (sc := defScope s_law_span) (own := [("_law_step", 6)]) (by decide +kernel)) (fun _ _ _ _ _ => (pg_name S.nd (i := 6) rfl (Or.inl rfl) (Or.inr rfl))) (fun _ _ _ _ _ => pts_nil) (fun _ _ _ _ _ => (pe_callTy call_int1 rfl (Y.free 70) boot_int (pa_cons (pe_ix (kIx K rfl (hu_of hr)) (pv 6) pe_int (fun _ _ => rfl)) pa_nil)))) pa_nil))) (pa_cons (pe_op (kAdd K rfl) (pv 5) (pe_callB (kSum K rfl rfl) rfl (Y.free 67) boot_sum (pa_cons (pe_lc rfl S.nd (kPL K rfl (pv 4)) (blkOk_by (N := ["_law_line_here", "_law_talk_here", "_law_b", "_law_letter", "_law_some", "_law_time", "_law_step"]) (sc := defScope s_law_span) (own := [("_law_step", 6)]) (by decide +kernel)) (fun _ _ _ _ _ => (pg_name S.nd (i := 6) rfl (Or.inl rfl) (Or.inr rfl))) (fun _ _ _ _ _ => pts_nil) (fun _ _ _ _ _ => (pe_callTy call_int1 rfl (Y.free 70) boot_int (pa_cons (pe_ix (kIx K rfl (hu_of hr)) (pv 6) pe_int (fun _ _ => rfl)) pa_nil)))) pa_nil))) pa_nil))))))), fun so a => ?_⟩
  obtain ⟨⟨L, T, b, o, i⟩, hL, hT, hb, hl⟩ := a
  have hL : Qd.LnOk L := hL
  have hz := lkLen hL
  have e : (b : Int) + 1 = ((b + 1 : Nat) : Int) := by omega
  refine es_then (es_set (P := lstP ((Qd.part L b o).map lkP)) (ev_if (et_test (ev_isOut (ev_lt0 (l := (o, i)) (ev_var rfl)) ev_val)) (fun h => ?_) fun h => ?_) (egName rfl) rfl) ?_
  · have h : o = true := h
    subst h
    refine Ev.eq (ev_slL (line1 (L := L) (ev_var rfl)) eo_none (eo_some (ev_addI (i := (b : Int)) (ev_var rfl) ev_val))) ?_
    rw [e, cut_take]
    show lstP ((L.lk.map lkP).take (b + 1)) = lstP ((L.lk.take (b + 1)).map lkP)
    rw [List.map_take]
  · have h : o = false := h
    subst h
    refine Ev.eq (ev_slL (line1 (L := L) (ev_var rfl)) (eo_some (ev_addI (i := (b : Int)) (ev_var rfl) ev_val)) eo_none) ?_
    rw [e, cut_drop]
    show lstP ((L.lk.map lkP).drop (b + 1)) = lstP ((L.lk.drop (b + 1)).map lkP)
    rw [List.map_drop]
  have hpl : (Qd.part L b o).length < 1000 := by
    unfold Qd.part
    cases o with
    | true =>
      rw [if_pos rfl, List.length_take]
      omega
    | false =>
      rw [if_neg Bool.false_ne_true, List.length_drop]
      omega
  refine es_then (es_set (ev_call (a := (⟨(T, o, i), hT, hl⟩ : TL)) (ea_cons (ev_var rfl) (ea_cons (ev_var rfl) ea_nil))) (egName rfl) rfl) ?_
  have ix : ∀ (Γ : Qt.Ctx) (k : Int × Int) (j : Nat) (n : Nat) (P : Pd), Γ.sl[j]? = some (some (lkP k)) → [intP k.1, intP k.2][n]? = some P → Ev so (tOp (rIxU K) (tVar j) (tC (.int (n : Int)))) Γ P := fun Γ k j n P h e => ev_ixT (n := n) (Ps := [intP k.1, intP k.2]) (ev_var h) ev_val rfl e
  refine es_ret (evLst (ea_cons (ev_addI (ev_var rfl) (ev_sumMap (l := Qd.part L b o) (g := fun k => k.1) (ev_lc0 (Qd.part L b o) lkP (fun k => intP k.1) (ei_list (ev_var rfl)) rfl (sz (by omega)) (fun _ h => h) (fun _ _ => egName rfl) fun k _ => ev_int (ix _ k _ 0 _ rfl rfl)))) (ea_cons (ev_addI (ev_var rfl) (ev_sumMap (l := Qd.part L b o) (g := fun k => k.2) (ev_lc0 (Qd.part L b o) lkP (fun k => intP k.2) (ei_list (ev_var rfl)) rfl (sz (by omega)) (fun _ h => h) (fun _ _ => egName rfl) fun k _ => ev_int (ix _ k _ 1 _ rfl rfl)))) ea_nil)) rfl) (Le.of_eq ?_)
  rfl
def pre_law_is_sight (K : PySem.W.Frag) (_ : Option Addr) (a : LBL) : List Pd := [lineP a.1.1, intP (a.1.2.1 : Int), Qt.ltP a.1.2.2]
def out_law_is_sight (K : PySem.W.Frag) (a : LBL) : Pd := blP (Qd.sight a.1.1 a.1.2.1 a.1.2.2)
theorem lbox {L : Qd.Ln} {b : Nat} {so : Option Addr} {Γ : Qt.Ctx} {te ti : TE} (h : Ev so te Γ (lineP L)) (hi : Ev so ti Γ (intP (b : Int))) (hb : b < L.bx.length) : Ev so (tOp (rIxU K) (tOp (rIxU K) te (tC (.int 0))) ti) Γ (bxL L.bx[b]) :=
  ev_ixL (n := b) (line0 h) hi rfl (by rw [List.getElem?_map, List.getElem?_eq_getElem hb]; rfl)
theorem ok_law_is_sight (Y : Kit K mg) : Dfn P w K mg base 1 "_law_is_sight" ["_law_line_here", "_law_b", "_law_letter"] (spF (pre_law_is_sight K) (out_law_is_sight K)) := by
  obtain ⟨fd, F⟩ := Y.def_ 46 (d := d_law_is_sight)
  have S : FnScope ["_law_line_here", "_law_b", "_law_letter"] ["_law_line_here", "_law_b", "_law_letter"] (defScope s_law_is_sight) := ⟨rfl, rfl, rfl, by decide +kernel, rfl, by decide +kernel, by decide +kernel⟩
  refine ⟨_, fd, Y.glo 46, F.kp, (F.bindsN fun _ _ _ _ _ _ us hl => match us, hl with | [_, _, _], _ => rfl), ?_⟩
  refine fn_ty (N := ["_law_line_here", "_law_b", "_law_letter"]) (Fall := False) F S (fun _ _ => rfl) (fun h => h.elim) fun cdv A outer s H E hr => ⟨_, (pss_one (ps_ret (pe_or (pe_cmpR (kEq K rfl hr.units) (pe_ix (kIx K rfl (hu_of hr)) (pv 2) pe_int (fun _ _ => rfl)) pe_str (nomark _)) (pe_one (pe_cmpR (kEq K rfl hr.units) (pe_ix (kIx K rfl (hu_of hr)) (pe_ix (kIx K rfl (hu_of hr)) (pe_ix (kIx K rfl (hu_of hr)) (pv 0) pe_int (fun _ _ => rfl)) (pv 1) (fun _ _ => rfl)) pe_int (fun _ _ => rfl)) pe_str (nomark _)))))), fun so a => ?_⟩
  obtain ⟨⟨L, b, o, i⟩, hL, hb⟩ := a
  have hb : b < L.bx.length := hb
  refine es_ret (ev_orV (ev_isOut (ev_lt0 (l := (o, i)) (ev_var rfl)) ev_val) fun _ => ev_eqStr (ev_ixL (n := 3) (Ps := [intP L.bx[b].low, intP L.bx[b].high, intP L.bx[b].rest, strP (bw L.bx[b].both)]) (lbox (L := L) (b := b) (ev_var rfl) (ev_var rfl) hb) ev_val rfl rfl) ev_val (bw_can _)) (Le.of_eq ?_)
  show blP (o || (bw L.bx[b].both == Str.ofString "both")) = blP (o || Qd.bothAt L b)
  rw [bw_both]
  unfold Qd.bothAt
  rw [List.getElem?_eq_getElem hb]
  rfl

end
end Qp
set_option Elab.async false
set_option linter.all false
set_option maxRecDepth 100000
set_option maxHeartbeats 4000000
namespace Qp
open PySem PySem.Spec PyProof.Rows L2 Qr Qt Qf RZ
section
variable {P : Program} {w : World} {K : PySem.W.Frag} {mg : Str → Option Value} {base : Heap}

theorem kGl {X : Cx} {pos : Pos} (K : PySem.W.Frag) (h : X.K = K) {es : List Expr} {k : Nat} {t : TGs} (n : Nat) (hc : X.calm = true) (hg : PGs X es t) (hn : (assignEach es X.env).length = n := by rfl) (hst : (assignEach es X.env).findIdx? (·.1) = none := by rfl) : PG X (.Tuple es k pos) (gLst K n t) := h ▸ pg_lst hc hg hn hst
theorem egLst2 {so : Option Addr} {Γ : Qt.Ctx} {A B : Pd} {i j : Nat} (h : freeAt Γ i = true) (h2 : freeAt (Γ.put i A) j = true) : EvG so (gLst K 2 (gCons (gName i) (gCons (gName j) gNil))) (lstP [A, B]) Γ ((Γ.put i A).put j B) [i, j] := fun Z V0 O σ H x Q S ⟨a, xs, e, hx, q⟩ k =>
  ⟨a, xs, e, .inl (.inl (vis_some.mp hx).2), by rw [q.length]; rfl, (eg_cons (egName h) (eg_cons (egName h2) eg_nil)) Z V0 O σ H xs _ S q k⟩
theorem es_parA {so : Option Addr} {Γ : Qt.Ctx} {A B : Pd} {i j : Nat} {ta : TA} {N : Qt.Ctx → Prop} {R : Pd} (ha : EvA so ta Γ [A, B]) (h : freeAt Γ i = true) (h2 : freeAt (Γ.put i A) j = true) (hn : N ((Γ.put i A).put j B)) : EvS so (tPar i j ta) Γ N R := fun Z V0 O σ H D S n r =>
  ha Z V0 O σ H _ S fun vs H1 m p => by
    obtain ⟨x, y, rfl, px, py⟩ := allP2 p
    obtain ⟨a1, a2, a3⟩ := freeAt_ok h
    obtain ⟨b1, b2, b3⟩ := freeAt_ok h2
    exact ⟨x, y, rfl, n _ O _ H1 hn (((S.mv m).set (P := A) a1 px a2 a3).set (P := B) b1 py b2 b3)⟩
def pre_law_can_lose (K : PySem.W.Frag) (_ : Option Addr) (a : CL) : List Pd := [tkL a.1.1, lstP (a.1.2.map Qt.ltP)]
def out_law_can_lose (K : PySem.W.Frag) (a : CL) : Pd := blP (Qd.canLoseB a.1.1 a.1.2)
theorem ok_law_can_lose (Y : Kit K mg) : Dfn P w K mg base 1 "_law_can_lose" ["_law_talk_here", "_law_gone_here"] (spF (pre_law_can_lose K) (out_law_can_lose K)) := by
  obtain ⟨fd, F⟩ := Y.def_ 47 (d := d_law_can_lose)
  have S : FnScope ["_law_talk_here", "_law_gone_here", "_law_word", "_law_many", "_law_k"] ["_law_talk_here", "_law_gone_here"] (defScope s_law_can_lose) := ⟨rfl, rfl, rfl, by decide +kernel, rfl, by decide +kernel, by decide +kernel⟩
  refine ⟨_, fd, Y.glo 47, F.kp, (F.bindsN fun _ _ _ _ _ _ us hl => match us, hl with | [_, _], _ => rfl), ?_⟩
  refine fn_ty (N := ["_law_talk_here", "_law_gone_here", "_law_word", "_law_many", "_law_k"]) (Fall := False) F S (fun _ _ => rfl) (fun h => h.elim) fun cdv A outer s H E hr => ⟨_, (pss_cons (ps_for PassesOwn.never rfl (kPL K rfl (pe_lst (pa_cons pe_str (pa_cons pe_str pa_nil)))) (pg_name S.nd (i := 2) rfl (Or.inl rfl) (Or.inl rfl)) (pss_cons (ps_set (i := 3) S.nd rfl (Or.inl rfl) pe_int) (pss_one (ps_for PassesOwn.never rfl (pi_range1 rfl (Y.free 63) (pa_cons (pe_callB (kLen K rfl) rfl (Y.free 62) boot_len (pa_cons (pe_ix (kIx K rfl (hu_of hr)) (pv 0) (pe_ifExp (pt_cmpR (kEq K rfl hr.units) (pv 2) pe_str (nomark _)) pe_int pe_int) (fun _ _ => rfl)) pa_nil)) pa_nil)) (pg_name S.nd (i := 4) rfl (Or.inl rfl) (Or.inl rfl)) (pss_cons (ps_set (i := 3) S.nd rfl (Or.inl rfl) (pe_ifExp (pt_cmpR (kIn K rfl (u65 hr)) (pe_tup (pa_cons (pv 2) (pa_cons (pv 4) pa_nil))) (pv 1) (by with_unfolding_all rfl)) (pe_op (kAdd K rfl) (pv 3) pe_int) pe_int)) (pss_one (ps_if (pt_cmpR op_gt (pv 3) (pe_ix (kIx K rfl (hu_of hr)) (pv 0) pe_int (fun _ _ => rfl)) (nomark _)) (pss_one (ps_ret pe_bl)) pss_nil))))))) (pss_one (ps_ret pe_bl))), fun so a => ?_⟩
  obtain ⟨⟨T, g⟩, hT, hg⟩ := a
  have hT : Qd.TkOk T := hT
  have z1 := hT.out.2.2
  have z2 := hT.bk.2.2
  let Γs : Qt.Ctx := ⟨[some (tkL T), some (lstP (g.map Qt.ltP)), none, none, none], none, none⟩
  let ok : Bool → Bool := fun o => Qd.runOk T.ls (fun k => decide ((o, k) ∈ g)) 0 (T.way o).length 0
  have eB : Qd.canLoseB T g = (ok true && ok false) := rfl
  have turn : ∀ (o : Bool) (M : Qt.Ctx → Prop), (ok o = true → M Γs) → (∀ G G', CLe G G' → M G' → M G) → ∃ Γb is, EvG so (gName 2) (strP (wd o)) Γs Γb is ∧ EvS so (tSeq (tAsg (tC (.int 0)) (gName 3)) (tFor (iRng1 (tCons (tCB (rLenU K) (tCons (tOp (rIxU K) (tVar 0) (tIf (tTest (tOp (rEqD K) (tVar 2) (tC (.str "out")))) (tC (.int 0)) (tC (.int 1)))) tNil)) tNil)) (gName 4) (tSeq (tAsg (tIf (tTest (tOp (rInU K) (tTup (tCons (tVar 2) (tCons (tVar 4) tNil))) (tVar 1))) (tOp (rAddU K) (tVar 3) (tC (.int 1))) (tC (.int 0))) (gName 3))
      (tIfS (tTest (tOp (rI0 fun i j => .bl (decide (j < i))) (tVar 3) (tOp (rIxU K) (tVar 0) (tC (.int 2))))) (tRet (tC (.bl false))) tNext)))) Γb M (blP (Qd.canLoseB T g)) := by
    intro o M hM hMl
    refine ⟨_, _, egName rfl, es_then (es_set (P := intP 0) ev_val (egName rfl) rfl) ?_⟩
    let f : Nat → Bool := fun k => decide ((o, k) ∈ g)
    let n := (T.way o).length
    have hn : n ≤ 60 := by
      show (T.way o).length ≤ 60
      unfold Qd.Tk.way
      cases o
      · exact z2
      · exact z1
    let Γi : Nat → Qt.Ctx := fun c => ⟨[some (tkL T), some (lstP (g.map Qt.ltP)), some (strP (wd o)), some (intP (c : Int)), none], none, none⟩
    have wayE : ∀ Γ : Qt.Ctx, Γ.sl[0]? = some (some (tkL T)) → Γ.sl[2]? = some (some (strP (wd o))) → Ev so (tOp (rIxU K) (tVar 0) (tIf (tTest (tOp (rEqD K) (tVar 2) (tC (.str "out")))) (tC (.int 0)) (tC (.int 1)))) Γ (lstP ((T.way o).map fun n => intP n)) := fun Γ h0 h2 => by
      cases o with
      | true => exact ev_ixL (n := 0) (i := 0) (Ps := [lstP (T.out.map fun n => intP n), lstP (T.bk.map fun n => intP n), intP (T.ls : Int)]) (ev_var h0) (ev_if (et_test (ev_isOut (ev_var h2) ev_val)) (fun _ => ev_val) fun z => absurd z (by decide)) rfl rfl
      | false => exact ev_ixL (n := 1) (i := 1) (Ps := [lstP (T.out.map fun n => intP n), lstP (T.bk.map fun n => intP n), intP (T.ls : Int)]) (ev_var h0) (ev_if (et_test (ev_isOut (ev_var h2) ev_val)) (fun z => absurd z (by decide)) fun _ => ev_val) rfl rfl
    have el : (((T.way o).map fun n => intP n).length : Int) = (n : Int) := by rw [List.length_map]
    refine es_forC (fun j G => ∃ c, G = Γi c ∧ ok o = Qd.runOk T.ls f j (n - j) c) (ei_rng (n := n) (ev_lenL (wayE _ rfl rfl)) el (Int.lt_of_le_of_lt (Int.le_of_eq el) (by omega))) (Γi 0) (CLe.refl _) ⟨0, rfl, rfl⟩ (fun j P Γj eP hJ => ?_) (fun Γ' hJ => ?_) (fun G Γ' l h => ?_)
    · obtain ⟨c, rfl, hc⟩ := hJ
      obtain ⟨h1, rfl⟩ := map_at eP
      rw [List.length_range] at h1
      rw [List.getElem_range]
      refine ⟨_, _, egName rfl, ?_⟩
      have en : n - j = (n - (j + 1)) + 1 := by omega
      rw [en] at hc
      unfold Qd.runOk at hc
      refine es_then (es_set (P := intP ((if f j = true then c + 1 else 0 : Nat) : Int)) (ev_if (et_test (ev_inLts (g := g) (l := (o, j)) (evTup (ea_cons (ev_var rfl) (ea_cons (ev_var rfl) ea_nil)) rfl) (ev_var rfl))) (fun h => ?_) fun h => ?_) (egName rfl) rfl) ?_
      · have h : f j = true := h
        rw [if_pos h]
        exact ev_addI (i := (c : Int)) (ev_var rfl) ev_val
      · have h : f j = false := h
        rw [h, if_neg Bool.false_ne_true]
        exact ev_val
      · refine es_if (et_test (ev_rI0 (ev_var rfl) (tk2 (T := T) (ev_var rfl)))) (fun hd => ?_) fun hd => ?_
        · have hd := of_decide_eq_true hd
          refine es_ret ev_val (Le.of_eq ?_)
          have e : ok o = false := by
            rw [hc]
            cases e : f j with
            | true =>
              rw [e, if_pos rfl] at hd
              rw [if_pos rfl, if_pos (by omega)]
            | false =>
              rw [e, if_neg Bool.false_ne_true] at hd
              omega
          have e2 : Qd.canLoseB T g = false := by
            rw [eB]
            cases o
            · rw [e, Bool.and_false]
            · rw [e, Bool.false_and]
          rw [e2]
        · have hd := of_decide_eq_false hd
          refine es_next ⟨Γi (if f j = true then c + 1 else 0), CLe.of ?_ rfl rfl, _, rfl, ?_⟩
          · exact ⟨Le.refl _, Le.refl _, Le.refl _, Le.refl _, trivial⟩
          · rw [hc]
            cases e : f j with
            | true =>
              rw [e, if_pos rfl] at hd
              rw [if_pos rfl, if_neg (by omega), if_pos rfl]
            | false => rw [if_neg Bool.false_ne_true, if_neg Bool.false_ne_true]
    · obtain ⟨c, rfl, hc⟩ := hJ
      rw [List.length_map, List.length_range, Nat.sub_self] at hc
      have e : ok o = true := by
        rw [hc]
        unfold Qd.runOk
        rfl
      exact hMl _ Γs (CLe.of ⟨Le.refl _, Le.refl _, trivial⟩ rfl rfl) (hM e)
    · exact hMl G Γ' l h
  refine es_forT (fun i G => G = Γs ∧ (1 ≤ i → ok true = true) ∧ (2 ≤ i → ok false = true)) (ei_list (evLst (ea_cons ev_val (ea_cons ev_val ea_nil)) rfl)) Γs (CLe.refl _) ⟨rfl, fun h => absurd h (by decide), fun h => absurd h (by decide)⟩ (fun i P Γi eP hI => ?_) fun Γ' hI => ?_
  · obtain ⟨rfl, hI1, hI2⟩ := hI
    have cl : ∀ j : Nat, ∀ G G', CLe G G' → (∃ Γ', CLe G' Γ' ∧ Γ' = Γs ∧ (1 ≤ j → ok true = true) ∧ (2 ≤ j → ok false = true)) → ∃ Γ', CLe G Γ' ∧ Γ' = Γs ∧ (1 ≤ j → ok true = true) ∧ (2 ≤ j → ok false = true) := fun j G G' l ⟨Γ2, l2, h2⟩ => ⟨Γ2, cle_trans l l2, h2⟩
    match i, eP with
    | 0, e =>
      have e2 : strP "out" = P := Option.some.inj e
      subst e2
      exact turn true _ (fun h => ⟨Γs, CLe.refl _, rfl, fun _ => h, fun z => absurd z (by decide)⟩) (cl 1)
    | 1, e =>
      have e2 : strP "back" = P := Option.some.inj e
      subst e2
      exact turn false _ (fun h => ⟨Γs, CLe.refl _, rfl, fun _ => hI1 (by decide), fun _ => h⟩) (cl 2)
    | _ + 2, e => cases e
  · obtain ⟨rfl, hI1, hI2⟩ := hI
    refine es_ret ev_val (Le.of_eq ?_)
    show blP true = blP (Qd.canLoseB T g)
    rw [eB, hI1 (by show 1 ≤ 2; decide), hI2 (by show 2 ≤ 2; decide)]
    rfl
def pre_law_gone (K : PySem.W.Frag) (_ : Option Addr) (a : LI) : List Pd := [lineP a.L, tkL a.T, intP (a.b : Int), Qt.ltP a.p, Qt.ltP a.q]
abbrev ltsL (g : List Qd.Lt) : Pd := lstP (g.map Qt.ltP)
def out_law_gone (K : PySem.W.Frag) (a : LI) : Pd := optP (Qd.goneIn a.L a.T a.b a.p a.q) ltsL
theorem evSpan0 {a : RTBL} {so : Option Addr} {Γ : Qt.Ctx} {t : TA} (h : EvA so t Γ (pre_law_span K so a)) : Ev so (tOp (rIxU K) (tCall (spF (pre_law_span K) (out_law_span K)) [] E0 t) (tC (.int 0))) Γ (intP (Qd.win a.1.1 a.1.2.1 a.1.2.2.1 a.1.2.2.2).1) :=
  ev_ixL (n := 0) (Ps := [intP (Qd.win a.1.1 a.1.2.1 a.1.2.2.1 a.1.2.2.2).1, intP (Qd.win a.1.1 a.1.2.1 a.1.2.2.1 a.1.2.2.2).2]) (ev_call h) ev_val rfl rfl
theorem evSpan1 {a : RTBL} {so : Option Addr} {Γ : Qt.Ctx} {t : TA} (h : EvA so t Γ (pre_law_span K so a)) : Ev so (tOp (rIxU K) (tCall (spF (pre_law_span K) (out_law_span K)) [] E0 t) (tC (.int 1))) Γ (intP (Qd.win a.1.1 a.1.2.1 a.1.2.2.1 a.1.2.2.2).2) :=
  ev_ixL (n := 1) (Ps := [intP (Qd.win a.1.1 a.1.2.1 a.1.2.2.1 a.1.2.2.2).1, intP (Qd.win a.1.1 a.1.2.1 a.1.2.2.1 a.1.2.2.2).2]) (ev_call h) ev_val rfl rfl
theorem ok_law_gone (Y : Kit K mg) : Dfn P w K mg base 3 "_law_gone" ["_law_line_here", "_law_talk_here", "_law_b", "_law_one", "_law_other"] (spF (pre_law_gone K) (out_law_gone K)) := by
  obtain ⟨fd, F⟩ := Y.def_ 48 (d := d_law_gone)
  have S : FnScope ["_law_line_here", "_law_talk_here", "_law_b", "_law_one", "_law_other", "_law_start", "_law_end", "_law_found", "_law_letter", "_law_early", "_law_late"] ["_law_line_here", "_law_talk_here", "_law_b", "_law_one", "_law_other"] (defScope s_law_gone) := ⟨rfl, rfl, rfl, by decide +kernel, rfl, by decide +kernel, by decide +kernel⟩
  refine ⟨_, fd, Y.glo 48, F.kp, (F.bindsN fun _ _ _ _ _ _ us hl => match us, hl with | [_, _, _, _, _], _ => rfl), ?_⟩
  refine fn_ty (N := ["_law_line_here", "_law_talk_here", "_law_b", "_law_one", "_law_other", "_law_start", "_law_end", "_law_found", "_law_letter", "_law_early", "_law_late"]) (Fall := False) F S (fun _ _ => rfl) (fun h => h.elim) fun cdv A outer s H E hr => ⟨_, (pss_cons (ps_par (i := 5) (j := 6) rfl S.nd rfl rfl (by decide) rfl rfl (pa_cons (pe_ix (kIx K rfl (hu_of hr)) (pe_dfn (ok_law_span Y) hr (pa_cons (pv 0) (pa_cons (pv 1) (pa_cons (pv 2) (pa_cons (pv 3) pa_nil))))) pe_int (fun _ _ => rfl)) (pa_cons (pe_ix (kIx K rfl (hu_of hr)) (pe_dfn (ok_law_span Y) hr (pa_cons (pv 0) (pa_cons (pv 1) (pa_cons (pv 2) (pa_cons (pv 4) pa_nil))))) pe_int (fun _ _ => rfl)) pa_nil)) (by rfl)) (pss_cons (ps_if (PW.pt (pw_or (pt_cmpR op_le (pv 6) (pv 5) (nomark _)) (pw_or1 (pt_not (pt_val (pe_dfn (ok_law_is_sight Y) hr (pa_cons (pv 0) (pa_cons (pv 2) (pa_cons (pv 3) pa_nil))))))))) (pss_one (ps_ret pe_non)) pss_nil) (pss_cons (ps_set (i := 7) S.nd rfl (Or.inl rfl) (pe_lst pa_nil)) (pss_cons (ps_for PassesOwn.never rfl (kPL K rfl (pe_dfn (ok_law_letters Y) hr (pa_cons (pv 1) pa_nil))) (pg_name S.nd (i := 8) rfl (Or.inl rfl) (Or.inl rfl)) (pss_one (ps_if (PW.pt (pw_and (pt_cmpR (kNotIn K rfl (u65 hr)) (pv 8) (pe_tup (pa_cons (pv 3) (pa_cons (pv 4) pa_nil))) (by with_unfolding_all rfl)) (pw_and1 (pt_val (pe_dfn (ok_law_is_sight Y) hr (pa_cons (pv 0) (pa_cons (pv 2) (pa_cons (pv 8) pa_nil)))))))) (pss_cons (ps_asg (pe_dfn (ok_law_span Y) hr (pa_cons (pv 0) (pa_cons (pv 1) (pa_cons (pv 2) (pa_cons (pv 8) pa_nil))))) (kGl K rfl 2 rfl (pgs_cons (pg_name S.nd (i := 9) rfl (Or.inl rfl) (Or.inl rfl)) (pgs_cons (pg_name S.nd (i := 10) rfl (Or.inl rfl) (Or.inl rfl)) pgs_nil)))) (pss_one (ps_if (PW.pt (pw_and (pt_cmpR op_gt (pv 9) (pv 5) (nomark _)) (pw_and1 (pt_cmpR op_lt (pv 10) (pv 6) (nomark _))))) (pss_one (ps_expr (kApp K rfl (pv 7) (pv 8)))) pss_nil))) pss_nil))) (pss_one (ps_ret (pe_ifExp (pt_val (pe_dfn (ok_law_can_lose Y) hr (pa_cons (pv 1) (pa_cons (pv 7) pa_nil)))) (pv 7) pe_non))))))), fun so a => ?_⟩
  obtain ⟨L, T, b, p, q, hL, hT, hb, hp, hq⟩ := a
  have hlen := lets_len hT
  refine es_then (es_parA (ea_cons (evSpan0 (a := ⟨(L, T, b, p), hL, hT, hb, hp⟩) (ea_cons (ev_var rfl) (ea_cons (ev_var rfl) (ea_cons (ev_var rfl) (ea_cons (ev_var rfl) ea_nil))))) (ea_cons (evSpan1 (a := ⟨(L, T, b, q), hL, hT, hb, hq⟩) (ea_cons (ev_var rfl) (ea_cons (ev_var rfl) (ea_cons (ev_var rfl) (ea_cons (ev_var rfl) ea_nil))))) ea_nil)) rfl rfl rfl) ?_
  refine es_guard (et_or (et_test (ev_rI0 (i := (Qd.win L T b q).2) (j := (Qd.win L T b p).1) (ev_var rfl) (ev_var rfl))) fun _ => et_not (et_val (ev_call (a := (⟨(L, b, p), hL, hb⟩ : LBL)) (ea_cons (ev_var rfl) (ea_cons (ev_var rfl) (ea_cons (ev_var rfl) ea_nil)))))) (fun hc => ?_) fun hc => ?_
  · refine es_ret (ev_val (v := .non)) (Le.of_eq ?_)
    have hc : (decide ((Qd.win L T b q).2 ≤ (Qd.win L T b p).1) || !Qd.sight L b p) = true := hc
    show nonP = optP (Qd.goneIn L T b p q) ltsL
    unfold Qd.goneIn
    rw [hc]
    rfl
  have hc : (decide ((Qd.win L T b q).2 ≤ (Qd.win L T b p).1) || !Qd.sight L b p) = false := hc
  refine es_then (es_new (ltB rfl) rfl) ?_
  let f : Qd.Lt → Bool := fun l => (Qd.other p q l && Qd.sight L b l) && Qd.within L T b p q l
  let Γs : List Qd.Lt → Qt.Ctx := fun l => ⟨[some (lineP L), some (tkL T), some (intP (b : Int)), some (Qt.ltP p), some (Qt.ltP q), some (intP (Qd.win L T b p).1), some (intP (Qd.win L T b q).2), none, none, none, none], some (7, l.map Qt.ltP), none⟩
  refine es_forT (fun i G => G = Γs (((Qd.lets T).take i).filter f)) (ei_list (Ps := (Qd.lets T).map Qt.ltP) (ev_call (a := (⟨T, hT⟩ : TkA)) (ea_cons (ev_var rfl) ea_nil))) (Γs []) (CLe.refl _) rfl (fun i P Γi eP hI => ?_) fun Γ' hI => ?_
  · subst hI
    obtain ⟨h1, rfl⟩ := map_at eP
    have hl : (Qd.lets T)[i] ∈ Qd.lets T := List.getElem_mem h1
    have en : ((Qd.lets T).take (i + 1)).filter f = ((Qd.lets T).take i).filter f ++ (if f (Qd.lets T)[i] = true then [(Qd.lets T)[i]] else []) := filter_take_succ (List.getElem?_eq_getElem h1)
    have hfl := List.length_filter_le f ((Qd.lets T).take i)
    rw [List.length_take] at hfl
    generalize (Qd.lets T)[i] = l at hl en
    refine ⟨_, _, egName rfl, ?_⟩
    have stay : f l = false → ∃ Γ', CLe (Γs (((Qd.lets T).take i).filter f)) Γ' ∧ Γ' = Γs (((Qd.lets T).take (i + 1)).filter f) := fun e => ⟨_, by
      rw [en, e, if_neg Bool.false_ne_true, List.append_nil]
      exact CLe.refl _, rfl⟩
    refine es_if (et_and (EvT.eq (et_test (ev_notInLtsT (g := [p, q]) (l := l) (ev_var rfl) (evTup (ea_cons (ev_var rfl) (ea_cons (ev_var rfl) ea_nil)) rfl))) (other_eq p q l)) fun _ => et_val (ev_call (a := (⟨(L, b, l), hL, hb⟩ : LBL)) (ea_cons (ev_var rfl) (ea_cons (ev_var rfl) (ea_cons (ev_var rfl) ea_nil))))) (fun hd => ?_) fun hd => ?_
    · have hd : (Qd.other p q l && Qd.sight L b l) = true := hd
      refine es_then (es_set (P := lstP [intP (Qd.win L T b l).1, intP (Qd.win L T b l).2]) (ev_call (a := (⟨(L, T, b, l), hL, hT, hb, hl⟩ : RTBL)) (ea_cons (ev_var rfl) (ea_cons (ev_var rfl) (ea_cons (ev_var rfl) (ea_cons (ev_var rfl) ea_nil))))) (egLst2 rfl rfl) rfl) ?_
      refine es_if (et_and (et_test (ev_rI0 (i := (Qd.win L T b l).1) (j := (Qd.win L T b p).1) (ev_var rfl) (ev_var rfl))) fun _ => et_test (ev_rI0 (i := (Qd.win L T b l).2) (j := (Qd.win L T b q).2) (ev_var rfl) (ev_var rfl))) (fun he => ?_) fun he => ?_
      · have e : f l = true := by
          show ((Qd.other p q l && Qd.sight L b l) && Qd.within L T b p q l) = true
          rw [hd, Bool.true_and]
          exact he
        rw [e, if_pos rfl] at en
        refine es_append (Ps := (((Qd.lets T).take i).filter f).map Qt.ltP) (P := Qt.ltP l) rfl (sz (by rw [List.length_map]; omega)) (ev_var rfl) ⟨Γs (((Qd.lets T).take (i + 1)).filter f), CLe.of ?_ ?_ rfl, rfl⟩
        · exact ⟨Le.refl _, Le.refl _, Le.refl _, Le.refl _, Le.refl _, Le.refl _, Le.refl _, trivial⟩
        · show some (7, (((Qd.lets T).take (i + 1)).filter f).map Qt.ltP) = some (7, _ ++ [_])
          rw [en, List.map_append]
          rfl
      · have e : f l = false := by
          show ((Qd.other p q l && Qd.sight L b l) && Qd.within L T b p q l) = false
          rw [hd, Bool.true_and]
          exact he
        obtain ⟨Γ', l1, e1⟩ := stay e
        exact es_next ⟨Γ', cle_trans (CLe.of (Γ' := Γs (((Qd.lets T).take i).filter f)) ⟨Le.refl _, Le.refl _, Le.refl _, Le.refl _, Le.refl _, Le.refl _, Le.refl _, trivial⟩ rfl rfl) l1, e1⟩
    · have hd : (Qd.other p q l && Qd.sight L b l) = false := hd
      have e : f l = false := by
        show ((Qd.other p q l && Qd.sight L b l) && Qd.within L T b p q l) = false
        rw [hd, Bool.false_and]
      obtain ⟨Γ', l1, e1⟩ := stay e
      exact es_next ⟨Γ', cle_trans (CLe.of (Γ' := Γs (((Qd.lets T).take i).filter f)) ⟨Le.refl _, Le.refl _, Le.refl _, Le.refl _, Le.refl _, Le.refl _, Le.refl _, trivial⟩ rfl rfl) l1, e1⟩
  · subst hI
    rw [List.length_map, List.take_length]
    have hin : (Qd.innerB L T b p q).length ≤ 900 := by
      have z := List.length_filter_le f (Qd.lets T)
      show ((Qd.lets T).filter f).length ≤ 900
      omega
    refine es_pub (i := 7) rfl (ltB rfl) (es_ret (P := optP (Qd.goneIn L T b p q) ltsL) (ev_if (et_val (ev_call (a := (⟨(T, Qd.innerB L T b p q), hT, hin⟩ : CL)) (ea_cons (ev_var rfl) (ea_cons (ev_var rfl) ea_nil)))) (fun h => ?_) fun h => ?_) (Le.refl _))
    · have h : Qd.canLoseB T (Qd.innerB L T b p q) = true := h
      refine Ev.eq (ev_var rfl) ?_
      unfold Qd.goneIn
      rw [hc, h]
      rfl
    · have h : Qd.canLoseB T (Qd.innerB L T b p q) = false := h
      refine Ev.eq (ev_val (v := .non)) ?_
      unfold Qd.goneIn
      rw [hc, h]
      rfl

end
end Qp
set_option Elab.async false
set_option linter.all false
set_option maxRecDepth 100000
set_option maxHeartbeats 4000000
namespace Qp
open PySem PySem.Spec PyProof.Rows L2 Qr Qt Qf RZ
section
variable {P : Program} {w : World} {K : PySem.W.Frag} {mg : Str → Option Value} {base : Heap}

def pre_law_gaps (K : PySem.W.Frag) (_ : Option Addr) (a : RTB) : List Pd := [lineP a.1.1, tkL a.1.2.1, intP (a.1.2.2 : Int)]
def out_law_gaps (K : PySem.W.Frag) (a : RTB) : Pd := lstP ((Qd.gapsL a.1.1 a.1.2.1 a.1.2.2).map (g3P a.1.1 a.1.2.1 a.1.2.2))
theorem non_goneIn {L : Qd.Ln} {T : Qd.Tk} {b : Nat} {p q : Qd.Lt} : (!decide (p = q) && (Qd.goneIn L T b p q).isSome) = Qd.hasGap L T b p q := by
  by_cases h : p = q
  · rw [decide_eq_true h]
    unfold Qd.hasGap Qd.lostIn
    rw [decide_eq_true h]
    rfl
  · rw [decide_eq_false h, Qd.goneIn_eq h]
    rfl
theorem ok_law_gaps (Y : Kit K mg) : Dfn P w K mg base 4 "_law_gaps" ["_law_line_here", "_law_talk_here", "_law_b"] (spF (pre_law_gaps K) (out_law_gaps K)) := by
  obtain ⟨fd, F⟩ := Y.def_ 49 (d := d_law_gaps)
  have S : FnScope ["_law_line_here", "_law_talk_here", "_law_b", "_law_found", "_law_one", "_law_other"] ["_law_line_here", "_law_talk_here", "_law_b"] (defScope s_law_gaps) := ⟨rfl, rfl, rfl, by decide +kernel, rfl, by decide +kernel, by decide +kernel⟩
  refine ⟨_, fd, Y.glo 49, F.kp, (F.bindsN fun _ _ _ _ _ _ us hl => match us, hl with | [_, _, _], _ => rfl), ?_⟩
  refine fn_ty (N := ["_law_line_here", "_law_talk_here", "_law_b", "_law_found", "_law_one", "_law_other"]) (Fall := False) F S (fun _ _ => rfl) (fun h => h.elim) fun cdv A outer s H E hr => ⟨_, (pss_cons (ps_set (i := 3) S.nd rfl (Or.inl rfl) (pe_lst pa_nil)) (pss_cons (ps_for PassesOwn.never rfl (kPL K rfl (pe_dfn (ok_law_letters Y) hr (pa_cons (pv 1) pa_nil))) (pg_name S.nd (i := 4) rfl (Or.inl rfl) (Or.inl rfl)) (pss_one (ps_for PassesOwn.never rfl (kPL K rfl (pe_dfn (ok_law_letters Y) hr (pa_cons (pv 1) pa_nil))) (pg_name S.nd (i := 5) rfl (Or.inl rfl) (Or.inl rfl)) (pss_one (ps_if (PW.pt (pw_and (pt_cmpR (kNe K rfl hr.units) (pv 4) (pv 5) (nomark _)) (pw_and1 (pt_cmpR op_notN (pe_dfn (ok_law_gone Y) hr (pa_cons (pv 0) (pa_cons (pv 1) (pa_cons (pv 2) (pa_cons (pv 4) (pa_cons (pv 5) pa_nil)))))) pe_non (nomark _))))) (pss_one (ps_expr (kApp K rfl (pv 3) (pe_tup (pa_cons (pe_op op_sub (pe_ix (kIx K rfl (hu_of hr)) (pe_dfn (ok_law_span Y) hr (pa_cons (pv 0) (pa_cons (pv 1) (pa_cons (pv 2) (pa_cons (pv 5) pa_nil))))) pe_int (fun _ _ => rfl)) (pe_ix (kIx K rfl (hu_of hr)) (pe_dfn (ok_law_span Y) hr (pa_cons (pv 0) (pa_cons (pv 1) (pa_cons (pv 2) (pa_cons (pv 4) pa_nil))))) pe_int (fun _ _ => rfl))) (pa_cons (pv 4) (pa_cons (pv 5) pa_nil))))))) pss_nil))))) (pss_one (ps_ret (pv 3))))), fun so a => ?_⟩
  obtain ⟨⟨L, T, b⟩, hL, hT, hb⟩ := a
  have hT : Qd.TkOk T := hT
  have hlen := lets_len hT
  have e0 : Qd.gapsL L T b = (((Qd.lets T).flatMap fun p => (Qd.lets T).map fun q => (p, q)).filter fun z => Qd.hasGap L T b z.1 z.2) := by
    unfold Qd.gapsL
    rfl
  let gz : Qd.Lt × Qd.Lt → Bool := fun z => Qd.hasGap L T b z.1 z.2
  let Am : Nat → List (Qd.Lt × Qd.Lt) := fun i => (((Qd.lets T).take i).flatMap fun p => (Qd.lets T).map fun q => (p, q)).filter gz
  have hA : ∀ i, (Am i).length ≤ 14400 := fun i => by
    have z := List.length_filter_le gz (((Qd.lets T).take i).flatMap fun p => (Qd.lets T).map fun q => (p, q))
    rw [prod_len, List.length_take] at z
    have z2 : min i (Qd.lets T).length * (Qd.lets T).length ≤ 120 * 120 := Nat.mul_le_mul (by omega) hlen
    exact Nat.le_trans z z2
  let Γs : List (Qd.Lt × Qd.Lt) → Qt.Ctx := fun l => ⟨[some (lineP L), some (tkL T), some (intP (b : Int)), none, none, none], some (3, l.map (g3P L T b)), none⟩
  have letters : ∀ Γ : Qt.Ctx, Γ.sl[1]? = some (some (tkL T)) → EvI so (iList K (tCall (spF (pre_law_letters K) (out_law_letters K)) [] E0 (tCons (tVar 1) tNil))) Γ ((Qd.lets T).map Qt.ltP) := fun Γ h => ei_list (ev_call (a := (⟨T, hT⟩ : TkA)) (ea_cons (ev_var h) ea_nil))
  refine es_then (es_new (ltB rfl) rfl) ?_
  refine es_forT (fun i G => G = Γs (Am i)) (letters _ rfl) (Γs (Am 0)) (CLe.refl _) rfl (fun i P Γi eP hI => ?_) fun Γ' hI => ?_
  · subst hI
    obtain ⟨h1, rfl⟩ := map_at eP
    refine ⟨_, _, egName rfl, ?_⟩
    have hp : (Qd.lets T)[i] ∈ Qd.lets T := List.getElem_mem h1
    have eA : Am (i + 1) = Am i ++ ((Qd.lets T).map fun q => ((Qd.lets T)[i], q)).filter gz := by
      show (((Qd.lets T).take (i + 1)).flatMap _).filter gz = _
      rw [take_succ_at h1, List.flatMap_append, List.filter_append]
      simp only [List.flatMap_cons, List.flatMap_nil, List.append_nil]
      rfl
    generalize (Qd.lets T)[i] = p at hp eA
    let Bm : Nat → List (Qd.Lt × Qd.Lt) := fun j => Am i ++ (((Qd.lets T).take j).map fun q => (p, q)).filter gz
    let Γi : List (Qd.Lt × Qd.Lt) → Qt.Ctx := fun l => ⟨[some (lineP L), some (tkL T), some (intP (b : Int)), none, some (Qt.ltP p), none], some (3, l.map (g3P L T b)), none⟩
    refine es_forC (fun j G => G = Γi (Bm j)) (letters _ rfl) (Γi (Am i)) (CLe.refl _) ?_ (fun j P2 Γj eP2 hJ => ?_) (fun Γ' hJ => ?_) fun G Γ' l ⟨Γ2, l2, h2⟩ => ⟨Γ2, cle_trans l l2, h2⟩
    · show Γi (Am i) = Γi (Am i ++ _)
      rw [List.take_zero]
      simp
    · subst hJ
      obtain ⟨h2, rfl⟩ := map_at eP2
      refine ⟨_, _, egName rfl, ?_⟩
      have hq : (Qd.lets T)[j] ∈ Qd.lets T := List.getElem_mem h2
      have eB : Bm (j + 1) = Bm j ++ (if gz (p, (Qd.lets T)[j]) = true then [(p, (Qd.lets T)[j])] else []) := by
        show Am i ++ (((Qd.lets T).take (j + 1)).map _).filter gz = (Am i ++ _) ++ _
        rw [take_succ_at h2, List.map_append, List.filter_append, List.append_assoc]
        congr 2
        cases e : gz (p, (Qd.lets T)[j]) <;> simp [e]
      have hBl : (Bm j).length ≤ 14520 := by
        have z1 := hA i
        have z2 := List.length_filter_le gz (((Qd.lets T).take j).map fun q => (p, q))
        rw [List.length_map, List.length_take] at z2
        show (Am i ++ _).length ≤ _
        rw [List.length_append]
        omega
      generalize (Qd.lets T)[j] = q at hq eB
      refine es_if (EvT.eq (c := gz (p, q)) (et_and (et_test (ev_neLt (p := p) (q := q) (ev_var rfl) (ev_var rfl))) fun _ => et_test (ev_notN (P := optP (Qd.goneIn L T b p q) ltsL) (ev_call (a := (⟨L, T, b, p, q, hL, hT, hb, hp, hq⟩ : LI)) (ea_cons (ev_var rfl) (ea_cons (ev_var rfl) (ea_cons (ev_var rfl) (ea_cons (ev_var rfl) (ea_cons (ev_var rfl) ea_nil)))))))) (by rw [Bool.not_not]; exact non_goneIn)) (fun hc => ?_) fun hc => ?_
      · rw [hc, if_pos rfl] at eB
        refine es_append (Ps := (Bm j).map (g3P L T b)) rfl (lineBig ?_) (evTup (ea_cons (ev_rI0 (evSpan1 (a := ⟨(L, T, b, q), hL, hT, hb, hq⟩) (ea_cons (ev_var rfl) (ea_cons (ev_var rfl) (ea_cons (ev_var rfl) (ea_cons (ev_var rfl) ea_nil))))) (evSpan0 (a := ⟨(L, T, b, p), hL, hT, hb, hp⟩) (ea_cons (ev_var rfl) (ea_cons (ev_var rfl) (ea_cons (ev_var rfl) (ea_cons (ev_var rfl) ea_nil)))))) (ea_cons (ev_var rfl) (ea_cons (ev_var rfl) ea_nil))) rfl) ⟨Γi (Bm (j + 1)), CLe.of ?_ ?_ rfl, rfl⟩
        · rw [List.length_map]
          omega
        · exact ⟨Le.refl _, Le.refl _, Le.refl _, Le.refl _, trivial⟩
        · show some (3, (Bm (j + 1)).map (g3P L T b)) = some (3, _ ++ [_])
          rw [eB, List.map_append]
          rfl
      · rw [hc, if_neg Bool.false_ne_true, List.append_nil] at eB
        refine es_next ⟨Γi (Bm (j + 1)), ?_, rfl⟩
        rw [eB]
        exact CLe.of ⟨Le.refl _, Le.refl _, Le.refl _, Le.refl _, trivial⟩ rfl rfl
    · subst hJ
      refine ⟨Γs (Am (i + 1)), CLe.of ?_ ?_ rfl, rfl⟩
      · exact ⟨Le.refl _, Le.refl _, Le.refl _, trivial⟩
      · show some (3, (Am (i + 1)).map (g3P L T b)) = some (3, (Am i ++ (((Qd.lets T).take ((Qd.lets T).map Qt.ltP).length).map fun q => (p, q)).filter gz).map (g3P L T b))
        rw [eA, List.length_map, List.take_length]
  · subst hI
    rw [List.length_map]
    refine es_retown (i := 3) rfl (ltB rfl) (Le.of_eq ?_)
    show lstP ((Am (Qd.lets T).length).map (g3P L T b)) = lstP ((Qd.gapsL L T b).map (g3P L T b))
    rw [e0]
    show lstP ((((Qd.lets T).take (Qd.lets T).length).flatMap _ |>.filter gz).map _) = _
    rw [List.take_length]
def pre_law_greatest (K : PySem.W.Frag) (_ : Option Addr) (a : RTB) : List Pd := [lineP a.1.1, tkL a.1.2.1, intP (a.1.2.2 : Int)]
def out_law_greatest (K : PySem.W.Frag) (a : RTB) : Pd := intP (Qd.greatest a.1.1 a.1.2.1 a.1.2.2)
theorem mxl0 (l : List Int) : Qd.mxl (0 :: l) = Qd.mx0 l := Qd.mx0_of (Qd.mxl_mem (by simp)) fun y hy => Qd.mxl_ge hy
theorem ev_max0 {α : Type} {l : List α} {g : α → Int} {so : Option Addr} {Γ : Qt.Ctx} {te : TE} (h : Ev so te Γ (lstP (l.map fun a => intP (g a)))) (hz : l.length ≤ 99999) : Ev so (tCB (rMax K) (tCons (tOp (rAddU K) (tLst (tCons (tC (.int 0)) tNil)) te) tNil)) Γ (intP (Qd.mx0 (l.map g))) := by
  have z : Ev so (tOp (rAddU K) (tLst (tCons (tC (.int 0)) tNil)) te) Γ (lstP ((0 :: l.map g).map fun n => intP n)) := by
    refine Ev.eq (ev_addL (Ps := [intP 0]) (evLst (ea_cons ev_val ea_nil) rfl) h ?_) ?_
    · rw [List.length_map]
      have e : [intP 0].length + l.length ≤ 100000 := by
        show 1 + l.length ≤ 100000
        omega
      exact Nat.le_of_lt (lineBig e)
    · show lstP (intP 0 :: l.map fun a => intP (g a)) = lstP (intP 0 :: (l.map g).map fun n => intP n)
      rw [List.map_map]
      rfl
  have y := ev_max (K := K) z (by simp)
  rw [mxl0] at y
  exact y
theorem ok_law_greatest (Y : Kit K mg) : Dfn P w K mg base 5 "_law_greatest" ["_law_line_here", "_law_talk_here", "_law_b"] (spF (pre_law_greatest K) (out_law_greatest K)) := by
  obtain ⟨fd, F⟩ := Y.def_ 50 (d := d_law_greatest)
  have S : FnScope ["_law_line_here", "_law_talk_here", "_law_b", "_law_one"] ["_law_line_here", "_law_talk_here", "_law_b"] (defScope s_law_greatest) := ⟨rfl, rfl, rfl, by decide +kernel, rfl, by decide +kernel, by decide +kernel⟩
  refine ⟨_, fd, Y.glo 50, F.kp, (F.bindsN fun _ _ _ _ _ _ us hl => match us, hl with | [_, _, _], _ => rfl), ?_⟩
  refine fn_ty (N := ["_law_line_here", "_law_talk_here", "_law_b", "_law_one"]) (Fall := False) F S (fun _ _ => rfl) (fun h => h.elim) fun cdv A outer s H E hr => ⟨_, (pss_one (ps_ret (pe_callB (kMax K rfl rfl) rfl (Y.free 68) boot_max (pa_cons (pe_op (kAdd K rfl) (pe_lst (pa_cons pe_int pa_nil)) (pe_lc rfl S.nd (kPL K rfl (pe_dfn (ok_law_gaps Y) hr (pa_cons (pv 0) (pa_cons (pv 1) (pa_cons (pv 2) pa_nil))))) (blkOk_by (N := ["_law_line_here", "_law_talk_here", "_law_b", "_law_one"]) (sc := defScope s_law_greatest) (own := [("_law_one", 3)]) (by decide +kernel)) (fun _ _ _ _ _ => (pg_name S.nd (i := 3) rfl (Or.inl rfl) (Or.inr rfl))) (fun _ _ _ _ _ => pts_nil) (fun _ _ _ _ _ => (pe_callTy call_int1 rfl (Y.free 70) boot_int (pa_cons (pe_ix (kIx K rfl (hu_of hr)) (pv 3) pe_int (fun _ _ => rfl)) pa_nil))))) pa_nil)))), fun so a => ?_⟩
  obtain ⟨⟨L, T, b⟩, hL, hT, hb⟩ := a
  have hT : Qd.TkOk T := hT
  have hg := gaps_len (L := L) (b := b) hT
  refine es_ret (ev_max0 (l := Qd.gapsL L T b) (g := fun z => Qd.gapOf L T b z.1 z.2) (ev_lc0 (Qd.gapsL L T b) (g3P L T b) (fun z => intP (Qd.gapOf L T b z.1 z.2)) (ei_list (ev_call (a := (⟨(L, T, b), hL, hT, hb⟩ : RTB)) (ea_cons (ev_var rfl) (ea_cons (ev_var rfl) (ea_cons (ev_var rfl) ea_nil))))) rfl (lineBig (by omega)) (fun _ h => h) (fun _ _ => egName rfl) fun z _ => ev_int (ev_ixT (n := 0) (Ps := [intP (Qd.gapOf L T b z.1 z.2), Qt.ltP z.1, Qt.ltP z.2]) (ev_var rfl) ev_val rfl rfl)) (by omega)) (Le.of_eq ?_)
  show intP _ = intP (Qd.greatest L T b)
  unfold Qd.greatest
  rfl
abbrev CBA : Type := {a : COB // True}
def pre_law_come (K : PySem.W.Frag) (_ : Option Addr) (a : COB) : List Pd := [lineP a.L, tkL a.T, crsP a.T a.C, intP (a.b : Int)]
def out_law_come (K : PySem.W.Frag) (a : COB) : Pd := lstP ((rowsOf a).map rwP)
theorem ok_law_come (Y : Kit K mg) : Dfn P w K mg base 2 "_law_come" ["_law_line_here", "_law_talk_here", "_law_course_here", "_law_b"] (spF (pre_law_come K) (out_law_come K)) := by
  obtain ⟨fd, F⟩ := Y.def_ 53 (d := d_law_come)
  have S : FnScope ["_law_line_here", "_law_talk_here", "_law_course_here", "_law_b", "_law_found", "_law_letter", "_law_place"] ["_law_line_here", "_law_talk_here", "_law_course_here", "_law_b"] (defScope s_law_come) := ⟨rfl, rfl, rfl, by decide +kernel, rfl, by decide +kernel, by decide +kernel⟩
  refine ⟨_, fd, Y.glo 53, F.kp, (F.bindsN fun _ _ _ _ _ _ us hl => match us, hl with | [_, _, _, _], _ => rfl), ?_⟩
  refine fn_ty (N := ["_law_line_here", "_law_talk_here", "_law_course_here", "_law_b", "_law_found", "_law_letter", "_law_place"]) (Fall := False) F S (fun _ _ => rfl) (fun h => h.elim) fun cdv A outer s H E hr => ⟨_, (pss_cons (ps_set (i := 4) S.nd rfl (Or.inl rfl) (pe_lst pa_nil)) (pss_cons (ps_for PassesOwn.never rfl (kPL K rfl (pe_dfn (ok_law_letters Y) hr (pa_cons (pv 1) pa_nil))) (pg_name S.nd (i := 5) rfl (Or.inl rfl) (Or.inl rfl)) (pss_cons (ps_set (i := 6) S.nd rfl (Or.inl rfl) (pe_ifExp (pt_cmpR (kEq K rfl hr.units) (pe_ix (kIx K rfl (hu_of hr)) (pv 5) pe_int (fun _ _ => rfl)) pe_str (nomark _)) (pv 3) (pe_op op_sub (pe_op op_sub (pe_callB (kLen K rfl) rfl (Y.free 62) boot_len (pa_cons (pe_ix (kIx K rfl (hu_of hr)) (pv 0) pe_int (fun _ _ => rfl)) pa_nil)) pe_int) (pv 3)))) (pss_one (ps_if (pt_cmpR op_lt (pv 6) (pe_callB (kLen K rfl) rfl (Y.free 62) boot_len (pa_cons (pe_ix (kIx K rfl (hu_of hr)) (pv 2) (pv 5) (fun _ _ => rfl)) pa_nil)) (nomark _)) (pss_one (ps_expr (kApp K rfl (pv 4) (pe_tup (pa_cons (pe_ix (kIx K rfl (hu_of hr)) (pe_ix (kIx K rfl (hu_of hr)) (pv 2) (pv 5) (fun _ _ => rfl)) (pv 6) (fun _ _ => rfl)) (pa_cons (pv 5) pa_nil)))))) pss_nil)))) (pss_one (ps_ret (pv 4))))), fun so a => ?_⟩
  obtain ⟨L, T, C, hL, hT, hC, b, hb⟩ := a
  have hlen := lets_len hT
  have h4 := hL.n4
  let f : Qd.Lt → Option (Int × Qd.Lt) := fun l => ((C l)[Qd.place L b l]?).map fun t => (t, l)
  let Γs : List (Int × Qd.Lt) → Qt.Ctx := fun l => ⟨[some (lineP L), some (tkL T), some (crsP T C), some (intP (b : Int)), none, none, none], some (4, l.map rwP), none⟩
  refine es_then (es_new (ltB rfl) rfl) ?_
  refine es_forT (fun i G => G = Γs (((Qd.lets T).take i).filterMap f)) (ei_list (Ps := (Qd.lets T).map Qt.ltP) (ev_call (a := (⟨T, hT⟩ : TkA)) (ea_cons (ev_var rfl) ea_nil))) (Γs []) (CLe.refl _) rfl (fun i P Γi eP hI => ?_) fun Γ' hI => ?_
  · subst hI
    obtain ⟨h1, rfl⟩ := map_at eP
    have hl : (Qd.lets T)[i] ∈ Qd.lets T := List.getElem_mem h1
    have en : ((Qd.lets T).take (i + 1)).filterMap f = ((Qd.lets T).take i).filterMap f ++ (f (Qd.lets T)[i]).toList := by
      rw [take_succ_at h1, List.filterMap_append]
      congr 1
    have hfl := List.length_filterMap_le f ((Qd.lets T).take i)
    rw [List.length_take] at hfl
    generalize (Qd.lets T)[i] = l at hl en
    refine ⟨_, _, egName rfl, ?_⟩
    refine es_then (es_set (P := intP (Qd.place L b l : Int)) (ev_if (et_test (ev_isOut (ev_lt0 (l := l) (ev_var rfl)) ev_val)) (fun h => ?_) fun h => ?_) (egName rfl) rfl) ?_
    · have e : Qd.place L b l = b := by
        unfold Qd.place
        rw [if_pos h]
      rw [e]
      exact ev_var rfl
    · have e : Qd.place L b l = L.bx.length - 1 - b := by
        unfold Qd.place
        rw [h, if_neg Bool.false_ne_true]
      rw [e]
      refine Ev.eq (ev_rI0 (ev_rI0 (ev_lenL (line0 (L := L) (ev_var rfl))) ev_val) (ev_var rfl)) ?_
      show intP (((L.bx.map bxL).length : Int) - 1 - (b : Int)) = intP ((L.bx.length - 1 - b : Nat) : Int)
      rw [List.length_map]
      congr 2
      omega
    refine es_if (et_test (ev_rI0 (i := (Qd.place L b l : Int)) (ev_var rfl) (ev_lenT (Ps := (C l).map fun n => intP n) (ev_ixD (f := fun l => vP (C l)) (ev_var rfl) (ev_var rfl) hl)))) (fun hc => ?_) fun hc => ?_
    · have hp : Qd.place L b l < (C l).length := by
        have z := of_decide_eq_true hc
        rw [List.length_map] at z
        omega
      have eg : (C l)[Qd.place L b l]? = some ((C l)[Qd.place L b l]) := List.getElem?_eq_getElem hp
      have ef : f l = some ((C l)[Qd.place L b l], l) := by
        show ((C l)[Qd.place L b l]?).map _ = _
        rw [eg]
        rfl
      rw [ef] at en
      refine es_append (Ps := (((Qd.lets T).take i).filterMap f).map rwP) rfl (sz (by rw [List.length_map]; omega)) (evTup (ea_cons (ev_ixT (n := Qd.place L b l) (Ps := (C l).map fun n => intP n) (P := intP (C l)[Qd.place L b l]) (ev_ixD (f := fun l => vP (C l)) (ev_var rfl) (ev_var rfl) hl) (ev_var rfl) rfl (by rw [List.getElem?_map, eg]; rfl)) (ea_cons (ev_var rfl) ea_nil)) rfl)
        ⟨Γs (((Qd.lets T).take (i + 1)).filterMap f), CLe.of ?_ ?_ rfl, rfl⟩
      · exact ⟨Le.refl _, Le.refl _, Le.refl _, Le.refl _, trivial⟩
      · show some (4, (((Qd.lets T).take (i + 1)).filterMap f).map rwP) = some (4, _ ++ [_])
        rw [en, List.map_append]
        rfl
    · have hp : ¬ Qd.place L b l < (C l).length := by
        have z := of_decide_eq_false hc
        rw [List.length_map] at z
        omega
      have ef : f l = none := by
        show ((C l)[Qd.place L b l]?).map _ = _
        rw [List.getElem?_eq_none_iff.mpr (by omega)]
        rfl
      rw [ef] at en
      have en : ((Qd.lets T).take (i + 1)).filterMap f = ((Qd.lets T).take i).filterMap f := by
        rw [en]
        exact List.append_nil _
      refine es_next ⟨Γs (((Qd.lets T).take (i + 1)).filterMap f), ?_, rfl⟩
      rw [en]
      exact CLe.of ⟨Le.refl _, Le.refl _, Le.refl _, Le.refl _, trivial⟩ rfl rfl
  · subst hI
    rw [List.length_map, List.take_length]
    refine es_retown (i := 4) rfl (ltB rfl) (Le.of_eq ?_)
    show lstP (((Qd.lets T).filterMap f).map rwP) = lstP ((Qd.come L T C b).map rwP)
    unfold Qd.come
    rfl
def pre_law_quiet (K : PySem.W.Frag) (_ : Option Addr) (a : QB) : List Pd := [lineP a.L, intP (a.b : Int), lstP (a.rows.map rwP), intP a.t]
def out_law_quiet (K : PySem.W.Frag) (a : QB) : Pd := optP (Qd.quiet a.L a.b a.rows a.t) fun n => intP n
theorem ok_law_quiet (Y : Kit K mg) : Dfn P w K mg base 2 "_law_quiet" ["_law_line_here", "_law_b", "_law_rows", "_law_time"] (spF (pre_law_quiet K) (out_law_quiet K)) := by
  obtain ⟨fd, F⟩ := Y.def_ 54 (d := d_law_quiet)
  have S : FnScope ["_law_line_here", "_law_b", "_law_rows", "_law_time", "_law_some", "_law_other", "_law_letter", "_law_one"] ["_law_line_here", "_law_b", "_law_rows", "_law_time"] (defScope s_law_quiet) := ⟨rfl, rfl, rfl, by decide +kernel, rfl, by decide +kernel, by decide +kernel⟩
  refine ⟨_, fd, Y.glo 54, F.kp, (F.bindsN fun _ _ _ _ _ _ us hl => match us, hl with | [_, _, _, _], _ => rfl), ?_⟩
  refine fn_ty (N := ["_law_line_here", "_law_b", "_law_rows", "_law_time", "_law_some", "_law_other", "_law_letter", "_law_one"]) (Fall := False) F S (fun _ _ => rfl) (fun h => h.elim) fun cdv A outer s H E hr => ⟨_, (pss_cons (ps_setLc (i := 4) rfl S.nd rfl rfl (sw_true rfl rfl rfl (by decide +kernel)) (kPL K rfl (pv 2)) (blkOk_by (N := ["_law_line_here", "_law_b", "_law_rows", "_law_time", "_law_some", "_law_other", "_law_letter", "_law_one"]) (sc := defScope s_law_quiet) (own := [("_law_other", 5), ("_law_letter", 6)]) (by decide +kernel)) (fun _ _ _ _ _ => (kGt K rfl 2 rfl (pgs_cons (pg_name S.nd (i := 5) rfl (Or.inl rfl) (Or.inr rfl)) (pgs_cons (pg_name S.nd (i := 6) rfl (Or.inl rfl) (Or.inr rfl)) pgs_nil)))) (fun _ _ _ _ _ => (pts_one (PW.pt (pw_and (pt_cmpR op_lt (pv 5) (pv 3) (nomark _)) (pw_and1 (pt_val (pe_dfn (ok_law_is_sight Y) hr (pa_cons (pv 0) (pa_cons (pv 1) (pa_cons (pv 6) pa_nil)))))))))) (fun _ _ _ _ _ => (pv 5))) (pss_one (ps_ret (pe_ifExp (pt_cmpR (kEq K rfl hr.units) (pv 4) (pe_lst pa_nil) (nomark _)) pe_non (pe_op op_sub (pv 3) (pe_callB (kMax K rfl rfl) rfl (Y.free 68) boot_max (pa_cons (pe_lc rfl S.nd (kPL K rfl (pv 4)) (blkOk_by (N := ["_law_line_here", "_law_b", "_law_rows", "_law_time", "_law_some", "_law_other", "_law_letter", "_law_one"]) (sc := defScope s_law_quiet) (own := [("_law_one", 7)]) (by decide +kernel)) (fun _ _ _ _ _ => (pg_name S.nd (i := 7) rfl (Or.inl rfl) (Or.inr rfl))) (fun _ _ _ _ _ => pts_nil) (fun _ _ _ _ _ => (pe_callTy call_int1 rfl (Y.free 70) boot_int (pa_cons (pv 7) pa_nil)))) pa_nil))))))), fun so a => ?_⟩
  obtain ⟨L, rows, b, t, hL, hb, hr⟩ := a
  have hfl := List.length_filter_le (fun r : Int × Qd.Lt => decide (r.1 < t) && Qd.sight L b r.2) rows
  refine es_then (es_set (P := lstP ((rows.filter fun r => decide (r.1 < t) && Qd.sight L b r.2).map fun r => intP r.1)) (ev_lc rows rwP (fun r => decide (r.1 < t) && Qd.sight L b r.2) (fun r => intP r.1) (ei_list (ev_var rfl)) rfl (sz (by omega)) (fun _ h => h) (fun r _ => egTup2 (P := intP r.1) (Q := Qt.ltP r.2) rfl rfl) (fun r _ =>
    et_and (et_test (ev_rI0 (ev_var rfl) (ev_var rfl))) fun _ => et_val (ev_call (a := (⟨(L, b, r.2), hL, hb⟩ : LBL)) (ea_cons (ev_var rfl) (ea_cons (ev_var rfl) (ea_cons (ev_var rfl) ea_nil))))) fun r _ _ => ev_var rfl) (egName rfl) rfl) ?_
  have em : (Qd.sightsB L b rows t).isEmpty = (rows.filter fun r => decide (r.1 < t) && Qd.sight L b r.2).isEmpty := by
    unfold Qd.sightsB
    rw [List.isEmpty_map]
  refine es_ret (P := optP (Qd.quiet L b rows t) fun n => intP n) (ev_if (et_test (ev_isNil (l := rows.filter fun r => decide (r.1 < t) && Qd.sight L b r.2) (g := fun r => r.1) (ev_var rfl) (evLst ea_nil rfl))) (fun hc => ?_) fun hc => ?_) (Le.refl _)
  · rw [← em, List.isEmpty_iff] at hc
    have e : Qd.quiet L b rows t = none := by
      unfold Qd.quiet
      rw [if_pos hc]
    rw [e]
    exact ev_val
  · have hne : (rows.filter fun r => decide (r.1 < t) && Qd.sight L b r.2) ≠ [] := fun z => by
      rw [z] at hc
      cases hc
    rw [← em] at hc
    have hn : ¬ Qd.sightsB L b rows t = [] := fun z => by
      rw [z] at hc
      cases hc
    have e : Qd.quiet L b rows t = some (t - Qd.mxl (Qd.sightsB L b rows t)) := by
      unfold Qd.quiet
      rw [if_neg hn]
    rw [e]
    refine Ev.eq (ev_rI0 (ev_var rfl) (ev_maxMap (l := rows.filter fun r => decide (r.1 < t) && Qd.sight L b r.2) (g := fun r => r.1) (ev_lc0 (rows.filter fun r => decide (r.1 < t) && Qd.sight L b r.2) (fun r => intP r.1) (fun r => intP r.1) (ei_list (ev_var rfl)) rfl (sz (by omega)) (fun _ h => h) (fun _ _ => egName rfl) fun r _ => ev_int (ev_var rfl)) hne)) ?_
    unfold Qd.sightsB
    rfl
def pre_law_long (K : PySem.W.Frag) (_ : Option Addr) (a : COB) : List Pd := [lineP a.L, tkL a.T, crsP a.T a.C, intP (a.b : Int)]
def out_law_long (K : PySem.W.Frag) (a : COB) : Pd := blP (decide (Qd.lowAt a.L a.b ≤ Qd.longest a.L a.b (rowsOf a)))
theorem ok_law_long (Y : Kit K mg) : Dfn P w K mg base 3 "_law_long" ["_law_line_here", "_law_talk_here", "_law_course_here", "_law_b"] (spF (pre_law_long K) (out_law_long K)) := by
  obtain ⟨fd, F⟩ := Y.def_ 55 (d := d_law_long)
  have S : FnScope ["_law_line_here", "_law_talk_here", "_law_course_here", "_law_b", "_law_rows", "_law_some", "_law_time", "_law_letter", "_law_one"] ["_law_line_here", "_law_talk_here", "_law_course_here", "_law_b"] (defScope s_law_long) := ⟨rfl, rfl, rfl, by decide +kernel, rfl, by decide +kernel, by decide +kernel⟩
  refine ⟨_, fd, Y.glo 55, F.kp, (F.bindsN fun _ _ _ _ _ _ us hl => match us, hl with | [_, _, _, _], _ => rfl), ?_⟩
  refine fn_ty (N := ["_law_line_here", "_law_talk_here", "_law_course_here", "_law_b", "_law_rows", "_law_some", "_law_time", "_law_letter", "_law_one"]) (Fall := False) F S (fun _ _ => rfl) (fun h => h.elim) fun cdv A outer s H E hr => ⟨_, (pss_cons (ps_set (i := 4) S.nd rfl (Or.inr rfl) (pe_dfn (ok_law_come Y) hr (pa_cons (pv 0) (pa_cons (pv 1) (pa_cons (pv 2) (pa_cons (pv 3) pa_nil)))))) (pss_cons (ps_setLc (i := 5) rfl S.nd rfl rfl (sw_true rfl rfl rfl (by decide +kernel)) (kPL K rfl (pv 4)) (blkOk_by (N := ["_law_line_here", "_law_talk_here", "_law_course_here", "_law_b", "_law_rows", "_law_some", "_law_time", "_law_letter", "_law_one"]) (sc := defScope s_law_long) (own := [("_law_time", 6), ("_law_letter", 7)]) (by decide +kernel)) (fun _ _ _ _ _ => (kGt K rfl 2 rfl (pgs_cons (pg_name S.nd (i := 6) rfl (Or.inl rfl) (Or.inr rfl)) (pgs_cons (pg_name S.nd (i := 7) rfl (Or.inl rfl) (Or.inr rfl)) pgs_nil)))) (fun _ _ _ _ _ => pts_nil) (fun _ _ _ _ _ => (pe_dfn (ok_law_quiet Y) hr (pa_cons (pv 0) (pa_cons (pv 3) (pa_cons (pv 4) (pa_cons (pv 6) pa_nil))))))) (pss_one (ps_ret (pe_cmpR op_ge (pe_callB (kMax K rfl rfl) rfl (Y.free 68) boot_max (pa_cons (pe_op (kAdd K rfl) (pe_lst (pa_cons pe_int pa_nil)) (pe_lc rfl S.nd (kPL K rfl (pv 5)) (blkOk_by (N := ["_law_line_here", "_law_talk_here", "_law_course_here", "_law_b", "_law_rows", "_law_some", "_law_time", "_law_letter", "_law_one"]) (sc := defScope s_law_long) (own := [("_law_one", 8)]) (by decide +kernel)) (fun _ _ _ _ _ => (pg_name S.nd (i := 8) rfl (Or.inl rfl) (Or.inr rfl))) (fun _ _ _ _ _ => (pts_one (pt_cmpR op_notN (pv 8) pe_non (nomark _)))) (fun _ _ _ _ _ => (pe_callTy call_int1 rfl (Y.free 70) boot_int (pa_cons (pv 8) pa_nil))))) pa_nil)) (pe_ix (kIx K rfl (hu_of hr)) (pe_ix (kIx K rfl (hu_of hr)) (pe_ix (kIx K rfl (hu_of hr)) (pv 0) pe_int (fun _ _ => rfl)) (pv 3) (fun _ _ => rfl)) pe_int (fun _ _ => rfl)) (nomark _)))))), fun so a => ?_⟩
  obtain ⟨L, T, C, hL, hT, hC, b, hb⟩ := a
  have hlen := lets_len hT
  have hcl := come_len L T C b
  refine es_then (es_set (P := lstP ((Qd.come L T C b).map rwP)) (ev_call (a := (⟨L, T, C, hL, hT, hC, b, hb⟩ : COB)) (ea_cons (ev_var rfl) (ea_cons (ev_var rfl) (ea_cons (ev_var rfl) (ea_cons (ev_var rfl) ea_nil))))) (egName rfl) rfl) ?_
  have hr : (Qd.come L T C b).length ≤ 900 := by omega
  have eL : Qd.longest L b (Qd.come L T C b) = Qd.mx0 ((Qd.come L T C b).filterMap fun r => Qd.quiet L b (Qd.come L T C b) r.1) := by
    unfold Qd.longest Qd.quiets
    rfl
  show EvS so _ _ _ (blP (decide (Qd.lowAt L b ≤ Qd.longest L b (Qd.come L T C b))))
  rw [eL]
  generalize Qd.come L T C b = rows at hr
  have hfl := List.length_filter_le (fun r : Int × Qd.Lt => (Qd.quiet L b rows r.1).isSome) rows
  refine es_then (es_set (ev_lc0 rows rwP (fun r => optP (Qd.quiet L b rows r.1) fun n => intP n) (ei_list (ev_var rfl)) rfl (sz (by omega)) (fun _ h => h) (fun r _ => egTup2 (P := intP r.1) (Q := Qt.ltP r.2) rfl rfl) fun r _ => ev_call (a := (⟨L, rows, b, r.1, hL, hb, hr⟩ : QB)) (ea_cons (ev_var rfl) (ea_cons (ev_var rfl) (ea_cons (ev_var rfl) (ea_cons (ev_var rfl) ea_nil))))) (egName rfl) rfl) ?_
  refine es_ret (ev_rI0 (ev_max0 (l := rows.filter fun r => (Qd.quiet L b rows r.1).isSome) (g := fun r => (Qd.quiet L b rows r.1).getD 0) (ev_lc rows (fun r => optP (Qd.quiet L b rows r.1) fun n => intP n) (fun r => (Qd.quiet L b rows r.1).isSome) (fun r => intP ((Qd.quiet L b rows r.1).getD 0)) (ei_list (ev_var rfl)) rfl (sz (by omega)) (fun _ h => h) (fun r _ => egName rfl) (fun r _ =>
    EvT.eq (et_test (ev_notN (P := optP (Qd.quiet L b rows r.1) fun n => intP n) (ev_var rfl))) (by rw [Bool.not_not])) fun r _ hc => ?_) (by omega)) (ev_ixL (n := 0) (Ps := [intP L.bx[b].low, intP L.bx[b].high, intP L.bx[b].rest, strP (bw L.bx[b].both)]) (lbox (L := L) (b := b) (ev_var rfl) (ev_var rfl) hb) ev_val rfl rfl)) (Le.of_eq ?_)
  · refine ev_int (Ev.eq (ev_var rfl) ?_)
    cases e : Qd.quiet L b rows r.1 with
    | none =>
      rw [e] at hc
      cases hc
    | some n => rfl
  · rw [filt_map (l := rows) (q := fun r => Qd.quiet L b rows r.1), lowAt_of hb]

end
end Qp
set_option Elab.async false
set_option linter.all false
set_option maxRecDepth 100000
set_option maxHeartbeats 4000000
namespace Qp
open PySem PySem.Spec PyProof.Rows L2 Qr Qt Qf RZ
section
variable {P : Program} {w : World} {K : PySem.W.Frag} {mg : Str → Option Value} {base : Heap}

structure WA where
  L : Qd.Ln
  l : Qd.Lt
  t : Int
  many : Nat
  hL : Qd.LnOk L
  ht : 0 ≤ t
def pre_law_way_of (K : PySem.W.Frag) (so : Option Addr) (a : WA) : List Pd := [srcP so, lineP a.L, Qt.ltP a.l, intP a.t, intP (a.many : Int)]
def out_law_way_of (K : PySem.W.Frag) (a : WA) : Pd := exP fun v : {v : List Int // Qd.chain (Qd.along a.L a.l.1) a.t v = true ∧ v.length = min a.many a.L.bx.length ∧ ∀ x ∈ v, 0 ≤ x} => vP v.1
theorem chain_nil (ks : List (Int × Int)) (t : Int) : Qd.chain ks t [] = true := by cases ks <;> rfl
theorem along_ok {L : Qd.Ln} (h : Qd.LnOk L) {o : Bool} {k : Int × Int} (hk : k ∈ Qd.along L o) : Qd.LkOk k := by
  unfold Qd.along at hk
  cases o with
  | true =>
    rw [if_pos rfl] at hk
    exact h.lk k (List.mem_of_mem_take hk)
  | false =>
    rw [if_neg Bool.false_ne_true, List.mem_reverse] at hk
    exact h.lk k (List.mem_of_mem_drop hk)
theorem ok_law_way_of (Y : Kit K mg) : Dfn P w K mg base 2 "_law_way_of" ["_law_source", "_law_line_here", "_law_letter", "_law_time", "_law_many"] (spF (pre_law_way_of K) (out_law_way_of K)) := by
  obtain ⟨fd, F⟩ := Y.def_ 51 (d := d_law_way_of)
  have S : FnScope ["_law_source", "_law_line_here", "_law_letter", "_law_time", "_law_many", "_law_steps", "_law_found", "_law_least", "_law_most"] ["_law_source", "_law_line_here", "_law_letter", "_law_time", "_law_many"] (defScope s_law_way_of) := ⟨rfl, rfl, rfl, by decide +kernel, rfl, by decide +kernel, by decide +kernel⟩
  refine ⟨_, fd, Y.glo 51, F.kp, (F.bindsN fun _ _ _ _ _ _ us hl => match us, hl with | [_, _, _, _, _], _ => rfl), ?_⟩
  refine fn_ty (N := ["_law_source", "_law_line_here", "_law_letter", "_law_time", "_law_many", "_law_steps", "_law_found", "_law_least", "_law_most"]) (Fall := False) F S (fun _ _ => rfl) (fun h => h.elim) fun cdv A outer s H E hr => ⟨_, (pss_cons (ps_set (i := 5) S.nd rfl (Or.inl rfl) (pe_ifExp (pt_cmpR (kEq K rfl hr.units) (pe_ix (kIx K rfl (hu_of hr)) (pv 2) pe_int (fun _ _ => rfl)) pe_str (nomark _)) (pe_slice (kSl K rfl) (pe_ix (kIx K rfl (hu_of hr)) (pv 1) pe_int (fun _ _ => rfl)) po_none (po_some (pe_un un_neg pe_int))) (kBack K rfl (pe_ix (kIx K rfl (hu_of hr)) (pv 1) pe_int (fun _ _ => rfl))))) (pss_cons (ps_set (i := 6) S.nd rfl (Or.inl rfl) (pe_lst pa_nil)) (pss_cons (ps_for PassesOwn.never rfl (kPL K rfl (pe_slice (kSl K rfl) (pv 5) po_none (po_some (pv 4)))) (kGt K rfl 2 rfl (pgs_cons (pg_name S.nd (i := 7) rfl (Or.inl rfl) (Or.inl rfl)) (pgs_cons (pg_name S.nd (i := 8) rfl (Or.inl rfl) (Or.inl rfl)) pgs_nil))) (pss_cons (ps_set (i := 3) S.nd rfl (Or.inl rfl) (pe_op (kAdd K rfl) (pe_op (kAdd K rfl) (pv 3) (pv 7)) (pe_dfn (ok_law_draw Y) hr (pa_cons (pv 0) (pa_cons (pe_op (kAdd K rfl) (pe_op op_sub (pv 8) (pv 7)) pe_int) pa_nil))))) (pss_one (ps_expr (kApp K rfl (pv 6) (pv 3)))))) (pss_one (ps_ret (pe_callTy (kTup K rfl) rfl (Y.free 74) boot_tuple (pa_cons (pv 6) pa_nil))))))), fun so a => ?_⟩
  obtain ⟨L, ⟨o, k⟩, t0, many, hL, ht⟩ := a
  have hL : Qd.LnOk L := hL
  have h4 := hL.n4
  have hal := along_len hL o
  refine es_then (es_set (P := lstP ((Qd.along L o).map lkP)) (ev_if (et_test (ev_isOut (ev_lt0 (l := (o, k)) (ev_var rfl)) ev_val)) (fun h => ?_) fun h => ?_) (egName rfl) rfl) ?_
  · have h : o = true := h
    subst h
    refine Ev.eq (ev_slL (line1 (L := L) (ev_var rfl)) eo_none (eo_some (ev_neg ev_val))) ?_
    show lstP (cutP (L.lk.map lkP) none (some (-1))) = lstP ((L.lk.take (L.lk.length - 1)).map lkP)
    rw [cut_last, List.length_map, List.map_take]
  · have h : o = false := h
    subst h
    refine Ev.eq (ev_backL (Ps := L.lk.map lkP) (line1 (L := L) (ev_var rfl)) (by rw [List.length_map, hL.nl]; omega)) ?_
    show lstP (((L.lk.map lkP).drop 1).reverse) = lstP (((L.lk.drop 1).reverse).map lkP)
    rw [List.map_reverse, List.map_drop]
  refine es_then (es_new (ltB rfl) rfl) ?_
  let al := Qd.along L o
  let Γs : Int → List Int → Qt.Ctx := fun t acc => ⟨[some (srcP so), some (lineP L), some (Qt.ltP (o, k)), some (intP t), some (intP (many : Int)), some (lstP (al.map lkP)), none, none, none], some (6, acc.map fun n => intP n), none⟩
  refine es_forT (fun i G => ∃ t acc, G = Γs t acc ∧ acc.length = i ∧ (∀ ys, Qd.chain al t0 (acc ++ ys) = Qd.chain (al.drop i) t ys) ∧ 0 ≤ t ∧ ∀ x ∈ acc, 0 ≤ x) (Ps := (al.take many).map lkP) (ei_list (Ev.eq (ev_slL (Ps := al.map lkP) (ev_var rfl) eo_none (eo_some (ev_var rfl))) (by rw [cut_take, List.map_take]))) (Γs t0 []) (CLe.refl _) ⟨t0, [], rfl, rfl, fun ys => rfl, ht, fun x h => by simp at h⟩ (fun i P Γi eP hI => ?_) fun Γ' hI => ?_
  · obtain ⟨t, acc, rfl, hl, hc, h0, hx⟩ := hI
    obtain ⟨h1, rfl⟩ := map_at eP
    have h2 : i < al.length := by
      rw [List.length_take] at h1
      omega
    have eg : (al.take many)[i] = al[i] := List.getElem_take
    rw [eg]
    have hk : Qd.LkOk al[i] := along_ok hL (List.getElem_mem h2)
    have ed : al.drop i = al[i] :: al.drop (i + 1) := List.drop_eq_getElem_cons h2
    have hi4 : i ≤ 4 := by
      have z : al.length = L.bx.length := hal
      omega
    generalize al[i] = x at hk ed
    obtain ⟨k1, k2, k3⟩ := hk
    refine ⟨_, _, egTup2 (P := intP x.1) (Q := intP x.2) rfl rfl, ?_⟩
    refine es_then (es_set (P := intS fun n => t + x.1 ≤ n ∧ n ≤ t + x.2) (ev_addS (A := fun i => i = t + x.1) (B := fun i => 0 ≤ i ∧ i < x.2 - x.1 + 1) (evS (ev_addI (i := t) (j := x.1) (ev_var rfl) (ev_var rfl)) rfl) (evDrawC (n := x.2 - x.1 + 1) (ev_var rfl) (ev_addI (ev_rI0 (i := x.2) (j := x.1) (ev_var rfl) (ev_var rfl)) ev_val) (by omega) (by omega)) fun i j hi hj => by omega) (egName rfl) rfl) ?_
    refine es_int (i := 3) (A := fun n => t + x.1 ≤ n ∧ n ≤ t + x.2) rfl fun n hn => ?_
    refine es_append (Ps := acc.map fun n => intP n) (P := intP n) rfl (sz (by rw [List.length_map]; omega)) (ev_var rfl) ⟨Γs n (acc ++ [n]), CLe.of ?_ ?_ rfl, n, acc ++ [n], rfl, by rw [List.length_append, hl]; rfl, fun ys => ?_, by omega, fun y hy => ?_⟩
    · exact ⟨Le.refl _, Le.refl _, Le.refl _, Le.refl _, Le.refl _, Le.refl _, trivial⟩
    · show some (6, (acc ++ [n]).map _) = some (6, _ ++ [_])
      rw [List.map_append]
      rfl
    · rw [List.append_assoc]
      show Qd.chain al t0 (acc ++ (n :: ys)) = _
      rw [hc, ed]
      show ((decide (t + x.1 ≤ n) && decide (n ≤ t + x.2)) && Qd.chain (al.drop (i + 1)) n ys) = _
      rw [decide_eq_true hn.1, decide_eq_true hn.2]
      rfl
    · rcases List.mem_append.mp hy with h | h
      · exact hx y h
      · rw [List.mem_singleton.mp h]
        omega
  · obtain ⟨t, acc, rfl, hl, hc, h0, hx⟩ := hI
    rw [List.length_map, List.length_take] at hl
    refine es_pub (i := 6) rfl (ltB rfl) (es_ret (ev_tupL (Ps := acc.map fun n => intP n) (ev_var rfl)) fun v H p => ⟨⟨acc, ?_, ?_, hx⟩, p⟩)
    · have z := hc []
      rw [List.append_nil, chain_nil] at z
      exact z
    · show acc.length = min many L.bx.length
      have z : al.length = L.bx.length := hal
      rw [hl, z]
structure TB8 where
  L : Qd.Ln
  ms : List Int
  hL : Qd.LnOk L
  hm : ms.length = L.bx.length
def pre_law_table (K : PySem.W.Frag) (so : Option Addr) (a : TB8) : List Pd := [srcP so, lineP a.L, lstP (a.ms.map fun n => intP n)]
def out_law_table (K : PySem.W.Frag) (a : TB8) : Pd := exP fun v : {v : List Int // v.length = a.L.bx.length} => vP v.1
abbrev anyI : Pd := intS fun _ => True
theorem ok_law_table (Y : Kit K mg) : Dfn P w K mg base 3 "_law_table" ["_law_source", "_law_line_here", "_law_most"] (spF (pre_law_table K) (out_law_table K)) := by
  obtain ⟨fd, F⟩ := Y.def_ 56 (d := d_law_table)
  have S : FnScope ["_law_source", "_law_line_here", "_law_most", "_law_found", "_law_b", "_law_low"] ["_law_source", "_law_line_here", "_law_most"] (defScope s_law_table) := ⟨rfl, rfl, rfl, by decide +kernel, rfl, by decide +kernel, by decide +kernel⟩
  refine ⟨_, fd, Y.glo 56, F.kp, (F.bindsN fun _ _ _ _ _ _ us hl => match us, hl with | [_, _, _], _ => rfl), ?_⟩
  refine fn_ty (N := ["_law_source", "_law_line_here", "_law_most", "_law_found", "_law_b", "_law_low"]) (Fall := False) F S (fun _ _ => rfl) (fun h => h.elim) fun cdv A outer s H E hr => ⟨_, (pss_cons (ps_set (i := 3) S.nd rfl (Or.inl rfl) (pe_lst pa_nil)) (pss_cons (ps_for PassesOwn.never rfl (pi_range1 rfl (Y.free 63) (pa_cons (pe_callB (kLen K rfl) rfl (Y.free 62) boot_len (pa_cons (pv 2) pa_nil)) pa_nil)) (pg_name S.nd (i := 4) rfl (Or.inl rfl) (Or.inl rfl)) (pss_cons (ps_set (i := 5) S.nd rfl (Or.inl rfl) (pe_ix (kIx K rfl (hu_of hr)) (pe_ix (kIx K rfl (hu_of hr)) (pe_ix (kIx K rfl (hu_of hr)) (pv 1) pe_int (fun _ _ => rfl)) (pv 4) (fun _ _ => rfl)) pe_int (fun _ _ => rfl))) (pss_one (ps_expr (kApp K rfl (pv 3) (pe_dfn (ok_law_pick Y) hr (pa_cons (pv 0) (pa_cons (pe_lst (pa_cons (pe_ix (kIx K rfl (hu_of hr)) (pv 2) (pv 4) (fun _ _ => rfl)) (pa_cons (pe_ix (kIx K rfl (hu_of hr)) (pv 2) (pv 4) (fun _ _ => rfl)) (pa_cons (pe_ix (kIx K rfl (hu_of hr)) (pv 2) (pv 4) (fun _ _ => rfl)) (pa_cons (pe_op op_sub (pv 5) pe_int) (pa_cons (pe_op (kAdd K rfl) (pe_ix (kIx K rfl (hu_of hr)) (pv 2) (pv 4) (fun _ _ => rfl)) pe_int) (pa_cons (pe_op op_sub (pe_ix (kIx K rfl (hu_of hr)) (pv 2) (pv 4) (fun _ _ => rfl)) pe_int) (pa_cons (pv 5) pa_nil)))))))) pa_nil)))))))) (pss_one (ps_ret (pe_callTy (kTup K rfl) rfl (Y.free 74) boot_tuple (pa_cons (pv 3) pa_nil)))))), fun so a => ?_⟩
  obtain ⟨L, ms, hL, hm⟩ := a
  have hL : Qd.LnOk L := hL
  have h4 := hL.n4
  have hm : ms.length = L.bx.length := hm
  let Γs : Nat → Qt.Ctx := fun i => ⟨[some (srcP so), some (lineP L), some (lstP (ms.map fun n => intP n)), none, none, none], some (3, List.replicate i anyI), none⟩
  have el : ((ms.map fun n => intP n).length : Int) = (ms.length : Int) := by rw [List.length_map]
  refine es_then (es_new (ltB rfl) rfl) ?_
  refine es_forT (fun i G => G = Γs i) (ei_rng (n := ms.length) (ev_lenL (Ps := ms.map fun n => intP n) (ev_var rfl)) el (Int.lt_of_le_of_lt (Int.le_of_eq el) (by omega))) (Γs 0) (CLe.refl _) rfl (fun i P Γi eP hI => ?_) fun Γ' hI => ?_
  · subst hI
    obtain ⟨h1, rfl⟩ := map_at eP
    rw [List.length_range] at h1
    rw [List.getElem_range]
    have hb : i < L.bx.length := by omega
    refine ⟨_, _, egName rfl, ?_⟩
    refine es_then (es_set (P := intP L.bx[i].low) (ev_ixL (n := 0) (Ps := [intP L.bx[i].low, intP L.bx[i].high, intP L.bx[i].rest, strP (bw L.bx[i].both)]) (lbox (L := L) (b := i) (ev_var rfl) (ev_var rfl) hb) ev_val rfl rfl) (egName rfl) rfl) ?_
    have mb : ∀ Γ : Qt.Ctx, Γ.sl[2]? = some (some (lstP (ms.map fun n => intP n))) → Γ.sl[4]? = some (some (intP (i : Int))) → Ev so (tOp (rIxU K) (tVar 2) (tVar 4)) Γ (intP ms[i]) := fun Γ h2 h4 => ev_ixL (n := i) (Ps := ms.map fun n => intP n) (ev_var h2) (ev_var h4) rfl (by rw [List.getElem?_map, List.getElem?_eq_getElem h1]; rfl)
    refine es_append (Ps := List.replicate i anyI) (P := anyI) rfl (sz (by rw [List.length_replicate]; omega)) ((ev_call (a := (⟨[intP ms[i], intP ms[i], intP ms[i], intP (L.bx[i].low - 1), intP (ms[i] + 1), intP (ms[i] - 1), intP L.bx[i].low], ltB rfl, ltB rfl⟩ : {l : List Pd // 0 < l.length ∧ l.length < 1000})) (ea_cons (ev_var rfl) (ea_cons (evLst (ea_cons (mb _ rfl rfl) (ea_cons (mb _ rfl rfl) (ea_cons (mb _ rfl rfl) (ea_cons (ev_rI0 (ev_var rfl) ev_val) (ea_cons (ev_addI (mb _ rfl rfl) ev_val) (ea_cons (ev_rI0 (mb _ rfl rfl) ev_val) (ea_cons (ev_var rfl) ea_nil))))))) rfl) ea_nil))).le fun v H ⟨⟨P1, hP⟩, p⟩ => by
      have z : ∃ n, P1 = intP n := by
        simp only [List.mem_cons, List.not_mem_nil, or_false] at hP
        rcases hP with e | e | e | e | e | e | e <;> exact ⟨_, e⟩
      obtain ⟨n, rfl⟩ := z
      exact ⟨n, p, trivial⟩) ⟨Γs (i + 1), CLe.of ?_ ?_ rfl, rfl⟩
    · exact ⟨Le.refl _, Le.refl _, Le.refl _, trivial⟩
    · show some (3, List.replicate (i + 1) anyI) = some (3, List.replicate i anyI ++ [anyI])
      rw [List.replicate_succ']
  · subst hI
    rw [List.length_map, List.length_range]
    refine es_pub (i := 3) (Ps := List.replicate ms.length anyI) rfl (ltB rfl) (es_ret (ev_tupL (Ps := List.replicate ms.length anyI) (ev_var rfl)) fun v H ⟨a, xs, e, h, q⟩ => ?_)
    have q2 : AllP ((List.range ms.length).map fun _ => exP fun n : Int => intP n) xs H := by
      rw [rep_map (α := Unit)] at q
      exact AllP.imp (f := fun _ : Nat => anyI) (g := fun _ => exP fun n : Int => intP n) (fun _ v ⟨n, e, _⟩ => ⟨n, e⟩) q
    obtain ⟨ns, ln, qn⟩ := allP_choose q2
    rw [List.length_range] at ln
    exact ⟨⟨ns, ln.trans hm⟩, a, xs, e, h, qn⟩

end
end Qp
set_option Elab.async false
set_option linter.all false
set_option maxRecDepth 100000
set_option maxHeartbeats 4000000
namespace Qt
open PySem PySem.Spec PyProof.Rows L2 Qr
section
variable {so : Option Addr} {Γ : Ctx} {te tk : TE} {P R : Pd} {N : Ctx → Prop} {t u : TS} {tc td : TT}
/-- x, y = ({}, []) -/
theorem es_parDL {i j : Nat} {f : Qd.Lt → Pd} (hi : i < Γ.sl.length) (hj : j < Γ.sl.length) (hij : i ≠ j) (hn : N ⟨(Γ.sl.set i none).set j none, some (j, []), some (i, [], f)⟩) :
    EvS so (tPar i j (tCons tDNewT (tCons (tLst tNil) tNil))) Γ N R := fun Z V0 O σ H D S n r => fun p hp => by
  refine ⟨Nat.zero_le _, fun q hq => ⟨_, _, rfl, ?_⟩⟩
  have S1 := S.alloc (.dT []) hp
  have S2 := S1.alloc (.lst []) hq
  have hpq : p ≠ q := fun z => by
    rw [← z, upd_same] at hq
    cases hq
  have hip : ∀ {x : Option V}, ((σ.set i x).set j (some (.ref q)))[i]? = some x := by
    intro x
    rw [List.getElem?_set_ne (Ne.symm hij)]
    exact List.getElem?_set_self (by rw [S.len]; exact hi)
  refine n _ _ _ _ hn { S2 with len := ?_, sl := fun k P e => ?_, ow := fun k Ps e => ?_, dc := fun k ls g e => ?_ }
  · show ((σ.set i _).set j _).length = ((Γ.sl.set i none).set j none).length
    rw [List.length_set, List.length_set, List.length_set, List.length_set]
    exact S.len
  · have e : ((Γ.sl.set i none).set j none)[k]? = some (some P) := e
    by_cases h : k = j
    · subst h
      rw [List.getElem?_set_self (by rw [List.length_set]; exact hj)] at e
      cases e
    · rw [List.getElem?_set_ne (Ne.symm h)] at e
      rw [List.getElem?_set_ne (Ne.symm h)]
      by_cases h2 : k = i
      · subst h2
        rw [List.getElem?_set_self hi] at e
        cases e
      · rw [List.getElem?_set_ne (Ne.symm h2)] at e
        rw [List.getElem?_set_ne (Ne.symm h2)]
        exact S2.sl k P e
  · have e2 : (j, ([] : List Pd)) = (k, Ps) := Option.some.inj e
    injection e2 with e3 e4
    subst e3 e4
    exact ⟨q, [], List.getElem?_set_self (by rw [List.length_set, S.len]; exact hj), .inr rfl, fun z => S1.new hq (.inl z), upd_same, trivial⟩
  · have e2 : (i, ([] : List Qd.Lt), f) = (k, ls, g) := Option.some.inj e
    injection e2 with e3 e4
    injection e4 with e5 e6
    subst e3 e5 e6
    exact ⟨p, [], hip, .inl (.inr rfl), fun z => S.new hp (.inl z), (upd_ne hpq).trans upd_same, rfl, trivial⟩
/-- own + [x] -/
theorem ev_ownAdd {K : PySem.W.Frag} {i : Nat} {Ps Qs : List Pd} (e : Γ.own = some (i, Ps)) (hb : Ev so te Γ (lstP Qs)) (hz : Ps.length + Qs.length ≤ sizeLine) : Ev so (tOp (rAddU K) (tVar i) te) Γ (lstP (Ps ++ Qs)) := fun Z V0 O σ H Q S k => by
  obtain ⟨p, xs, hσ, hO, hZ, hp, ha⟩ := S.ow i Ps e
  refine ⟨.ref p, hσ, hb Z V0 O σ H _ S fun y H1 m ⟨b, ys, e2, h2, q2⟩ => ?_⟩
  have S1 := S.mv m
  have h1 : H1 p = some (.lst xs) := m.keep p _ (fun z => hZ (S.sz p z)) hp
  have a1 := ha.st (S.grow m)
  refine .inr (.inl ⟨p, b, xs, ys, rfl, e2, h1, (vis_some.mp h2).2, by rw [a1.length, q2.length]; exact hz, fun c hc => ?_⟩)
  exact k _ _ (m.trans (.same (same_new hc))) ⟨c, _, rfl, vis_some.mpr ⟨S1.new hc, upd_same⟩, AllP.append (a1.st (vis_new hc)) (q2.st (vis_new hc))⟩
/-- a test of which only a part is known -/
def EvTU (so : Option Addr) (tt : TT) (Γ : Ctx) (A : Bool → Prop) : Prop := ∀ (Z : Addr → Prop) (V0 : Hp) (O : Addr → Prop) (σ : L2.St) (H : Hp) (Q : Bool → Hp → Prop), Sta so Z V0 O Γ σ H → (∀ b H', A b → Mv so H H' → Q b H') → tt σ H Q
theorem etu_test {A : Bool → Prop} (h : Ev so te Γ (exP blP)) (ha : ∀ b, A b) : EvTU so (tTest te) Γ A := fun Z V0 O σ H Q S k => h Z V0 O σ H _ S fun x H1 m ⟨b, p⟩ => ⟨b, p, k b H1 (ha b) m⟩
theorem etu_and {A : Bool → Prop} {b : Bool} (h1 : EvTU so tc Γ fun _ => True) (h2 : EvT so td Γ b) (hf : A false) (hb : A b) : EvTU so (tAnd tc td) Γ A := fun Z V0 O σ H Q S k => h1 Z V0 O σ H _ S fun c H1 _ m => by
  cases c with
  | true =>
    rw [if_pos rfl]
    exact h2 Z V0 O σ H1 _ (S.mv m) fun H2 m2 => k b H2 hb (m.trans m2)
  | false =>
    rw [if_neg Bool.false_ne_true]
    exact k false H1 hf m
theorem es_ifU {A : Bool → Prop} (hc : EvTU so tc Γ A) (h1 : A true → EvS so t Γ N R) (h2 : A false → EvS so u Γ N R) : EvS so (tIfS tc t u) Γ N R := fun Z V0 O σ H D S n r => hc Z V0 O σ H _ S fun b H1 a m => by
  cases b with
  | true =>
    rw [if_pos rfl]
    exact h1 a Z V0 O σ H1 D (S.mv m) n r
  | false =>
    rw [if_neg Bool.false_ne_true]
    exact h2 a Z V0 O σ H1 D (S.mv m) n r
theorem ev_eqS {K : PySem.W.Frag} {A : Int → Prop} {ta tb : TE} {j : Int} (ha : Ev so ta Γ (intS A)) (hb : Ev so tb Γ (intP j)) : Ev so (tOp (rEqD K) ta tb) Γ (exP blP) :=
  ev_op ha hb fun x y W H _ _ ⟨i, px, _⟩ py k => by
    have hd : AsD (intP i) (.int i) := inferInstance
    have he : AsD (intP j) (.int j) := inferInstance
    exact ⟨.int i, .int j, hd.ok K x H px, he.ok K y H py, (sh_int (k := 0)).ok, (sh_int (k := 0)).ok, k _ H (Same.refl H) ⟨_, rfl⟩⟩
theorem DctAll.cong {ls : List Qd.Lt} {f g : Qd.Lt → Pd} {kvs : List (List Key × V)} {H : Hp} (h : DctAll ls f kvs H) (e : ∀ x ∈ ls, f x = g x) : DctAll ls g kvs H := by
  refine ⟨h.1, ?_⟩
  rw [← List.map_congr_left e]
  exact h.2
/-- x[letter] = e, of a kind that is known as one of many -/
theorem es_putDE {α : Type} {F : α → Pd} {g : α → Qd.Lt → Pd} {i : Nat} {ls : List Qd.Lt} {f : Qd.Lt → Pd} {l : Qd.Lt} (e : Γ.dic = some (i, ls, f)) (hl : l ∉ ls) (hz : ls.length < sizeLine) (hv : Ev so te Γ (exP F)) (hk : Ev so tk Γ (ltP l))
    (hg : ∀ a, (∀ x ∈ ls, f x = g a x) ∧ g a l = F a) (hn : ∀ a, N ⟨Γ.sl, Γ.own, some (i, ls ++ [l], g a)⟩) :
    EvS so (tAsg te (gSub (tVar i) tk rSetD)) Γ N R := fun Z V0 O σ H D S n r => by
  refine hv Z V0 O σ H _ S fun v H1 m1 ⟨a, pv⟩ => ?_
  have S1 := S.mv m1
  obtain ⟨p, kvs, hσ, hO, hZ, hp, ha⟩ := S1.dc i ls f e
  refine ⟨.ref p, hσ, hk Z V0 O σ H1 _ S1 fun y H2 m2 py => ?_⟩
  have S2 := S1.mv m2
  obtain ⟨b, rfl, hb⟩ := lt_at py
  have h2 : H2 p = some (.dT kvs) := m2.keep p _ (fun z => hZ (S.sz p z)) hp
  have hll : kvs.length = ls.length := by
    have z := congrArg List.length ha.1
    simpa using z
  show ∃ a H', V.ref p = V.ref a ∧ DPut H2 a (V.ref b) v H' ∧ D.nx σ H'
  refine ⟨p, _, rfl, DPut.t h2 (vis_some.mp hb).2 (by rw [hll]; exact hz), ?_⟩
  have S0 : Sta so Z V0 O ⟨Γ.sl, none, none⟩ σ H2 := S2.le ⟨rfl, fun i P e => ⟨P, e, Le.refl P⟩, fun _ _ e => (nomatch e), fun _ e => nomatch e⟩
  have S3 := S0.write rfl rfl (.dT (putK kvs (ltK l) v)) hO hZ h2 fun _ _ z => nomatch z
  have ev : vis (hid Z O) (upd H2 p (.dT (putK kvs (ltK l) v))) = vis (hid Z O) H2 := vis_upd (.inr hO)
  refine n _ _ _ _ (hn a) { S3 with ow := fun j Ps ej => ?_, dc := fun j ls2 g ej => ?_ }
  · obtain ⟨p2, xs, a, b, c, d, q⟩ := S2.ow j Ps ej
    refine ⟨p2, xs, a, b, c, (upd_ne (fun z => ?_)).trans d, by rw [ev]; exact q⟩
    rw [z, h2] at d
    cases d
  · have e2 : (i, ls ++ [l], _) = (j, ls2, g) := Option.some.inj ej
    injection e2 with e3 e4
    injection e4 with e5 e6
    subst e3 e5 e6
    refine ⟨p, _, hσ, hO, hZ, upd_same, ?_⟩
    rw [ev]
    refine ((ha.st (S1.grow m2)).cong (hg a).1).put hl ?_
    rw [(hg a).2]
    exact (F a).st (S1.grow m2) pv
end
end Qt
set_option Elab.async false
set_option linter.all false
set_option maxRecDepth 100000
set_option maxHeartbeats 4000000
namespace Qp
open PySem PySem.Spec PyProof.Rows L2 Qr Qt Qf RZ
section
variable {P : Program} {w : World} {K : PySem.W.Frag} {mg : Str → Option Value} {base : Heap}

theorem tm_pos {T : Qd.Tk} (h : Qd.TkOk T) {l : Qd.Lt} (hl : l ∈ Qd.lets T) : 0 ≤ Qd.tm T l := by
  obtain ⟨o, i⟩ := l
  have hi : i < (T.way o).length := Qd.mem_lets.mp hl
  show 0 ≤ (T.way o).getD i 0
  rw [List.getD_eq_getElem?_getD, List.getElem?_eq_getElem hi]
  have hm := List.getElem_mem hi
  show 0 ≤ (T.way o)[i]
  cases o with
  | true => exact (h.out.1 _ hm).1
  | false => exact (h.bk.1 _ hm).1
abbrev LTA : Type := {x : Qd.Ln × Qd.Tk // Qd.LnOk x.1 ∧ Qd.TkOk x.2}
def pre_law_course (K : PySem.W.Frag) (so : Option Addr) (a : LTA) : List Pd := [srcP so, lineP a.1.1, tkL a.1.2]
def out_law_course (K : PySem.W.Frag) (a : LTA) : Pd := exP fun C : {C : Qd.Lt → List Int // Qd.CourseOk a.1.1 a.1.2 C} => crsP a.1.2 C.1
theorem ok_law_course (Y : Kit K mg) : Dfn P w K mg base 3 "_law_course" ["_law_source", "_law_line_here", "_law_talk_here"] (spF (pre_law_course K) (out_law_course K)) := by
  obtain ⟨fd, F⟩ := Y.def_ 52 (d := d_law_course)
  have S : FnScope ["_law_source", "_law_line_here", "_law_talk_here", "_law_found", "_law_gone_here", "_law_letter", "_law_many"] ["_law_source", "_law_line_here", "_law_talk_here"] (defScope s_law_course) := ⟨rfl, rfl, rfl, by decide +kernel, rfl, by decide +kernel, by decide +kernel⟩
  refine ⟨_, fd, Y.glo 52, F.kp, (F.bindsN fun _ _ _ _ _ _ us hl => match us, hl with | [_, _, _], _ => rfl), ?_⟩
  refine fn_ty (N := ["_law_source", "_law_line_here", "_law_talk_here", "_law_found", "_law_gone_here", "_law_letter", "_law_many"]) (Fall := False) F S (fun _ _ => rfl) (fun h => h.elim) fun cdv A outer s H E hr => ⟨_, (pss_cons (ps_par (i := 3) (j := 4) rfl S.nd rfl rfl (by decide) rfl rfl (pa_cons pe_dnewT (pa_cons (pe_lst pa_nil) pa_nil)) (by rfl)) (pss_cons (ps_for PassesOwn.never rfl (kPL K rfl (pe_dfn (ok_law_letters Y) hr (pa_cons (pv 2) pa_nil))) (pg_name S.nd (i := 5) rfl (Or.inl rfl) (Or.inl rfl)) (pss_cons (ps_set (i := 6) S.nd rfl (Or.inl rfl) (pe_callB (kLen K rfl) rfl (Y.free 62) boot_len (pa_cons (pe_ix (kIx K rfl (hu_of hr)) (pv 1) pe_int (fun _ _ => rfl)) pa_nil))) (pss_cons (ps_if (PW.pt (pw_and (pt_cmpR (kEq K rfl hr.units) (pe_dfn (ok_law_draw Y) hr (pa_cons (pv 0) (pa_cons pe_int pa_nil))) pe_int (nomark _)) (pw_and1 (pt_val (pe_dfn (ok_law_can_lose Y) hr (pa_cons (pv 2) (pa_cons (pe_op (kAdd K rfl) (pv 4) (pe_lst (pa_cons (pv 5) pa_nil))) pa_nil))))))) (pss_cons (ps_expr (kApp K rfl (pv 4) (pv 5))) (pss_one (ps_set (i := 6) S.nd rfl (Or.inl rfl) (pe_dfn (ok_law_draw Y) hr (pa_cons (pv 0) (pa_cons (pv 6) pa_nil)))))) pss_nil) (pss_one (ps_asg (pe_dfn (ok_law_way_of Y) hr (pa_cons (pv 0) (pa_cons (pv 1) (pa_cons (pv 5) (pa_cons (pe_dfn (ok_law_sent Y) hr (pa_cons (pv 2) (pa_cons (pv 5) pa_nil))) (pa_cons (pv 6) pa_nil)))))) (pg_sub (pv 3) (pv 5) (set_dict (hu_of hr)))))))) (pss_one (ps_ret (pe_freeze (pv 3)))))), fun so a => ?_⟩
  obtain ⟨⟨L, T⟩, hL, hT⟩ := a
  have hL : Qd.LnOk L := hL
  have hT : Qd.TkOk T := hT
  have h1 := hL.n1
  have h4 := hL.n4
  have hlen := lets_len hT
  let n := L.bx.length
  let Γs : Nat → (Qd.Lt → List Int) → List Qd.Lt → Qt.Ctx := fun i C g => ⟨[some (srcP so), some (lineP L), some (tkL T), none, none, none, none], some (4, g.map Qt.ltP), some (3, (Qd.lets T).take i, fun l => vP (C l))⟩
  have eL : ((L.bx.map bxL).length : Int) = (n : Int) := by rw [List.length_map]
  refine es_then (es_parDL (f := fun l => vP []) (ltB rfl) (ltB rfl) (by decide) rfl) ?_
  refine es_forT (fun i G => ∃ C g, G = Γs i C g ∧ g = ((Qd.lets T).take i).filter (fun l => decide ((C l).length < n)) ∧ Qd.canLoseB T g = true ∧ ∀ l ∈ (Qd.lets T).take i, Qd.stepsOk L T l (C l) = true) (Ps := (Qd.lets T).map Qt.ltP) (ei_list (ev_call (a := (⟨T, hT⟩ : TkA)) (ea_cons (ev_var rfl) ea_nil))) (Γs 0 (fun _ => []) []) (CLe.refl _) ⟨_, _, rfl, rfl, (Qd.canLoseB_eq fun l h => by simp at h).trans (Qd.canLose_nil T), fun l h => by simp at h⟩ (fun i P Γi eP hI => ?_) fun Γ' hI => ?_
  · obtain ⟨C, g, rfl, eg, hg, hs⟩ := hI
    obtain ⟨hi, rfl⟩ := map_at eP
    have hn := not_mem_take hi (Qd.lets_nodup T)
    have et := take_succ_at hi
    have hm := List.getElem_mem hi
    generalize (Qd.lets T)[i] = l at hn et hm
    have gl : g.length ≤ 120 := by
      rw [eg]
      have z := List.length_filter_le (fun l => decide ((C l).length < n)) ((Qd.lets T).take i)
      have z2 := List.length_take_le i (Qd.lets T)
      omega
    refine ⟨_, _, egName rfl, ?_⟩
    refine es_then (es_set (P := intP (n : Int)) (Ev.eq (ev_lenL (line0 (L := L) (ev_var rfl))) (congrArg intP eL)) (egName rfl) rfl) ?_
    let Γ2 : Nat → List Qd.Lt → Qt.Ctx := fun m g' => ⟨[some (srcP so), some (lineP L), some (tkL T), none, none, some (Qt.ltP l), some (intP (m : Int))], some (4, g'.map Qt.ltP), some (3, (Qd.lets T).take i, fun l => vP (C l))⟩
    refine es_seq (M := fun G => ∃ m g', G = Γ2 m g' ∧ m ≤ n ∧ g' = g ++ (if m < n then [l] else []) ∧ Qd.canLoseB T g' = true) (es_ifU (A := fun b => b = true → Qd.canLoseB T (g ++ [l]) = true) (etu_and (etu_test (ev_eqS (A := fun i => 0 ≤ i ∧ i < 3) (evDrawC (n := 3) (ev_var rfl) ev_val (by decide) (by decide)) ev_val) fun _ => trivial) (et_val (ev_call (a := (⟨(T, g ++ [l]), hT, by rw [List.length_append]; show g.length + 1 ≤ 900; omega⟩ : CL)) (ea_cons (ev_var rfl) (ea_cons (Ev.eq (ev_ownAdd (i := 4) (Ps := g.map Qt.ltP) (Qs := [Qt.ltP l]) rfl (evLst (ea_cons (ev_var rfl) ea_nil) rfl) (Nat.le_of_lt (sz (by rw [List.length_map]; show g.length + 1 ≤ 1000; omega)))) ?_) ea_nil)))) (fun z => nomatch z) fun z => z) (fun hc => ?_) fun _ => ?_) fun G hG => ?_
    · show lstP (g.map Qt.ltP ++ [Qt.ltP l]) = lstP ((g ++ [l]).map Qt.ltP)
      rw [List.map_append]
      rfl
    · refine es_then (es_append (Ps := g.map Qt.ltP) (P := Qt.ltP l) rfl (sz (by rw [List.length_map]; omega)) (ev_var rfl) rfl) ?_
      refine es_seqE (i := 6) (A := fun i => 0 ≤ i ∧ i < (n : Int)) (evDrawC (n := (n : Int)) (ev_var rfl) (ev_var rfl) (by omega) (by omega)) rfl fun k hk => ?_
      obtain ⟨m, rfl⟩ := Int.eq_ofNat_of_zero_le hk.1
      have hm2 : m < n := by omega
      refine ⟨m, g ++ [l], ?_, Nat.le_of_lt hm2, by rw [if_pos hm2], hc rfl⟩
      show (⟨_, some (4, g.map Qt.ltP ++ [Qt.ltP l]), _⟩ : Qt.Ctx) = ⟨_, some (4, (g ++ [l]).map Qt.ltP), _⟩
      rw [List.map_append]
      rfl
    · exact es_next ⟨n, g, rfl, Nat.le_refl _, by rw [if_neg (Nat.lt_irrefl n), List.append_nil], hg⟩
    · obtain ⟨m, g', rfl, hm2, eg2, hg2⟩ := hG
      let F : {v : List Int // Qd.chain (Qd.along L l.1) (Qd.tm T l) v = true ∧ v.length = min m n ∧ ∀ x ∈ v, 0 ≤ x} → Pd := fun v => vP v.1
      refine es_putDE (i := 3) (F := F) (g := fun v x => vP (if x = l then v.1 else C x)) (ls := (Qd.lets T).take i) rfl hn (sz (by have z2 := List.length_take_le i (Qd.lets T); omega)) (ev_call (a := (⟨L, l, Qd.tm T l, m, hL, tm_pos hT hm⟩ : WA)) (ea_cons (ev_var rfl) (ea_cons (ev_var rfl) (ea_cons (ev_var rfl) (ea_cons (ev_call (a := (⟨(T, l), hT, hm⟩ : TL)) (ea_cons (ev_var rfl) (ea_cons (ev_var rfl) ea_nil))) (ea_cons (ev_var rfl) ea_nil)))))) (ev_var rfl) (fun v => ⟨fun x hx => ?_, ?_⟩) fun v => ⟨Γs (i + 1) (fun x => if x = l then v.1 else C x) g', CLe.of ?_ rfl ?_, _, _, rfl, ?_, hg2, fun x hx => ?_⟩
      · have z : x ≠ l := fun z => hn (z ▸ hx)
        show vP (C x) = vP (if x = l then v.1 else C x)
        rw [if_neg z]
      · show vP (if l = l then v.1 else C l) = vP v.1
        rw [if_pos rfl]
      · exact ⟨Le.refl _, Le.refl _, Le.refl _, trivial⟩
      · show some (3, (Qd.lets T).take (i + 1), _) = some (3, (Qd.lets T).take i ++ [l], _)
        rw [et]
      · obtain ⟨v, v1, v2, v3⟩ := v
        have e1 : ((Qd.lets T).take i).filter (fun x => decide ((if x = l then v else C x).length < n)) = g := by
          rw [eg]
          refine List.filter_congr fun x hx => ?_
          have z : x ≠ l := fun z => hn (z ▸ hx)
          rw [if_neg z]
        show g' = ((Qd.lets T).take (i + 1)).filter (fun x => decide ((if x = l then v else C x).length < n))
        rw [et, List.filter_append, e1, eg2]
        have e2 : v.length = m := v2.trans (Nat.min_eq_left hm2)
        by_cases c : m < n
        · rw [if_pos c, List.filter_cons_of_pos (by rw [if_pos rfl, e2]; exact decide_eq_true c)]
          rfl
        · rw [if_neg c, List.filter_cons_of_neg (by rw [if_pos rfl, e2, decide_eq_false c]; exact Bool.false_ne_true)]
          rfl
      · rw [et] at hx
        rcases List.mem_append.mp hx with h | h
        · have z : x ≠ l := fun z => hn (z ▸ h)
          show Qd.stepsOk L T x (if x = l then v.1 else C x) = true
          rw [if_neg z]
          exact hs x h
        · rw [List.mem_singleton.mp h]
          show Qd.stepsOk L T l (if l = l then v.1 else C l) = true
          rw [if_pos rfl]
          obtain ⟨v, v1, v2, v3⟩ := v
          unfold Qd.stepsOk
          rw [Bool.and_eq_true, Bool.and_eq_true]
          exact ⟨⟨decide_eq_true (by show v.length ≤ n; omega), List.all_eq_true.mpr fun x hx => decide_eq_true (v3 x hx)⟩, v1⟩
  · obtain ⟨C, g, rfl, eg, hg, hs⟩ := hI
    rw [List.length_map, List.take_length] at eg hs
    have ho : Qd.CourseOk L T C := ⟨hs, by
      have z := Qd.canLoseB_eq (T := T) (g := g) fun l hl => (List.mem_filter.mp (eg ▸ hl)).1
      rw [hg, eg] at z
      exact z.symm⟩
    refine es_retD (i := 3) (ls := (Qd.lets T).take ((Qd.lets T).map Qt.ltP).length) rfl fun v H p => ⟨⟨C, ho⟩, ?_⟩
    rw [List.length_map, List.take_length] at p
    exact p

end
end Qp
set_option Elab.async false
set_option linter.all false
set_option maxRecDepth 100000
set_option maxHeartbeats 4000000
namespace Qp
open PySem PySem.Spec PyProof.Rows L2 Qr Qt Qf RZ
section
variable {P : Program} {w : World} {K : PySem.W.Frag} {mg : Str → Option Value} {base : Heap}

/-- what `_law_begin` keeps: a new source, at a place that was free -/
def spBegin (K : PySem.W.Frag) : Sp := fun vs H Q _ => ∃ (a : Addr) (ns : List Int), vs = [.ref a] ∧ SqL K H a (ns.map V.int) ∧ ∀ s H', H s = none → Same H H' → SrcAt H' s → Q (.ref s) H'
theorem cut_ints (ns : List Int) (lo hi : Option Int) : ∃ ms : List Int, cutV (ns.map V.int) lo hi = ms.map V.int := by
  unfold cutV
  rw [← List.map_drop, ← List.map_take]
  exact ⟨_, rfl⟩
theorem ok_law_begin (Y : Kit K mg) : Dfn P w K mg base 1 "_law_begin" ["_law_script"] (spBegin K) := by
  obtain ⟨fd, F⟩ := (Y.def_ 33 (d := d_law_begin))
  have S := (⟨rfl, rfl, rfl, by decide +kernel, rfl, by decide +kernel, by decide +kernel⟩ : FnScope ["_law_script"] ["_law_script"] (defScope s_law_begin))
  refine ⟨_, fd, (Y.glo 33), F.kp, (F.bindsN fun _ _ _ _ _ _ us hl => match us, hl with | [_], _ => rfl), ?_⟩
  refine F.ok S (fun vs H Q E ⟨a, ns, e, _⟩ => by rw [e]; rfl) fun cdv A outer s H vs Q E hr ⟨a, ns, e, ha, k⟩ => ⟨_, (pss_one (ps_ret (pe_lst (pa_cons (pe_freeze (pe_callTy (kList K rfl rfl) rfl (Y.free 73) boot_list (pa_cons (pe_slice (kSl K rfl) (pv 0) po_none (po_some pe_int)) pa_nil))) (pa_cons pe_int (pa_cons pe_int (pa_cons pe_int pa_nil))))))), ?_⟩
  subst e
  obtain ⟨ms, em⟩ := cut_ints ns none (some 63)
  refine ⟨_, rfl, _, rfl, .inl ⟨a, _, rfl, ha, fun p hp => .inl ⟨p, _, rfl, .inl (.inl (.inl upd_same)), fun l hl => ⟨l, _, rfl, upd_same, trivial, fun od => ⟨by show 4 ≤ _; decide, fun s hs => ?_⟩⟩⟩⟩⟩
  rw [upd_upd] at hs ⊢
  rw [em] at hs ⊢
  have hpl : p ≠ l := fun z => by
    rw [← z, upd_same] at hl
    cases hl
  have hsl : l ≠ s := fun z => by
    rw [← z, upd_same] at hs
    cases hs
  have e1 : upd H p (.lst (ms.map V.int)) s = none := (upd_ne hsl.symm).symm.trans hs
  have hps : s ≠ p := fun z => by
    rw [z, upd_same] at e1
    cases e1
  refine k s _ ((upd_ne hps).symm.trans e1) ?_ ⟨l, od, ms, 0, 0, 7, upd_same, (upd_ne hsl).trans upd_same, by decide, by decide, by decide⟩
  rw [em] at hl
  exact fun b u q => same_new hs b u (same_new hl b u (same_new hp b u q))

end
end Qp
set_option Elab.async false
set_option linter.all false
set_option maxRecDepth 100000
set_option maxHeartbeats 4000000
namespace Qp
open PySem PySem.Spec PyProof.Rows L2 Qr Qt Qf RZ
section
variable {P : Program} {w : World} {K : PySem.W.Frag} {mg : Str → Option Value} {base : Heap}

def badAt (L : Qd.Ln) (T : Qd.Tk) (v : List Int) (b : Nat) : Bool := decide (v.getD b 0 < Qd.greatest L T b) || decide (Qd.lowAt L b ≤ v.getD b 0)
theorem greatest_nn (L : Qd.Ln) (T : Qd.Tk) (b : Nat) : 0 ≤ Qd.greatest L T b := by
  unfold Qd.greatest
  exact Qd.mx0_nn _
theorem acc_bad (L : Qd.Ln) (T : Qd.Tk) (v : List Int) (b : Nat) : accGap L T b (.int (v.getD b 0)) = !badAt L T v b := by
  have h := greatest_nn L T b
  unfold accGap badAt
  show ((decide (0 ≤ v.getD b 0) && decide (v.getD b 0 ≤ Qd.lowAt L b - 1)) && decide (Qd.greatest L T b ≤ v.getD b 0)) = _
  generalize v.getD b 0 = x
  generalize Qd.greatest L T b = g at h
  generalize Qd.lowAt L b = w
  by_cases h1 : x < g
  · rw [decide_eq_true h1, decide_eq_false (show ¬ g ≤ x by omega), Bool.and_false]
    rfl
  · rw [decide_eq_false h1, decide_eq_true (show g ≤ x by omega), decide_eq_true (show 0 ≤ x by omega), Bool.and_true, Bool.true_and, Bool.false_or]
    by_cases h2 : w ≤ x
    · rw [decide_eq_true h2, decide_eq_false (by omega)]
      rfl
    · rw [decide_eq_false h2, decide_eq_true (by omega)]
      rfl
theorem kept_bad {L : Qd.Ln} {T : Qd.Tk} {v : List Int} (hv : v.length = L.bx.length) : keptOk L T (v.map scI) = ((List.range L.bx.length).filter (badAt L T v)).isEmpty := by
  unfold keptOk
  rw [List.length_map, decide_eq_true hv, Bool.true_and, Bool.eq_iff_iff, List.all_eq_true, List.isEmpty_iff, List.filter_eq_nil_iff]
  refine ⟨fun h b hb => ?_, fun h p hp => ?_⟩
  · have hb : b < v.length := by
      rw [hv]
      exact List.mem_range.mp hb
    have e : (v.map scI)[b]? = some (scI (v.getD b 0)) := by
      rw [List.getElem?_map, List.getD_eq_getElem?_getD, List.getElem?_eq_getElem hb]
      rfl
    have z := h (scI (v.getD b 0), b) (List.mem_zipIdx_iff_getElem?.mpr e)
    have z : accGap L T b (.int (v.getD b 0)) = true := z
    rw [acc_bad] at z
    intro q
    rw [q] at z
    cases z
  · obtain ⟨s, b⟩ := p
    have e : (v.map scI)[b]? = some s := List.mem_zipIdx_iff_getElem?.mp hp
    rw [List.getElem?_map] at e
    have hb : b < v.length := by
      by_cases q : b < v.length
      · exact q
      · rw [List.getElem?_eq_none (by omega)] at e
        cases e
    rw [List.getElem?_eq_getElem hb] at e
    have e : scI v[b] = s := Option.some.inj e
    subst e
    have z := h b (List.mem_range.mpr (by omega))
    show accGap L T b (.int v[b]) = true
    have e2 : v[b] = v.getD b 0 := by
      rw [List.getD_eq_getElem?_getD, List.getElem?_eq_getElem hb]
      rfl
    rw [e2, acc_bad]
    cases q : badAt L T v b with
    | true => exact absurd q z
    | false => rfl
theorem brk_long {L : Qd.Ln} {T : Qd.Tk} {C : Qd.Lt → List Int} (hC : Qd.CourseOk L T C) {b : Nat} (hb : b < L.bx.length) : brk L T (.int (b : Int)) (.ok C hC) = decide (Qd.lowAt L b ≤ Qd.longest L b (Qd.come L T C b)) := by
  show ((decide ((0 : Int) ≤ b) && decide ((b : Int) ≤ (L.bx.length : Int) - 1)) && decide (Qd.lowAt L ((b : Int)).toNat ≤ Qd.longest L ((b : Int)).toNat (Qd.come L T C ((b : Int)).toNat))) = _
  rw [decide_eq_true (by omega), decide_eq_true (by omega), Int.toNat_natCast]
  rfl
theorem brk_out {L : Qd.Ln} {T : Qd.Tk} {v : V} (c : CV L T) (h : betw v 0 ((L.bx.length : Int) - 1) = false) : brk L T v c = false := by
  cases c with
  | ok C hC =>
    show (betw v 0 ((L.bx.length : Int) - 1) && _) = false
    rw [h]
    rfl
  | bad P t h h2 => rfl
  | nil => rfl
theorem kept_out {L : Qd.Ln} {T : Qd.Tk} {vs : List Sc} (h : vs.length ≠ L.bx.length) : keptOk L T vs = false := by
  unfold keptOk
  rw [decide_eq_false h]
  rfl
theorem kept_rep {L : Qd.Ln} {T : Qd.Tk} {s : Sc} {n : Nat} (hn : 0 < n) (h : ∀ lo hi, betw s.1 lo hi = false) : keptOk L T (List.replicate n s) = false := by
  unfold keptOk
  obtain ⟨m, rfl⟩ : ∃ m, n = m + 1 := ⟨n - 1, by omega⟩
  rw [List.replicate_succ, List.zipIdx_cons, List.all_cons]
  show (_ && ((betw s.1 0 _ && _) && _)) = false
  rw [h, Bool.false_and, Bool.false_and, Bool.and_false]
theorem eqv_nil {α : Type} (g : α → PyData) (l : List α) : PyData.eqv (.list (l.map g)) (.list []) = l.isEmpty := by
  cases l with
  | nil => rfl
  | cons a l => rfl
theorem sh_ints {α : Type} (f : α → Int) (l : List α) : Sh 1 (.list (l.map fun a => .int (f a))) := sh_lst fun d hd => by
  obtain ⟨a, _, rfl⟩ := List.mem_map.mp hd
  exact sh_int
theorem sh_nil : Sh 1 (.list []) := sh_lst fun d hd => by simp at hd
theorem ev_eqNil {α : Type} {f : α → Int} {l : List α} {so : Option Addr} {Γ : Qt.Ctx} {ta tb : TE} (ha : Ev so ta Γ (lstP (l.map fun a => intP (f a)))) (hb : Ev so tb Γ (lstP [])) : Ev so (tOp (rEqD K) ta tb) Γ (blP l.isEmpty) := by
  have z := ev_eqD (K := K) (d := .list (l.map fun a => .int (f a))) (e := .list []) ha hb (sh_ints f l).ok sh_nil.ok
  rw [eqv_nil] at z
  exact z
theorem ev_neNil {so : Option Addr} {Γ : Qt.Ctx} {ta tb : TE} (ha : Ev so ta Γ (lstP [])) (hb : Ev so tb Γ (lstP [])) : Ev so (tOp (rNeD K) ta tb) Γ (blP false) :=
  ev_neD (K := K) (d := .list []) (e := .list []) ha hb sh_nil.ok sh_nil.ok
theorem ty_exL {α : Type} {f : α → List Pd} : TyP (exP fun a => lstP (f a)) "list" := ⟨fun K v H ⟨a, h⟩ => (inferInstance : TyP (lstP (f a)) "list").ok K v H h⟩
theorem ev_tup3 {so : Option Addr} {Γ : Qt.Ctx} {P : Pd} {n : Nat} {ta tb : TE} (ha : Ev so ta Γ (tupP [P])) (hb : Ev so tb Γ (intP (n : Int))) (h1 : 1 ≤ n) (h2 : n ≤ 1000) : Ev so (tOp (rMulU K) ta tb) Γ (tupP (List.replicate n P)) := by
  have z := ev_rep1 (K := K) ha hb (by omega) (by omega)
  rwa [Int.toNat_natCast] at z
/-- repr(a) != repr(b) of bools that are one -/
theorem wB_can (b : Bool) : PyData.canLay0 (.str (wB b)) = true := by cases b <;> decide +kernel
theorem ev_neRepr {so : Option Addr} {Γ : Qt.Ctx} {a b : Bool} {ta tb : TE} (ha : Ev so ta Γ (blP a)) (hb : Ev so tb Γ (blP b)) (e : a = b) : Ev so (tOp (rNeD K) (tCB rReprB (tCons ta tNil)) (tCB rReprB (tCons tb tNil))) Γ (blP false) := by
  subst e
  have z := ev_neStr (K := K) (ev_repr ha) (ev_repr hb) (wB_can a) (wB_can a)
  have e2 : (wB a == wB a) = true := by simp
  rw [e2] at z
  exact z

end
end Qp
set_option Elab.async false
set_option linter.all false
set_option maxRecDepth 100000
set_option maxHeartbeats 4000000
namespace Qp
open PySem PySem.Spec PyProof.Rows L2 Qr Qt Qf RZ
section
variable {P : Program} {w : World} {K : PySem.W.Frag} {mg : Str → Option Value} {base : Heap}

/-- what the law keeps -/
def spLaw (K : PySem.W.Frag) : Sp := fun vs H Q _ => ∃ (a : Addr) (ns : List Int), vs = [.ref a] ∧ SqL K H a (ns.map V.int) ∧ ∀ H', Q (.bl true) H'
abbrev none14 : List (Option Pd) := [none, none, none, none, none, none, none, none, none, none, none, none, none, none]
abbrev ctxL (s : Addr) : Qt.Ctx := ⟨none :: some (srcP (some s)) :: none14, none, none⟩
theorem sta_law {s : Addr} {H : Hp} {σ : L2.St} (hs : SrcAt H s) (hl : σ.length = 16) (h1 : σ[1]? = some (some (.ref s))) : Sta (some s) (fun b => b = s) (fun _ => none) none' (ctxL s) σ H := by
  obtain ⟨q, od, ns, p, c, t, e1, r⟩ := id hs
  refine ⟨fun b u e => (nomatch e), fun b e => (Option.some.inj e).symm, fun b z => ?_, fun b e => Option.some.inj e ▸ hs, hl, fun i P e => ?_, fun i Ps e => (nomatch e), fun i ls f e => nomatch e⟩
  · rcases z with z | z
    · subst z
      exact ⟨_, e1, fun _ z => nomatch z⟩
    · exact z.elim
  · match i, e with
    | 0, e => cases e
    | 1, e =>
      obtain rfl : srcP (some s) = P := Option.some.inj (Option.some.inj e)
      exact ⟨_, h1, s, rfl, rfl⟩
    | n + 2, e =>
      have z : some P ∈ none14 := List.mem_of_getElem? (show none14[n]? = some (some P) from e)
      simp at z
theorem brkb_out {L : Qd.Ln} {T : Qd.Tk} (x : Sc) (c : CV L T) (h : betw x.1 0 ((L.bx.length : Int) - 1) = false) : (AV.brk x c).b = false := brk_out c h
theorem law_fn (Y : Kit K mg) {fd : FuncData} (F : FunD K d_law.name d_law.qual d_law.params d_law.body d_law.scope (d_law.dvs K) (d_law.kws K) (He.fAd K d_law.at_) fd) : FnOk P w K mg base CX0 11 (He.fAd K d_law.at_) fd ["_law_script"] (spLaw K) := by
  have S := (⟨rfl, rfl, rfl, by decide +kernel, rfl, by decide +kernel, by decide +kernel⟩ : FnScope ["_law_script", "_law_source", "_law_turn", "_law_line_here", "_law_talk_here", "_law_row_here", "_law_made", "_law_most", "_law_b", "_law_course_here", "_law_k", "_law_table_here", "_law_bad", "_law_told", "_law_odd", "_law_one"] ["_law_script"] (defScope s_law))
  refine F.ok S (fun vs H Q E ⟨a, ns, e, _⟩ => by rw [e]; rfl) fun cdv A outer sh H vs Q E hr ⟨a, ns, e, ha, k⟩ => ⟨_, PSs.nox (pss_cons (ps_set (i := 1) S.nd rfl (Or.inl rfl) (pe_dfn (ok_law_begin Y) hr (pa_cons (pv 0) pa_nil))) (pss_cons (ps_for PassesOwn.never rfl (pi_range1 rfl (Y.free 63) (pa_cons pe_int pa_nil)) (pg_name S.nd (i := 2) rfl (Or.inl rfl) (Or.inl rfl)) (pss_cons (ps_asg (pe_tup (pa_cons (pe_dfn (ok_law_line Y) hr (pa_cons (pv 1) (pa_cons pe_int (pa_cons pe_int pa_nil)))) (pa_cons (pe_dfn (ok_law_talk Y) hr (pa_cons (pv 1) (pa_cons pe_int (pa_cons pe_int pa_nil)))) pa_nil))) (kGt K rfl 2 rfl (pgs_cons (pg_name S.nd (i := 3) rfl (Or.inr rfl) (Or.inl rfl)) (pgs_cons (pg_name S.nd (i := 4) rfl (Or.inr rfl) (Or.inl rfl)) pgs_nil)))) (pss_cons (ps_asg (pe_tup (pa_cons (pe_dfn (ok_law_row Y) hr (pa_cons (pv 3) pa_nil)) (pa_cons (pe_dfn (ok_law_made_talk Y) hr (pa_cons (pv 4) pa_nil)) (pa_cons (pe_lst (pa_cons pe_int pa_nil)) pa_nil)))) (kGt K rfl 3 rfl (pgs_cons (pg_name S.nd (i := 5) rfl (Or.inr rfl) (Or.inl rfl)) (pgs_cons (pg_name S.nd (i := 6) rfl (Or.inr rfl) (Or.inl rfl)) (pgs_cons (pg_name S.nd (i := 7) rfl (Or.inr rfl) (Or.inl rfl)) pgs_nil))))) (pss_cons (ps_set (i := 7) S.nd rfl (Or.inr rfl) (pe_lc rfl S.nd (pi_range1 rfl (Y.free 63) (pa_cons (pe_lenO (ok_Row_len Y) hr (Y.free 62) (pa_cons (pv 5) pa_nil)) pa_nil)) (blkOk_by (N := ["_law_script", "_law_source", "_law_turn", "_law_line_here", "_law_talk_here", "_law_row_here", "_law_made", "_law_most", "_law_b", "_law_course_here", "_law_k", "_law_table_here", "_law_bad", "_law_told", "_law_odd", "_law_one"]) (sc := defScope s_law) (own := [("_law_b", 8)]) (by decide +kernel)) (fun _ _ _ _ _ => (pg_name S.nd (i := 8) rfl (Or.inl rfl) (Or.inr rfl))) (fun _ _ _ _ _ => pts_nil) (fun _ _ _ _ _ => (pe_dfn (ok_law_greatest Y) hr (pa_cons (pv 3) (pa_cons (pv 4) (pa_cons (pv 8) pa_nil))))))) (pss_cons (ps_set (i := 9) S.nd rfl (Or.inl rfl) (pe_dfn (ok_law_course Y) hr (pa_cons (pv 1) (pa_cons (pv 3) (pa_cons (pv 4) pa_nil))))) (pss_cons (ps_for PassesOwn.never rfl (pi_range1 rfl (Y.free 63) (pa_cons (pe_lenO (ok_Row_len Y) hr (Y.free 62) (pa_cons (pv 5) pa_nil)) pa_nil)) (pg_name S.nd (i := 8) rfl (Or.inl rfl) (Or.inl rfl)) (pss_one (ps_if (pt_cmpR (kNe K rfl hr.units) (pe_callB call_reprB rfl (Y.free 77) boot_repr (pa_cons (pe_dfn (ok_accepts Y) hr (pa_cons (pv 5) (pa_cons (pv 6) (pa_cons (pe_tup (pa_cons pe_str (pa_cons (pv 8) (pa_cons (pv 9) pa_nil)))) pa_nil)))) pa_nil)) (pe_callB call_reprB rfl (Y.free 77) boot_repr (pa_cons (pe_dfn (ok_law_long Y) hr (pa_cons (pv 3) (pa_cons (pv 4) (pa_cons (pv 9) (pa_cons (pv 8) pa_nil))))) pa_nil)) (nomark _)) (pss_one (ps_ret pe_bl)) pss_nil))) (pss_cons (ps_for PassesOwn.never rfl (pi_range1 rfl (Y.free 63) (pa_cons pe_int pa_nil)) (pg_name S.nd (i := 10) rfl (Or.inl rfl) (Or.inl rfl)) (pss_cons (ps_set (i := 11) S.nd rfl (Or.inr rfl) (pe_dfn (ok_law_table Y) hr (pa_cons (pv 1) (pa_cons (pv 3) (pa_cons (pv 7) pa_nil))))) (pss_cons (ps_setLc (i := 12) rfl S.nd rfl rfl (sw_true rfl rfl rfl (by decide +kernel)) (pi_range1 rfl (Y.free 63) (pa_cons (pe_lenO (ok_Row_len Y) hr (Y.free 62) (pa_cons (pv 5) pa_nil)) pa_nil)) (blkOk_by (N := ["_law_script", "_law_source", "_law_turn", "_law_line_here", "_law_talk_here", "_law_row_here", "_law_made", "_law_most", "_law_b", "_law_course_here", "_law_k", "_law_table_here", "_law_bad", "_law_told", "_law_odd", "_law_one"]) (sc := defScope s_law) (own := [("_law_b", 8)]) (by decide +kernel)) (fun _ _ _ _ _ => (pg_name S.nd (i := 8) rfl (Or.inl rfl) (Or.inr rfl))) (fun _ _ _ _ _ => (pts_one (PW.pt (pw_or (pt_cmpR op_lt (pe_ix (kIx K rfl (hu_of hr)) (pv 11) (pv 8) (fun _ _ => rfl)) (pe_ix (kIx K rfl (hu_of hr)) (pv 7) (pv 8) (fun _ _ => rfl)) (nomark _)) (pw_or1 (pt_cmpR op_ge (pe_ix (kIx K rfl (hu_of hr)) (pv 11) (pv 8) (fun _ _ => rfl)) (pe_ix (kIx K rfl (hu_of hr)) (pe_ix (kIx K rfl (hu_of hr)) (pe_ix (kIx K rfl (hu_of hr)) (pv 3) pe_int (fun _ _ => rfl)) (pv 8) (fun _ _ => rfl)) pe_int (fun _ _ => rfl)) (nomark _))))))) (fun _ _ _ _ _ => (pv 8))) (pss_one (ps_if (pt_cmpR (kNe K rfl hr.units) (pe_callB call_reprB rfl (Y.free 77) boot_repr (pa_cons (pe_dfn (ok_accepts Y) hr (pa_cons (pv 5) (pa_cons (pv 6) (pa_cons (pe_tup (pa_cons pe_str (pa_cons (pv 11) pa_nil))) pa_nil)))) pa_nil)) (pe_callB call_reprB rfl (Y.free 77) boot_repr (pa_cons (pe_cmpR (kEq K rfl hr.units) (pv 12) (pe_lst pa_nil) (nomark _)) pa_nil)) (nomark _)) (pss_one (ps_ret pe_bl)) pss_nil))))) (pss_cons (ps_asg (pe_tup (pa_cons (pe_dfn (ok_paper Y) hr (pa_cons (pv 5) (pa_cons (pv 6) pa_nil))) (pa_cons (pe_callTy (kTup K rfl) rfl (Y.free 74) boot_tuple (pa_cons (pv 7) pa_nil)) pa_nil))) (kGt K rfl 2 rfl (pgs_cons (pg_name S.nd (i := 13) rfl (Or.inl rfl) (Or.inl rfl)) (pgs_cons (pg_name S.nd (i := 11) rfl (Or.inr rfl) (Or.inl rfl)) pgs_nil)))) (pss_cons (ps_set (i := 14) S.nd rfl (Or.inl rfl) (pe_lst (pa_cons pe_non (pa_cons (pe_tup pa_nil) (pa_cons pe_str (pa_cons (pe_tup (pa_cons pe_str pa_nil)) (pa_cons (pe_lst (pa_cons pe_str (pa_cons (pv 11) pa_nil))) (pa_cons (pe_tup (pa_cons pe_str (pa_cons (pv 11) pa_nil))) (pa_cons (pe_tup (pa_cons pe_str (pa_cons (pe_callTy (kList K rfl rfl) rfl (Y.free 73) boot_list (pa_cons (pv 11) pa_nil)) pa_nil))) (pa_cons (pe_tup (pa_cons pe_str (pa_cons (pv 11) (pa_cons pe_int pa_nil)))) pa_nil)))))))))) (pss_cons (ps_set (i := 14) S.nd rfl (Or.inl rfl) (pe_op (kAdd K rfl) (pv 14) (pe_lst (pa_cons (pe_tup (pa_cons pe_str (pa_cons (pe_op (kAdd K rfl) (pv 11) (pe_tup (pa_cons pe_int pa_nil))) pa_nil))) (pa_cons (pe_tup (pa_cons pe_str (pa_cons (pe_op (kMul K rfl) (pe_tup (pa_cons pe_bl pa_nil)) (pe_callB (kLen K rfl) rfl (Y.free 62) boot_len (pa_cons (pv 11) pa_nil))) pa_nil))) (pa_cons (pe_tup (pa_cons pe_str (pa_cons (pe_op (kMul K rfl) (pe_tup (pa_cons pe_non pa_nil)) (pe_callB (kLen K rfl) rfl (Y.free 62) boot_len (pa_cons (pv 11) pa_nil))) pa_nil))) (pa_cons pe_int (pa_cons (pe_callTy (kList K rfl rfl) rfl (Y.free 73) boot_list (pa_cons (pv 13) pa_nil)) pa_nil)))))))) (pss_cons (ps_set (i := 14) S.nd rfl (Or.inl rfl) (pe_op (kAdd K rfl) (pv 14) (pe_lst (pa_cons (pe_tup (pa_cons pe_str (pa_cons pe_int pa_nil))) (pa_cons (pe_tup (pa_cons pe_str (pa_cons (pe_un un_neg pe_int) (pa_cons (pv 9) pa_nil)))) (pa_cons (pe_tup (pa_cons pe_str (pa_cons (pe_lenO (ok_Row_len Y) hr (Y.free 62) (pa_cons (pv 5) pa_nil)) (pa_cons (pv 9) pa_nil)))) (pa_cons (pe_tup (pa_cons pe_str (pa_cons pe_int (pa_cons (pe_callTy (kList K rfl rfl) rfl (Y.free 73) boot_list (pa_cons (pv 9) pa_nil)) pa_nil)))) pa_nil))))))) (pss_cons (ps_set (i := 14) S.nd rfl (Or.inl rfl) (pe_op (kAdd K rfl) (pv 14) (pe_lst (pa_cons (pe_tup (pa_cons pe_str (pa_cons pe_bl (pa_cons (pv 9) pa_nil)))) (pa_cons (pe_tup (pa_cons pe_str (pa_cons pe_int (pa_cons pe_dnewT pa_nil)))) (pa_cons (pe_tup (pa_cons pe_str (pa_cons pe_int (pa_cons pe_non pa_nil)))) (pa_cons (pe_tup (pa_cons pe_str (pa_cons pe_int (pa_cons (pv 9) (pa_cons pe_int pa_nil))))) (pa_cons pe_dnewT pa_nil)))))))) (pss_one (ps_if (pt_cmpR (kNe K rfl hr.units) (pe_lc rfl S.nd (kPL K rfl (pv 14)) (blkOk_by (N := ["_law_script", "_law_source", "_law_turn", "_law_line_here", "_law_talk_here", "_law_row_here", "_law_made", "_law_most", "_law_b", "_law_course_here", "_law_k", "_law_table_here", "_law_bad", "_law_told", "_law_odd", "_law_one"]) (sc := defScope s_law) (own := [("_law_one", 15)]) (by decide +kernel)) (fun _ _ _ _ _ => (pg_name S.nd (i := 15) rfl (Or.inl rfl) (Or.inr rfl))) (fun _ _ _ _ _ => (pts_one (pt_cmpR op_notBl (pe_dfn (ok_accepts Y) hr (pa_cons (pv 5) (pa_cons (pv 6) (pa_cons (pv 15) pa_nil)))) pe_bl (nomark _)))) (fun _ _ _ _ _ => (pv 15))) (pe_lst pa_nil) (nomark _)) (pss_one (ps_ret pe_bl)) pss_nil)))))))))))))) (pss_one (ps_ret pe_bl)))), ?_⟩
  subst e
  refine ⟨_, rfl, a, ns, rfl, ha, fun s H1 hs0 hm hs => ?_⟩
  show tSeq _ _ _ _ _
  refine (?_ : EvS (some s) _ (ctxL s) (fun _ => False) (blP true)) _ _ _ _ H1 _ (sta_law hs rfl rfl) (fun _ _ _ _ z => z.elim) fun v H' _ _ e => by
    obtain rfl : v = .bl true := e
    exact k H'
  refine es_forT (fun i G => G = ctxL s) (ei_rng (n := 5) ev_val rfl (by decide)) (ctxL s) (CLe.refl _) rfl (fun i P Γi eP hI => ?_) fun Γ' hI => ?_
  · subst hI
    refine ⟨_, _, egName rfl, ?_⟩
    clear eP
    refine es_then (es_set (evTup (ea_cons (ev_call (a := ()) (ea_cons (ev_var rfl) (ea_cons ev_val (ea_cons ev_val ea_nil)))) (ea_cons (ev_call (a := ()) (ea_cons (ev_var rfl) (ea_cons ev_val (ea_cons ev_val ea_nil)))) ea_nil)) rfl) (egTup2 rfl rfl) rfl) ?_
    refine es_exE (i := 3) (F := fun L : {L : Qd.Ln // Qd.LnOk L} => lineP L.1) rfl fun ⟨L, hL⟩ => ?_
    refine es_exE (i := 4) (F := fun T : TkA => tkL T.1) rfl fun ⟨T, hT⟩ => ?_
    have n1 := hL.n1
    have n4 := hL.n4
    let n := L.bx.length
    let ms : List Int := (List.range n).map fun b => Qd.greatest L T b
    have hms : ms.length = n := by rw [List.length_map, List.length_range]
    refine es_then (es_set (P := tupP [rowP K L, talkP K T, lstP [intP 0]]) (evTup (ea_cons (ev_call (a := (⟨L, hL⟩ : LnA)) (ea_cons (ev_var rfl) ea_nil)) (ea_cons (ev_call (a := (⟨T, hT⟩ : TkA)) (ea_cons (ev_var rfl) ea_nil)) (ea_cons (evLst (ea_cons ev_val ea_nil) rfl) ea_nil))) rfl) (egTup3 rfl rfl rfl) rfl) ?_
    refine es_then (es_set (P := lstP (ms.map fun n => intP n)) (Ev.eq (ev_lc0 (List.range n) (fun (b : Nat) => intP (b : Int)) (fun b => intP (Qd.greatest L T b)) (ei_rng (n := n) (ev_lenO (a := L) (n := n) (ev_var rfl) rfl rfl (by omega)) rfl (by omega)) rfl (sz (by rw [List.length_range]; omega)) (fun _ h => h) (fun _ _ => egName rfl) fun b hb => ev_call (a := (⟨(L, T, b), hL, hT, List.mem_range.mp hb⟩ : RTB)) (ea_cons (ev_var rfl) (ea_cons (ev_var rfl) (ea_cons (ev_var rfl) ea_nil)))) (by
      show lstP ((List.range n).map _) = lstP (((List.range n).map _).map _)
      rw [List.map_map]
      rfl)) (egName rfl) rfl) ?_
    refine es_then (es_set (ev_call (a := (⟨(L, T), hL, hT⟩ : LTA)) (ea_cons (ev_var rfl) (ea_cons (ev_var rfl) (ea_cons (ev_var rfl) ea_nil)))) (egName rfl) rfl) ?_
    refine es_exE (i := 9) (F := fun C : {C : Qd.Lt → List Int // Qd.CourseOk L T C} => crsP T C.1) rfl fun ⟨C, hC⟩ => ?_
    let Γc : Qt.Ctx := ⟨[none, some (srcP (some s)), none, some (lineP L), some (tkL T), some (rowP K L), some (talkP K T), some (lstP (ms.map fun n => intP n)), none, some (crsP T C), none, none, none, none, none, none], none, none⟩
    refine es_forT (fun i G => G = Γc) (ei_rng (n := n) (ev_lenO (a := L) (n := n) (ev_var rfl) rfl rfl (by omega)) rfl (by omega)) Γc (CLe.of ⟨Le.refl _, Le.refl _, Le.refl _, Le.refl _, Le.refl _, Le.refl _, Le.refl _, trivial⟩ rfl rfl) rfl (fun i P Γi eP hI => ?_) fun Γ' hI => ?_
    · subst hI
      obtain ⟨h1, rfl⟩ := map_at eP
      rw [List.length_range] at h1
      rw [List.getElem_range]
      refine ⟨_, _, egName rfl, ?_⟩
      exact es_if (c := false) (et_test (ev_neRepr (ev_call (a := (⟨L, T, hL, hT, AV.brk (scI i) (.ok C hC)⟩ : AA)) (ea_cons (ev_var rfl) (ea_cons (ev_var rfl) (ea_cons (evTup (ea_cons ev_val (ea_cons (ev_var rfl) (ea_cons (ev_var rfl) ea_nil))) rfl) ea_nil)))) (ev_call (a := (⟨L, T, C, hL, hT, hC, i, h1⟩ : COB)) (ea_cons (ev_var rfl) (ea_cons (ev_var rfl) (ea_cons (ev_var rfl) (ea_cons (ev_var rfl) ea_nil))))) (brk_long hC h1))) (never rfl) fun _ => es_next ⟨Γc, CLe.of ⟨Le.refl _, Le.refl _, Le.refl _, Le.refl _, Le.refl _, Le.refl _, Le.refl _, trivial⟩ rfl rfl, rfl⟩
    subst hI
    refine es_forT (fun i G => G = Γc) (ei_rng (n := 3) ev_val rfl (by decide)) Γc (CLe.refl _) rfl (fun i P Γi eP hI => ?_) fun Γ' hI => ?_
    · subst hI
      refine ⟨_, _, egName rfl, ?_⟩
      clear eP
      refine es_then (es_set (ev_call (a := (⟨L, ms, hL, hms⟩ : TB8)) (ea_cons (ev_var rfl) (ea_cons (ev_var rfl) (ea_cons (ev_var rfl) ea_nil)))) (egName rfl) rfl) ?_
      refine es_exE (i := 11) (F := fun v : {v : List Int // v.length = L.bx.length} => vP v.1) rfl fun ⟨v, hv⟩ => ?_
      have hv : v.length = n := hv
      refine es_then (es_set (ev_lc (List.range n) (fun (b : Nat) => intP (b : Int)) (badAt L T v) (fun (b : Nat) => intP (b : Int)) (ei_rng (n := n) (ev_lenO (a := L) (n := n) (ev_var rfl) rfl rfl (by omega)) rfl (by omega)) rfl (sz (by rw [List.length_range]; omega)) (fun _ h => h) (fun _ _ => egName rfl) (fun b hb => ?_) fun b _ _ => ev_var rfl) (egName rfl) rfl) ?_
      · have hb : b < n := List.mem_range.mp hb
        have tb : ∀ Γ : Qt.Ctx, Γ.sl[11]? = some (some (vP v)) → Γ.sl[8]? = some (some (intP (b : Int))) → Ev (some s) (tOp (rIxU K) (tVar 11) (tVar 8)) Γ (intP (v.getD b 0)) := fun Γ e1 e2 => ev_ixT (n := b) (Ps := v.map fun n => intP n) (ev_var e1) (ev_var e2) rfl (by
          rw [List.getElem?_map, List.getD_eq_getElem?_getD, List.getElem?_eq_getElem (show b < v.length by omega)]
          rfl)
        have lw : Qd.lowAt L b = L.bx[b].low := lowAt_of hb
        unfold badAt
        rw [lw]
        exact et_or (et_test (ev_rI0 (tb _ rfl rfl) (ev_ixL (n := b) (P := intP (Qd.greatest L T b)) (Ps := ms.map fun n => intP n) (ev_var rfl) (ev_var rfl) rfl (by
          rw [List.getElem?_map, List.getElem?_map, List.getElem?_range hb]
          rfl)))) fun _ => et_test (ev_rI0 (tb _ rfl rfl) (ev_ixL (n := 0) (P := intP L.bx[b].low) (Ps := [intP L.bx[b].low, intP L.bx[b].high, intP L.bx[b].rest, strP (bw L.bx[b].both)]) (lbox (L := L) (b := b) (ev_var rfl) (ev_var rfl) hb) ev_val rfl rfl))
      · refine es_if (c := false) (et_test (ev_neRepr (ev_call (a := (⟨L, T, hL, hT, AV.kept (v.map scI) (by rw [List.length_map]; omega)⟩ : AA)) (ea_cons (ev_var rfl) (ea_cons (ev_var rfl) (ea_cons (Ev.eq (evTup (ea_cons ev_val (ea_cons (ev_var rfl) ea_nil)) rfl) ?_) ea_nil)))) (ev_eqNil (f := fun b : Nat => (b : Int)) (l := (List.range n).filter (badAt L T v)) (ev_var rfl) (evLst ea_nil rfl)) (kept_bad hv))) (never rfl) fun _ => es_next ⟨Γc, CLe.of ⟨Le.refl _, Le.refl _, Le.refl _, Le.refl _, Le.refl _, Le.refl _, Le.refl _, trivial⟩ rfl rfl, rfl⟩
        show _ = tupP [strP "kept", tupP ((v.map scI).map fun v => valP v.1)]
        rw [List.map_map]
        rfl
    subst hI
    refine es_then (es_set (evTup (ea_cons (ev_call (a := (⟨(L, T), hL, hT⟩ : {x : Qd.Ln × Qd.Tk // Qd.LnOk x.1 ∧ Qd.TkOk x.2})) (ea_cons (ev_var rfl) (ea_cons (ev_var rfl) ea_nil))) (ea_cons (ev_tupL (ev_var rfl)) ea_nil)) rfl) (egTup2 rfl rfl) rfl) ?_
    refine es_exE (i := 13) (F := tupP) rfl fun told => ?_
    let Od : Type := {a : AV L T // a.b = false}
    let f : Od → Pd := fun a => a.1.pd
    have hn : (ms.map fun n => intP n).length = n := by rw [List.length_map]; exact hms
    have em : ∀ vs : List Int, (vs.map scI).map (fun v : Sc => valP v.1) = vs.map fun n => intP n := fun vs => by
      rw [List.map_map]
      rfl
    have er : ∀ (x : Sc) (m : Nat), (List.replicate m x).map (fun v : Sc => valP v.1) = List.replicate m (valP x.1) := fun x m => List.map_replicate
    let A1 : List Od := [⟨.bad nonP "NoneType" inferInstance inferInstance, rfl⟩, ⟨.short [] (by decide), rfl⟩, ⟨.bad (strP "kept") "str" inferInstance inferInstance, rfl⟩, ⟨.short [strP "kept"] (by decide), rfl⟩, ⟨.bad (lstP [strP "kept", vP ms]) "list" inferInstance inferInstance, rfl⟩, ⟨.word "Kept" (vP ms) [] (by decide +kernel) (by decide +kernel) (by decide +kernel), rfl⟩, ⟨.keptBad (lstP (ms.map fun n => intP n)) "list" inferInstance inferInstance, rfl⟩, ⟨.keptLen (vP ms) [intP 0] (by decide), rfl⟩]
    refine es_then (es_set (P := lstP (A1.map f)) (evLst (ea_cons ev_val (ea_cons (evTup ea_nil rfl) (ea_cons ev_val (ea_cons (evTup (ea_cons ev_val ea_nil) rfl) (ea_cons (evLst (ea_cons ev_val (ea_cons (ev_var rfl) ea_nil)) rfl) (ea_cons (evTup (ea_cons ev_val (ea_cons (ev_var rfl) ea_nil)) rfl) (ea_cons (evTup (ea_cons ev_val (ea_cons (ev_listT (ev_var rfl)) ea_nil)) rfl) (ea_cons (evTup (ea_cons ev_val (ea_cons (ev_var rfl) (ea_cons ev_val ea_nil))) rfl) ea_nil)))))))) rfl) (egName rfl) rfl) ?_
    let A2 : List Od := [⟨.kept ((ms ++ [0]).map scI) (by rw [List.length_map, List.length_append, hms]; show n + 1 ≤ 900; omega), kept_out (by rw [List.length_map, List.length_append, hms]; show n + 1 ≠ n; omega)⟩, ⟨.kept (List.replicate (ms.map fun n => intP n).length ⟨.bl true, rfl⟩) (by rw [List.length_replicate, hn]; omega), kept_rep (by rw [hn]; omega) fun _ _ => rfl⟩, ⟨.kept (List.replicate (ms.map fun n => intP n).length ⟨.non, rfl⟩) (by rw [List.length_replicate, hn]; omega), kept_rep (by rw [hn]; omega) fun _ _ => rfl⟩, ⟨.bad (intP 3) "int" inferInstance inferInstance, rfl⟩, ⟨.bad (lstP told) "list" inferInstance inferInstance, rfl⟩]
    have k1 : tupP [strP "kept", tupP ((ms.map fun n => intP n) ++ [intP 0])] = (AV.kept (L := L) (T := T) ((ms ++ [0]).map scI) (by rw [List.length_map, List.length_append, hms]; show n + 1 ≤ 900; omega)).pd := by
      show _ = tupP [strP "kept", tupP (((ms ++ [0]).map scI).map fun v : Sc => valP v.1)]
      rw [em, List.map_append]
      rfl
    have k2 : ∀ (x : Sc) (m : Nat) (h : (List.replicate m x).length ≤ 900), tupP [strP "kept", tupP (List.replicate m (valP x.1))] = (AV.kept (L := L) (T := T) (List.replicate m x) h).pd := fun x m h => by
      show _ = tupP [strP "kept", tupP ((List.replicate m x).map fun v : Sc => valP v.1)]
      rw [er]
    refine es_then (es_set (P := lstP (A1.map f ++ A2.map f)) (ev_addL (ev_var rfl) (evLst (Ps := A2.map f) (ea_cons (Ev.eq (evTup (ea_cons ev_val (ea_cons (ev_addT (Ps := ms.map fun n => intP n) (Qs := [intP 0]) (ev_var rfl) (evTup (ea_cons ev_val ea_nil) rfl) (Nat.le_of_lt (sz (by rw [hn]; show n + 1 ≤ 1000; omega)))) ea_nil)) rfl) k1) (ea_cons (Ev.eq (evTup (ea_cons ev_val (ea_cons (ev_tup3 (P := valP (.bl true)) (evTup (ea_cons ev_val ea_nil) rfl) (ev_lenT (Ps := ms.map fun n => intP n) (ev_var rfl)) (by rw [hn]; omega) (by rw [hn]; omega)) ea_nil)) rfl) (k2 ⟨.bl true, rfl⟩ _ _)) (ea_cons (Ev.eq (evTup (ea_cons ev_val (ea_cons (ev_tup3 (P := valP .non) (evTup (ea_cons ev_val ea_nil) rfl) (ev_lenT (Ps := ms.map fun n => intP n) (ev_var rfl)) (by rw [hn]; omega) (by rw [hn]; omega)) ea_nil)) rfl) (k2 ⟨.non, rfl⟩ _ _)) (ea_cons ev_val (ea_cons (ev_listT (ev_var rfl)) ea_nil))))) rfl) (Nat.le_of_lt (sz (by show 13 ≤ 1000; decide)))) (egName rfl) rfl) ?_
    let A3 : List Od := [⟨.brkLen (intP 0) [] (by decide), rfl⟩, ⟨.brk (scI (-1)) (.ok C hC), brkb_out _ _ rfl⟩, ⟨.brk (scI (n : Int)) (.ok C hC), brkb_out _ _ (by
      show (decide ((0 : Int) ≤ n) && decide ((n : Int) ≤ (n : Int) - 1)) = false
      rw [decide_eq_false (show ¬ (n : Int) ≤ (n : Int) - 1 by omega), Bool.and_false])⟩, ⟨.brk (scI 0) (.bad (exP lstP) "list" (ty_exL (f := fun x => x)) inferInstance), rfl⟩]
    refine es_then (es_set (P := lstP ((A1.map f ++ A2.map f) ++ A3.map f)) (ev_addL (ev_var rfl) (evLst (Ps := A3.map f) (ea_cons (evTup (ea_cons ev_val (ea_cons ev_val ea_nil)) rfl) (ea_cons (evTup (ea_cons ev_val (ea_cons (ev_neg ev_val) (ea_cons (ev_var rfl) ea_nil))) rfl) (ea_cons (evTup (ea_cons ev_val (ea_cons (ev_lenO (a := L) (n := n) (ev_var rfl) rfl rfl (by omega)) (ea_cons (ev_var rfl) ea_nil))) rfl) (ea_cons (evTup (ea_cons ev_val (ea_cons ev_val (ea_cons (ev_listD (ls := Qd.lets T) (f := fun l => vP (C l)) (ev_var rfl)) ea_nil))) rfl) ea_nil)))) rfl) (Nat.le_of_lt (sz (by show 17 ≤ 1000; decide)))) (egName rfl) rfl) ?_
    let A4 : List Od := [⟨.brk ⟨.bl true, rfl⟩ (.ok C hC), brkb_out _ _ rfl⟩, ⟨.brk (scI 0) .nil, rfl⟩, ⟨.brk (scI 0) (.bad nonP "NoneType" inferInstance inferInstance), rfl⟩, ⟨.brkLen (intP 0) [crsP T C, intP 0] (by show 2 ≠ 1; decide), rfl⟩, ⟨.bad nilD "dict" inferInstance inferInstance, rfl⟩]
    refine es_then (es_set (P := lstP (((A1.map f ++ A2.map f) ++ A3.map f) ++ A4.map f)) (ev_addL (ev_var rfl) (evLst (Ps := A4.map f) (ea_cons (evTup (ea_cons ev_val (ea_cons ev_val (ea_cons (ev_var rfl) ea_nil))) rfl) (ea_cons (evTup (ea_cons ev_val (ea_cons ev_val (ea_cons ev_nilD ea_nil))) rfl) (ea_cons (evTup (ea_cons ev_val (ea_cons ev_val (ea_cons ev_val ea_nil))) rfl) (ea_cons (evTup (ea_cons ev_val (ea_cons ev_val (ea_cons (ev_var rfl) (ea_cons ev_val ea_nil)))) rfl) (ea_cons ev_nilD ea_nil))))) rfl) (Nat.le_of_lt (sz (by show 22 ≤ 1000; decide)))) (egName rfl) rfl) ?_
    refine es_if (c := false) (et_test (ev_neNil (Ev.eq (ev_lc (((A1 ++ A2) ++ A3) ++ A4) f (fun _ => false) f (ei_list (ev_var rfl)) (by rw [List.map_append, List.map_append, List.map_append]) (sz (by show 22 ≤ 1000; decide)) (fun _ h => h) (fun _ _ => egName rfl) (fun a _ => EvT.eq (et_test (ev_notB (ev_call (a := (⟨L, T, hL, hT, a.1⟩ : AA)) (ea_cons (ev_var rfl) (ea_cons (ev_var rfl) (ea_cons (ev_var rfl) ea_nil)))) ev_val)) ?_) fun a _ z => nomatch z) ?_) (evLst ea_nil rfl))) (never rfl) fun _ => es_next ⟨ctxL s, CLe.of ⟨Le.refl _, trivial⟩ rfl rfl, rfl⟩
    · rw [a.2]
      rfl
    · rfl
  · subst hI
    exact es_ret ev_val (Le.refl _)

end
end Qp
set_option Elab.async false
set_option linter.all false
set_option maxRecDepth 100000
set_option maxHeartbeats 0
namespace Qh
open PySem PySem.Spec PyProof.Rows L2 Qf
abbrev R : PySem.W.OpenRow := PySem.W.OpenLaw.row PySem.Challenge.rw_quietdoors_k22_whole_papers_judged
abbrev hk : PySem.W.Hook := Qf.hook 5
def ob (s : PySem.W.SharedT) : Qf.Al := Qf.obsAt 5 (HandSHeadRun.getT s)
theorem ob_eq (s : PySem.W.SharedT) : ob s = hk.obs s.abs := Qf.obsAt_eq (HandSHeadRun.getT_eq s)
def names : List PySem.Str := (["_wall", "__name__", "QuietError", "InvalidNumber", "InvalidName", "InvalidBox", "InvalidRow", "InvalidTalk", "InvalidLetter", "InvalidCourse", "MOST_TIME", "PARTS", "is_integer", "is_between", "is_count", "is_part_value", "Box", "window_of", "links_along", "place_along", "are_steps", "can_be_lost", "is_course", "check_course", "seen_at", "is_sight", "quiet_before", "course_gap", "windows", "lost_in"] : List PySem.Str) ++ (["lost_between", "pairs_of", "gap", "ends", "times_along", "worst_course", "gaps", "paper", "accepts_broken", "accepts_gap", "accepts", "MOST_BOXES", "MOST_LINK", "is_link", "are_boxes", "are_links", "summed", "Row", "MOST_TIMES", "MOST_LOSSES", "are_times", "merged", "Talk", "_law_begin", "_law_draw", "_law_pick", "_law_case", "_law_box", "_law_line", "_law_row"] : List PySem.Str) ++ (["_law_times", "_law_talk", "_law_made_talk", "_law_letters", "_law_sent", "_law_span", "_law_is_sight", "_law_can_lose", "_law_gone", "_law_gaps", "_law_greatest", "_law_way_of", "_law_course", "_law_come", "_law_quiet", "_law_long", "_law_table"] : List PySem.Str)
theorem run (w : World) : HandSHeadRun.RunEq R (PySem.W.view R.prog [84]) hk ob 20000 names w := by
  intro os
  kernel_rfl
end Qh
set_option Elab.async false
set_option linter.all false
set_option maxRecDepth 100000
set_option maxHeartbeats 4000000
namespace Qp
open PySem PySem.Spec PyProof.Rows L2 Qr Qt Qf RZ
section
variable {P : Program} {w : World} {K : PySem.W.Frag} {mg : Str → Option Value} {base : Heap}

theorem facts {h : Heap} {f : Addr} (X : K.In h) (G : h.Ns mainGlobals mg) (hfa : mg ("law" : Str) = some (.ref f)) (c : Says K) :
    ∃ fd : FuncData, (∀ (s : Shared) (v : Value), BindsTo s fd ⟨[v], []⟩ [("_law_script", v)]) ∧ ∀ base : Heap, K.In base → base.Ns mainGlobals mg → FnOk P w K mg base CX0 11 f fd ["_law_script"] (spLaw K) := by
  have Y : Kit K mg := ⟨c, h, X, G⟩
  obtain ⟨fd, F⟩ := (Y.def_ 57 (d := d_law))
  have e := hfa.symm.trans (Y.glo 57)
  have e : f = He.fAd K d_law.at_ := by
    injection e with e
    injection e with e
  subst e
  have b := FunD.bindsA (ps := ["_law_script"]) F fun _ _ _ _ _ _ us hl => match us, hl with | [_], _ => rfl
  exact ⟨fd, fun s v => b s [v] rfl, fun base _ _ => law_fn Y F⟩
end
end Qp
open PySem PySem.W PySem.Calls PyProof.Rows
theorem PySem.Challenge.cw_quietdoors_k22_whole_papers_judged_holds : PySem.Challenge.rw_quietdoors_k22_whole_papers_judged.Holds := by
  w_on; o_law
  refine HandSHeadRun.head_any (r := Qh.R) (q := view Qh.R.prog [84]) (H := Qh.hk) (ob := Qh.ob) (M := 20000) (loose := Qh.names) (d := HandSHeadRun.topDef Qh.R.prog 84) (kwd := []) Qh.ob_eq
    (by kernel_rfl) (fun s => by kernel_rfl) Qh.run (by kernel_rfl) (by kernel_rfl) (by kernel_rfl) (by rfl) (by first | assumption | decide +kernel) (by decide +kernel) ⟨rfl, rfl, rfl, rfl, rfl, by decide +kernel⟩ ?hw ?hc
  case hw => w_witness2
  case hc =>
    refine L2.walk_ofE (l := PySem.Challenge.rw_quietdoors_k22_whole_papers_judged) (n := 63) (k := 11) (x := "_law_script") (CX := L2.CX0) rfl (by decide) (by kernel_rfl) ⟨rfl, by decide, by decide⟩ ?F (fun _ _ _ _ z => z)
    intro w mg fa h Y G hmg0
    obtain ⟨K, KX, c⟩ := Y
    have hmg : mg ("law" : PySem.Str) = some (.ref fa) := by
      have e : (HandSHeadRun.topDef Qh.R.prog 84).name = ("law" : PySem.Str) := by kernel_rfl
      rw [← e]
      exact hmg0
    obtain ⟨fd, hb, hF⟩ := Qp.facts (P := (PySem.Challenge.rw_quietdoors_k22_whole_papers_judged).prog) (w := w) KX G hmg c
    exact ⟨K, fd, Qp.spLaw K, KX, hb, fun H a ns hl _ hS => ⟨a, ns, rfl, hS, fun _ => rfl⟩, hF⟩
